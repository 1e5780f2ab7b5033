import PyProof.Rows.All
import Wide.All
import OpenK.AllK
import Wide.FinOn
import PySem.Challenge.RW_alongall_k00_weaves_and_letters_judged
import HandS.ForMost
import HandS.Zip
import HandS.TryOnly
import HandS.ExcOwn
import HandS.WordsExc
import HandS.Lambda
import HandS.TupAny
import HandS.TupLe
import HandS.Flow
import HandS.IsInst
import KE.SortData
import PyProof.NeData
import PyProof.P3In
import HandS.Text
import HandS.Wide
import HandS.Style
import KE.GoesEnum
import HandS.RaiseMore
import HandS.WordsDict
import HandS.ExcIs
import HandS.ExcValue
import HandS.EndTab
import HandS.Strs
import HandS.SetFor
import HandS.SetTxt0
import HandS.NestedK
set_option Elab.async false
set_option linter.all false
set_option maxRecDepth 100000
set_option maxHeartbeats 4000000
/-! TBase: data as trees, an abstract store, how both stand in HandS's abstract heap. -/
namespace Tl
open PySem L2

inductive D where
  | non
  | bl (b : Bool)
  | int (i : Int)
  | str (x : Str)
  | tup (xs : List D)
  | lst (xs : List D)
  | loc (n : Nat)
  | scr (xs : List D)

mutual
def D.eqb : D → D → Bool
  | .non, .non => true
  | .bl a, .bl b => a == b
  | .int a, .int b => a == b
  | .str a, .str b => decide (a = b)
  | .tup a, .tup b => D.eqbs a b
  | .lst a, .lst b => D.eqbs a b
  | .loc a, .loc b => a == b
  | .scr a, .scr b => D.eqbs a b
  | _, _ => false
def D.eqbs : List D → List D → Bool
  | [], [] => true
  | a :: x, b :: y => D.eqb a b && D.eqbs x y
  | _, _ => false
end
mutual
theorem D.eqb_iff : ∀ a b : D, D.eqb a b = true ↔ a = b
  | .non, b => by cases b <;> simp [D.eqb]
  | .bl a, b => by cases b <;> simp [D.eqb]
  | .int a, b => by cases b <;> simp [D.eqb]
  | .str a, b => by cases b <;> simp [D.eqb]
  | .tup a, b => by
    cases b <;> simp [D.eqb]
    exact D.eqbs_iff a _
  | .lst a, b => by
    cases b <;> simp [D.eqb]
    exact D.eqbs_iff a _
  | .loc a, b => by cases b <;> simp [D.eqb]
  | .scr a, b => by
    cases b <;> simp [D.eqb]
    exact D.eqbs_iff a _
theorem D.eqbs_iff : ∀ a b : List D, D.eqbs a b = true ↔ a = b
  | [], b => by cases b <;> simp [D.eqbs]
  | a :: x, b => by
    cases b with
    | nil => simp [D.eqbs]
    | cons c y =>
      simp only [D.eqbs, Bool.and_eq_true, List.cons.injEq]
      rw [D.eqb_iff a c, D.eqbs_iff x y]
end
instance : DecidableEq D := fun a b => decidable_of_iff _ (D.eqb_iff a b)

inductive O where
  | lst (xs : List D)
  | dic (kvs : List (Key × D))

/-- an outcome: a value and the store, an exception of an own class, or nothing is told -/
inductive RR (α : Type) where
  | ok (a : α) (st : List O)
  | exc (c : Str) (st : List O)
  | err

def RR.bind {α β : Type} : RR α → (α → List O → RR β) → RR β
  | .ok a st, k => k a st
  | .exc c st, _ => .exc c st
  | .err, _ => .err

/-! ### how data stand in the heap: Z what never changes, φ where the store's objects stand -/
mutual
def Rep (K : PySem.W.Frag) (Z : Hp) (φ : List Addr) : D → V → Prop
  | .non, v => v = .non
  | .bl b, v => v = .bl b
  | .int i, v => v = .int i
  | .str x, v => v = .str x
  | .tup ds, v => ∃ a xs, v = .ref a ∧ SqT K Z a xs ∧ Reps K Z φ ds xs
  | .lst ds, v => ∃ a xs, v = .ref a ∧ Rd Z a (.lst xs) ∧ Reps K Z φ ds xs
  | .loc n, v => ∃ a, φ[n]? = some a ∧ v = .ref a
  | .scr ds, v => ∃ a xs, v = .ref a ∧ SqL K Z a xs ∧ Reps K Z φ ds xs
def Reps (K : PySem.W.Frag) (Z : Hp) (φ : List Addr) : List D → List V → Prop
  | [], vs => vs = []
  | d :: ds, vs => ∃ v r, vs = v :: r ∧ Rep K Z φ d v ∧ Reps K Z φ ds r
end

/-- nothing stands there, but a table of code objects, perhaps -/
def Fr (H : Hp) (a : Addr) : Prop := ∀ o, H a = some o → ∃ ps, o = .tbl ps
theorem Fr.of {H : Hp} {a : Addr} (h : H a = none) : Fr H a := fun o e => by
  rw [h] at e
  cases e
theorem Fr.no {H : Hp} {a : Addr} {o : HO} (h : Fr H a) (e : H a = some o) (n : ∀ ps, o ≠ .tbl ps) : False := by
  obtain ⟨ps, z⟩ := h o e
  exact n ps z
structure Ext0 (Z : Hp) (φ : List Addr) (Z' : Hp) (φ' : List Addr) : Prop where
  z : ∀ a o, Z a = some o → Z' a = some o
  p : ∃ r, φ' = φ ++ r
/-- a later state: what is not the store's stays, the store's new objects were not there -/
structure Ext (Z : Hp) (φ : List Addr) (H : Hp) (Z' : Hp) (φ' : List Addr) (H' : Hp) : Prop where
  z : ∀ a o, Z a = some o → Z' a = some o
  p : ∃ r, φ' = φ ++ r ∧ ∀ a ∈ r, Fr H a
  k : ∀ a o, H a = some o → a ∉ φ → (∀ ps, o ≠ .tbl ps) → H' a = some o
  d : ∀ a, Fr H' a → Fr H a
  f : ∀ a o, Z' a = some o → Z a = some o ∨ Fr H a

section
variable {K : PySem.W.Frag} {Z Z' Z'' : Hp} {φ φ' φ'' : List Addr}
theorem Ext0.refl : Ext0 Z φ Z φ := ⟨fun _ _ h => h, [], by simp⟩
theorem Ext.e0 {H H' : Hp} (a : Ext Z φ H Z' φ' H') : Ext0 Z φ Z' φ' := ⟨a.z, let ⟨r, h, _⟩ := a.p; ⟨r, h⟩⟩
theorem Ext.refl {H : Hp} : Ext Z φ H Z φ H := ⟨fun _ _ h => h, ⟨[], by simp⟩, fun _ _ h _ _ => h, fun _ h => h, fun _ _ h => .inl h⟩
theorem Ext.trans {H H' H'' : Hp} (a : Ext Z φ H Z' φ' H') (b : Ext Z' φ' H' Z'' φ'' H'') : Ext Z φ H Z'' φ'' H'' := by
  obtain ⟨r, hr, fr⟩ := a.p
  obtain ⟨q, hq, fq⟩ := b.p
  refine ⟨fun x o h => b.z x o (a.z x o h), ⟨r ++ q, by rw [hq, hr, List.append_assoc], fun x hx => ?_⟩, fun x o h hn ht => ?_, fun x h => a.d x (b.d x h), fun x o h => ?_⟩
  · rcases List.mem_append.mp hx with z | z
    · exact fr x z
    · exact a.d x (fq x z)
  · refine b.k x o (a.k x o h hn ht) (fun z => ?_) ht
    rw [hr] at z
    rcases List.mem_append.mp z with z | z
    · exact hn z
    · exact (fr x z).no h ht
  · rcases b.f x o h with z | z
    · exact a.f x o z
    · exact .inr (a.d x z)
theorem Ext.same {H H' : Hp} (e : ∀ a o, H a = some o → H' a = some o) : Ext Z φ H Z φ H' := by
  refine ⟨fun _ _ h => h, ⟨[], by simp⟩, fun a o h _ _ => e a o h, fun a h o q => ?_, fun _ _ h => .inl h⟩
  exact h o (e a o q)
theorem Ext0.get (e : Ext0 Z φ Z' φ') {n : Nat} {a : Addr} (h : φ[n]? = some a) : φ'[n]? = some a := by
  obtain ⟨r, rfl⟩ := e.p
  obtain ⟨hn, rfl⟩ := List.getElem?_eq_some_iff.mp h
  rw [List.getElem?_append_left hn, List.getElem?_eq_getElem hn]
theorem rd_mono {H H' : Hp} (e : ∀ a o, H a = some o → H' a = some o) {a : Addr} {u : HO} (h : Rd H a u) : Rd H' a u := by
  rcases h with h | ⟨o, h⟩
  · exact Or.inl (e _ _ h)
  · exact Or.inr ⟨o, e _ _ h⟩
theorem sqL_mono {H H' : Hp} (e : ∀ a o, H a = some o → H' a = some o) {a : Addr} {xs : List V} (h : SqL K H a xs) : SqL K H' a xs := by
  rcases h with h | h
  · exact Or.inl (rd_mono e h)
  · exact Or.inr h
theorem sqT_mono {H H' : Hp} (e : ∀ a o, H a = some o → H' a = some o) {a : Addr} {xs : List V} (h : SqT K H a xs) : SqT K H' a xs := by
  rcases h with h | h
  · exact Or.inl (rd_mono e h)
  · exact Or.inr h
mutual
theorem Rep.mono (e : Ext0 Z φ Z' φ') : ∀ (d : D) (v : V), Rep K Z φ d v → Rep K Z' φ' d v
  | .non, _, h => h
  | .bl _, _, h => h
  | .int _, _, h => h
  | .str _, _, h => h
  | .tup ds, v, h => by
    obtain ⟨a, xs, h1, h2, h3⟩ := h
    exact ⟨a, xs, h1, sqT_mono e.z h2, Reps.mono e ds xs h3⟩
  | .lst ds, v, h => by
    obtain ⟨a, xs, h1, h2, h3⟩ := h
    exact ⟨a, xs, h1, rd_mono e.z h2, Reps.mono e ds xs h3⟩
  | .loc n, v, h => by
    obtain ⟨a, h1, h2⟩ := h
    exact ⟨a, e.get h1, h2⟩
  | .scr ds, v, h => by
    obtain ⟨a, xs, h1, h2, h3⟩ := h
    exact ⟨a, xs, h1, sqL_mono e.z h2, Reps.mono e ds xs h3⟩
theorem Reps.mono (e : Ext0 Z φ Z' φ') : ∀ (ds : List D) (vs : List V), Reps K Z φ ds vs → Reps K Z' φ' ds vs
  | [], _, h => h
  | d :: ds, vs, h => by
    obtain ⟨v, r, h1, h2, h3⟩ := h
    exact ⟨v, r, h1, Rep.mono e d v h2, Reps.mono e ds r h3⟩
end
theorem Reps.nil : Reps K Z φ [] [] := rfl
theorem Reps.cons {d : D} {ds : List D} {v : V} {vs : List V} (h : Rep K Z φ d v) (t : Reps K Z φ ds vs) : Reps K Z φ (d :: ds) (v :: vs) := ⟨v, vs, rfl, h, t⟩
theorem Reps.len : ∀ {ds : List D} {vs : List V}, Reps K Z φ ds vs → ds.length = vs.length
  | [], _, h => by
    have h' : _ = [] := h
    rw [h']
    rfl
  | d :: ds, _, h => by
    obtain ⟨v, r, rfl, _, h3⟩ := h
    simp only [List.length_cons]
    rw [Reps.len h3]
theorem Reps.get : ∀ {ds : List D} {vs : List V} {i : Nat} {d : D}, Reps K Z φ ds vs → ds[i]? = some d → ∃ v, vs[i]? = some v ∧ Rep K Z φ d v
  | [], _, i, d, h, e => by simp at e
  | x :: ds, _, 0, d, h, e => by
    obtain ⟨v, r, rfl, h2, h3⟩ := h
    simp at e
    subst e
    exact ⟨v, by simp, h2⟩
  | x :: ds, _, i + 1, d, h, e => by
    obtain ⟨v, r, rfl, h2, h3⟩ := h
    obtain ⟨w, q1, q2⟩ := Reps.get (i := i) h3 (by simpa using e)
    exact ⟨w, by simpa using q1, q2⟩
theorem Reps.append : ∀ {ds es : List D} {vs ws : List V}, Reps K Z φ ds vs → Reps K Z φ es ws → Reps K Z φ (ds ++ es) (vs ++ ws)
  | [], _, _, _, h, t => by
    have h' : _ = [] := h
    rw [h']
    exact t
  | d :: ds, _, _, _, h, t => by
    obtain ⟨v, r, rfl, h2, h3⟩ := h
    exact Reps.cons h2 (Reps.append h3 t)
theorem Reps.take : ∀ (n : Nat) {ds : List D} {vs : List V}, Reps K Z φ ds vs → Reps K Z φ (ds.take n) (vs.take n)
  | 0, ds, vs, h => by simp [Reps]
  | n + 1, [], _, h => by
    have h' : _ = [] := h
    rw [h']
    simp [Reps]
  | n + 1, d :: ds, _, h => by
    obtain ⟨v, r, rfl, h2, h3⟩ := h
    exact Reps.cons h2 (Reps.take n h3)
theorem Reps.drop : ∀ (n : Nat) {ds : List D} {vs : List V}, Reps K Z φ ds vs → Reps K Z φ (ds.drop n) (vs.drop n)
  | 0, ds, vs, h => h
  | n + 1, [], _, h => by
    have h' : _ = [] := h
    rw [h']
    simp [Reps]
  | n + 1, d :: ds, _, h => by
    obtain ⟨v, r, rfl, h2, h3⟩ := h
    exact Reps.drop n h3
theorem Reps.set {d : D} {v : V} (hd : Rep K Z φ d v) : ∀ (n : Nat) {ds : List D} {vs : List V}, Reps K Z φ ds vs → Reps K Z φ (ds.set n d) (vs.set n v)
  | n, [], _, h => by
    have h' : _ = [] := h
    rw [h']
    simp [Reps]
  | 0, x :: ds, _, h => by
    obtain ⟨w, r, rfl, h2, h3⟩ := h
    exact Reps.cons hd h3
  | n + 1, x :: ds, _, h => by
    obtain ⟨w, r, rfl, h2, h3⟩ := h
    exact Reps.cons h2 (Reps.set hd n h3)
theorem Reps.eraseIdx : ∀ (n : Nat) {ds : List D} {vs : List V}, Reps K Z φ ds vs → Reps K Z φ (ds.eraseIdx n) (vs.eraseIdx n)
  | n, [], _, h => by
    have h' : _ = [] := h
    rw [h']
    simp [Reps]
  | 0, x :: ds, _, h => by
    obtain ⟨w, r, rfl, h2, h3⟩ := h
    exact h3
  | n + 1, x :: ds, _, h => by
    obtain ⟨w, r, rfl, h2, h3⟩ := h
    exact Reps.cons h2 (Reps.eraseIdx n h3)
theorem Reps.reverse : ∀ {ds : List D} {vs : List V}, Reps K Z φ ds vs → Reps K Z φ ds.reverse vs.reverse
  | [], _, h => by
    have h' : _ = [] := h
    rw [h']
    simp [Reps]
  | d :: ds, _, h => by
    obtain ⟨v, r, rfl, h2, h3⟩ := h
    rw [List.reverse_cons, List.reverse_cons]
    exact (Reps.reverse h3).append (Reps.cons h2 Reps.nil)
theorem Reps.back : ∀ {ds : List D} {vs : List V} {i : Nat} {v : V}, Reps K Z φ ds vs → vs[i]? = some v → ∃ d, ds[i]? = some d ∧ Rep K Z φ d v
  | [], _, i, v, h, e => by
    have h' : _ = [] := h
    rw [h'] at e
    simp at e
  | x :: ds, _, 0, v, h, e => by
    obtain ⟨w, r, rfl, h2, h3⟩ := h
    simp at e
    subst e
    exact ⟨x, by simp, h2⟩
  | x :: ds, _, i + 1, v, h, e => by
    obtain ⟨w, r, rfl, h2, h3⟩ := h
    obtain ⟨d, q1, q2⟩ := Reps.back (i := i) h3 (by simpa using e)
    exact ⟨d, by simpa using q1, q2⟩
end

/-! ### the store's objects -/
def RepO (K : PySem.W.Frag) (Z : Hp) (φ : List Addr) (H : Hp) (a : Addr) : O → Prop
  | .lst ds => ∃ xs, H a = some (.lst xs) ∧ Reps K Z φ ds xs
  | .dic kvs => ∃ ws, H a = some (.dK ws) ∧ kvs.map (·.1) = ws.map (·.1) ∧ Reps K Z φ (kvs.map (·.2)) (ws.map (·.2))

structure Sim (K : PySem.W.Frag) (T : List (Addr × Str)) (Z : Hp) (φ : List Addr) (st : List O) (H : Hp) : Prop where
  fz : ∀ a o, Z a = some o → H a = some o
  nd : φ.Nodup
  ln : φ.length = st.length
  fr : ∀ a ∈ φ, Z a = none
  ob : ∀ (n : Nat) (o : O) (a : Addr), st[n]? = some o → φ[n]? = some a → RepO K Z φ H a o
  tb : LamX.Tabs T H
  nt : ∀ a ps, Z a ≠ some (.tbl ps)

section
variable {K : PySem.W.Frag} {T : List (Addr × Str)} {Z Z' : Hp} {φ φ' : List Addr} {st : List O} {H H' : Hp}
theorem RepO.mono {a : Addr} {o : O} (e : Ext0 Z φ Z' φ') (h : H a = H' a) (r : RepO K Z φ H a o) : RepO K Z' φ' H' a o := by
  cases o with
  | lst ds =>
    obtain ⟨xs, h1, h2⟩ := r
    exact ⟨xs, by rw [← h, h1], h2.mono e⟩
  | dic kvs =>
    obtain ⟨ws, h1, h2, h3⟩ := r
    exact ⟨ws, by rw [← h, h1], h2, h3.mono e⟩
theorem RepO.is {a : Addr} {o : O} (r : RepO K Z φ H a o) : ∃ u, H a = some u ∧ (∀ p, u ≠ .tbl p) ∧ (∀ f, u ≠ .ext f) ∧ Mut (some u) := by
  cases o with
  | lst ds =>
    obtain ⟨xs, h1, h2⟩ := r
    exact ⟨_, h1, (fun p z => by cases z), (fun p z => by cases z), trivial⟩
  | dic kvs =>
    obtain ⟨ws, h1, h2, h3⟩ := r
    exact ⟨_, h1, (fun p z => by cases z), (fun p z => by cases z), trivial⟩
theorem Sim.at (S : Sim K T Z φ st H) {n : Nat} {o : O} (h : st[n]? = some o) : ∃ a, φ[n]? = some a ∧ RepO K Z φ H a o := by
  have hn : n < st.length := (List.getElem?_eq_some_iff.mp h).1
  have hp : n < φ.length := by rw [S.ln]; exact hn
  exact ⟨φ[n], List.getElem?_eq_getElem hp, S.ob n o _ h (List.getElem?_eq_getElem hp)⟩
theorem Sim.atA (S : Sim K T Z φ st H) {n : Nat} {a : Addr} (h : φ[n]? = some a) : ∃ o, st[n]? = some o ∧ RepO K Z φ H a o := by
  have hn : n < φ.length := (List.getElem?_eq_some_iff.mp h).1
  have hp : n < st.length := by rw [← S.ln]; exact hn
  exact ⟨st[n], List.getElem?_eq_getElem hp, S.ob n _ a (List.getElem?_eq_getElem hp) h⟩
theorem Sim.mem (S : Sim K T Z φ st H) {a : Addr} (h : a ∈ φ) : ∃ u, H a = some u := by
  obtain ⟨n, hn, e⟩ := List.getElem_of_mem h
  obtain ⟨o, _, r⟩ := S.atA (n := n) (a := a) (by rw [List.getElem?_eq_getElem hn, e])
  obtain ⟨u, e2, _⟩ := r.is
  exact ⟨u, e2⟩
/-- more is in the heap -/
theorem Sim.same (S : Sim K T Z φ st H) (e : ∀ a o, H a = some o → H' a = some o) : Sim K T Z φ st H' where
  fz := fun a o h => e a o (S.fz a o h)
  nd := S.nd
  ln := S.ln
  fr := S.fr
  ob := fun n o a h1 h2 => by
    have r := S.ob n o a h1 h2
    obtain ⟨u, e1, _⟩ := r.is
    exact r.mono Ext0.refl (by rw [e1, e a u e1])
  tb := S.tb.ext e
  nt := S.nt
theorem same_upd {p : Addr} {o : HO} (h : H p = none) : ∀ a u, H a = some u → upd H p o a = some u := fun a u e => by
  rw [upd_ne (ne_of_none e h)]
  exact e
/-- a new thing that stays as it is -/
theorem Sim.freeze (S : Sim K T Z φ st H) {p : Addr} {o : HO} (h : H p = none) (ho : ∀ ps, o ≠ .tbl ps := by (intro _ z; cases z)) : Ext Z φ H (upd Z p o) φ (upd H p o) ∧ Sim K T (upd Z p o) φ st (upd H p o) := by
  have hz : Z p = none := by
    cases q : Z p with
    | none => rfl
    | some u =>
      rw [S.fz p u q] at h
      cases h
  have e : Ext0 Z φ (upd Z p o) φ := ⟨same_upd hz, [], by simp⟩
  have e' : Ext Z φ H Z φ (upd H p o) := Ext.same (same_upd h)
  refine ⟨⟨e.z, e'.p, e'.k, e'.d, fun a u hu => ?_⟩, ?_, S.nd, S.ln, fun a ha => ?_, fun n u a h1 h2 => ?_, S.tb.ext (same_upd h), fun a ps hu => ?_⟩
  · by_cases ha : a = p
    · rw [ha]
      exact .inr (.of h)
    · rw [upd_ne ha] at hu
      exact .inl hu
  · intro a u hu
    by_cases ha : a = p
    · subst ha
      rw [upd_same] at hu ⊢
      exact hu
    · rw [upd_ne ha] at hu ⊢
      exact S.fz a u hu
  · obtain ⟨u, hu⟩ := S.mem ha
    rw [upd_ne (ne_of_none hu h)]
    exact S.fr a ha
  · have r := S.ob n u a h1 h2
    obtain ⟨w, e1, _⟩ := r.is
    exact r.mono e (by rw [upd_ne (ne_of_none e1 h)])
  · by_cases ha : a = p
    · rw [ha, upd_same] at hu
      exact ho ps (Option.some.inj hu)
    · rw [upd_ne ha] at hu
      exact S.nt a ps hu
/-- what is there already stays as it is from now on -/
theorem Sim.keep {Z0 H0 : Hp} {φ0 : List Addr} (e0 : Ext Z0 φ0 H0 Z φ H) (S : Sim K T Z φ st H) {p : Addr} {o : HO} (hf : Fr H0 p) (h : H p = some o) (hn : p ∉ φ) (hz : Z p = none) (ho : ∀ ps, o ≠ .tbl ps := by (intro _ z; cases z)) : (Ext0 Z φ (upd Z p o) φ ∧ Ext Z0 φ0 H0 (upd Z p o) φ H) ∧ Sim K T (upd Z p o) φ st H := by
  have e : Ext0 Z φ (upd Z p o) φ := by
    refine ⟨fun a u hu => ?_, [], by simp⟩
    by_cases ha : a = p
    · subst ha
      rw [hz] at hu
      cases hu
    · rw [upd_ne ha]
      exact hu
  refine ⟨⟨e, fun a u hu => e.z a u (e0.z a u hu), e0.p, e0.k, e0.d, fun a u hu => ?_⟩, ?_, S.nd, S.ln, fun a ha => ?_, fun n u a h1 h2 => ?_, S.tb, fun a ps hu => ?_⟩
  · by_cases ha : a = p
    · rw [ha]
      exact .inr hf
    · rw [upd_ne ha] at hu
      exact e0.f a u hu
  · intro a u hu
    by_cases ha : a = p
    · subst ha
      rw [upd_same] at hu
      rw [h]
      exact hu
    · rw [upd_ne ha] at hu
      exact S.fz a u hu
  · rw [upd_ne (show a ≠ p from fun z => hn (by rw [← z]; exact ha))]
    exact S.fr a ha
  · exact (S.ob n u a h1 h2).mono e rfl
  · by_cases ha : a = p
    · rw [ha, upd_same] at hu
      exact ho ps (Option.some.inj hu)
    · rw [upd_ne ha] at hu
      exact S.nt a ps hu
/-- a new object of the store -/
theorem Sim.alloc {Z0 H0 : Hp} {φ0 : List Addr} (e0 : Ext Z0 φ0 H0 Z φ H) (S : Sim K T Z φ st H) {p : Addr} {o : O} (hf : Fr H0 p) (hn : p ∉ φ) (hz : Z p = none) (r : RepO K Z φ H p o) : Ext Z0 φ0 H0 Z (φ ++ [p]) H ∧ Sim K T Z (φ ++ [p]) (st ++ [o]) H := by
  have e : Ext0 Z φ Z (φ ++ [p]) := ⟨fun _ _ h => h, [p], rfl⟩
  refine ⟨?_, S.fz, ?_, by simp [S.ln], fun a ha => ?_, fun n u a h1 h2 => ?_, S.tb, S.nt⟩
  · obtain ⟨r, hr, fr⟩ := e0.p
    refine ⟨e0.z, ⟨r ++ [p], by rw [hr, List.append_assoc], fun x hx => ?_⟩, e0.k, e0.d, e0.f⟩
    rcases List.mem_append.mp hx with z | z
    · exact fr x z
    · simp at z
      rw [z]
      exact hf
  · rw [List.nodup_append]
    refine ⟨S.nd, by simp, fun a ha b hb z => ?_⟩
    simp at hb
    rw [z, hb] at ha
    exact hn ha
  · rcases List.mem_append.mp ha with z | z
    · exact S.fr a z
    · simp at z
      rw [z]
      exact hz
  · by_cases hl : n < st.length
    · rw [List.getElem?_append_left hl] at h1
      rw [List.getElem?_append_left (by rw [S.ln]; exact hl)] at h2
      exact (S.ob n u a h1 h2).mono e rfl
    · rw [List.getElem?_append_right (by omega)] at h1
      rw [List.getElem?_append_right (by rw [S.ln]; omega)] at h2
      have hz : n - st.length = 0 := by
        obtain ⟨q, _⟩ := List.getElem?_eq_some_iff.mp h1
        simp at q
        omega
      have hz2 : n - φ.length = 0 := by rw [S.ln]; exact hz
      rw [hz] at h1
      rw [hz2] at h2
      simp at h1 h2
      subst h1 h2
      exact r.mono e rfl
theorem tabs_put {a : Addr} {u o : HO} (t : LamX.Tabs T H) (h : H a = some u) (h1 : ∀ p, u ≠ .tbl p) (h2 : ∀ f, u ≠ .ext f) : LamX.Tabs T (upd H a o) := fun p hp => by
  obtain ⟨ps, e1, e2, e3⟩ := t p hp
  refine ⟨ps, ?_, e2, fun pos cv hc => ?_⟩
  · rw [upd_ne]
    · exact e1
    · intro z
      rw [z, h] at e1
      exact h1 ps (Option.some.inj e1)
  · obtain ⟨c, q1, q2⟩ := e3 pos cv hc
    refine ⟨c, q1, ?_⟩
    rw [upd_ne]
    · exact q2
    · intro z
      rw [z, h] at q2
      exact h2 _ (Option.some.inj q2)
/-- an object of the store is changed -/
theorem Sim.put (S : Sim K T Z φ st H) {n : Nat} {a : Addr} {o : O} {ho : HO} (hp : φ[n]? = some a) (r : RepO K Z φ (upd H a ho) a o) : Ext Z φ H Z φ (upd H a ho) ∧ Sim K T Z φ (st.set n o) (upd H a ho) := by
  obtain ⟨o1, g1, r1⟩ := S.atA hp
  obtain ⟨u, e1, n1, n2, _⟩ := r1.is
  have ha : a ∈ φ := List.mem_of_getElem? hp
  refine ⟨⟨fun _ _ h => h, ⟨[], by simp⟩, fun b v hb hn _ => ?_, fun b hb => ?_, fun _ _ h => .inl h⟩, fun b v hb => ?_, S.nd, by simp [S.ln], S.fr, fun m w b h1 h2 => ?_, tabs_put S.tb e1 n1 n2, S.nt⟩
  · rw [upd_ne]
    · exact hb
    · intro z
      rw [z] at hn
      exact hn ha
  · by_cases z : b = a
    · rw [z] at hb ⊢
      exfalso
      obtain ⟨o1', r1'⟩ : ∃ ps, ho = .tbl ps := hb ho upd_same
      obtain ⟨u2, e2, n3, _⟩ := r.is
      rw [upd_same] at e2
      cases e2
      exact n3 _ r1'
    · intro o2 h2
      exact hb o2 (by rw [upd_ne z]; exact h2)
  · rw [upd_ne]
    · exact S.fz b v hb
    · intro z
      rw [z, S.fr a ha] at hb
      cases hb
  · by_cases hm : m = n
    · subst hm
      rw [hp] at h2
      cases h2
      have hl : m < st.length := (List.getElem?_eq_some_iff.mp g1).1
      rw [List.getElem?_set_self hl] at h1
      cases h1
      exact r
    · rw [List.getElem?_set_ne (fun z => hm z.symm)] at h1
      refine (S.ob m w b h1 h2).mono Ext0.refl ?_
      rw [upd_ne]
      intro z
      subst z
      obtain ⟨q1, q2⟩ := List.getElem?_eq_some_iff.mp hp
      obtain ⟨q3, q4⟩ := List.getElem?_eq_some_iff.mp h2
      exact hm ((List.getElem_inj S.nd).mp (q4.trans q2.symm))
end

/-! ### slots -/
def EnvR (K : PySem.W.Frag) (Z : Hp) (φ : List Addr) (ρ : List (Option D)) (σ : L2.St) : Prop := ρ.length = σ.length ∧ ∀ (i : Nat) (d : D), ρ[i]? = some (some d) → ∃ v, σ[i]? = some (some v) ∧ Rep K Z φ d v
section
variable {K : PySem.W.Frag} {Z Z' : Hp} {φ φ' : List Addr} {ρ : List (Option D)} {σ : L2.St}
theorem EnvR.mono (h : EnvR K Z φ ρ σ) (e : Ext0 Z φ Z' φ') : EnvR K Z' φ' ρ σ := ⟨h.1, fun i d g => by
  obtain ⟨v, h1, h2⟩ := h.2 i d g
  exact ⟨v, h1, h2.mono e⟩⟩
theorem EnvR.set (h : EnvR K Z φ ρ σ) {i : Nat} {d : D} {v : V} (r : Rep K Z φ d v) : EnvR K Z φ (ρ.set i (some d)) (σ.set i (some v)) := by
  refine ⟨by simp [h.1], fun j e g => ?_⟩
  by_cases hj : i = j
  · subst hj
    by_cases hl : i < ρ.length
    · rw [List.getElem?_set_self hl] at g
      cases g
      exact ⟨v, by rw [List.getElem?_set_self (by rw [← h.1]; exact hl)], r⟩
    · rw [List.getElem?_eq_none (by simp; omega)] at g
      cases g
  · rw [List.getElem?_set_ne hj] at g ⊢
    exact h.2 j e g
theorem EnvR.forget (h : EnvR K Z φ ρ σ) (i : Nat) : EnvR K Z φ (ρ.set i none) (σ.set i none) := by
  refine ⟨by simp [h.1], fun j e g => ?_⟩
  by_cases hj : i = j
  · subst hj
    by_cases hl : i < ρ.length
    · rw [List.getElem?_set_self hl] at g
      cases g
    · rw [List.getElem?_eq_none (by simp; omega)] at g
      cases g
  · rw [List.getElem?_set_ne hj] at g ⊢
    exact h.2 j e g
def wipeR (ρ : List (Option D)) : List Nat → List (Option D)
  | [] => ρ
  | v :: vs => (wipeR ρ vs).set v none
theorem EnvR.wipe (h : EnvR K Z φ ρ σ) : ∀ vs : List Nat, EnvR K Z φ (wipeR ρ vs) (L2.wipe σ vs)
  | [] => h
  | v :: vs => (EnvR.wipe h vs).forget v
end
end Tl
/-! TRule: readings by data: an expression whose outcome is a function of the slots' data and the store. -/
namespace Tl
open PySem L2

abbrev Env := List (Option D)

def WpG {α β : Type} (X : Cx) (T : List (Addr × Str)) (W : WX) (σ : L2.St) (rep : Hp → Hp → List Addr → Hp → α → β → Prop) (Z : Hp) (φ : List Addr) (H : Hp) (r : RR α) (Q : β → Hp → Prop) : Prop :=
  match r with
  | .ok d st => ∀ v Z' φ' H', Ext Z φ H Z' φ' H' → Sim X.K T Z' φ' st H' → rep H Z' φ' H' d v → Q v H'
  | .exc c st => ∀ C Z' φ' H', X.mg c = some (.ref C) → Ext Z φ H Z' φ' H' → Sim X.K T Z' φ' st H' → W (.ref C) none σ H'
  | .err => False
def tG {α β : Type} (X : Cx) (T : List (Addr × Str)) (W : WX) (rep : Hp → Hp → List Addr → Hp → α → β → Prop) (f : Env → List O → RR α) : L2.St → Hp → (β → Hp → Prop) → Prop :=
  fun σ H Q => ∃ Z φ st ρ, Sim X.K T Z φ st H ∧ EnvR X.K Z φ ρ σ ∧ WpG X T W σ rep Z φ H (f ρ st) Q

def repE (X : Cx) : Hp → Hp → List Addr → Hp → D → V → Prop := fun _ Z φ _ d v => Rep X.K Z φ d v
def repA (X : Cx) : Hp → Hp → List Addr → Hp → List D → List V → Prop := fun _ Z φ _ d v => Reps X.K Z φ d v
def repB : Hp → Hp → List Addr → Hp → Bool → Bool → Prop := fun _ _ _ _ a b => a = b
/-- a new list that nobody knows yet -/
def repF (X : Cx) : Hp → Hp → List Addr → Hp → List D → V → Prop := fun H0 Z φ H ds v => ∃ p xs, v = .ref p ∧ H p = some (.lst xs) ∧ Fr H0 p ∧ p ∉ φ ∧ Z p = none ∧ Reps X.K Z φ ds xs
/-- what is told of a later start holds of the earlier one -/
class RM {α β : Type} (rep : Hp → Hp → List Addr → Hp → α → β → Prop) : Prop where
  m : ∀ {Z φ H Z1 φ1 H1 Z2 φ2 H2} {d : α} {v : β}, Ext Z φ H Z1 φ1 H1 → rep H1 Z2 φ2 H2 d v → rep H Z2 φ2 H2 d v
instance {X : Cx} : RM (repE X) := ⟨fun _ h => h⟩
instance {X : Cx} : RM (repA X) := ⟨fun _ h => h⟩
instance : RM repB := ⟨fun _ h => h⟩
instance {X : Cx} : RM (repF X) := ⟨fun e h => by
  obtain ⟨p, xs, a, b, c, r⟩ := h
  exact ⟨p, xs, a, b, e.d p c, r⟩⟩
abbrev tE (X : Cx) (T : List (Addr × Str)) (W : WX) (f : Env → List O → RR D) : TE := tG X T W (repE X) f
abbrev tA (X : Cx) (T : List (Addr × Str)) (W : WX) (f : Env → List O → RR (List D)) : TA := tG X T W (repA X) f
abbrev tB (X : Cx) (T : List (Addr × Str)) (W : WX) (f : Env → List O → RR Bool) : TT := tG X T W repB f
abbrev tF (X : Cx) (T : List (Addr × Str)) (W : WX) (f : Env → List O → RR (List D)) : TE := tG X T W (repF X) f

theorem pe_imp {X : Cx} {e : Expr} {t u : TE} (h : PE X e t) (i : ∀ σ H Q, u σ H Q → t σ H Q) : PE X e u := ⟨fun pins s σ H Q I q => h.run pins s σ H Q I (i _ _ _ q)⟩
theorem pt_imp {X : Cx} {e : Expr} {t u : TT} (h : PT X e t) (i : ∀ σ H Q, u σ H Q → t σ H Q) : PT X e u := ⟨fun pins s σ H Q I q => h.run pins s σ H Q I (i _ _ _ q)⟩
theorem pw_imp {X : Cx} {e : Expr} {t u : TT} (h : PW X e t) (i : ∀ σ H Q, u σ H Q → t σ H Q) : PW X e u := ⟨fun w pins s σ H Q I q => h.run w pins s σ H Q I (i _ _ _ q)⟩
theorem pa_imp {X : Cx} {es : List Expr} {t u : TA} (h : PA X es t) (i : ∀ σ H Q, u σ H Q → t σ H Q) : PA X es u := ⟨fun pos pins s σ H Q I q => h.run pos pins s σ H Q I (i _ _ _ q)⟩
theorem ps_imp {X : Cx} {e : Stmt} {t u : TS} (h : PS X e t) (i : ∀ D σ H, u D σ H → t D σ H) : PS X e u := ⟨fun pins s σ H D I q => h.run pins s σ H D I (i _ _ _ q)⟩
theorem pss_imp {X : Cx} {e : List Stmt} {t u : TS} (h : PSs X e t) (i : ∀ D σ H, u D σ H → t D σ H) : PSs X e u := ⟨fun pins s σ H D I q => h.run pins s σ H D I (i _ _ _ q)⟩

section
variable {α β γ δ : Type} {X : Cx} {T : List (Addr × Str)} {W : WX} {σ : L2.St} {rep : Hp → Hp → List Addr → Hp → α → β → Prop} {rep' : Hp → Hp → List Addr → Hp → γ → δ → Prop} {Z Z' : Hp} {φ φ' : List Addr} {H H' : Hp}
theorem WpG.ext [RM rep] {r : RR α} {Q : β → Hp → Prop} (e : Ext Z φ H Z' φ' H') (h : WpG X T W σ rep Z φ H r Q) : WpG X T W σ rep Z' φ' H' r Q := by
  cases r with
  | ok d st => exact fun v Z2 φ2 H2 e2 S R => h v Z2 φ2 H2 (e.trans e2) S (RM.m e R)
  | exc c st => exact fun C Z2 φ2 H2 m e2 S => h C Z2 φ2 H2 m (e.trans e2) S
  | err => exact h
/-- what is told first, then what is told behind it -/
theorem WpG.first [RM rep'] {r : RR α} {k : α → List O → RR γ} {Q : δ → Hp → Prop} {Q' : β → Hp → Prop} (h : WpG X T W σ rep' Z φ H (r.bind k) Q)
    (q : ∀ v Z' φ' H' d st', Ext Z φ H Z' φ' H' → Sim X.K T Z' φ' st' H' → rep H Z' φ' H' d v → WpG X T W σ rep' Z' φ' H' (k d st') Q → Q' v H') : WpG X T W σ rep Z φ H r Q' := by
  cases r with
  | ok d st => exact fun v Z2 φ2 H2 e2 S R => q v Z2 φ2 H2 d st e2 S R (WpG.ext e2 h)
  | exc c st => exact fun C Z2 φ2 H2 m e2 S => h C Z2 φ2 H2 m e2 S
  | err => exact h
/-- .. where the outcome behind it is told of the start -/
theorem WpG.first0 {r : RR α} {k : α → List O → RR γ} {Q : δ → Hp → Prop} {Q' : β → Hp → Prop} (h : WpG X T W σ rep' Z φ H (r.bind k) Q)
    (q : ∀ v Z' φ' H' d st', Ext Z φ H Z' φ' H' → Sim X.K T Z' φ' st' H' → rep H Z' φ' H' d v → WpG X T W σ rep' Z φ H (k d st') Q → Q' v H') : WpG X T W σ rep Z φ H r Q' := by
  cases r with
  | ok d st => exact fun v Z2 φ2 H2 e2 S R => q v Z2 φ2 H2 d st e2 S R h
  | exc c st => exact fun C Z2 φ2 H2 m e2 S => h C Z2 φ2 H2 m e2 S
  | err => exact h
theorem WpG.ok {d : α} {st : List O} {v : β} {Q : β → Hp → Prop} (h : WpG X T W σ rep Z φ H (.ok d st) Q) (S : Sim X.K T Z φ st H) (R : rep H Z φ H d v) : Q v H := h v Z φ H Ext.refl S R
end

/-! ### operations on values -/
abbrev Pr := List O → List D → Option (D × List O)
def liftP : Option (D × List O) → RR D
  | some (d, st) => .ok d st
  | none => .err
def rP (X : Cx) (T : List (Addr × Str)) (h : Pr) : List V → Hp → VK → Prop := fun xs H Q => ∃ Z φ st ds d st', Sim X.K T Z φ st H ∧ Reps X.K Z φ ds xs ∧ h st ds = some (d, st') ∧
  ∀ v Z' φ' H', Ext Z φ H Z' φ' H' → Sim X.K T Z' φ' st' H' → Rep X.K Z' φ' d v → Q v H'
section
variable {X : Cx} {T : List (Addr × Str)} {W : WX}
theorem rP_of {σ : L2.St} {h : Pr} {Z : Hp} {φ : List Addr} {st : List O} {H : Hp} {ds : List D} {xs : List V} {Q : VK} (S : Sim X.K T Z φ st H) (R : Reps X.K Z φ ds xs) (w : WpG X T W σ (repE X) Z φ H (liftP (h st ds)) Q) : rP X T h xs H Q := by
  cases e : h st ds with
  | none =>
    rw [e] at w
    exact w.elim
  | some p =>
    rw [e] at w
    exact ⟨Z, φ, st, ds, p.1, p.2, S, R, e, fun v Z' φ' H' a b c => w v Z' φ' H' a b c⟩

/-! ### expressions -/
def eVar (i : Nat) : Env → List O → RR D := fun ρ st => match ρ[i]? with
  | some (some d) => .ok d st
  | _ => .err
def eC (d : D) : Env → List O → RR D := fun _ st => .ok d st
def eBin (h : Pr) (f g : Env → List O → RR D) : Env → List O → RR D := fun ρ st => (f ρ st).bind fun x s1 => (g ρ s1).bind fun y s2 => liftP (h s2 [x, y])
def ePr (h : Pr) (f : Env → List O → RR (List D)) : Env → List O → RR D := fun ρ st => (f ρ st).bind fun xs s1 => liftP (h s1 xs)
def eNil : Env → List O → RR (List D) := fun _ st => .ok [] st
def eCons (f : Env → List O → RR D) (g : Env → List O → RR (List D)) : Env → List O → RR (List D) := fun ρ st => (f ρ st).bind fun x s1 => (g ρ s1).bind fun xs s2 => .ok (x :: xs) s2

theorem x_var {i : Nat} {x : Str} {pos : Pos} (hN : X.N[i]? = some x) (hv : Vis X.env.scope x) (hd : (x == ("__debug__" : Str)) = false) (hcd : (x == ("__classdict__" : Str)) = false) : PE X (.Name x pos) (tE X T W (eVar i)) := by
  refine pe_imp (pe_var hN hv hd hcd) fun σ H Q h => ?_
  obtain ⟨Z, φ, st, ρ, S, E, w⟩ := h
  unfold eVar at w
  cases e : ρ[i]? with
  | none =>
    rw [e] at w
    exact w.elim
  | some o =>
    cases o with
    | none =>
      rw [e] at w
      exact w.elim
    | some d =>
      rw [e] at w
      obtain ⟨v, h1, h2⟩ := E.2 i d e
      exact ⟨v, h1, w.ok S h2⟩
theorem x_const {e : Expr} {v : V} {d : D} (h : PE X e (tC v)) (r : ∀ Z φ, Rep X.K Z φ d v) : PE X e (tE X T W (eC d)) := by
  refine pe_imp h fun σ H Q h => ?_
  obtain ⟨Z, φ, st, ρ, S, E, w⟩ := h
  exact w.ok S (r Z φ)
theorem two {ta tb : TE} {f g : Env → List O → RR D} {k : D → D → List O → RR D} {a b : Expr} {Q : VK} {σ : L2.St} {H : Hp}
    (h : tE X T W (fun ρ st => (f ρ st).bind fun x s1 => (g ρ s1).bind fun y s2 => k x y s2) σ H Q) {R : V → V → Hp → Prop}
    (q : ∀ (x y : V) (dx dy : D) Z φ st H', Sim X.K T Z φ st H' → Reps X.K Z φ [dx, dy] [x, y] → WpG X T W σ (repE X) Z φ H' (k dx dy st) Q → R x y H') :
    tE X T W f σ H fun x H1 => tE X T W g σ H1 fun y H2 => R x y H2 := by
  obtain ⟨Z, φ, st, ρ, S, E, w⟩ := h
  refine ⟨Z, φ, st, ρ, S, E, w.first fun x Z1 φ1 H1 dx s1 e1 S1 R1 w1 => ?_⟩
  refine ⟨Z1, φ1, s1, ρ, S1, E.mono e1.e0, w1.first fun y Z2 φ2 H2 dy s2 e2 S2 R2 w2 => ?_⟩
  exact q x y dx dy Z2 φ2 s2 H2 S2 (Reps.cons (Rep.mono e2.e0 _ _ R1) (Reps.cons R2 Reps.nil)) w2
theorem x_bin {op : Operator} {a b : Expr} {pos : Pos} {f g : Env → List O → RR D} {h : Pr} (ho : OpR X (binaryOp op) fun x y => rP X T h [x, y]) (ha : PE X a (tE X T W f)) (hb : PE X b (tE X T W g)) : PE X (.BinOp a op b pos) (tE X T W (eBin h f g)) := by
  refine pe_imp (pe_op ho ha hb) fun σ H Q q => ?_
  exact two (ta := fun _ _ _ => True) (tb := fun _ _ _ => True) (a := a) (b := b) q fun x y dx dy Z φ st H' S R w => rP_of S R w
theorem x_cmp {op : CmpOp} {a b : Expr} {pos : Pos} {f g : Env → List O → RR D} {h : Pr} (ho : OpR X (compareOp op) fun x y => rP X T h [x, y]) (ha : PE X a (tE X T W f)) (hb : PE X b (tE X T W g)) (hm : behindInMarks op b = false) : PE X (.Compare a [op] [b] pos) (tE X T W (eBin h f g)) := by
  refine pe_imp (pe_cmpR ho ha hb hm) fun σ H Q q => ?_
  exact two (ta := fun _ _ _ => True) (tb := fun _ _ _ => True) (a := a) (b := b) q fun x y dx dy Z φ st H' S R w => rP_of S R w
theorem x_nil : PA X [] (tA X T W eNil) := pa_imp pa_nil fun σ H Q q => by
  obtain ⟨Z, φ, st, ρ, S, E, w⟩ := q
  exact w.ok S Reps.nil
theorem x_cons {e : Expr} {es : List Expr} {f : Env → List O → RR D} {g : Env → List O → RR (List D)} (ha : PE X e (tE X T W f)) (hb : PA X es (tA X T W g)) (hs : starEach (e :: es) X.env = (false, eval e X.env) :: starEach es X.env) : PA X (e :: es) (tA X T W (eCons f g)) := by
  refine pa_imp (pa_cons ha hb hs) fun σ H Q q => ?_
  obtain ⟨Z, φ, st, ρ, S, E, w⟩ := q
  refine ⟨Z, φ, st, ρ, S, E, w.first fun x Z1 φ1 H1 dx s1 e1 S1 R1 w1 => ?_⟩
  refine ⟨Z1, φ1, s1, ρ, S1, E.mono e1.e0, w1.first fun y Z2 φ2 H2 dy s2 e2 S2 R2 w2 => ?_⟩
  exact w2.ok S2 (Reps.cons (Rep.mono e2.e0 _ _ R1) R2)
/-- a call of a built-in -/
theorem x_callB {x : Str} {p pos : Pos} {e : Expr} {es : List Expr} {f : Env → List O → RR (List D)} {h : Pr} {id : String} (hc : CallR X (.builtin id) (rP X T h)) (hg : Gl X x) (hm : X.mg x = none) (hv : bootBuiltins x = some (.builtin id)) (ha : PA X (e :: es) (tA X T W f)) (hn : x ≠ "__name__") (hdb : (x == ("__debug__" : Str)) = false)
    (he : starEach (e :: es) X.env = (false, eval e X.env) :: starEach es X.env) (hpl : (backTo pos (starEach es X.env)).any (·.1) = false) : PE X (.Call (.Name x p) (e :: es) [] pos) (tE X T W (ePr h f)) := by
  refine pe_imp (pe_callB hc hg hm hv ha hn hdb he hpl) fun σ H Q q => ?_
  obtain ⟨Z, φ, st, ρ, S, E, w⟩ := q
  exact ⟨Z, φ, st, ρ, S, E, w.first fun x Z1 φ1 H1 dx s1 e1 S1 R1 w1 => rP_of S1 R1 w1⟩
theorem x_callTy {x : Str} {p pos : Pos} {e : Expr} {es : List Expr} {f : Env → List O → RR (List D)} {h : Pr} {id : String} (hc : CallR X (.type id) (rP X T h)) (hg : Gl X x) (hm : X.mg x = none) (hv : bootBuiltins x = some (.type id)) (ha : PA X (e :: es) (tA X T W f)) (hn : x ≠ "__name__") (hdb : (x == ("__debug__" : Str)) = false)
    (he : starEach (e :: es) X.env = (false, eval e X.env) :: starEach es X.env) (hpl : (backTo pos (starEach es X.env)).any (·.1) = false) : PE X (.Call (.Name x p) (e :: es) [] pos) (tE X T W (ePr h f)) := by
  refine pe_imp (pe_callTy hc hg hm hv ha hn hdb he hpl) fun σ H Q q => ?_
  obtain ⟨Z, φ, st, ρ, S, E, w⟩ := q
  exact ⟨Z, φ, st, ρ, S, E, w.first fun x Z1 φ1 H1 dx s1 e1 S1 R1 w1 => rP_of S1 R1 w1⟩
/-- a built-in's method; what the receiver must be is told by ty -/
theorem x_bm {o e : Expr} {es : List Expr} {name : Str} {apos cpos : Pos} {Ty id : String} {f : Env → List O → RR D} {g : Env → List O → RR (List D)} {h : Pr} (ty : List O → D → Bool) (pa : PlainAttrs Ty) (slot : Slot Ty name id) (hty : typeOf (.builtin id) = pure (.type "method_descriptor")) (hm : MtR X id fun x xs => rP X T h (x :: xs))
    (htv : ∀ st d Z φ H v, ty st d = true → Sim X.K T Z φ st H → Rep X.K Z φ d v → tyV X.K Ty v H) (ho : PE X o (tE X T W f)) (ha : PA X (e :: es) (tA X T W g))
    (hbase : attributeBase o name X.env (eval o X.env) = eval o X.env)
    (hfew : ((backTo cpos (starEach (e :: es) X.env)).all (fun x => !x.1) && (backToKw cpos (keywordEach [] X.env)).all (fun x => x.1.isSome)
      && decide ((e :: es).length + ([] : List Keyword).length + (if ([] : List Keyword).isEmpty then 0 else 1) < 30)) = true)
    (hline : (apos.endLine == cpos.line) = true) (hs : starEach (e :: es) X.env = (false, eval e X.env) :: starEach es X.env) (hplain : (backTo cpos (starEach es X.env)).any (·.1) = false) :
    PE X (.Call (.Attribute o name apos) (e :: es) [] cpos) (tE X T W fun ρ st => (f ρ st).bind fun x s1 => if ty s1 x = true then (g ρ s1).bind fun xs s2 => liftP (h s2 (x :: xs)) else .err) := by
  refine pe_imp (pe_bm pa slot hty hm ho ha hbase hfew hline hs hplain) fun σ H Q q => ?_
  obtain ⟨Z, φ, st, ρ, S, E, w⟩ := q
  refine ⟨Z, φ, st, ρ, S, E, w.first fun x Z1 φ1 H1 dx s1 e1 S1 R1 w1 => ?_⟩
  by_cases ht : ty s1 dx = true
  · rw [if_pos ht] at w1
    refine ⟨htv s1 dx Z1 φ1 H1 x ht S1 R1, Z1, φ1, s1, ρ, S1, E.mono e1.e0, w1.first fun y Z2 φ2 H2 dy s2 e2 S2 R2 w2 => ?_⟩
    exact rP_of S2 (Reps.cons (Rep.mono e2.e0 _ _ R1) R2) w2
  · rw [if_neg ht] at w1
    exact w1.elim
theorem x_bm0 {o : Expr} {name : Str} {apos cpos : Pos} {Ty id : String} {f : Env → List O → RR D} {h : Pr} (ty : List O → D → Bool) (pa : PlainAttrs Ty) (slot : Slot Ty name id) (hty : typeOf (.builtin id) = pure (.type "method_descriptor")) (hm : MtR X id fun x xs => rP X T h (x :: xs))
    (htv : ∀ st d Z φ H v, ty st d = true → Sim X.K T Z φ st H → Rep X.K Z φ d v → tyV X.K Ty v H) (ho : PE X o (tE X T W f))
    (hbase : attributeBase o name X.env (eval o X.env) = eval o X.env) (hline : (apos.endLine == cpos.line) = true) :
    PE X (.Call (.Attribute o name apos) [] [] cpos) (tE X T W fun ρ st => (f ρ st).bind fun x s1 => if ty s1 x = true then liftP (h s1 [x]) else .err) := by
  refine pe_imp (pe_bm0 pa slot hty hm ho hbase hline) fun σ H Q q => ?_
  obtain ⟨Z, φ, st, ρ, S, E, w⟩ := q
  refine ⟨Z, φ, st, ρ, S, E, w.first fun x Z1 φ1 H1 dx s1 e1 S1 R1 w1 => ?_⟩
  by_cases ht : ty s1 dx = true
  · rw [if_pos ht] at w1
    exact ⟨htv s1 dx Z1 φ1 H1 x ht S1 R1, rP_of S1 (Reps.cons R1 Reps.nil) w1⟩
  · rw [if_neg ht] at w1
    exact w1.elim
/-- a[b] -/
theorem x_ix {a b : Expr} {pos : Pos} {f g : Env → List O → RR D} {h : Pr} (ho : IxR X fun x y => rP X T h [x, y]) (ha : PE X a (tE X T W f)) (hb : PE X b (tE X T W g)) (hs : PlainIx b) : PE X (.Subscript a b pos) (tE X T W (eBin h f g)) := by
  refine pe_imp (pe_ix ho ha hb hs) fun σ H Q q => ?_
  exact two (ta := fun _ _ _ => True) (tb := fun _ _ _ => True) (a := a) (b := b) q fun x y dx dy Z φ st H' S R w => rP_of S R w
/-- a tuple -/
def eTup (f : Env → List O → RR (List D)) : Env → List O → RR D := fun ρ st => (f ρ st).bind fun xs s1 => if xs.length ≤ sizeLine then .ok (.tup xs) s1 else .err
theorem x_tup {es : List Expr} {k : Nat} {pos : Pos} {f : Env → List O → RR (List D)} (ha : PA X es (tA X T W f)) : PE X (.Tuple es k pos) (tE X T W (eTup f)) := by
  refine pe_imp (pe_tup ha) fun σ H Q q => ?_
  obtain ⟨Z, φ, st, ρ, S, E, w⟩ := q
  refine ⟨Z, φ, st, ρ, S, E, w.first fun vs Z1 φ1 H1 ds s1 e1 S1 R1 w1 => ?_⟩
  by_cases hl : ds.length ≤ sizeLine
  · rw [if_pos hl] at w1
    refine ⟨by rw [← R1.len]; exact hl, fun p hp => ?_⟩
    obtain ⟨e2, S2⟩ := S1.freeze (o := .tup vs) hp
    exact w1 (.ref p) _ _ _ e2 S2 ⟨p, vs, rfl, SqT.of upd_same, R1.mono e2.e0⟩
  · rw [if_neg hl] at w1
    exact w1.elim
/-- a list display: new -/
def eLim (f : Env → List O → RR (List D)) : Env → List O → RR (List D) := fun ρ st => (f ρ st).bind fun xs s1 => if xs.length ≤ sizeLine then .ok xs s1 else .err
theorem x_lst {es : List Expr} {pos : Pos} {f : Env → List O → RR (List D)} (ha : PA X es (tA X T W f)) : PE X (.List es pos) (tF X T W (eLim f)) := by
  refine pe_imp (pe_lst ha) fun σ H Q q => ?_
  obtain ⟨Z, φ, st, ρ, S, E, w⟩ := q
  refine ⟨Z, φ, st, ρ, S, E, w.first fun vs Z1 φ1 H1 ds s1 e1 S1 R1 w1 => ?_⟩
  by_cases hl : ds.length ≤ sizeLine
  · rw [if_pos hl] at w1
    refine ⟨by rw [← R1.len]; exact hl, fun p hp => ?_⟩
    have S2 : Sim X.K T Z1 φ1 s1 (upd H1 p (.lst vs)) := S1.same (same_upd hp)
    have hn : p ∉ φ1 := fun z => by
      obtain ⟨u, hu⟩ := S1.mem z
      rw [hp] at hu
      cases hu
    have hz : Z1 p = none := by
      cases q : Z1 p with
      | none => rfl
      | some u =>
        rw [S1.fz p u q] at hp
        cases hp
    exact w1 (.ref p) _ _ _ (Ext.same (same_upd hp)) S2 ⟨p, vs, rfl, upd_same, .of hp, hn, hz, R1⟩
  · rw [if_neg hl] at w1
    exact w1.elim
/-- a new list that stays as it is; one that is the store's -/
def eFrz (f : Env → List O → RR (List D)) : Env → List O → RR D := fun ρ st => (f ρ st).bind fun xs s1 => .ok (.lst xs) s1
def eAll (f : Env → List O → RR (List D)) : Env → List O → RR D := fun ρ st => (f ρ st).bind fun xs s1 => .ok (.loc s1.length) (s1 ++ [.lst xs])
theorem x_frz {e : Expr} {f : Env → List O → RR (List D)} (ha : PE X e (tF X T W f)) : PE X e (tE X T W (eFrz f)) := by
  refine pe_imp ha fun σ H Q q => ?_
  obtain ⟨Z, φ, st, ρ, S, E, w⟩ := q
  refine ⟨Z, φ, st, ρ, S, E, w.first0 fun v Z1 φ1 H1 ds s1 e1 S1 R1 w1 => ?_⟩
  obtain ⟨p, xs, rfl, h1, h0, h2, h3, h4⟩ := R1
  obtain ⟨⟨e3, e2⟩, S2⟩ := Sim.keep e1 S1 h0 h1 h2 h3
  exact w1 (.ref p) _ _ _ e2 S2 ⟨p, xs, rfl, Rd.of upd_same, h4.mono e3⟩
theorem x_all {e : Expr} {f : Env → List O → RR (List D)} (ha : PE X e (tF X T W f)) : PE X e (tE X T W (eAll f)) := by
  refine pe_imp ha fun σ H Q q => ?_
  obtain ⟨Z, φ, st, ρ, S, E, w⟩ := q
  refine ⟨Z, φ, st, ρ, S, E, w.first0 fun v Z1 φ1 H1 ds s1 e1 S1 R1 w1 => ?_⟩
  obtain ⟨p, xs, rfl, h1, h0, h2, h3, h4⟩ := R1
  obtain ⟨e2, S2⟩ := Sim.alloc e1 S1 (o := .lst ds) h0 h2 h3 ⟨xs, h1, h4⟩
  refine w1 (.ref p) _ _ _ e2 S2 ⟨p, ?_, rfl⟩
  rw [← S1.ln]
  simp
/-- a call of a built-in that gives a new list -/
abbrev PrL := List O → List D → Option (List D)
def rPL (X : Cx) (T : List (Addr × Str)) (h : PrL) : List V → Hp → VK → Prop := fun xs H Q => ∃ Z φ st ds d, Sim X.K T Z φ st H ∧ Reps X.K Z φ ds xs ∧ h st ds = some d ∧
  ∀ v Z' φ' H', Ext Z φ H Z' φ' H' → Sim X.K T Z' φ' st H' → repF X H Z' φ' H' d v → Q v H'
def liftL (st : List O) : Option (List D) → RR (List D)
  | some d => .ok d st
  | none => .err
def ePL (h : PrL) (f : Env → List O → RR (List D)) : Env → List O → RR (List D) := fun ρ st => (f ρ st).bind fun xs s1 => liftL s1 (h s1 xs)
theorem rPL_of {σ : L2.St} {h : PrL} {Z : Hp} {φ : List Addr} {st : List O} {H : Hp} {ds : List D} {xs : List V} {Q : VK} (S : Sim X.K T Z φ st H) (R : Reps X.K Z φ ds xs) (w : WpG X T W σ (repF X) Z φ H (liftL st (h st ds)) Q) : rPL X T h xs H Q := by
  cases e : h st ds with
  | none =>
    rw [e] at w
    exact w.elim
  | some p =>
    rw [e] at w
    exact ⟨Z, φ, st, ds, p, S, R, e, fun v Z' φ' H' a b c => w v Z' φ' H' a b c⟩
theorem x_callBL {x : Str} {p pos : Pos} {e : Expr} {es : List Expr} {f : Env → List O → RR (List D)} {h : PrL} {id : String} (hc : CallR X (.builtin id) (rPL X T h)) (hg : Gl X x) (hm : X.mg x = none) (hv : bootBuiltins x = some (.builtin id)) (ha : PA X (e :: es) (tA X T W f)) (hn : x ≠ "__name__") (hdb : (x == ("__debug__" : Str)) = false)
    (he : starEach (e :: es) X.env = (false, eval e X.env) :: starEach es X.env) (hpl : (backTo pos (starEach es X.env)).any (·.1) = false) : PE X (.Call (.Name x p) (e :: es) [] pos) (tF X T W (ePL h f)) := by
  refine pe_imp (pe_callB hc hg hm hv ha hn hdb he hpl) fun σ H Q q => ?_
  obtain ⟨Z, φ, st, ρ, S, E, w⟩ := q
  exact ⟨Z, φ, st, ρ, S, E, w.first fun x Z1 φ1 H1 dx s1 e1 S1 R1 w1 => rPL_of S1 R1 w1⟩
theorem x_callTyL {x : Str} {p pos : Pos} {e : Expr} {es : List Expr} {f : Env → List O → RR (List D)} {h : PrL} {id : String} (hc : CallR X (.type id) (rPL X T h)) (hg : Gl X x) (hm : X.mg x = none) (hv : bootBuiltins x = some (.type id)) (ha : PA X (e :: es) (tA X T W f)) (hn : x ≠ "__name__") (hdb : (x == ("__debug__" : Str)) = false)
    (he : starEach (e :: es) X.env = (false, eval e X.env) :: starEach es X.env) (hpl : (backTo pos (starEach es X.env)).any (·.1) = false) : PE X (.Call (.Name x p) (e :: es) [] pos) (tF X T W (ePL h f)) := by
  refine pe_imp (pe_callTy hc hg hm hv ha hn hdb he hpl) fun σ H Q q => ?_
  obtain ⟨Z, φ, st, ρ, S, E, w⟩ := q
  exact ⟨Z, φ, st, ρ, S, E, w.first fun x Z1 φ1 H1 dx s1 e1 S1 R1 w1 => rPL_of S1 R1 w1⟩

/-! ### truth -/
def eIs (f : Env → List O → RR D) : Env → List O → RR Bool := fun ρ st => (f ρ st).bind fun x s1 => match x with
  | .bl b => .ok b s1
  | _ => .err
def truth (st : List O) : D → Option Bool
  | .non => some false
  | .bl b => some b
  | .int i => some (i != 0)
  | .str x => if x.length ≤ sizeLine then some ((x.length : Int) != 0) else none
  | .tup xs => some !xs.isEmpty
  | .lst xs => some !xs.isEmpty
  | .loc n => match st[n]? with
    | some (.lst xs) => some !xs.isEmpty
    | some (.dic kvs) => some !kvs.isEmpty
    | none => none
  | .scr xs => some !xs.isEmpty
def eTru (f : Env → List O → RR D) : Env → List O → RR Bool := fun ρ st => (f ρ st).bind fun x s1 => match truth s1 x with
  | some b => .ok b s1
  | none => .err
theorem isEmpty_len {α β : Type} {xs : List α} {ys : List β} (h : xs.length = ys.length) : xs.isEmpty = ys.isEmpty := by
  cases xs <;> cases ys <;> simp at h ⊢
theorem truth_ok {Z : Hp} {φ : List Addr} {st : List O} {H : Hp} {d : D} {v : V} {b : Bool} (S : Sim X.K T Z φ st H) (R : Rep X.K Z φ d v) (h : truth st d = some b) : TruV X.K v H b := by
  cases d with
  | non =>
    have R' : v = .non := R
    subst R'
    have h' : some false = some b := h
    exact (Option.some.inj h').symm
  | bl k =>
    have R' : v = .bl k := R
    subst R'
    have h' : some k = some b := h
    exact (Option.some.inj h').symm
  | int i =>
    have R' : v = .int i := R
    subst R'
    have h' : some (i != 0) = some b := h
    exact (Option.some.inj h').symm
  | str x =>
    have R' : v = .str x := R
    subst R'
    have h' : (if x.length ≤ sizeLine then some ((x.length : Int) != 0) else none) = some b := h
    by_cases hl : x.length ≤ sizeLine
    · rw [if_pos hl] at h'
      exact ⟨hl, (Option.some.inj h').symm⟩
    · rw [if_neg hl] at h'
      cases h'
  | tup ds =>
    obtain ⟨a, xs, rfl, h1, h2⟩ := R
    have h' : some (!ds.isEmpty) = some b := h
    refine Or.inr (Or.inl ⟨xs, sqT_mono S.fz h1, ?_⟩)
    rw [← Option.some.inj h', isEmpty_len h2.len]
  | lst ds =>
    obtain ⟨a, xs, rfl, h1, h2⟩ := R
    have h' : some (!ds.isEmpty) = some b := h
    refine Or.inl ⟨xs, .inl (rd_mono S.fz h1), ?_⟩
    rw [← Option.some.inj h', isEmpty_len h2.len]
  | scr ds =>
    obtain ⟨a, xs, rfl, h1, h2⟩ := R
    have h' : some (!ds.isEmpty) = some b := h
    refine Or.inl ⟨xs, sqL_mono S.fz h1, ?_⟩
    rw [← Option.some.inj h', isEmpty_len h2.len]
  | loc n =>
    obtain ⟨a, h1, rfl⟩ := R
    obtain ⟨o, g, r⟩ := S.atA h1
    have h0 : (match st[n]? with
      | some (O.lst xs) => some !xs.isEmpty
      | some (O.dic kvs) => some !kvs.isEmpty
      | none => none) = some b := h
    rw [g] at h0
    cases o with
    | lst ds =>
      obtain ⟨xs, q1, q2⟩ := r
      have h' : some (!ds.isEmpty) = some b := h0
      refine Or.inl ⟨xs, SqL.of q1, ?_⟩
      rw [← Option.some.inj h', isEmpty_len q2.len]
    | dic kvs =>
      obtain ⟨ws, q1, q2, q3⟩ := r
      have h' : some (!kvs.isEmpty) = some b := h0
      refine Or.inr (Or.inr ⟨ws, q1, ?_⟩)
      have hl := congrArg List.length q2
      simp only [List.length_map] at hl
      rw [← Option.some.inj h', isEmpty_len hl]
theorem x_tru {a : Expr} {f : Env → List O → RR D} (ha : PE X a (tE X T W f)) (he : ∀ whole, isTrue a X.env whole = (do let v ← whole; standAt a.pos; holding [v] (truthy v))) : PT X a (tB X T W (eTru f)) := by
  refine pt_imp (pt_truth ha he) fun σ H Q q => ?_
  obtain ⟨Z, φ, st, ρ, S, E, w⟩ := q
  refine ⟨Z, φ, st, ρ, S, E, w.first fun v Z1 φ1 H1 d s1 e1 S1 R1 w1 => ?_⟩
  cases ht : truth s1 d with
  | none =>
    rw [ht] at w1
    exact w1.elim
  | some b =>
    rw [ht] at w1
    exact ⟨b, truth_ok S1 R1 ht, w1.ok S1 rfl⟩
theorem x_tcmp {op : CmpOp} {a b : Expr} {pos : Pos} {f g : Env → List O → RR D} {h : Pr} (ho : OpR X (compareOp op) fun x y => rP X T h [x, y]) (ha : PE X a (tE X T W f)) (hb : PE X b (tE X T W g)) (hm : behindInMarks op b = false) : PT X (.Compare a [op] [b] pos) (tB X T W (eIs (eBin h f g))) := by
  refine pt_imp (pt_cmpR ho ha hb hm) fun σ H Q q => ?_
  refine two (k := fun x y s => liftP (h s [x, y])) (ta := fun _ _ _ => True) (tb := fun _ _ _ => True) (a := a) (b := b) (Q := fun x H' => ∃ k, x = .bl k ∧ Q k H') ?_ fun x y dx dy Z φ st H' S R w => rP_of S R w
  obtain ⟨Z, φ, st, ρ, S, E, w⟩ := q
  refine ⟨Z, φ, st, ρ, S, E, w.first fun v Z1 φ1 H1 d s1 e1 S1 R1 w1 => ?_⟩
  cases d with
  | bl k =>
    have R' : v = .bl k := R1
    exact ⟨k, R', w1.ok S1 rfl⟩
  | _ => exact w1.elim
def eNot (f : Env → List O → RR Bool) : Env → List O → RR Bool := fun ρ st => (f ρ st).bind fun x s1 => .ok (!x) s1
theorem x_tnot {a : Expr} {pos : Pos} {f : Env → List O → RR Bool} (ha : PT X a (tB X T W f)) : PT X (.UnaryOp .Not a pos) (tB X T W (eNot f)) := by
  refine pt_imp (pt_not ha) fun σ H Q q => ?_
  obtain ⟨Z, φ, st, ρ, S, E, w⟩ := q
  refine ⟨Z, φ, st, ρ, S, E, w.first fun v Z1 φ1 H1 d s1 e1 S1 R1 w1 => ?_⟩
  cases R1
  exact w1.ok S1 rfl
def eAndT (f g : Env → List O → RR Bool) : Env → List O → RR Bool := fun ρ st => (f ρ st).bind fun x s1 => if x = true then g ρ s1 else .ok false s1
def eOrT (f g : Env → List O → RR Bool) : Env → List O → RR Bool := fun ρ st => (f ρ st).bind fun x s1 => if x = true then .ok true s1 else g ρ s1
theorem x_tand {a b : Expr} {rest : List Expr} {pos : Pos} {f g : Env → List O → RR Bool} (ha : PT X a (tB X T W f)) (hb : PW X (.BoolOp .And (b :: rest) pos) (tB X T W g)) : PW X (.BoolOp .And (a :: b :: rest) pos) (tB X T W (eAndT f g)) := by
  refine pw_imp (pw_and ha hb) fun σ H Q q => ?_
  obtain ⟨Z, φ, st, ρ, S, E, w⟩ := q
  refine ⟨Z, φ, st, ρ, S, E, w.first fun v Z1 φ1 H1 d s1 e1 S1 R1 w1 => ?_⟩
  cases R1
  cases v with
  | true => exact ⟨Z1, φ1, s1, ρ, S1, E.mono e1.e0, w1⟩
  | false => exact w1.ok S1 rfl
theorem x_tor {a b : Expr} {rest : List Expr} {pos : Pos} {f g : Env → List O → RR Bool} (ha : PT X a (tB X T W f)) (hb : PW X (.BoolOp .Or (b :: rest) pos) (tB X T W g)) : PW X (.BoolOp .Or (a :: b :: rest) pos) (tB X T W (eOrT f g)) := by
  refine pw_imp (pw_or ha hb) fun σ H Q q => ?_
  obtain ⟨Z, φ, st, ρ, S, E, w⟩ := q
  refine ⟨Z, φ, st, ρ, S, E, w.first fun v Z1 φ1 H1 d s1 e1 S1 R1 w1 => ?_⟩
  cases R1
  cases v with
  | true => exact w1.ok S1 rfl
  | false => exact ⟨Z1, φ1, s1, ρ, S1, E.mono e1.e0, w1⟩
/-- values by truth values -/
def eAndV (f g : Env → List O → RR D) : Env → List O → RR D := fun ρ st => (f ρ st).bind fun x s1 => match x with
  | .bl true => g ρ s1
  | .bl false => .ok (.bl false) s1
  | _ => .err
def eOrV (f g : Env → List O → RR D) : Env → List O → RR D := fun ρ st => (f ρ st).bind fun x s1 => match x with
  | .bl true => .ok (.bl true) s1
  | .bl false => g ρ s1
  | _ => .err
def eNotV (f : Env → List O → RR D) : Env → List O → RR D := fun ρ st => (f ρ st).bind fun x s1 => match x with
  | .bl b => .ok (.bl !b) s1
  | _ => .err
theorem x_andV {a b : Expr} {rest : List Expr} {pos : Pos} {f g : Env → List O → RR D} (ha : PE X a (tE X T W f)) (hb : PE X (.BoolOp .And (b :: rest) pos) (tE X T W g)) : PE X (.BoolOp .And (a :: b :: rest) pos) (tE X T W (eAndV f g)) := by
  refine pe_imp (pe_and ha hb) fun σ H Q q => ?_
  obtain ⟨Z, φ, st, ρ, S, E, w⟩ := q
  refine ⟨Z, φ, st, ρ, S, E, w.first fun v Z1 φ1 H1 d s1 e1 S1 R1 w1 => ?_⟩
  cases d with
  | bl k =>
    have R' : v = .bl k := R1
    refine ⟨k, R', ?_⟩
    cases k with
    | true => exact ⟨Z1, φ1, s1, ρ, S1, E.mono e1.e0, w1⟩
    | false => exact w1.ok S1 rfl
  | _ => exact w1.elim
theorem x_orV {a b : Expr} {rest : List Expr} {pos : Pos} {f g : Env → List O → RR D} (ha : PE X a (tE X T W f)) (hb : PE X (.BoolOp .Or (b :: rest) pos) (tE X T W g)) : PE X (.BoolOp .Or (a :: b :: rest) pos) (tE X T W (eOrV f g)) := by
  refine pe_imp (pe_or ha hb) fun σ H Q q => ?_
  obtain ⟨Z, φ, st, ρ, S, E, w⟩ := q
  refine ⟨Z, φ, st, ρ, S, E, w.first fun v Z1 φ1 H1 d s1 e1 S1 R1 w1 => ?_⟩
  cases d with
  | bl k =>
    have R' : v = .bl k := R1
    refine ⟨k, R', ?_⟩
    cases k with
    | true => exact w1.ok S1 rfl
    | false => exact ⟨Z1, φ1, s1, ρ, S1, E.mono e1.e0, w1⟩
  | _ => exact w1.elim
theorem x_notV {a : Expr} {pos : Pos} {f : Env → List O → RR D} (ha : PE X a (tE X T W f)) : PE X (.UnaryOp .Not a pos) (tE X T W (eNotV f)) := by
  refine pe_imp (pe_not ha) fun σ H Q q => ?_
  obtain ⟨Z, φ, st, ρ, S, E, w⟩ := q
  refine ⟨Z, φ, st, ρ, S, E, w.first fun v Z1 φ1 H1 d s1 e1 S1 R1 w1 => ?_⟩
  cases d with
  | bl k =>
    have R' : v = .bl k := R1
    exact ⟨k, R', w1.ok S1 rfl⟩
  | _ => exact w1.elim
def eIfE (t : Env → List O → RR Bool) (f g : Env → List O → RR D) : Env → List O → RR D := fun ρ st => (t ρ st).bind fun x s1 => if x = true then f ρ s1 else g ρ s1
theorem x_ifE {c a b : Expr} {pos : Pos} {t : Env → List O → RR Bool} {f g : Env → List O → RR D} (hc : PT X c (tB X T W t)) (ha : PE X a (tE X T W f)) (hb : PE X b (tE X T W g)) : PE X (.IfExp c a b pos) (tE X T W (eIfE t f g)) := by
  refine pe_imp (pe_ifExp hc ha hb) fun σ H Q q => ?_
  obtain ⟨Z, φ, st, ρ, S, E, w⟩ := q
  refine ⟨Z, φ, st, ρ, S, E, w.first fun v Z1 φ1 H1 d s1 e1 S1 R1 w1 => ?_⟩
  cases R1
  cases v with
  | true => exact ⟨Z1, φ1, s1, ρ, S1, E.mono e1.e0, w1⟩
  | false => exact ⟨Z1, φ1, s1, ρ, S1, E.mono e1.e0, w1⟩
/-- a op b op' c -/
def eCh (h h' : Pr) (f g k : Env → List O → RR D) : Env → List O → RR D := fun ρ st => (f ρ st).bind fun x s1 => (g ρ s1).bind fun y s2 => (liftP (h s2 [x, y])).bind fun z s3 => match z with
  | .bl true => (k ρ s3).bind fun w s4 => liftP (h' s4 [y, w])
  | .bl false => .ok (.bl false) s3
  | _ => .err
end
end Tl
/-! TIter: chains, slices, what is walked, targets, comprehensions. -/
namespace Tl
open PySem L2
section
variable {X : Cx} {T : List (Addr × Str)} {W : WX}

theorem x_ch {op op' : CmpOp} {a b c : Expr} {pos : Pos} {f g k : Env → List O → RR D} {h h' : Pr} (ho : OpR X (compareOp op) fun x y => rP X T h [x, y]) (ho' : OpR X (compareOp op') fun x y => rP X T h' [x, y]) (ha : PE X a (tE X T W f)) (hb : PE X b (tE X T W g)) (hc : PE X c (tE X T W k))
    (hm : lastMarks [op, op'] [b, c] = false) : PE X (.Compare a [op, op'] [b, c] pos) (tE X T W (eCh h h' f g k)) := by
  refine pe_imp (pe_chain ho ho' ha hb hc hm) fun σ H Q q => ?_
  obtain ⟨Z, φ, st, ρ, S, E, w⟩ := q
  refine ⟨Z, φ, st, ρ, S, E, w.first fun x Z1 φ1 H1 dx s1 e1 S1 R1 w1 => ?_⟩
  refine ⟨Z1, φ1, s1, ρ, S1, E.mono e1.e0, w1.first fun y Z2 φ2 H2 dy s2 e2 S2 R2 w2 => ?_⟩
  refine rP_of S2 (Reps.cons (Rep.mono e2.e0 _ _ R1) (Reps.cons R2 Reps.nil)) (W := W) (σ := σ) (w2.first fun z Z3 φ3 H3 dz s3 e3 S3 R3 w3 => ?_)
  cases dz with
  | bl j =>
    have R' : z = .bl j := R3
    refine ⟨j, R', ?_⟩
    cases j with
    | true =>
      rw [if_pos rfl]
      refine ⟨Z3, φ3, s3, ρ, S3, E.mono ((e1.trans e2).trans e3).e0, w3.first fun u Z4 φ4 H4 du s4 e4 S4 R4 w4 => ?_⟩
      exact rP_of S4 (Reps.cons (Rep.mono (e3.trans e4).e0 _ _ R2) (Reps.cons R4 Reps.nil)) w4
    | false =>
      rw [if_neg (by decide)]
      exact w3.ok S3 rfl
  | _ => exact w3.elim
theorem x_tch {op op' : CmpOp} {a b c : Expr} {pos : Pos} {f g k : Env → List O → RR D} {h h' : Pr} (ho : OpR X (compareOp op) fun x y => rP X T h [x, y]) (ho' : OpR X (compareOp op') fun x y => rP X T h' [x, y]) (ha : PE X a (tE X T W f)) (hb : PE X b (tE X T W g)) (hc : PE X c (tE X T W k))
    (hm : lastMarks [op, op'] [b, c] = false) : PT X (.Compare a [op, op'] [b, c] pos) (tB X T W (eIs (eCh h h' f g k))) := by
  refine pt_imp (pt_chain ho ho' ha hb hc hm) fun σ H Q q => ?_
  have q' : tE X T W (eCh h h' f g k) σ H fun v H' => ∃ b, v = .bl b ∧ Q b H' := by
    obtain ⟨Z, φ, st, ρ, S, E, w⟩ := q
    refine ⟨Z, φ, st, ρ, S, E, w.first fun v Z1 φ1 H1 d s1 e1 S1 R1 w1 => ?_⟩
    cases d with
    | bl k =>
      have R' : v = .bl k := R1
      exact ⟨k, R', w1.ok S1 rfl⟩
    | _ => exact w1.elim
  obtain ⟨Z, φ, st, ρ, S, E, w⟩ := q'
  refine ⟨Z, φ, st, ρ, S, E, w.first fun x Z1 φ1 H1 dx s1 e1 S1 R1 w1 => ?_⟩
  refine ⟨Z1, φ1, s1, ρ, S1, E.mono e1.e0, w1.first fun y Z2 φ2 H2 dy s2 e2 S2 R2 w2 => ?_⟩
  refine rP_of S2 (Reps.cons (Rep.mono e2.e0 _ _ R1) (Reps.cons R2 Reps.nil)) (W := W) (σ := σ) (w2.first fun z Z3 φ3 H3 dz s3 e3 S3 R3 w3 => ?_)
  cases dz with
  | bl j =>
    have R' : z = .bl j := R3
    refine ⟨j, R', ?_⟩
    cases j with
    | true =>
      rw [if_pos rfl]
      refine ⟨Z3, φ3, s3, ρ, S3, E.mono ((e1.trans e2).trans e3).e0, w3.first fun u Z4 φ4 H4 du s4 e4 S4 R4 w4 => ?_⟩
      exact rP_of S4 (Reps.cons (Rep.mono (e3.trans e4).e0 _ _ R2) (Reps.cons R4 Reps.nil)) w4
    | false =>
      rw [if_neg (by decide)]
      exact w3.ok S3 rfl
  | _ => exact w3.elim

/-! ### slices -/
def repO : Hp → Hp → List Addr → Hp → Option Int → Option Int → Prop := fun _ _ _ _ a b => a = b
instance : RM repO := ⟨fun _ h => h⟩
abbrev tO (X : Cx) (T : List (Addr × Str)) (W : WX) (f : Env → List O → RR (Option Int)) : TO := tG X T W repO f
def eNoPart : Env → List O → RR (Option Int) := fun _ st => .ok none st
def ePart (f : Env → List O → RR D) : Env → List O → RR (Option Int) := fun ρ st => (f ρ st).bind fun x s1 => match x with
  | .int i => .ok (some i) s1
  | _ => .err
theorem po_imp {e : Option Expr} {t u : TO} (h : PO X e t) (i : ∀ σ H Q, u σ H Q → t σ H Q) : PO X e u := ⟨fun pins s σ H Q I q => h.run pins s σ H Q I (i _ _ _ q)⟩
theorem x_noPart : PO X none (tO X T W eNoPart) := po_imp po_none fun σ H Q q => by
  obtain ⟨Z, φ, st, ρ, S, E, w⟩ := q
  exact w.ok S rfl
theorem x_part {e : Expr} {f : Env → List O → RR D} (ha : PE X e (tE X T W f)) : PO X (some e) (tO X T W (ePart f)) := po_imp (po_some ha) fun σ H Q q => by
  obtain ⟨Z, φ, st, ρ, S, E, w⟩ := q
  refine ⟨Z, φ, st, ρ, S, E, w.first fun x Z1 φ1 H1 dx s1 e1 S1 R1 w1 => ?_⟩
  cases dx with
  | int i =>
    have R' : x = .int i := R1
    exact ⟨i, R', w1.ok S1 rfl⟩
  | _ => exact w1.elim
abbrev PrS := List O → D → Option Int → Option Int → Option D
def rSl (X : Cx) (T : List (Addr × Str)) (h : PrS) : V → Option Int → Option Int → Hp → VK → Prop := fun x lo hi H Q => ∃ Z φ st d e, Sim X.K T Z φ st H ∧ Rep X.K Z φ d x ∧ h st d lo hi = some e ∧
  ∀ v Z' φ' H', Ext Z φ H Z' φ' H' → Sim X.K T Z' φ' st H' → Rep X.K Z' φ' e v → Q v H'
def liftD (st : List O) : Option D → RR D
  | some d => .ok d st
  | none => .err
def eSl (h : PrS) (f : Env → List O → RR D) (lo hi : Env → List O → RR (Option Int)) : Env → List O → RR D := fun ρ st => (f ρ st).bind fun x s1 => (lo ρ s1).bind fun l s2 => (hi ρ s2).bind fun u s3 => liftD s3 (h s3 x l u)
theorem x_slice {h : PrS} {e : Expr} {lo hi : Option Expr} {pos p2 : Pos} {f : Env → List O → RR D} {l u : Env → List O → RR (Option Int)} (hr : SlR X (rSl X T h)) (he : PE X e (tE X T W f)) (hl : PO X lo (tO X T W l)) (hu : PO X hi (tO X T W u)) :
    PE X (.Subscript e (.Slice lo hi none p2) pos) (tE X T W (eSl h f l u)) := by
  refine pe_imp (pe_slice hr he hl hu) fun σ H Q q => ?_
  obtain ⟨Z, φ, st, ρ, S, E, w⟩ := q
  refine ⟨Z, φ, st, ρ, S, E, w.first fun x Z1 φ1 H1 dx s1 e1 S1 R1 w1 => ?_⟩
  refine ⟨Z1, φ1, s1, ρ, S1, E.mono e1.e0, w1.first fun a Z2 φ2 H2 da s2 e2 S2 R2 w2 => ?_⟩
  refine ⟨Z2, φ2, s2, ρ, S2, E.mono (e1.trans e2).e0, w2.first fun b Z3 φ3 H3 db s3 e3 S3 R3 w3 => ?_⟩
  cases R2
  cases R3
  have R1' := Rep.mono (e2.trans e3).e0 _ _ R1
  cases ht : h s3 dx a b with
  | none =>
    rw [ht] at w3
    exact w3.elim
  | some d =>
    rw [ht] at w3
    exact ⟨Z3, φ3, s3, dx, d, S3, R1', ht, fun v Z' φ' H' e4 S4 R4 => w3 v Z' φ' H' e4 S4 R4⟩

/-! ### what is walked -/
structure Src where
  its : List D
  at' : Option Nat
/-- the walked list of the store stands as it is -/
def Src.gd (s : Src) (st : List O) : Bool := match s.at' with
  | none => true
  | some n => match st[n]? with
    | some (.lst l) => decide (l = s.its)
    | _ => false
structure Feeds (X : Cx) (T : List (Addr × Str)) (Z0 : Hp) (φ0 : List Addr) (H0 : Hp) (J : It) (s : Src) : Prop where
  go : ∀ Z φ st H i, Ext Z0 φ0 H0 Z φ H → Sim X.K T Z φ st H → s.gd st = true → i < s.its.length → J.go i H
  stop : ∀ Z φ st H, Ext Z0 φ0 H0 Z φ H → Sim X.K T Z φ st H → s.gd st = true → J.stop s.its.length H
  yld : ∀ Z φ st H i d x H', Ext Z0 φ0 H0 Z φ H → Sim X.K T Z φ st H → s.gd st = true → s.its[i]? = some d → J.yld i H x H' → ∃ Z', Ext Z φ H Z' φ H' ∧ Sim X.K T Z' φ st H' ∧ Rep X.K Z' φ d x
def repI (X : Cx) (T : List (Addr × Str)) : Hp → Hp → List Addr → Hp → Src → It → Prop := fun _ Z φ H s J => Feeds X T Z φ H J s
instance {X : Cx} {T : List (Addr × Str)} : RM (repI X T) := ⟨fun _ h => h⟩
abbrev tI (X : Cx) (T : List (Addr × Str)) (W : WX) (f : Env → List O → RR Src) : TI := tG X T W (repI X T) f
theorem pi_imp {tg e : Expr} {t u : TI} (h : PI X tg e t) (i : ∀ σ H R, u σ H R → t σ H R) : PI X tg e u := ⟨fun pins s σ H R I q => h.run pins s σ H R I (i _ _ _ q)⟩
theorem pi_or {tg e : Expr} {t u : TI} (h : PI X tg e t) (h' : PI X tg e u) : PI X tg e (fun σ H R => t σ H R ∨ u σ H R) := ⟨fun pins s σ H R I q => q.elim (fun z => h.run pins s σ H R I z) fun z => h'.run pins s σ H R I z⟩
/-- the signs of a text -/
def signs (x : Str) : List D := x.cps.toList.map fun c => .str ⟨#[c]⟩
def srcOf (st : List O) : D → Option Src
  | .tup ds => some ⟨ds, none⟩
  | .lst ds => some ⟨ds, none⟩
  | .str x => some ⟨signs x, none⟩
  | .scr ds => some ⟨ds, none⟩
  | .loc n => match st[n]? with
    | some (.lst ds) => some ⟨ds, some n⟩
    | _ => none
  | _ => none
def eSrc (f : Env → List O → RR D) : Env → List O → RR Src := fun ρ st => (f ρ st).bind fun x s1 => match srcOf s1 x with
  | some s => .ok s s1
  | none => .err
/-- a frozen list, a tuple: what is read there is one -/
theorem feeds_lst {Z φ H st} {a : Addr} {xs : List V} {ds : List D} (S : Sim X.K T Z φ st H) (h : SqL X.K Z a xs) (r : Reps X.K Z φ ds xs) : Feeds X T Z φ H (Itl X.K a) ⟨ds, none⟩ where
  go := fun Z1 φ1 st1 H1 i e S1 _ hi => by
    have hx : i < xs.length := by rw [← r.len]; exact hi
    exact ⟨xs, xs[i], sqL_mono S1.fz (sqL_mono e.z h), List.getElem?_eq_getElem hx⟩
  stop := fun Z1 φ1 st1 H1 e S1 _ => ⟨xs, sqL_mono S1.fz (sqL_mono e.z h), by rw [← r.len]; exact Nat.le_refl _⟩
  yld := fun Z1 φ1 st1 H1 i d x H' e S1 _ hd y => by
    obtain ⟨rfl, y⟩ := y
    obtain ⟨v, h1, h2⟩ := r.get hd
    have h3 := y xs (sqL_mono S1.fz (sqL_mono e.z h))
    rw [h1] at h3
    cases h3
    exact ⟨Z1, Ext.refl, S1, h2.mono e.e0⟩
theorem feeds_tup {Z φ H st} {a : Addr} {xs : List V} {ds : List D} (S : Sim X.K T Z φ st H) (h : SqT X.K Z a xs) (r : Reps X.K Z φ ds xs) : Feeds X T Z φ H (Itt X.K a) ⟨ds, none⟩ where
  go := fun Z1 φ1 st1 H1 i e S1 _ hi => by
    have hx : i < xs.length := by rw [← r.len]; exact hi
    exact ⟨xs, xs[i], sqT_mono S1.fz (sqT_mono e.z h), List.getElem?_eq_getElem hx⟩
  stop := fun Z1 φ1 st1 H1 e S1 _ => ⟨xs, sqT_mono S1.fz (sqT_mono e.z h), by rw [← r.len]; exact Nat.le_refl _⟩
  yld := fun Z1 φ1 st1 H1 i d x H' e S1 _ hd y => by
    obtain ⟨rfl, y⟩ := y
    obtain ⟨v, h1, h2⟩ := r.get hd
    have h3 := y xs (sqT_mono S1.fz (sqT_mono e.z h))
    rw [h1] at h3
    cases h3
    exact ⟨Z1, Ext.refl, S1, h2.mono e.e0⟩
theorem gd_at {s : Src} {n : Nat} {st : List O} (hs : s.at' = some n) (h : s.gd st = true) : st[n]? = some (.lst s.its) := by
  unfold Src.gd at h
  rw [hs] at h
  simp only at h
  split at h
  · rename_i l hl
    rw [hl, of_decide_eq_true h]
  · cases h
theorem feeds_loc {Z φ H st} {a : Addr} {n : Nat} {ds : List D} (S : Sim X.K T Z φ st H) (h : φ[n]? = some a) : Feeds X T Z φ H (Itl X.K a) ⟨ds, some n⟩ where
  go := fun Z1 φ1 st1 H1 i e S1 g hi => by
    have g' := gd_at rfl g
    obtain ⟨xs, q1, q2⟩ := S1.ob n _ a g' (e.e0.get h)
    have hx : i < xs.length := by rw [← q2.len]; exact hi
    exact ⟨xs, xs[i], SqL.of q1, List.getElem?_eq_getElem hx⟩
  stop := fun Z1 φ1 st1 H1 e S1 g => by
    have g' := gd_at rfl g
    obtain ⟨xs, q1, q2⟩ := S1.ob n _ a g' (e.e0.get h)
    exact ⟨xs, SqL.of q1, by rw [← q2.len]; exact Nat.le_refl _⟩
  yld := fun Z1 φ1 st1 H1 i d x H' e S1 g hd y => by
    obtain ⟨rfl, y⟩ := y
    have g' := gd_at rfl g
    obtain ⟨xs, q1, q2⟩ := S1.ob n _ a g' (e.e0.get h)
    obtain ⟨v, h1, h2⟩ := q2.get hd
    have h3 := y xs (SqL.of q1)
    rw [h1] at h3
    cases h3
    exact ⟨Z1, Ext.refl, S1, h2⟩
theorem feeds_str {Z φ H st} {x : Str} (S : Sim X.K T Z φ st H) : Feeds X T Z φ H (Its x) ⟨signs x, none⟩ where
  go := fun Z1 φ1 st1 H1 i e S1 _ hi => by
    simp [signs] at hi
    exact hi
  stop := fun Z1 φ1 st1 H1 e S1 _ => by
    show x.cps.size ≤ (signs x).length
    simp [signs]
  yld := fun Z1 φ1 st1 H1 i d v H' e S1 _ hd y => by
    obtain ⟨rfl, c, h1, rfl⟩ := y
    unfold signs at hd
    rw [List.getElem?_map, Array.getElem?_toList, h1] at hd
    cases hd
    exact ⟨Z1, Ext.refl, S1, rfl⟩
theorem x_src {tg e : Expr} {f : Env → List O → RR D} (he : PE X e (tE X T W f)) : PI X tg e (tI X T W (eSrc f)) := by
  refine pi_imp (pi_or (pi_or (pi_list he) (pi_tup he)) (pi_str he)) fun σ H R q => ?_
  obtain ⟨Z, φ, st, ρ, S, E, w⟩ := q
  cases hf : f ρ st with
  | err =>
    unfold eSrc at w
    rw [hf] at w
    exact w.elim
  | exc c s1 =>
    unfold eSrc at w
    rw [hf] at w
    exact .inl (.inl ⟨Z, φ, st, ρ, S, E, by rw [hf]; exact w⟩)
  | ok d s1 =>
    unfold eSrc at w
    rw [hf] at w
    replace w : WpG X T W σ (repI X T) Z φ H (match srcOf s1 d with
      | some s => .ok s s1
      | none => .err) R := w
    cases hd : srcOf s1 d with
    | none =>
      rw [hd] at w
      exact w.elim
    | some src =>
      rw [hd] at w
      cases d with
      | tup ds =>
        have hs : src = ⟨ds, none⟩ := (Option.some.inj hd).symm
        refine .inl (.inr ⟨Z, φ, st, ρ, S, E, ?_⟩)
        rw [hf]
        intro v Z1 φ1 H1 e1 S1 R1
        obtain ⟨a, xs, rfl, h1, h2⟩ := R1
        exact ⟨a, rfl, ⟨xs, sqT_mono S1.fz h1⟩, w _ Z1 φ1 H1 e1 S1 (by rw [hs]; exact feeds_tup S1 h1 h2)⟩
      | lst ds =>
        have hs : src = ⟨ds, none⟩ := (Option.some.inj hd).symm
        refine .inl (.inl ⟨Z, φ, st, ρ, S, E, ?_⟩)
        rw [hf]
        intro v Z1 φ1 H1 e1 S1 R1
        obtain ⟨a, xs, rfl, h1, h2⟩ := R1
        exact ⟨a, rfl, ⟨xs, sqL_mono S1.fz (.inl h1)⟩, w _ Z1 φ1 H1 e1 S1 (by rw [hs]; exact feeds_lst S1 (.inl h1) h2)⟩
      | scr ds =>
        have hs : src = ⟨ds, none⟩ := (Option.some.inj hd).symm
        refine .inl (.inl ⟨Z, φ, st, ρ, S, E, ?_⟩)
        rw [hf]
        intro v Z1 φ1 H1 e1 S1 R1
        obtain ⟨a, xs, rfl, h1, h2⟩ := R1
        exact ⟨a, rfl, ⟨xs, sqL_mono S1.fz h1⟩, w _ Z1 φ1 H1 e1 S1 (by rw [hs]; exact feeds_lst S1 h1 h2)⟩
      | str x =>
        have hs : src = ⟨signs x, none⟩ := (Option.some.inj hd).symm
        refine .inr ⟨Z, φ, st, ρ, S, E, ?_⟩
        rw [hf]
        intro v Z1 φ1 H1 e1 S1 R1
        have R' : v = .str x := R1
        exact ⟨x, R', w _ Z1 φ1 H1 e1 S1 (by rw [hs]; exact feeds_str S1)⟩
      | loc n =>
        have hd' : (match s1[n]? with
          | some (O.lst ds) => some (Src.mk ds (some n))
          | _ => none) = some src := hd
        cases hn : s1[n]? with
        | none =>
          rw [hn] at hd'
          cases hd'
        | some o =>
          rw [hn] at hd'
          cases o with
          | dic _ => cases hd'
          | lst ds =>
            have hs : src = ⟨ds, some n⟩ := (Option.some.inj hd').symm
            refine .inl (.inl ⟨Z, φ, st, ρ, S, E, ?_⟩)
            rw [hf]
            intro v Z1 φ1 H1 e1 S1 R1
            obtain ⟨a, h1, rfl⟩ := R1
            obtain ⟨xs, q1, q2⟩ := S1.ob n _ a hn h1
            exact ⟨a, rfl, ⟨xs, SqL.of q1⟩, w _ Z1 φ1 H1 e1 S1 (by rw [hs]; exact feeds_loc S1 h1)⟩
      | _ => cases hd
/-- range(n), range(a, b) -/
def intsD (lo : Int) (n : Nat) : List D := (List.range n).map fun (i : Nat) => .int (lo + (i : Int))
theorem feeds_rng {Z φ H st} {lo : Int} {n : Nat} (S : Sim X.K T Z φ st H) : Feeds X T Z φ H (Itr lo n) ⟨intsD lo n, none⟩ where
  go := fun Z1 φ1 st1 H1 i e S1 _ hi => by
    simp [intsD] at hi
    exact hi
  stop := fun Z1 φ1 st1 H1 e S1 _ => by
    show n ≤ (intsD lo n).length
    simp [intsD]
  yld := fun Z1 φ1 st1 H1 i d v H' e S1 _ hd y => by
    obtain ⟨rfl, rfl⟩ := y
    have hi : i < n := by
      have := (List.getElem?_eq_some_iff.mp hd).1
      simpa [intsD] using this
    unfold intsD at hd
    rw [List.getElem?_map, List.getElem?_range hi] at hd
    cases hd
    exact ⟨Z1, Ext.refl, S1, rfl⟩
def eRng1 (f : Env → List O → RR (List D)) : Env → List O → RR Src := fun ρ st => (f ρ st).bind fun xs s1 => match xs with
  | [.int j] => if -(2 ^ 62) ≤ j ∧ j < 2 ^ 62 then .ok ⟨intsD 0 j.toNat, none⟩ s1 else .err
  | _ => .err
def eRng2 (f : Env → List O → RR (List D)) : Env → List O → RR Src := fun ρ st => (f ρ st).bind fun xs s1 => match xs with
  | [.int i, .int j] => if -(2 ^ 62) ≤ i ∧ i < 2 ^ 62 ∧ -(2 ^ 62) ≤ j ∧ j < 2 ^ 62 then .ok ⟨intsD i (j - i).toNat, none⟩ s1 else .err
  | _ => .err
theorem reps1 {K : PySem.W.Frag} {Z : Hp} {φ : List Addr} {d : D} {vs : List V} (h : Reps K Z φ [d] vs) : ∃ v, vs = [v] ∧ Rep K Z φ d v := by
  obtain ⟨v, r, rfl, h2, h3⟩ := h
  have h' : r = [] := h3
  subst h'
  exact ⟨v, rfl, h2⟩
theorem reps2 {K : PySem.W.Frag} {Z : Hp} {φ : List Addr} {d e : D} {vs : List V} (h : Reps K Z φ [d, e] vs) : ∃ v u, vs = [v, u] ∧ Rep K Z φ d v ∧ Rep K Z φ e u := by
  obtain ⟨v, r, rfl, h2, h3⟩ := h
  obtain ⟨u, rfl, h4⟩ := reps1 h3
  exact ⟨v, u, rfl, h2, h4⟩
theorem x_rng1 {tg a : Expr} {p pos : Pos} {f : Env → List O → RR (List D)} (hg : Gl X "range") (hm : X.mg "range" = none) (ha : PA X [a] (tA X T W f)) (hs : starEach [a] X.env = [(false, eval a X.env)]) : PI X tg (.Call (.Name "range" p) [a] [] pos) (tI X T W (eRng1 f)) := by
  refine pi_imp (pi_range1 hg hm ha hs) fun σ H R q => ?_
  obtain ⟨Z, φ, st, ρ, S, E, w⟩ := q
  refine ⟨Z, φ, st, ρ, S, E, w.first fun vs Z1 φ1 H1 ds s1 e1 S1 R1 w1 => ?_⟩
  split at w1
  · rename_i j
    obtain ⟨v, rfl, r⟩ := reps1 R1
    split at w1
    · rename_i hj
      exact ⟨j, by rw [show v = .int j from r], hj.1, hj.2, w1 _ Z1 φ1 H1 Ext.refl S1 (feeds_rng S1)⟩
    · exact w1.elim
  · exact w1.elim
theorem x_rng2 {tg a b : Expr} {p pos : Pos} {f : Env → List O → RR (List D)} (hg : Gl X "range") (hm : X.mg "range" = none) (ha : PA X [a, b] (tA X T W f)) (hs : starEach [a, b] X.env = [(false, eval a X.env), (false, eval b X.env)]) (hs2 : starEach [b] X.env = [(false, eval b X.env)]) :
    PI X tg (.Call (.Name "range" p) [a, b] [] pos) (tI X T W (eRng2 f)) := by
  refine pi_imp (pi_range2 hg hm ha hs hs2) fun σ H R q => ?_
  obtain ⟨Z, φ, st, ρ, S, E, w⟩ := q
  refine ⟨Z, φ, st, ρ, S, E, w.first fun vs Z1 φ1 H1 ds s1 e1 S1 R1 w1 => ?_⟩
  split at w1
  · rename_i i j
    obtain ⟨v, u, rfl, r, r'⟩ := reps2 R1
    split at w1
    · rename_i hj
      exact ⟨i, j, by rw [show v = .int i from r, show u = .int j from r'], hj, w1 _ Z1 φ1 H1 Ext.refl S1 (feeds_rng S1)⟩
    · exact w1.elim
  · exact w1.elim

/-! ### targets -/
inductive GT where
  | nm (i : Nat)
  | tp (ts : List GT)
mutual
def GT.slots : GT → List Nat
  | .nm i => [i]
  | .tp ts => GT.slotss ts
def GT.slotss : List GT → List Nat
  | [] => []
  | t :: ts => t.slots ++ GT.slotss ts
end
mutual
def asgT : GT → D → Env → Option Env
  | .nm i, d, ρ => some (ρ.set i (some d))
  | .tp ts, d, ρ => match d with
    | .tup ds => if ds.length = ts.length then asgTs ts ds ρ else none
    | _ => none
def asgTs : List GT → List D → Env → Option Env
  | [], _, ρ => some ρ
  | t :: ts, [], ρ => none
  | t :: ts, d :: ds, ρ => match asgT t d ρ with
    | some ρ1 => asgTs ts ds ρ1
    | none => none
end
theorem wipe_set {σ : L2.St} {i : Nat} {v : V} : ∀ {vs : List Nat}, i ∈ vs → L2.wipe (σ.set i (some v)) vs = L2.wipe σ vs
  | [], h => by cases h
  | j :: vs, h => by
    by_cases hj : i ∈ vs
    · show (L2.wipe (σ.set i (some v)) vs).set j none = (L2.wipe σ vs).set j none
      rw [wipe_set hj]
    · have e : i = j := by
        rcases List.mem_cons.mp h with z | z
        · exact z
        · exact absurd z hj
      subst e
      show (L2.wipe (σ.set i (some v)) vs).set i none = (L2.wipe σ vs).set i none
      have : ∀ (τ : L2.St) (ws : List Nat), (L2.wipe (τ.set i (some v)) ws).set i none = (L2.wipe τ ws).set i none := by
        intro τ ws
        induction ws with
        | nil =>
          show (τ.set i (some v)).set i none = τ.set i none
          rw [List.set_set]
        | cons w ws ih =>
          show ((L2.wipe (τ.set i (some v)) ws).set w none).set i none = ((L2.wipe τ ws).set w none).set i none
          by_cases hw : w = i
          · subst hw
            rw [List.set_set, List.set_set]
            exact ih
          · rw [List.set_comm _ _ hw, List.set_comm _ _ hw, ih]
      exact this σ vs
def tT (X : Cx) (T : List (Addr × Str)) (t : GT) : TG := fun v σ H Q => ∃ Z φ st ρ d ρ', Sim X.K T Z φ st H ∧ EnvR X.K Z φ ρ σ ∧ Rep X.K Z φ d v ∧ asgT t d ρ = some ρ' ∧
  ∀ σ', EnvR X.K Z φ ρ' σ' → (∀ vs, (∀ i ∈ t.slots, i ∈ vs) → L2.wipe σ' vs = L2.wipe σ vs) → Q σ' H
def tTs (X : Cx) (T : List (Addr × Str)) (ts : List GT) : TGs := fun us σ H Q => ∃ Z φ st ρ ds ρ', Sim X.K T Z φ st H ∧ EnvR X.K Z φ ρ σ ∧ Reps X.K Z φ ds us ∧ ds.length = ts.length ∧ asgTs ts ds ρ = some ρ' ∧
  ∀ σ', EnvR X.K Z φ ρ' σ' → (∀ vs, (∀ i ∈ GT.slotss ts, i ∈ vs) → L2.wipe σ' vs = L2.wipe σ vs) → Q σ' H
theorem pg_imp {e : Expr} {t u : TG} (h : PG X e t) (i : ∀ v σ H Q, u v σ H Q → t v σ H Q) : PG X e u := ⟨fun pins s σ H v w Q I r q => h.run pins s σ H v w Q I r (i _ _ _ _ q)⟩
theorem pgs_imp {e : List Expr} {t u : TGs} (h : PGs X e t) (i : ∀ v σ H Q, u v σ H Q → t v σ H Q) : PGs X e u := ⟨fun pins s σ H v w Q I r q => h.run pins s σ H v w Q I r (i _ _ _ _ q)⟩
theorem x_gnm {i : Nat} {x : Str} {pos : Pos} (hN : X.N.Nodup) (hi : X.N[i]? = some x) (hx : Loc X.env.scope x) (hf : X.fn x = true ∨ X.env.scope.names.lookup x = some .local) : PG X (.Name x pos) (tT X T (.nm i)) := by
  refine pg_imp (pg_name hN hi hx hf) fun v σ H Q q => ?_
  obtain ⟨Z, φ, st, ρ, d, ρ', S, E, R, a, k⟩ := q
  have e : ρ' = ρ.set i (some d) := (Option.some.inj a).symm
  subst e
  exact k _ (E.set R) fun vs hv => wipe_set (hv i (by simp [GT.slots]))
theorem x_gnil : PGs X [] (tTs X T []) := pgs_imp pgs_nil fun us σ H Q q => by
  obtain ⟨Z, φ, st, ρ, ds, ρ', S, E, R, hl, a, k⟩ := q
  have hd : ds = [] := List.eq_nil_of_length_eq_zero hl
  subst hd
  have e : ρ' = ρ := (Option.some.inj a).symm
  subst e
  exact ⟨R, k σ E fun _ _ => rfl⟩
theorem x_gcons {e : Expr} {es : List Expr} {t : GT} {ts : List GT} (h1 : PG X e (tT X T t)) (h2 : PGs X es (tTs X T ts)) (hs : (assignEach (e :: es) X.env).map (·.2) = assign e X.env :: (assignEach es X.env).map (·.2)) : PGs X (e :: es) (tTs X T (t :: ts)) := by
  refine pgs_imp (pgs_cons h1 h2 hs) fun us σ H Q q => ?_
  obtain ⟨Z, φ, st, ρ, ds, ρ', S, E, R, hl, a, k⟩ := q
  cases ds with
  | nil => cases hl
  | cons d ds =>
    obtain ⟨v, r, rfl, r1, r2⟩ := R
    have a' : (match asgT t d ρ with
      | some ρ1 => asgTs ts ds ρ1
      | none => none) = some ρ' := a
    cases h : asgT t d ρ with
    | none =>
      rw [h] at a'
      cases a'
    | some ρ1 =>
      rw [h] at a'
      refine ⟨v, r, rfl, Z, φ, st, ρ, d, ρ1, S, E, r1, h, fun σ1 E1 w1 => ?_⟩
      refine ⟨Z, φ, st, ρ1, ds, ρ', S, E1, r2, by simpa using hl, a', fun σ2 E2 w2 => k σ2 E2 fun vs hv => ?_⟩
      rw [w2 vs fun i hi => hv i (by simp [GT.slotss, hi]), w1 vs fun i hi => hv i (by simp [GT.slotss, hi])]
theorem x_gtp {es : List Expr} {k : Nat} {pos : Pos} {ts : List GT} (hc : X.calm = true) (h : PGs X es (tTs X T ts)) (hn : (assignEach es X.env).length = ts.length) (hst : (assignEach es X.env).findIdx? (·.1) = none) : PG X (.Tuple es k pos) (tT X T (.tp ts)) := by
  refine pg_imp (pg_tup hc h hn hst) fun v σ H Q q => ?_
  obtain ⟨Z, φ, st, ρ, d, ρ', S, E, R, a, k⟩ := q
  cases d with
  | tup ds =>
    have a' : (if ds.length = ts.length then asgTs ts ds ρ else none) = some ρ' := a
    by_cases hl : ds.length = ts.length
    · rw [if_pos hl] at a'
      obtain ⟨p, xs, rfl, h1, h2⟩ := R
      exact ⟨p, xs, rfl, sqT_mono S.fz h1, by rw [← h2.len]; exact hl, Z, φ, st, ρ, ds, ρ', S, E, h2, hl, a', k⟩
    · rw [if_neg hl] at a'
      cases a'
  | _ => cases a

/-! ### list comprehensions, one clause -/
def noExc {α : Type} : RR α → RR α
  | .exc _ _ => .err
  | r => r
abbrev W0 : WX := fun _ _ _ _ => False
theorem WpG.firstN {α β γ δ : Type} {rep : Hp → Hp → List Addr → Hp → α → β → Prop} {rep' : Hp → Hp → List Addr → Hp → γ → δ → Prop} {Z1 H1 : Hp} {φ1 : List Addr} {Z H : Hp} {φ : List Addr} {σ σ2 : L2.St} {r : RR α} {k : α → List O → RR γ} {Q : δ → Hp → Prop} {Q' : β → Hp → Prop}
    (h : WpG X T W σ rep' Z1 φ1 H1 ((noExc r).bind k) Q)
    (q : ∀ v Z' φ' H' d st', Ext Z φ H Z' φ' H' → Sim X.K T Z' φ' st' H' → rep H Z' φ' H' d v → WpG X T W σ rep' Z1 φ1 H1 (k d st') Q → Q' v H') : WpG X T W0 σ2 rep Z φ H r Q' := by
  cases r with
  | ok d st => exact fun v Z2 φ2 H2 e2 S R => q v Z2 φ2 H2 d st e2 S R h
  | exc c st => exact h.elim
  | err => exact h.elim
def goC (s : Src) (t : GT) (tests : Env → List O → RR Bool) (elt : Env → List O → RR D) (ρ : Env) : List D → List D → List O → RR (List D)
  | [], acc, st => if s.gd st = true then .ok acc st else .err
  | d :: ds, acc, st => if s.gd st = true then (match asgT t d ρ with
      | none => .err
      | some ρ' => (noExc (tests ρ' st)).bind fun b st2 => if b = true then (noExc (elt ρ' st2)).bind fun y st3 => if acc.length < sizeLine then goC s t tests elt ρ ds (acc ++ [y]) st3 else .err
        else goC s t tests elt ρ ds acc st2) else .err
def eComp (src : Env → List O → RR Src) (t : GT) (tests : Env → List O → RR Bool) (elt : Env → List O → RR D) (own : List Nat) : Env → List O → RR (List D) := fun ρ st => (src ρ st).bind fun s s1 => goC s t tests elt (wipeR ρ own) s.its [] s1
abbrev tYesT : Env → List O → RR Bool := fun _ st => .ok true st
theorem pts_imp {ifs : List Expr} {t u : TT} (h : PTs X ifs t) (i : ∀ σ H Q, u σ H Q → t σ H Q) : PTs X ifs u := ⟨fun pins s σ H Q I q => h.run pins s σ H Q I (i _ _ _ q)⟩
theorem x_ptsNil : PTs X [] (tB X T W tYesT) := pts_imp pts_nil fun σ H Q q => by
  obtain ⟨Z, φ, st, ρ, S, E, w⟩ := q
  exact w.ok S rfl
theorem drop_cons {α : Type} {l : List α} {i : Nat} {d : α} (h : l[i]? = some d) : l.drop i = d :: l.drop (i + 1) := by
  obtain ⟨hi, e⟩ := List.getElem?_eq_some_iff.mp h
  rw [List.drop_eq_getElem_cons hi, e]
/-- the reading of a comprehension from what it walks, its target, its tests, its element -/
theorem comp_reads {src : Env → List O → RR Src} {t : GT} {tests : Env → List O → RR Bool} {elt : Env → List O → RR D} {own : List Nat} (hown : ∀ i ∈ t.slots, i ∈ own) {σ : L2.St} {H : Hp} {Q : VK}
    (q : tF X T W (eComp src t tests elt own) σ H Q) : tLc (tI X T W src) (tT X T t) (tB X T W0 tests) (tE X T W0 elt) own σ H Q := by
  obtain ⟨Z, φ, st, ρ, S, E, w⟩ := q
  refine ⟨Z, φ, st, ρ, S, E, w.first fun J Z1 φ1 H1 s s1 e1 S1 F w1 => ?_⟩
  intro D0 hD
  have E1 : EnvR X.K Z1 φ1 (wipeR ρ own) (L2.wipe σ own) := (E.mono e1.e0).wipe own
  have nD : D0 ∉ φ1 := fun z => by
    obtain ⟨u, hu⟩ := S1.mem z
    rw [hD] at hu
    cases hu
  have zD : Z1 D0 = none := by
    cases q : Z1 D0 with
    | none => rfl
    | some u =>
      rw [S1.fz _ u q] at hD
      cases hD
  refine ⟨fun i m H2 => m = s.its.length - i ∧ i ≤ s.its.length ∧ ∃ Z2 φ2 st2 acc accV, Ext Z1 φ1 H1 Z2 φ2 H2 ∧ Sim X.K T Z2 φ2 st2 H2 ∧ H2 D0 = some (.lst accV) ∧ D0 ∉ φ2 ∧ Z2 D0 = none ∧ Reps X.K Z2 φ2 acc accV ∧
    WpG X T W σ (repF X) Z1 φ1 H1 (goC s t tests elt (wipeR ρ own) (s.its.drop i) acc st2) Q, ⟨_, rfl, Nat.zero_le _, Z1, φ1, s1, [], [], Ext.same (same_upd hD), S1.same (same_upd hD), upd_same, nD, zD, Reps.nil, w1⟩, ?_⟩
  rintro i m H2 ⟨rfl, hi, Z2, φ2, st2, acc, accV, e2, S2, hD2, nD2, zD2, RA, w2⟩
  have hg : s.gd st2 = true := by
    cases hg : s.gd st2 with
    | true => rfl
    | false =>
      cases hc : s.its.drop i with
      | nil =>
        rw [hc] at w2
        have w2 : WpG X T W σ (repF X) Z1 φ1 H1 (if s.gd st2 = true then .ok acc st2 else .err) Q := w2
        rw [hg] at w2
        exact w2.elim
      | cons d ds =>
        rw [hc] at w2
        unfold goC at w2
        rw [hg] at w2
        exact w2.elim
  by_cases hlt : i < s.its.length
  · refine .inr ⟨F.go Z2 φ2 st2 H2 i e2 S2 hg hlt, fun H3 => i + 1 ≤ s.its.length ∧ ∃ Z3 φ3 st3 acc3 accV3, Ext Z1 φ1 H1 Z3 φ3 H3 ∧ Sim X.K T Z3 φ3 st3 H3 ∧ H3 D0 = some (.lst accV3) ∧ D0 ∉ φ3 ∧ Z3 D0 = none ∧ Reps X.K Z3 φ3 acc3 accV3 ∧
      WpG X T W σ (repF X) Z1 φ1 H1 (goC s t tests elt (wipeR ρ own) (s.its.drop (i + 1)) acc3 st3) Q, fun H3 h3 => ⟨s.its.length - (i + 1), by omega, rfl, h3.1, h3.2⟩, fun x H3 y => ?_⟩
    have hd : s.its[i]? = some s.its[i] := List.getElem?_eq_getElem hlt
    obtain ⟨Z3, e3, S3, R3⟩ := F.yld Z2 φ2 st2 H2 i _ x H3 e2 S2 hg hd y
    have hD3 : H3 D0 = some (.lst accV) := e3.k D0 _ hD2 nD2 (fun p z => by cases z)
    rw [drop_cons hd] at w2
    unfold goC at w2
    rw [if_pos hg] at w2
    cases ha : asgT t s.its[i] (wipeR ρ own) with
    | none =>
      rw [ha] at w2
      exact w2.elim
    | some ρ' =>
      rw [ha] at w2
      refine ⟨Z3, φ2, st2, wipeR ρ own, _, ρ', S3, E1.mono (e2.trans e3).e0, R3, ha, fun σ2 E2 wp => ⟨?_, ?_⟩⟩
      · have q := wp own hown
        rw [q]
        -- wiping twice is wiping once
        have ww : ∀ (τ : L2.St) (vs : List Nat), (∀ j ∈ vs, j ∈ own) → L2.wipe (L2.wipe τ own) vs = L2.wipe τ own := by
          intro τ vs
          have nn : ∀ j ∈ own, j < (L2.wipe τ own).length → (L2.wipe τ own)[j]? = some none := by
            intro j hj hl
            cases hq : (L2.wipe τ own)[j]? with
            | none =>
              rw [List.getElem?_eq_none_iff] at hq
              omega
            | some o =>
              cases o with
              | none => rfl
              | some v => exact absurd hj (L2.wipe_some hq).2
          induction vs with
          | nil => intro _; rfl
          | cons j vs ih =>
            intro hv
            show (L2.wipe (L2.wipe τ own) vs).set j none = _
            rw [ih fun k hk => hv k (by simp [hk])]
            have hj := hv j (by simp)
            apply List.ext_getElem?
            intro n
            by_cases hn : j = n
            · subst hn
              by_cases hl : j < (L2.wipe τ own).length
              · rw [List.getElem?_set_self hl, nn j hj hl]
              · rw [List.getElem?_eq_none (by simp; omega), List.getElem?_eq_none (by omega)]
            · rw [List.getElem?_set_ne hn]
        exact ww σ own fun _ h => h
      · refine ⟨Z3, φ2, st2, ρ', S3, E2, WpG.firstN w2 fun b Z4 φ4 H4 db st4 e4 S4 R4 w4 => ?_⟩
        cases R4
        have hD4 : H4 D0 = some (.lst accV) := e4.k D0 _ hD3 nD2 (fun p z => by cases z)
        have nD4 : D0 ∉ φ4 := fun z => by
          obtain ⟨r, hr, fr⟩ := e4.p
          rw [hr] at z
          rcases List.mem_append.mp z with z | z
          · exact nD2 z
          · exact (fr D0 z).no hD3 (fun p z => by cases z)
        have zz : ∀ {Z5 φ5 H5 Z6 φ6 H6} {o : List V}, Ext Z5 φ5 H5 Z6 φ6 H6 → H5 D0 = some (.lst o) → Z5 D0 = none → Z6 D0 = none := fun {Z5 φ5 H5 Z6 φ6 H6 o} e h5 z5 => by
          cases q : Z6 D0 with
          | none => rfl
          | some u =>
            rcases e.f D0 u q with z | z
            · rw [z5] at z
              cases z
            · exact (z.no h5 (fun p z => by cases z)).elim
        have zD3 := zz e3 hD2 zD2
        have zD4 := zz e4 hD3 zD3
        have RA4 := RA.mono (e3.trans e4).e0
        have e14 := (e2.trans e3).trans e4
        cases b with
        | false =>
          rw [if_neg (by decide)] at w4 ⊢
          exact ⟨hlt, Z4, φ4, st4, acc, accV, e14, S4, hD4, nD4, zD4, RA4, w4⟩
        | true =>
          rw [if_pos rfl] at w4 ⊢
          refine ⟨Z4, φ4, st4, ρ', S4, E2.mono e4.e0, WpG.firstN w4 fun yv Z5 φ5 H5 dy st5 e5 S5 R5 w5 => ?_⟩
          have hD5 : H5 D0 = some (.lst accV) := e5.k D0 _ hD4 nD4 (fun p z => by cases z)
          have nD5 : D0 ∉ φ5 := fun z => by
            obtain ⟨r, hr, fr⟩ := e5.p
            rw [hr] at z
            rcases List.mem_append.mp z with z | z
            · exact nD4 z
            · exact (fr D0 z).no hD4 (fun p z => by cases z)
          have zD5 := zz e5 hD4 zD4
          by_cases hz : acc.length < sizeLine
          · rw [if_pos hz] at w5
            have RA5 := RA4.mono e5.e0
            have e15 := e14.trans e5
            refine ⟨accV, hD5, by rw [← RA5.len]; exact hz, hlt, Z5, φ5, st5, acc ++ [dy], accV ++ [yv], ?_, ?_, upd_same, nD5, zD5, RA5.append (Reps.cons R5 Reps.nil), w5⟩
            · -- D0 was not there at the start
              refine ⟨e15.z, e15.p, fun a o h hn ht => ?_, fun a h => ?_, e15.f⟩
              · rw [upd_ne (ne_of_none h hD)]
                exact e15.k a o h hn ht
              · by_cases ha : a = D0
                · rw [ha]
                  exact .of hD
                · exact e15.d a fun o q => h o (by rw [upd_ne ha]; exact q)
            · refine ⟨fun a o h => ?_, S5.nd, S5.ln, S5.fr, fun n o a h1 h2 => ?_, tabs_put S5.tb hD5 (fun p z => by cases z) (fun p z => by cases z), S5.nt⟩
              · rw [upd_ne (fun z => by rw [z, zD5] at h; cases h)]
                exact S5.fz a o h
              · have r := S5.ob n o a h1 h2
                refine r.mono Ext0.refl ?_
                rw [upd_ne (fun z => nD5 (by rw [← z]; exact List.mem_of_getElem? h2))]
          · rw [if_neg hz] at w5
            exact w5.elim
  · have hie : i = s.its.length := by omega
    subst hie
    refine .inl ⟨F.stop Z2 φ2 st2 H2 e2 S2 hg, ?_⟩
    rw [List.drop_length] at w2
    have w2 : WpG X T W σ (repF X) Z1 φ1 H1 (if s.gd st2 = true then .ok acc st2 else .err) Q := w2
    rw [if_pos hg] at w2
    exact w2 (.ref D0) Z2 φ2 H2 e2 S2 ⟨D0, accV, rfl, hD2, .of hD, nD2, zD2, RA⟩
end
end Tl
/-! TStmt: statements, blocks, loops, calls of defs, a def's promise. -/
namespace Tl
open PySem L2

/-- how a block ends -/
inductive SR where
  | nx (ρ : Env) (st : List O)
  | rt (d : D) (st : List O)
  | bk (ρ : Env) (st : List O)
  | ct (ρ : Env) (st : List O)
  | exc (c : Str) (ρ : Env) (st : List O)
  | err
abbrev Sm := Env → List O → SR

def SpG (X : Cx) (T : List (Addr × Str)) (W : WX) (Z : Hp) (φ : List Addr) (H : Hp) (r : SR) (K : Ends) : Prop :=
  match r with
  | .nx ρ st => ∀ σ Z' φ' H', Ext Z φ H Z' φ' H' → Sim X.K T Z' φ' st H' → EnvR X.K Z' φ' ρ σ → K.nx σ H'
  | .bk ρ st => ∀ σ Z' φ' H', Ext Z φ H Z' φ' H' → Sim X.K T Z' φ' st H' → EnvR X.K Z' φ' ρ σ → K.bk σ H'
  | .ct ρ st => ∀ σ Z' φ' H', Ext Z φ H Z' φ' H' → Sim X.K T Z' φ' st H' → EnvR X.K Z' φ' ρ σ → K.ct σ H'
  | .rt d st => ∀ v Z' φ' H', Ext Z φ H Z' φ' H' → Sim X.K T Z' φ' st H' → Rep X.K Z' φ' d v → K.rt v H'
  | .exc c ρ st => ∀ C σ Z' φ' H', X.mg c = some (.ref C) → Ext Z φ H Z' φ' H' → Sim X.K T Z' φ' st H' → EnvR X.K Z' φ' ρ σ → W (.ref C) none σ H'
  | .err => False
def tS (X : Cx) (T : List (Addr × Str)) (W : WX) (f : Sm) : TS := fun K σ H => ∃ Z φ st ρ, Sim X.K T Z φ st H ∧ EnvR X.K Z φ ρ σ ∧ SpG X T W Z φ H (f ρ st) K

section
variable {X : Cx} {T : List (Addr × Str)} {W : WX} {Z Z' H H' : Hp} {φ φ' : List Addr} {K : Ends}
theorem SpG.ext {r : SR} (e : Ext Z φ H Z' φ' H') (h : SpG X T W Z φ H r K) : SpG X T W Z' φ' H' r K := by
  cases r with
  | nx ρ st => exact fun σ Z2 φ2 H2 e2 S R => h σ Z2 φ2 H2 (e.trans e2) S R
  | bk ρ st => exact fun σ Z2 φ2 H2 e2 S R => h σ Z2 φ2 H2 (e.trans e2) S R
  | ct ρ st => exact fun σ Z2 φ2 H2 e2 S R => h σ Z2 φ2 H2 (e.trans e2) S R
  | rt d st => exact fun v Z2 φ2 H2 e2 S R => h v Z2 φ2 H2 (e.trans e2) S R
  | exc c ρ st => exact fun C σ Z2 φ2 H2 m e2 S R => h C σ Z2 φ2 H2 m (e.trans e2) S R
  | err => exact h
/-- an expression's outcome, then a block's -/
def onE {α : Type} (r : RR α) (ρ : Env) (k : α → List O → SR) : SR := match r with
  | .ok a st => k a st
  | .exc c st => .exc c ρ st
  | .err => .err
theorem SpG.first {α β : Type} {rep : Hp → Hp → List Addr → Hp → α → β → Prop} {r : RR α} {ρ : Env} {k : α → List O → SR} {σ : L2.St} {Q' : β → Hp → Prop} (E : EnvR X.K Z φ ρ σ) (h : SpG X T W Z φ H (onE r ρ k) K)
    (q : ∀ v Z' φ' H' d st', Ext Z φ H Z' φ' H' → Sim X.K T Z' φ' st' H' → rep H Z' φ' H' d v → SpG X T W Z' φ' H' (k d st') K → Q' v H') : WpG X T W σ rep Z φ H r Q' := by
  cases r with
  | ok d st => exact fun v Z2 φ2 H2 e2 S R => q v Z2 φ2 H2 d st e2 S R (SpG.ext e2 h)
  | exc c st => exact fun C Z2 φ2 H2 m e2 S => h C σ Z2 φ2 H2 m e2 S (E.mono e2.e0)
  | err => exact h
/-- a block's outcome, then what follows -/
def sSeq (f g : Sm) : Sm := fun ρ st => match f ρ st with
  | .nx ρ' st' => g ρ' st'
  | r => r
def sNext : Sm := fun ρ st => .nx ρ st
theorem s_nil : PSs X [] (tS X T W sNext) := pss_imp pss_nil fun K σ H q => by
  obtain ⟨Z, φ, st, ρ, S, E, w⟩ := q
  exact w σ Z φ H Ext.refl S E
theorem s_cons {st : Stmt} {rest : List Stmt} {f g : Sm} (h1 : PS X st (tS X T W f)) (h2 : PSs X rest (tS X T W g)) : PSs X (st :: rest) (tS X T W (sSeq f g)) := by
  refine pss_imp (pss_cons h1 h2) fun K σ H q => ?_
  obtain ⟨Z, φ, st, ρ, S, E, w⟩ := q
  refine ⟨Z, φ, st, ρ, S, E, ?_⟩
  unfold sSeq at w
  cases hf : f ρ st with
  | nx ρ' st' =>
    rw [hf] at w
    exact fun σ' Z' φ' H' e S' E' => ⟨Z', φ', st', ρ', S', E', w.ext e⟩
  | _ =>
    rw [hf] at w
    exact w
theorem s_one {st : Stmt} {f : Sm} (h1 : PS X st (tS X T W f)) : PSs X [st] (tS X T W f) := pss_imp (pss_one h1) fun _ _ _ q => q
theorem s_pass {pos : Pos} : PS X (.Pass pos) (tS X T W sNext) := ps_imp ps_pass fun K σ H q => by
  obtain ⟨Z, φ, st, ρ, S, E, w⟩ := q
  exact w σ Z φ H Ext.refl S E
def sBreak : Sm := fun ρ st => .bk ρ st
def sCont : Sm := fun ρ st => .ct ρ st
theorem s_break {pos : Pos} : PS X (.Break pos) (tS X T W sBreak) := ps_imp ps_break fun K σ H q => by
  obtain ⟨Z, φ, st, ρ, S, E, w⟩ := q
  exact w σ Z φ H Ext.refl S E
theorem s_cont {pos : Pos} : PS X (.Continue pos) (tS X T W sCont) := ps_imp ps_continue fun K σ H q => by
  obtain ⟨Z, φ, st, ρ, S, E, w⟩ := q
  exact w σ Z φ H Ext.refl S E
def sDrop (f : Env → List O → RR D) : Sm := fun ρ st => onE (f ρ st) ρ fun _ s1 => .nx ρ s1
theorem s_expr {e : Expr} {pos : Pos} {f : Env → List O → RR D} (he : PE X e (tE X T W f)) (hs : swapsWith e none pos.line X.env = pure false) : PS X (.Expr e pos) (tS X T W (sDrop f)) := by
  refine ps_imp (ps_expr he hs) fun K σ H q => ?_
  obtain ⟨Z, φ, st, ρ, S, E, w⟩ := q
  exact ⟨Z, φ, st, ρ, S, E, w.first E fun v Z1 φ1 H1 d s1 e1 S1 R1 w1 => w1 σ Z1 φ1 H1 Ext.refl S1 (E.mono e1.e0)⟩
def sRet (f : Env → List O → RR D) : Sm := fun ρ st => onE (f ρ st) ρ fun d s1 => .rt d s1
theorem s_ret {e : Expr} {pos : Pos} {f : Env → List O → RR D} (he : PE X e (tE X T W f)) : PS X (.Return (some e) pos) (tS X T W (sRet f)) := by
  refine ps_imp (ps_ret he) fun K σ H q => ?_
  obtain ⟨Z, φ, st, ρ, S, E, w⟩ := q
  exact ⟨Z, φ, st, ρ, S, E, w.first E fun v Z1 φ1 H1 d s1 e1 S1 R1 w1 => w1 v Z1 φ1 H1 Ext.refl S1 R1⟩
def sRetN : Sm := fun _ st => .rt .non st
theorem s_retN {pos : Pos} : PS X (.Return none pos) (tS X T W sRetN) := ps_imp ps_retN fun K σ H q => by
  obtain ⟨Z, φ, st, ρ, S, E, w⟩ := q
  exact w .non Z φ H Ext.refl S rfl
def sIf (t : Env → List O → RR Bool) (f g : Sm) : Sm := fun ρ st => onE (t ρ st) ρ fun b s1 => if b = true then f ρ s1 else g ρ s1
theorem s_if {c : Expr} {a b : List Stmt} {pos : Pos} {t : Env → List O → RR Bool} {f g : Sm} (hc : PT X c (tB X T W t)) (ha : PSs X a (tS X T W f)) (hb : PSs X b (tS X T W g)) : PS X (.If c a b pos) (tS X T W (sIf t f g)) := by
  refine ps_imp (ps_if hc ha hb) fun K σ H q => ?_
  obtain ⟨Z, φ, st, ρ, S, E, w⟩ := q
  refine ⟨Z, φ, st, ρ, S, E, w.first E fun v Z1 φ1 H1 d s1 e1 S1 R1 w1 => ?_⟩
  cases R1
  cases v with
  | true => exact ⟨Z1, φ1, s1, ρ, S1, E.mono e1.e0, w1⟩
  | false => exact ⟨Z1, φ1, s1, ρ, S1, E.mono e1.e0, w1⟩

/-! ### stores -/
def sAsg (f : Env → List O → RR D) (t : GT) : Sm := fun ρ st => onE (f ρ st) ρ fun d s1 => match asgT t d ρ with
  | some ρ' => .nx ρ' s1
  | none => .err
theorem asg_reads {f : Env → List O → RR D} {t : GT} {σ : L2.St} (q : tS X T W (sAsg f t) K σ H) : tAsg (tE X T W f) (tT X T t) K σ H := by
  obtain ⟨Z, φ, st, ρ, S, E, w⟩ := q
  refine ⟨Z, φ, st, ρ, S, E, w.first E fun v Z1 φ1 H1 d s1 e1 S1 R1 w1 => ?_⟩
  cases ha : asgT t d ρ with
  | none =>
    rw [ha] at w1
    exact w1.elim
  | some ρ' =>
    rw [ha] at w1
    exact ⟨Z1, φ1, s1, ρ, d, ρ', S1, E.mono e1.e0, R1, ha, fun σ' E' _ => w1 σ' Z1 φ1 H1 Ext.refl S1 E'⟩
theorem s_asg {tg e : Expr} {pos : Pos} {f : Env → List O → RR D} {t : GT} (he : PE X e (tE X T W f)) (hg : PG X tg (tT X T t)) (hs : swapsWithSole [tg] e pos.line X.env = pure false) (hw : swappedStores [tg] e X.env = pure none)
    (h1 : (assignEach [tg] X.env).map (·.2) = [assign tg X.env]) : PS X (.Assign [tg] e pos) (tS X T W (sAsg f t)) := ps_imp (ps_asg he hg hs hw h1) fun K σ H q => asg_reads q
/-- name = [..] on one line, the name a local -/
theorem s_setLc {i : Nat} {y : Str} {py : Pos} {elt tg iter : Expr} {ifs : List Expr} {scope : Scope} {own : List (Str × Nat)} {pos spos : Pos} {src : Env → List O → RR Src} {t : GT} {tests : Env → List O → RR Bool} {el : Env → List O → RR D} (hc : X.calm = true) (hN : X.N.Nodup) (hy : X.N[i]? = some y) (hyl : X.env.scope.names.lookup y = some .local)
    (hsw : swapsWith (.ListComp elt [⟨tg, iter, ifs, 0⟩] scope pos) (some (.Name y py)) spos.line X.env = pure true) (hi : PI X tg iter (tI X T W src)) (ok : BlkOk X.N X.env.scope scope own)
    (hg : ∀ (s : Shared) (H : Hp) (C : Addr) (cl : List (Str × Addr)) (fp : List Addr), PG (X.blk s H scope (compEnvC scope cl C X.env) fp) tg (tT X T t)) (ht : ∀ (s : Shared) (H : Hp) (C : Addr) (cl : List (Str × Addr)) (fp : List Addr), PTs (X.blk s H scope (compEnvC scope cl C X.env) fp) ifs (tB X T W0 tests))
    (he : ∀ (s : Shared) (H : Hp) (C : Addr) (cl : List (Str × Addr)) (fp : List Addr), PE (X.blk s H scope (compEnvC scope cl C X.env) fp) elt (tE X T W0 el)) (hs : ∀ x, foldedSetIterable iter X.env x = pure x)
    (hown : ∀ i ∈ t.slots, i ∈ own.map (·.2)) (fr : (Env → List O → RR (List D)) → Env → List O → RR D) (hfr : fr = eFrz ∨ fr = eAll) :
    PS X (.Assign [.Name y py] (.ListComp elt [⟨tg, iter, ifs, 0⟩] scope pos) spos) (tS X T W (sAsg (fr (eComp src t tests el (own.map (·.2)))) (.nm i))) := by
  refine ps_imp (ps_setLc (i := i) hc hN hy hyl hsw hi ok hg ht he hs) fun K σ H q => ?_
  have q2 : tE X T W (fr (eComp src t tests el (own.map (·.2)))) σ H fun x H1 => K.nx (σ.set i (some x)) H1 := by
    obtain ⟨Z, φ, st, ρ, S, E, w⟩ := q
    refine ⟨Z, φ, st, ρ, S, E, w.first E fun v Z1 φ1 H1 d s1 e1 S1 R1 w1 => ?_⟩
    exact w1 _ Z1 φ1 H1 Ext.refl S1 ((E.mono e1.e0).set R1)
  refine comp_reads hown ?_
  obtain ⟨Z, φ, st, ρ, S, E, w⟩ := q2
  rcases hfr with rfl | rfl
  · refine ⟨Z, φ, st, ρ, S, E, w.first0 fun v Z1 φ1 H1 ds s1 e1 S1 R1 w1 => ?_⟩
    obtain ⟨p, xs, rfl, h1, h0, h2, h3, h4⟩ := R1
    obtain ⟨⟨e3, e2⟩, S2⟩ := Sim.keep e1 S1 h0 h1 h2 h3
    exact w1 (.ref p) _ _ _ e2 S2 ⟨p, xs, rfl, Rd.of upd_same, h4.mono e3⟩
  · refine ⟨Z, φ, st, ρ, S, E, w.first0 fun v Z1 φ1 H1 ds s1 e1 S1 R1 w1 => ?_⟩
    obtain ⟨p, xs, rfl, h1, h0, h2, h3, h4⟩ := R1
    obtain ⟨e2, S2⟩ := Sim.alloc e1 S1 (o := .lst ds) h0 h2 h3 ⟨xs, h1, h4⟩
    refine w1 (.ref p) _ _ _ e2 S2 ⟨p, ?_, rfl⟩
    rw [← S1.ln]
    simp
/-- a, b = e, f: plain local names -/
def sPar (f : Env → List O → RR (List D)) (i j : Nat) : Sm := fun ρ st => onE (f ρ st) ρ fun ds s1 => match ds with
  | [d, e] => .nx ((ρ.set i (some d)).set j (some e)) s1
  | _ => .err
theorem s_par {i j : Nat} {x y : Str} {a b : Expr} {px py pt : Pos} {kt k2 pt2} {pos : Pos} {f : Env → List O → RR (List D)} (hc : X.calm = true) (hN : X.N.Nodup) (hi : X.N[i]? = some x) (hj : X.N[j]? = some y) (hij : i ≠ j)
    (hx : X.env.scope.names.lookup x = some .local) (hy : X.env.scope.names.lookup y = some .local) (ha : PA X [a, b] (tA X T W f))
    (hw : swappedStores [.Tuple [.Name x px, .Name y py] kt pt] (.Tuple [a, b] k2 pt2) X.env = pure (some [x, y])) (hs : swapsWithSole [.Tuple [.Name x px, .Name y py] kt pt] (.Tuple [a, b] k2 pt2) pos.line X.env = pure false) :
    PS X (.Assign [.Tuple [.Name x px, .Name y py] kt pt] (.Tuple [a, b] k2 pt2) pos) (tS X T W (sPar f i j)) := by
  refine ps_imp (ps_par hc hN hi hj hij hx hy ha hw hs) fun K σ H q => ?_
  obtain ⟨Z, φ, st, ρ, S, E, w⟩ := q
  refine ⟨Z, φ, st, ρ, S, E, w.first E fun vs Z1 φ1 H1 ds s1 e1 S1 R1 w1 => ?_⟩
  split at w1
  · rename_i d e
    obtain ⟨v, u, rfl, r1, r2⟩ := reps2 R1
    exact ⟨v, u, rfl, w1 _ Z1 φ1 H1 Ext.refl S1 (((E.mono e1.e0).set r1).set r2)⟩
  · exact w1.elim
/-- o[i] = e -/
abbrev PrW := List O → D → D → D → Option (List O)
def sPut (h : PrW) (f g k : Env → List O → RR D) : Sm := fun ρ st => onE (f ρ st) ρ fun v s1 => onE (g ρ s1) ρ fun o s2 => onE (k ρ s2) ρ fun i s3 => match h s3 o i v with
  | some s4 => .nx ρ s4
  | none => .err
def rPut (X : Cx) (T : List (Addr × Str)) (h : PrW) : TSet := fun o i v H Q => ∃ Z φ st d1 d2 d3 st', Sim X.K T Z φ st H ∧ Rep X.K Z φ d1 o ∧ Rep X.K Z φ d2 i ∧ Rep X.K Z φ d3 v ∧ h st d1 d2 d3 = some st' ∧
  ∀ Z' φ' H', Ext Z φ H Z' φ' H' → Sim X.K T Z' φ' st' H' → Q H'
theorem put_reads {h : PrW} {f g k : Env → List O → RR D} {σ : L2.St} (q : tS X T W (sPut h f g k) K σ H) : tAsg (tE X T W f) (gSub (tE X T W g) (tE X T W k) (rPut X T h)) K σ H := by
  obtain ⟨Z, φ, st, ρ, S, E, w⟩ := q
  refine ⟨Z, φ, st, ρ, S, E, w.first E fun v Z1 φ1 H1 d s1 e1 S1 R1 w1 => ?_⟩
  have E1 := E.mono e1.e0
  refine ⟨Z1, φ1, s1, ρ, S1, E1, w1.first E1 fun o Z2 φ2 H2 d2 s2 e2 S2 R2 w2 => ?_⟩
  have E2 := E1.mono e2.e0
  refine ⟨Z2, φ2, s2, ρ, S2, E2, w2.first E2 fun i Z3 φ3 H3 d3 s3 e3 S3 R3 w3 => ?_⟩
  have E3 := E2.mono e3.e0
  cases hh : h s3 d2 d3 d with
  | none =>
    rw [hh] at w3
    exact w3.elim
  | some s4 =>
    rw [hh] at w3
    exact ⟨Z3, φ3, s3, d2, d3, d, s4, S3, Rep.mono e3.e0 _ _ R2, R3, Rep.mono (e2.trans e3).e0 _ _ R1, hh, fun Z4 φ4 H4 e4 S4 => w3 σ Z4 φ4 H4 e4 S4 (E3.mono e4.e0)⟩
theorem s_put {h : PrW} {o i e : Expr} {pos p2 : Pos} {f g k : Env → List O → RR D} (hset : PSet X (rPut X T h)) (he : PE X e (tE X T W f)) (ho : PE X o (tE X T W g)) (hi : PE X i (tE X T W k))
    (ha : ∀ v, assign (.Subscript o i p2) X.env v = (do
      let ov ← holding [v] (eval o X.env)
      let iv ← holding [v, ov] (eval i X.env)
      standAt p2
      holding [v, ov, iv] (setItem ov iv v)
      release [v, ov, iv] []))
    (hs : swapsWithSole [.Subscript o i p2] e pos.line X.env = pure false) (hw : swappedStores [.Subscript o i p2] e X.env = pure none) (h1 : (assignEach [.Subscript o i p2] X.env).map (·.2) = [assign (.Subscript o i p2) X.env]) :
    PS X (.Assign [.Subscript o i p2] e pos) (tS X T W (sPut h f g k)) := ps_imp (ps_asg he (pg_sub ho hi hset ha) hs hw h1) fun K σ H q => put_reads q
/-- x op= e at a name -/
abbrev PrI := List O → D → D → Option D
def sAug (h : PrI) (i : Nat) (f : Env → List O → RR D) : Sm := fun ρ st => match ρ[i]? with
  | some (some x) => onE (f ρ st) ρ fun y s1 => match h s1 x y with
    | some z => .nx (ρ.set i (some z)) s1
    | none => .err
  | _ => .err
def rAug (X : Cx) (T : List (Addr × Str)) (h : PrI) : TIp := fun x y H Q => ∃ Z φ st d1 d2 d3, Sim X.K T Z φ st H ∧ Rep X.K Z φ d1 x ∧ Rep X.K Z φ d2 y ∧ h st d1 d2 = some d3 ∧
  ∀ v Z' φ' H', Ext Z φ H Z' φ' H' → Sim X.K T Z' φ' st H' → Rep X.K Z' φ' d3 v → Q v H'
theorem s_aug {h : PrI} {i : Nat} {x : Str} {e : Expr} {op : Operator} {pos' pos : Pos} {f : Env → List O → RR D} (hN : X.N.Nodup) (hi : X.N[i]? = some x) (hx : Loc X.env.scope x) (he : PE X e (tE X T W f)) (ho : PIp X op (rAug X T h)) (hf : X.fn x = true ∨ X.env.scope.names.lookup x = some .local) :
    PS X (.AugAssign (.Name x pos') op e pos) (tS X T W (sAug h i f)) := by
  refine ps_imp (ps_aug hN hi hx he ho hf) fun K σ H q => ?_
  obtain ⟨Z, φ, st, ρ, S, E, w⟩ := q
  unfold sAug at w
  split at w
  · rename_i d hd
    obtain ⟨v, h1, h2⟩ := E.2 i d hd
    refine ⟨v, h1, Z, φ, st, ρ, S, E, w.first E fun y Z1 φ1 H1 dy s1 e1 S1 R1 w1 => ?_⟩
    cases hh : h s1 d dy with
    | none =>
      rw [hh] at w1
      exact w1.elim
    | some z =>
      rw [hh] at w1
      refine ⟨Z1, φ1, s1, d, dy, z, S1, Rep.mono e1.e0 _ _ h2, R1, hh, fun u Z2 φ2 H2 e2 S2 R2 => ?_⟩
      exact w1 _ Z2 φ2 H2 e2 S2 ((E.mono (e1.trans e2).e0).set R2)
  · exact w.elim

/-! ### loops -/
def goW (t : Env → List O → RR Bool) (f : Sm) : Nat → Sm
  | 0 => fun _ _ => .err
  | n + 1 => fun ρ st => onE (t ρ st) ρ fun b s1 => if b = true then (match f ρ s1 with
      | .nx ρ' s2 => goW t f n ρ' s2
      | .ct ρ' s2 => goW t f n ρ' s2
      | .bk ρ' s2 => .nx ρ' s2
      | r => r) else .nx ρ s1
theorem s_while {n : Nat} {c : Expr} {body : List Stmt} {pos : Pos} {t : Env → List O → RR Bool} {f : Sm} (hp : PassesOwn (model X.prog X.w) X.A X.env X.xe) (hc : PT X c (tB X T W t)) (hb : PSs X body (tS X T W f)) : PS X (.While c body [] pos) (tS X T W (goW t f n)) := by
  refine ps_imp (ps_while hp hc hb) fun K σ H q => ?_
  refine ⟨fun m σ H => tS X T W (goW t f m) K σ H, ⟨n, q⟩, fun m σ H q => ?_⟩
  obtain ⟨Z, φ, st, ρ, S, E, w⟩ := q
  cases m with
  | zero => exact w.elim
  | succ m =>
    refine ⟨Z, φ, st, ρ, S, E, w.first E fun b Z1 φ1 H1 d s1 e1 S1 R1 w1 => ?_⟩
    cases R1
    cases b with
    | false => exact w1 σ Z1 φ1 H1 Ext.refl S1 (E.mono e1.e0)
    | true =>
      rw [if_pos rfl] at w1 ⊢
      refine ⟨fun σ' H' => tS X T W (goW t f m) K σ' H', fun σ' H' q => ⟨m, Nat.lt_succ_self m, q⟩, Z1, φ1, s1, ρ, S1, E.mono e1.e0, ?_⟩
      cases hf : f ρ s1 with
      | nx ρ' s2 =>
        rw [hf] at w1
        exact fun σ' Z2 φ2 H2 e2 S2 E2 => ⟨Z2, φ2, s2, ρ', S2, E2, w1.ext e2⟩
      | ct ρ' s2 =>
        rw [hf] at w1
        exact fun σ' Z2 φ2 H2 e2 S2 E2 => ⟨Z2, φ2, s2, ρ', S2, E2, w1.ext e2⟩
      | bk ρ' s2 =>
        rw [hf] at w1
        exact w1
      | rt d s2 =>
        rw [hf] at w1
        exact w1
      | exc c ρ' s2 =>
        rw [hf] at w1
        exact w1
      | err =>
        rw [hf] at w1
        exact w1
def goF (s : Src) (t : GT) (f : Sm) : List D → Sm
  | [] => fun ρ st => if s.gd st = true then .nx ρ st else .err
  | d :: ds => fun ρ st => if s.gd st = true then (match asgT t d ρ with
      | none => .err
      | some ρ' => match f ρ' st with
        | .nx ρ2 s2 => goF s t f ds ρ2 s2
        | .ct ρ2 s2 => goF s t f ds ρ2 s2
        | .bk ρ2 s2 => .nx ρ2 s2
        | r => r) else .err
def sFor (src : Env → List O → RR Src) (t : GT) (f : Sm) : Sm := fun ρ st => onE (src ρ st) ρ fun s s1 => goF s t f s.its ρ s1
theorem s_for {tg iter : Expr} {body : List Stmt} {pos : Pos} {src : Env → List O → RR Src} {t : GT} {f : Sm} (hp : PassesOwn (model X.prog X.w) X.A X.env X.xe) (hc : X.calm = true) (hi : PI X tg iter (tI X T W src)) (hg : PG X tg (tT X T t)) (hb : PSs X body (tS X T W f))
    (hs : ∀ x, foldedSetIterable iter X.env x = pure x) : PS X (.For tg iter body [] pos) (tS X T W (sFor src t f)) := by
  refine ps_imp (ps_for hp hc hi hg hb hs) fun K σ H q => ?_
  obtain ⟨Z, φ, st, ρ, S, E, w⟩ := q
  refine ⟨Z, φ, st, ρ, S, E, w.first E fun J Z1 φ1 H1 s s1 e1 S1 F w1 => ?_⟩
  refine ⟨fun i m σ2 H2 => m = s.its.length - i ∧ i ≤ s.its.length ∧ ∃ Z2 φ2 st2 ρ2, Ext Z1 φ1 H1 Z2 φ2 H2 ∧ Sim X.K T Z2 φ2 st2 H2 ∧ EnvR X.K Z2 φ2 ρ2 σ2 ∧ SpG X T W Z2 φ2 H2 (goF s t f (s.its.drop i) ρ2 st2) K,
    ⟨_, rfl, Nat.zero_le _, Z1, φ1, s1, ρ, Ext.refl, S1, E.mono e1.e0, w1⟩, ?_⟩
  rintro i m σ2 H2 ⟨rfl, hi, Z2, φ2, st2, ρ2, e2, S2, E2, w2⟩
  have hg : s.gd st2 = true := by
    cases hg : s.gd st2 with
    | true => rfl
    | false =>
      cases hc : s.its.drop i with
      | nil =>
        rw [hc] at w2
        unfold goF at w2
        rw [hg] at w2
        exact w2.elim
      | cons d ds =>
        rw [hc] at w2
        unfold goF at w2
        rw [hg] at w2
        exact w2.elim
  by_cases hlt : i < s.its.length
  · refine .inr ⟨F.go Z2 φ2 st2 H2 i e2 S2 hg hlt, fun σ3 H3 => i + 1 ≤ s.its.length ∧ ∃ Z3 φ3 st3 ρ3, Ext Z1 φ1 H1 Z3 φ3 H3 ∧ Sim X.K T Z3 φ3 st3 H3 ∧ EnvR X.K Z3 φ3 ρ3 σ3 ∧ SpG X T W Z3 φ3 H3 (goF s t f (s.its.drop (i + 1)) ρ3 st3) K,
      fun σ3 H3 h3 => ⟨s.its.length - (i + 1), by omega, rfl, h3.1, h3.2⟩, fun x H3 y => ?_⟩
    have hd : s.its[i]? = some s.its[i] := List.getElem?_eq_getElem hlt
    obtain ⟨Z3, e3, S3, R3⟩ := F.yld Z2 φ2 st2 H2 i _ x H3 e2 S2 hg hd y
    rw [drop_cons hd] at w2
    unfold goF at w2
    rw [if_pos hg] at w2
    cases ha : asgT t s.its[i] ρ2 with
    | none =>
      rw [ha] at w2
      exact w2.elim
    | some ρ' =>
      rw [ha] at w2
      refine ⟨Z3, φ2, st2, ρ2, _, ρ', S3, E2.mono e3.e0, R3, ha, fun σ3 E3 _ => ⟨Z3, φ2, st2, ρ', S3, E3, ?_⟩⟩
      have w3 : SpG X T W Z3 φ2 H3 (match f ρ' st2 with
        | .nx ρ2 s2 => goF s t f (s.its.drop (i + 1)) ρ2 s2
        | .ct ρ2 s2 => goF s t f (s.its.drop (i + 1)) ρ2 s2
        | .bk ρ2 s2 => .nx ρ2 s2
        | r => r) K := w2.ext e3
      cases hf : f ρ' st2 with
      | nx ρ4 s4 =>
        rw [hf] at w3
        exact fun σ4 Z4 φ4 H4 e4 S4 E4 => ⟨hlt, Z4, φ4, s4, ρ4, (e2.trans e3).trans e4, S4, E4, w3.ext e4⟩
      | ct ρ4 s4 =>
        rw [hf] at w3
        exact fun σ4 Z4 φ4 H4 e4 S4 E4 => ⟨hlt, Z4, φ4, s4, ρ4, (e2.trans e3).trans e4, S4, E4, w3.ext e4⟩
      | bk ρ4 s4 =>
        rw [hf] at w3
        exact w3
      | rt d s4 =>
        rw [hf] at w3
        exact w3
      | exc c ρ4 s4 =>
        rw [hf] at w3
        exact w3
      | err =>
        rw [hf] at w3
        exact w3
  · have hie : i = s.its.length := by omega
    subst hie
    refine .inl ⟨F.stop Z2 φ2 st2 H2 e2 S2 hg, ?_⟩
    rw [List.drop_length] at w2
    unfold goF at w2
    rw [if_pos hg] at w2
    exact w2 σ2 Z2 φ2 H2 Ext.refl S2 E2

/-! ### raise -/
def sRaise (c : Str) : Sm := fun ρ st => .exc c ρ st
theorem s_raise {c m : Str} {j : Nat} {p p2 p3 pos : Pos} {C : Addr} {bmB : List Value} {B newId initId : String} (hc : X.calm = true) (tk : Takes X W) (F : ExcBaseFacts B newId initId bmB) (q : PySem.W.excIn X.K C bmB newId = true) (gC : X.mg c = some (.ref C)) (kC : PySem.W.keepIn X.K (.ref C) = true) (r : Raises X (.ref C)) (hg : Gl X c)
    (hdb : (c == ("__debug__" : Str)) = false) : PS X (.Raise (some (.Call (.Name c p) [.Constant (.str m) j p2] [] pos)) none p3) (tS X T W (sRaise c)) := by
  refine ps_imp (ps_raise hc tk (pmk_own F q gC kC r hg hdb)) fun K σ H q => ?_
  obtain ⟨Z, φ, st, ρ, S, E, w⟩ := q
  exact w C σ Z φ H gC Ext.refl S E

/-! ### defs -/
abbrev Calls := Str → List D → List O → RR D
def WpC (K : PySem.W.Frag) (mg : Str → Option Value) (T : List (Addr × Str)) (Z : Hp) (φ : List Addr) (H : Hp) (r : RR D) (Q : VK) (E : XK) : Prop :=
  match r with
  | .ok d st => ∀ v Z' φ' H', Ext Z φ H Z' φ' H' → Sim K T Z' φ' st H' → Rep K Z' φ' d v → Q v H'
  | .exc c st => ∀ C Z' φ' H', mg c = some (.ref C) → Ext Z φ H Z' φ' H' → Sim K T Z' φ' st H' → E (.ref C) none H'
  | .err => False
/-- a def's promise -/
def spC (K : PySem.W.Frag) (mg : Str → Option Value) (T : List (Addr × Str)) (n : Nat) (f : List D → List O → RR D) : Sp := fun vs H Q E => ∃ Z φ st ds, Sim K T Z φ st H ∧ Reps K Z φ ds vs ∧ ds.length = n ∧ WpC K mg T Z φ H (f ds st) Q E
def eCall (f : List D → List O → RR D) (n : Nat) (g : Env → List O → RR (List D)) : Env → List O → RR D := fun ρ st => (g ρ st).bind fun ds s1 => if ds.length = n then f ds s1 else .err
theorem x_call {f : List D → List O → RR D} {x : Str} {p pos : Pos} {e : Expr} {es : List Expr} {k : Nat} {fa : Addr} {fd : FuncData} {ps : List Str} {g : Env → List O → RR (List D)} (F : FnOk X.prog X.w X.K X.mg X.base (L2.CX X.prog X.w) k fa fd ps (spC X.K X.mg T ps.length f)) (hr : Room k X.A) (hg : Gl X x) (hm : X.mg x = some (.ref fa)) (hk : PySem.W.keepIn X.K (.ref fa) = true) (hb : Binds X.K fd ps []) (tk : Takes X W)
    (ha : PA X (e :: es) (tA X T W g)) (hdb : (x == ("__debug__" : Str)) = false) (he : starEach (e :: es) X.env = (false, eval e X.env) :: starEach es X.env) (hpl : (backTo pos (starEach es X.env)).any (·.1) = false) :
    PE X (.Call (.Name x p) (e :: es) [] pos) (tE X T W (eCall f ps.length g)) := by
  refine pe_imp (pe_callS F hr hg hm hk hb (fun σ => passAt tk σ) ha hdb he hpl) fun σ H Q q => ?_
  obtain ⟨Z, φ, st, ρ, S, E, w⟩ := q
  refine ⟨Z, φ, st, ρ, S, E, w.first fun vs Z1 φ1 H1 ds s1 e1 S1 R1 w1 => ?_⟩
  by_cases hl : ds.length = ps.length
  · rw [if_pos hl] at w1
    refine ⟨Z1, φ1, s1, ds, S1, R1, hl, ?_⟩
    cases hf : f ds s1 with
    | ok d s2 =>
      rw [hf] at w1
      exact w1
    | exc c s2 =>
      rw [hf] at w1
      exact w1
    | err =>
      rw [hf] at w1
      exact w1
  · rw [if_neg hl] at w1
    exact w1.elim
/-- what a body is worth, from its parameters -/
def bodyOf (f : Sm) (n : Nat) (ds : List D) (st : List O) : RR D := match f (ds.map some ++ List.replicate (n - ds.length) none) st with
  | .nx _ s => .ok .non s
  | .rt d s => .ok d s
  | .exc c _ s => .exc c s
  | _ => .err
theorem env_start {K : PySem.W.Frag} {Z : Hp} {φ : List Addr} {N : List Str} {ds : List D} {vs : List V} (r : Reps K Z φ ds vs) : EnvR K Z φ (ds.map some ++ List.replicate (N.length - ds.length) none) (L2.start N vs) := by
  refine ⟨?_, fun i d g => ?_⟩
  · unfold L2.start
    simp [r.len]
  · by_cases hi : i < ds.length
    · rw [List.getElem?_append_left (by simpa using hi), List.getElem?_map] at g
      have g' : ds[i]? = some d := by
        cases q : ds[i]? with
        | none =>
          rw [q] at g
          cases g
        | some u =>
          rw [q] at g
          simpa using g
      obtain ⟨v, h1, h2⟩ := r.get g'
      refine ⟨v, ?_, h2⟩
      unfold L2.start
      rw [List.getElem?_append_left (by rw [List.length_map, ← r.len]; exact hi), List.getElem?_map, h1]
      rfl
    · rw [List.getElem?_append_right (by simpa using hi)] at g
      rw [List.getElem?_replicate] at g
      split at g
      · cases g
      · cases g
theorem def_ok {P : Program} {w : World} {K : PySem.W.Frag} {mg : Str → Option Value} {base : Heap} {x qual : Str} {st : Stmt} {fa : Addr} {fd : FuncData} {N ps : List Str} {k : Nat} {T : List (Addr × Str)} {f : Sm} (F : Fun K x qual st fa fd) (S : FnScope N ps (defScope st))
    (hbody : ∀ (cdv : Value) (A : Around) (outer : List PySem.Env) (s : Shared) (H : Hp) (E : XK), Room k (A.deeper (PyProof.Rows.envOfC qual (defScope st) s.heap.objs.size fa cdv)) →
      PSs (cxOf (L2.CX P w) P w K mg base N qual (defScope st) fa cdv A outer s H E) (defBody st) (tS (cxOf (L2.CX P w) P w K mg base N qual (defScope st) fa cdv A outer s H E) T (fun cls d _ H => E cls d H) f)) :
    FnOk P w K mg base (L2.CX P w) (k + 1) fa fd ps (spC K mg T ps.length (bodyOf f N.length)) := by
  refine F.okX S (fun vs H Q E h => ?_) fun cdv A outer s H vs Q E hr h => ?_
  · obtain ⟨Z, φ, st, ds, _, R, hl, _⟩ := h
    rw [← R.len, hl]
  · refine ⟨_, hbody cdv A outer s H E hr, ?_⟩
    obtain ⟨Z, φ, st, ds, S1, R, hl, w⟩ := h
    refine ⟨Z, φ, st, _, S1, env_start R, ?_⟩
    unfold bodyOf at w
    cases hf : f (ds.map some ++ List.replicate (N.length - ds.length) none) st with
    | nx ρ s2 =>
      rw [hf] at w
      exact fun σ Z2 φ2 H2 e2 S2 E2 => w .non Z2 φ2 H2 e2 S2 rfl
    | rt d s2 =>
      rw [hf] at w
      exact w
    | exc c ρ s2 =>
      rw [hf] at w
      exact fun C σ Z2 φ2 H2 m e2 S2 E2 => w C Z2 φ2 H2 m e2 S2
    | bk ρ s2 =>
      rw [hf] at w
      exact w.elim
    | ct ρ s2 =>
      rw [hf] at w
      exact w.elim
    | err =>
      rw [hf] at w
      exact w.elim
theorem def_none {P : Program} {w : World} {K : PySem.W.Frag} {mg : Str → Option Value} {base : Heap} {fa : Addr} {fd : FuncData} {ps : List Str} {T : List (Addr × Str)} : FnOk P w K mg base (L2.CX P w) 0 fa fd ps (spC K mg T ps.length fun _ _ => .err) := by
  refine ⟨fun vs H Q E h => ?_, fun A outer s H args us vs Q E _ _ _ _ h => ?_⟩
  · obtain ⟨Z, φ, st, ds, _, R, hl, w⟩ := h
    exact w.elim
  · obtain ⟨Z, φ, st, ds, _, R, hl, w⟩ := h
    exact w.elim
end
end Tl
/-! TLt: a < b for tuples, by the first place at which the items differ: nothing is asked of the places behind it. -/
namespace Tl
open PySem PySem.SeqAt PySem.MeetsSeq PySem.MeetsSeq2 PySem.MeetsSeq3 PySem.SeqRoads2
open PySem.AutoSeq1 (wpAny_loadPart')

/-- all places ahead of j are equal -/
def Ahead (e : Nat → Bool) (j : Nat) : Prop := ∀ i, i < j → e i = true
theorem tupleLt (l b : Addr) (xs ys : Array Value) (n n2 : Nat) (dd dd2 : Option Addr) (sl sl2 : Array (Option Value)) (e r : Nat → Bool) :
    Meets (Builtin.«tuple.__lt__» ⟨[.ref l, .ref b], []⟩)
      (fun A R s => s.heap.get? l = some { cls := .type "tuple", dict := dd, data := .seq xs n, slots := sl } ∧ s.heap.get? b = some { cls := .type "tuple", dict := dd2, data := .seq ys n2, slots := sl2 } ∧
        (∀ j (p : j < xs.size) (q : j < ys.size), Ahead e j → EqAt A.in1 s xs[j] ys[j] (e j)) ∧ (∀ j (p : j < xs.size) (q : j < ys.size), Ahead e j → e j = false → RcLt A.in1 s xs[j] ys[j] (r j)) ∧
        R (.ok (.ret (.bool (firstLt e r (decide (xs.size < ys.size)) (List.range (min xs.size ys.size)))))) s) :=
  .of_wp fun prog w A R s hyp => by
    obtain ⟨hp, g, d, tk, os⟩ := s
    obtain ⟨hl, hb, he, hr, fin⟩ := hyp
    have sub := AutoSeq1.sub_tuple_tuple
    have len : (xs.toList.zip ys.toList).length = min xs.size ys.size := by simp
    wp_walk using wpAny_loadPart' hl, wpAny_loadPart' hb, wpAny_forIn_list _ (fun rest st s' => st.1 = none ∧ s' = ⟨hp, g, d, tk, os⟩ ∧ ∃ i, Ahead e i ∧ rest = (xs.toList.zip ys.toList).drop i ∧
      R (.ok (.ret (.bool (firstLt e r (decide (xs.size < ys.size)) ((List.range (min xs.size ys.size)).drop i))))) ⟨hp, g, d, tk, os⟩) _
    case turn =>
      rintro ⟨y, x⟩ rest st s' ⟨_, rfl, i, ha, hz, hR⟩
      have lt : i < (xs.toList.zip ys.toList).length := Nat.lt_of_not_le fun ge => by
        rw [List.drop_of_length_le ge] at hz
        cases hz
      have m : i < min xs.size ys.size := by rw [← len]; exact lt
      have p : i < xs.size := by omega
      have q : i < ys.size := by omega
      rw [List.drop_eq_getElem_cons lt] at hz
      injection hz with both more
      obtain rfl : y = xs[i] := by simpa using congrArg Prod.fst both
      obtain rfl : x = ys[i] := by simpa using congrArg Prod.snd both
      have step : (List.range (min xs.size ys.size)).drop i = i :: (List.range (min xs.size ys.size)).drop (i + 1) := by simp [List.drop_eq_getElem_cons, m]
      rw [step] at hR
      refine wpAny_bind (he i p q ha prog w _ _ ?_)
      cases same : e i with
      | true =>
        rw [firstLt_yes same] at hR
        wp_walk
        refine ⟨rfl, rfl, i + 1, fun j hj => ?_, more, hR⟩
        rcases Nat.lt_succ_iff_lt_or_eq.mp hj with z | z
        · exact ha j z
        · rw [z]
          exact same
      | false =>
        rw [firstLt_no same] at hR
        dsimp only
        generalize hrc : richCompare CmpOp.Lt xs[i] ys[i] = rc
        wp_walk
        subst hrc
        refine hr i p q ha same prog w _ _ ?_
        wp_walk
        exact ⟨_, rfl, hR⟩
    case fin =>
      rintro ⟨st1, st2⟩ s' ⟨h0, rfl, i, ha, hz, hR⟩
      simp only at h0
      subst h0
      have ge : min xs.size ys.size ≤ i := Nat.le_of_not_lt fun lt => by
        rw [← len] at lt
        rw [List.drop_eq_getElem_cons lt] at hz
        cases hz
      rw [List.drop_of_length_le (by simpa using ge)] at hR
      wp_walk
      exact ⟨_, rfl, by simpa [Builtin.Tuple.tupleCompareSizes, firstLt] using hR⟩
    case h =>
      exact ⟨rfl, rfl, 0, fun _ z => absurd z (Nat.not_lt_zero _), rfl, by simpa using fin⟩
end Tl
/-! TLt2: a < b of data: ints, texts, tuples of such, nested; nothing is told where Python would not compare. -/
namespace Tl
open PySem PySem.SeqAt
mutual
def ltP : PyData → PyData → Option Bool
  | .int a, .int b => some (decide (a < b))
  | .str a, .str b => some (decide (a.cps.toList < b.cps.toList))
  | .tuple xs, .tuple ys => ltPs xs ys
  | _, _ => none
def ltPs : List PyData → List PyData → Option Bool
  | [], [] => some false
  | [], _ :: _ => some true
  | _ :: _, [] => some false
  | x :: xs, y :: ys => if PyData.eqv x y = true then ltPs xs ys else ltP x y
end
abbrev eqJ (xs ys : List PyData) : Nat → Bool := fun j => PyData.eqv (xs.getD j .none) (ys.getD j .none)
abbrev ltJ (xs ys : List PyData) : Nat → Bool := fun j => (ltP (xs.getD j .none) (ys.getD j .none)).getD false
theorem firstLt_shift (e r : Nat → Bool) (fin : Bool) : ∀ l : List Nat, firstLt e r fin (l.map Nat.succ) = firstLt (fun j => e (j + 1)) (fun j => r (j + 1)) fin l
  | [] => rfl
  | j :: l => by
    show (if e (j + 1) = true then firstLt e r fin (l.map Nat.succ) else r (j + 1)) = if e (j + 1) = true then _ else _
    rw [firstLt_shift e r fin l]
theorem first_ok : ∀ (xs ys : List PyData) (k : Bool), ltPs xs ys = some k → firstLt (eqJ xs ys) (ltJ xs ys) (decide (xs.length < ys.length)) (List.range (min xs.length ys.length)) = k ∧
    ∀ j, j < xs.length → j < ys.length → Ahead (eqJ xs ys) j → eqJ xs ys j = false → ltP (xs.getD j .none) (ys.getD j .none) = some (ltJ xs ys j)
  | [], [], k, h => ⟨by
      have e := Option.some.inj h
      subst e
      rfl, fun j p _ _ _ => absurd p (Nat.not_lt_zero _)⟩
  | [], y :: ys, k, h => ⟨by
      have e := Option.some.inj h
      subst e
      simp [firstLt], fun j p _ _ _ => absurd p (Nat.not_lt_zero _)⟩
  | x :: xs, [], k, h => ⟨by
      have e := Option.some.inj h
      subst e
      simp [firstLt], fun j _ q _ _ => absurd q (Nat.not_lt_zero _)⟩
  | x :: xs, y :: ys, k, h => by
    have h' : (if PyData.eqv x y = true then ltPs xs ys else ltP x y) = some k := by
      rw [← h, ltPs]
    have len : min (x :: xs).length (y :: ys).length = min xs.length ys.length + 1 := by
      simp only [List.length_cons]
      omega
    have cmp : decide ((x :: xs).length < (y :: ys).length) = decide (xs.length < ys.length) := by
      simp
    rw [len, cmp, List.range_succ_eq_map]
    by_cases he : PyData.eqv x y = true
    · rw [if_pos he] at h'
      obtain ⟨h1, h2⟩ := first_ok xs ys k h'
      refine ⟨?_, fun j p q ha hj => ?_⟩
      · rw [firstLt_yes (show eqJ (x :: xs) (y :: ys) 0 = true from he), firstLt_shift]
        exact h1
      · cases j with
        | zero =>
          have z : PyData.eqv x y = false := hj
          rw [he] at z
          cases z
        | succ j => exact h2 j (Nat.lt_of_succ_lt_succ p) (Nat.lt_of_succ_lt_succ q) (fun i hi => ha (i + 1) (Nat.succ_lt_succ hi)) hj
    · rw [if_neg he] at h'
      have he' : eqJ (x :: xs) (y :: ys) 0 = false := Bool.eq_false_iff.mpr he
      have r0 : ltJ (x :: xs) (y :: ys) 0 = k := by
        show (ltP x y).getD false = k
        rw [h']
        rfl
      refine ⟨?_, fun j p q ha hj => ?_⟩
      · rw [firstLt_no he']
        exact r0
      · cases j with
        | zero =>
          rw [r0]
          exact h'
        | succ j =>
          have z := ha 0 (Nat.succ_pos _)
          rw [he'] at z
          cases z
theorem readsAll_get {h : Heap} : ∀ {xs : List PyData} {vs : List Value} {as : List Addr}, ReadsAll h vs xs as → ∀ (j : Nat) (p : j < vs.length), ∃ bs, Reads h vs[j] (xs.getD j .none) bs
  | _, _, _, .nil, j, p => absurd p (Nat.not_lt_zero _)
  | _, _, _, .cons r t, 0, p => ⟨_, r⟩
  | _, _, _, .cons r t, j + 1, p => readsAll_get t j (Nat.lt_of_succ_lt_succ p)
theorem readsAll_len {h : Heap} : ∀ {xs : List PyData} {vs : List Value} {as : List Addr}, ReadsAll h vs xs as → vs.length = xs.length
  | _, _, _, .nil => rfl
  | _, _, _, .cons r t => by
    simp only [List.length_cons]
    rw [readsAll_len t]
theorem depth_getD : ∀ (xs : List PyData) (j : Nat), (xs.getD j .none).depth ≤ PyData.depthAll xs
  | [], j => by simp [PyData.depth]
  | x :: xs, 0 => by
    simp only [PyData.depthAll, List.getD_cons_zero]
    exact Nat.le_max_left _ _
  | x :: xs, j + 1 => by
    simp only [PyData.depthAll, List.getD_cons_succ]
    exact Nat.le_trans (depth_getD xs j) (Nat.le_max_right _ _)
theorem lay_getD : ∀ (xs : List PyData) (j : Nat), PyData.canLayAll0 xs = true → (xs.getD j .none).canLay0 = true
  | [], j, _ => by simp [PyData.canLay0]
  | x :: xs, 0, h => by
    simp only [PyData.canLayAll0, Bool.and_eq_true] at h
    exact h.1
  | x :: xs, j + 1, h => by
    simp only [PyData.canLayAll0, Bool.and_eq_true] at h
    exact lay_getD xs j h.2
theorem rcLt_of : ∀ (n : Nat) (da db : PyData) (A : Around) (s : Shared) (a b : Value) (as bs : List Addr) (k : Bool), da.depth ≤ n → Reads s.heap a da as → Reads s.heap b db bs → da.canLay0 = true → db.canLay0 = true → ltP da db = some k → A.units + n < cLine → RcLt A s a b k
  | n, .int x, db, A, s, a, b, as, bs, k, hn, ra, rb, la, lb, h, hu => by
    cases db with
    | int y =>
      cases ra
      cases rb
      have e : some (decide (x < y)) = some k := by rw [← h, ltP]
      intro prog w E Q hq
      rw [← Option.some.inj e] at hq
      exact P.lt_int hq
    | _ => exact absurd h (by simp [ltP])
  | n, .str x, db, A, s, a, b, as, bs, k, hn, ra, rb, la, lb, h, hu => by
    cases db with
    | str y =>
      cases ra
      cases rb
      have e : some (decide (x.cps.toList < y.cps.toList)) = some k := by rw [← h, ltP]
      intro prog w E Q hq
      rw [← Option.some.inj e] at hq
      exact P.lt_str hq
    | _ => exact absurd h (by simp [ltP])
  | 0, .tuple xs, db, A, s, a, b, as, bs, k, hn, ra, rb, la, lb, h, hu => by
    simp only [PyData.depth] at hn
    omega
  | n + 1, .tuple xs, db, A, s, a, b, as, bs, k, hn, ra, rb, la, lb, h, hu => by
    cases db with
    | tuple ys =>
      have e : ltPs xs ys = some k := by rw [← h, ltP]
      obtain ⟨h1, h2⟩ := first_ok xs ys k e
      simp only [PyData.depth] at hn
      simp only [PyData.canLay0] at la lb
      cases ra with
      | @tuple l o vs m _ as1 g1 g2 g3 g4 =>
        cases rb with
        | @tuple l' o' ws m' _ bs1 q1 q2 q3 q4 =>
          have n1 : vs.size = xs.length := by simpa using readsAll_len g4
          have n2 : ws.size = ys.length := by simpa using readsAll_len q4
          obtain ⟨cls, dd, data, sl⟩ := o
          obtain ⟨cls2, dd2, data2, sl2⟩ := o'
          simp only at g2 g3 q2 q3
          subst g2 g3 q2 q3
          have at1 : ∀ j (p : j < vs.size), ∃ bs, Reads s.heap vs[j] (xs.getD j .none) bs := fun j p => by
            obtain ⟨bs, r⟩ := readsAll_get g4 j (by simpa using p)
            exact ⟨bs, by simpa using r⟩
          have at2 : ∀ j (p : j < ws.size), ∃ bs, Reads s.heap ws[j] (ys.getD j .none) bs := fun j p => by
            obtain ⟨bs, r⟩ := readsAll_get q4 j (by simpa using p)
            exact ⟨bs, by simpa using r⟩
          have hin : A.in1.units = A.units + 1 := rfl
          intro prog w E Q hq
          rw [← h1, ← n1, ← n2] at hq
          refine richCompare_meets_room (op := .Lt) ⟨_, g1, rfl⟩ ⟨_, q1, rfl⟩ F.slot_tuple_lt F.entry_tuple_lt (F.args_tuple_lt_2 _ _) (tupleLt l l' vs ws m m' dd dd2 sl sl2 (eqJ xs ys) (ltJ xs ys)) ⟨g1, q1, fun j p q ha => ?_, fun j p q ha hj => ?_, ?_⟩ (by omega)
          · obtain ⟨b1, r1⟩ := at1 j p
            obtain ⟨b2, r2⟩ := at2 j q
            refine eqAt_reads _ _ A.in1 s _ _ _ _ r1 r2 (lay_getD xs j la) (lay_getD ys j lb) ?_
            have d1 := depth_getD xs j
            have d2 := Nat.min_le_left (xs.getD j PyData.none).depth (ys.getD j PyData.none).depth
            rw [hin]
            omega
          · obtain ⟨b1, r1⟩ := at1 j p
            obtain ⟨b2, r2⟩ := at2 j q
            have d1 := depth_getD xs j
            exact rcLt_of n _ _ A.in1 s _ _ _ _ _ (by omega) r1 r2 (lay_getD xs j la) (lay_getD ys j lb) (h2 j (by rw [← n1]; exact p) (by rw [← n2]; exact q) ha hj) (by rw [hin]; omega)
          · exact ⟨(fun z => nomatch z), hq⟩
    | _ => exact absurd h (by simp [ltP])
  | n, .none, db, A, s, a, b, as, bs, k, hn, ra, rb, la, lb, h, hu => by
    cases db <;> exact absurd h (by simp [ltP])
  | n, .bool x, db, A, s, a, b, as, bs, k, hn, ra, rb, la, lb, h, hu => by
    cases db <;> exact absurd h (by simp [ltP])
  | n, .list x, db, A, s, a, b, as, bs, k, hn, ra, rb, la, lb, h, hu => by
    cases db <;> exact absurd h (by simp [ltP])
  | n, .dict x, db, A, s, a, b, as, bs, k, hn, ra, rb, la, lb, h, hu => by
    cases db <;> exact absurd h (by simp [ltP])
termination_by n => n
end Tl
/-! TPrim: what the built-in operations make of data. -/
namespace Tl
open PySem L2

mutual
def toP : D → PyData
  | .non => .none
  | .bl b => .bool b
  | .int i => .int i
  | .str x => .str x
  | .tup xs => .tuple (toPs xs)
  | .lst xs => .list (toPs xs)
  | .loc _ => .dict []
  | .scr _ => .dict []
def toPs : List D → List PyData
  | [] => []
  | x :: xs => toP x :: toPs xs
end
/-- a list of the store is looked up, once -/
def deref (st : List O) : D → D
  | .loc n => match st[n]? with
    | some (.lst xs) => .lst xs
    | _ => .loc n
  | d => d
def lay (d : D) : Bool := (toP d).canLay0
def dep (d : D) : Nat := (toP d).depth
section
variable {X : Cx} {T : List (Addr × Str)} {W : WX} {Z : Hp} {φ : List Addr} {st : List O} {H : Hp}
mutual
theorem dp_of (hz : ∀ a o, Z a = some o → H a = some o) : ∀ (d : D) (v : V), lay d = true → Rep X.K Z φ d v → Dp X.K H v (toP d)
  | .non, v, _, r => by
    rw [show v = .non from r]
    exact Dp.non
  | .bl b, v, _, r => by
    rw [show v = .bl b from r]
    exact Dp.bl b
  | .int b, v, _, r => by
    rw [show v = .int b from r]
    exact Dp.int b
  | .str b, v, _, r => by
    rw [show v = .str b from r]
    exact Dp.str b
  | .tup ds, v, h, r => by
    obtain ⟨a, xs, rfl, h1, h2⟩ := r
    exact Dp.tup (sqT_mono hz h1) (dps_of hz ds xs h h2)
  | .lst ds, v, h, r => by
    obtain ⟨a, xs, rfl, h1, h2⟩ := r
    exact Dp.lst (.inl (rd_mono hz h1)) (dps_of hz ds xs h h2)
  | .loc n, v, h, r => by
    have : false = true := h
    cases this
  | .scr n, v, h, r => by
    have : false = true := h
    cases this
theorem dps_of (hz : ∀ a o, Z a = some o → H a = some o) : ∀ (ds : List D) (vs : List V), PyData.canLayAll0 (toPs ds) = true → Reps X.K Z φ ds vs → DpAll X.K H vs (toPs ds)
  | [], vs, _, r => by
    rw [show vs = [] from r]
    exact DpAll.nil
  | d :: ds, vs, h, r => by
    obtain ⟨v, r', rfl, h2, h3⟩ := r
    have h' : ((toP d).canLay0 && PyData.canLayAll0 (toPs ds)) = true := h
    rw [Bool.and_eq_true] at h'
    exact DpAll.cons (dp_of hz d v h'.1 h2) (dps_of hz ds r' h'.2 h3)
end
theorem dp_deref (S : Sim X.K T Z φ st H) {d : D} {v : V} (h : lay (deref st d) = true) (r : Rep X.K Z φ d v) : Dp X.K H v (toP (deref st d)) := by
  cases d with
  | loc n =>
    obtain ⟨a, h1, rfl⟩ := r
    obtain ⟨o, g, q⟩ := S.atA h1
    cases o with
    | lst ds =>
      obtain ⟨xs, e1, e2⟩ := q
      have hd : deref st (.loc n) = .lst ds := by
        unfold deref
        simp only [g]
      rw [hd] at h ⊢
      exact Dp.lst (SqL.of e1) (dps_of S.fz ds xs h e2)
    | dic kvs =>
      have hd : deref st (.loc n) = .loc n := by
        unfold deref
        simp only [g]
      rw [hd] at h
      have : false = true := h
      cases this
  | _ => exact dp_of S.fz _ v h r
/-- an operation of two that changes nothing -/
abbrev P2 := List O → D → D → Option D
def pr2 (h : P2) : Pr := fun st ds => match ds with
  | [x, y] => (h st x y).map fun d => (d, st)
  | _ => none
abbrev P1 := List O → D → Option D
def pr1 (h : P1) : Pr := fun st ds => match ds with
  | [x] => (h st x).map fun d => (d, st)
  | _ => none
theorem op2 {f : Value → Value → Sem Value} {h : P2} (k : ∀ (pins : List (Addr × Obj)) (s : Shared) (σ : L2.St) (H : Hp) (x y : V) (v u : Value) (Q : VK) Z φ st dx dy d, Inv X pins σ H s → RelV x v → RelV y u → Sim X.K T Z φ st H → Rep X.K Z φ dx x → Rep X.K Z φ dy y → h st dx dy = some d →
    (∀ v Z' φ' H', Ext Z φ H Z' φ' H' → Sim X.K T Z' φ' st H' → Rep X.K Z' φ' d v → Q v H') → wpAny (model X.prog X.w) X.A (f v u) (EP X pins σ Q) X.xe s) : OpR X f fun x y => rP X T (pr2 h) [x, y] := by
  intro pins s σ H x y v u Q Iw rxw ryw q
  obtain ⟨Z, φ, st, ds, d, st', S, R, e, q⟩ := q
  unfold pr2 at e
  split at e
  · rename_i dx dy
    obtain ⟨x', y', ex, r1, r2⟩ := reps2 R
    cases ex
    cases hh : h st dx dy with
    | none =>
      rw [hh] at e
      cases e
    | some d' =>
      rw [hh] at e
      cases e
      exact k pins s σ H x y v u Q Z φ st dx dy d Iw rxw ryw S r1 r2 hh q
  · cases e
theorem call1 {f : Value} {h : P1} (k : ∀ (pins : List (Addr × Obj)) (s : Shared) (σ : L2.St) (H : Hp) (x : V) (us : List Value) (Q : VK) Z φ st dx d, Inv X pins σ H s → Vals [x] us → Sim X.K T Z φ st H → Rep X.K Z φ dx x → h st dx = some d →
    (∀ v Z' φ' H', Ext Z φ H Z' φ' H' → Sim X.K T Z' φ' st H' → Rep X.K Z' φ' d v → Q v H') → wpAny (model X.prog X.w) X.A (call f us) (EP X pins σ Q) X.xe s) : CallR X f (rP X T (pr1 h)) := by
  intro pins s σ H xs us Q Iw rxw q
  obtain ⟨Z, φ, st, ds, d, st', S, R, e, q⟩ := q
  unfold pr1 at e
  split at e
  · rename_i dx
    obtain ⟨x', rfl, r1⟩ := reps1 R
    cases hh : h st dx with
    | none =>
      rw [hh] at e
      cases e
    | some d' =>
      rw [hh] at e
      cases e
      exact k pins s σ H x' us Q Z φ st dx d Iw rxw S r1 hh q
  · cases e
theorem call2 {f : Value} {h : P2} (k : ∀ (pins : List (Addr × Obj)) (s : Shared) (σ : L2.St) (H : Hp) (x y : V) (us : List Value) (Q : VK) Z φ st dx dy d, Inv X pins σ H s → Vals [x, y] us → Sim X.K T Z φ st H → Rep X.K Z φ dx x → Rep X.K Z φ dy y → h st dx dy = some d →
    (∀ v Z' φ' H', Ext Z φ H Z' φ' H' → Sim X.K T Z' φ' st H' → Rep X.K Z' φ' d v → Q v H') → wpAny (model X.prog X.w) X.A (call f us) (EP X pins σ Q) X.xe s) : CallR X f (rP X T (pr2 h)) := by
  intro pins s σ H xs us Q Iw rxw q
  obtain ⟨Z, φ, st, ds, d, st', S, R, e, q⟩ := q
  unfold pr2 at e
  split at e
  · rename_i dx dy
    obtain ⟨x', y', rfl, r1, r2⟩ := reps2 R
    cases hh : h st dx dy with
    | none =>
      rw [hh] at e
      cases e
    | some d' =>
      rw [hh] at e
      cases e
      exact k pins s σ H x' y' us Q Z φ st dx dy d Iw rxw S r1 r2 hh q
  · cases e

/-! ### arithmetic -/
def listOf (st : List O) : D → Option (List D)
  | .lst xs => some xs
  | .loc n => match st[n]? with
    | some (.lst xs) => some xs
    | _ => none
  | _ => none
theorem listOf_ok (S : Sim X.K T Z φ st H) {d : D} {v : V} {ds : List D} (r : Rep X.K Z φ d v) (h : listOf st d = some ds) : ∃ a xs, v = .ref a ∧ Rd H a (.lst xs) ∧ Reps X.K Z φ ds xs := by
  cases d with
  | lst es =>
    obtain ⟨a, xs, rfl, h1, h2⟩ := r
    cases h
    exact ⟨a, xs, rfl, rd_mono S.fz h1, h2⟩
  | loc n =>
    obtain ⟨a, h1, rfl⟩ := r
    obtain ⟨o, g, q⟩ := S.atA h1
    have h' : (match st[n]? with
      | some (O.lst xs) => some xs
      | _ => none) = some ds := h
    rw [g] at h'
    cases o with
    | lst es =>
      cases h'
      obtain ⟨xs, e1, e2⟩ := q
      exact ⟨a, xs, rfl, Rd.of e1, e2⟩
    | dic _ => cases h'
  | _ => cases h
/-- xs + ys, either may be read alone -/
theorem op_catL : OpR X (binaryOp .Add) fun x y H Q => ∃ l b xs zs, x = .ref l ∧ y = .ref b ∧ Rd H l (.lst xs) ∧ Rd H b (.lst zs) ∧ xs.length + zs.length ≤ sizeLine ∧ ∀ p, H p = none → Q (.ref p) (upd H p (.lst (xs ++ zs))) := by
  intro pins s σ H x y v u Q Iw rxw ryw h
  obtain ⟨l, b, xs, zs, rfl, rfl, h1, h2, hz, q⟩ := h
  cases rxw
  cases ryw
  obtain ⟨_, its, n, r, e⟩ := h1.ok Iw.hok
  obtain ⟨_, its2, n2, r2, e2⟩ := h2.ok Iw.hok
  have k1 := r.length
  have k2 := r2.length
  refine PySem.P.add_list e e2 ?_ (by simp only [List.size_toArray]; omega)
  have hfw : H s.heap.objs.size = none := Iw.hok.fresh (Nat.le_refl _)
  refine ⟨.ref s.heap.objs.size, upd H s.heap.objs.size (.lst (xs ++ zs)), Iw.laid (t' := s.toks) (fun b u e => Heap.get?_push_of_some _ e) (Nat.le_refl _) ?_, rfl, q _ hfw⟩
  refine ⟨by rw [List.length_append]; exact hz, its ++ its2, 0, r.append r2, ?_⟩
  rw [show (its ++ its2).toArray = its.toArray ++ its2.toArray by simp]
  exact Heap.get?_push_size _ rfl
def dAdd : P2 := fun st x y => match x, y with
  | .int a, .int b => some (.int (a + b))
  | .str a, .str b => if a.length + b.length ≤ sizeLine then some (.str (a ++ b)) else none
  | .tup a, .tup b => if a.length + b.length ≤ sizeLine then some (.tup (a ++ b)) else none
  | x, y => match listOf st x, listOf st y with
    | some a, some b => if a.length + b.length ≤ sizeLine then some (.lst (a ++ b)) else none
    | _, _ => none
theorem o_add : OpR X (binaryOp .Add) fun x y => rP X T (pr2 dAdd) [x, y] := op2 fun pins s σ H x y v u Q Z φ st dx dy d Iw rxw ryw S r1 r2 h q => by
  unfold dAdd at h
  split at h
  · rename_i a b
    cases h
    exact op_add pins s σ H x y v u Q Iw rxw ryw ⟨a, b, r1, r2, q _ Z φ H Ext.refl S rfl⟩
  · rename_i a b
    split at h
    · rename_i hl
      cases h
      exact op_add_str pins s σ H x y v u Q Iw rxw ryw ⟨a, b, r1, r2, hl, q _ Z φ H Ext.refl S rfl⟩
    · cases h
  · rename_i a b
    split at h
    · rename_i hl
      cases h
      obtain ⟨p, xs, rfl, h1, h2⟩ := r1
      obtain ⟨p', ys, rfl, h1', h2'⟩ := r2
      refine op_catA pins s σ H _ _ v u Q Iw rxw ryw ⟨p, p', xs, ys, rfl, rfl, sqT_mono S.fz h1, sqT_mono S.fz h1', by rw [← h2.len, ← h2'.len]; exact hl, fun hx => ?_, fun _ hy => ?_, fun _ _ l hl => ?_⟩
      · have ha : a = [] := List.eq_nil_of_length_eq_zero (by rw [h2.len, hx]; rfl)
        subst ha
        exact q _ Z φ H Ext.refl S ⟨p', ys, rfl, h1', h2'⟩
      · have hb : b = [] := List.eq_nil_of_length_eq_zero (by rw [h2'.len, hy]; rfl)
        subst hb
        exact q _ Z φ H Ext.refl S ⟨p, xs, rfl, h1, by rw [List.append_nil]; exact h2⟩
      · obtain ⟨e2, S2⟩ := S.freeze (o := .tup (xs ++ ys)) hl
        exact q _ _ _ _ e2 S2 ⟨l, xs ++ ys, rfl, SqT.of upd_same, (h2.append h2').mono e2.e0⟩
    · cases h
  · split at h
    · rename_i a b ha hb
      split at h
      · rename_i hl
        cases h
        obtain ⟨p, xs, rfl, h1, h2⟩ := listOf_ok S r1 ha
        obtain ⟨p', ys, rfl, h1', h2'⟩ := listOf_ok S r2 hb
        refine op_catL pins s σ H _ _ v u Q Iw rxw ryw ⟨p, p', xs, ys, rfl, rfl, h1, h1', by rw [← h2.len, ← h2'.len]; exact hl, fun l hl => ?_⟩
        obtain ⟨e2, S2⟩ := S.freeze (o := .lst (xs ++ ys)) hl
        exact q _ _ _ _ e2 S2 ⟨l, xs ++ ys, rfl, Rd.of upd_same, (h2.append h2').mono e2.e0⟩
      · cases h
    · cases h
end
end Tl
/-! TPrim2: further operations. -/
namespace Tl
open PySem L2
section
variable {X : Cx} {T : List (Addr × Str)} {W : WX}

def dSub : P2 := fun _ x y => match x, y with
  | .int a, .int b => some (.int (a - b))
  | _, _ => none
theorem o_sub : OpR X (binaryOp .Sub) fun x y => rP X T (pr2 dSub) [x, y] := op2 fun pins s σ H x y v u Q Z φ st dx dy d I rx ryw S r1 r2 h q => by
  unfold dSub at h
  split at h
  · rename_i a b
    cases h
    exact op_sub pins s σ H x y v u Q I rx ryw ⟨a, b, r1, r2, q _ Z φ H Ext.refl S rfl⟩
  · cases h
instance (i j : Int) : Decidable (CMul i j) := inferInstanceAs (Decidable (_ ∨ _))
instance (i j : Int) : Decidable (CMulW i j) := inferInstanceAs (Decidable (_ < _))
instance (i j : Int) : Decidable (CDivN i j) := inferInstanceAs (Decidable (_ ∧ _))
instance (i j : Int) : Decidable (CPow i j) := inferInstanceAs (Decidable (_ ∧ _ ∧ _))
def dMul : P2 := fun _ x y => match x, y with
  | .int a, .int b => if CMul a b ∨ CMulW a b then some (.int (a * b)) else none
  | _, _ => none
theorem o_mul : OpR X (binaryOp .Mult) fun x y => rP X T (pr2 dMul) [x, y] := op2 fun pins s σ H x y v u Q Z φ st dx dy d I rx ryw S r1 r2 h q => by
  unfold dMul at h
  split at h
  · rename_i a b
    split at h
    · rename_i hc
      cases h
      rcases hc with hc | hc
      · exact op_mul pins s σ H x y v u Q I rx ryw ⟨a, b, r1, r2, hc, q _ Z φ H Ext.refl S rfl⟩
      · exact op_mulW pins s σ H x y v u Q I rx ryw ⟨a, b, r1, r2, hc, q _ Z φ H Ext.refl S rfl⟩
    · cases h
  · cases h
def dDiv : P2 := fun _ x y => match x, y with
  | .int a, .int b => if CDivN a b then some (.int (a.fdiv b)) else none
  | _, _ => none
theorem o_div : OpR X (binaryOp .FloorDiv) fun x y => rP X T (pr2 dDiv) [x, y] := op2 fun pins s σ H x y v u Q Z φ st dx dy d I rx ryw S r1 r2 h q => by
  unfold dDiv at h
  split at h
  · rename_i a b
    split at h
    · rename_i hc
      cases h
      exact op_fdivN pins s σ H x y v u Q I rx ryw ⟨a, b, r1, r2, hc, q _ Z φ H Ext.refl S rfl⟩
    · cases h
  · cases h
def dMod : P2 := fun _ x y => match x, y with
  | .int a, .int b => if b ≠ 0 then some (.int (a.fmod b)) else none
  | _, _ => none
theorem o_mod : OpR X (binaryOp .Mod) fun x y => rP X T (pr2 dMod) [x, y] := op2 fun pins s σ H x y v u Q Z φ st dx dy d I rx ryw S r1 r2 h q => by
  unfold dMod at h
  split at h
  · rename_i a b
    split at h
    · rename_i hc
      cases h
      exact op_modN pins s σ H x y v u Q I rx ryw ⟨a, b, r1, r2, hc, q _ Z φ H Ext.refl S rfl⟩
    · cases h
  · cases h
def dPow : P2 := fun _ x y => match x, y with
  | .int a, .int b => if CPow a b then some (.int (a ^ b.toNat)) else none
  | _, _ => none
theorem o_pow : OpR X (binaryOp .Pow) fun x y => rP X T (pr2 dPow) [x, y] := op2 fun pins s σ H x y v u Q Z φ st dx dy d I rx ryw S r1 r2 h q => by
  unfold dPow at h
  split at h
  · rename_i a b
    split at h
    · rename_i hc
      cases h
      exact op_pow pins s σ H x y v u Q I rx ryw ⟨a, b, r1, r2, hc, q _ Z φ H Ext.refl S rfl⟩
    · cases h
  · cases h

/-! ### comparisons -/
def peq (a b : D) : Bool := PyData.eqv (toP a) (toP b)
/-- one of the two is the empty tuple, the other a tuple: what lies within is not looked at -/
def noneIn : D → D → Option Bool
  | .tup ds, .tup [] => some ds.isEmpty
  | .tup [], .tup es => some es.isEmpty
  | _, _ => none
/-- two lists, one of them empty -/
def noneL (st : List O) (x y : D) : Option Bool := match listOf st x, listOf st y with
  | some ds, some es => if (ds.isEmpty || es.isEmpty) = true then some (ds.length == es.length) else none
  | _, _ => none
def dEq (neg : Bool) : P2 := fun st x y => match noneIn x y with
  | some b => some (.bl (if neg then !b else b))
  | none => if lay (deref st x) = true ∧ lay (deref st y) = true ∧ min (dep (deref st x)) (dep (deref st y)) ≤ 64 then some (.bl (if neg then !peq (deref st x) (deref st y) else peq (deref st x) (deref st y))) else (noneL st x y).map fun b => .bl (if neg then !b else b)
theorem noneL_ok {Z : Hp} {φ : List Addr} {st : List O} {H : Hp} {pins : List (Addr × Obj)} {s : Shared} {σ : L2.St} (I : Inv X pins σ H s) (S : Sim X.K T Z φ st H) {dx dy : D} {x y : V} {v u : Value} {b : Bool} (r1 : Rep X.K Z φ dx x) (r2 : Rep X.K Z φ dy y) (rx : RelV x v) (ryw : RelV y u) (h : noneL st dx dy = some b) :
    ∃ (l l' : Addr) (a c : Array Value), v = .ref l ∧ u = .ref l' ∧ s.heap.IsList l a ∧ s.heap.IsList l' c ∧ (a.size = 0 ∨ c.size = 0) ∧ b = (a.size == c.size) := by
  unfold noneL at h
  split at h
  · rename_i ds es h1 h2
    split at h
    · rename_i he
      cases h
      obtain ⟨l, xs, rfl, p1, q1⟩ := listOf_ok S r1 h1
      obtain ⟨l', ys, rfl, p2, q2⟩ := listOf_ok S r2 h2
      cases rx
      cases ryw
      obtain ⟨_, its, n, r, e⟩ := p1.ok I.hok
      obtain ⟨_, its2, n2, r', e2⟩ := p2.ok I.hok
      have n1 : its.toArray.size = ds.length := by rw [List.size_toArray, ← r.length, q1.len]
      have n3 : its2.toArray.size = es.length := by rw [List.size_toArray, ← r'.length, q2.len]
      refine ⟨l, l', its.toArray, its2.toArray, rfl, rfl, ⟨_, e, rfl, n, rfl⟩, ⟨_, e2, rfl, n2, rfl⟩, ?_, by rw [n1, n3]⟩
      rw [Bool.or_eq_true, List.isEmpty_iff, List.isEmpty_iff] at he
      rcases he with he | he
      · left
        rw [n1, he]
        rfl
      · right
        rw [n3, he]
        rfl
    · cases h
  · cases h
theorem noneIn_ok {Z : Hp} {φ : List Addr} {st : List O} {H : Hp} {pins : List (Addr × Obj)} {s : Shared} {σ : L2.St} (I : Inv X pins σ H s) (S : Sim X.K T Z φ st H) {dx dy : D} {x y : V} {v u : Value} {b : Bool} (r1 : Rep X.K Z φ dx x) (r2 : Rep X.K Z φ dy y) (rx : RelV x v) (ryw : RelV y u) (h : noneIn dx dy = some b) :
    ∃ (l l' : Addr) (a c : Array Value), v = .ref l ∧ u = .ref l' ∧ s.heap.IsTuple l a ∧ s.heap.IsTuple l' c ∧ (a.size = 0 ∨ c.size = 0) ∧ b = (a.size == c.size) := by
  have two : ∃ ds es, dx = .tup ds ∧ dy = .tup es ∧ (ds = [] ∨ es = []) ∧ b = (ds.length == es.length) := by
    unfold noneIn at h
    split at h
    · rename_i ds
      cases h
      exact ⟨ds, [], rfl, rfl, .inr rfl, by cases ds <;> rfl⟩
    · rename_i es _
      cases h
      exact ⟨[], es, rfl, rfl, .inl rfl, by cases es <;> rfl⟩
    · cases h
  obtain ⟨ds, es, rfl, rfl, he, hb⟩ := two
  obtain ⟨l, xs, rfl, h1, h2⟩ := r1
  obtain ⟨l', ys, rfl, h1', h2'⟩ := r2
  cases rx
  cases ryw
  obtain ⟨its, rv, p, _⟩ := I.tuple (sqT_mono S.fz h1)
  obtain ⟨its', rv', p', _⟩ := I.tuple (sqT_mono S.fz h1')
  have n1 : its.toArray.size = ds.length := by rw [List.size_toArray, ← rv.length, h2.len]
  have n2 : its'.toArray.size = es.length := by rw [List.size_toArray, ← rv'.length, h2'.len]
  refine ⟨l, l', its.toArray, its'.toArray, rfl, rfl, p, p', ?_, by rw [n1, n2]; exact hb⟩
  rcases he with he | he
  · left
    rw [n1, he]
    rfl
  · right
    rw [n2, he]
    rfl
theorem empty_all {a c : Array Value} (h : a.size = 0 ∨ c.size = 0) (e : Nat → Bool) : ((List.range (min a.size c.size)).all e && a.size == c.size) = (a.size == c.size) := by
  have : min a.size c.size = 0 := by omega
  rw [this]
  simp
theorem o_eq (hr : X.A.units + 64 < cLine) : OpR X (compareOp .Eq) fun x y => rP X T (pr2 (dEq false)) [x, y] := op2 fun pins s σ H x y v u Q Z φ st dx dy d I rx ryw S r1 r2 h q => by
  unfold dEq at h
  split at h
  · rename_i b hb
    cases h
    obtain ⟨l, l', a, c, rfl, rfl, p, p', he, e⟩ := noneIn_ok I S r1 r2 rx ryw hb
    have R := SeqAt.RcAt.tuples (A := X.A) (e := fun _ => true) p p' (by omega) fun j h1 h2 => by omega
    rw [empty_all he, ← e] at R
    exact R X.prog X.w X.xe _ ⟨.bl b, H, I, rfl, q _ Z φ H Ext.refl S rfl⟩
  · split at h
    · rename_i hc
      cases h
      obtain ⟨as, e1⟩ := Dp.reads I _ x v (dp_deref S hc.1 r1) rx
      obtain ⟨bs, e2⟩ := Dp.reads I _ y u (dp_deref S hc.2.1 r2) ryw
      refine SeqAt.compareEq_reads e1 e2 hc.1 hc.2.1 ?_ ⟨.bl _, H, I, rfl, q _ Z φ H Ext.refl S rfl⟩
      have := hc.2.2
      unfold dep at this
      omega
    · cases hb : noneL st dx dy with
      | none =>
        rw [hb] at h
        cases h
      | some b =>
        rw [hb] at h
        cases h
        obtain ⟨l, l', a, c, rfl, rfl, p, p', he, e⟩ := noneL_ok I S r1 r2 rx ryw hb
        by_cases hs : a.size = c.size
        · have R := SeqAt.RcAt.lists (A := X.A) (e := fun _ => true) p p' hs (by omega) fun j h1 h2 => by omega
          have z : (List.range a.size).all (fun _ => true) = b := by
            rw [e, hs]
            simp
          rw [z] at R
          exact R X.prog X.w X.xe _ ⟨.bl b, H, I, rfl, q _ Z φ H Ext.refl S rfl⟩
        · have R := SeqAt.RcAt.lists_lengths (A := X.A) p p' (by simpa using hs) (by omega)
          have z : b = false := by
            rw [e]
            simpa using hs
          rw [z] at q
          exact R X.prog X.w X.xe _ ⟨.bl false, H, I, rfl, q _ Z φ H Ext.refl S rfl⟩
theorem o_ne (hr : X.A.units + 64 < cLine) : OpR X (compareOp .NotEq) fun x y => rP X T (pr2 (dEq true)) [x, y] := op2 fun pins s σ H x y v u Q Z φ st dx dy d I rx ryw S r1 r2 h q => by
  unfold dEq at h
  split at h
  · rename_i b hb
    cases h
    obtain ⟨l, l', a, c, rfl, rfl, p, p', he, e⟩ := noneIn_ok I S r1 r2 rx ryw hb
    have R := SeqAt.RcNeAt.tuples (A := X.A) (e := fun _ => true) p p' (by omega) fun j h1 h2 => by omega
    rw [empty_all he, ← e] at R
    exact R X.prog X.w X.xe _ ⟨.bl (!b), H, I, rfl, q _ Z φ H Ext.refl S rfl⟩
  · split at h
    · rename_i hc
      cases h
      obtain ⟨as, e1⟩ := Dp.reads I _ x v (dp_deref S hc.1 r1) rx
      obtain ⟨bs, e2⟩ := Dp.reads I _ y u (dp_deref S hc.2.1 r2) ryw
      refine SeqAt.compareNe_reads e1 e2 hc.1 hc.2.1 ?_ ⟨.bl _, H, I, rfl, q _ Z φ H Ext.refl S rfl⟩
      have := hc.2.2
      unfold dep at this
      omega
    · cases hb : noneL st dx dy with
      | none =>
        rw [hb] at h
        cases h
      | some b =>
        rw [hb] at h
        cases h
        obtain ⟨l, l', a, c, rfl, rfl, p, p', he, e⟩ := noneL_ok I S r1 r2 rx ryw hb
        by_cases hs : a.size = c.size
        · have R := SeqAt.RcNeAt.lists (A := X.A) (e := fun _ => true) p p' hs (by omega) fun j h1 h2 => by omega
          have z : (List.range a.size).all (fun _ => true) = b := by
            rw [e, hs]
            simp
          rw [z] at R
          exact R X.prog X.w X.xe _ ⟨.bl (!b), H, I, rfl, q _ Z φ H Ext.refl S rfl⟩
        · have R := SeqAt.RcNeAt.lists_lengths (A := X.A) p p' (by simpa using hs) (by omega)
          have z : b = false := by
            rw [e]
            simpa using hs
          rw [z] at q
          exact R X.prog X.w X.xe _ ⟨.bl true, H, I, rfl, q _ Z φ H Ext.refl S rfl⟩
def ltD (a b : D) : Option Bool := ltP (toP a) (toP b)
def dLt : P2 := fun _ x y => if lay x = true ∧ lay y = true ∧ dep x ≤ 64 then (ltD x y).map .bl else none
theorem o_lt (hr : X.A.units + 64 < cLine) : OpR X (compareOp .Lt) fun x y => rP X T (pr2 dLt) [x, y] := op2 fun pins s σ H x y v u Q Z φ st dx dy d I rx ryw S r1 r2 h q => by
  unfold dLt at h
  split at h
  · rename_i hc
    cases hl : ltD dx dy with
    | none =>
      rw [hl] at h
      cases h
    | some k =>
      rw [hl] at h
      cases h
      obtain ⟨as, e1⟩ := Dp.reads I _ x v (dp_of S.fz dx x hc.1 r1) rx
      obtain ⟨bs, e2⟩ := Dp.reads I _ y u (dp_of S.fz dy y hc.2.1 r2) ryw
      exact rcLt_of 64 _ _ X.A s v u as bs k hc.2.2 e1 e2 hc.1 hc.2.1 hl (by omega) X.prog X.w _ _ ⟨.bl _, H, I, rfl, q _ Z φ H Ext.refl S rfl⟩
  · cases h
def dLe : P2 := fun _ x y => match x, y with
  | .int a, .int b => some (.bl (decide (a ≤ b)))
  | .str a, .str b => some (.bl (!decide (b.cps.toList < a.cps.toList)))
  | _, _ => none
theorem o_le : OpR X (compareOp .LtE) fun x y => rP X T (pr2 dLe) [x, y] := op2 fun pins s σ H x y v u Q Z φ st dx dy d I rx ryw S r1 r2 h q => by
  unfold dLe at h
  split at h
  · rename_i a b
    cases h
    exact op_le pins s σ H x y v u Q I rx ryw ⟨a, b, r1, r2, q _ Z φ H Ext.refl S rfl⟩
  · rename_i a b
    cases h
    exact op_le_str pins s σ H x y v u Q I rx ryw ⟨a, b, r1, r2, q _ Z φ H Ext.refl S rfl⟩
  · cases h
def dGt : P2 := fun _ x y => match x, y with
  | .int a, .int b => some (.bl (decide (b < a)))
  | .str a, .str b => some (.bl (decide (b.cps.toList < a.cps.toList)))
  | _, _ => none
theorem o_gt : OpR X (compareOp .Gt) fun x y => rP X T (pr2 dGt) [x, y] := op2 fun pins s σ H x y v u Q Z φ st dx dy d I rx ryw S r1 r2 h q => by
  unfold dGt at h
  split at h
  · rename_i a b
    cases h
    exact op_gt pins s σ H x y v u Q I rx ryw ⟨a, b, r1, r2, q _ Z φ H Ext.refl S rfl⟩
  · rename_i a b
    cases h
    exact op_gt_str pins s σ H x y v u Q I rx ryw ⟨a, b, r1, r2, q _ Z φ H Ext.refl S rfl⟩
  · cases h
def dGe : P2 := fun _ x y => match x, y with
  | .int a, .int b => some (.bl (decide (b ≤ a)))
  | .str a, .str b => some (.bl (!decide (a.cps.toList < b.cps.toList)))
  | _, _ => none
theorem o_ge : OpR X (compareOp .GtE) fun x y => rP X T (pr2 dGe) [x, y] := op2 fun pins s σ H x y v u Q Z φ st dx dy d I rx ryw S r1 r2 h q => by
  unfold dGe at h
  split at h
  · rename_i a b
    cases h
    exact op_ge pins s σ H x y v u Q I rx ryw ⟨a, b, r1, r2, q _ Z φ H Ext.refl S rfl⟩
  · rename_i a b
    cases h
    exact op_ge_str pins s σ H x y v u Q I rx ryw ⟨a, b, r1, r2, q _ Z φ H Ext.refl S rfl⟩
  · cases h
/-- is None, is not None; is True, is not True .. -/
def dIs (neg : Bool) : P2 := fun _ x y => match x, y with
  | .bl a, .bl b => some (.bl (if neg then !decide (a = b) else decide (a = b)))
  | .loc _, .non => some (.bl neg)
  | .non, .non => some (.bl !neg)
  | .tup _, .non => some (.bl neg)
  | .lst _, .non => some (.bl neg)
  | .int _, .non => some (.bl neg)
  | .str _, .non => some (.bl neg)
  | .bl _, .non => some (.bl neg)
  | _, _ => none
theorem non_of {K : PySem.W.Frag} {Z : Hp} {φ : List Addr} {d : D} {v : V} (r : Rep K Z φ d v) : v = .non ↔ d = .non := by
  constructor
  · intro h
    subst h
    cases d with
    | non => rfl
    | bl _ => cases (show V.non = _ from r)
    | int _ => cases (show V.non = _ from r)
    | str _ => cases (show V.non = _ from r)
    | tup _ =>
      obtain ⟨a, xs, e, _⟩ := r
      cases e
    | lst _ =>
      obtain ⟨a, xs, e, _⟩ := r
      cases e
    | scr _ =>
      obtain ⟨a, xs, e, _⟩ := r
      cases e
    | loc _ =>
      obtain ⟨a, e, q⟩ := r
      cases q
  · intro h
    subst h
    exact r
theorem o_is : OpR X (compareOp .Is) fun x y => rP X T (pr2 (dIs false)) [x, y] := op2 fun pins s σ H x y v u Q Z φ st dx dy d I rx ryw S r1 r2 h q => by
  have hn : dy = .non → d = .bl (decide (dx = .non)) → wpAny (model X.prog X.w) X.A (compareOp .Is v u) (EP X pins σ Q) X.xe s := fun e1 e2 => by
    subst e1 e2
    have ey : y = .non := r2
    refine op_isN pins s σ H x y v u Q I rx ryw ⟨ey, q _ Z φ H Ext.refl S ?_⟩
    have : decide (x = V.non) = decide (dx = D.non) := decide_eq_decide.mpr (non_of r1)
    rw [this]
    rfl
  unfold dIs at h
  split at h <;> first
    | (rename_i a b
       cases h
       exact op_isBl pins s σ H x y v u Q I rx ryw ⟨a, b, r1, r2, q _ Z φ H Ext.refl S rfl⟩)
    | (cases h; exact hn rfl (by simp))
    | cases h
theorem o_isnot : OpR X (compareOp .IsNot) fun x y => rP X T (pr2 (dIs true)) [x, y] := op2 fun pins s σ H x y v u Q Z φ st dx dy d I rx ryw S r1 r2 h q => by
  have hn : dy = .non → d = .bl (!decide (dx = .non)) → wpAny (model X.prog X.w) X.A (compareOp .IsNot v u) (EP X pins σ Q) X.xe s := fun e1 e2 => by
    subst e1 e2
    have ey : y = .non := r2
    refine op_notN pins s σ H x y v u Q I rx ryw ⟨ey, q _ Z φ H Ext.refl S ?_⟩
    have : decide (x = V.non) = decide (dx = D.non) := decide_eq_decide.mpr (non_of r1)
    rw [this]
    rfl
  unfold dIs at h
  split at h <;> first
    | (rename_i a b
       cases h
       exact op_notBl pins s σ H x y v u Q I rx ryw ⟨a, b, r1, r2, q _ Z φ H Ext.refl S rfl⟩)
    | (cases h; exact hn rfl (by simp))
    | cases h

/-! ### dicts -/
def dKey : D → Option Key
  | .int i => some (.inl i)
  | .str x => some (.inr x)
  | _ => none
theorem dKey_ok {K : PySem.W.Frag} {Z : Hp} {φ : List Addr} {d : D} {v : V} {k : Key} (r : Rep K Z φ d v) (h : dKey d = some k) : v = kV k := by
  cases d with
  | int i =>
    cases h
    exact r
  | str i =>
    cases h
    exact r
  | _ => cases h
def lookD (kvs : List (Key × D)) (k : Key) : Option D := (kvs.find? fun kv => decide (kv.1 = k)).map (·.2)
def putD (kvs : List (Key × D)) (k : Key) (d : D) : List (Key × D) := if (kvs.any fun kv => decide (kv.1 = k)) = true then kvs.map (fun kv => if kv.1 = k then (kv.1, d) else kv) else kvs ++ [(k, d)]
section
variable {K : PySem.W.Frag} {Z : Hp} {φ : List Addr}
def RepKV (K : PySem.W.Frag) (Z : Hp) (φ : List Addr) (kvs : List (Key × D)) (ws : List (Key × V)) : Prop := kvs.map (·.1) = ws.map (·.1) ∧ Reps K Z φ (kvs.map (·.2)) (ws.map (·.2))
theorem RepKV.nil : RepKV K Z φ [] [] := ⟨rfl, rfl⟩
theorem RepKV.cases {p : Key × D} {kvs : List (Key × D)} {ws : List (Key × V)} (h : RepKV K Z φ (p :: kvs) ws) : ∃ v r, ws = (p.1, v) :: r ∧ Rep K Z φ p.2 v ∧ RepKV K Z φ kvs r := by
  obtain ⟨h1, h2⟩ := h
  cases ws with
  | nil => cases h1
  | cons q ws =>
    obtain ⟨k, v⟩ := q
    simp only [List.map_cons, List.cons.injEq] at h1
    obtain ⟨v', r', e, g1, g2⟩ := h2
    simp only [List.map_cons, List.cons.injEq] at e
    obtain ⟨e1, e2⟩ := e
    refine ⟨v, ws, by rw [h1.1], by rw [e1]; exact g1, h1.2, by rw [e2]; exact g2⟩
theorem RepKV.cons {k : Key} {d : D} {v : V} {kvs : List (Key × D)} {ws : List (Key × V)} (r : Rep K Z φ d v) (h : RepKV K Z φ kvs ws) : RepKV K Z φ ((k, d) :: kvs) ((k, v) :: ws) := ⟨by simp [h.1], Reps.cons r h.2⟩
theorem RepKV.len {kvs : List (Key × D)} {ws : List (Key × V)} (h : RepKV K Z φ kvs ws) : kvs.length = ws.length := by
  have := congrArg List.length h.1
  simpa using this
theorem RepKV.look : ∀ {kvs : List (Key × D)} {ws : List (Key × V)} (k : Key), RepKV K Z φ kvs ws → (lookD kvs k = none ∧ valV ws k = none) ∨ ∃ d v, lookD kvs k = some d ∧ valV ws k = some v ∧ Rep K Z φ d v
  | [], ws, k, h => by
    have : ws = [] := by
      have := h.len
      simp at this
      exact List.eq_nil_of_length_eq_zero this.symm
    subst this
    exact .inl ⟨rfl, rfl⟩
  | p :: kvs, ws, k, h => by
    obtain ⟨v, r, rfl, h2, h3⟩ := h.cases
    by_cases hk : p.1 = k
    · exact .inr ⟨p.2, v, by simp [lookD, hk], by simp [valV, hk], h2⟩
    · rcases RepKV.look k h3 with ⟨a, b⟩ | ⟨d, w, a, b, c⟩
      · exact .inl ⟨by simpa [lookD, List.find?_cons, hk] using a, by simpa [valV, List.find?_cons, hk] using b⟩
      · exact .inr ⟨d, w, by simpa [lookD, List.find?_cons, hk] using a, by simpa [valV, List.find?_cons, hk] using b, c⟩
theorem RepKV.map {k : Key} {d : D} {v : V} (rd : Rep K Z φ d v) : ∀ {kvs : List (Key × D)} {ws : List (Key × V)}, RepKV K Z φ kvs ws → RepKV K Z φ (kvs.map fun kv => if kv.1 = k then (kv.1, d) else kv) (ws.map fun kv => if kv.1 = k then (kv.1, v) else kv)
  | [], ws, h => by
    have : ws = [] := by
      have := h.len
      simp at this
      exact List.eq_nil_of_length_eq_zero this.symm
    subst this
    exact RepKV.nil
  | p :: kvs, ws, h => by
    obtain ⟨u, r, rfl, h2, h3⟩ := h.cases
    obtain ⟨a, b⟩ := p
    have ih := RepKV.map (k := k) rd h3
    simp only [List.map_cons]
    by_cases hk : a = k
    · rw [if_pos hk, if_pos hk]
      exact RepKV.cons rd ih
    · rw [if_neg hk, if_neg hk]
      exact RepKV.cons h2 ih
theorem RepKV.app {k : Key} {d : D} {v : V} (rd : Rep K Z φ d v) : ∀ {kvs : List (Key × D)} {ws : List (Key × V)}, RepKV K Z φ kvs ws → RepKV K Z φ (kvs ++ [(k, d)]) (ws ++ [(k, v)])
  | [], ws, h => by
    have : ws = [] := by
      have := h.len
      simp at this
      exact List.eq_nil_of_length_eq_zero this.symm
    subst this
    exact RepKV.cons rd RepKV.nil
  | p :: kvs, ws, h => by
    obtain ⟨u, r, rfl, h2, h3⟩ := h.cases
    exact RepKV.cons h2 (RepKV.app rd h3)
theorem RepKV.put {kvs : List (Key × D)} {ws : List (Key × V)} {k : Key} {d : D} {v : V} (rd : Rep K Z φ d v) (h : RepKV K Z φ kvs ws) : RepKV K Z φ (putD kvs k d) (putK ws k v) := by
  have e : (kvs.any fun kv => decide (kv.1 = k)) = (ws.any fun kv => decide (kv.1 = k)) := by
    have e1 : (kvs.any fun kv => decide (kv.1 = k)) = ((kvs.map (·.1)).any fun x => decide (x = k)) := by rw [List.any_map]; rfl
    have e2 : (ws.any fun kv => decide (kv.1 = k)) = ((ws.map (·.1)).any fun x => decide (x = k)) := by rw [List.any_map]; rfl
    rw [e1, e2, h.1]
  unfold putD putK
  rw [e]
  split
  · exact h.map rd
  · exact h.app rd
theorem RepKV.mono {Z' : Hp} {φ' : List Addr} {kvs : List (Key × D)} {ws : List (Key × V)} (e : Ext0 Z φ Z' φ') (h : RepKV K Z φ kvs ws) : RepKV K Z' φ' kvs ws := ⟨h.1, h.2.mono e⟩
end

/-! ### in -/
def anyEq (d : D) (ds : List D) : Bool := ds.any fun y => peq y d
def dIn (neg : Bool) : P2 := fun st x c => match c with
  | .tup ds => if lay x = true ∧ lay (.tup ds) = true ∧ min (dep (.tup ds)) (dep x) ≤ 62 then some (.bl (if neg then !anyEq x ds else anyEq x ds)) else none
  | .str s => match x with
    | .str t => some (.bl (if neg then !(!(Builtin.Str.occurrences s t 0 s.length 1).isEmpty) else !(Builtin.Str.occurrences s t 0 s.length 1).isEmpty))
    | _ => none
  | c => match listOf st c with
    | some ds => if lay x = true ∧ lay (.lst ds) = true ∧ min (dep (.lst ds)) (dep x) ≤ 62 then some (.bl (if neg then !anyEq x ds else anyEq x ds)) else none
    | none => match c with
      | .loc n => match st[n]?, dKey x with
        | some (.dic kvs), some k => some (.bl (if neg then !(lookD kvs k).isSome else (lookD kvs k).isSome))
        | _, _ => none
      | _ => none
theorem any_toPs (d : D) : ∀ ds : List D, ((toPs ds).any fun y => PyData.eqv y (toP d)) = anyEq d ds
  | [] => rfl
  | x :: xs => by
    show (PyData.eqv (toP x) (toP d) || (toPs xs).any _) = (peq x d || anyEq d xs)
    rw [any_toPs d xs]
    rfl
theorem o_in_core (neg : Bool) (hr : X.A.units + 64 < cLine) {op : CmpOp} (hop : op = if neg then .NotIn else .In) : OpR X (compareOp op) fun x y => rP X T (pr2 (dIn neg)) [x, y] := op2 fun pins s σ H x y v u Q Z φ st dx dy d I rx ryw S r1 r2 h q => by
  have hin : ∀ ds : List D, (dy = .tup ds ∨ listOf st dy = some ds) → lay dx = true → PyData.canLayAll0 (toPs ds) = true → min (PyData.depthAll (toPs ds) + 1) (dep dx) ≤ 62 → d = .bl (if neg then !anyEq dx ds else anyEq dx ds) →
      wpAny (model X.prog X.w) X.A (compareOp op v u) (EP X pins σ Q) X.xe s := fun ds hy hx hd hm e => by
    subst e
    obtain ⟨as, e1⟩ := Dp.reads I _ x v (dp_of S.fz dx x hx r1) rx
    have room : X.A.units + 1 + min (PyData.depthAll (toPs ds)) (toP dx).depth < cLine := by
      unfold dep at hm
      omega
    rcases hy with hy | hy
    · subst hy
      obtain ⟨bs, e2⟩ := Dp.reads I (.tuple (toPs ds)) y u (dp_of S.fz (.tup ds) y (show lay (.tup ds) = true from hd) r2) ryw
      cases neg with
      | false =>
        subst hop
        exact SeqAt.in_tuple_reads e2 e1 hd hx room ⟨.bl _, H, I, rfl, by rw [any_toPs]; exact q _ Z φ H Ext.refl S rfl⟩
      | true =>
        subst hop
        exact SeqAt.notIn_tuple_reads e2 e1 hd hx room ⟨.bl _, H, I, rfl, by rw [any_toPs]; exact q _ Z φ H Ext.refl S rfl⟩
    · obtain ⟨a, xs, rfl, g1, g2⟩ := listOf_ok S r2 hy
      obtain ⟨bs, e2⟩ := Dp.reads I (.list (toPs ds)) (.ref a) u (Dp.lst (.inl g1) (dps_of S.fz ds xs hd g2)) ryw
      cases neg with
      | false =>
        subst hop
        exact SeqAt.in_list_reads e2 e1 hd hx room ⟨.bl _, H, I, rfl, by rw [any_toPs]; exact q _ Z φ H Ext.refl S rfl⟩
      | true =>
        subst hop
        exact SeqAt.notIn_list_reads e2 e1 hd hx room ⟨.bl _, H, I, rfl, by rw [any_toPs]; exact q _ Z φ H Ext.refl S rfl⟩
  unfold dIn at h
  split at h
  · rename_i ds
    split at h
    · rename_i hc
      cases h
      exact hin ds (.inl rfl) hc.1 hc.2.1 hc.2.2 rfl
    · cases h
  · rename_i t
    split at h
    · rename_i t2
      cases h
      cases neg with
      | false =>
        subst hop
        exact op_in_str pins s σ H x y v u Q I rx ryw ⟨t2, t, r1, r2, q _ Z φ H Ext.refl S rfl⟩
      | true =>
        subst hop
        exact op_notIn_str pins s σ H x y v u Q I rx ryw ⟨t2, t, r1, r2, q _ Z φ H Ext.refl S rfl⟩
    · cases h
  · split at h
    · rename_i ds hl
      split at h
      · rename_i hc
        cases h
        exact hin ds (.inr hl) hc.1 hc.2.1 hc.2.2 rfl
      · cases h
    · cases dy with
      | loc n =>
        have h : (match st[n]?, dKey dx with
          | some (O.dic kvs), some k => some (D.bl (if neg then !(lookD kvs k).isSome else (lookD kvs k).isSome))
          | _, _ => none) = some d := h
        split at h
        · rename_i kvs k hk1 hk2
          cases h
          obtain ⟨a, g1, rfl⟩ := r2
          obtain ⟨ws, q1, q2, q3⟩ := S.ob n _ a hk1 g1
          have hy := dKey_ok r1 hk2
          have KVR : RepKV X.K Z φ kvs ws := ⟨q2, q3⟩
          have hs : (valV ws k).isSome = (lookD kvs k).isSome := by
            rcases KVR.look k with ⟨a, b⟩ | ⟨d, w, a, b, c⟩
            · rw [a, b]
              rfl
            · rw [a, b]
              rfl
          have g : DGet H a x (valV ws k) := by
            rw [hy]
            exact DGet.k q1
          obtain rfl : u = Value.ref a := ryw
          cases neg with
          | false =>
            subst hop
            exact d_in (by omega) I g rx fun s3 I3 => ⟨.bl _, H, I3, rfl, q _ Z φ H Ext.refl S (by rw [hs]; rfl)⟩
          | true =>
            subst hop
            exact d_notIn (by omega) I g rx fun s3 I3 => ⟨.bl _, H, I3, rfl, q _ Z φ H Ext.refl S (by rw [hs]; rfl)⟩
        · cases h
      | _ => cases h
theorem o_in (hr : X.A.units + 64 < cLine) : OpR X (compareOp .In) fun x y => rP X T (pr2 (dIn false)) [x, y] := o_in_core false hr rfl
theorem o_notin (hr : X.A.units + 64 < cLine) : OpR X (compareOp .NotIn) fun x y => rP X T (pr2 (dIn true)) [x, y] := o_in_core true hr rfl

/-! ### subscripts -/
def dIx : P2 := fun st c i => match c, i with
  | .tup ds, .int k => atI ds k
  | .str s, .int k => if s.length ≤ sizeLine then (atI s.cps.toList k).map fun c => .str ⟨#[c]⟩ else none
  | .lst ds, .int k => atI ds k
  | .loc n, i => match st[n]? with
    | some (.lst ds) => match i with
      | .int k => atI ds k
      | _ => none
    | some (.dic kvs) => match dKey i with
      | some k => lookD kvs k
      | none => none
    | none => none
  | _, _ => none
theorem atI_ok {K : PySem.W.Frag} {Z : Hp} {φ : List Addr} {ds : List D} {xs : List V} {k : Int} {d : D} (r : Reps K Z φ ds xs) (h : atI ds k = some d) : ∃ v, atI xs k = some v ∧ Rep K Z φ d v := by
  unfold atI at h ⊢
  rw [← r.len]
  cases hj : ixN ds.length k with
  | none =>
    rw [hj] at h
    cases h
  | some j =>
    rw [hj] at h
    exact r.get h
theorem pe_or {e : Expr} {t u : TE} (h : PE X e t) (h' : PE X e u) : PE X e fun σ H Q => t σ H Q ∨ u σ H Q := ⟨fun pins s σ H Q I q => q.elim (fun z => h.run pins s σ H Q I z) fun z => h'.run pins s σ H Q I z⟩
/-- c[i], c a list, a tuple, a text, a dict -/
theorem x_sub {a b : Expr} {pos : Pos} {f g : Env → List O → RR D} (hu : X.A.units + 1 < cLine) (ha : PE X a (tE X T W f)) (hb : PE X b (tE X T W g)) (hs : PlainIx b) : PE X (.Subscript a b pos) (tE X T W (eBin (pr2 dIx) f g)) := by
  refine pe_imp (pe_or (pe_ix ix_seq ha hb hs) (pe_dget hu ha hb hs)) fun σ H Q q => ?_
  obtain ⟨Z, φ, st, ρ, S, E, w⟩ := q
  -- by what stands in the container
  cases hf : f ρ st with
  | err =>
    unfold eBin at w
    rw [hf] at w
    exact w.elim
  | exc c s1 =>
    unfold eBin at w
    rw [hf] at w
    exact .inl ⟨Z, φ, st, ρ, S, E, by rw [hf]; exact w⟩
  | ok dx s1 =>
    cases hg : g ρ s1 with
    | err =>
      unfold eBin at w
      rw [hf] at w
      replace w : WpG X T W σ (repE X) Z φ H ((g ρ s1).bind fun y s2 => liftP (pr2 dIx s2 [dx, y])) Q := w
      rw [hg] at w
      exact w.elim
    | exc c s2 =>
      unfold eBin at w
      rw [hf] at w
      replace w : WpG X T W σ (repE X) Z φ H ((g ρ s1).bind fun y s2 => liftP (pr2 dIx s2 [dx, y])) Q := w
      rw [hg] at w
      refine .inl ⟨Z, φ, st, ρ, S, E, ?_⟩
      rw [hf]
      intro v Z1 φ1 H1 e1 S1 R1
      refine ⟨Z1, φ1, s1, ρ, S1, E.mono e1.e0, ?_⟩
      rw [hg]
      exact fun C Z2 φ2 H2 m e2 S2 => w C Z2 φ2 H2 m (e1.trans e2) S2
    | ok dy s2 =>
      unfold eBin at w
      rw [hf] at w
      replace w : WpG X T W σ (repE X) Z φ H ((g ρ s1).bind fun y s2 => liftP (pr2 dIx s2 [dx, y])) Q := w
      rw [hg] at w
      replace w : WpG X T W σ (repE X) Z φ H (liftP ((dIx s2 dx dy).map fun d => (d, s2))) Q := w
      cases hd : dIx s2 dx dy with
      | none =>
        rw [hd] at w
        exact w.elim
      | some d =>
        rw [hd] at w
        replace w : ∀ v Z' φ' H', Ext Z φ H Z' φ' H' → Sim X.K T Z' φ' s2 H' → Rep X.K Z' φ' d v → Q v H' := w
        have seq : (∀ x y Z2 φ2 H2, Ext Z φ H Z2 φ2 H2 → Sim X.K T Z2 φ2 s2 H2 → Rep X.K Z2 φ2 dx x → Rep X.K Z2 φ2 dy y → rIx X.K x y H2 Q) → (tOp (rIx X.K) (tE X T W f) (tE X T W g) σ H Q ∨ tDGet (tE X T W f) (tE X T W g) σ H Q) := fun k => by
          refine .inl ⟨Z, φ, st, ρ, S, E, ?_⟩
          rw [hf]
          intro v Z1 φ1 H1 e1 S1 R1
          refine ⟨Z1, φ1, s1, ρ, S1, E.mono e1.e0, ?_⟩
          rw [hg]
          exact fun u Z2 φ2 H2 e2 S2 R2 => k v u Z2 φ2 H2 (e1.trans e2) S2 (Rep.mono e2.e0 _ _ R1) R2
        cases dx with
        | tup ds =>
          cases dy with
          | int k =>
            have hd : atI ds k = some d := hd
            refine seq fun x y Z2 φ2 H2 e2 S2 R1 R2 => ?_
            obtain ⟨p, xs, rfl, h1, h2⟩ := R1
            obtain ⟨v, hv, rv⟩ := atI_ok h2 hd
            exact .inr (.inl ⟨p, xs, k, v, rfl, R2, sqT_mono S2.fz h1, hv, w v Z2 φ2 H2 e2 S2 rv⟩)
          | _ => cases hd
        | lst ds =>
          cases dy with
          | int k =>
            have hd : atI ds k = some d := hd
            refine seq fun x y Z2 φ2 H2 e2 S2 R1 R2 => ?_
            obtain ⟨p, xs, rfl, h1, h2⟩ := R1
            obtain ⟨v, hv, rv⟩ := atI_ok h2 hd
            exact .inl ⟨p, xs, k, v, rfl, R2, .inl (rd_mono S2.fz h1), hv, w v Z2 φ2 H2 e2 S2 rv⟩
          | _ => cases hd
        | str z =>
          cases dy with
          | int k =>
            have hd : (if z.length ≤ sizeLine then (atI z.cps.toList k).map fun c => D.str ⟨#[c]⟩ else none) = some d := hd
            split at hd
            · rename_i hz
              cases hc : atI z.cps.toList k with
              | none =>
                rw [hc] at hd
                cases hd
              | some c =>
                rw [hc] at hd
                cases hd
                exact seq fun x y Z2 φ2 H2 e2 S2 R1 R2 => .inr (.inr ⟨z, k, c, R1, R2, hz, hc, w _ Z2 φ2 H2 e2 S2 rfl⟩)
            · cases hd
          | _ => cases hd
        | loc n =>
          cases hn : s2[n]? with
          | none =>
            unfold dIx at hd
            simp only [hn] at hd
            cases hd
          | some o =>
            cases o with
            | lst ds =>
              unfold dIx at hd
              simp only [hn] at hd
              cases dy with
              | int k =>
                have hd : atI ds k = some d := hd
                refine seq fun x y Z2 φ2 H2 e2 S2 R1 R2 => ?_
                obtain ⟨p, h1, rfl⟩ := R1
                obtain ⟨xs, q1, q2⟩ := S2.ob n _ p hn h1
                obtain ⟨v, hv, rv⟩ := atI_ok q2 hd
                exact .inl ⟨p, xs, k, v, rfl, R2, SqL.of q1, hv, w v Z2 φ2 H2 e2 S2 rv⟩
              | _ => cases hd
            | dic kvs =>
              unfold dIx at hd
              simp only [hn] at hd
              cases hk : dKey dy with
              | none =>
                rw [hk] at hd
                cases hd
              | some k =>
                rw [hk] at hd
                have hd : lookD kvs k = some d := hd
                refine .inr ⟨Z, φ, st, ρ, S, E, ?_⟩
                rw [hf]
                intro v Z1 φ1 H1 e1 S1 R1
                refine ⟨Z1, φ1, s1, ρ, S1, E.mono e1.e0, ?_⟩
                rw [hg]
                intro u Z2 φ2 H2 e2 S2 R2
                obtain ⟨p, h1, rfl⟩ := Rep.mono e2.e0 _ _ R1
                obtain ⟨ws, q1, q2, q3⟩ := S2.ob n _ p hn h1
                have KVR : RepKV X.K Z2 φ2 kvs ws := ⟨q2, q3⟩
                rcases KVR.look k with ⟨a, b⟩ | ⟨d', v, a, b, c⟩
                · rw [hd] at a
                  cases a
                · rw [hd] at a
                  cases a
                  refine ⟨p, v, rfl, ?_, w v Z2 φ2 H2 (e1.trans e2) S2 c⟩
                  rw [dKey_ok R2 hk, ← b]
                  exact DGet.k q1
        | _ => cases hd
end
end Tl
/-! TEnum: enumerate over a tuple, and over whatever a value is; zip. -/
namespace Tl
open PySem
open PySem.AutoSeq1 (wpAny_loadPart')

theorem meets_enum1 {v : Value} {o : Obj} {H : Heap → Prop} (B : Begins v o H) :
    Meets (Builtin.«enumerate.__new__» ⟨[.type "enumerate", v], []⟩) (fun _ R s => H s.heap ∧
      R (.ok (.ret (.ref (s.heap.push o).objs.size))) { s with heap := (s.heap.push o).push { cls := .type "enumerate", data := .fields #[.none, .bool false, .ref s.heap.objs.size, rawInt 0, .none, .none] } }) :=
  .of_wp fun prog w A R s hyp => by
    obtain ⟨hpw, g, d, tk, os⟩ := s
    obtain ⟨h1, h⟩ := hyp
    have sub := sub_enumerate
    have itw : ∀ {A' : Around} {E : Value → Shared → Prop} {Q : Value → Shared → Prop}, Q (.ref hpw.objs.size) ⟨hpw.push o, g, d, tk, os⟩ → wpAny (model prog w) A' (pyIter v) Q E ⟨hpw, g, d, tk, os⟩ :=
      fun q => B.iter prog w _ _ ⟨hpw, g, d, tk, os⟩ _ h1 q
    wp_walk using itw
    refine wpAny_stack_any fun st => wpAny_pure ?_
    split
    · rename_i c _ _ _ _ _
      cases (c == Value.type "enumerate") <;> (wp_walk using itw; exact ⟨_, rfl, h⟩)
    · wp_walk using itw
      exact ⟨_, rfl, h⟩
theorem enum1 {prog : Program} {w : World} {A : Around} {E : Value → Shared → Prop} {s : Shared} {v : Value} {o : Obj} {H : Heap → Prop} {Q : Value → Shared → Prop} (B : Begins v o H) (h1 : H s.heap)
    (h : ∀ h', IsEnum h' (s.heap.objs.size + 1) s.heap.objs.size 0 .none → h'.get? s.heap.objs.size = some o → (∀ b o, s.heap.get? b = some o → h'.get? b = some o) → Q (.ref (s.heap.objs.size + 1)) { s with heap := h' }) :
    wpAny (model prog w) A (call (.type "enumerate") [v]) Q E s := by
  refine callType_new F.called_enumerate (by decide) (F.typeCall_enumerate_1 _) (F.newCall_enumerate_1 _) (fun obj => F.args_object_init_2 obj _) F.entry_enumerate_new (meets_enum1 B) ⟨h1, ?_⟩
  have hzw : (s.heap.push o).objs.size = s.heap.objs.size + 1 := Heap.size_push ..
  show _ ∧ _
  rw [hzw]
  have hew : IsEnum ((s.heap.push o).push { cls := .type "enumerate", data := .fields #[.none, .bool false, .ref s.heap.objs.size, rawInt 0, .none, .none] }) (s.heap.objs.size + 1) s.heap.objs.size 0 .none := by
    have q := Heap.get?_push_size (s.heap.push o) (o := { cls := .type "enumerate", data := .fields #[.none, .bool false, .ref s.heap.objs.size, rawInt 0, .none, .none] }) rfl
    rw [hzw] at q
    exact q
  exact ⟨⟨_, hew, rfl⟩, h _ hew (Heap.get?_push_of_some _ (Heap.get?_push_size _ B.free)) fun b o x => Heap.get?_push_of_some _ (Heap.get?_push_of_some _ x)⟩
end Tl
namespace Tl
open PySem L2
/-- the tuple at a, its items in new pairs with their places -/
def IteT (K : PySem.W.Frag) (a : Addr) : It :=
  ⟨fun i H => ∃ (xs : List V) (x : V), SqT K H a xs ∧ xs[i]? = some x, fun i H v H' => ∃ T x, v = .ref T ∧ H T = none ∧ H' = upd H T (.tup [.int (i : Nat), x]) ∧ ∀ xs, SqT K H a xs → xs[i]? = some x, fun i H => ∃ xs : List V, SqT K H a xs ∧ xs.length = i⟩
theorem tup_ne_iter {h : Heap} {a itw : Addr} {its : Array Value} {i : Nat} (p : h.IsTuple a its) (hit : h.IsTupleIter itw a i) : a ≠ itw := fun z => by
  obtain ⟨o1, q1w, c1, _⟩ := p
  obtain ⟨o2, q2, c2, _⟩ := hit
  rw [z, q2] at q1w
  have e := Option.some.inj q1w
  rw [← e, c2] at c1
  exact absurd c1 (by decide)
theorem enum_ne_tup {h : Heap} {e itw a : Addr} {k : Int} {old : Value} {its : Array Value} (hew : IsEnum h e itw k old) (p : h.IsTuple a its) : e ≠ a := fun z => by
  obtain ⟨o1, q1w, c1, _⟩ := p
  have he' : h.get? e = some { cls := .type "enumerate", data := _ } := hew
  rw [← z, he'] at q1w
  have e2 := Option.some.inj q1w
  rw [← e2] at c1
  exact absurd (show Value.type "enumerate" = Value.type "tuple" from c1) (by decide)
theorem turn_enumT {P : Program} {w : World} {K : PySem.W.Frag} {elts : List Expr} {kk : Nat} {tpos : Pos} (a e itw : Addr) :
    Turn P w K (.Tuple elts kk tpos) (IteT K a) [e, itw] e (fun i h => (∃ old, IsEnum h e itw ((i : Nat) : Int) old) ∧ h.IsTupleIter itw a i ∧ e ≠ itw) where
  mem := by simp
  obj := fun i h st b hbw => by
    obtain ⟨⟨old, hew⟩, ⟨o, ho, hcw, hdw⟩, _⟩ := st
    rcases List.mem_cons.mp hbw with z | z
    · rw [z]
      exact ⟨_, hew, fun v q => nomatch q⟩
    · have z : b = itw := by simpa using z
      rw [z]
      exact ⟨o, ho, fun v q => by rw [hdw] at q; cases q⟩
  keep := fun i h h' st k => let ⟨⟨old, hew⟩, hi, hne⟩ := st; ⟨⟨old, k e (by simp) _ hew⟩, hi.at fun o q => k itw (by simp) o q, hne⟩
  item := by
    intro X hPw hww hKw hcw i pins s σ H E Iw hfw st hg
    subst hPw hww hKw
    obtain ⟨⟨old, hew⟩, hit, hne⟩ := st
    obtain ⟨xs, x, hqw, hx⟩ := hg
    obtain ⟨its, rvw, p, hzw⟩ := Iw.tuple hqw
    obtain ⟨u, huw, ruw⟩ := rvw.get hx
    have hi : i < its.toArray.size := by simpa using (List.getElem?_eq_some_iff.mp huw).1
    have helw : e < s.heap.objs.size := Heap.lt_size hew
    have hil : itw < s.heap.objs.size := by
      obtain ⟨_, q, _⟩ := hit
      exact Heap.lt_size q
    have nap : a ≠ itw := tup_ne_iter p hit
    have nae : e ≠ a := enum_ne_tup hew p
    have D := Draws.tuple (prog := X.prog) (w := X.w) (A := X.A.in1) (show X.A.in1.handled = none from Iw.ok.hd hcw) itw a nap its.toArray
    refine wpAny_pyNext_enum_itemD D hew ⟨hit, p⟩ hi hne (by simp [hne, nae]) fun x' h' tk hx' ho hst hT hsz hk => ?_
    have exu : x' = u := by
      have q : its.toArray[i]? = some x' := hx'
      rw [List.getElem?_toArray, huw] at q
      exact (Option.some.inj q).symm
    subst exu
    refine ⟨_, rfl, wpAny_letOwnedTupleGo_enum (s := { s with heap := h', toks := tk + 1 }) ho fun hw' he' sb => ?_⟩
    have hT2 : hw'.get? s.heap.objs.size = some { cls := .type "tuple", data := .seq #[.int i tk, x'] } := (sb.2 _ (Nat.ne_of_gt helw)).trans hT
    have new : ObjOk X.prog X.w (upd H s.heap.objs.size (.tup [.int (i : Nat), x])) hw' s.heap.objs.size (.tup [.int (i : Nat), x]) :=
      ⟨by show 2 ≤ sizeLine; decide, [.int i tk, x'], .cons ⟨_, rfl⟩ (.cons ruw .nil), ⟨_, hT2, rfl, _, rfl⟩⟩
    have I1w : Inv X pins σ (upd H s.heap.objs.size (.tup [.int (i : Nat), x])) { s with heap := hw', toks := tk + 1 } :=
      Iw.turnedNew (ch := [e, itw]) (fun b ob hbw q => (sb.2 b (fun z => hbw (by simp [z]))).trans (hk b ob (fun z => hbw (by simp [z])) (fun z => hbw (by simp [z])) q)) hfw (Nat.le_refl _) new
    refine ⟨.ref s.heap.objs.size, _, I1w, rfl, ⟨_, x, rfl, Iw.hok.fresh (Nat.le_refl _), rfl, fun ys hy => by rw [Iw.tuple_inj hy hqw]; exact hx⟩, ⟨⟨x', ?_⟩, hst.1.at fun o q => (sb.2 itw (Ne.symm hne)).trans q, hne⟩, fun b hbw => ?_⟩
    · rw [show ((i + 1 : Nat) : Int) = (i : Int) + 1 by omega]
      exact he'
    · have hbw' : b < s.heap.objs.size := by
        rcases List.mem_cons.mp hbw with z | z
        · rw [z]
          exact helw
        · have z : b = itw := by simpa using z
          rw [z]
          exact hil
      rw [upd_ne (Nat.ne_of_lt hbw')]
      exact (hfw b hbw).1
  done := by
    intro X hPw hww hKw hcw i pins s σ H E Iw hfw st hg
    subst hPw hww hKw
    obtain ⟨⟨old, hew⟩, hit, hne⟩ := st
    obtain ⟨xs, hqw, hx⟩ := hg
    obtain ⟨its, rvw, p, hzw⟩ := Iw.tuple hqw
    obtain ⟨f0, f1, f2, f3w, f4, f5w⟩ := hfw itw (by simp)
    have hl := rvw.length
    have e : i = its.toArray.size := by simp only [List.size_toArray]; omega
    subst e
    have nap : a ≠ itw := tup_ne_iter p hit
    have D := Draws.tuple (prog := X.prog) (w := X.w) (A := X.A.in1) (show X.A.in1.handled = none from Iw.ok.hd hcw) itw a nap its.toArray
    exact wpAny_pyNext_enum_endD D hew ⟨hit, p⟩ fun h' eb => ⟨rfl, Iw.turned (t' := s.toks) (fun b o hbw q => eb b o hbw q) f0 f1 f3w f4 f5w⟩
  self := fun A i s Q E st h => let ⟨⟨_, hew⟩, _⟩ := st; wpAny_pyIter_enum hew h
def iEnumT (K : PySem.W.Frag) (ta : TA) : TI := fun σ H R => ta σ H fun vs H1w => ∃ a xs, vs = [.ref a] ∧ SqT K H1w a xs ∧ R (IteT K a) H1w
theorem pi_enumT {X : Cx} {e : Expr} {ta : TA} {p pos tpos : Pos} {elts : List Expr} {kk : Nat} (hg : Gl X "enumerate") (hm : X.mg "enumerate" = none) (ha : PA X [e] ta) (hs : starEach [e] X.env = [(false, eval e X.env)]) :
    PI X (.Tuple elts kk tpos) (.Call (.Name "enumerate" p) [e] [] pos) (iEnumT X.K ta) := by
  refine ⟨fun pins s σ H R Iw h => ?_⟩
  refine PyProof.Rows.Call_ (ld_blt Iw hg hm PyProof.Rows.boot_enumerate (PyProof.Rows.callWith_type1 (thn (ha.run pos pins s σ H _ Iw h) fun us s1 ⟨vs, H1w, I1w, r1, q1w⟩ => ?_) hs rfl))
  obtain ⟨a, xs, ex, hqw, q⟩ := q1w
  subst ex
  obtain ⟨u, rfl, ruw⟩ := vals1 r1
  cases ruw
  obtain ⟨its, rvw, p', hzw⟩ := I1w.tuple hqw
  refine enum1 (begins_tuple a its.toArray) p' fun h' hew hob hk => wpAny_pyIter_enum hew ?_
  have I2w : Inv X pins σ H1w { s1 with heap := h' } := I1w.kept (t' := s1.toks) hk
  refine ⟨s1.heap.objs.size + 1, [s1.heap.objs.size + 1, s1.heap.objs.size], _, _, H1w, rfl, I2w, turn_enumT a (s1.heap.objs.size + 1) s1.heap.objs.size, ⟨⟨.none, hew⟩, ⟨_, hob, rfl, rfl⟩, Nat.succ_ne_self _⟩, fun b hbw => ?_, q⟩
  have hlew : s1.heap.objs.size ≤ b := by
    rcases List.mem_cons.mp hbw with z | z
    · rw [z]
      exact Nat.le_add_right _ _
    · have z : b = s1.heap.objs.size := by simpa using z
      rw [z]
      exact Nat.le_refl _
  exact I1w.fpOk hlew (I1w.hok.fresh hlew)

/-! ### the readings by data -/
section
variable {X : Cx} {T : List (Addr × Str)} {W : WX}
def numbered (i : Nat) : List D → List D
  | [] => []
  | d :: ds => .tup [.int (i : Nat), d] :: numbered (i + 1) ds
theorem numbered_len : ∀ (ds : List D) (i : Nat), (numbered i ds).length = ds.length
  | [], _ => rfl
  | d :: ds, i => by simp [numbered, numbered_len ds]
theorem numbered_get : ∀ (ds : List D) (i j : Nat) (d : D), (numbered i ds)[j]? = some d → ∃ e, ds[j]? = some e ∧ d = .tup [.int ((i + j : Nat) : Int), e]
  | [], i, j, d, h => by simp [numbered] at h
  | x :: ds, i, 0, d, h => by
    simp [numbered] at h
    exact ⟨x, by simp, by rw [← h]; rfl⟩
  | x :: ds, i, j + 1, d, h => by
    obtain ⟨e, h1, h2⟩ := numbered_get ds (i + 1) j d (by simpa [numbered] using h)
    exact ⟨e, by simpa using h1, by rw [h2, show i + 1 + j = i + (j + 1) by omega]⟩
theorem feeds_enumL {Z φ H st} {a : Addr} {xs : List V} {ds : List D} (S : Sim X.K T Z φ st H) (h : SqL X.K Z a xs) (r : Reps X.K Z φ ds xs) : Feeds X T Z φ H (Ite X.K a) ⟨numbered 0 ds, none⟩ where
  go := fun Z1 φ1 st1 H1w i e S1 _ hi => by
    rw [numbered_len] at hi
    have hx : i < xs.length := by rw [← r.len]; exact hi
    exact ⟨xs, xs[i], sqL_mono S1.fz (sqL_mono e.z h), List.getElem?_eq_getElem hx⟩
  stop := fun Z1 φ1 st1 H1w e S1 _ => ⟨xs, sqL_mono S1.fz (sqL_mono e.z h), by rw [numbered_len, ← r.len]; exact Nat.le_refl _⟩
  yld := fun Z1 φ1 st1 H1w i d x H' e S1 _ hdw y => by
    obtain ⟨p, v, rfl, hpw, rfl, y⟩ := y
    obtain ⟨d1, g1, rfl⟩ := numbered_get ds 0 i d hdw
    obtain ⟨v1, h1, h2⟩ := r.get g1
    have h3 := y xs (sqL_mono S1.fz (sqL_mono e.z h))
    rw [h1] at h3
    cases h3
    obtain ⟨e2, S2⟩ := S1.freeze (o := .tup [.int (i : Nat), v]) hpw
    refine ⟨_, e2, S2, p, _, rfl, SqT.of upd_same, Reps.cons ?_ (Reps.cons (Rep.mono (e.trans e2).e0 _ _ h2) Reps.nil)⟩
    rw [Nat.zero_add]
    rfl
theorem feeds_enumT {Z φ H st} {a : Addr} {xs : List V} {ds : List D} (S : Sim X.K T Z φ st H) (h : SqT X.K Z a xs) (r : Reps X.K Z φ ds xs) : Feeds X T Z φ H (IteT X.K a) ⟨numbered 0 ds, none⟩ where
  go := fun Z1 φ1 st1 H1w i e S1 _ hi => by
    rw [numbered_len] at hi
    have hx : i < xs.length := by rw [← r.len]; exact hi
    exact ⟨xs, xs[i], sqT_mono S1.fz (sqT_mono e.z h), List.getElem?_eq_getElem hx⟩
  stop := fun Z1 φ1 st1 H1w e S1 _ => ⟨xs, sqT_mono S1.fz (sqT_mono e.z h), by rw [numbered_len, ← r.len]⟩
  yld := fun Z1 φ1 st1 H1w i d x H' e S1 _ hdw y => by
    obtain ⟨p, v, rfl, hpw, rfl, y⟩ := y
    obtain ⟨d1, g1, rfl⟩ := numbered_get ds 0 i d hdw
    obtain ⟨v1, h1, h2⟩ := r.get g1
    have h3 := y xs (sqT_mono S1.fz (sqT_mono e.z h))
    rw [h1] at h3
    cases h3
    obtain ⟨e2, S2⟩ := S1.freeze (o := .tup [.int (i : Nat), v]) hpw
    refine ⟨_, e2, S2, p, _, rfl, SqT.of upd_same, Reps.cons ?_ (Reps.cons (Rep.mono (e.trans e2).e0 _ _ h2) Reps.nil)⟩
    rw [Nat.zero_add]
    rfl
/-- enumerate(e), e a tuple or a list that stays -/
def enumSrc : List D → List O → RR Src
  | [.tup ds], s1 => .ok ⟨numbered 0 ds, none⟩ s1
  | [.lst ds], s1 => .ok ⟨numbered 0 ds, none⟩ s1
  | _, _ => .err
def eEnum (f : Env → List O → RR (List D)) : Env → List O → RR Src := fun ρ st => (f ρ st).bind enumSrc
theorem x_enum {e : Expr} {f : Env → List O → RR (List D)} {p pos tpos : Pos} {elts : List Expr} {kk : Nat} (hg : Gl X "enumerate") (hm : X.mg "enumerate" = none) (ha : PA X [e] (tA X T W f)) (hs : starEach [e] X.env = [(false, eval e X.env)]) :
    PI X (.Tuple elts kk tpos) (.Call (.Name "enumerate" p) [e] [] pos) (tI X T W (eEnum f)) := by
  refine pi_imp (pi_or (pi_enum hg hm ha hs) (pi_enumT hg hm ha hs)) fun σ H R q => ?_
  obtain ⟨Z, φ, st, ρ, S, E, w⟩ := q
  unfold eEnum at w
  cases hfw : f ρ st with
  | err =>
    rw [hfw] at w
    exact w.elim
  | exc c s1 =>
    rw [hfw] at w
    exact .inl ⟨Z, φ, st, ρ, S, E, by rw [hfw]; exact w⟩
  | ok xs s1 =>
    rw [hfw] at w
    replace w : WpG X T W σ (repI X T) Z φ H (enumSrc xs s1) R := w
    unfold enumSrc at w
    split at w
    · rename_i ds
      refine .inr ⟨Z, φ, st, ρ, S, E, ?_⟩
      rw [hfw]
      intro vs Z1 φ1 H1w e1 S1 R1
      obtain ⟨v, rfl, r⟩ := reps1 R1
      obtain ⟨a, ys, rfl, h1, h2⟩ := r
      exact ⟨a, ys, rfl, sqT_mono S1.fz h1, w _ Z1 φ1 H1w e1 S1 (feeds_enumT S1 h1 h2)⟩
    · rename_i ds
      refine .inl ⟨Z, φ, st, ρ, S, E, ?_⟩
      rw [hfw]
      intro vs Z1 φ1 H1w e1 S1 R1
      obtain ⟨v, rfl, r⟩ := reps1 R1
      obtain ⟨a, ys, rfl, h1, h2⟩ := r
      exact ⟨a, ys, rfl, .inl (rd_mono S1.fz h1), w _ Z1 φ1 H1w e1 S1 (feeds_enumL S1 (.inl h1) h2)⟩
    · exact w.elim
/-- zip of two tuples, or of two lists that stay -/
def pairs : List D → List D → List D
  | x :: xs, y :: ys => .tup [x, y] :: pairs xs ys
  | _, _ => []
theorem pairs_len : ∀ (xs ys : List D), (pairs xs ys).length = min xs.length ys.length
  | [], ys => by simp [pairs]
  | x :: xs, [] => by simp [pairs]
  | x :: xs, y :: ys => by
    simp only [pairs, List.length_cons, pairs_len xs ys]
    omega
theorem pairs_get : ∀ (xs ys : List D) (j : Nat) (d : D), (pairs xs ys)[j]? = some d → ∃ a b, xs[j]? = some a ∧ ys[j]? = some b ∧ d = .tup [a, b]
  | [], ys, j, d, h => by simp [pairs] at h
  | x :: xs, [], j, d, h => by simp [pairs] at h
  | x :: xs, y :: ys, 0, d, h => by
    simp [pairs] at h
    exact ⟨x, y, by simp, by simp, h.symm⟩
  | x :: xs, y :: ys, j + 1, d, h => by
    obtain ⟨a, b, h1, h2, h3⟩ := pairs_get xs ys j d (by simpa [pairs] using h)
    exact ⟨a, b, by simpa using h1, by simpa using h2, h3⟩
theorem feeds_zipT {Z φ H st} {a b : Addr} {xs ys : List V} {ds es : List D} (S : Sim X.K T Z φ st H) (h : SqT X.K Z a xs) (r : Reps X.K Z φ ds xs) (h' : SqT X.K Z b ys) (r' : Reps X.K Z φ es ys) : Feeds X T Z φ H (RZ.ItzT X.K a b) ⟨pairs ds es, none⟩ where
  go := fun Z1 φ1 st1 H1w i e S1 _ hi => by
    rw [pairs_len] at hi
    have hx : i < xs.length := by rw [← r.len]; omega
    have hy : i < ys.length := by rw [← r'.len]; omega
    exact ⟨xs, ys, xs[i], ys[i], sqT_mono S1.fz (sqT_mono e.z h), sqT_mono S1.fz (sqT_mono e.z h'), List.getElem?_eq_getElem hx, List.getElem?_eq_getElem hy⟩
  stop := fun Z1 φ1 st1 H1w e S1 _ => ⟨xs, ys, sqT_mono S1.fz (sqT_mono e.z h), sqT_mono S1.fz (sqT_mono e.z h'), by
    rw [pairs_len, r.len, r'.len]
    omega⟩
  yld := fun Z1 φ1 st1 H1w i d x H' e S1 _ hdw y => by
    obtain ⟨p, v, u, rfl, hpw, rfl, y1, y2⟩ := y
    obtain ⟨d1, d2, g1, g2, rfl⟩ := pairs_get ds es i d hdw
    obtain ⟨v1, h1, h2⟩ := r.get g1
    obtain ⟨v2, h3, h4⟩ := r'.get g2
    have q1w := y1 xs (sqT_mono S1.fz (sqT_mono e.z h))
    have q2 := y2 ys (sqT_mono S1.fz (sqT_mono e.z h'))
    rw [h1] at q1w
    rw [h3] at q2
    cases q1w
    cases q2
    obtain ⟨e2, S2⟩ := S1.freeze (o := .tup [v, u]) hpw
    exact ⟨_, e2, S2, p, _, rfl, SqT.of upd_same, Reps.cons (Rep.mono (e.trans e2).e0 _ _ h2) (Reps.cons (Rep.mono (e.trans e2).e0 _ _ h4) Reps.nil)⟩
theorem feeds_zipL {Z φ H st} {a b : Addr} {xs ys : List V} {ds es : List D} (S : Sim X.K T Z φ st H) (h : SqL X.K Z a xs) (r : Reps X.K Z φ ds xs) (h' : SqL X.K Z b ys) (r' : Reps X.K Z φ es ys) : Feeds X T Z φ H (Itz X.K a b) ⟨pairs ds es, none⟩ where
  go := fun Z1 φ1 st1 H1w i e S1 _ hi => by
    rw [pairs_len] at hi
    have hx : i < xs.length := by rw [← r.len]; omega
    have hy : i < ys.length := by rw [← r'.len]; omega
    exact ⟨xs, ys, xs[i], ys[i], sqL_mono S1.fz (sqL_mono e.z h), sqL_mono S1.fz (sqL_mono e.z h'), List.getElem?_eq_getElem hx, List.getElem?_eq_getElem hy⟩
  stop := fun Z1 φ1 st1 H1w e S1 _ => ⟨xs, ys, sqL_mono S1.fz (sqL_mono e.z h), sqL_mono S1.fz (sqL_mono e.z h'), by
    rw [pairs_len, r.len, r'.len]
    omega⟩
  yld := fun Z1 φ1 st1 H1w i d x H' e S1 _ hdw y => by
    obtain ⟨p, v, u, rfl, hpw, rfl, y1, y2⟩ := y
    obtain ⟨d1, d2, g1, g2, rfl⟩ := pairs_get ds es i d hdw
    obtain ⟨v1, h1, h2⟩ := r.get g1
    obtain ⟨v2, h3, h4⟩ := r'.get g2
    have q1w := y1 xs (sqL_mono S1.fz (sqL_mono e.z h))
    have q2 := y2 ys (sqL_mono S1.fz (sqL_mono e.z h'))
    rw [h1] at q1w
    rw [h3] at q2
    cases q1w
    cases q2
    obtain ⟨e2, S2⟩ := S1.freeze (o := .tup [v, u]) hpw
    exact ⟨_, e2, S2, p, _, rfl, SqT.of upd_same, Reps.cons (Rep.mono (e.trans e2).e0 _ _ h2) (Reps.cons (Rep.mono (e.trans e2).e0 _ _ h4) Reps.nil)⟩
def eZip (f : Env → List O → RR (List D)) : Env → List O → RR Src := fun ρ st => (f ρ st).bind fun xs s1 => match xs with
  | [.tup ds, .tup es] => .ok ⟨pairs ds es, none⟩ s1
  | [.lst ds, .lst es] => .ok ⟨pairs ds es, none⟩ s1
  | _ => .err
theorem x_zip {e e2 : Expr} {f : Env → List O → RR (List D)} {p pos tpos : Pos} {elts : List Expr} {kk : Nat} (hg : Gl X "zip") (hm : X.mg "zip" = none) (ha : PA X [e, e2] (tA X T W f))
    (hs : starEach [e, e2] X.env = (false, eval e X.env) :: starEach [e2] X.env) (hpl : (backTo pos (starEach [e2] X.env)).any (·.1) = false) :
    PI X (.Tuple elts kk tpos) (.Call (.Name "zip" p) [e, e2] [] pos) (tI X T W (eZip f)) := by
  refine pi_imp (RZ.pi_zipA hg hm ha hs hpl) fun σ H R q => ?_
  obtain ⟨Z, φ, st, ρ, S, E, w⟩ := q
  refine ⟨Z, φ, st, ρ, S, E, w.first fun vs Z1 φ1 H1w ds s1 e1 S1 R1 w1 => ?_⟩
  split at w1
  · obtain ⟨v, u, rfl, r, r'⟩ := reps2 R1
    obtain ⟨a, xs, rfl, h1, h2⟩ := r
    obtain ⟨b, ys, rfl, h1', h2'⟩ := r'
    exact ⟨a, b, xs, ys, rfl, .inr ⟨sqT_mono S1.fz h1, sqT_mono S1.fz h1', w1 _ Z1 φ1 H1w Ext.refl S1 (feeds_zipT S1 h1 h2 h1' h2')⟩⟩
  · obtain ⟨v, u, rfl, r, r'⟩ := reps2 R1
    obtain ⟨a, xs, rfl, h1, h2⟩ := r
    obtain ⟨b, ys, rfl, h1', h2'⟩ := r'
    exact ⟨a, b, xs, ys, rfl, .inl ⟨.inl (rd_mono S1.fz h1), .inl (rd_mono S1.fz h1'), w1 _ Z1 φ1 H1w Ext.refl S1 (feeds_zipL S1 (.inl h1) h2 (.inl h1') h2')⟩⟩
  · exact w1.elim
end
end Tl
/-! TRev: t[::-1]. -/
namespace Tl
open PySem L2 PyProof.Rows HT
section
variable {prog : Program} {w : World} {A : Around} {E : Value → Shared → Prop} {s : Shared}
theorem pick_rev (xs : Array Value) : ((List.range xs.size).filterMap fun (m : Nat) => xs[(((xs.size : Int) - 1) + (m : Int) * (-1)).toNat]?).toArray = xs.toList.reverse.toArray := by
  rw [← PySem.W.krv_pick]
  unfold slicePick
  rw [PySem.W.krv_bounds]
  show _ = ((sliceRange ((xs.size : Int) - 1) (-1) (-1)).filterMap (xs[·]?)).toArray
  rw [PySem.W.krv_sliceRange, List.filterMap_map]
  congr 1
  have fm : ∀ (l : List Nat) (f g : Nat → Option Value), (∀ m ∈ l, f m = g m) → l.filterMap f = l.filterMap g := by
    intro l f g
    induction l with
    | nil => intro _; rfl
    | cons a l ih =>
      intro h
      rw [List.filterMap_cons, List.filterMap_cons, h a (by simp), ih fun m hm => h m (by simp [hm])]
  refine fm _ _ _ fun m hm => ?_
  have := List.mem_range.mp hm
  show xs[_]? = xs[xs.size - 1 - m]?
  congr 1
  omega
theorem getItem_tuple_rev {t sl : Addr} {items : Array Value} {vlw vu vs : Value} {Q : Value → Shared → Prop} (htw : IsTup s.heap t items) (hs : s.heap.IsSliceOf sl vlw vu vs) (plw : IsPart vlw none) (puw : IsPart vu none) (ps : IsPart vs (some (-1)))
    (h : Q (.ref s.heap.objs.size) { s with heap := s.heap.push { cls := .type "tuple", data := .seq items.toList.reverse.toArray } }) (hsz : items.size ≤ sizeLine) : wpAny (model prog w) A (getItem (.ref t) (.ref sl)) Q E s := by
  have fit : sizeOk (.seq items.toList.reverse.toArray) := by
    show items.toList.reverse.toArray.size ≤ sizeLine
    simpa using hsz
  obtain ⟨os, hosw, hcsw, hdsw⟩ := id hs
  have hTsw : s.TypeIs (.ref sl) "slice" := ⟨os, hosw, hcsw⟩
  unfold getItem
  try with_reducible refine wpAny_holding ?_
  first | refine wpAny_bind (wpAny_pure ?_) | skip
  refine wpAny_bind (wpAny_sequenceKey htw.typeIs (by decide) ?_)
  refine wpAny_bind (wpAny_callSpecial?_slot (name := Str.ofString "__getitem__") htw.typeIs slot_tuple_getitem (wpAny_call_entry slot_tuple_getitem htw.typeIs entry_tuple_getitem ?_ (args_tuple_getitem _ _)))
  show wpAny _ _ (Builtin.Tuple.tupleItemsOf (.ref t) >>= _) _ _ s
  refine wpAny_bind (tupleItemsOf_ htw ?_)
  refine wpAny_bind (wpAny_typeOf hTsw ?_)
  rw [if_pos (by decide)]
  have applied : ∀ {A : Around} {R : Int × Int × Nat → Shared → Prop}, R ((items.size : Int) - 1, -1, items.size) s → wpAny (model prog w) A (Builtin.Slice.sliceApplied (.ref sl) (pure (items.size : Int))) R E s := fun {A} {R} hR => by
    unfold Builtin.Slice.sliceApplied Builtin.Slice.sliceFields
    refine wpAny_bind (wpAny_bind (wpAny_field hosw hdsw (x := vlw) rfl (wpAny_bind (wpAny_field hosw hdsw (x := vu) rfl (wpAny_bind (wpAny_field hosw hdsw (x := vs) rfl (wpAny_pure ?_)))))))
    refine wpAny_bind (slicePart_ ps ?_)
    show wpAny _ _ (if ((-1 : Int) == 0) = true then _ else _) _ _ s
    rw [if_neg (by decide)]
    refine wpAny_bind (slicePart_ plw (wpAny_bind (slicePart_ puw (wpAny_bind (wpAny_pure ?_)))))
    have adj : Builtin.Slice.sliceAdjust none none (-1) (items.size : Int) = ((items.size : Int) - 1, -1) := by
      unfold Builtin.Slice.sliceAdjust
      simp
    show wpAny _ _ (match Builtin.Slice.sliceAdjust none none (-1) (items.size : Int) with | (lo, hi) => pure (lo, (-1 : Int), Builtin.Slice.slicePlaces lo hi (-1))) _ _ s
    rw [adj]
    have pl2 : Builtin.Slice.slicePlaces ((items.size : Int) - 1) (-1) (-1) = items.size := by
      unfold Builtin.Slice.slicePlaces
      have h1 : ¬ ((-1 : Int) > 0) := by omega
      simp only [h1, if_false]
      split
      · rw [show (- -1 : Int) = 1 by decide, Int.ediv_one]
        omega
      · omega
    show wpAny _ _ (pure ((items.size : Int) - 1, (-1 : Int), Builtin.Slice.slicePlaces ((items.size : Int) - 1) (-1) (-1))) _ _ s
    rw [pl2]
    exact wpAny_pure hR
  refine wpAny_bind (applied ?_)
  have hno : ¬ ((((items.size : Int) - 1) == 0 && (-1 : Int) == 1 && items.size == items.size) = true) := by
    rw [show ((-1 : Int) == 1) = false by decide]
    simp
  show wpAny _ _ (if (((items.size : Int) - 1) == 0 && (-1 : Int) == 1 && items.size == items.size) = true then _ else _) _ _ s
  rw [if_neg hno, pick_rev]
  first
    | exact wpAny_bind (m := Builtin.Tuple.tupleExact _) (wpAny_newObj_type (wpAny_pure ⟨_, rfl, wpAny_pure h⟩) fit)
    | exact wpAny_bind (m := Builtin.Tuple.tupleExact _) (wpAny_newObj_type (wpAny_bind (wpAny_pure (wpAny_pure ⟨_, rfl, wpAny_pure h⟩))) fit)
    | exact wpAny_bind (wpAny_bind (m := Builtin.Tuple.tupleExact _) (wpAny_newObj_type (wpAny_pure (wpAny_pure ⟨_, rfl, wpAny_pure h⟩)) fit))
    | exact wpAny_bind (wpAny_bind (m := Builtin.Tuple.tupleExact _) (wpAny_newObj_type (wpAny_pure ⟨_, rfl, wpAny_pure h⟩) fit))
end
section
variable {X : Cx} {T : List (Addr × Str)} {W : WX}
theorem pe_revT {e : Expr} {te : TE} {k : Nat} {p1w p2w p3w pos : Pos} (hew : PE X e te) : PE X (.Subscript e (.Slice none none (some (.UnaryOp .USub (.Constant (.int 1) k p1w) p2w)) p3w) pos)
    (fun σ H Q => te σ H fun x H1w => ∃ a xs, x = .ref a ∧ SqT X.K H1w a xs ∧ ∀ p, H1w p = none → Q (.ref p) (upd H1w p (.tup xs.reverse))) := by
  refine ⟨fun pins s σ H Q Iw h => ?_⟩
  refine Subscript_ (thn (hew.run pins s σ H _ Iw h) fun v s1 ⟨x, H1w, I1, r1, q1w⟩ => ?_)
  obtain ⟨a, xs, ex, hxw, q⟩ := q1w
  subst ex
  cases r1
  have step : PO X (some (.UnaryOp .USub (.Constant (.int 1) k p1w) p2w)) (tPart (tUn (rU fun i => .int (-i)) (tC (.int 1)))) := po_some (pe_un un_neg pe_int)
  refine wpAny_Slice (thn (po_none.run pins s1 σ H1w (fun o H2w => o = none ∧ H2w = H1w) I1 ⟨rfl, rfl⟩) fun vlw s2 ⟨l, H2w, I2, plw, el, e2⟩ => ?_)
  subst el e2
  refine thn (po_none.run pins s2 σ H2w (fun o H3w => o = none ∧ H3w = H2w) I2 ⟨rfl, rfl⟩) fun vu s3 ⟨u, H3w, I3, puw, eu, e3⟩ => ?_
  subst eu e3
  refine thn (step.run pins s3 σ H3w (fun o H4w => o = some (-1) ∧ H4w = H3w) I3 ⟨1, rfl, -1, rfl, rfl, rfl⟩) fun vs s4 ⟨o, H4w, I4, ps, eo, e4⟩ => ?_
  subst eo e4
  have I5w : Inv X pins σ H4w { s4 with heap := s4.heap.push { cls := .type "slice", data := .fields #[vlw, vu, vs] } } := I4.kept (t' := s4.toks) fun b ob q => Heap.get?_push_of_some _ q
  obtain ⟨its, r, htw, hz⟩ := I5w.tuple hxw
  have hlen := r.length
  show wpAny (model X.prog X.w) X.A (subscriptTail e (.Slice none none (some (.UnaryOp .USub (.Constant (.int 1) k p1w) p2w)) p3w) (.ref a) (.ref s4.heap.objs.size)) (EP X pins σ Q) X.xe { s4 with heap := s4.heap.push { cls := .type "slice", data := .fields #[vlw, vu, vs] } }
  refine tail_any (ops := [.ref a, .ref s4.heap.objs.size]) htw.typeIs (slot_tuple_getitem.lookup) ?_ (by with_unfolding_all rfl)
  refine getItem_tuple_rev htw (Heap.IsSliceOf.new _ vlw vu vs) plw puw ps ?_ (by rw [List.size_toArray]; omega)
  refine ⟨.ref _, _, I5w.laid (t' := s4.toks) (o := .tup xs.reverse) (fun b ob q => Heap.get?_push_of_some _ q) (Nat.le_refl _) ?_, rfl, q _ (I5w.hok.fresh (Nat.le_refl _))⟩
  exact ⟨by rw [List.length_reverse]; exact hz, _, r.reverse, IsTup.new _ _⟩
def dRev (st : List O) : D → Option D
  | .tup ds => some (.tup ds.reverse)
  | d => (listOf st d).map fun ds => .lst ds.reverse
def eRev (f : Env → List O → RR D) : Env → List O → RR D := fun ρ st => (f ρ st).bind fun x s1 => liftD s1 (dRev s1 x)
theorem x_rev {e : Expr} {f : Env → List O → RR D} {k : Nat} {p1w p2w p3w pos : Pos} (hew : PE X e (tE X T W f)) : PE X (.Subscript e (.Slice none none (some (.UnaryOp .USub (.Constant (.int 1) k p1w) p2w)) p3w) pos) (tE X T W (eRev f)) := by
  have both : PE X (.Subscript e (.Slice none none (some (.UnaryOp .USub (.Constant (.int 1) k p1w) p2w)) p3w) pos) fun σ H Q => tRevL X.K (tE X T W f) σ H Q ∨ (tE X T W f σ H fun x H1w => ∃ a xs, x = .ref a ∧ SqT X.K H1w a xs ∧ ∀ p, H1w p = none → Q (.ref p) (upd H1w p (.tup xs.reverse))) :=
    ⟨fun pins s σ H Q Iw q => q.elim (fun z => (pe_revL hew).run pins s σ H Q Iw z) fun z => (pe_revT hew).run pins s σ H Q Iw z⟩
  refine pe_imp both fun σ H Q q => ?_
  obtain ⟨Z, φ, st, ρ, S, E, w⟩ := q
  unfold eRev at w
  cases hf : f ρ st with
  | err =>
    rw [hf] at w
    exact w.elim
  | exc c s1 =>
    rw [hf] at w
    exact .inl ⟨Z, φ, st, ρ, S, E, by rw [hf]; exact w⟩
  | ok d s1 =>
    rw [hf] at w
    replace w : WpG X T W σ (repE X) Z φ H (liftD s1 (dRev s1 d)) Q := w
    cases hd : dRev s1 d with
    | none =>
      rw [hd] at w
      exact w.elim
    | some d' =>
      rw [hd] at w
      have lists : ∀ ds, listOf s1 d = some ds → d' = .lst ds.reverse → (tRevL X.K (tE X T W f) σ H Q ∨ (tE X T W f σ H fun x H1w => ∃ a xs, x = .ref a ∧ SqT X.K H1w a xs ∧ ∀ p, H1w p = none → Q (.ref p) (upd H1w p (.tup xs.reverse)))) := fun ds hl e => by
        subst e
        refine .inl ⟨Z, φ, st, ρ, S, E, ?_⟩
        rw [hf]
        intro v Z1 φ1 H1w e1 S1 R1
        obtain ⟨a, xs, rfl, h1, h2⟩ := listOf_ok S1 R1 hl
        refine ⟨a, xs, rfl, .inl h1, fun p hp => ?_⟩
        obtain ⟨e2, S2⟩ := S1.freeze (o := .lst xs.reverse) hp
        exact w _ _ _ _ (e1.trans e2) S2 ⟨p, _, rfl, Rd.of upd_same, h2.reverse.mono e2.e0⟩
      cases d with
      | tup ds =>
        have e : d' = .tup ds.reverse := (Option.some.inj hd).symm
        subst e
        refine .inr ⟨Z, φ, st, ρ, S, E, ?_⟩
        rw [hf]
        intro v Z1 φ1 H1w e1 S1 R1
        obtain ⟨a, xs, rfl, h1, h2⟩ := R1
        refine ⟨a, xs, rfl, sqT_mono S1.fz h1, fun p hp => ?_⟩
        obtain ⟨e2, S2⟩ := S1.freeze (o := .tup xs.reverse) hp
        exact w _ _ _ _ (e1.trans e2) S2 ⟨p, _, rfl, SqT.of upd_same, h2.reverse.mono e2.e0⟩
      | lst ds => exact lists ds rfl (Option.some.inj hd).symm
      | loc n =>
        cases hl : listOf s1 (.loc n) with
        | none =>
          have hd' : (listOf s1 (.loc n)).map (fun ds => D.lst ds.reverse) = some d' := hd
          rw [hl] at hd'
          cases hd'
        | some ds =>
          have hd' : (listOf s1 (.loc n)).map (fun ds => D.lst ds.reverse) = some d' := hd
          rw [hl] at hd'
          exact lists ds hl (Option.some.inj hd').symm
      | _ => cases hd
end
end Tl
/-! TPrim3: built-in calls, slices, stores, methods, displays of dicts. -/
namespace Tl
open PySem L2
section
variable {X : Cx} {T : List (Addr × Str)} {W : WX}

/-! ### len, abs, int, min, max, str, repr -/
def dLen : P1 := fun st d => match d with
  | .str x => if x.length ≤ sizeLine then some (.int (x.length : Nat)) else none
  | .tup xs => some (.int (xs.length : Nat))
  | .lst xs => some (.int (xs.length : Nat))
  | .scr xs => some (.int (xs.length : Nat))
  | .loc n => match st[n]? with
    | some (.lst xs) => some (.int (xs.length : Nat))
    | some (.dic kvs) => some (.int (kvs.length : Nat))
    | none => none
  | _ => none
theorem c_len : CallR X (.builtin "len") (rP X T (pr1 dLen)) := call1 fun pins s σ H x us Q Z φ st dx d I rv S R h q => by
  have old : ∀ n : Nat, LenV X.K x H n → d = .int (n : Nat) → wpAny (model X.prog X.w) X.A (call (.builtin "len") us) (EP X pins σ Q) X.xe s := fun n hn e => by
    subst e
    exact call_len pins s σ H [x] us Q I rv ⟨x, n, rfl, hn, q _ Z φ H Ext.refl S rfl⟩
  cases dx with
  | str z =>
    have R' : x = .str z := R
    have h' : (if z.length ≤ sizeLine then some (D.int (z.length : Nat)) else none) = some d := h
    split at h'
    · rename_i hz
      subst R'
      exact old z.length ⟨hz, rfl⟩ (Option.some.inj h').symm
    · cases h'
  | tup ds =>
    obtain ⟨a, xs, rfl, h1, h2⟩ := R
    exact old xs.length (.inr ⟨xs, sqT_mono S.fz h1, rfl⟩) (by rw [← h2.len]; exact (Option.some.inj h).symm)
  | lst ds =>
    obtain ⟨a, xs, rfl, h1, h2⟩ := R
    exact old xs.length (.inl ⟨xs, .inl (rd_mono S.fz h1), rfl⟩) (by rw [← h2.len]; exact (Option.some.inj h).symm)
  | scr ds =>
    obtain ⟨a, xs, rfl, h1, h2⟩ := R
    exact old xs.length (.inl ⟨xs, sqL_mono S.fz h1, rfl⟩) (by rw [← h2.len]; exact (Option.some.inj h).symm)
  | loc n =>
    obtain ⟨a, h1, rfl⟩ := R
    obtain ⟨o, g, r⟩ := S.atA h1
    unfold dLen at h
    simp only [g] at h
    cases o with
    | lst ds =>
      obtain ⟨xs, q1, q2⟩ := r
      exact old xs.length (.inl ⟨xs, SqL.of q1, rfl⟩) (by rw [← q2.len]; exact (Option.some.inj h).symm)
    | dic kvs =>
      obtain ⟨ws, q1, q2⟩ := r
      have hl : kvs.length = ws.length := RepKV.len (K := X.K) (Z := Z) (φ := φ) q2
      have e : d = .int (ws.length : Nat) := by rw [← hl]; exact (Option.some.inj h).symm
      subst e
      exact call_lenD pins s σ H _ us Q I rv ⟨a, ws, rfl, q1, q _ Z φ H Ext.refl S rfl⟩
  | _ => cases h
def dAbs : P1 := fun _ d => match d with
  | .int i => some (.int (if i < 0 then -i else i))
  | _ => none
theorem c_abs : CallR X (.builtin "abs") (rP X T (pr1 dAbs)) := call1 fun pins s σ H x us Q Z φ st dx d I rv S R h q => by
  unfold dAbs at h
  split at h
  · rename_i i
    cases h
    exact call_abs pins s σ H [x] us Q I rv ⟨i, by rw [show x = .int i from R], q _ Z φ H Ext.refl S rfl⟩
  · cases h
def dInt : P1 := fun _ d => match d with
  | .int i => some (.int i)
  | .bl b => some (.int (if b then 1 else 0))
  | _ => none
theorem c_int : CallR X (.type "int") (rP X T (pr1 dInt)) := call1 fun pins s σ H x us Q Z φ st dx d I rv S R h q => by
  unfold dInt at h
  split at h
  · rename_i i
    cases h
    exact call_int1 pins s σ H [x] us Q I rv (.inl ⟨i, by rw [show x = .int i from R], q _ Z φ H Ext.refl S rfl⟩)
  · rename_i b
    cases h
    exact call_int1 pins s σ H [x] us Q I rv (.inr ⟨b, by rw [show x = .bl b from R], q _ Z φ H Ext.refl S rfl⟩)
  · cases h
def dMin : P2 := fun _ a b => match a, b with
  | .int i, .int j => some (.int (if j < i then j else i))
  | _, _ => none
theorem c_min (hc : X.calm = true) : CallR X (.builtin "min") (rP X T (pr2 dMin)) := call2 fun pins s σ H x y us Q Z φ st dx dy d I rv S R1 R2 h q => by
  unfold dMin at h
  split at h
  · rename_i i j
    cases h
    exact call_min2 hc pins s σ H [x, y] us Q I rv ⟨i, j, by rw [show x = .int i from R1, show y = .int j from R2], q _ Z φ H Ext.refl S rfl⟩
  · cases h
def dMax : P2 := fun _ a b => match a, b with
  | .int i, .int j => some (.int (if j > i then j else i))
  | _, _ => none
theorem c_max (hc : X.calm = true) : CallR X (.builtin "max") (rP X T (pr2 dMax)) := call2 fun pins s σ H x y us Q Z φ st dx dy d I rv S R1 R2 h q => by
  unfold dMax at h
  split at h
  · rename_i i j
    cases h
    exact call_max2 hc pins s σ H [x, y] us Q I rv ⟨i, j, by rw [show x = .int i from R1, show y = .int j from R2], q _ Z φ H Ext.refl S rfl⟩
  · cases h
def dStr : P1 := fun _ d => match d with
  | .int i => if i.natAbs.log2 < 1920 then some (.str (toString i)) else none
  | .str x => some (.str x)
  | _ => none
theorem c_str : CallR X (.type "str") (rP X T (pr1 dStr)) := call1 fun pins s σ H x us Q Z φ st dx d I rv S R h q => by
  unfold dStr at h
  split at h
  · rename_i i
    split at h
    · rename_i hi
      cases h
      exact call_str_int pins s σ H [x] us Q I rv ⟨i, by rw [show x = .int i from R], hi, q _ Z φ H Ext.refl S rfl⟩
    · cases h
  · rename_i z
    cases h
    exact SkE.call_str_str pins s σ H [x] us Q I rv ⟨z, by rw [show x = .str z from R], q _ Z φ H Ext.refl S rfl⟩
  · cases h
/-- repr of a truth value, of None -/
def boolText (b : Bool) : Str := if b then "True" else "False"
def dRepr : P1 := fun _ d => match d with
  | .bl b => some (.str (boolText b))
  | _ => none
theorem c_repr : CallR X (.builtin "repr") (rP X T (pr1 dRepr)) := call1 fun pins s σ H x us Q Z φ st dx d I rv S R h q => by
  unfold dRepr at h
  split at h
  · rename_i b
    cases h
    obtain ⟨u, rfl, ru⟩ := vals1 rv
    have R' : x = .bl b := R
    subst R'
    cases (show u = Value.bool b from ru)
    exact PySem.P.repr_of_bool ⟨.str (boolText b), H, I.tok _, ⟨s.toks, rfl⟩, q _ Z φ H Ext.refl S rfl⟩
  · cases h

/-! ### all, any, tuple, list -/
def allBl : List D → Option (List Bool)
  | [] => some []
  | .bl b :: r => (allBl r).map (b :: ·)
  | _ :: _ => none
theorem allBl_ok {K : PySem.W.Frag} {Z : Hp} {φ : List Addr} : ∀ {ds : List D} {vs : List V} {bs : List Bool}, Reps K Z φ ds vs → allBl ds = some bs → vs = bs.map V.bl
  | [], vs, bs, r, h => by
    cases h
    exact r
  | d :: ds, vs, bs, r, h => by
    obtain ⟨v, r', rfl, h2, h3⟩ := r
    cases d with
    | bl b =>
      have h' : (allBl ds).map (b :: ·) = some bs := h
      cases hb : allBl ds with
      | none =>
        rw [hb] at h'
        cases h'
      | some cs =>
        rw [hb] at h'
        cases h'
        rw [allBl_ok h3 hb, show v = .bl b from h2]
        rfl
    | _ => cases h
def dAll : P1 := fun st d => ((listOf st d).bind allBl).map fun bs => .bl (bs.all id)
def dAny : P1 := fun st d => ((listOf st d).bind allBl).map fun bs => .bl (bs.any id)
theorem c_all (hc : X.calm = true) : CallR X (.builtin "all") (rP X T (pr1 dAll)) := call1 fun pins s σ H x us Q Z φ st dx d I rv S R h q => by
  unfold dAll at h
  cases hl : listOf st dx with
  | none =>
    rw [hl] at h
    cases h
  | some ds =>
    rw [hl] at h
    replace h : (allBl ds).map (fun bs => D.bl (bs.all id)) = some d := h
    cases hb : allBl ds with
    | none =>
      rw [hb] at h
      cases h
    | some bs =>
      rw [hb] at h
      cases h
      obtain ⟨a, xs, rfl, h1, h2⟩ := listOf_ok S R hl
      have e := allBl_ok h2 hb
      subst e
      exact cr_all hc pins s σ H _ us Q I rv ⟨a, bs, rfl, .inl h1, q _ Z φ H Ext.refl S rfl⟩
theorem c_any (hc : X.calm = true) : CallR X (.builtin "any") (rP X T (pr1 dAny)) := call1 fun pins s σ H x us Q Z φ st dx d I rv S R h q => by
  unfold dAny at h
  cases hl : listOf st dx with
  | none =>
    rw [hl] at h
    cases h
  | some ds =>
    rw [hl] at h
    replace h : (allBl ds).map (fun bs => D.bl (bs.any id)) = some d := h
    cases hb : allBl ds with
    | none =>
      rw [hb] at h
      cases h
    | some bs =>
      rw [hb] at h
      cases h
      obtain ⟨a, xs, rfl, h1, h2⟩ := listOf_ok S R hl
      have e := allBl_ok h2 hb
      subst e
      exact cr_any hc pins s σ H _ us Q I rv ⟨a, bs, rfl, .inl h1, q _ Z φ H Ext.refl S rfl⟩
/-- what a tuple, a list, the script holds -/
def seqOf (st : List O) : D → Option (List D)
  | .tup xs => some xs
  | .scr xs => some xs
  | d => listOf st d
theorem seqOf_ok {Z : Hp} {φ : List Addr} {st : List O} {H : Hp} (S : Sim X.K T Z φ st H) {d : D} {v : V} {ds : List D} (r : Rep X.K Z φ d v) (h : seqOf st d = some ds) : ∃ a xs, v = .ref a ∧ (SqL X.K H a xs ∨ SqT X.K H a xs ∧ d = .tup ds) ∧ Reps X.K Z φ ds xs := by
  have old : listOf st d = some ds → ∃ a xs, v = .ref a ∧ (SqL X.K H a xs ∨ SqT X.K H a xs ∧ d = .tup ds) ∧ Reps X.K Z φ ds xs := fun h => by
    obtain ⟨a, xs, e, h1, h2⟩ := listOf_ok S r h
    exact ⟨a, xs, e, .inl (.inl h1), h2⟩
  cases d with
  | tup es =>
    cases h
    obtain ⟨a, xs, rfl, h1, h2⟩ := r
    exact ⟨a, xs, rfl, .inr ⟨sqT_mono S.fz h1, rfl⟩, h2⟩
  | scr es =>
    cases h
    obtain ⟨a, xs, rfl, h1, h2⟩ := r
    exact ⟨a, xs, rfl, .inl (sqL_mono S.fz h1), h2⟩
  | _ => exact old h
def dTuple : P1 := fun st d => (seqOf st d).map .tup
theorem c_tuple : CallR X (.type "tuple") (rP X T (pr1 dTuple)) := call1 fun pins s σ H x us Q Z φ st dx d I rv S R h q => by
  unfold dTuple at h
  cases hl : seqOf st dx with
  | none =>
    rw [hl] at h
    cases h
  | some ds =>
    rw [hl] at h
    cases h
    obtain ⟨a, xs, rfl, h1, h2⟩ := seqOf_ok S R hl
    refine call_tuple_of pins s σ H _ us Q I rv ⟨a, xs, rfl, ?_⟩
    rcases h1 with h1 | h1
    · refine .inl ⟨h1, fun l hl => ?_⟩
      obtain ⟨e2, S2⟩ := S.freeze (o := .tup xs) hl
      exact q _ _ _ _ e2 S2 ⟨l, xs, rfl, SqT.of upd_same, h2.mono e2.e0⟩
    · obtain ⟨h1, rfl⟩ := h1
      exact .inr ⟨h1, q _ Z φ H Ext.refl S R⟩
def pTuple : PrL := fun st ds => match ds with
  | [d] => seqOf st d
  | _ => none
theorem c_list : CallR X (.type "list") (rPL X T pTuple) := by
  intro pins s σ H xs us Q I rv q
  obtain ⟨Z, φ, st, ds, d, S, R, e, q⟩ := q
  unfold pTuple at e
  split at e
  · rename_i dx
    obtain ⟨x, rfl, r1⟩ := reps1 R
    obtain ⟨a, ys, rfl, h1, h2⟩ := seqOf_ok S r1 e
    refine call_list_of pins s σ H _ us Q I rv ⟨a, ys, rfl, h1.imp id (·.1), fun p hp => ?_⟩
    have hn : p ∉ φ := fun z => by
      obtain ⟨u, hu⟩ := S.mem z
      rw [hp] at hu
      cases hu
    have hz : Z p = none := by
      cases q : Z p with
      | none => rfl
      | some u =>
        rw [S.fz p u q] at hp
        cases hp
    exact q (.ref p) _ _ _ (Ext.same (same_upd hp)) (S.same (same_upd hp)) ⟨p, ys, rfl, upd_same, .of hp, hn, hz, h2⟩
  · cases e
end
end Tl
/-! TPrim4: isinstance, slices, stores, methods, displays of dicts. -/
namespace Tl
open PySem L2 PySem.Spec PyProof.Rows
section
variable {X : Cx} {T : List (Addr × Str)} {W : WX}

/-! ### isinstance -/
def tyD (st : List O) : D → String
  | .non => "NoneType"
  | .bl _ => "bool"
  | .int _ => "int"
  | .str _ => "str"
  | .tup _ => "tuple"
  | .lst _ => "list"
  | .scr _ => "list"
  | .loc n => match st[n]? with
    | some (.dic _) => "dict"
    | _ => "list"
theorem tyX_sqT {K : PySem.W.Frag} {H : Hp} {a : Addr} {xs : List V} (h : SqT K H a xs) : TyX K H (.ref a) (.type "tuple") := by
  rcases h with (h | ⟨o, h⟩) | h
  · exact .base (.tup h)
  · exact .fTuple h
  · obtain ⟨o, its, n, h1, h2, _⟩ := h
    exact .kTuple h1 h2
theorem tyX_sqL {K : PySem.W.Frag} {H : Hp} {a : Addr} {xs : List V} (h : SqL K H a xs) : TyX K H (.ref a) (.type "list") := by
  rcases h with (h | ⟨o, h⟩) | h
  · exact .base (.lst h)
  · exact .base (.frz h)
  · obtain ⟨o, its, n, h1, h2, _⟩ := h
    exact .kList h1 h2
theorem tyD_ok {Z : Hp} {φ : List Addr} {st : List O} {H : Hp} (S : Sim X.K T Z φ st H) {d : D} {v : V} (r : Rep X.K Z φ d v) : TyX X.K H v (.type (tyD st d)) := by
  cases d with
  | non =>
    rw [show v = .non from r]
    exact .base .non
  | bl b =>
    rw [show v = .bl b from r]
    exact .base (.bl b)
  | int b =>
    rw [show v = .int b from r]
    exact .base (.int b)
  | str b =>
    rw [show v = .str b from r]
    exact .base (.str b)
  | tup ds =>
    obtain ⟨a, xs, rfl, h1, h2⟩ := r
    exact tyX_sqT (sqT_mono S.fz h1)
  | lst ds =>
    obtain ⟨a, xs, rfl, h1, h2⟩ := r
    exact tyX_sqL (.inl (rd_mono S.fz h1))
  | scr ds =>
    obtain ⟨a, xs, rfl, h1, h2⟩ := r
    exact tyX_sqL (sqL_mono S.fz h1)
  | loc n =>
    obtain ⟨a, h1, rfl⟩ := r
    obtain ⟨o, g, q⟩ := S.atA h1
    unfold tyD
    simp only [g]
    cases o with
    | lst ds =>
      obtain ⟨xs, e1, e2w⟩ := q
      exact .base (.lst e1)
    | dic kvs =>
      obtain ⟨ws, e1, e2w⟩ := q
      exact .base (.dK e1)
def eIsi (t : String) (f : Env → List O → RR D) : Env → List O → RR D := fun ρ st => (f ρ st).bind fun x s1 => match kitB (tyD s1 x) t with
  | some b => .ok (.bl b) s1
  | none => .err
theorem x_isi {e : Expr} {f : Env → List O → RR D} {x : Str} {t : String} {p p2 pos : Pos} (hg : Gl X "isinstance") (hm : X.mg "isinstance" = none) (hg2 : Gl X x) (hm2 : X.mg x = none) (hv : bootBuiltins x = some (.type t)) (ha : PE X e (tE X T W f)) (hn : x ≠ "__name__") (hdb : (x == ("__debug__" : Str)) = false)
    (hs : starEach [.Name x p2] X.env = [(false, eval (.Name x p2) X.env)]) (he : starEach [e, .Name x p2] X.env = (false, eval e X.env) :: starEach [.Name x p2] X.env) (hpl : (backTo pos (starEach [.Name x p2] X.env)).any (·.1) = false) :
    PE X (.Call (.Name "isinstance" p) [e, .Name x p2] [] pos) (tE X T W (eIsi t f)) := by
  refine pe_imp (pe_callB call_isi hg hm PyProof.Rows.boot_isinstance (pa_cons ha (pa_cons (pe_bltn (v := .ty t) hg2 hm2 hv rfl hn hdb) pa_nil hs) he) (by decide) (by decide) he hpl) fun σ H Q q => ?_
  obtain ⟨Z, φ, st, ρ, S, E, w⟩ := q
  refine ⟨Z, φ, st, ρ, S, E, w.first fun v Z1 φ1 H1 d s1 e1 S1 R1 w1 => ?_⟩
  cases hk : kitB (tyD s1 d) t with
  | none =>
    rw [hk] at w1
    exact w1.elim
  | some b =>
    rw [hk] at w1
    exact ⟨v, .ty t, .type (tyD s1 d), .type t, b, rfl, .ty t, tyD_ok S1 R1, kit_ty hk, w1.ok S1 rfl⟩

/-! ### slices -/
def cut {α : Type} (xs : List α) (lo hi : Option Int) : List α := (xs.drop (HT.sIx xs.length 0 lo)).take (HT.sIx xs.length xs.length hi - HT.sIx xs.length 0 lo)
theorem cut_ok {K : PySem.W.Frag} {Z : Hp} {φ : List Addr} {ds : List D} {xs : List V} {lo hi : Option Int} (r : Reps K Z φ ds xs) : Reps K Z φ (cut ds lo hi) (cutV xs lo hi) := by
  unfold cut cutV
  rw [r.len]
  exact (r.drop _).take _
def dSl : PrS := fun st d lo hi => match d with
  | .tup ds => some (.tup (cut ds lo hi))
  | .str z => if z.length ≤ sizeLine then some (.str (cutS z lo hi)) else none
  | d => (listOf st d).map fun ds => .lst (cut ds lo hi)
theorem s_sl : SlR X (rSl X T dSl) := by
  intro pins s σ H x v vlw vuw lo hi sl Q Iw rxw hs pl pu q
  obtain ⟨Z, φ, st, d, e, S, R, hd, k⟩ := q
  have lists : ∀ ds, listOf st d = some ds → e = .lst (cut ds lo hi) → ∃ T id, typeLookup (.type T) "__getitem__" = pure (some (.builtin id)) ∧ s.TypeIs v T ∧ wpAny (model X.prog X.w) X.A (getItem v (.ref sl)) (EP X pins σ Q) X.xe s := fun ds hlw he => by
    subst he
    obtain ⟨a, xs, rfl, h1, h2⟩ := listOf_ok S R hlw
    refine sl_list pins s σ H _ v vlw vuw lo hi sl Q Iw rxw hs pl pu ⟨a, xs, rfl, .inl h1, fun p hp => ?_⟩
    obtain ⟨e2w, S2⟩ := S.freeze (o := .lst (cutV xs lo hi)) hp
    exact k _ _ _ _ e2w S2 ⟨p, _, rfl, Rd.of upd_same, (cut_ok h2).mono e2w.e0⟩
  cases d with
  | tup ds =>
    have he : e = .tup (cut ds lo hi) := (Option.some.inj hd).symm
    subst he
    obtain ⟨a, xs, rfl, h1, h2⟩ := R
    refine sl_tupA pins s σ H _ v vlw vuw lo hi sl Q Iw rxw hs pl pu ⟨a, xs, rfl, sqT_mono S.fz h1, fun hw => ?_, fun _ p hp => ?_⟩
    · refine k _ Z φ H Ext.refl S ⟨a, xs, rfl, h1, ?_⟩
      have hc : cut ds lo hi = ds := by
        unfold cut
        rw [h2.len, hw.1, hw.2, ← h2.len]
        simp
      rw [hc]
      exact h2
    · obtain ⟨e2w, S2⟩ := S.freeze (o := .tup (cutV xs lo hi)) hp
      exact k _ _ _ _ e2w S2 ⟨p, _, rfl, SqT.of upd_same, (cut_ok h2).mono e2w.e0⟩
  | str z =>
    have hd : (if z.length ≤ sizeLine then some (D.str (cutS z lo hi)) else none) = some e := hd
    split at hd
    · rename_i hzw
      cases hd
      exact sl_str pins s σ H _ v vlw vuw lo hi sl Q Iw rxw hs pl pu ⟨z, R, hzw, k _ Z φ H Ext.refl S rfl⟩
    · cases hd
  | lst ds => exact lists ds rfl (Option.some.inj hd).symm
  | loc n =>
    cases hlw : listOf st (.loc n) with
    | none =>
      have hd' : (listOf st (.loc n)).map (fun ds => D.lst (cut ds lo hi)) = some e := hd
      rw [hlw] at hd'
      cases hd'
    | some ds =>
      have hd' : (listOf st (.loc n)).map (fun ds => D.lst (cut ds lo hi)) = some e := hd
      rw [hlw] at hd'
      exact lists ds hlw (Option.some.inj hd').symm
  | _ => cases hd

/-! ### stores -/
def dPut : PrW := fun st c i v => match c with
  | .loc n => match st[n]? with
    | some (.lst ds) => match i with
      | .int k => (ixN ds.length k).map fun j => st.set n (.lst (ds.set j v))
      | _ => none
    | some (.dic kvs) => match dKey i with
      | some k => if kvs.length < sizeLine then some (st.set n (.dic (putD kvs k v))) else none
      | none => none
    | none => none
  | _ => none
theorem p_put (hu : X.A.units + 1 < cLine) : PSet X (rPut X T dPut) := by
  intro pins s σ H o i v ovw iv u Q Iw row ri rvw h
  obtain ⟨Z, φ, st, d1, d2, d3, st', S, R1, R2, R3, hd, k⟩ := h
  cases d1 with
  | loc n =>
    obtain ⟨a, h1, rfl⟩ := R1
    obtain ⟨ob, g, r⟩ := S.atA h1
    unfold dPut at hd
    simp only [g] at hd
    cases ob with
    | lst ds =>
      cases d2 with
      | int kk =>
        replace hd : (ixN ds.length kk).map (fun j => st.set n (.lst (ds.set j d3))) = some st' := hd
        cases hj : ixN ds.length kk with
        | none =>
          rw [hj] at hd
          cases hd
        | some j =>
          rw [hj] at hd
          cases hd
          obtain ⟨xs, q1, q2⟩ := r
          refine set_list pins s σ H _ i v ovw iv u Q Iw row ri rvw ⟨a, xs, kk, j, rfl, R2, q1, by rw [← q2.len]; exact hj, ?_⟩
          obtain ⟨e2w, S2⟩ := S.put (o := .lst (ds.set j d3)) (ho := .lst (xs.set j v)) h1 ⟨_, upd_same, Reps.set R3 j q2⟩
          exact k Z φ _ e2w S2
      | _ => cases hd
    | dic kvs =>
      replace hd : (match dKey d2 with
        | some k => if kvs.length < sizeLine then some (st.set n (.dic (putD kvs k d3))) else none
        | none => none) = some st' := hd
      cases hk : dKey d2 with
      | none =>
        rw [hk] at hd
        cases hd
      | some kk =>
        rw [hk] at hd
        replace hd : (if kvs.length < sizeLine then some (st.set n (.dic (putD kvs kk d3))) else none) = some st' := hd
        split at hd
        · rename_i hzw
          cases hd
          obtain ⟨ws, q1, q2, q3⟩ := r
          have KVR : RepKV X.K Z φ kvs ws := ⟨q2, q3⟩
          obtain rfl : ovw = Value.ref a := row
          have g := DPut.k (v := v) (k := kk) q1 (by rw [← KVR.len]; exact hzw)
          rw [← dKey_ok R2 hk] at g
          obtain ⟨e2w, S2⟩ := S.put (o := .dic (putD kvs kk d3)) (ho := .dK (putK ws kk v)) h1 ⟨_, upd_same, (KVR.put R3).1, (KVR.put R3).2⟩
          exact d_setItem hu Iw g ri rvw fun s4 I4 => ⟨_, I4, k Z φ _ e2w S2⟩
        · cases hd
  | _ => cases hd
/-- x += e -/
def dIadd : PrI := fun _ x y => match x, y with
  | .int i, .int j => some (.int (i + j))
  | _, _ => none
theorem i_add : PIp X .Add (rAug X T dIadd) := by
  intro pins s σ H x y v u Q Iw r1 r2 h
  obtain ⟨Z, φ, st, d1, d2, d3, S, R1, R2, hd, k⟩ := h
  unfold dIadd at hd
  split at hd
  · rename_i i j
    cases hd
    exact ip_add pins s σ H x y v u Q Iw r1 r2 ⟨i, j, R1, R2, k _ Z φ H Ext.refl S rfl⟩
  · cases hd
def dIsub : PrI := fun _ x y => match x, y with
  | .int i, .int j => some (.int (i - j))
  | _, _ => none
theorem i_sub : PIp X .Sub (rAug X T dIsub) := by
  intro pins s σ H x y v u Q Iw r1 r2 h
  obtain ⟨Z, φ, st, d1, d2, d3, S, R1, R2, hd, k⟩ := h
  unfold dIsub at hd
  split at hd
  · rename_i i j
    cases hd
    exact ip_sub pins s σ H x y v u Q Iw r1 r2 ⟨i, j, R1, R2, k _ Z φ H Ext.refl S rfl⟩
  · cases hd

/-! ### methods -/
def tyIs (t : String) : List O → D → Bool := fun st d => decide (tyD st d = t)
def mUpper : Pr := fun st ds => match ds with
  | [.str x] => if x.length ≤ 5592405 then some (.str (Txt.upper x), st) else none
  | _ => none
theorem m_upper : MtR X "str.upper" fun x xs => rP X T mUpper (x :: xs) := by
  intro pins s σ H x xs v us Q Iw rxw rvw h
  obtain ⟨Z, φ, st, ds, d, st', S, R, hd, k⟩ := h
  unfold mUpper at hd
  split at hd
  · rename_i z
    split at hd
    · rename_i hzw
      cases hd
      obtain ⟨y, e, r⟩ := reps1 R
      cases e
      exact mt_upper pins s σ H x [] v us Q Iw rxw rvw ⟨z, r, rfl, hzw, k _ Z φ H Ext.refl S rfl⟩
    · cases hd
  · cases hd
def mAppend : Pr := fun st ds => match ds with
  | [.loc n, d] => match st[n]? with
    | some (.lst xs) => if xs.length < sizeLine then some (.non, st.set n (.lst (xs ++ [d]))) else none
    | _ => none
  | _ => none
theorem m_append : MtR X "list.append" fun x xs => rP X T mAppend (x :: xs) := by
  intro pins s σ H x xs v us Q Iw rxw rvw h
  obtain ⟨Z, φ, st, ds, d, st', S, R, hd, k⟩ := h
  unfold mAppend at hd
  split at hd
  · rename_i n d1
    split at hd
    · rename_i es hn
      split at hd
      · rename_i hzw
        cases hd
        obtain ⟨y, y2, e, r, r2⟩ := reps2 R
        cases e
        obtain ⟨a, h1, rfl⟩ := r
        obtain ⟨ys, q1, q2⟩ := S.ob n _ a hn h1
        obtain ⟨e2w, S2⟩ := S.put (o := .lst (es ++ [d1])) (ho := .lst (ys ++ [y2])) h1 ⟨_, upd_same, q2.append (Reps.cons r2 Reps.nil)⟩
        exact mt_append pins s σ H _ _ v us Q Iw rxw rvw ⟨a, ys, y2, rfl, rfl, q1, by rw [← q2.len]; exact hzw, k .non Z φ _ e2w S2 rfl⟩
      · cases hd
    · cases hd
  · cases hd
/-- xs.extend(ys), ys may be read alone -/
theorem mt_extendR {X : Cx} : MtR X "list.extend" fun x vs H Q => ∃ l b xs zsw, x = .ref l ∧ vs = [.ref b] ∧ H l = some (.lst xs) ∧ Rd H b (.lst zsw) ∧ xs.length + zsw.length ≤ sizeLine ∧ Q .non (upd H l (.lst (xs ++ zsw))) := by
  intro pins s σ H x vs v us Q Iw rxw rvw h
  obtain ⟨l, b, xs, zsw, rfl, rfl, hHw, hB, hzw, q⟩ := h
  cases rxw
  obtain ⟨u, rfl, ru⟩ := rvw.one
  cases ru
  obtain ⟨z, its, n, r, hlw, e⟩ := Iw.lstM hHw
  obtain ⟨z2, its2, n2w, r2, e2w⟩ := hB.ok Iw.hok
  have hl2 := r2.length
  have hszw : its.toArray.size + its2.toArray.size ≤ sizeLine := by rw [List.size_toArray, List.size_toArray]; omega
  have hlongw : ¬ (!its.toArray.isEmpty && Builtin.List.listTooLong (its.toArray.size + its2.toArray.size)) = true := by
    rw [notLongL hszw, Bool.and_false]
    exact Bool.false_ne_true
  refine call_meets PySem.F.slot_list_extend ⟨_, e, rfl⟩ PySem.F.entry_list_extend (PySem.F.args_list_extend_2 _ _)
    (AutoSeq1.list_extend_list_list_0 l its.toArray n b its2.toArray n2w hlongw (by rw [List.size_toArray]; omega) (by omega)) ⟨e, e2w, ?_⟩
  refine ⟨.non, _, Iw.lset (its' := its ++ its2) hHw e (by simp) (r.append r2) ?_, rfl, q⟩
  rw [List.length_append]
  omega
def mExtend : Pr := fun st ds => match ds with
  | [.loc n, d] => match st[n]?, listOf st d with
    | some (.lst xs), some ys => if xs.length + ys.length ≤ sizeLine then some (.non, st.set n (.lst (xs ++ ys))) else none
    | _, _ => none
  | _ => none
theorem m_extend : MtR X "list.extend" fun x xs => rP X T mExtend (x :: xs) := by
  intro pins s σ H x xs v us Q Iw rxw rvw h
  obtain ⟨Z, φ, st, ds, d, st', S, R, hd, k⟩ := h
  unfold mExtend at hd
  split at hd
  · rename_i n d1
    split at hd
    · rename_i es fs hn hlw
      split at hd
      · rename_i hzw
        cases hd
        obtain ⟨y, y2, e, r, r2⟩ := reps2 R
        cases e
        obtain ⟨a, h1, rfl⟩ := r
        obtain ⟨ys, q1, q2⟩ := S.ob n _ a hn h1
        obtain ⟨b, zsw, rfl, q3, q4⟩ := listOf_ok S r2 hlw
        obtain ⟨e2w, S2⟩ := S.put (o := .lst (es ++ fs)) (ho := .lst (ys ++ zsw)) h1 ⟨_, upd_same, q2.append q4⟩
        exact mt_extendR pins s σ H _ _ v us Q Iw rxw rvw ⟨a, b, ys, zsw, rfl, rfl, q1, q3, by rw [← q2.len, ← q4.len]; exact hzw, k .non Z φ _ e2w S2 rfl⟩
      · cases hd
    · cases hd
  · cases hd
def mPop : Pr := fun st ds => match ds with
  | [.loc n] => match st[n]? with
    | some (.lst xs) => (xs[xs.length - 1]?).map fun d => (d, st.set n (.lst xs.dropLast))
    | _ => none
  | _ => none
theorem Reps.dropLast {K : PySem.W.Frag} {Z : Hp} {φ : List Addr} {ds : List D} {xs : List V} (r : Reps K Z φ ds xs) : Reps K Z φ ds.dropLast xs.dropLast := by
  rw [List.dropLast_eq_take, List.dropLast_eq_take, r.len]
  exact r.take _
theorem m_pop : MtR X "list.pop" fun x xs => rP X T mPop (x :: xs) := by
  intro pins s σ H x xs v us Q Iw rxw rvw h
  obtain ⟨Z, φ, st, ds, d, st', S, R, hd, k⟩ := h
  unfold mPop at hd
  split at hd
  · rename_i n
    split at hd
    · rename_i es hn
      cases hg : es[es.length - 1]? with
      | none =>
        rw [hg] at hd
        cases hd
      | some d1 =>
        rw [hg] at hd
        cases hd
        obtain ⟨y, e, r⟩ := reps1 R
        cases e
        obtain ⟨a, h1, rfl⟩ := r
        obtain ⟨ys, q1, q2⟩ := S.ob n _ a hn h1
        obtain ⟨v1, g1, g2⟩ := q2.get hg
        obtain ⟨e2w, S2⟩ := S.put (o := .lst es.dropLast) (ho := .lst ys.dropLast) h1 ⟨_, upd_same, q2.dropLast⟩
        exact mt_pop pins s σ H _ _ v us Q Iw rxw rvw ⟨a, ys, v1, rfl, rfl, q1, by rw [← q2.len]; exact g1, k v1 Z φ _ e2w S2 g2⟩
    · cases hd
  · cases hd
def mPopAt : Pr := fun st ds => match ds with
  | [.loc n, .int i] => match st[n]? with
    | some (.lst xs) => if -(2 ^ 63) ≤ i ∧ i < 2 ^ 63 then (seqIndex? i xs.length).bind fun j => (xs[j]?).map fun d => (d, st.set n (.lst (xs.eraseIdx j))) else none
    | _ => none
  | _ => none
theorem m_popAt : MtR X "list.pop" fun x xs => rP X T mPopAt (x :: xs) := by
  intro pins s σ H x xs v us Q Iw rxw rvw h
  obtain ⟨Z, φ, st, ds, d, st', S, R, hd, k⟩ := h
  unfold mPopAt at hd
  split at hd
  · rename_i n i
    split at hd
    · rename_i es hn
      split at hd
      · rename_i hi
        cases hj : seqIndex? i es.length with
        | none =>
          rw [hj] at hd
          cases hd
        | some j =>
          rw [hj] at hd
          replace hd : (es[j]?).map (fun d => (d, st.set n (O.lst (es.eraseIdx j)))) = some (d, st') := hd
          cases hg : es[j]? with
          | none =>
            rw [hg] at hd
            cases hd
          | some d1 =>
            rw [hg] at hd
            cases hd
            obtain ⟨y, y2, e, r, r2⟩ := reps2 R
            cases e
            obtain ⟨a, h1, rfl⟩ := r
            obtain ⟨ys, q1, q2⟩ := S.ob n _ a hn h1
            obtain ⟨v1, g1, g2⟩ := q2.get hg
            obtain ⟨e2w, S2⟩ := S.put (o := .lst (es.eraseIdx j)) (ho := .lst (ys.eraseIdx j)) h1 ⟨_, upd_same, q2.eraseIdx j⟩
            have r3 : y2 = .int i := r2
            exact mt_popAt pins s σ H _ _ v us Q Iw rxw rvw ⟨a, ys, i, j, v1, rfl, by rw [r3], q1, hi.1, hi.2, by rw [← q2.len]; exact hj, g1, k v1 Z φ _ e2w S2 g2⟩
      · cases hd
    · cases hd
  · cases hd
/-- the receiver is a list of the store, or a text -/
theorem ty_list {st : List O} {d : D} {Z : Hp} {φ : List Addr} {H : Hp} {v : V} (h : tyIs "list" st d = true) (S : Sim X.K T Z φ st H) (r : Rep X.K Z φ d v) : tyV X.K "list" v H := by
  have h' : tyD st d = "list" := of_decide_eq_true h
  cases d with
  | lst ds =>
    obtain ⟨a, xs, rfl, h1, h2⟩ := r
    exact .inl ⟨rfl, xs, .inl (rd_mono S.fz h1)⟩
  | scr ds =>
    obtain ⟨a, xs, rfl, h1, h2⟩ := r
    exact .inl ⟨rfl, xs, sqL_mono S.fz h1⟩
  | loc n =>
    obtain ⟨a, h1, rfl⟩ := r
    obtain ⟨o, g, q⟩ := S.atA h1
    unfold tyD at h'
    simp only [g] at h'
    cases o with
    | lst ds =>
      obtain ⟨xs, e1, e2w⟩ := q
      exact .inl ⟨rfl, xs, SqL.of e1⟩
    | dic kvs =>
      simp at h'
  | _ => simp [tyD] at h'
theorem ty_str {st : List O} {d : D} {Z : Hp} {φ : List Addr} {H : Hp} {v : V} (h : tyIs "str" st d = true) (S : Sim X.K T Z φ st H) (r : Rep X.K Z φ d v) : tyV X.K "str" v H := by
  have h' : tyD st d = "str" := of_decide_eq_true h
  cases d with
  | str z =>
    rw [show v = .str z from r]
    exact rfl
  | loc n =>
    exfalso
    unfold tyD at h'
    simp only at h'
    split at h' <;> simp at h'
  | _ => simp [tyD] at h'

/-! ### displays of dicts -/
def ePairs : List ((Env → List O → RR D) × (Env → List O → RR D)) → Env → List O → RR (List (Key × D))
  | [] => fun _ st => .ok [] st
  | (k, v) :: r => fun ρ st => (k ρ st).bind fun x s1 => (v ρ s1).bind fun y s2 => match dKey x with
    | some key => ((ePairs r ρ s2).bind fun ps s3 => .ok ((key, y) :: ps) s3)
    | none => .err
def mergeD (kvs more : List (Key × D)) : List (Key × D) := more.foldl (fun acc kv => putD acc kv.1 kv.2) kvs
def isEmp : Option O → Bool
  | some (.dic []) => true
  | _ => false
theorem isEmp_iff {o : Option O} (h : isEmp o = true) : o = some (.dic []) := by
  unfold isEmp at h
  split at h
  · rfl
  · cases h
def eDict (ps : List ((Env → List O → RR D) × (Env → List O → RR D))) : Env → List O → RR D := fun ρ st => (ePairs ps ρ (st ++ [.dic []])).bind fun kvs s1 =>
  if kvs.length ≤ 15 ∧ isEmp s1[st.length]? = true then .ok (.loc st.length) (s1.set st.length (.dic (mergeD [] kvs))) else .err
inductive TPs (X : Cx) (T : List (Addr × Str)) (W : WX) (pos : Pos) : List (Option Expr) → List Expr → List ((Env → List O → RR D) × (Env → List O → RR D)) → Prop where
  | nil : TPs X T W pos [] [] []
  | cons {k v : Expr} {ks : List (Option Expr)} {vs : List Expr} {f g : Env → List O → RR D} {r : List ((Env → List O → RR D) × (Env → List O → RR D))} (hk : PE X k (tE X T W f)) (hv : PE X v (tE X T W g)) (t : TPs X T W pos ks vs r) : TPs X T W pos (some k :: ks) (v :: vs) ((f, g) :: r)
theorem TPs.pps {pos : Pos} {ks : List (Option Expr)} {vs : List Expr} {r : List ((Env → List O → RR D) × (Env → List O → RR D))} (h : TPs X T W pos ks vs r) : PPs X pos ks vs (r.map fun p => (tE X T W p.1, tE X T W p.2)) := by
  induction h with
  | nil => exact pps_nil
  | cons hk hv t ih => exact pps_cons hk hv ih
def repKV (X : Cx) : Hp → Hp → List Addr → Hp → List (Key × D) → List (V × V) → Prop := fun _ Z φ _ ds vs => ∃ ws, RepKV X.K Z φ ds ws ∧ vs = ws.map fun kv => (kV kv.1, kv.2)
instance {X : Cx} : RM (repKV X) := ⟨fun _ h => h⟩
theorem pairs_reads : ∀ (r : List ((Env → List O → RR D) × (Env → List O → RR D))) {σ : L2.St} {H : Hp} {Q : List (V × V) → Hp → Prop}, tG X T W (repKV X) (ePairs r) σ H Q → tPairs (r.map fun p => (tE X T W p.1, tE X T W p.2)) σ H Q
  | [], σ, H, Q, q => by
    obtain ⟨Z, φ, st, ρ, S, E, w⟩ := q
    exact w.ok S ⟨[], RepKV.nil, rfl⟩
  | (k, v) :: r, σ, H, Q, q => by
    obtain ⟨Z, φ, st, ρ, S, E, w⟩ := q
    refine ⟨Z, φ, st, ρ, S, E, w.first fun x Z1 φ1 H1 dx s1 e1 S1 R1 w1 => ?_⟩
    refine ⟨Z1, φ1, s1, ρ, S1, E.mono e1.e0, w1.first fun y Z2 φ2 H2 dy s2 e2w S2 R2 w2 => ?_⟩
    cases hk : dKey dx with
    | none =>
      rw [hk] at w2
      exact w2.elim
    | some key =>
      rw [hk] at w2
      refine pairs_reads r ⟨Z2, φ2, s2, ρ, S2, E.mono (e1.trans e2w).e0, w2.first fun vs Z3 φ3 H3 ds s3 e3 S3 R3 w3 => ?_⟩
      obtain ⟨ws, r1, rfl⟩ := R3
      refine w3.ok S3 ⟨(key, y) :: ws, RepKV.cons (Rep.mono e3.e0 _ _ R2) r1, ?_⟩
      rw [List.map_cons, dKey_ok (Rep.mono e2w.e0 _ _ R1) hk]
theorem RepKV.merge {K : PySem.W.Frag} {Z : Hp} {φ : List Addr} : ∀ {more : List (Key × D)} {rs : List (Key × V)} {kvs : List (Key × D)} {ws : List (Key × V)}, RepKV K Z φ more rs → RepKV K Z φ kvs ws → RepKV K Z φ (mergeD kvs more) (mergeK ws rs)
  | [], rs, kvs, ws, h, g => by
    have : rs = [] := List.eq_nil_of_length_eq_zero (by rw [← h.len]; rfl)
    subst this
    exact g
  | p :: more, rs, kvs, ws, h, g => by
    obtain ⟨v, r, rfl, h2, h3⟩ := h.cases
    exact RepKV.merge (more := more) (rs := r) (kvs := putD kvs p.1 p.2) (ws := putK ws p.1 v) h3 (g.put h2)
theorem x_dict {keys : List (Option Expr)} {values : List Expr} {pos : Pos} {r : List ((Env → List O → RR D) × (Env → List O → RR D))} (h : TPs X T W pos keys values r) (hall : keys.all (·.isSome) = true) (hlw : keys.length = values.length) (h0 : keys ≠ []) (h15 : keys.length ≤ 15) : PE X (.Dict keys values pos) (tE X T W (eDict r)) := by
  refine pe_imp (pe_disp h.pps hall hlw h0 h15) fun σ H Q q => ?_
  obtain ⟨Z, φ, st, ρ, S, E, w⟩ := q
  intro p hp
  have hn : p ∉ φ := fun z => by
    obtain ⟨u, hu⟩ := S.mem z
    rw [hp] at hu
    cases hu
  have hzw : Z p = none := by
    cases q : Z p with
    | none => rfl
    | some u =>
      rw [S.fz p u q] at hp
      cases hp
  obtain ⟨e1, S1⟩ := Sim.alloc (Ext.same (same_upd hp)) (S.same (same_upd hp)) (o := .dic []) (.of hp) hn hzw ⟨[], upd_same, rfl, Reps.nil⟩
  refine pairs_reads r ⟨Z, φ ++ [p], st ++ [.dic []], ρ, S1, E.mono e1.e0, (WpG.ext e1 (show WpG X T W σ (repE X) Z φ H (eDict r ρ st) Q from w)).first fun vs Z2 φ2 H2 ds s2 e2w S2 R2 w2 => ?_⟩
  obtain ⟨ws, r1, rfl⟩ := R2
  split at w2
  · rename_i hc
    have hpn : φ2[st.length]? = some p := e2w.e0.get (by rw [← S.ln]; simp)
    obtain ⟨vs0, q1, q2, q3⟩ := S2.ob _ _ p (isEmp_iff hc.2) hpn
    have hv0 : vs0 = [] := by simpa using q2.symm
    subst hv0
    refine ⟨q1, ws, rfl, by rw [← r1.len]; exact hc.1, ?_⟩
    have M := RepKV.merge r1 (RepKV.nil (K := X.K) (Z := Z2) (φ := φ2))
    obtain ⟨e3, S3⟩ := S2.put (o := .dic (mergeD [] ds)) (ho := .dK (mergeK [] ws)) hpn ⟨_, upd_same, M.1, M.2⟩
    exact w2 (.ref p) Z2 φ2 _ e3 S3 ⟨p, hpn, rfl⟩
  · exact w2.elim
def eDict0 : Env → List O → RR D := fun _ st => .ok (.loc st.length) (st ++ [.dic []])
theorem x_dict0 {pos : Pos} : PE X (.Dict [] [] pos) (tE X T W eDict0) := by
  refine pe_imp pe_dnewK fun σ H Q q => ?_
  obtain ⟨Z, φ, st, ρ, S, E, w⟩ := q
  intro p hp
  have hn : p ∉ φ := fun z => by
    obtain ⟨u, hu⟩ := S.mem z
    rw [hp] at hu
    cases hu
  have hzw : Z p = none := by
    cases q : Z p with
    | none => rfl
    | some u =>
      rw [S.fz p u q] at hp
      cases hp
  obtain ⟨e1, S1⟩ := Sim.alloc (Ext.same (same_upd hp)) (S.same (same_upd hp)) (o := .dic []) (.of hp) hn hzw ⟨[], upd_same, rfl, Reps.nil⟩
  exact w (.ref p) Z _ _ e1 S1 ⟨p, by rw [← S.ln]; simp, rfl⟩
end
end Tl
/-! TCall: comprehensions as values, and/or of one, calls with keywords. -/
namespace Tl
open PySem L2 PySem.Spec PyProof.Rows
section
variable {X : Cx} {T : List (Addr × Str)} {W : WX}
theorem x_one {op : BoolOp} {a : Expr} {pos : Pos} {f : Env → List O → RR D} (h : PE X a (tE X T W f)) : PE X (.BoolOp op [a] pos) (tE X T W f) := pe_one h
theorem x_tand1 {a : Expr} {pos : Pos} {f : Env → List O → RR Bool} (h : PT X a (tB X T W f)) : PW X (.BoolOp .And [a] pos) (tB X T W f) := pw_and1 h
theorem x_tor1 {a : Expr} {pos : Pos} {f : Env → List O → RR Bool} (h : PT X a (tB X T W f)) : PW X (.BoolOp .Or [a] pos) (tB X T W f) := pw_or1 h
theorem x_tone {c : Expr} {f : Env → List O → RR Bool} (h : PT X c (tB X T W f)) : PTs X [c] (tB X T W f) := pts_one h
/-- a comprehension -/
theorem x_lc {elt tg iter : Expr} {ifs : List Expr} {scope : Scope} {own : List (Str × Nat)} {pos : Pos} {src : Env → List O → RR Src} {t : GT} {tests : Env → List O → RR Bool} {el : Env → List O → RR D} (hc : X.calm = true) (hN : X.N.Nodup) (hi : PI X tg iter (tI X T W src)) (ok : BlkOk X.N X.env.scope scope own)
    (hgw : ∀ (s : Shared) (H : Hp) (C : Addr) (cl : List (Str × Addr)) (fp : List Addr), PG (X.blk s H scope (compEnvC scope cl C X.env) fp) tg (tT X T t)) (ht : ∀ (s : Shared) (H : Hp) (C : Addr) (cl : List (Str × Addr)) (fp : List Addr), PTs (X.blk s H scope (compEnvC scope cl C X.env) fp) ifs (tB X T W0 tests))
    (he : ∀ (s : Shared) (H : Hp) (C : Addr) (cl : List (Str × Addr)) (fp : List Addr), PE (X.blk s H scope (compEnvC scope cl C X.env) fp) elt (tE X T W0 el)) (hs : ∀ x, foldedSetIterable iter X.env x = pure x) (hown : ∀ i ∈ t.slots, i ∈ own.map (·.2)) :
    PE X (.ListComp elt [⟨tg, iter, ifs, 0⟩] scope pos) (tF X T W (eComp src t tests el (own.map (·.2)))) :=
  pe_imp (pe_lc hc hN hi ok hgw ht he hs) fun σ H Q q => comp_reads hown q
theorem takes0 {s : Shared} {H : Hp} {scope : Scope} {env : PySem.Env} {fp : List Addr} : Takes (X.blk s H scope env fp) W0 := fun u s' x => by
  obtain ⟨_, _, _, _, _, _, _, _, _, _, _, _, _, _, _, _, w⟩ := x
  exact w.elim
/-- the promise of a call, from a def's -/
theorem call_reads {f : List D → List O → RR D} {n : Nat} {g : Env → List O → RR (List D)} {σ : L2.St} {H : Hp} {Q : VK} (q : tE X T W (eCall f n g) σ H Q) : tA X T W g σ H fun vs H1 => spC X.K X.mg T n f vs H1 Q (WE W σ) := by
  obtain ⟨Z, φ, st, ρ, S, E, w⟩ := q
  refine ⟨Z, φ, st, ρ, S, E, w.first fun vs Z1 φ1 H1 ds s1 e1 S1 R1 w1 => ?_⟩
  by_cases hl : ds.length = n
  · rw [if_pos hl] at w1
    refine ⟨Z1, φ1, s1, ds, S1, R1, hl, ?_⟩
    cases hf : f ds s1 with
    | ok d s2 =>
      rw [hf] at w1
      exact w1
    | exc c s2 =>
      rw [hf] at w1
      exact w1
    | err =>
      rw [hf] at w1
      exact w1.elim
  · rw [if_neg hl] at w1
    exact w1.elim
/-- a call with keywords -/
structure PKT (X : Cx) (kws : List Keyword) (t : TA) : Prop where
  run : PK X kws t
theorem pk_imp {kws : List Keyword} {t u : TA} (h : PK X kws t) (i : ∀ σ H Q, u σ H Q → t σ H Q) : PK X kws u := ⟨fun pos pins s σ H Q Iw q => h.run pos pins s σ H Q Iw (i _ _ _ q)⟩
theorem x_knil : PK X [] (tA X T W eNil) := pk_imp pk_nil fun σ H Q q => by
  obtain ⟨Z, φ, st, ρ, S, E, w⟩ := q
  exact w.ok S Reps.nil
theorem x_kcons {nm : Option Str} {kpos : Pos} {e : Expr} {kws : List Keyword} {f : Env → List O → RR D} {g : Env → List O → RR (List D)} (ha : PE X e (tE X T W f)) (hb : PK X kws (tA X T W g)) : PK X (⟨nm, e, kpos⟩ :: kws) (tA X T W (eCons f g)) := by
  refine pk_imp (pk_cons ha hb) fun σ H Q q => ?_
  obtain ⟨Z, φ, st, ρ, S, E, w⟩ := q
  refine ⟨Z, φ, st, ρ, S, E, w.first fun x Z1 φ1 H1 dx s1 e1 S1 R1 w1 => ?_⟩
  refine ⟨Z1, φ1, s1, ρ, S1, E.mono e1.e0, w1.first fun y Z2 φ2 H2 dy s2 e2 S2 R2 w2 => ?_⟩
  exact w2.ok S2 (Reps.cons (Rep.mono e2.e0 _ _ R1) R2)
def pick {α : Type} (perm : List Nat) (ws : List α) : List α := perm.filterMap (ws[·]?)
/-- all by keywords: the i-th parameter is the perm[i]-th keyword -/
def KB (K : PySem.W.Frag) (fd : FuncData) (ps ks : List Str) (perm : List Nat) : Prop := ∀ (s : Shared) (ws : List Value), K.In s.heap → ws.length = ks.length → BindsTo s fd ⟨[], ks.zip ws⟩ (ps.zip (pick perm ws))
theorem pick_rel {α β : Type} {r : α → β → Prop} : ∀ {perm : List Nat} {vs : List α} {us : List β}, Paired r vs us → Paired r (pick perm vs) (pick perm us)
  | [], vs, us, _ => .nil
  | i :: perm, vs, us, h => by
    have ih := pick_rel (perm := perm) h
    unfold pick at ih ⊢
    rw [List.filterMap_cons, List.filterMap_cons]
    have get : ∀ {vs : List α} {us : List β} (i : Nat), Paired r vs us → (vs[i]? = none ∧ us[i]? = none) ∨ ∃ a b, vs[i]? = some a ∧ us[i]? = some b ∧ r a b := by
      intro vs us i h
      induction h generalizing i with
      | nil => exact .inl ⟨by simp, by simp⟩
      | cons a t ih =>
        cases i with
        | zero => exact .inr ⟨_, _, by simp, by simp, a⟩
        | succ i => simpa using ih i
    rcases get i h with ⟨a, b⟩ | ⟨a, b, h1, h2, h3⟩
    · rw [a, b]
      exact ih
    · rw [h1, h2]
      exact .cons h3 ih
theorem pick_reps {K : PySem.W.Frag} {Z : Hp} {φ : List Addr} : ∀ {perm : List Nat} {ds : List D} {vs : List V}, Reps K Z φ ds vs → Reps K Z φ (pick perm ds) (pick perm vs)
  | [], ds, vs, h => rfl
  | i :: perm, ds, vs, h => by
    have ih := pick_reps (perm := perm) h
    unfold pick at ih ⊢
    rw [List.filterMap_cons, List.filterMap_cons]
    cases hd : ds[i]? with
    | none =>
      have : vs[i]? = none := by
        rw [List.getElem?_eq_none_iff] at hd ⊢
        rw [← h.len]
        exact hd
      rw [this]
      exact ih
    | some d =>
      obtain ⟨v, h1, h2⟩ := h.get hd
      rw [h1]
      exact Reps.cons h2 ih
def eCallK (f : List D → List O → RR D) (n m : Nat) (perm : List Nat) (g : Env → List O → RR (List D)) : Env → List O → RR D := fun ρ st => (g ρ st).bind fun ds s1 => if ds.length = m ∧ (pick perm ds).length = n then f (pick perm ds) s1 else .err
theorem x_callK {f : List D → List O → RR D} {x : Str} {p pos : Pos} {kws : List Keyword} {k : Nat} {fa : Addr} {fd : FuncData} {ps ks : List Str} {perm : List Nat} {g : Env → List O → RR (List D)} (F : FnOk X.prog X.w X.K X.mg X.base (L2.CX X.prog X.w) k fa fd ps (spC X.K X.mg T ps.length f)) (hr : Room k X.A) (hgw : Gl X x) (hmw : X.mg x = some (.ref fa)) (hk : PySem.W.keepIn X.K (.ref fa) = true) (hb : KB X.K fd ps ks perm) (tk : Takes X W)
    (ha : PK X kws (tA X T W g)) (hall : (backToKw pos (keywordEach kws X.env)).all (·.1.isSome) = true) (hks : (backToKw pos (keywordEach kws X.env)).filterMap (·.1) = ks) (hdb : (x == ("__debug__" : Str)) = false)
    (hpl : ((backTo pos (starEach [] X.env)).any (·.1) || (backToKw pos (keywordEach kws X.env)).any (·.1.isNone)) = false) :
    PE X (.Call (.Name x p) [] kws pos) (tE X T W (eCallK f ps.length ks.length perm g)) := by
  refine ⟨fun pins s σ H Q Iw q => ?_⟩
  refine wpAny_Call_Name_kw (ld_glob Iw hgw hmw ?_ hdb)
  refine PySem.W.callWith_KW0 (h₀ := X.base) Iw.ok.mod.kin hk hall ?_ hpl
  obtain ⟨Z, φ, st, ρ, S, E, w⟩ := q
  refine thn (ha.run pos pins s σ H (fun vs H1 => vs.length = ks.length ∧ spC X.K X.mg T ps.length f (pick perm vs) H1 Q (WE W σ)) Iw ?_) fun ws s2 ⟨zs, H2, I2, rz, q2⟩ => ⟨I2.kIn, ?_⟩
  · refine ⟨Z, φ, st, ρ, S, E, w.first fun vs Z1 φ1 H1 ds s1 e1 S1 R1 w1 => ?_⟩
    split at w1
    · rename_i hl
      refine ⟨by rw [← R1.len]; exact hl.1, Z1, φ1, s1, _, S1, pick_reps R1, hl.2, ?_⟩
      cases hf : f (pick perm ds) s1 with
      | ok d s2 =>
        rw [hf] at w1
        exact w1
      | exc c s2 =>
        rw [hf] at w1
        exact w1
      | err =>
        rw [hf] at w1
        exact w1.elim
    · exact w1.elim
  · obtain ⟨hz, q2⟩ := q2
    rw [hks]
    have hw : ws.length = ks.length := by rw [← rz.length]; exact hz
    refine wpAny_call (codeAny_mono (F.run X.A X.stack s2 H2 ⟨[], ks.zip ws⟩ (pick perm ws) (pick perm zs) Q (WE W σ) hr I2.env0 (hb s2 ws I2.kIn hw) (pick_rel rz) q2) fun r s' hq => ?_)
    cases r with
    | error e => exact passAt tk σ pins H2 s2 e s' I2 hq
    | ok fl =>
      cases fl with
      | ret u => exact I2.after hq
      | next => exact False.elim hq
      | brk => exact False.elim hq
      | cont => exact False.elim hq
end
end Tl
/-! TGen: the rules in short, the side conditions by the kernel. -/
namespace Tl
open PySem L2
structure In (X : Cx) (W : WX) (k : Nat) : Prop where
  nd : X.N.Nodup
  calm : X.calm = true
  tk : Takes X W
  room : Room k X.A
section
variable {X : Cx} {T : List (Addr × Str)} {W : WX} {k : Nat}
theorem In.blk (I : In X W k) {s : Shared} {H : Hp} {scope : Scope} {env : PySem.Env} {fp : List Addr} : In (X.blk s H scope env fp) W0 k := ⟨I.nd, I.calm, takes0, I.room⟩
theorem In.u (I : In X W k) : X.A.units + 64 < cLine := by
  have := I.room.un
  omega
theorem In.u1 (I : In X W k) : X.A.units + 1 < cLine := by
  have := I.room.un
  omega
theorem y_l (i : Nat) {x : Str} {pos : Pos} (hN : X.N[i]? = some x := by kernel_rfl) (hv : X.env.scope.names.lookup x = some .local := by kernel_rfl) (hd : (x == ("__debug__" : Str)) = false := by kernel_rfl) (hcd : (x == ("__classdict__" : Str)) = false := by kernel_rfl) : PE X (.Name x pos) (tE X T W (eVar i)) := x_var hN (.inl hv) hd hcd
theorem y_c (i : Nat) {x : Str} {pos : Pos} (hN : X.N[i]? = some x := by kernel_rfl) (hv : X.env.scope.names.lookup x = some .cell := by kernel_rfl) (hd : (x == ("__debug__" : Str)) = false := by kernel_rfl) (hcd : (x == ("__classdict__" : Str)) = false := by kernel_rfl) : PE X (.Name x pos) (tE X T W (eVar i)) := x_var hN (.inr (.inl hv)) hd hcd
theorem y_f (i : Nat) {x : Str} {pos : Pos} (hN : X.N[i]? = some x := by kernel_rfl) (hv : X.env.scope.names.lookup x = some .free := by kernel_rfl) (hd : (x == ("__debug__" : Str)) = false := by kernel_rfl) (hcd : (x == ("__classdict__" : Str)) = false := by kernel_rfl) : PE X (.Name x pos) (tE X T W (eVar i)) := x_var hN (.inr (.inr hv)) hd hcd
/-- a constant of the module -/
def GC (K : PySem.W.Frag) (mg : Str → Option Value) (x : Str) (d : D) : Prop := ∃ v u, mg x = some u ∧ RelV v u ∧ ∀ Z φ, Rep K Z φ d v
theorem y_g {x : Str} {pos : Pos} {d : D} (h : GC X.K X.mg x d) (hg : X.env.kindOf x = some .globalImplicit := by kernel_rfl) (hd : (x == ("__debug__" : Str)) = false := by kernel_rfl) : PE X (.Name x pos) (tE X T W (eC d)) := by
  obtain ⟨v, u, h1, h2, h3⟩ := h
  exact x_const (pe_glob hg h1 h2 hd) h3
theorem y_int {i : Int} {j pos} : PE X (.Constant (.int i) j pos) (tE X T W (eC (.int i))) := x_const pe_int fun _ _ => rfl
theorem y_str {i : Str} {j pos} : PE X (.Constant (.str i) j pos) (tE X T W (eC (.str i))) := x_const pe_str fun _ _ => rfl
theorem y_bl {b : Bool} {j pos} : PE X (.Constant (.bool b) j pos) (tE X T W (eC (.bl b))) := x_const pe_bl fun _ _ => rfl
theorem y_non {j pos} : PE X (.Constant .none j pos) (tE X T W (eC .non)) := x_const pe_non fun _ _ => rfl
theorem y_neg {i : Int} {j p pos} : PE X (.UnaryOp .USub (.Constant (.int i) j p) pos) (tE X T W (eC (.int (-i)))) := by
  refine pe_imp (pe_un un_neg pe_int) fun σ H Q q => ?_
  obtain ⟨Z, φ, st, ρ, S, E, w⟩ := q
  exact ⟨i, rfl, w.ok S rfl⟩
theorem y_cons {e : Expr} {esw : List Expr} {f : Env → List O → RR D} {g : Env → List O → RR (List D)} (ha : PE X e (tE X T W f)) (hb : PA X esw (tA X T W g)) (hs : starEach (e :: esw) X.env = (false, eval e X.env) :: starEach esw X.env := by kernel_rfl) : PA X (e :: esw) (tA X T W (eCons f g)) := x_cons ha hb hs
theorem y_cmp {op : CmpOp} {a b : Expr} {pos : Pos} {f g : Env → List O → RR D} {h : Pr} (ho : OpR X (compareOp op) fun x y => rP X T h [x, y]) (ha : PE X a (tE X T W f)) (hb : PE X b (tE X T W g)) (hm : behindInMarks op b = false := by kernel_rfl) : PE X (.Compare a [op] [b] pos) (tE X T W (eBin h f g)) := x_cmp ho ha hb hm
theorem y_tcmp {op : CmpOp} {a b : Expr} {pos : Pos} {f g : Env → List O → RR D} {h : Pr} (ho : OpR X (compareOp op) fun x y => rP X T h [x, y]) (ha : PE X a (tE X T W f)) (hb : PE X b (tE X T W g)) (hm : behindInMarks op b = false := by kernel_rfl) : PT X (.Compare a [op] [b] pos) (tB X T W (eIs (eBin h f g))) := x_tcmp ho ha hb hm
theorem y_ch {op op' : CmpOp} {a b c : Expr} {pos : Pos} {f g k : Env → List O → RR D} {h h' : Pr} (ho : OpR X (compareOp op) fun x y => rP X T h [x, y]) (ho' : OpR X (compareOp op') fun x y => rP X T h' [x, y]) (ha : PE X a (tE X T W f)) (hb : PE X b (tE X T W g)) (hc : PE X c (tE X T W k))
    (hm : lastMarks [op, op'] [b, c] = false := by kernel_rfl) : PE X (.Compare a [op, op'] [b, c] pos) (tE X T W (eCh h h' f g k)) := x_ch ho ho' ha hb hc hm
theorem y_tch {op op' : CmpOp} {a b c : Expr} {pos : Pos} {f g k : Env → List O → RR D} {h h' : Pr} (ho : OpR X (compareOp op) fun x y => rP X T h [x, y]) (ho' : OpR X (compareOp op') fun x y => rP X T h' [x, y]) (ha : PE X a (tE X T W f)) (hb : PE X b (tE X T W g)) (hc : PE X c (tE X T W k))
    (hm : lastMarks [op, op'] [b, c] = false := by kernel_rfl) : PT X (.Compare a [op, op'] [b, c] pos) (tB X T W (eIs (eCh h h' f g k))) := x_tch ho ho' ha hb hc hm
theorem y_tru {a : Expr} {f : Env → List O → RR D} (ha : PE X a (tE X T W f)) (he : ∀ whole, isTrue a X.env whole = (do let v ← whole; standAt a.pos; holding [v] (truthy v)) := by intro _; kernel_rfl) : PT X a (tB X T W (eTru f)) := x_tru ha he
theorem y_and {a b : Expr} {rest : List Expr} {pos : Pos} {f g : Env → List O → RR Bool} (ha : PT X a (tB X T W f)) (hb : PW X (.BoolOp .And (b :: rest) pos) (tB X T W g)) : PW X (.BoolOp .And (a :: b :: rest) pos) (tB X T W (eAndT f g)) := x_tand ha hb
theorem y_sub {a b : Expr} {pos : Pos} {f g : Env → List O → RR D} (I : In X W k) (ha : PE X a (tE X T W f)) (hb : PE X b (tE X T W g)) (hs : PlainIx b := by intro _ _; kernel_rfl) : PE X (.Subscript a b pos) (tE X T W (eBin (pr2 dIx) f g)) := x_sub I.u1 ha hb hs
theorem y_sl {e : Expr} {lo hi : Option Expr} {pos p2 : Pos} {f : Env → List O → RR D} {l u : Env → List O → RR (Option Int)} (he : PE X e (tE X T W f)) (hl : PO X lo (tO X T W l)) (hu : PO X hi (tO X T W u)) : PE X (.Subscript e (.Slice lo hi none p2) pos) (tE X T W (eSl dSl f l u)) := x_slice s_sl he hl hu
theorem y_cb {x : Str} {p pos : Pos} {e : Expr} {esw : List Expr} {f : Env → List O → RR (List D)} {h : Pr} {id : String} (hc : CallR X (.builtin id) (rP X T h)) (hm : X.mg x = none) (hv : bootBuiltins x = some (.builtin id)) (ha : PA X (e :: esw) (tA X T W f)) (hg : X.env.kindOf x = some .globalImplicit := by kernel_rfl) (hn : x ≠ "__name__" := by decide) (hdb : (x == ("__debug__" : Str)) = false := by kernel_rfl)
    (he : starEach (e :: esw) X.env = (false, eval e X.env) :: starEach esw X.env := by kernel_rfl) (hpl : (backTo pos (starEach esw X.env)).any (·.1) = false := by kernel_rfl) : PE X (.Call (.Name x p) (e :: esw) [] pos) (tE X T W (ePr h f)) := x_callB hc hg hm hv ha hn hdb he hpl
theorem y_ct {x : Str} {p pos : Pos} {e : Expr} {esw : List Expr} {f : Env → List O → RR (List D)} {h : Pr} {id : String} (hc : CallR X (.type id) (rP X T h)) (hm : X.mg x = none) (hv : bootBuiltins x = some (.type id)) (ha : PA X (e :: esw) (tA X T W f)) (hg : X.env.kindOf x = some .globalImplicit := by kernel_rfl) (hn : x ≠ "__name__" := by decide) (hdb : (x == ("__debug__" : Str)) = false := by kernel_rfl)
    (he : starEach (e :: esw) X.env = (false, eval e X.env) :: starEach esw X.env := by kernel_rfl) (hpl : (backTo pos (starEach esw X.env)).any (·.1) = false := by kernel_rfl) : PE X (.Call (.Name x p) (e :: esw) [] pos) (tE X T W (ePr h f)) := x_callTy hc hg hm hv ha hn hdb he hpl
theorem y_ctL {x : Str} {p pos : Pos} {e : Expr} {esw : List Expr} {f : Env → List O → RR (List D)} {h : PrL} {id : String} (hc : CallR X (.type id) (rPL X T h)) (hm : X.mg x = none) (hv : bootBuiltins x = some (.type id)) (ha : PA X (e :: esw) (tA X T W f)) (hg : X.env.kindOf x = some .globalImplicit := by kernel_rfl) (hn : x ≠ "__name__" := by decide) (hdb : (x == ("__debug__" : Str)) = false := by kernel_rfl)
    (he : starEach (e :: esw) X.env = (false, eval e X.env) :: starEach esw X.env := by kernel_rfl) (hpl : (backTo pos (starEach esw X.env)).any (·.1) = false := by kernel_rfl) : PE X (.Call (.Name x p) (e :: esw) [] pos) (tF X T W (ePL h f)) := x_callTyL hc hg hm hv ha hn hdb he hpl
theorem y_cbL {x : Str} {p pos : Pos} {e : Expr} {esw : List Expr} {f : Env → List O → RR (List D)} {h : PrL} {id : String} (hc : CallR X (.builtin id) (rPL X T h)) (hm : X.mg x = none) (hv : bootBuiltins x = some (.builtin id)) (ha : PA X (e :: esw) (tA X T W f)) (hg : X.env.kindOf x = some .globalImplicit := by kernel_rfl) (hn : x ≠ "__name__" := by decide) (hdb : (x == ("__debug__" : Str)) = false := by kernel_rfl)
    (he : starEach (e :: esw) X.env = (false, eval e X.env) :: starEach esw X.env := by kernel_rfl) (hpl : (backTo pos (starEach esw X.env)).any (·.1) = false := by kernel_rfl) : PE X (.Call (.Name x p) (e :: esw) [] pos) (tF X T W (ePL h f)) := x_callBL hc hg hm hv ha hn hdb he hpl
theorem y_isi {e : Expr} {f : Env → List O → RR D} {x : Str} {t : String} {p p2 pos : Pos} (hm : X.mg "isinstance" = none) (hm2 : X.mg x = none) (hv : bootBuiltins x = some (.type t)) (ha : PE X e (tE X T W f)) (hg : X.env.kindOf "isinstance" = some .globalImplicit := by kernel_rfl) (hg2 : X.env.kindOf x = some .globalImplicit := by kernel_rfl) (hn : x ≠ "__name__" := by decide) (hdb : (x == ("__debug__" : Str)) = false := by kernel_rfl)
    (hs : starEach [.Name x p2] X.env = [(false, eval (.Name x p2) X.env)] := by kernel_rfl) (he : starEach [e, .Name x p2] X.env = (false, eval e X.env) :: starEach [.Name x p2] X.env := by kernel_rfl) (hpl : (backTo pos (starEach [.Name x p2] X.env)).any (·.1) = false := by kernel_rfl) :
    PE X (.Call (.Name "isinstance" p) [e, .Name x p2] [] pos) (tE X T W (eIsi t f)) := x_isi hg hm hg2 hm2 hv ha hn hdb hs he hpl
theorem y_call {f : List D → List O → RR D} {x : Str} {p pos : Pos} {e : Expr} {esw : List Expr} {fa : Addr} {fd : FuncData} {ps : List Str} {g : Env → List O → RR (List D)} (I : In X W k) (F : FnOk X.prog X.w X.K X.mg X.base (L2.CX X.prog X.w) k fa fd ps (spC X.K X.mg T ps.length f)) (hm : X.mg x = some (.ref fa)) (hk : PySem.W.keepIn X.K (.ref fa) = true) (hb : Binds X.K fd ps [])
    (ha : PA X (e :: esw) (tA X T W g)) (hg : X.env.kindOf x = some .globalImplicit := by kernel_rfl) (hdb : (x == ("__debug__" : Str)) = false := by kernel_rfl) (he : starEach (e :: esw) X.env = (false, eval e X.env) :: starEach esw X.env := by kernel_rfl) (hpl : (backTo pos (starEach esw X.env)).any (·.1) = false := by kernel_rfl) :
    PE X (.Call (.Name x p) (e :: esw) [] pos) (tE X T W (eCall f ps.length g)) := x_call F I.room hg hm hk hb I.tk ha hdb he hpl
theorem y_callK {f : List D → List O → RR D} {x : Str} {p pos : Pos} {kws : List Keyword} {fa : Addr} {fd : FuncData} {ps ks : List Str} {perm : List Nat} {g : Env → List O → RR (List D)} (I : In X W k) (F : FnOk X.prog X.w X.K X.mg X.base (L2.CX X.prog X.w) k fa fd ps (spC X.K X.mg T ps.length f)) (hm : X.mg x = some (.ref fa)) (hk : PySem.W.keepIn X.K (.ref fa) = true) (hb : KB X.K fd ps ks perm)
    (ha : PK X kws (tA X T W g)) (hg : X.env.kindOf x = some .globalImplicit := by kernel_rfl) (hall : (backToKw pos (keywordEach kws X.env)).all (·.1.isSome) = true := by kernel_rfl) (hks : (backToKw pos (keywordEach kws X.env)).filterMap (·.1) = ks := by kernel_rfl) (hdb : (x == ("__debug__" : Str)) = false := by kernel_rfl)
    (hpl : ((backTo pos (starEach [] X.env)).any (·.1) || (backToKw pos (keywordEach kws X.env)).any (·.1.isNone)) = false := by kernel_rfl) :
    PE X (.Call (.Name x p) [] kws pos) (tE X T W (eCallK f ps.length ks.length perm g)) := x_callK F I.room hg hm hk hb I.tk ha hall hks hdb hpl
def eMt (t : String) (h : Pr) (f : Env → List O → RR D) (g : Env → List O → RR (List D)) : Env → List O → RR D := fun ρ st => (f ρ st).bind fun x s1 => if tyIs t s1 x = true then (g ρ s1).bind fun xs s2 => liftP (h s2 (x :: xs)) else .err
def eMt0 (t : String) (h : Pr) (f : Env → List O → RR D) : Env → List O → RR D := fun ρ st => (f ρ st).bind fun x s1 => if tyIs t s1 x = true then liftP (h s1 [x]) else .err
theorem y_mL {o e : Expr} {esw : List Expr} {name : Str} {apos cpos : Pos} {id : String} {f : Env → List O → RR D} {g : Env → List O → RR (List D)} {h : Pr} (slot : Slot "list" name id) (hty : typeOf (.builtin id) = pure (.type "method_descriptor")) (hm : MtR X id fun x xs => rP X T h (x :: xs)) (ho : PE X o (tE X T W f)) (ha : PA X (e :: esw) (tA X T W g))
    (hbase : attributeBase o name X.env (eval o X.env) = eval o X.env := by kernel_rfl)
    (hfeww : ((backTo cpos (starEach (e :: esw) X.env)).all (fun x => !x.1) && (backToKw cpos (keywordEach [] X.env)).all (fun x => x.1.isSome)
      && decide ((e :: esw).length + ([] : List Keyword).length + (if ([] : List Keyword).isEmpty then 0 else 1) < 30)) = true := by kernel_rfl)
    (hline : (apos.endLine == cpos.line) = true := by kernel_rfl) (hs : starEach (e :: esw) X.env = (false, eval e X.env) :: starEach esw X.env := by kernel_rfl) (hplain : (backTo cpos (starEach esw X.env)).any (·.1) = false := by kernel_rfl) :
    PE X (.Call (.Attribute o name apos) (e :: esw) [] cpos) (tE X T W (eMt "list" h f g)) := x_bm (tyIs "list") PySem.F.plainAttrs_list slot hty hm (fun _ _ _ _ _ _ h S r => ty_list h S r) ho ha hbase hfeww hline hs hplain
theorem y_mL0 {o : Expr} {name : Str} {apos cpos : Pos} {id : String} {f : Env → List O → RR D} {h : Pr} (slot : Slot "list" name id) (hty : typeOf (.builtin id) = pure (.type "method_descriptor")) (hm : MtR X id fun x xs => rP X T h (x :: xs)) (ho : PE X o (tE X T W f))
    (hbase : attributeBase o name X.env (eval o X.env) = eval o X.env := by kernel_rfl) (hline : (apos.endLine == cpos.line) = true := by kernel_rfl) :
    PE X (.Call (.Attribute o name apos) [] [] cpos) (tE X T W (eMt0 "list" h f)) := x_bm0 (tyIs "list") PySem.F.plainAttrs_list slot hty hm (fun _ _ _ _ _ _ h S r => ty_list h S r) ho hbase hline
theorem y_mS0 {o : Expr} {name : Str} {apos cpos : Pos} {id : String} {f : Env → List O → RR D} {h : Pr} (slot : Slot "str" name id) (hty : typeOf (.builtin id) = pure (.type "method_descriptor")) (hm : MtR X id fun x xs => rP X T h (x :: xs)) (ho : PE X o (tE X T W f))
    (hbase : attributeBase o name X.env (eval o X.env) = eval o X.env := by kernel_rfl) (hline : (apos.endLine == cpos.line) = true := by kernel_rfl) :
    PE X (.Call (.Attribute o name apos) [] [] cpos) (tE X T W (eMt0 "str" h f)) := x_bm0 (tyIs "str") PySem.F.plainAttrs_str slot hty hm (fun _ _ _ _ _ _ h S r => ty_str h S r) ho hbase hline
theorem y_dict {keys : List (Option Expr)} {values : List Expr} {pos : Pos} {r : List ((Env → List O → RR D) × (Env → List O → RR D))} (h : TPs X T W pos keys values r) (hall : keys.all (·.isSome) = true := by kernel_rfl) (hl : keys.length = values.length := by kernel_rfl) (h0 : keys ≠ [] := by exact List.cons_ne_nil _ _) (h15 : keys.length ≤ 15 := by decide) : PE X (.Dict keys values pos) (tE X T W (eDict r)) := x_dict h hall hl h0 h15
theorem y_lc (I : In X W k) {elt tg iter : Expr} {ifs : List Expr} {scope : Scope} (own : List (Str × Nat)) {pos : Pos} {src : Env → List O → RR Src} {t : GT} {tests : Env → List O → RR Bool} {el : Env → List O → RR D} (hi : PI X tg iter (tI X T W src))
    (hg : ∀ (s : Shared) (H : Hp) (C : Addr) (cl : List (Str × Addr)) (fp : List Addr), PG (X.blk s H scope (compEnvC scope cl C X.env) fp) tg (tT X T t)) (ht : ∀ (s : Shared) (H : Hp) (C : Addr) (cl : List (Str × Addr)) (fp : List Addr), PTs (X.blk s H scope (compEnvC scope cl C X.env) fp) ifs (tB X T W0 tests))
    (he : ∀ (s : Shared) (H : Hp) (C : Addr) (cl : List (Str × Addr)) (fp : List Addr), PE (X.blk s H scope (compEnvC scope cl C X.env) fp) elt (tE X T W0 el)) (ok : blkC X.N X.env.scope scope own = true := by kernel_rfl) (hs : ∀ x, foldedSetIterable iter X.env x = pure x := by intro _; kernel_rfl) (hown : ∀ i ∈ t.slots, i ∈ own.map (·.2) := by decide) :
    PE X (.ListComp elt [⟨tg, iter, ifs, 0⟩] scope pos) (tF X T W (eComp src t tests el (own.map (·.2)))) := x_lc I.calm I.nd hi (blkOk_by ok) hg ht he hs hown
theorem y_gl (I : In X W k) (i : Nat) {x : Str} {pos : Pos} (hi : X.N[i]? = some x := by kernel_rfl) (hx : X.env.scope.names.lookup x = some .local := by kernel_rfl) : PG X (.Name x pos) (tT X T (.nm i)) := x_gnm I.nd hi (.inl hx) (.inr hx)
theorem y_gc (I : In X W k) (i : Nat) {x : Str} {pos : Pos} (hi : X.N[i]? = some x := by kernel_rfl) (hx : X.env.scope.names.lookup x = some .cell := by kernel_rfl) (hf : X.fn x = true := by kernel_rfl) : PG X (.Name x pos) (tT X T (.nm i)) := x_gnm I.nd hi (.inr hx) (.inl hf)
theorem y_gcons {e : Expr} {esw : List Expr} {t : GT} {ts : List GT} (h1 : PG X e (tT X T t)) (h2 : PGs X esw (tTs X T ts)) (hs : (assignEach (e :: esw) X.env).map (·.2) = assign e X.env :: (assignEach esw X.env).map (·.2) := by kernel_rfl) : PGs X (e :: esw) (tTs X T (t :: ts)) := x_gcons h1 h2 hs
theorem y_gtp (I : In X W k) {esw : List Expr} {kk : Nat} {pos : Pos} {ts : List GT} (h : PGs X esw (tTs X T ts)) (hn : (assignEach esw X.env).length = ts.length := by kernel_rfl) (hst : (assignEach esw X.env).findIdx? (·.1) = none := by kernel_rfl) : PG X (.Tuple esw kk pos) (tT X T (.tp ts)) := x_gtp I.calm h hn hst
theorem y_rng1 {tg a : Expr} {p pos : Pos} {f : Env → List O → RR (List D)} (hm : X.mg "range" = none) (ha : PA X [a] (tA X T W f)) (hg : X.env.kindOf "range" = some .globalImplicit := by kernel_rfl) (hs : starEach [a] X.env = [(false, eval a X.env)] := by kernel_rfl) : PI X tg (.Call (.Name "range" p) [a] [] pos) (tI X T W (eRng1 f)) := x_rng1 hg hm ha hs
theorem y_rng2 {tg a b : Expr} {p pos : Pos} {f : Env → List O → RR (List D)} (hm : X.mg "range" = none) (ha : PA X [a, b] (tA X T W f)) (hg : X.env.kindOf "range" = some .globalImplicit := by kernel_rfl) (hs : starEach [a, b] X.env = [(false, eval a X.env), (false, eval b X.env)] := by kernel_rfl) (hs2 : starEach [b] X.env = [(false, eval b X.env)] := by kernel_rfl) : PI X tg (.Call (.Name "range" p) [a, b] [] pos) (tI X T W (eRng2 f)) := x_rng2 hg hm ha hs hs2
theorem y_enum {e : Expr} {f : Env → List O → RR (List D)} {p pos tpos : Pos} {elts : List Expr} {kk : Nat} (hm : X.mg "enumerate" = none) (ha : PA X [e] (tA X T W f)) (hg : X.env.kindOf "enumerate" = some .globalImplicit := by kernel_rfl) (hs : starEach [e] X.env = [(false, eval e X.env)] := by kernel_rfl) : PI X (.Tuple elts kk tpos) (.Call (.Name "enumerate" p) [e] [] pos) (tI X T W (eEnum f)) := x_enum hg hm ha hs
theorem y_zip {e e2 : Expr} {f : Env → List O → RR (List D)} {p pos tpos : Pos} {elts : List Expr} {kk : Nat} (hm : X.mg "zip" = none) (ha : PA X [e, e2] (tA X T W f)) (hg : X.env.kindOf "zip" = some .globalImplicit := by kernel_rfl)
    (hs : starEach [e, e2] X.env = (false, eval e X.env) :: starEach [e2] X.env := by kernel_rfl) (hpl : (backTo pos (starEach [e2] X.env)).any (·.1) = false := by kernel_rfl) : PI X (.Tuple elts kk tpos) (.Call (.Name "zip" p) [e, e2] [] pos) (tI X T W (eZip f)) := x_zip hg hm ha hs hpl
/-! statements -/
theorem y_asg {tg e : Expr} {pos : Pos} {f : Env → List O → RR D} {t : GT} (he : PE X e (tE X T W f)) (hg : PG X tg (tT X T t)) (hs : swapsWithSole [tg] e pos.line X.env = pure false := by kernel_rfl) (hw : swappedStores [tg] e X.env = pure none := by kernel_rfl)
    (h1 : (assignEach [tg] X.env).map (·.2) = [assign tg X.env] := by kernel_rfl) : PS X (.Assign [tg] e pos) (tS X T W (sAsg f t)) := s_asg he hg hs hw h1
theorem y_setLc (I : In X W k) (i : Nat) {y : Str} {py : Pos} {elt tg iter : Expr} {ifs : List Expr} {scope : Scope} (own : List (Str × Nat)) {pos spos : Pos} {src : Env → List O → RR Src} {t : GT} {tests : Env → List O → RR Bool} {el : Env → List O → RR D} (fr : (Env → List O → RR (List D)) → Env → List O → RR D) (hfr : fr = eFrz ∨ fr = eAll) (hi : PI X tg iter (tI X T W src))
    (hg : ∀ (s : Shared) (H : Hp) (C : Addr) (cl : List (Str × Addr)) (fp : List Addr), PG (X.blk s H scope (compEnvC scope cl C X.env) fp) tg (tT X T t)) (ht : ∀ (s : Shared) (H : Hp) (C : Addr) (cl : List (Str × Addr)) (fp : List Addr), PTs (X.blk s H scope (compEnvC scope cl C X.env) fp) ifs (tB X T W0 tests))
    (he : ∀ (s : Shared) (H : Hp) (C : Addr) (cl : List (Str × Addr)) (fp : List Addr), PE (X.blk s H scope (compEnvC scope cl C X.env) fp) elt (tE X T W0 el)) (hy : X.N[i]? = some y := by kernel_rfl) (hyl : X.env.scope.names.lookup y = some .local := by kernel_rfl) (hsw : swapsWith (.ListComp elt [⟨tg, iter, ifs, 0⟩] scope pos) (some (.Name y py)) spos.line X.env = pure true := by kernel_rfl)
    (ok : blkC X.N X.env.scope scope own = true := by kernel_rfl) (hs : ∀ x, foldedSetIterable iter X.env x = pure x := by intro _; kernel_rfl) (hown : ∀ i ∈ t.slots, i ∈ own.map (·.2) := by decide) :
    PS X (.Assign [.Name y py] (.ListComp elt [⟨tg, iter, ifs, 0⟩] scope pos) spos) (tS X T W (sAsg (fr (eComp src t tests el (own.map (·.2)))) (.nm i))) := s_setLc I.calm I.nd hy hyl hsw hi (blkOk_by ok) hg ht he hs hown fr hfr
theorem y_par (I : In X W k) (i j : Nat) {x y : Str} {a b : Expr} {px py pt : Pos} {kt k2 pt2} {pos : Pos} {f : Env → List O → RR (List D)} (ha : PA X [a, b] (tA X T W f)) (hij : i ≠ j := by decide) (hi : X.N[i]? = some x := by kernel_rfl) (hj : X.N[j]? = some y := by kernel_rfl)
    (hx : X.env.scope.names.lookup x = some .local := by kernel_rfl) (hy : X.env.scope.names.lookup y = some .local := by kernel_rfl)
    (hw : swappedStores [.Tuple [.Name x px, .Name y py] kt pt] (.Tuple [a, b] k2 pt2) X.env = pure (some [x, y]) := by kernel_rfl) (hs : swapsWithSole [.Tuple [.Name x px, .Name y py] kt pt] (.Tuple [a, b] k2 pt2) pos.line X.env = pure false := by kernel_rfl) :
    PS X (.Assign [.Tuple [.Name x px, .Name y py] kt pt] (.Tuple [a, b] k2 pt2) pos) (tS X T W (sPar f i j)) := s_par I.calm I.nd hi hj hij hx hy ha hw hs
theorem y_put (I : In X W k) {o i e : Expr} {pos p2 : Pos} {f g k : Env → List O → RR D} (he : PE X e (tE X T W f)) (ho : PE X o (tE X T W g)) (hi : PE X i (tE X T W k))
    (ha : ∀ v, assign (.Subscript o i p2) X.env v = (do
      let ovw ← holding [v] (eval o X.env)
      let iv ← holding [v, ovw] (eval i X.env)
      standAt p2
      holding [v, ovw, iv] (setItem ovw iv v)
      release [v, ovw, iv] []) := by intro _; kernel_rfl)
    (hs : swapsWithSole [.Subscript o i p2] e pos.line X.env = pure false := by kernel_rfl) (hw : swappedStores [.Subscript o i p2] e X.env = pure none := by kernel_rfl) (h1 : (assignEach [.Subscript o i p2] X.env).map (·.2) = [assign (.Subscript o i p2) X.env] := by kernel_rfl) :
    PS X (.Assign [.Subscript o i p2] e pos) (tS X T W (sPut dPut f g k)) := s_put (p_put I.u1) he ho hi ha hs hw h1
theorem y_aug (I : In X W k) (i : Nat) {h : PrI} {x : Str} {e : Expr} {op : Operator} {pos' pos : Pos} {f : Env → List O → RR D} (ho : PIp X op (rAug X T h)) (he : PE X e (tE X T W f)) (hi : X.N[i]? = some x := by kernel_rfl) (hx : X.env.scope.names.lookup x = some .local := by kernel_rfl) :
    PS X (.AugAssign (.Name x pos') op e pos) (tS X T W (sAug h i f)) := s_aug I.nd hi (.inl hx) he ho (.inr hx)
theorem y_augc (I : In X W k) (i : Nat) {h : PrI} {x : Str} {e : Expr} {op : Operator} {pos' pos : Pos} {f : Env → List O → RR D} (ho : PIp X op (rAug X T h)) (he : PE X e (tE X T W f)) (hi : X.N[i]? = some x := by kernel_rfl) (hx : X.env.scope.names.lookup x = some .cell := by kernel_rfl) (hf : X.fn x = true := by kernel_rfl) :
    PS X (.AugAssign (.Name x pos') op e pos) (tS X T W (sAug h i f)) := s_aug I.nd hi (.inr hx) he ho (.inl hf)
theorem y_expr {e : Expr} {pos : Pos} {f : Env → List O → RR D} (he : PE X e (tE X T W f)) (hs : swapsWith e none pos.line X.env = pure false := by kernel_rfl) : PS X (.Expr e pos) (tS X T W (sDrop f)) := s_expr he hs
theorem y_for (I : In X W k) (hp : PassesOwn (model X.prog X.w) X.A X.env X.xe) {tg iter : Expr} {body : List Stmt} {pos : Pos} {src : Env → List O → RR Src} {t : GT} {f : Sm} (hi : PI X tg iter (tI X T W src)) (hg : PG X tg (tT X T t)) (hb : PSs X body (tS X T W f))
    (hs : ∀ x, foldedSetIterable iter X.env x = pure x := by intro _; kernel_rfl) : PS X (.For tg iter body [] pos) (tS X T W (sFor src t f)) := s_for hp I.calm hi hg hb hs
end
end Tl
/-! TMore: contexts of defs, sorted, three at once. -/
namespace Tl
open PySem L2
def fuel : Nat := 1000000
section
variable {P : Program} {w : World} {K : PySem.W.Frag} {mg : Str → Option Value} {base : Heap} {T : List (Addr × Str)}
theorem in_of {N : List Str} {q : Str} {sc : Scope} {f : Addr} {cdv : Value} {A : Around} {outer : List PySem.Env} {s : Shared} {H : Hp} {E : XK} {k : Nat} (nd : N.Nodup) (hr : Room k (A.deeper (PyProof.Rows.envOfC q sc s.heap.objs.size f cdv))) :
    In (cxOf (L2.CX P w) P w K mg base N q sc f cdv A outer s H E) (fun cls d _ H => E cls d H) k := ⟨nd, rfl, takes_of rfl rfl rfl rfl, hr⟩
theorem hp_of {X : Cx} {K : Value → Shared → Prop} {E₁ : Value → Shared → Prop} (hx : X.xe = fun e s' => wpAny (model X.prog X.w) X.A (leaving X.env e) (fun _ s'' => K e s'') E₁ s') : PassesOwn (model X.prog X.w) X.A X.env X.xe := passes_of hx
end
section
variable {X : Cx} {T : List (Addr × Str)} {W : WX} {k : Nat}
def sPar3 (f : Env → List O → RR (List D)) (i j l : Nat) : Sm := fun ρ st => onE (f ρ st) ρ fun ds s1 => match ds with
  | [d, e, g] => .nx (((ρ.set i (some d)).set j (some e)).set l (some g)) s1
  | _ => .err
theorem y_par3 (I : In X W k) (i j l : Nat) {x y z : Str} {a b c : Expr} {px py pz pt : Pos} {kt k2 pt2} {pos : Pos} {f : Env → List O → RR (List D)} (ha : PA X [a, b, c] (tA X T W f)) (hij : i ≠ j := by decide) (hil : i ≠ l := by decide) (hjl : j ≠ l := by decide) (hi : X.N[i]? = some x := by kernel_rfl) (hj : X.N[j]? = some y := by kernel_rfl) (hl : X.N[l]? = some z := by kernel_rfl)
    (hx : X.env.scope.names.lookup x = some .local := by kernel_rfl) (hy : X.env.scope.names.lookup y = some .local := by kernel_rfl) (hz : X.env.scope.names.lookup z = some .local := by kernel_rfl)
    (hw : swappedStores [.Tuple [.Name x px, .Name y py, .Name z pz] kt pt] (.Tuple [a, b, c] k2 pt2) X.env = pure (some [x, y, z]) := by kernel_rfl) (hs : swapsWithSole [.Tuple [.Name x px, .Name y py, .Name z pz] kt pt] (.Tuple [a, b, c] k2 pt2) pos.line X.env = pure false := by kernel_rfl) :
    PS X (.Assign [.Tuple [.Name x px, .Name y py, .Name z pz] kt pt] (.Tuple [a, b, c] k2 pt2) pos) (tS X T W (sPar3 f i j l)) := by
  refine ps_imp (ps_par3 I.calm I.nd hi hj hl hij hil hjl hx hy hz ha hw hs) fun K σ H q => ?_
  obtain ⟨Z, φ, st, ρ, S, E, w⟩ := q
  refine ⟨Z, φ, st, ρ, S, E, w.first E fun vs Z1 φ1 H1 ds s1 e1 S1 R1 w1 => ?_⟩
  split at w1
  · rename_i d e g
    obtain ⟨v, r, rfl, r1, R2⟩ := R1
    obtain ⟨u, z, rfl, r2, r3⟩ := reps2 R2
    exact ⟨v, u, z, rfl, w1 _ Z1 φ1 H1 Ext.refl S1 ((((E.mono e1.e0).set r1).set r2).set r3)⟩
  · exact w1.elim
end
end Tl
/-! TLam: an exception kept as a value, told by isinstance. -/
namespace Tl
open PySem L2 PySem.Spec PyProof.Rows
/-- an exception object of the class cls at a -/
def ExG (cls : Value) (a : Addr) : HO := .ext fun h => ∃ (oew : Obj) (vs : Array Value), h.get? a = some oew ∧ Zc cls none oew ∧ oew.data = .fields vs
section
variable {X : Cx} {pins : List (Addr × Obj)} {σ : L2.St} {H : Hp} {s : Shared}
theorem exG_ok {P : Program} {w : World} {h : Heap} {a : Addr} {cls : Value} {oew : Obj} {vs : Array Value} (e : h.get? a = some oew) (z : Zc cls none oew) (d : oew.data = .fields vs) : ObjOk P w H h a (ExG cls a) :=
  ⟨⟨oew, vs, e, z, d⟩, ⟨oew, e⟩, fun _ _ ⟨o, v, q, r⟩ k => ⟨o, v, k o q, r⟩⟩
/-- an object that is there and that nobody tracks is tracked from now on -/
theorem track {a : Addr} {o : Obj} {u : HO} {vs : Array Value} (Iw : Inv X pins σ H s) (e : s.heap.get? a = some o) (d : o.data = .fields vs) (n : H a = none) (h0 : X.s_0.heap.get? a = none) (nl : a ≠ X.env.locals) (npw : ∀ p ∈ X.pn ++ pins, p.1 ≠ a) (new : ObjOk X.prog X.w (upd H a u) s.heap a u) : Inv X pins σ (upd H a u) s := by
  refine ⟨Iw.ok, Iw.os, Iw.bare, ⟨Iw.base.keep, Iw.base.slot, fun b ob q hbw hx => ?_, Iw.base.there, fun b xs q => ?_, fun b ob w q => ?_, fun b ps q => ?_⟩, Iw.loc, Iw.cell, ?_, fun x c q => ?_, fun p hp => ?_, Iw.hok.laidN (fun _ _ z => z) n new, Iw.len⟩
  · rw [upd_ne (fun z => by rw [z, h0] at q; cases q)]
    exact Iw.base.free b ob q hbw hx
  · rw [upd_ne (fun z => by rw [z] at q; rw [Iw.base.tups a xs q] at n; cases n)]
    exact Iw.base.tups b xs q
  · rw [upd_ne (fun z => by rw [z] at q; rw [Iw.base.frzs a ob w q] at n; cases n)]
    exact Iw.base.frzs b ob w q
  · obtain ⟨more, q2⟩ := Iw.base.tbls b ps q
    refine ⟨more, ?_⟩
    rw [upd_ne (fun z => by rw [z, n] at q2; cases q2)]
    exact q2
  · rw [upd_ne (Ne.symm nl)]
    exact Iw.free
  · obtain ⟨v, ob, q1, q2⟩ := Iw.cell x c q
    rw [upd_ne (fun z => by rw [z, e] at q1; cases q1; rw [d] at q2; cases q2)]
    exact Iw.freeC x c q
  · obtain ⟨p1, p2, p3, p4, p5⟩ := Iw.pin p hp
    exact ⟨p1, by rw [upd_ne (npw p hp)]; exact p2, p3, p4, p5⟩
end
/-- what 'except x as n: y = n' wishes: slot i is n's, j is y's -/
def wKeep (K : PySem.W.Frag) (c : Value) (i j : Nat) (Wout : WX) (D : Ends) : WX := fun cls d σ H =>
  ∃ b, PySem.W.exmOne K cls c = some b ∧ (b = true → d = none ∧ ∀ a, H a = none → D.nx (((σ.set i (some (.ref a))).set j (some (.ref a))).set i none) (upd H a (ExG cls a))) ∧ (b = false → Wout cls d σ H)
section
variable {X : Cx} {x n y : Str} {c : Value} {i j : Nat} {body : List Stmt} {npw pos pos' p1 p2 p3 : Pos} {tb : WX → TS} {Wout : WX}
theorem ps_try_keep (hx0 : X.ex = []) (whsw : X.stack = X.env :: X.outer) (hfw : X.env.frame = some X.env.locals) (hNw : X.N.Nodup) (hi : X.N[i]? = some n) (hlnw : X.env.kindOf n = some .local) (hj : X.N[j]? = some y) (hlj : X.env.kindOf y = some .local) (hij : i ≠ j) (hc : Names X x c) (tk : Takes X Wout)
    (hd1 : (n == ("__debug__" : Str)) = false) (hd2 : (n == ("__classdict__" : Str)) = false)
    (hbw : ∀ (W : WX) (pnw : List (Addr × Obj)) (xew : Value → Shared → Prop), Takes (X.tr pnw xew) W → PassesOwn (model X.prog X.w) X.A X.env xew → PSs (X.tr pnw xew) body (tb W))
    (hsw : ∀ a pnw, swapsWithSole [.Name y p1] (.Name n p2) p3.line (X.suite a pnw).env = pure false) (hsw2 : ∀ a pnw, swappedStores [.Name y p1] (.Name n p2) (X.suite a pnw).env = pure none) (hsw3 : ∀ a pnw, (assignEach [.Name y p1] (X.suite a pnw).env).map (·.2) = [assign (.Name y p1) (X.suite a pnw).env]) :
    PS X (.Try body [.ExceptHandler (some (.Name x npw)) (some n) [.Assign [.Name y p1] (.Name n p2) p3] pos'] [] [] pos) (fun D σ H => tb (wKeep X.K c i j Wout D) D σ H) := by
  refine ⟨fun pins s σ H D Iw h => ?_⟩
  have ok := Iw.ok
  have hfrw : X.A.frames = some (X.env :: X.outer) := by rw [ok.frames, whsw]
  have hlocw : Loc X.env.scope n := .inl hlnw
  refine wpAny_Try_except ?_
  refine wpAny_mono ((hbw (wKeep X.K c i j Wout D) (X.pn ++ pins) (fun e s₁ => wpAny (model X.prog X.w) X.A (noteFrame e X.env) (fun _ s₂ => wpAny (model X.prog X.w) X.A (setFlight e none) (fun _ s₃ =>
    wpAny (model X.prog X.w) X.A (handleBy e X.env [.ExceptHandler (some (.Name x npw)) (some n) [.Assign [.Name y p1] (.Name n p2) p3] pos']) (SP X pins D) X.xe s₃) X.xe s₂) X.xe s₁) (fun u sw' xx => ?_) PassesOwn.looking).run [] s σ H D (Iw.toTry _) h) (fun f s1 hsp => ?_) (fun e s1 hew => hew)
  · obtain ⟨a, B, sIw, pins', σw', Hw', cls, d, rfl, Jw', nb, up, skyw, na, os, ag, b, hb1w, hyes, hno⟩ := xx
    have Jw : Inv X pins σw' Hw' sIw := Jw'.ofTry ok
    have sky' : Sky B (X.env :: X.outer) a (Zc cls d) X.env.locals sw'.heap := by rw [← whsw]; exact skyw
    have hBa : B.get? a = none := by
      rcases skyw with z | z | z
      · exact z.2.1
      · exact z.2.1
      · exact z.2.1
    show wpAny (model X.prog X.w) X.A (noteFrame (.ref a) X.env) _ _ _
    refine Sky.land Zc.steady hfrw hfw sky' fun h3w fl3w up3 => ?_
    have J3w : Inv X pins σw' Hw' { sw' with heap := h3w } := Jw.landed nb fl3w.1 (up.trans up3) os ag
    obtain ⟨oe3w, vs3w, he3w, hz3w, hd3⟩ := fl3w.there
    have notFr : ∀ {h : Heap} {o : Obj} {vs : Array Value}, h.FunFrames B (X.env :: X.outer) → h.get? a = some o → o.data = .fields vs → a ∉ frs (X.env :: X.outer) := fun {h o vs} ffw e ddw hmw => by
      obtain ⟨_, ow', ew', hnfw⟩ := ffw.mem hmw
      rw [e] at ew'; cases ew'
      exact hnfw _ ddw
    have nfrw := notFr fl3w.2.2.1 he3w hd3
    have hIa : sIw.heap.get? a = none := by
      cases q : sIw.heap.get? a with
      | none => rfl
      | some o =>
        rw [nb a o q (by rw [whsw]; exact nfrw)] at hBa
        cases hBa
    have h0a : X.s_0.heap.get? a = none := by
      cases q : X.s_0.heap.get? a with
      | none => rfl
      | some o =>
        obtain ⟨ow', q'⟩ := Jw.base.there a o q (by rw [hx0]; simp)
        rw [q'] at hIa
        cases hIa
    have npin : ∀ p ∈ X.pn ++ pins, p.1 ≠ a := fun p hp z => by
      have := (Jw.pin p hp).1
      rw [z, hIa] at this
      cases this
    have nLw : a ≠ X.env.locals := fun z => nfrw (List.mem_filterMap.mpr ⟨X.env, List.mem_cons_self, by rw [hfw, z]⟩)
    have nFw : a ∉ X.fs := fun hmw => by
      obtain ⟨e, hew, q⟩ := List.mem_filterMap.mp hmw
      exact nfrw (List.mem_filterMap.mpr ⟨e, List.mem_cons_of_mem _ hew, q⟩)
    have S3w := J3w.suite he3w hd3 na nLw nFw
    refine wpAny_handleBy_cons (codeAny_handlers_test ?_) (by intro q; cases q)
    have LT : PySem.W.Looks (model X.prog X.w) h3w (typeOf (.ref a)) cls := fun A Q E s k q => wpAny_typeOf_ref (k _ _ he3w) (by rw [hz3w.1]; exact q)
    have LM := PySem.W.exm_one (M := model X.prog X.w) (J3w.kIn) LT hb1w
    have test : ∀ {Q : Value → Shared → Prop} {E : Value → Shared → Prop}, Q c { sw' with heap := h3w } → wpAny (model X.prog X.w) (X.A.mark (some (.ref a))) (eval (.Name x npw) X.env) Q E { sw' with heap := h3w } := fun {Q E} q => by
      obtain ⟨hgw, hdbg, hmw | ⟨hmw, hv, hnn⟩⟩ := hc
      · exact ld_glob (X := X.suite a ((a, oe3w) :: (X.pn ++ pins))) S3w hgw hmw q hdbg
      · exact ld_blt (X := X.suite a ((a, oe3w) :: (X.pn ++ pins))) S3w hgw hmw hv q hnn hdbg
    refine test (LM.here ?_)
    cases b with
    | true =>
      obtain ⟨rfl, hy2⟩ := hyes rfl
      refine codeAny_handlers_suite_as ?_
      refine HandSPX.lands_againZ fl3w fun h4w fl4w up4 => ?_
      have J4w : Inv X pins σw' Hw' { sw' with heap := h4w } := Jw.landed nb fl4w.1 ((up.trans up3).trans up4) os ag
      obtain ⟨oe4w, vs4w, he4w, hz4, hd4⟩ := fl4w.there
      have S4w := J4w.suite he4w hd4 na nLw nFw
      refine store_ok (X := X.suite a ((a, oe4w) :: (X.pn ++ pins))) (v := .ref a) S4w hNw hi hlocw rfl (fun s5 S5 => ?_) (.inr hlnw)
      have suite : PSs (X.suite a ((a, oe4w) :: (X.pn ++ pins))) [.Assign [.Name y p1] (.Name n p2) p3] (tAsg (fun σ H Q => ∃ v, σ[i]? = some (some v) ∧ Q v H) (gName j)) := pss_one (ps_asg (pe_var hi (.inl hlnw) hd1 hd2) (pg_name hNw hj (.inl hlj) (.inr hlj)) (hsw _ _) (hsw2 _ _) (hsw3 _ _))
      have fin : ∀ s7, Inv (X.suite a ((a, oe4w) :: (X.pn ++ pins))) [] (((σw'.set i (some (.ref a))).set j (some (.ref a))).set i none) Hw' s7 → ∃ σ7 H7, Inv X pins σ7 H7 s7 ∧ D.nx σ7 H7 := fun s7 S7 => by
        have pa := (S7.pin (a, oe4w) (by simp)).1
        have J7 : Inv X pins (((σw'.set i (some (.ref a))).set j (some (.ref a))).set i none) Hw' s7 := S7.unsuite ok
        exact ⟨_, _, track J7 pa hd4 na h0a nLw npin (exG_ok pa hz4 hd4), hy2 a na⟩
      have hlt : i < σw'.length := by
        rw [Jw.len]
        exact (List.getElem?_eq_some_iff.mp hi).1
      refine wpAny_mono (suite.run [] s5 _ Hw' { nx := fun σ6w H6w => σ6w = (σw'.set i (some (.ref a))).set j (some (.ref a)) ∧ H6w = Hw', rt := fun _ _ => False } S5 ⟨.ref a, by rw [List.getElem?_set_self hlt], rfl, rfl⟩) (fun f s6 hsp => ?_) (fun _ _ z => False.elim z)
      cases f with
      | next =>
        obtain ⟨σ6w, H6w, S6w, e6, e7⟩ := hsp
        subst e6 e7
        exact gone_ok (X := X.suite a ((a, oe4w) :: (X.pn ++ pins))) S6w hNw hi hlnw fun s7 S7 => fin s7 S7
      | brk =>
        obtain ⟨σ6w, H6w, S6w, q6⟩ := hsp
        exact q6.elim
      | cont =>
        obtain ⟨σ6w, H6w, S6w, q6⟩ := hsp
        exact q6.elim
      | ret u =>
        obtain ⟨v6w, σ6w, H6w, S6w, r6, q6⟩ := hsp
        exact q6.elim
    | false =>
      show wpAny _ X.A (handleBy (.ref a) X.env []) _ _ _
      refine wpAny_handleBy_nil ?_
      obtain ⟨k1w, k2w, k3w, oew, vs, T, oT, ts', hew, hz, hdw, h1, hr⟩ := id fl3w
      unfold PySem.passOn
      refine wpAny_bind (wpAny_field hew hdw h1 ?_)
      rw [if_neg (show ¬ ((Value.ref T == Value.none) = true) from by simp)]
      have fin : wpAny (model X.prog X.w) X.A (setFlight (.ref a) X.env.frame) (fun _ s4 => wpAny (model X.prog X.w) X.A (throw (.ref a) : Sem Flow) (SP X pins D) X.xe s4) X.xe { sw' with heap := h3w } := by
        rw [hfw]
        refine HandSPX.setFlight_upZ fl3w fun h4w hh4w up4 => wpAny_throw (tk _ _ ?_)
        exact ⟨a, B, sIw, pins, σw', Hw', cls, d, rfl, Jw, nb, (up.trans up3).trans up4, .inr (.inr (by rw [whsw]; exact hh4w)), na, os, ag, hno rfl⟩
      first
        | exact wpAny_bind (wpAny_pure (wpAny_bind fin))
        | exact wpAny_bind fin
  · cases f with
    | next =>
      obtain ⟨σw', Hw', Jw', q⟩ := hsp
      exact wpAny_execs_nil ⟨σw', Hw', Jw'.ofTry ok, q⟩
    | brk =>
      obtain ⟨σw', Hw', Jw', q⟩ := hsp
      exact ⟨σw', Hw', Jw'.ofTry ok, q⟩
    | cont =>
      obtain ⟨σw', Hw', Jw', q⟩ := hsp
      exact ⟨σw', Hw', Jw'.ofTry ok, q⟩
    | ret u =>
      obtain ⟨v, σw', Hw', Jw', r, q⟩ := hsp
      exact ⟨v, σw', Hw', Jw'.ofTry ok, r, q⟩
end
theorem takesLen {X : Cx} {W : WX} (t : Takes X W) : Takes X (fun cls d σ H => σ.length = X.N.length → W cls d σ H) := fun u sw' ⟨a, B, sIw, pins, σ, H, cls, d, e, Iw, nb, up, skyw, na, os, ag, w⟩ =>
  t u sw' ⟨a, B, sIw, pins, σ, H, cls, d, e, Iw, nb, up, skyw, na, os, ag, w Iw.len⟩
/-- y = None / try: a() / except e as n: y = n / return y -/
def TTkeep (K : PySem.W.Frag) (CS : Addr) : (XK → Hp → VK → Prop) → Hp → VK → Prop := fun tl H Q =>
  tl (fun cls d Hw' => ∃ b, PySem.W.exmOne K cls (.ref CS) = some b ∧ (b = true → d = none ∧ ∀ a, Hw' a = none → Q (.ref a) (upd Hw' a (ExG cls a))) ∧ (b = false → False)) H fun _ Hw' => Q .non Hw'
theorem keep_gives {X : Cx} {a e y n x q : Str} {sg : Scope} {g CS : Addr} {cdg : Value} {j0 : Nat} {p1 p2 p3 p4 p5 p6 p7 p8 p9 p10 p11 p12 p13 p14 : Pos} (hge : sg.names.lookup e = some .globalImplicit) (hme : X.mg e = some (.ref CS)) (hde : (e == ("__debug__" : Str)) = false)
    (hNw : [a, y, n].Nodup) (hy : sg.names.lookup y = some .local) (hn : sg.names.lookup n = some .local) (hd1 : (n == ("__debug__" : Str)) = false) (hd2 : (n == ("__classdict__" : Str)) = false) (hd3 : (y == ("__debug__" : Str)) = false) (hd4 : (y == ("__classdict__" : Str)) = false) :
    LamX.GivesTo X [a, y, n] x sg g cdg [.Assign [.Name y p1] (.Constant .none j0 p2) p3, .Try [.Expr (.Call (.Name a p4) [] [] p5) p6] [.ExceptHandler (some (.Name e p7)) (some n) [.Assign [.Name y p8] (.Name n p9) p10] p11] [] [] p12, .Return (some (.Name y p13)) p14] a q (TTkeep X.K CS) := by
  intro f c' s H Q tl act hc h
  have hgl : Gl (cxOf C8.CX0 X.prog X.w X.K X.mg X.base [a, y, n] x sg g cdg X.A X.stack s H C8.E0).nox e := hge
  refine ⟨_, pss_cons (ps_asg (X := (cxOf C8.CX0 X.prog X.w X.K X.mg X.base [a, y, n] x sg g cdg X.A X.stack s H C8.E0).nox) (g := gName 1) pe_non (pg_name hNw rfl (.inl hy) (.inr hy)) rfl rfl rfl) (pss_cons (ps_try_keep (X := (cxOf C8.CX0 X.prog X.w X.K X.mg X.base [a, y, n] x sg g cdg X.A X.stack s H C8.E0).nox) (c := .ref CS) (i := 2) (j := 1) (Wout := fun _ _ _ _ => False)
      (tb := fun W D σ H => ∃ Ech : XK, (∀ cls d σw' Hw', σw'.length = 3 → Ech cls d Hw' → W cls d σw' Hw') ∧ σ[0]? = some (some (.ref f)) ∧ H c' = some (LamX.CodeO c' q) ∧ tl Ech H fun _ Hw' => D.nx σ Hw')
      rfl rfl rfl hNw rfl hn rfl hy (by decide) ⟨hgl, hde, .inl hme⟩ LamX.takes0 hd1 hd2 (fun W pnw xew tk _ => ?_) (fun _ _ => rfl) (fun _ _ => rfl) (fun _ _ => rfl)) (pss_one (ps_ret (pe_var (i := 1) rfl (.inl hy) hd3 hd4)))), ?_⟩
  · refine ⟨fun pins sw' σ Hw' D Iw h' => ?_⟩
    obtain ⟨Ech, hWw, h1, h2w, h3w⟩ := h'
    have hp := act _ pnw xew Ech p4 p5 (takesLen tk) fun cls d σw' Hw' e hl => hWw cls d σw' Hw' hl e
    have hqw := pss_one (ps_expr (pos := p6) hp rfl)
    exact hqw.run pins sw' σ Hw' D Iw ⟨h1, h2w, h3w⟩
  · have hl : (L2.start [a, y, n] [V.ref f]).length = 3 := rfl
    refine ⟨fun cls d Hw' => ∃ b, PySem.W.exmOne X.K cls (.ref CS) = some b ∧ (b = true → d = none ∧ ∀ a, Hw' a = none → Q (.ref a) (upd Hw' a (ExG cls a))) ∧ (b = false → False), fun cls d σw' Hw' hl ⟨b, e1, e2, e3⟩ => ⟨b, e1, fun hbw => ?_, e3⟩, rfl, hc, ?_⟩
    · obtain ⟨e4, e5⟩ := e2 hbw
      refine ⟨e4, fun a' ha' => ⟨.ref a', ?_, e5 a' ha'⟩⟩
      rw [List.getElem?_set_ne (by decide), List.getElem?_set_self (by rw [List.length_set, hl]; decide)]
    · have e : (fun (_ : V) (Hw' : Hp) => Q .non Hw') = fun (_ : V) (Hw' : Hp) => ∃ v, ((L2.start [a, y, n] [V.ref f]).set 1 (some .non))[1]? = some (some v) ∧ Q v Hw' := by
        funext _ Hw'
        have h1 : ((L2.start [a, y, n] [V.ref f]).set 1 (some .non))[1]? = some (some V.non) := by rw [List.getElem?_set_self (by rw [hl]; decide)]
        rw [h1]
        exact propext ⟨fun z => ⟨_, rfl, z⟩, fun ⟨v, z1, z2⟩ => by cases z1; exact z2⟩
      have h' : tl _ H fun _ Hw' => Q .non Hw' := h
      rw [e] at h'
      exact h'
/-! ### isinstance(caught(lambda: body), C) -/
def rIsG (K : PySem.W.Frag) : List V → Hp → VK → Prop := fun xs H Q => ∃ (D a : Addr) (c : V) (cv : Value) (b : Bool), xs = [.ref a, c] ∧ (∀ u, RelV c u → u = cv) ∧ H a = some (ExG (.ref D) a) ∧ ExcC K D ∧ PySem.W.kitOne K (.ref D) cv = some b ∧ Q (.bl b) H
theorem call_isG {X : Cx} : CallR X (.builtin "isinstance") (rIsG X.K) := by
  intro pins s σ H xs us Q Iw r h
  obtain ⟨D, a, c, cv, b, rfl, hcv, ha, C, e, q⟩ := h
  obtain ⟨u1w, u2w, rfl, r1, r2⟩ := vals2 r
  have ec := hcv _ r2
  subst ec
  cases r1
  obtain ⟨⟨oew, vs, hgetw, hz, hv⟩, _, _⟩ := Iw.hok a _ ha
  have Jw : PySem.W.InstAt s.heap a oew D none := by
    obtain ⟨ocw, od, odaw, oslw⟩ := oew
    obtain ⟨h1, h2w⟩ := hz
    dsimp only at h1 h2w hv
    subst h1 h2w hv
    exact ⟨hgetw, rfl, rfl, trivial⟩
  exact PySem.W.kia_one (PySem.W.handS_kitx_exc C.hg C.hk C.hs C.hd C.ha C.hn C.ht C.hm) Iw.kIn Jw e (fun z => nomatch z) fun tk => ⟨.bl b, H, Iw.kept (t' := tk) fun _ _ z => z, rfl, q⟩
def eCaught (sub : Str → Option Bool) (f : Env → List O → RR D) : Env → List O → RR D := fun ρ st => match f ρ st with
  | .ok _ s => .ok (.bl false) s
  | .exc c s => match sub c with
    | some b => .ok (.bl b) s
    | none => .err
  | .err => .err
theorem ext_N {K : PySem.W.Frag} {T : List (Addr × Str)} {Z : Hp} {φ : List Addr} {st : List O} {H H1 : Hp} (S : Sim K T Z φ st H) (e : LamX.ExtN H H1) (t : LamX.Tabs T H1) : Ext Z φ H Z φ H1 ∧ Sim K T Z φ st H1 := by
  refine ⟨⟨fun _ _ h => h, ⟨[], by simp⟩, fun a o h _ n => e a o h n, fun a h o q => ?_, fun _ _ h => .inl h⟩, fun a o h => e a o (S.fz a o h) (fun ps z => S.nt a ps (by rw [h, z])), S.nd, S.ln, S.fr, fun n o a h1 h2w => ?_, t, S.nt⟩
  · by_cases hz : ∃ ps, o = .tbl ps
    · exact hz
    · exact h o (e a o q fun ps z => hz ⟨ps, z⟩)
  · have r := S.ob n o a h1 h2w
    obtain ⟨u, e1, n1, _⟩ := r.is
    exact r.mono Ext0.refl (by rw [e1, e a u e1 n1])
theorem in_lam {X : Cx} {W : WX} {k : Nat} (Iw : In X W k) {A : Around} {outer : List PySem.Env} {s : Shared} {H : Hp} {E : XK} {scope : Scope} {f c' : Addr} (hr : Room k (A.deeper (LamX.lamEnv X scope s.heap.objs.size f c'))) : In (LamX.lamCx X A outer s H E scope f c') (fun cls d _ H => E cls d H) k := ⟨Iw.nd, rfl, takes_of rfl rfl rfl rfl, hr⟩
section
variable {X : Cx} {T : List (Addr × Str)} {W : WX} {k : Nat}
/-- what is known of the exceptions' classes: CS is what the clause names, C what isinstance is asked -/
structure Subs (K : PySem.W.Frag) (mg : Str → Option Value) (CS C : Addr) (sub : Str → Option Bool) : Prop where
  non : PySem.W.kitOne K (.type "NoneType") (.ref C) = some false
  exc : ∀ c b, sub c = some b → ∀ D, mg c = some (.ref D) → ExcC K D ∧ PySem.W.exmOne K (.ref D) (.ref CS) = some true ∧ PySem.W.kitOne K (.ref D) (.ref C) = some b
theorem x_caught {x a cn : Str} {g c P CS C : Addr} {stg : Stmt} {fdg : FuncData} {Ng : List Str} {params : Arguments} {body : Expr} {scope : Scope} {f : Env → List O → RR D} {sub : Str → Option Bool} {p p1 p2 lpos pos pos1 : Pos} (Iw : In X W k) (hr : Room (k + 2) X.A) (hgi : Gl X "isinstance") (hmi : X.mg "isinstance" = none)
    (hgw : Gl X x) (hmw : X.mg x = some (.ref g)) (Fg : Fun X.K x x stg g fdg) (hbw : L2.Binds X.K fdg [a] []) (Sg : FnScope Ng [a] (defScope stg)) (hNg : Ng[0]? = some a) (hva : Vis (defScope stg) a)
    (hG : ∀ (cdg : Value) (q : Str), LamX.GivesTo X Ng x (defScope stg) g cdg (defBody stg) a q (TTkeep X.K CS)) (TB : LamX.TabB X.base X.mg c P) (hcode : X.env.code = .ref c) (hmT : (P, X.env.qual ++ "<lambda>") ∈ T) (hu : ∀ p ∈ T, p.1 = P → p.2 = X.env.qual ++ "<lambda>")
    (L : LamX.lamSB X.env.scope scope = true) (hdef : defaultsOf params X.env = ([], [])) (hbind : ∀ (q : Str) (cl : List (Str × Addr)) (pm cv ctv : Value), bindArgs (PySem.W.kla_fn "<lambda>" q params body scope cl pm cv ctv) ⟨[], []⟩ = pure [])
    (hbody : ∀ (A : Around) (outer : List PySem.Env) (s : Shared) (H : Hp) (E : XK) (fl c' : Addr), Room k (A.deeper (LamX.lamEnv X scope s.heap.objs.size fl c')) → PE (LamX.lamCx X A outer s H E scope fl c') body (tE (LamX.lamCx X A outer s H E scope fl c') T (fun cls d _ H => E cls d H) f))
    (hgc : Gl X cn) (hmc : X.mg cn = some (.ref C)) (whsw : Subs X.K X.mg CS C sub) (hdx : (x == ("__debug__" : Str)) = false) (hda : (a == ("__debug__" : Str)) = false) (hca : (a == ("__classdict__" : Str)) = false) (hdc : (cn == ("__debug__" : Str)) = false)
    (hs1 : starEach [.Name cn p2] X.env = [(false, eval (.Name cn p2) X.env)]) (hew : starEach [.Call (.Name x p1) [.Lambda params body scope lpos] [] pos1, .Name cn p2] X.env = (false, eval (.Call (.Name x p1) [.Lambda params body scope lpos] [] pos1) X.env) :: starEach [.Name cn p2] X.env) (hpl : (backTo pos (starEach [.Name cn p2] X.env)).any (·.1) = false) :
    PE X (.Call (.Name "isinstance" p) [.Call (.Name x p1) [.Lambda params body scope lpos] [] pos1, .Name cn p2] [] pos) (tE X T W (eCaught sub f)) := by
  obtain ⟨ocw, od, kV, doc, pm, an, cdv, ct, oslw, rfl, lk, hcd⟩ := Fg.ex
  have lam := LamX.pe_lamcall (T := T) (p := p1) (lpos := lpos) (pos := pos1) hgw hmw Fg.kp lk hcd hbw Sg hNg hva (hG _ _) TB hcode hmT hu hr (LamX.lamS_by L) hdef hbind (t := fun E => tE X T (fun cls d _ H => E cls d H) f) (fun A outer s H E fl c' h => hbody A outer s H E fl c' h) hdx hda hca
  refine pe_imp (pe_callB (CallR.or call_isi call_isG) hgi hmi PyProof.Rows.boot_isinstance (pa_cons lam (pa_cons (pe_glob hgc hmc (v := .ref C) rfl hdc) pa_nil hs1) hew) (by decide) (by decide) hew hpl) fun σ H Q q => ?_
  obtain ⟨Z, φ, st, ρ, S, E, w⟩ := q
  refine ⟨S.tb, fun H1 eN T1 => ?_⟩
  obtain ⟨e1, S1⟩ := ext_N S eN T1
  refine ⟨Z, φ, st, ρ, S1, E, ?_⟩
  unfold eCaught at w
  cases hfw : f ρ st with
  | ok d s1 =>
    rw [hfw] at w
    intro v Z' φ' Hw' e2 S2 R2
    exact .inl ⟨.non, .ref C, .type "NoneType", .ref C, false, rfl, .own C, .base .non, whsw.non, w (.bl false) Z' φ' Hw' (e1.trans e2) S2 rfl⟩
  | exc cc s1 =>
    rw [hfw] at w
    replace w : WpG X T W σ (repE X) Z φ H (match sub cc with
      | some b => .ok (.bl b) s1
      | none => .err) Q := w
    cases hsu : sub cc with
    | none =>
      rw [hsu] at w
      exact w.elim
    | some b =>
      rw [hsu] at w
      intro D' Z' φ' Hw' m e2 S2
      obtain ⟨k1w, k2w, k3w⟩ := whsw.exc cc b hsu D' m
      refine ⟨true, k2w, fun _ => ⟨rfl, fun a' ha' => ?_⟩, fun z => by cases z⟩
      exact .inr ⟨D', a', .ref C, .ref C, b, rfl, fun u ru => ru, upd_same, k1w, k3w, w (.bl b) Z' φ' _ ((e1.trans e2).trans (Ext.same (same_upd ha'))) (S2.same (same_upd ha')) rfl⟩
  | err =>
    rw [hfw] at w
    exact w.elim
end
/-- a def whose code object is known -/
structure FunC (K : PySem.W.Frag) (x qual : Str) (st : Stmt) (f : Addr) (fd : FuncData) (cdv : Value) : Prop where
  ex : ∃ (ocw : Value) (od : Option Addr) (kV doc pm : Value) (an : Option Addr) (ct : Value) (oslw : Array (Option Value)), fd = PySem.W.fnOf x qual (defArgs st) (defBody st) (defScope st) .none kV doc pm an cdv ct ∧ K.lookup f = some ⟨ocw, od, .func fd, oslw⟩ ∧ PySem.W.codeIn K cdv qual = true
theorem def_okC {P : Program} {w : World} {K : PySem.W.Frag} {mg : Str → Option Value} {base : Heap} {x qual : Str} {st : Stmt} {fa : Addr} {fd : FuncData} {cdv : Value} {N ps : List Str} {k : Nat} {T : List (Addr × Str)} {f : Sm} (F : FunC K x qual st fa fd cdv) (S : FnScope N ps (defScope st))
    (hbody : ∀ (A : Around) (outer : List PySem.Env) (s : Shared) (H : Hp) (E : XK), Room k (A.deeper (PyProof.Rows.envOfC qual (defScope st) s.heap.objs.size fa cdv)) →
      PSs (cxOf (L2.CX P w) P w K mg base N qual (defScope st) fa cdv A outer s H E) (defBody st) (tS (cxOf (L2.CX P w) P w K mg base N qual (defScope st) fa cdv A outer s H E) T (fun cls d _ H => E cls d H) f)) :
    FnOk P w K mg base (L2.CX P w) (k + 1) fa fd ps (spC K mg T ps.length (bodyOf f N.length)) := by
  obtain ⟨ocw, od, kV, doc, pm, an, ct, oslw, rfl, lk, hcd⟩ := F.ex
  refine fn_of lk hcd S (fun vs H Q E h => ?_) fun A outer s H vs Q E hr h => ?_
  · obtain ⟨Z, φ, st, ds, _, R, hl, _⟩ := h
    rw [← R.len, hl]
  · refine ⟨_, hbody A outer s H E hr, ?_⟩
    obtain ⟨Z, φ, st, ds, S1, R, hl, w⟩ := h
    refine ⟨Z, φ, st, _, S1, env_start R, ?_⟩
    unfold bodyOf at w
    cases hfw : f (ds.map some ++ List.replicate (N.length - ds.length) none) st with
    | nx ρ s2 =>
      rw [hfw] at w
      exact fun σ Z2 φ2 H2 e2 S2 E2 => w .non Z2 φ2 H2 e2 S2 rfl
    | rt d s2 =>
      rw [hfw] at w
      exact w
    | exc c ρ s2 =>
      rw [hfw] at w
      exact fun C σ Z2 φ2 H2 m e2 S2 E2 => w C Z2 φ2 H2 m e2 S2
    | bk ρ s2 =>
      rw [hfw] at w
      exact w.elim
    | ct ρ s2 =>
      rw [hfw] at w
      exact w.elim
    | err =>
      rw [hfw] at w
      exact w.elim
section
variable {X : Cx} {T : List (Addr × Str)} {W : WX} {k : Nat}
theorem y_caught {x a cn : Str} {g c P CS C : Addr} {stg : Stmt} {fdg : FuncData} {Ng : List Str} {params : Arguments} {body : Expr} {scope : Scope} {f : Env → List O → RR D} {sub : Str → Option Bool} {p p1 p2 lpos pos pos1 : Pos} (Iw : In X W k) (hr : Room (k + 2) X.A) (hmi : X.mg "isinstance" = none)
    (hmw : X.mg x = some (.ref g)) (Fg : Fun X.K x x stg g fdg) (hbw : L2.Binds X.K fdg [a] []) (Sg : FnScope Ng [a] (defScope stg)) (hNg : Ng[0]? = some a) (hva : (defScope stg).names.lookup a = some .local)
    (hG : ∀ (cdg : Value) (q : Str), LamX.GivesTo X Ng x (defScope stg) g cdg (defBody stg) a q (TTkeep X.K CS)) (TB : LamX.TabB X.base X.mg c P) (hcode : X.env.code = .ref c) (hmT : (P, X.env.qual ++ "<lambda>") ∈ T) (hu : ∀ p ∈ T, p.1 = P → p.2 = X.env.qual ++ "<lambda>") (hmc : X.mg cn = some (.ref C)) (whsw : Subs X.K X.mg CS C sub)
    (hbody : ∀ (A : Around) (outer : List PySem.Env) (s : Shared) (H : Hp) (E : XK) (fl c' : Addr), In (LamX.lamCx X A outer s H E scope fl c') (fun cls d _ H => E cls d H) k → PE (LamX.lamCx X A outer s H E scope fl c') body (tE (LamX.lamCx X A outer s H E scope fl c') T (fun cls d _ H => E cls d H) f))
    (hgi : X.env.kindOf "isinstance" = some .globalImplicit := by kernel_rfl) (hgw : X.env.kindOf x = some .globalImplicit := by kernel_rfl) (hgc : X.env.kindOf cn = some .globalImplicit := by kernel_rfl)
    (L : LamX.lamSB X.env.scope scope = true := by kernel_rfl) (hdef : defaultsOf params X.env = ([], []) := by kernel_rfl) (hbind : ∀ (q : Str) (cl : List (Str × Addr)) (pm cv ctv : Value), bindArgs (PySem.W.kla_fn "<lambda>" q params body scope cl pm cv ctv) ⟨[], []⟩ = pure [] := by intro _ _ _ _ _; kernel_rfl)
    (hdx : (x == ("__debug__" : Str)) = false := by kernel_rfl) (hda : (a == ("__debug__" : Str)) = false := by kernel_rfl) (hca : (a == ("__classdict__" : Str)) = false := by kernel_rfl) (hdc : (cn == ("__debug__" : Str)) = false := by kernel_rfl)
    (hs1 : starEach [.Name cn p2] X.env = [(false, eval (.Name cn p2) X.env)] := by kernel_rfl) (hew : starEach [.Call (.Name x p1) [.Lambda params body scope lpos] [] pos1, .Name cn p2] X.env = (false, eval (.Call (.Name x p1) [.Lambda params body scope lpos] [] pos1) X.env) :: starEach [.Name cn p2] X.env := by kernel_rfl) (hpl : (backTo pos (starEach [.Name cn p2] X.env)).any (·.1) = false := by kernel_rfl) :
    PE X (.Call (.Name "isinstance" p) [.Call (.Name x p1) [.Lambda params body scope lpos] [] pos1, .Name cn p2] [] pos) (tE X T W (eCaught sub f)) :=
  x_caught Iw hr hgi hmi hgw hmw Fg hbw Sg hNg (.inl hva) hG TB hcode hmT hu L hdef hbind (fun A outer s H E fl c' h => hbody A outer s H E fl c' (in_lam Iw h)) hgc hmc whsw hdx hda hca hdc hs1 hew hpl
end
end Tl
/-! TSort: sorted of data that the first different place tells apart. -/
namespace Tl
open PySem PySem.SeqAt PySem.W PySem.Calls PyProof.Rows
mutual
theorem toks_same : ∀ x y : PyData, PyData.eqv x y = true → keyToks x = keyToks y
  | .none, y, h => by cases y <;> simp [PyData.eqv] at h ⊢
  | .bool a, y, h => by
    cases y with
    | bool b =>
      simp [PyData.eqv] at h
      rw [h]
    | int j =>
      simp only [PyData.eqv, beq_iff_eq] at h
      simp only [keyToks]
      rw [← h]
    | _ => simp [PyData.eqv] at h
  | .int i, y, h => by
    cases y with
    | bool b =>
      simp only [PyData.eqv, beq_iff_eq] at h
      simp only [keyToks]
      rw [h]
    | int j =>
      simp only [PyData.eqv, beq_iff_eq] at h
      rw [h]
    | _ => simp [PyData.eqv] at h
  | .str a, y, h => by
    cases y with
    | str b =>
      simp only [PyData.eqv, beq_iff_eq] at h
      rw [h]
    | _ => simp [PyData.eqv] at h
  | .list xs, y, h => by
    cases y with
    | list ys =>
      simp only [PyData.eqv] at h
      simp only [keyToks]
      exact toks_sames xs ys h
    | _ => simp [PyData.eqv] at h
  | .tuple xs, y, h => by
    cases y with
    | tuple ys =>
      simp only [PyData.eqv] at h
      simp only [keyToks]
      exact toks_sames xs ys h
    | _ => simp [PyData.eqv] at h
  | .dict xs, y, h => by cases y <;> simp [PyData.eqv] at h
theorem toks_sames : ∀ xs ys : List PyData, PyData.eqvAll xs ys = true → keyToksAll xs = keyToksAll ys
  | [], ys, h => by
    cases ys with
    | nil => rfl
    | cons y ys => simp [PyData.eqvAll] at h
  | x :: xs, ys, h => by
    cases ys with
    | nil => simp [PyData.eqvAll] at h
    | cons y ys =>
      simp only [PyData.eqvAll, Bool.and_eq_true] at h
      rw [keyToksAll, keyToksAll, toks_same x y h.1, toks_sames xs ys h.2]
end
theorem ltPs_eq : ∀ (xs ys : List PyData) (k : Bool), ltPs xs ys = some k → PyData.eqvAll xs ys = true → k = false
  | [], ys, k, h, e => by
    cases ys with
    | nil =>
      rw [ltPs] at h
      exact (Option.some.inj h).symm
    | cons y ys => simp [PyData.eqvAll] at e
  | x :: xs, ys, k, h, e => by
    cases ys with
    | nil => simp [PyData.eqvAll] at e
    | cons y ys =>
      simp only [PyData.eqvAll, Bool.and_eq_true] at e
      rw [ltPs, if_pos e.1] at h
      exact ltPs_eq xs ys k h e.2
theorem ltP_eq (x y : PyData) (k : Bool) (h : ltP x y = some k) (e : PyData.eqv x y = true) : k = false := by
  cases x with
  | int a =>
    cases y with
    | int b =>
      simp only [PyData.eqv, beq_iff_eq] at e
      subst e
      rw [ltP] at h
      simpa using (Option.some.inj h).symm
    | _ => simp [ltP] at h
  | str a =>
    cases y with
    | str b =>
      simp only [PyData.eqv, beq_iff_eq] at e
      subst e
      rw [ltP] at h
      have := (Option.some.inj h).symm
      rw [this]
      exact decide_eq_false (List.lt_irrefl _)
    | _ => simp [ltP] at h
  | tuple xs =>
    cases y with
    | tuple ys =>
      simp only [PyData.eqv] at e
      rw [ltP] at h
      exact ltPs_eq xs ys k h e
    | _ => simp [ltP] at h
  | _ => cases y <;> simp [ltP] at h
mutual
theorem toks_diff : ∀ (x y : PyData) (k : Bool), ltP x y = some k → PyData.eqv x y = false → ∀ l m, lexLt itemOrd (keyToks x ++ l) (keyToks y ++ m) = k
  | .int a, y, k, h, e, l, m => by
    cases y with
    | int b =>
      rw [ltP] at h
      have hk := (Option.some.inj h).symm
      have hne : a ≠ b := by simpa [PyData.eqv] using e
      simp only [keyToks, List.singleton_append]
      rw [lex_diff (O := itemOrd) (by simpa using hne), hk]
      rfl
    | _ => simp [ltP] at h
  | .str a, y, k, h, e, l, m => by
    cases y with
    | str b =>
      rw [ltP] at h
      have hk := (Option.some.inj h).symm
      have hne : a.cps.toList ≠ b.cps.toList := fun z => by
        have : a = b := str_of_cps z
        simp [PyData.eqv, this] at e
      simp only [keyToks, List.singleton_append]
      rw [lex_diff (O := itemOrd) (by simpa using hne), hk]
      rfl
    | _ => simp [ltP] at h
  | .tuple xs, y, k, h, e, l, m => by
    cases y with
    | tuple ys =>
      rw [ltP] at h
      simp only [PyData.eqv] at e
      simp only [keyToks]
      exact toks_diffs xs ys k h e l m
    | _ => simp [ltP] at h
  | .none, y, k, h, e, l, m => by cases y <;> simp [ltP] at h
  | .bool a, y, k, h, e, l, m => by cases y <;> simp [ltP] at h
  | .list a, y, k, h, e, l, m => by cases y <;> simp [ltP] at h
  | .dict a, y, k, h, e, l, m => by cases y <;> simp [ltP] at h
theorem toks_diffs : ∀ (xs ys : List PyData) (k : Bool), ltPs xs ys = some k → PyData.eqvAll xs ys = false → ∀ l m, lexLt itemOrd (keyToksAll xs ++ l) (keyToksAll ys ++ m) = k
  | [], ys, k, h, e, l, m => by
    cases ys with
    | nil => simp [PyData.eqvAll] at e
    | cons y ys =>
      rw [ltPs] at h
      rw [keyToksAll, keyToksAll, List.singleton_append, List.cons_append, lex_diff (O := itemOrd) (by simp), ← Option.some.inj h]
      rfl
  | x :: xs, ys, k, h, e, l, m => by
    cases ys with
    | nil =>
      rw [ltPs] at h
      rw [keyToksAll, keyToksAll, List.singleton_append, List.cons_append, lex_diff (O := itemOrd) (by simp), ← Option.some.inj h]
      rfl
    | cons y ys =>
      rw [ltPs] at h
      rw [keyToksAll, keyToksAll, List.cons_append, List.cons_append, lex_self (O := itemOrd), List.append_assoc, List.append_assoc]
      cases hx : PyData.eqv x y with
      | true =>
        rw [if_pos hx] at h
        rw [toks_same x y hx, lex_pre]
        refine toks_diffs xs ys k h ?_ l m
        rw [PyData.eqvAll, hx, Bool.true_and] at e
        exact e
      | false =>
        rw [if_neg (by rw [hx]; decide)] at h
        exact toks_diff x y k h hx _ _
end
theorem dataLt_ltP (x y : PyData) (k : Bool) (h : ltP x y = some k) : dataLt x y = k := by
  unfold dataLt
  cases e : PyData.eqv x y with
  | true =>
    rw [toks_same x y e, ltP_eq x y k h e]
    exact lex_irrefl _
  | false =>
    have := toks_diff x y k h e [] []
    simpa using this
/-! ### reading is one-valued -/
mutual
theorem lay_unique {h : Heap} : ∀ (d dw' : PyData) (v : Value) (asw asw' : List Addr), d.canLay0 = true → dw'.canLay0 = true → Reads h v d asw → Reads h v dw' asw' → d = dw'
  | .none, _, _, _, _, _, _, r, r' => by cases r; cases r'; rfl
  | .bool _, _, _, _, _, _, _, r, r' => by cases r; cases r'; rfl
  | .int _, _, _, _, _, _, _, r, r' => by cases r; cases r'; rfl
  | .str _, _, _, _, _, _, _, r, r' => by cases r; cases r'; rfl
  | .list xs, dw', _, _, _, ha, ha', r, r' => by
    cases r with
    | list h1 h2w h3w h4 =>
      cases r' with
      | list k1 k2 k3 k4 =>
        rw [h1] at k1; cases k1
        rw [h3w] at k3; cases k3
        rw [lay_uniques xs _ _ _ _ (by simpa [PyData.canLay0] using ha) (by simpa [PyData.canLay0] using ha') h4 k4]
      | tuple k1 k2 k3 k4 =>
        rw [h1] at k1; cases k1
        rw [h2w] at k2
        simp at k2
      | dict k1 k2 k3 k4 k5 =>
        rw [h1] at k1; cases k1
        rw [h2w] at k2
        simp at k2
  | .tuple xs, dw', _, _, _, ha, ha', r, r' => by
    cases r with
    | tuple h1 h2w h3w h4 =>
      cases r' with
      | tuple k1 k2 k3 k4 =>
        rw [h1] at k1; cases k1
        rw [h3w] at k3; cases k3
        rw [lay_uniques xs _ _ _ _ (by simpa [PyData.canLay0] using ha) (by simpa [PyData.canLay0] using ha') h4 k4]
      | list k1 k2 k3 k4 =>
        rw [h1] at k1; cases k1
        rw [h2w] at k2
        simp at k2
      | dict k1 k2 k3 k4 k5 =>
        rw [h1] at k1; cases k1
        rw [h2w] at k2
        simp at k2
  | .dict _, _, _, _, _, ha, _, _, _ => by simp [PyData.canLay0] at ha
theorem lay_uniques {h : Heap} : ∀ (dsw ds' : List PyData) (vs : List Value) (asw asw' : List Addr), PyData.canLayAll0 dsw = true → PyData.canLayAll0 ds' = true → ReadsAll h vs dsw asw → ReadsAll h vs ds' asw' → dsw = ds'
  | [], ds', _, _, _, _, _, r, r' => by
    cases r
    cases r'
    rfl
  | d :: dsw, ds', _, _, _, ha, ha', r, r' => by
    cases r with
    | cons r1 r2 =>
      cases r' with
      | cons k1 k2 =>
        simp only [PyData.canLayAll0, Bool.and_eq_true] at ha ha'
        rw [lay_unique d _ _ _ _ ha.1 ha'.1 r1 k1, lay_uniques dsw _ _ _ _ ha.2 ha'.2 r2 k2]
end
/-! ### the sort -/
section
variable {prog : Program} {w : World} {A : Around} {s : Shared}
def AllLay (dsw : List PyData) : Prop := ∀ d, d ∈ dsw → d.canLay0 = true
def AllLt (dsw : List PyData) : Prop := ∀ d, d ∈ dsw → ∀ dw', dw' ∈ dsw → ∃ k, ltP d dw' = some k
theorem dk_some {h : Heap} {dsw : List PyData} (hal : AllLay dsw) {v : Value} {d : PyData} {asw : List Addr} (hdw : d ∈ dsw) (r : Reads h v d asw) : (dataKind h dsw).keyOf v = some (keyToks d) := by
  have q : ∃ d, d ∈ dsw ∧ ∃ asw, Reads h v d asw := ⟨d, hdw, asw, r⟩
  have e : (dataKind h dsw).keyOf v = some (keyToks q.choose) := by
    show (open Classical in if q : ∃ d, d ∈ dsw ∧ ∃ asw, Reads h v d asw then some (keyToks q.choose) else none) = _
    rw [dif_pos q]
  obtain ⟨h1, asw', h2w⟩ := q.choose_spec
  rw [e, lay_unique _ _ _ _ _ (hal _ h1) (hal _ hdw) h2w r]
theorem katLex_first {b fin : Bool} {Q : Bool → Shared → Prop} : ∀ (xs ys : List PyData) (i : Nat) (vs ws : List Value) (asw bs : List Addr) (k : Bool), ReadsAll s.heap vs xs asw → ReadsAll s.heap ws ys bs → PyData.canLayAll0 xs = true → PyData.canLayAll0 ys = true → ltPs xs ys = some k →
    A.units + PyData.depthAll xs < cLine → (b = true → i = 0 → ∀ x r y t, xs = x :: r → ys = y :: t → alike x y = true ∧ x ≠ .none ∧ ∀ t, x ≠ .tuple t) → fin = decide (xs.length < ys.length) → Q k s → KatLex prog w A b fin Q (vs.zip ws) i s
  | [], [], i, _, _, _, _, k, raw, rb, _, _, h, _, _, hfw, hq => by
    cases raw
    cases rb
    rw [ltPs] at h
    have e : fin = false := by rw [hfw]; rfl
    subst e
    rw [← Option.some.inj h] at hq
    exact kat_nil hq
  | [], y :: ys, i, _, _, _, _, k, raw, rb, _, _, h, _, _, hfw, hq => by
    cases raw
    rw [ltPs] at h
    have e : fin = true := by rw [hfw]; exact decide_eq_true (Nat.succ_pos _)
    subst e
    rw [← Option.some.inj h] at hq
    rw [List.zip_nil_left]
    exact kat_nil hq
  | x :: xs, [], i, _, _, _, _, k, raw, rb, _, _, h, _, _, hfw, hq => by
    cases rb
    rw [ltPs] at h
    have e : fin = false := by rw [hfw]; exact decide_eq_false (Nat.not_lt_zero _)
    subst e
    rw [← Option.some.inj h] at hq
    rw [List.zip_nil_right]
    exact kat_nil hq
  | x :: xs, y :: ys, i, _, _, _, _, k, raw, rb, la, lb, h, hu, hb, hfw, hq => by
    have hfw' : fin = decide (xs.length < ys.length) := by
      rw [hfw]
      simp only [List.length_cons, Nat.add_lt_add_iff_right]
    simp only [PyData.canLayAll0, Bool.and_eq_true] at la lb
    have hdw : x.depth ≤ PyData.depthAll (x :: xs) := by
      simp only [PyData.depthAll]
      omega
    have hd2 : PyData.depthAll xs ≤ PyData.depthAll (x :: xs) := by
      simp only [PyData.depthAll]
      omega
    cases raw with
    | cons r rs =>
      cases rb with
      | cons r' rs' =>
        rw [List.zip_cons_cons]
        refine kat_cons (SeqAt.eqAt_reads x y A s _ _ _ _ r r' la.1 lb.1 (by have := Nat.min_le_left x.depth y.depth; omega) prog w _ _ ?_)
        rw [ltPs] at h
        cases hx : PyData.eqv x y with
        | true =>
          rw [if_pos hx] at h
          exact kat_yes (katLex_first xs ys (i + 1) _ _ _ _ k rs rs' la.2 lb.2 h (by omega) (fun _ hi => absurd hi (Nat.succ_ne_zero i)) hfw' hq)
        | false =>
          rw [if_neg (by rw [hx]; decide)] at h
          refine kat_no ?_
          cases hbi : (b && i == 0) with
          | true =>
            rw [Bool.and_eq_true] at hbi
            obtain ⟨h1, h2w, h3w⟩ := hb hbi.1 (by simpa using hbi.2) x xs y ys rfl rfl
            refine oneLt_alike (fun _ => h3w) r r' h1 h2w (by have := Nat.min_le_left x.depth y.depth; omega) ?_
            rw [dataLt_ltP x y k h]
            exact hq
          | false =>
            rw [oneLt'_eq]
            simp only [Bool.false_eq_true, if_false]
            exact wpAny_bind (rcLt_of x.depth x y A s _ _ _ _ k (Nat.le_refl _) r r' la.1 lb.1 h (by omega) prog w _ _ (wpAny_truthy_bool hq))
/-- tuples, none empty, whose first items are of one type -/
theorem SortsAt.first {vs : List Value} {dsw : List PyData} {T : Value} (e : EachIs (fun v d => ∃ asw, Reads s.heap v d asw) vs dsw) (hl : AllLay dsw) (hc : AllLt dsw) (hT2 : (T == T) = true) (ht : ∀ d, d ∈ dsw → ∃ x r, d = .tuple (x :: r) ∧ dataType x = T) (hu : ∀ d, d ∈ dsw → A.units + d.depth < cLine)
    (hT : (T != Value.type "tuple") = true → ∀ d, d ∈ dsw → ∀ dw', dw' ∈ dsw → ∀ x r y t, d = .tuple (x :: r) → dw' = .tuple (y :: t) → alike x y = true ∧ x ≠ .none) : SortsAt prog w A s (dataKind s.heap dsw) vs := by
  refine ⟨fun v hv => ?_, ?_⟩
  · obtain ⟨d, hdw, asw, r⟩ := e.left v hv
    exact ⟨_, dk_some hl hdw r⟩
  · refine ⟨tuples' (T != Value.type "tuple"), ?_, fun h2w E Q hq => ?_⟩
    · intro E x y a b Q ha hb hq
      obtain ⟨d, asw, hdw, raw, rfl⟩ := dataKind_inv ha
      obtain ⟨dw', asw', hdw', rb, rfl⟩ := dataKind_inv hb
      obtain ⟨k, hk⟩ := hc d hdw dw' hdw'
      have hq' : Q (dataLt d dw') s := hq
      rw [dataLt_ltP d dw' k hk] at hq'
      have l1 := hl d hdw
      have l2 := hl dw' hdw'
      have u1 := hu d hdw
      obtain ⟨x1w, r1, rfl, t1⟩ := ht d hdw
      obtain ⟨x2w, r2, rfl, t2⟩ := ht dw' hdw'
      rw [ltP] at hk
      simp only [PyData.canLay0] at l1 l2
      simp only [PyData.depth] at u1
      cases raw with
      | @tuple l o xs n _ _ h1 h2w h3w h4 =>
        cases rb with
        | @tuple l' o' xs' n' _ _ k1 k2 k3 k4 =>
          have n1w : xs.size = (x1w :: r1).length := by simpa using SeqAt.ReadsAll.length _ _ _ h4
          have n2w : xs'.size = (x2w :: r2).length := by simpa using SeqAt.ReadsAll.length _ _ _ k4
          refine kat_lt h1 h3w k1 k3 (katLex_first (x1w :: r1) (x2w :: r2) 0 _ _ _ _ k h4 k4 l1 l2 hk (by omega) (fun hb _ x r y t ex ey => ?_) (by rw [n1w, n2w]) hq')
          obtain ⟨rfl, rfl⟩ := List.cons.inj ex
          obtain ⟨rfl, rfl⟩ := List.cons.inj ey
          obtain ⟨q1, q2⟩ := hT hb _ hdw _ hdw' _ _ _ _ rfl rfl
          refine ⟨q1, q2, fun t z => ?_⟩
          rw [← t1] at hb
          exact dataType_tuple hb t z
    · obtain ⟨fs, t1, t2, t3⟩ := each_katTups e fun d hdw => by
        obtain ⟨x, r, q, _⟩ := ht d hdw
        exact ⟨x, r, q⟩
      refine kat_kind (T := T) t1 (by omega) (fun f hfw => ?_) hT2 hq
      obtain ⟨x, r, asw, m1w, m2w⟩ := t3 f hfw
      obtain ⟨x', r', e1, e2⟩ := ht _ m1w
      cases e1
      rw [← e2]
      exact looks_reads m2w
end
end Tl
/-! TSort2: sorted of a list or a tuple. -/
namespace Tl
open PySem PySem.W PySem.Calls PyProof.Rows
section
variable {prog : Program} {w : World} {A : Around} {E : Value → Shared → Prop} {s : Shared}
theorem collect_seq {T : String} {l : Addr} {o : Obj} {n : Nat} {vs : List Value} {Q : List Value → Shared → Prop} (hT : T = "list" ∨ T = "tuple") (ho : s.heap.get? l = some o) (hcw : o.cls = .type T) (hdw : o.data = .seq vs.toArray n)
    (h : Q vs { s with heap := (s.heap.push (seqObj "list" #[] 0)).update s.heap.objs.size (Obj.mapSeq (· ++ vs.toArray)) }) (hszw : vs.length ≤ sizeLine) :
    wpAny (model prog w) A (collect (.ref l)) Q E s := by
  unfold collect
  refine wpAny_bind (wpAny_runValue (codeAny_builtin entry_proto_collect' ?_))
  show wpAny _ _ (do again (.builtin "list.__iadd__" ⟨[← newList [], .ref l], []⟩)) _ _ s
  refine wpAny_bind (wpAny_newList (wpAny_pure ⟨Code.quiet_builtin _ (by decide +kernel), codeAny_builtin entry_list_iadd' ?_⟩))
  show wpAny _ _ (Builtin.List.listExtendWith (.ref s.heap.objs.size) (.ref l) (.ref s.heap.objs.size)) _ _ { s with heap := s.heap.push (seqObj "list" #[] 0) }
  unfold Builtin.List.listExtendWith
  have how' : (s.heap.push (seqObj "list" #[] 0)).get? l = some o := Heap.get?_push_of_some _ ho
  refine wpAny_bind (wpAny_typeOf (T := T) ⟨o, how', hcw⟩ ?_)
  have ht : (Value.type T == Value.type "list" || Value.type T == Value.type "tuple") = true := by
    rcases hT with rfl | rfl
    · rfl
    · rfl
  rw [if_pos (by rw [Bool.or_assoc, ht, Bool.or_true])]
  refine wpAny_bind (listItems_at how' hdw ?_)
  refine wpAny_bind (listItems_at (xs := #[]) (n := 0) (Heap.get?_push_size _ rfl) rfl ?_)
  rw [if_neg (by simp)]
  refine wpAny_bind (listUpdate_at (xs := #[]) (n := 0) (Heap.get?_push_size _ rfl) rfl ?_ (Nat.zero_le _) (by show (#[] ++ vs.toArray).size ≤ sizeLine + 1; simp only [Array.size_append, List.size_toArray, List.length_nil]; omega))
  refine wpAny_pure ?_
  show wpAny (model prog w) A (do
      let o ← load s.heap.objs.size
      match o.data with
      | .seq xs _ => pure xs.toList
      | _ => unsupported "internal:collect") Q E { s with heap := (s.heap.push (seqObj "list" #[] 0)).update s.heap.objs.size (Obj.mapSeq (· ++ vs.toArray)) }
  refine wpAny_bind (wpAny_load (get?_update_seq (Heap.get?_push_size _ rfl) _) ?_)
  show wpAny _ _ (pure ((#[] : Array Value) ++ vs.toArray).toList) Q E _
  rw [show ((#[] : Array Value) ++ vs.toArray).toList = vs by simp]
  exact wpAny_pure h
variable {κ : PyProof.Rows.KeyKind}
theorem sorted_seq {T : String} {l : Addr} {o : Obj} {n : Nat} {vs : List Value} {Q : Value → Shared → Prop} (hT : T = "list" ∨ T = "tuple") (ho : s.heap.get? l = some o) (hcw : o.cls = .type T) (hdw : o.data = .seq vs.toArray n) (S : SortsAt prog w A.in1.in1 { s with heap := sortingHeap (copyHeap s.heap vs) (s.heap.objs.size + 1) vs } κ vs) (hL : vs.length ≤ sizeLine)
    (h : Q (.ref (s.heap.objs.size + 1)) { s with heap := sortedAll s.heap vs (sortVals κ false vs vs).toArray }) : wpAny (model prog w) A (call (.builtin "sorted") [.ref l]) Q E s := by
  refine call_function_entry_kw kind_sorted plain_sorted entry_sorted (args_sorted1 _) ?_
  unfold Builtin.«sorted»
  refine wpAny_bind (m := checkCount "sorted" 1 1 _) (wpAny_pure ?_)
  refine wpAny_bind (collect_seq hT ho hcw hdw ?_ hL)
  refine wpAny_bind (wpAny_newList ?_ hL)
  have hszw : ((s.heap.push (seqObj "list" #[] 0)).update s.heap.objs.size (Obj.mapSeq (· ++ vs.toArray))).objs.size = s.heap.objs.size + 1 := by
    rw [Heap.size_update, size_push']
  show wpAny _ _ _ _ _ { s with heap := copyHeap s.heap vs }
  rw [hszw]
  refine wpAny_bind (wpAny_holding (wpAny_call_entry_kw slot_list_sort ⟨_, copyHeap_at s.heap vs, rfl⟩ entry_list_sort ?body (args_list_sort _)))
  case body =>
    show wpAny (model prog w) A.in1.in1 (Builtin.«list.sort» ⟨[.ref (s.heap.objs.size + 1)], []⟩) _ _ _
    refine wpAny_mono (list_sort_vals (s := { s with heap := copyHeap s.heap vs }) (P := fun f s' => f = .done (.ret .none) ∧ Q (.ref (s.heap.objs.size + 1)) s') (copyHeap_at s.heap vs) S hL ⟨rfl, h⟩) (fun f s' hf => ?_) fun _ _ e => e
    obtain ⟨rfl, hq⟩ := hf
    exact ⟨_, rfl, wpAny_pure ⟨_, rfl, hq⟩⟩
end

/-! ### by data -/
open L2
/-- what a first item is, by its type -/
def kindT : PyData → Option Nat
  | .str _ => some 0
  | .int _ => some 1
  | .tuple _ => some 2
  | _ => none
def headK : PyData → Option Nat
  | .tuple (x :: _) => kindT x
  | _ => none
def shapeOk (ds : List PyData) : Bool := ds.all (fun d => decide (kindT d = some 0)) || ds.all (fun d => decide (kindT d = some 1)) || ds.all (fun d => decide (headK d = some 0)) || ds.all (fun d => decide (headK d = some 1)) || ds.all fun d => decide (headK d = some 2)
def sortOk (xs : List D) : Bool := xs.all (fun d => lay d && decide (dep d ≤ 64)) && (xs.all fun d => xs.all fun d' => (ltD d d').isSome) && shapeOk (xs.map toP)
def leD (a b : D) : Bool := !dataLt (toP b) (toP a)
def sortD (xs : List D) : List D := xs.mergeSort leD
theorem toPs_map : ∀ xs : List D, toPs xs = xs.map toP
  | [] => rfl
  | x :: xs => by rw [toPs, toPs_map xs, List.map_cons]
theorem headK_tup {d : PyData} {n : Nat} (h : headK d = some n) : ∃ x r, d = .tuple (x :: r) ∧ kindT x = some n := by
  unfold headK at h
  split at h
  · rename_i x r
    exact ⟨x, r, rfl, h⟩
  · cases h
theorem kind_alike {x y : PyData} {n : Nat} (h : kindT x = some n) (h' : kindT y = some n) (hn : n ≤ 1) : alike x y = true ∧ x ≠ .none := by
  cases x <;> cases y <;> simp [kindT] at h h' ⊢ <;> first | rfl | omega
theorem kind_type {x : PyData} {n : Nat} (h : kindT x = some n) : dataType x = .type (if n = 0 then "str" else if n = 1 then "int" else "tuple") := by
  cases x <;> simp [kindT] at h <;> subst h <;> rfl
theorem sorts_ok {prog : Program} {w : World} {A : Around} {s : Shared} {vs : List Value} {ds : List PyData} (e : EachIs (fun v d => ∃ as, Reads s.heap v d as) vs ds) (hl : AllLay ds) (hcw : AllLt ds) (hs : shapeOk ds = true) (hu : ∀ d, d ∈ ds → A.units + d.depth < cLine) : SortsAt prog w A s (dataKind s.heap ds) vs := by
  unfold shapeOk at hs
  simp only [Bool.or_eq_true, List.all_eq_true, decide_eq_true_eq] at hs
  have flat : ∀ n, n ≤ 1 → (∀ x ∈ ds, kindT x = some n) → SortsAt prog w A s (dataKind s.heap ds) vs := fun n hn h => by
    refine SortsAt.data e (fun d hdw d' hd' => (kind_alike (h d hdw) (h d' hd') hn).1) (.inr fun d hdw => ⟨(kind_alike (h d hdw) (h d hdw) hn).2, fun xs z => ?_⟩) hu
    have := h d hdw
    rw [z] at this
    simp [kindT] at this
    omega
  have heads : ∀ n T, (∀ x, kindT x = some n → dataType x = T) → (T == T) = true → ((T != Value.type "tuple") = true → n ≤ 1) → (∀ x ∈ ds, headK x = some n) → SortsAt prog w A s (dataKind s.heap ds) vs := fun n T hT hT2 hn h => by
    refine SortsAt.first (T := T) e hl hcw hT2 (fun d hdw => ?_) hu fun ht d hdw d' hd' x r y t e1 e2 => ?_
    · obtain ⟨x, r, e1, e2⟩ := headK_tup (h d hdw)
      exact ⟨x, r, e1, hT x e2⟩
    · obtain ⟨x', r', e3, e4⟩ := headK_tup (h d hdw)
      obtain ⟨y', t', e5, e6⟩ := headK_tup (h d' hd')
      rw [e1] at e3
      rw [e2] at e5
      cases e3
      cases e5
      exact kind_alike e4 e6 (hn ht)
  rcases hs with (((hs | hs) | hs) | hs) | hs
  · exact flat 0 (by omega) hs
  · exact flat 1 (by omega) hs
  · exact heads 0 (.type "str") (fun x hx => kind_type hx) rfl (fun _ => by omega) hs
  · exact heads 1 (.type "int") (fun x hx => kind_type hx) rfl (fun _ => by omega) hs
  · exact heads 2 (.type "tuple") (fun x hx => kind_type hx) rfl (fun z => absurd z (by decide)) hs
section
variable {X : Cx} {T : List (Addr × Str)} {W : WX} {k : Nat}
theorem each_zip {K : PySem.W.Frag} {Z : Hp} {φ : List Addr} : ∀ {ds : List D} {xs : List V} {us : List Value}, Reps K Z φ ds xs → Vals xs us → EachIs (fun u (p : D × V) => RelV p.2 u ∧ Rep K Z φ p.1 p.2) us (ds.zip xs)
  | [], xs, us, r, v => by
    rw [show xs = [] from r] at v ⊢
    cases v
    exact .nil
  | d :: ds, xs, us, r, v => by
    obtain ⟨x, xs', rfl, h1, h2⟩ := r
    cases v with
    | cons a t => exact .cons ⟨a, h1⟩ (each_zip h2 t)
theorem each_out {K : PySem.W.Frag} {Z : Hp} {φ : List Addr} : ∀ {ps : List (D × V)} {us : List Value}, EachIs (fun u (p : D × V) => RelV p.2 u ∧ Rep K Z φ p.1 p.2) us ps → Vals (ps.map (·.2)) us ∧ Reps K Z φ (ps.map (·.1)) (ps.map (·.2))
  | _, _, .nil => ⟨.nil, rfl⟩
  | _, _, .cons h t => ⟨.cons h.1 (each_out t).1, Reps.cons h.2 (each_out t).2⟩
theorem zip_fst {α β : Type} : ∀ {xs : List α} {ys : List β}, xs.length = ys.length → (xs.zip ys).map (·.1) = xs
  | [], [], _ => rfl
  | x :: xs, y :: ys, h => by
    rw [List.zip_cons_cons, List.map_cons, zip_fst (by simpa using h)]
def pSorted : PrL := fun st ds => match ds with
  | [d] => (seqOf st d).bind fun xs => if sortOk xs = true then some (sortD xs) else none
  | _ => none
theorem c_sorted (I0 : In X W k) : CallR X (.builtin "sorted") (rPL X T pSorted) := by
  intro pins s σ H xs us Q I rv q
  obtain ⟨Z, φ, st, ds, d, S, R, e, q⟩ := q
  unfold pSorted at e
  split at e
  · rename_i dx
    obtain ⟨x, rfl, r1⟩ := reps1 R
    cases hq : seqOf st dx with
    | none =>
      rw [hq] at e
      cases e
    | some ys =>
      rw [hq] at e
      replace e : (if sortOk ys = true then some (sortD ys) else none) = some d := e
      split at e
      · rename_i ho
        cases e
        obtain ⟨a, vs, rfl, h1, h2⟩ := seqOf_ok S r1 hq
        obtain ⟨u, rfl, ru⟩ := vals1 rv
        cases ru
        unfold sortOk at ho
        simp only [Bool.and_eq_true, List.all_eq_true, decide_eq_true_eq] at ho
        obtain ⟨⟨ho1, ho2⟩, ho3⟩ := ho
        -- the object that is sorted
        have obj : ∃ (Tn : String) (o : Obj) (n : Nat) (its : List Value), (Tn = "list" ∨ Tn = "tuple") ∧ s.heap.get? a = some o ∧ o.cls = .type Tn ∧ o.data = .seq its.toArray n ∧ Vals vs its ∧ vs.length ≤ sizeLine := by
          rcases h1 with h1 | ⟨h1, _⟩
          · obtain ⟨its, r, plw, hz⟩ := I.list h1
            obtain ⟨o, ho, hcw, n, hdw⟩ := plw.isList
            exact ⟨"list", o, n, its, .inl rfl, ho, hcw, hdw, r, hz⟩
          · obtain ⟨its, r, plw, hz⟩ := I.tuple h1
            obtain ⟨o, ho, hcw, n, hdw⟩ := plw
            exact ⟨"tuple", o, n, its, .inr rfl, ho, hcw, hdw, r, hz⟩
        obtain ⟨Tn, o, n, its, hT, g1, g2, g3, rv2, hz⟩ := obj
        have hlen := rv2.length
        have ez := each_zip h2 rv2
        have hread : EachIs (fun v d => ∃ as, Reads s.heap v d as) its (ys.map toP) := by
          have dps : ∀ {ds : List D} {xs : List V} {us : List Value}, (∀ d ∈ ds, lay d = true) → Reps X.K Z φ ds xs → Vals xs us → EachIs (fun v d => ∃ as, Reads s.heap v d as) us (ds.map toP) := by
            intro ds
            induction ds with
            | nil =>
              intro xs us _ r v
              rw [show xs = [] from r] at v
              cases v
              exact .nil
            | cons d ds ih =>
              intro xs us hl r v
              obtain ⟨x, xs', rfl, q1, q2⟩ := r
              cases v with
              | cons a t =>
                exact .cons (Dp.reads I _ x _ (dp_of S.fz d x (hl d (by simp)) q1) a) (ih (fun d hdw => hl d (by simp [hdw])) q2 t)
          exact dps (fun d hdw => (ho1 d hdw).1) h2 rv2
        have hlay : AllLay (ys.map toP) := fun d hdw => by
          obtain ⟨d', hd', rfl⟩ := List.mem_map.mp hdw
          exact (ho1 d' hd').1
        have hlt : AllLt (ys.map toP) := fun d hdw d2 hd2 => by
          obtain ⟨d', hd', rfl⟩ := List.mem_map.mp hdw
          obtain ⟨d2', hd2', rfl⟩ := List.mem_map.mp hd2
          exact Option.isSome_iff_exists.mp (ho2 d' hd' d2' hd2')
        have hu := I0.room.un
        have hread' : EachIs (fun v d => ∃ as, Reads (sortingHeap (copyHeap s.heap its) (s.heap.objs.size + 1) its) v d as) its (ys.map toP) := hread.mono fun _ _ ⟨as, r⟩ => ⟨as, PyProof.Rows.Reads.keeps (fun _ _ => sorting_copy_old) r⟩
        refine sorted_seq hT g1 g2 g3 (sorts_ok (s := { s with heap := sortingHeap (copyHeap s.heap its) (s.heap.objs.size + 1) its }) hread' hlay hlt ho3 fun d hdw => ?_) (by rw [← hlen]; exact hz) ?_
        · obtain ⟨d', hd', rfl⟩ := List.mem_map.mp hdw
          have := (ho1 d' hd').2
          unfold dep at this
          show X.A.units + 1 + 1 + _ < cLine
          omega
        · -- what comes out
          have hkeys : EachIs (fun v (p : D × V) => (dataKind (sortingHeap (copyHeap s.heap its) (s.heap.objs.size + 1) its) (ys.map toP)).keyOf v = some (keyToks (toP p.1))) its (ys.zip vs) := by
            have go : ∀ {us : List Value} {ds : List D} {xs : List V}, ds.length = xs.length → (∀ d ∈ ds, d ∈ ys) → EachIs (fun v d => ∃ as, Reads (sortingHeap (copyHeap s.heap its) (s.heap.objs.size + 1) its) v d as) us (ds.map toP) → EachIs (fun v (p : D × V) => (dataKind (sortingHeap (copyHeap s.heap its) (s.heap.objs.size + 1) its) (ys.map toP)).keyOf v = some (keyToks (toP p.1))) us (ds.zip xs) := by
              intro us ds
              induction ds generalizing us with
              | nil =>
                intro xs hl _ e
                cases e
                exact .nil
              | cons d ds ih =>
                intro xs hl hm e
                cases xs with
                | nil => simp at hl
                | cons x xs =>
                  cases e with
                  | cons h t =>
                    obtain ⟨as, h⟩ := h
                    exact .cons (dk_some hlay (List.mem_map.mpr ⟨d, hm d (by simp), rfl⟩) h) (ih (by simpa using hl) (fun d hdw => hm d (by simp [hdw])) t)
            exact go h2.len (fun d hdw => hdw) hread'
          have out := sortVals_each (κ := dataKind (sortingHeap (copyHeap s.heap its) (s.heap.objs.size + 1) its) (ys.map toP)) (rev := false) (fun p : D × V => keyToks (toP p.1)) ez hkeys
          obtain ⟨o1, o2⟩ := each_out out
          have hfst : ((ys.zip vs).mergeSort (sortLe (dataKind (sortingHeap (copyHeap s.heap its) (s.heap.objs.size + 1) its) (ys.map toP)).toKeyOrd false fun p : D × V => keyToks (toP p.1))).map (·.1) = sortD ys := by
            refine (List.map_mergeSort (s := leD) (f := fun x : D × V => x.1) (fun a _ b _ => ?_)).trans ?_
            · rfl
            · have e := zip_fst h2.len
              show ((ys.zip vs).map (·.1)).mergeSort leD = sortD ys
              rw [e]
              rfl
          rw [hfst] at o2
          obtain ⟨ep, he'⟩ := PyProof.Rows.sortedAll_at s.heap its (sortVals (dataKind (sortingHeap (copyHeap s.heap its) (s.heap.objs.size + 1) its) (ys.map toP)) false its its).toArray
          have hn : H (s.heap.objs.size + 1) = none := I.hok.fresh (Nat.le_succ _)
          have hz2 : (((ys.zip vs).mergeSort (sortLe (dataKind (sortingHeap (copyHeap s.heap its) (s.heap.objs.size + 1) its) (ys.map toP)).toKeyOrd false fun p : D × V => keyToks (toP p.1))).map (·.2)).length ≤ sizeLine := by
            rw [List.length_map, List.length_mergeSort, List.length_zip]
            omega
          refine ⟨.ref _, upd H (s.heap.objs.size + 1) (.lst _), I.laid (t' := s.toks) (fun _ _ => PyProof.Rows.sortedAll_old) (Nat.le_succ _) ⟨hz2, _, ep, o1, he'⟩, rfl, ?_⟩
          have hp : s.heap.objs.size + 1 ∉ φ := fun z => by
            obtain ⟨u, hu⟩ := S.mem z
            rw [hn] at hu
            cases hu
          have hzz : Z (s.heap.objs.size + 1) = none := by
            cases q : Z (s.heap.objs.size + 1) with
            | none => rfl
            | some u =>
              rw [S.fz _ u q] at hn
              cases hn
          exact q (.ref _) _ _ _ (Ext.same (same_upd hn)) (S.same (same_upd hn)) ⟨_, _, rfl, upd_same, .of hn, hp, hzz, o2⟩
      · cases e
  · cases e
end
end Tl
/-! TSet: set(t) of a tuple of texts, exact; sorted(set(t)). -/
namespace Tl
open PySem L2 PySem.Spec PyProof.Rows
def keyS (e : Int × Value) : Str := match e.2 with | .str k _ => k | _ => Str.empty
def GoodS (w : World) (e : Int × Value) : Prop := ∃ k tk, e.2 = Value.str k tk ∧ e.1 = hashStr w k

/-- a set of texts: who is in it, how many; where each stands -/
def SetS (w : World) (h : Heap) (a : Addr) (S : Str → Bool) (n : Nat) : Prop :=
  ∃ o esw epw t, h.get? a = some o ∧ o.ExactSet ∧ o.data = .set esw epw t ∧ (∀ e ∈ esw.toList, GoodS w e) ∧ (esw.toList.map keyS).Nodup ∧ (∀ k, S k = true ↔ k ∈ esw.toList.map keyS) ∧
    esw.size < scanBound ∧ t.fits esw.size = true ∧ esw.size = n ∧ Ris t.place.toList ∧ (w.params.followText "set-order" = true ∨ t.led = true)

section
variable {P : Program} {w : World} {h h' : Heap} {a : Addr} {S : Str → Bool} {n : Nat}

theorem SetS.at (R : SetS w h a S n) (k : ∀ o, h.get? a = some o → h'.get? a = some o) : SetS w h' a S n := by
  obtain ⟨o, esw, epw, t, ho, r⟩ := R
  exact ⟨o, esw, epw, t, k o ho, r⟩
theorem SetS.lt (R : SetS w h a S n) : a < h.objs.size := by
  obtain ⟨o, esw, epw, t, ho, r⟩ := R
  exact Heap.lt_size ho
theorem SetS.congr {S' : Str → Bool} (R : SetS w h a S n) (e : ∀ k, S' k = S k) : SetS w h a S' n := by
  have q : S' = S := funext e
  rw [q]; exact R
theorem goodS_elems {l : List (Int × Value)} (g : ∀ e ∈ l, GoodS w e) : ElemsOf (PySem.strKind P w) l := fun e hew => by
  obtain ⟨k, tk, h1, h2w⟩ := g e hew
  exact ⟨⟨k, by rw [h1]; exact strKind_is P w k tk, h2w⟩, by rw [h1] <;> rfl⟩
theorem goodS_is {e : Int × Value} (g : GoodS w e) (k : Str) : (PySem.strKind P w).is k e.2 = true ↔ keyS e = k := by
  obtain ⟨k0w, tk, h1, _⟩ := g
  unfold keyS
  rw [h1]
  show ((k0w == k) = true) ↔ k0w = k
  exact beq_iff_eq
theorem goodS_mem {l : List (Int × Value)} (g : ∀ e ∈ l, GoodS w e) (k : Str) : k ∈ l.map keyS ↔ ∃ e ∈ l, (PySem.strKind P w).is k e.2 = true := by
  rw [List.mem_map]
  constructor
  · rintro ⟨e, hew, q⟩
    exact ⟨e, hew, (goodS_is (g e hew) k).2 q⟩
  · rintro ⟨e, hew, q⟩
    exact ⟨e, hew, (goodS_is (g e hew) k).1 q⟩
theorem SetS.setOf (R : SetS w h a S n) : h.SetOf (PySem.strKind P w) a S n := by
  obtain ⟨o, esw, epw, t, ho, hxw, hdw, g, nd, hmw, hbw, hfw, hn, _⟩ := R
  exact ⟨o, esw, epw, t, ho, hxw, hdw, goodS_elems g, fun k => (hmw k).trans (goodS_mem g k), hbw, hfw, hn⟩
end

section
variable {P : Program} {w : World} {A : Around} {E : Value → Shared → Prop} {s : Shared} {a : Addr} {S : Str → Bool} {n : Nat}

/-! ### add -/
section
variable {P : Program} {w : World} {A : Around} {E : Value → Shared → Prop} {s : Shared} {a : Addr} {S : Str → Bool} {n : Nat}
theorem setS_add_tail {g : Bool → Sem Unit} (whgw : ∀ (b : Bool) (s₁w : Shared) (Q' : Unit → Shared → Prop), Q' () s₁w → wpAny (model P w) A (g b) Q' E s₁w)
    {o : Obj} {esw : Array (Int × Value)} {epw : Nat} {t : SetTable} (ho : s.heap.get? a = some o) (hex : o.ExactSet) (hdw : o.data = .set esw epw t)
    {es1w : Array (Int × Value)} {t2w : SetTable} {S' : Str → Bool} (g1 : ∀ e ∈ es1w.toList, GoodS w e) (nd1 : (es1w.toList.map keyS).Nodup) (m1 : ∀ k, S' k = true ↔ k ∈ es1w.toList.map keyS)
    (hb1w : es1w.size < scanBound) (hf2w : t2w.fits es1w.size = true) (hr : Ris t2w.place.toList) (hlw : w.params.followText "set-order" = true ∨ t2w.led = true) {wasDummy : Bool} {R : Option Bool → Shared → Prop}
    (hR : ∀ h', Heap.SameBut a s.heap h' → SetS w h' a S' es1w.size → R (some true) { s with heap := h' }) :
    wpAny (model P w) A (do
        storeSet a es1w t2w
        if (!wasDummy && t2w.tooFull) = true then do
            g (relayAll t2w es1w (SetTable.grown es1w.size)).2.2
            storeSet a (relayAll t2w es1w (SetTable.grown es1w.size)).1 (relayAll t2w es1w (SetTable.grown es1w.size)).2.1
            pure (some true)
          else pure (some true)) R E s := by
  refine wpAny_bind (wpAny_storeSet_of ho hdw ?_ (fits_of_scanBound hb1w))
  have ho1w := store_at (es' := es1w) (t' := t2w) ho hdw
  have sb1w := Heap.SameBut.update s.heap a (Obj.putSet es1w t2w)
  split
  · have pmw := relayAll_perm t2w es1w (SetTable.grown es1w.size)
    have hf3w := relayAll_fits t2w es1w (SetTable.grown es1w.size)
    have hr3w := relayAll_ris t2w es1w (SetTable.grown es1w.size)
    have hl3w := relayAll_led t2w es1w (SetTable.grown es1w.size)
    generalize relayAll t2w es1w (SetTable.grown es1w.size) = Z at pmw hf3w hr3w hl3w ⊢
    obtain ⟨es2w, t3w, gave⟩ := Z
    dsimp only at pmw hf3w hr3w hl3w ⊢
    have hszw : es2w.size = es1w.size := by rw [← Array.length_toList, pmw.length_eq, Array.length_toList]
    have hb2w : es2w.size < scanBound := by rw [hszw]; exact hb1w
    refine wpAny_bind (whgw _ _ _ ?_)
    refine wpAny_bind (wpAny_storeSet_of ho1w rfl ?_ (fits_of_scanBound hb2w))
    have ho2w := store_at (es' := es2w) (t' := t3w) ho1w rfl
    refine wpAny_pure (hR _ (sb1w.trans (Heap.SameBut.update _ a _)) ?_)
    exact ⟨_, es2w, _, t3w, ho2w, hex, rfl, fun e hew => g1 e (pmw.mem_iff.mp hew), (pmw.map keyS).nodup_iff.mpr nd1, fun k => (m1 k).trans (pmw.map keyS).mem_iff.symm, hb2w, hf3w, hszw, hr3w,
      hlw.imp id fun z => by rw [hl3w]; exact z⟩
  · exact wpAny_pure (hR _ sb1w ⟨_, es1w, _, t2w, ho1w, hex, rfl, g1, nd1, m1, hb1w, hf2w, rfl, hr, hlw⟩)

theorem setS_add_hashed {k : Str} {tk : Tok} {Q : Bool → Shared → Prop} (R : SetS w s.heap a S n) (room : n + 1 < scanBound)
    (hQw : ∀ h', Heap.SameBut a s.heap h' → SetS w h' a (fun j => S j || decide (j = k)) (if S k = true then n else n + 1) → Q (!S k) { s with heap := h' }) :
    wpAny (model P w) A (setAddHashed a (.str k tk) ((PySem.strKind P w).hash k)) Q E s := by
  obtain ⟨o, esw, epw, t, ho, hex, hdw, g, nd, hmw, hbw, hfw, hn, hr, hlw⟩ := R
  have hkeyw : (PySem.strKind P w).is k (.str k tk) = true := strKind_is P w k tk
  have hscw : (Value.str k tk).scannable = true := rfl
  have hel : ElemsOf (PySem.strKind P w) esw.toList := goodS_elems g
  unfold setAddHashed setAddHashedIn
  refine wpAny_holding (wpAny_bind (wpAny_setState_of ho hdw hfw ?_))
  dsimp only
  rw [byScan_of hscw hbw hel]
  simp only [↓reduceIte]
  unfold setAddByScan
  refine wpAny_bind ?_
  refine wpAny_bind (wpAny_rule ?_)
  refine wpAny_bind (wpAny_setScan_of hkeyw ho hdw hfw hel ?_)
  cases hfi : List.findIdx? (fun e => (PySem.strKind P w).is k e.2) esw.toList with
  | some j =>
    dsimp only
    obtain ⟨hjw, pjw, _⟩ := List.findIdx?_eq_some_iff_getElem.mp hfi
    have hSkw : S k = true := (hmw k).2 ((goodS_mem (P := P) (w := w) g k).2 ⟨esw.toList[j], List.getElem_mem hjw, pjw⟩)
    refine wpAny_pure (wpAny_pure ?_)
    have q := hQw s.heap (Heap.SameBut.refl a s.heap) ⟨o, esw, epw, t, ho, hex, hdw, g, nd, fun i => by
      rw [Bool.or_eq_true, decide_eq_true_eq, ← hmw i]
      exact ⟨fun z => z.elim id (fun e => e ▸ hSkw), .inl⟩, hbw, hfw, by rw [if_pos hSkw]; exact hn, hr, hlw⟩
    rw [hSkw] at q
    exact q
  | none =>
    dsimp only
    have hnkw : k ∉ esw.toList.map keyS := fun z => by
      obtain ⟨e, hew, q⟩ := (goodS_mem (P := P) (w := w) g k).1 z
      have c := List.findIdx?_eq_none_iff.mp hfi e hew
      rw [q] at c
      cases c
    have hSkw : S k = false := by
      cases q : S k with
      | false => rfl
      | true => exact absurd ((hmw k).1 q) hnkw
    have hgww : ∀ (b : Bool) {s₁w : Shared} {Q' : Unit → Shared → Prop}, Q' () s₁w → wpAny (model P w) A (match b with | true => rule "set.scan.the-table-gave-way" | false => pure ()) Q' E s₁w :=
      fun b s₁w Q' q => by cases b <;> first | exact wpAny_pure q | exact wpAny_rule q
    have pmw := layNew_perm t esw ((PySem.strKind P w).hash k) (.str k tk)
    have hf1w := layNew_fits t esw ((PySem.strKind P w).hash k) (.str k tk)
    have hr1w := layNew_ris t esw ((PySem.strKind P w).hash k) (.str k tk) hr
    have hl1w := layNew_led t esw ((PySem.strKind P w).hash k) (.str k tk)
    generalize layNew t esw ((PySem.strKind P w).hash k) (.str k tk) = Z at pmw hf1w hr1w hl1w ⊢
    obtain ⟨es1w, t1w, wasDummy, gave⟩ := Z
    dsimp only at pmw hf1w hr1w hl1w ⊢
    rw [Array.toList_push] at pmw
    have pcw : es1w.toList.Perm (((PySem.strKind P w).hash k, Value.str k tk) :: esw.toList) := pmw.trans (List.perm_append_singleton _ _)
    have pkw : (es1w.toList.map keyS).Perm (k :: esw.toList.map keyS) := pcw.map keyS
    have g1 : ∀ e ∈ es1w.toList, GoodS w e := fun e hew => by
      rcases List.mem_cons.mp (pcw.mem_iff.mp hew) with z | z
      · rw [z]; exact ⟨k, tk, rfl, rfl⟩
      · exact g e z
    have nd1 : (es1w.toList.map keyS).Nodup := pkw.nodup_iff.mpr (List.nodup_cons.mpr ⟨hnkw, nd⟩)
    have m1 : ∀ i, (S i || decide (i = k)) = true ↔ i ∈ es1w.toList.map keyS := fun i => by
      rw [Bool.or_eq_true, decide_eq_true_eq, hmw i, pkw.mem_iff, List.mem_cons]
      exact Or.comm
    have hszw : es1w.size = n + 1 := by rw [← Array.length_toList, pcw.length_eq, List.length_cons, Array.length_toList, hn]
    have hb1w : es1w.size < scanBound := by rw [hszw]; exact room
    have hledw : w.params.followText "set-order" = true ∨ t1w.led = true := hlw.imp id fun z => by rw [hl1w]; exact z
    have fin : ∀ h', Heap.SameBut a s.heap h' → SetS w h' a (fun j => S j || decide (j = k)) es1w.size → Q true { s with heap := h' } := fun h' sbw r => by
      have q := hQw h' sbw
      rw [hSkw] at q
      rw [hszw] at r
      exact q r
    refine wpAny_bind (hgww _ ?_)
    split
    · refine wpAny_bind ?_
      rw [hashByValue_scannable 8 hscw]
      refine wpAny_pure ?_
      refine setS_add_tail ?_ ho hex hdw g1 nd1 m1 hb1w ?_ ?_ ?_ ?_
      · intro b s₁w Q' q; cases b <;> first | exact wpAny_pure q | exact wpAny_rule q
      · first | (split <;> first | exact hf1w | exact SetTable.fits_plain_off hf1w) | exact hf1w
      · first | (split <;> exact hr1w) | exact hr1w
      · first | (split <;> exact hledw) | exact hledw
      · intro h' sbw r; dsimp only; exact wpAny_pure (fin h' sbw r)
    · refine wpAny_bind (wpAny_pure ?_)
      simp only [↓reduceIte]
      refine setS_add_tail ?_ ho hex hdw g1 nd1 m1 hb1w hf1w hr1w hledw ?_
      · intro b s₁w Q' q; cases b <;> first | exact wpAny_pure q | exact wpAny_rule q
      · intro h' sbw r; dsimp only; exact wpAny_pure (fin h' sbw r)

end
theorem setS_new_at {w : World} {h : Heap} {a : Addr} {ns : List Str} (ho : h.get? a = some { cls := .type "set", dict := none, data := .set #[] 0 (.fresh 0 0 (!w.params.followText "set-order")) }) : SetS w h a (fun j => decide (j ∈ ns.take 0)) 0 :=
  ⟨_, #[], 0, _, ho, ⟨rfl, rfl, rfl⟩, rfl, (fun e hew => by simp at hew), (by simp), (fun k => by simp), (by decide), (by rfl), rfl, List.Pairwise.nil, by
    show _ ∨ (!w.params.followText "set-order") = true
    cases w.params.followText "set-order"
    · exact .inr rfl
    · exact .inl rfl⟩
section
variable {P : Program} {w : World} {A : Around} {E : Value → Shared → Prop} {s : Shared}
theorem set_update_strs {Iw : Addr} {fp wrw : List Addr} {G : Array GenState → Array GenState → Prop} {n : Nat} {Pv : Nat → Value → Prop} {St : Nat → Shared → Prop} {R : Result → Shared → Prop}
    (W : WalksS P w A.in1 Iw fp wrw G n Pv St) (S : Addr) (hSfw : S ∉ fp) (ns : List Str) (hn : n = ns.length) (hbw : ns.length + 1 < scanBound) (hvalw : ∀ i v, Pv i v → ∃ k t, ns[i]? = some k ∧ v = .str k t) :
    ∀ (k i : Nat) (s : Shared), n - i = k → i ≤ n → St i s → (∃ c, c ≤ i ∧ SetS w s.heap S (fun j => decide (j ∈ ns.take i)) c) →
      (∀ sw' c, Moved (S :: wrw) G s sw' → c ≤ n → SetS w sw'.heap S (fun j => decide (j ∈ ns)) c → R (.ok (.ret .none)) sw') →
      codeAny (model P w) A (.builtin "set.update.loop" ⟨[.ref S, .ref Iw], []⟩) R s := by
  have hSww : S ∉ wrw := fun h => hSfw (W.sub _ h)
  have hsubw : ∀ b ∈ wrw, b ∈ S :: wrw := fun b hbw => List.mem_cons_of_mem _ hbw
  intro k
  induction k with
  | zero =>
    intro i s hkw' hi hstw ⟨c, hcw, whSw⟩ hR
    have hin : i = n := by omega
    subst hin
    refine codeAny_builtin F.entry_set_update_loop ?_
    rw [Around.under_plainId F.plain_set_update_loop _]
    show wpAny _ A.in1 (pyNext (.ref Iw) >>= _) _ _ s
    refine wpAny_bind (W.done s _ _ hstw fun sw' hmw => ?_)
    show wpAny _ A.in1 (ret Value.none) _ _ sw'
    have e : ns.take i = ns := List.take_of_length_le (by omega)
    rw [e] at whSw
    exact wpAny_pure (hR sw' c (hmw.mono hsubw) hcw (whSw.at fun o e => hmw.heap S o hSww e))
  | succ k ih =>
    intro i s hkw' hi hstw ⟨c, hcw, whSw⟩ hR
    have hltw : i < n := by omega
    refine codeAny_builtin F.entry_set_update_loop ?_
    rw [Around.under_plainId F.plain_set_update_loop _]
    show wpAny _ A.in1 (pyNext (.ref Iw) >>= _) _ _ s
    refine wpAny_bind (W.item i s _ _ hltw hstw fun v sw' hPw hstw' hmw => ?_)
    obtain ⟨z, t, hzw, rfl⟩ := hvalw i v hPw
    have hSw' : SetS w sw'.heap S (fun j => decide (j ∈ ns.take i)) c := whSw.at fun o e => hmw.heap S o hSww e
    show wpAny _ A.in1 (holding [Value.str z t] (setAdd S (.str z t)) >>= _) _ _ sw'
    refine wpAny_bind (wpAny_holding ?_)
    unfold setAdd
    refine wpAny_holding ?_
    refine wpAny_bind ((PySem.strKind P w).pyHash (k := z) (strKind_is _ _ _ _) ?_)
    refine setS_add_hashed (s := { sw' with toks := sw'.toks + 1 }) hSw' (by omega) fun h' hsbw hS2 => ?_
    have hS3 : SetS w h' S (fun j => decide (j ∈ ns.take (i + 1))) (if decide (z ∈ ns.take i) = true then c else c + 1) := hS2.congr fun j => by
      rw [List.take_add_one, hzw]
      simp [List.mem_append]
    have hc3w : (if decide (z ∈ ns.take i) = true then c else c + 1) ≤ i + 1 := by
      split <;> omega
    refine wpAny_pure ⟨plainId_quiet F.plain_set_update_loop _, ih (i + 1) _ (by omega) hltw (W.frame _ sw' _ _ hstw' (Nat.le_succ _) fun b hbw o e => ?_) ⟨_, hc3w, hS3⟩ fun sw' c2 hm'' hc'' hS'' => ?_⟩
    · rw [hsbw.2 b (fun h : b = S => hSfw (by rw [← h]; exact hbw))]; exact e
    · refine hR sw' c2 (Moved.trans W.gtrans ((hmw.mono hsubw).then_heap (Nat.le_succ _) fun b o hbw e => ?_) hm'') hc'' hS''
      rw [hsbw.2 b (fun h : b = S => hbw (by rw [h]; exact List.mem_cons_self))]; exact e

set_option maxRecDepth 100000 in
set_option maxHeartbeats 3200000 in
theorem call_set_tupStr {l : Addr} {items : Array Value} (ns : List Str) {Q : Value → Shared → Prop} (hhw : A.handled = none) (hlw : s.heap.IsTuple l items) (hit : StrsAre items.toList ns) (hbw : ns.length + 1 < scanBound)
    (h : ∀ (h' : Heap) (tk c : Nat), SetS w h' s.heap.objs.size (fun j => decide (j ∈ ns)) c → c ≤ ns.length → (∀ b o, s.heap.get? b = some o → h'.get? b = some o) → Q (.ref s.heap.objs.size) { s with heap := h', toks := tk }) :
    wpAny (model P w) A (call (.type "set") [.ref l]) Q E s := by
  have hiszw : items.size = ns.length := by
    have q := StrsAre.length hit
    rw [Array.length_toList] at q
    exact q
  obtain ⟨c, tl, hmrow⟩ := F.called_set.mro
  have hmadew := F.called_set.made
  have hsubw := F.called_set.sub
  refine wpAny_call (codeAny_of_tree ?_)
  show wpAny _ _ (callAny (.type "set") _) _ _ _
  refine wpAny_pure ⟨Code.quiet_builtin _ (by decide +kernel), codeAny_builtin F.entry_type_call ?_⟩
  rw [Around.under_plain (weight_type_call_type "set" [.ref l] []) rfl]
  have h1 := F.called_set.notType
  have h2w := F.called_set.canCreate
  have hctw := F.typeCall_set_1 (.ref l)
  repeat (any_goals (first | assumption | wp_step))

  refine codeAny_mono (code_set_led1 (.ref l) (E := E) (Q₁ := fun obj s₁w => obj = .ref s.heap.objs.size ∧ s₁w = { s with heap := s.heap.push { cls := .type "set", dict := none, data := .set #[] 0 (.fresh 0 0 (!w.params.followText "set-order")) } }) ⟨rfl, rfl⟩) fun r s₁w hr => ?_
  cases r with
  | error e => exact hr
  | ok fl =>
    cases fl with
    | ret obj =>
      obtain ⟨rfl, rfl⟩ := hr
      have whSw : (s.heap.push { cls := .type "set", dict := none, data := .set #[] 0 (.fresh 0 0 (!w.params.followText "set-order")) }).get? s.heap.objs.size = some { cls := .type "set", dict := none, data := .set #[] 0 (.fresh 0 0 (!w.params.followText "set-order")) } := Heap.get?_push_size _ rfl
      have hTw : Shared.TypeIs { s with heap := s.heap.push { cls := .type "set", dict := none, data := .set #[] 0 (.fresh 0 0 (!w.params.followText "set-order")) } } (.ref s.heap.objs.size) "set" := ⟨_, whSw, rfl⟩
      have hliw := F.called_set.init.lookup
      have hbiw := F.called_set.init.bind (.ref s.heap.objs.size)
      repeat (any_goals (first | assumption | wp_step))

      refine codeAny_mono (codeAny_call_builtin (R := wants (fun r s₂w => r = .none ∧ ∃ h' tk c, s₂w = { s with heap := h', toks := tk } ∧ SetS w h' s.heap.objs.size (fun j => decide (j ∈ ns)) c ∧ c ≤ ns.length ∧
          (∀ b o, s.heap.get? b = some o → h'.get? b = some o)) E) F.called_set.init.plain F.entry_set_init (check_set_init_1 hTw ?_)) fun r₂w s₂w hr₂ => ?_
      · obtain ⟨olw, holw, hclw, nlw, hdl⟩ := hlw
        obtain ⟨ocls, odict, odata, oslots⟩ := olw
        simp only at hclw hdl
        subst hclw; subst hdl
        have holw' : (s.heap.push { cls := .type "set", dict := none, data := .set #[] 0 (.fresh 0 0 (!w.params.followText "set-order")) }).get? l = some { cls := .type "tuple", dict := odict, data := .seq items nlw, slots := oslots } := Heap.get?_push_of_some _ holw
        have hsls := F.sub_tuple_set
        have hslfw := F.sub_tuple_frozenset
        have hnew : (Value.type "tuple" == Value.type "dict") = false := by decide
        have hl1w : (s.heap.push { cls := .type "set", dict := none, data := .set #[] 0 (.fresh 0 0 (!w.params.followText "set-order")) }).IsTuple l items := ⟨_, holw', rfl, nlw, rfl⟩
        unfold Builtin.«set.__init__» noKeywords Builtin.Frozenset.updateFrom
        generalize hPI : pyIter = PI
        wp_walk
        subst hPI

        refine wpAny_pyIter_tuple hl1w ?_
        refine wpAny_bind (wpAny_runValue ?_)
        have hlSw : l < s.heap.objs.size := Heap.lt_size holw
        have hh3w : A.in1.in1.in1.handled = none := by simp [hhw]
        have hz1w : (s.heap.push { cls := .type "set", dict := none, data := .set #[] 0 (.fresh 0 0 (!w.params.followText "set-order")) }).objs.size = s.heap.objs.size + 1 := Heap.size_push ..
        have hneIw : l ≠ (s.heap.push { cls := .type "set", dict := none, data := .set #[] 0 (.fresh 0 0 (!w.params.followText "set-order")) }).objs.size := by
          rw [Heap.size_push]; exact Nat.ne_of_lt (Nat.lt_succ_of_lt hlSw)
        have hSfw : s.heap.objs.size ∉ [(s.heap.push { cls := .type "set", dict := none, data := .set #[] 0 (.fresh 0 0 (!w.params.followText "set-order")) }).objs.size, l] := by
          rw [Heap.size_push]; simp only [List.mem_cons, List.mem_singleton, List.not_mem_nil, or_false, not_or]
          exact ⟨Nat.ne_of_lt (Nat.lt_succ_self _), Nat.ne_of_gt hlSw⟩
        have hvalw : ∀ (i : Nat) (v : Value), items[i]? = some v → ∃ k t, ns[i]? = some k ∧ v = .str k t := fun i v hv => by
          have hi : i < ns.length := by rw [← hiszw]; exact (Array.getElem?_eq_some_iff.mp hv).1
          obtain ⟨t, e⟩ := SS.strs_at hit i v (by rw [Array.getElem?_toList]; exact hv)
          refine ⟨ns[i], t, List.getElem?_eq_getElem hi, ?_⟩
          rw [e, List.getD_eq_getElem?_getD, List.getElem?_eq_getElem hi] <;> rfl
        refine set_update_strs ((Walks.tuple hh3w _ l hneIw items).toS) s.heap.objs.size
          hSfw ns hiszw hbw hvalw (items.size - 0) 0 _ (by omega) (Nat.zero_le _)
          ⟨⟨_, Heap.get?_push_size _ rfl, rfl, rfl⟩, (hl1w.push _)⟩ ?hS0 ?hR
        case hS0 =>
          have hgetw : ((s.heap.push { cls := .type "set", dict := none, data := .set #[] 0 (.fresh 0 0 (!w.params.followText "set-order")) }).push { cls := .type "tuple_iterator", data := .fields #[.ref l, .int 0 0] }).get? s.heap.objs.size
              = some { cls := .type "set", dict := none, data := .set #[] 0 (.fresh 0 0 (!w.params.followText "set-order")) } := Heap.get?_push_of_some _ whSw
          exact ⟨0, Nat.le_refl 0, setS_new_at hgetw⟩
        case hR =>
          intro sw' c' hmw hcw' hSw'
          obtain ⟨h', g2w, dw', tkw', os'⟩ := sw'
          have egw : g2w = s.gens := hmw.gens
          have edw : dw' = s.drawn := hmw.drawn
          have eo : os' = s.os := hmw.os
          subst egw; subst edw; subst eo
          show wpAny _ _ _ _ _ _
          refine wpAny_pure ?_
          show wpAny _ _ (ret Value.none) _ _ _
          rw [hiszw] at hcw'
          refine wpAny_pure ⟨rfl, h', tkw', c', rfl, hSw', hcw', fun b o e => ?_⟩
          have hb0w : b < s.heap.objs.size := Heap.lt_size e
          have hb1w : b ≠ s.heap.objs.size := Nat.ne_of_lt hb0w
          have hb2w : b ≠ (s.heap.push { cls := .type "set", dict := none, data := .set #[] 0 (.fresh 0 0 (!w.params.followText "set-order")) }).objs.size := by
            rw [Heap.size_push]; exact Nat.ne_of_lt (Nat.lt_succ_of_lt hb0w)
          exact hmw.heap b o (by simp only [List.mem_cons, List.mem_singleton, List.not_mem_nil, or_false, not_or]; exact ⟨hb1w, hb2w⟩) (Heap.get?_push_of_some _ (Heap.get?_push_of_some _ e))

      · cases r₂w with
        | error e => exact hr₂
        | ok fl₂ =>
          cases fl₂ with
          | ret r =>
            obtain ⟨rfl, h', tk, c', rfl, hSw', hcw', hkw'⟩ := hr₂
            repeat (any_goals (first | assumption | wp_step))
            exact h _ _ _ hSw' hcw' hkw'
          | _ => exact hr₂.elim
    | _ => exact hr.elim

end

/-! ### the set's iterator -/
end
end Tl
/-! TSet2: sorted(set(e)), e a tuple of texts. -/
namespace Tl
open PySem L2 PySem.Spec PyProof.Rows
def strLe (a b : Str) : Bool := decide (a.cps.toList ≤ b.cps.toList)
def dedupS : List Str → List Str
  | [] => []
  | x :: xs => if x ∈ xs then dedupS xs else x :: dedupS xs
def sortStrs (xs : List Str) : List Str := xs.mergeSort strLe
theorem mem_dedupS : ∀ {xs : List Str} {x : Str}, x ∈ dedupS xs ↔ x ∈ xs
  | [], x => by simp [dedupS]
  | y :: xs, x => by
    unfold dedupS
    by_cases h : y ∈ xs
    · rw [if_pos h, mem_dedupS]
      constructor
      · exact fun z => List.mem_cons_of_mem _ z
      · intro z
        rcases List.mem_cons.mp z with z | z
        · rw [z]
          exact h
        · exact z
    · rw [if_neg h, List.mem_cons, List.mem_cons, mem_dedupS]
theorem nd_dedupS : ∀ (xs : List Str), (dedupS xs).Nodup
  | [] => List.nodup_nil
  | y :: xs => by
    unfold dedupS
    by_cases h : y ∈ xs
    · rw [if_pos h]
      exact nd_dedupS xs
    · rw [if_neg h]
      exact List.nodup_cons.mpr ⟨fun z => h (mem_dedupS.mp z), nd_dedupS xs⟩
theorem strLe_trans (a b c : Str) (h1 : strLe a b = true) (h2 : strLe b c = true) : strLe a c = true := decide_eq_true (List.le_trans (of_decide_eq_true h1) (of_decide_eq_true h2))
theorem strLe_total (a b : Str) : (strLe a b || strLe b a) = true := by
  unfold strLe
  rcases List.le_total a.cps.toList b.cps.toList with h | h
  · simp [h]
  · simp [h]
theorem strLe_anti {a b : Str} (h1 : strLe a b = true) (h2 : strLe b a = true) : a = b := PySem.W.str_of_cps (List.le_antisymm (of_decide_eq_true h1) (of_decide_eq_true h2))
theorem sortStrs_perm {xs ys : List Str} (h : xs.Perm ys) : sortStrs xs = sortStrs ys := by
  have p : (sortStrs xs).Perm (sortStrs ys) := (List.mergeSort_perm xs strLe).trans (h.trans (List.mergeSort_perm ys strLe).symm)
  have s1 := List.pairwise_mergeSort (le := strLe) strLe_trans strLe_total xs
  have s2 := List.pairwise_mergeSort (le := strLe) strLe_trans strLe_total ys
  exact p.eq_of_pairwise (fun a b _ _ h1 h2 => strLe_anti h1 h2) s1 s2
theorem perm_of_nodup {xs ys : List Str} (h1 : xs.Nodup) (h2 : ys.Nodup) (h : ∀ x, x ∈ xs ↔ x ∈ ys) : xs.Perm ys := (List.perm_ext_iff_of_nodup h1 h2).mpr h

/-- the set of texts at a -/
def SetSO (w : World) (a : Addr) (S : Str → Bool) (n : Nat) : HO := .ext fun h => SetS w h a S n
section
variable {P : Program} {w : World} {A : Around} {E : Value → Shared → Prop} {s : Shared} {a : Addr} {S : Str → Bool} {n : Nat}
theorem strs_vals : ∀ (vs : List Value), (∀ v ∈ vs, ∃ k tk, v = Value.str k tk) → PySem.W.EachIs (fun v (x : Str) => ∃ t, v = Value.str x t) vs (vs.map fun v => keyS (0, v))
  | [], _ => .nil
  | v :: vs, h => by
    obtain ⟨k, tk, rfl⟩ := h v (by simp)
    exact .cons ⟨tk, rfl⟩ (strs_vals vs fun v hv => h v (by simp [hv]))
theorem each_vals : ∀ {vs : List Value} {xs : List Str}, PySem.W.EachIs (fun v (x : Str) => ∃ t, v = Value.str x t) vs xs → Vals (xs.map V.str) vs
  | _, _, .nil => .nil
  | _, _, .cons h t => .cons h (each_vals t)
theorem sorted_setS {Q : Value → Shared → Prop} (R : SetS w s.heap a S n) (hhw : A.handled = none) (hu : A.units + 64 < cLine)
    (hQ : ∀ sw' p (out : List Value) (c : Nat) (zs : List Str), (∀ b o, s.heap.get? b = some o → sw'.heap.get? b = some o) → sw'.gens = s.gens → sw'.os = s.os → s.heap.objs.size ≤ p →
      sw'.heap.get? p = some (seqObj "list" out.toArray c) → PySem.W.EachIs (fun v (x : Str) => ∃ t, v = Value.str x t) out (sortStrs zs) → zs.Nodup → (∀ k, k ∈ zs ↔ S k = true) → zs.length = n → Q (.ref p) sw') :
    wpAny (model P w) A (call (.builtin "sorted") [.ref a]) Q E s := by
  obtain ⟨o, es, ep, t, ho, hex, hdw, g, nd, hm, hb, hfw, hnw, hr, hl⟩ := R
  refine Calls.call_function_entry kind_sorted plain_sorted entry_sorted (args_sorted1 _) ?_
  unfold Builtin.«sorted»
  refine wpAny_bind (m := checkCount "sorted" 1 1 _) (wpAny_pure ?_)
  refine wpAny_bind (collect_set (A := A.in1) hhw ⟨o, ho, hex.1, hdw⟩ hfw hb hr hl fun s1 vs k1 hz g1 o1 pmw => ?_)
  have hvlw : vs.length = n := by rw [pmw.length_eq, List.length_map, Array.length_toList]; exact hnw
  have hLw : vs.length ≤ sizeLine := by
    rw [hvlw, ← hnw, sizeLine_eq]
    unfold scanBound at hb
    omega
  have hv : ∀ v ∈ vs, ∃ k tk, v = Value.str k tk := fun v hv => by
    obtain ⟨e, hew, q⟩ := List.mem_map.mp (pmw.mem_iff.mp hv)
    obtain ⟨k, tk, h1, _⟩ := g e hew
    exact ⟨k, tk, by rw [← q]; exact h1⟩
  have ev := strs_vals vs hv
  have pk : (vs.map fun v => keyS (0, v)).Perm (es.toList.map keyS) := by
    have q := pmw.map fun v => keyS (0, v)
    rw [List.map_map] at q
    exact q
  refine wpAny_bind (wpAny_newList ?_ hLw)
  have hoLw : (s1.heap.push (seqObj "list" vs.toArray 0)).get? s1.heap.objs.size = some (seqObj "list" vs.toArray 0) := Heap.get?_push_size _ rfl
  have er : ∀ h' : Heap, PySem.W.EachIs (fun v d => ∃ as, Reads h' v d as) vs ((vs.map fun v => keyS (0, v)).map PyData.str) := fun h' => PySem.W.each_map (R := fun v d => ∃ as, Reads h' v d as) PyData.str (ev.mono fun v x ⟨t, e⟩ => ⟨[], by rw [e]; exact Reads.str x t⟩)
  have hal : PySem.W.AllAlike ((vs.map fun v => keyS (0, v)).map PyData.str) := PySem.W.AllAlike.of fun b b' => rfl
  have srt : PySem.W.Sortable ((vs.map fun v => keyS (0, v)).map PyData.str) := PySem.W.Sortable.others fun b => ⟨fun z => (by cases z), fun xs z => (by cases z)⟩
  refine wpAny_bind (wpAny_holding (wpAny_call_entry slot_list_sort ⟨_, hoLw, rfl⟩ entry_list_sort ?body (args_list_sort _)))
  case body =>
    refine wpAny_mono (PySem.W.list_sort_vals (A := A.in1.in1) (s := { s1 with heap := s1.heap.push (seqObj "list" vs.toArray 0) }) (P := fun f sw' => f = .done (.ret .none) ∧ Q (.ref s1.heap.objs.size) sw') hoLw (PySem.W.SortsAt.data (er _) hal srt fun d hdw => ?_) hLw ?_) (fun f sw' hfw => ?_) fun _ _ e => e
    · obtain ⟨x, _, rfl⟩ := List.mem_map.mp hdw
      show A.units + 1 + 1 + PyData.depth (.str x) < cLine
      simp only [PyData.depth]
      omega
    · refine ⟨rfl, ?_⟩
      obtain ⟨c, hc⟩ := sortedHeap_at (vs := vs) (out := (PySem.W.sortVals (PySem.W.dataKind (PySem.W.sortingHeap (s1.heap.push (seqObj "list" vs.toArray 0)) s1.heap.objs.size vs) ((vs.map fun v => keyS (0, v)).map PyData.str)) false vs vs).toArray) hoLw
      have out := PySem.W.sortVals_data (h' := PySem.W.sortingHeap (s1.heap.push (seqObj "list" vs.toArray 0)) s1.heap.objs.size vs) (enc := PyData.str) (R := fun v (x : Str) => ∃ t, v = Value.str x t) false ev (ev.mono fun v x ⟨t, e⟩ => ⟨[], by rw [e]; exact Reads.str x t⟩) hal
      rw [PySem.W.dataLe_str (fun b : Str => b)] at out
      refine hQ _ s1.heap.objs.size _ c (vs.map fun v => keyS (0, v)) (fun b u e => ?_) g1 o1 hz hc out (pk.nodup_iff.mpr nd) (fun k => by rw [pk.mem_iff, ← hm k]) (by rw [List.length_map]; exact hvlw)
      have q := k1 b u e
      have hltw := Heap.lt_size q
      show (sortedHeap (s1.heap.push (seqObj "list" vs.toArray 0)) s1.heap.objs.size vs _).get? b = some u
      rw [sortedHeap_old (Nat.ne_of_lt hltw) (by rw [size_push']; exact Nat.lt_succ_of_lt hltw)]
      exact Heap.get?_push_of_some _ q
    · obtain ⟨rfl, hqw⟩ := hfw
      exact ⟨_, rfl, wpAny_pure ⟨_, rfl, hqw⟩⟩
end
section
variable {X : Cx} {T : List (Addr × Str)} {W : WX} {k : Nat}
theorem setSO_new {w : World} {P : Program} {H : Hp} {h : Heap} {a : Addr} {S : Str → Bool} {n : Nat} (R : SetS w h a S n) : ObjOk P w H h a (SetSO w a S n) := by
  have ⟨o, _, _, _, ho, _⟩ := R
  exact ⟨R, ⟨o, ho⟩, fun h1 h2 p k => SetS.at p k⟩
theorem strsAre_of : ∀ {xs : List Str} {its : List Value}, Vals (xs.map V.str) its → StrsAre its xs
  | [], its, v => by
    cases v
    exact .nil
  | x :: xs, its, v => by
    cases v with
    | cons a t =>
      obtain ⟨tk, rfl⟩ := a
      exact .cons x tk (strsAre_of t)
theorem cr_setTS (hc : X.calm = true) : CallR X (.type "set") (fun vs H Q => ∃ (p : Addr) (xs : List Str), vs = [.ref p] ∧ SqT X.K H p (xs.map V.str) ∧ xs.length + 1 < scanBound ∧ ∀ a c, H a = none → Q (.ref a) (upd H a (SetSO X.w a (fun j => decide (j ∈ xs)) c))) := by
  intro pins s σ H vs us Q Iw r h
  obtain ⟨p, xs, rfl, hqw, hb, q⟩ := h
  obtain ⟨u, rfl, ruw⟩ := vals1 r
  cases ruw
  obtain ⟨its, rv, pt, hz⟩ := Iw.tuple hqw
  have hi : StrsAre its.toArray.toList xs := strsAre_of rv
  refine call_set_tupStr xs (Iw.ok.hd hc) (show s.heap.IsTuple p its.toArray from pt) hi hb fun h' tk c R1 hcn kp => ?_
  exact ⟨.ref s.heap.objs.size, _, Iw.laid (t' := tk) kp (Nat.le_refl _) (setSO_new R1), rfl, q _ c (Iw.hok.fresh (Nat.le_refl _))⟩
theorem cr_sortSS (hc : X.calm = true) (hu : X.A.units + 64 < cLine) : CallR X (.builtin "sorted") (fun vs H Q => ∃ (a : Addr) (S : Str → Bool) (n : Nat), vs = [.ref a] ∧ H a = some (SetSO X.w a S n) ∧ ∀ (zs : List Str) (p : Addr), zs.Nodup → (∀ k, k ∈ zs ↔ S k = true) → H p = none → Q (.ref p) (upd H p (.lst ((sortStrs zs).map V.str)))) := by
  intro pins s σ H vs us Q Iw r h
  obtain ⟨a, S, n, rfl, ha, q⟩ := h
  have R : SetS X.w s.heap a S n := (Iw.hok a _ ha).1
  obtain ⟨u, rfl, ruw⟩ := vals1 r
  cases ruw
  have hsz : n < scanBound := by
    obtain ⟨_, _, _, _, _, _, _, _, _, _, hb, _, hnw, _⟩ := R
    omega
  refine sorted_setS R (Iw.ok.hd hc) hu fun sw' p out c zs kp g o hpw hg hs nd hm hl => ?_
  have hlen : ((sortStrs zs).map V.str).length ≤ sizeLine := by
    rw [List.length_map]
    unfold sortStrs
    rw [List.length_mergeSort, hl, sizeLine_eq]
    unfold scanBound at hsz
    omega
  have hnw : H p = none := Iw.hok.fresh hpw
  have J : Inv X pins σ (upd H p (.lst ((sortStrs zs).map V.str))) { s with heap := sw'.heap, gens := sw'.gens, drawn := sw'.drawn, toks := sw'.toks } :=
    Iw.call (ch := []) (Un.laid kp hpw hnw) (Iw.hok.laid kp hpw ⟨hlen, out, c, each_vals hs, hg⟩) (by rw [g]; exact Iw.bare) (fun _ z => nomatch z)
  have e : sw' = { s with heap := sw'.heap, gens := sw'.gens, drawn := sw'.drawn, toks := sw'.toks } := by
    cases sw'
    cases s
    cases o
    rfl
  rw [e]
  exact ⟨.ref p, _, J, rfl, q zs p nd hm hnw⟩
def allStr : List D → Option (List Str)
  | [] => some []
  | .str x :: r => (allStr r).map (x :: ·)
  | _ :: _ => none
theorem allStr_ok {K : PySem.W.Frag} {Z : Hp} {φ : List Addr} : ∀ {ds : List D} {vs : List V} {xs : List Str}, Reps K Z φ ds vs → allStr ds = some xs → vs = xs.map V.str
  | [], vs, xs, r, h => by
    cases h
    exact r
  | d :: ds, vs, xs, r, h => by
    obtain ⟨v, r', rfl, h2, h3⟩ := r
    cases d with
    | str x =>
      have h' : (allStr ds).map (x :: ·) = some xs := h
      cases hb : allStr ds with
      | none =>
        rw [hb] at h'
        cases h'
      | some cs =>
        rw [hb] at h'
        cases h'
        rw [allStr_ok h3 hb, show v = .str x from h2]
        rfl
    | _ => cases h
theorem reps_strs {K : PySem.W.Frag} {Z : Hp} {φ : List Addr} : ∀ (xs : List Str), Reps K Z φ (xs.map .str) (xs.map V.str)
  | [] => rfl
  | x :: xs => Reps.cons rfl (reps_strs xs)
def dSortSet : D → Option (List D)
  | .tup ds => (allStr ds).bind fun xs => if xs.length + 1 < scanBound then some ((sortStrs (dedupS xs)).map .str) else none
  | _ => none
def eSortSet (f : Env → List O → RR D) : Env → List O → RR (List D) := fun ρ st => (f ρ st).bind fun x s1 => liftL s1 (dSortSet x)
theorem y_sortSet (Iw : In X W k) {e : Expr} {p p2 pos pos2 : Pos} {f : Env → List O → RR D} (hm : X.mg "sorted" = none) (hm2 : X.mg "set" = none) (hew : PE X e (tE X T W f)) (hg : X.env.kindOf "sorted" = some .globalImplicit := by kernel_rfl) (hg2 : X.env.kindOf "set" = some .globalImplicit := by kernel_rfl)
    (hs1 : starEach [e] X.env = [(false, eval e X.env)] := by kernel_rfl) (hs : starEach [.Call (.Name "set" p2) [e] [] pos2] X.env = [(false, eval (.Call (.Name "set" p2) [e] [] pos2) X.env)] := by kernel_rfl) : PE X (.Call (.Name "sorted" p) [.Call (.Name "set" p2) [e] [] pos2] [] pos) (tF X T W (eSortSet f)) := by
  refine pe_imp (pe_callB (cr_sortSS Iw.calm Iw.u) hg hm PyProof.Rows.boot_sorted (pa_cons (pe_callTy (cr_setTS Iw.calm) hg2 hm2 PyProof.Rows.boot_set (pa_cons hew pa_nil hs1) (by decide) (by decide) hs1 rfl) pa_nil hs) (by decide) (by decide) hs rfl) fun σ H Q q => ?_
  obtain ⟨Z, φ, st, ρ, S, E, w⟩ := q
  refine ⟨Z, φ, st, ρ, S, E, w.first fun x Z1 φ1 H1 dx s1 e1 S1 R1 w1 => ?_⟩
  cases hdw : dSortSet dx with
  | none =>
    rw [hdw] at w1
    exact w1.elim
  | some ds =>
    rw [hdw] at w1
    cases dx with
    | tup es =>
      have hd' : ((allStr es).bind fun xs => if xs.length + 1 < scanBound then some ((sortStrs (dedupS xs)).map D.str) else none) = some ds := hdw
      cases ha : allStr es with
      | none =>
        rw [ha] at hd'
        cases hd'
      | some xs =>
        rw [ha] at hd'
        replace hd' : (if xs.length + 1 < scanBound then some ((sortStrs (dedupS xs)).map D.str) else none) = some ds := hd'
        split at hd'
        · rename_i hb
          cases hd'
          obtain ⟨a, vs, rfl, h1, h2⟩ := R1
          have ev := allStr_ok h2 ha
          subst ev
          refine ⟨a, xs, rfl, sqT_mono S1.fz h1, hb, fun a2 c ha2 => ?_⟩
          refine ⟨a2, _, c, rfl, upd_same, fun zs p nd hmem hpw => ?_⟩
          have ez : sortStrs zs = sortStrs (dedupS xs) := sortStrs_perm (perm_of_nodup nd (nd_dedupS xs) fun x => by rw [hmem, decide_eq_true_eq, mem_dedupS])
          rw [ez]
          have hp1 : H1 p = none := by
            by_cases hpa : p = a2
            · rw [hpa]
              exact ha2
            · rw [upd_ne hpa] at hpw
              exact hpw
          have hnw : p ∉ φ1 := fun z => by
            obtain ⟨u, hu⟩ := S1.mem z
            rw [hp1] at hu
            cases hu
          have hz : Z1 p = none := by
            cases q : Z1 p with
            | none => rfl
            | some u =>
              rw [S1.fz p u q] at hp1
              cases hp1
          exact w1 (.ref p) Z1 φ1 _ ((Ext.same (same_upd ha2)).trans (Ext.same (same_upd hpw))) ((S1.same (same_upd ha2)).same (same_upd hpw)) ⟨p, _, rfl, upd_same, .of hp1, hnw, hz, reps_strs _⟩
        · cases hd'
    | _ => cases hdw
end
end Tl
/-! THead: what the program's top leaves, as the walk asks it. -/
namespace Tl
open PySem L2
/-- a def of the module, at f -/
structure DefAt (K : PySem.W.Frag) (x : Str) (st : Stmt) (f : Addr) : Prop where
  a : PySem.W.nsIn K mainGlobals x = some (some (.ref f))
  l : ∃ (oc : Value) (od an : Option Addr) (kV dc pm cd ct : Value) (sl : Array (Option Value)), K.lookup f = some ⟨oc, od, .func (PySem.W.fnOf x x (defArgs st) (defBody st) (defScope st) .none kV dc pm an cd ct), sl⟩ ∧ PySem.W.codeIn K cd x = true
  k : PySem.W.keepIn K (.ref f) = true
/-- .. one whose code object is at c -/
structure DefCAt (K : PySem.W.Frag) (x : Str) (st : Stmt) (f c : Addr) : Prop where
  a : PySem.W.nsIn K mainGlobals x = some (some (.ref f))
  l : ∃ (oc : Value) (od an : Option Addr) (kV dc pm ct : Value) (sl : Array (Option Value)), K.lookup f = some ⟨oc, od, .func (PySem.W.fnOf x x (defArgs st) (defBody st) (defScope st) .none kV dc pm an (.ref c) ct), sl⟩ ∧ PySem.W.codeIn K (.ref c) x = true
  k : PySem.W.keepIn K (.ref f) = true
section
variable {K : PySem.W.Frag} {h : Heap} {mg : Str → Option Value} {x : Str} {st : Stmt} {f c : Addr}
theorem DefAt.fn (d : DefAt K x st f) : ∃ (kV dc pm : Value) (an : Option Addr) (cd ct : Value), Fun K x x st f (PySem.W.fnOf x x (defArgs st) (defBody st) (defScope st) .none kV dc pm an cd ct) := by
  obtain ⟨oc, od, an, kV, dc, pm, cd, ct, sl, h1, h2⟩ := d.l
  exact ⟨kV, dc, pm, an, cd, ct, fun_mk h1 h2 d.k⟩
theorem DefCAt.fn (d : DefCAt K x st f c) : ∃ (kV dc pm : Value) (an : Option Addr) (ct : Value), FunC K x x st f (PySem.W.fnOf x x (defArgs st) (defBody st) (defScope st) .none kV dc pm an (.ref c) ct) (.ref c) := by
  obtain ⟨oc, od, an, kV, dc, pm, ct, sl, h1, h2⟩ := d.l
  exact ⟨kV, dc, pm, an, ct, ⟨oc, od, kV, dc, pm, an, ct, sl, rfl, h1, h2⟩⟩
theorem binds_of {fd : FuncData} {ps : List Str} (h : ∀ us : List Value, us.length = ps.length → bindArgs fd ⟨us, []⟩ = pure (ps.zip us)) : Binds K fd ps [] := .all h
/-! constants of the module -/
theorem gc_int {i : Int} {t : Tok} (X : K.In h) (G : h.Ns mainGlobals mg) (e : PySem.W.nsIn K mainGlobals x = some (some (.int i t))) : GC K mg x (.int i) := ⟨.int i, _, PySem.W.mg_of X G e, ⟨t, rfl⟩, fun _ _ => rfl⟩
theorem gc_str {i : Str} {t : Tok} (X : K.In h) (G : h.Ns mainGlobals mg) (e : PySem.W.nsIn K mainGlobals x = some (some (.str i t))) : GC K mg x (.str i) := ⟨.str i, _, PySem.W.mg_of X G e, ⟨t, rfl⟩, fun _ _ => rfl⟩
/-- values that are ints and texts -/
def flatOk : List Value → List D → Bool
  | [], [] => true
  | .int i _ :: vs, .int j :: ds => decide (i = j) && flatOk vs ds
  | .str i _ :: vs, .str j :: ds => decide (i = j) && flatOk vs ds
  | _, _ => false
theorem flat_reps {Z : Hp} {φ : List Addr} : ∀ {vs : List Value} {ds : List D}, flatOk vs ds = true → ∃ xs, Reps K Z φ ds xs ∧ Vals xs vs
  | [], ds, h => by
    cases ds with
    | nil => exact ⟨[], rfl, .nil⟩
    | cons d ds => cases h
  | v :: vs, ds, h => by
    cases ds with
    | nil => cases v <;> cases h
    | cons d ds =>
      cases v with
      | int i t =>
        cases d with
        | int j =>
          have h' : (decide (i = j) && flatOk vs ds) = true := h
          rw [Bool.and_eq_true, decide_eq_true_eq] at h'
          obtain ⟨xs, h1, h2⟩ := flat_reps (Z := Z) (φ := φ) h'.2
          exact ⟨.int j :: xs, Reps.cons rfl h1, .cons ⟨t, by rw [h'.1]⟩ h2⟩
        | _ => cases h
      | str i t =>
        cases d with
        | str j =>
          have h' : (decide (i = j) && flatOk vs ds) = true := h
          rw [Bool.and_eq_true, decide_eq_true_eq] at h'
          obtain ⟨xs, h1, h2⟩ := flat_reps (Z := Z) (φ := φ) h'.2
          exact ⟨.str j :: xs, Reps.cons rfl h1, .cons ⟨t, by rw [h'.1]⟩ h2⟩
        | _ => cases h
      | _ => cases h
theorem gc_tup {a : Addr} {dd : Option Addr} {its : Array Value} {n : Nat} {sl : Array (Option Value)} {ds : List D} (X : K.In h) (G : h.Ns mainGlobals mg) (e : PySem.W.nsIn K mainGlobals x = some (some (.ref a))) (lk : K.lookup a = some ⟨.type "tuple", dd, .seq its n, sl⟩) (hz : its.size ≤ sizeLine) (hf : flatOk its.toList ds = true) : GC K mg x (.tup ds) := by
  refine ⟨.ref a, _, PySem.W.mg_of X G e, rfl, fun Z φ => ?_⟩
  obtain ⟨xs, h1, h2⟩ := flat_reps (Z := Z) (φ := φ) hf
  exact ⟨a, xs, rfl, .inr ⟨_, its, n, lk, rfl, rfl, hz, h2⟩, h1⟩
/-! an own exception class that is raised -/
structure ExcAt (K : PySem.W.Frag) (x : Str) (C : Addr) (B newId : String) (bmB : List Value) : Prop where
  a : PySem.W.nsIn K mainGlobals x = some (some (.ref C))
  k : PySem.W.keepIn K (.ref C) = true
  q : PySem.W.excIn K C bmB newId = true
  s : PySem.W.subIn K (.ref C) (.type "BaseException") = some true
  t : PySem.W.typeIn K (.ref C) = some (.type "type")
theorem raise_of {C : Addr} {B newId initId : String} {bmB : List Value} (F : ExcBaseFacts B newId initId bmB) (E : ExcAt K x C B newId bmB) (X0 : K.In h) (G : h.Ns mainGlobals mg) (hdb : (x == ("__debug__" : Str)) = false) {T : List (Addr × Str)} {X : Cx} {W : WX} {k : Nat} {m : Str} {j : Nat} {p p2 pos p3 : Pos} (h1 : X.K = K) (h2 : X.mg = mg) (I : In X W k) (hg : X.env.kindOf x = some .globalImplicit) :
    PS X (.Raise (some (.Call (.Name x p) [.Constant (.str m) j p2] [] pos)) none p3) (tS X T W (sRaise x)) := by
  subst h1 h2
  exact s_raise I.calm I.tk F E.q (PySem.W.mg_of X0 G E.a) E.k (raises_own E.s E.t) hg hdb
end
/-- the law's promise at its entry -/
theorem law_entry {K : PySem.W.Frag} {mg : Str → Option Value} {T : List (Addr × Str)} {f : List D → List O → RR D} {H : Hp} {a : Addr} {ns : List Int} (hT : ∀ p ∈ T, H p.1 = some (.tbl #[])) (hS : SqL K H a (ns.map V.int)) (hf : ∃ st, f [.scr (ns.map .int)] [] = .ok (.bl true) st) :
    spC K mg T 1 f [.ref a] H (fun v _ => v = .bl true) fun _ _ _ => False := by
  obtain ⟨st, hf⟩ := hf
  have reps : ∀ (Z : Hp) (ns : List Int), Reps K Z [] (ns.map .int) (ns.map V.int) := fun Z ns => by
    induction ns with
    | nil => rfl
    | cons n ns ih => exact Reps.cons rfl ih
  have tb : LamX.Tabs T H := fun p hp => LamX.TabS.nil (hT p hp)
  have go : ∀ Z : Hp, (∀ b o, Z b = some o → H b = some o) → (∀ b ps, Z b ≠ some (.tbl ps)) → SqL K Z a (ns.map V.int) → spC K mg T 1 f [.ref a] H (fun v _ => v = .bl true) fun _ _ _ => False := fun Z h1 h2 h3 => by
    refine ⟨Z, [], [], [.scr (ns.map .int)], ⟨h1, List.nodup_nil, rfl, (fun _ h => by cases h), (fun n o a h => by simp at h), tb, h2⟩, Reps.cons ⟨a, _, rfl, h3, reps Z ns⟩ Reps.nil, rfl, ?_⟩
    rw [hf]
    exact fun v Z' φ' H' _ _ r => r
  rcases hS with hS | hS
  · refine go (fun b => if b = a then H a else none) (fun b o e => ?_) (fun b ps e => ?_) (.inl ?_)
    · by_cases z : b = a
      · rw [if_pos z] at e
        rw [z]
        exact e
      · rw [if_neg z] at e
        cases e
    · by_cases z : b = a
      · rw [if_pos z] at e
        rcases hS with hS | ⟨o, hS⟩
        · rw [hS] at e
          cases e
        · rw [hS] at e
          cases e
      · rw [if_neg z] at e
        cases e
    · rcases hS with hS | ⟨o, hS⟩
      · exact .inl (by show (if a = a then H a else none) = _; rw [if_pos rfl]; exact hS)
      · exact .inr ⟨o, by show (if a = a then H a else none) = _; rw [if_pos rfl]; exact hS⟩
  · exact go (fun _ => none) (fun _ _ e => by cases e) (fun _ _ e => by cases e) (.inr hS)
section
variable {K : PySem.W.Frag} {C c P : Addr} {t : Value} {b : Bool}
theorem kit_ref (hd : PySem.W.hasDictIn K C = true) (ht : PySem.W.typeIn K (.ref C) = some (.type "type")) (h : PySem.W.subIn K t (.ref C) = some b) (hn : (t == .ref C) = false) : PySem.W.kitOne K t (.ref C) = some b := by
  unfold PySem.W.kitOne PySem.W.kitCls
  rw [if_neg (by rw [hn]; decide)]
  obtain ⟨cd, hc, _⟩ := PySem.W.any_some hd
  have e2 : ((PySem.W.clsIn K C).isSome && PySem.W.typeIn K (.ref C) == some (.type "type")) = true := by rw [hc, ht] <;> rfl
  show (if ((PySem.W.clsIn K C).isSome && PySem.W.typeIn K (.ref C) == some (.type "type")) = true then PySem.W.subIn K t (.ref C) else none) = some b
  rw [if_pos e2]
  exact h
theorem kit_self : PySem.W.kitOne K (.ref C) (.ref C) = some true := by
  unfold PySem.W.kitOne
  rw [if_pos (by simp)]
def codeFld (vs : Array Value) (c P : Addr) : Bool := (match (vs[11]? : Option Value) with | some (.ref P') => P' == P | _ => false) && (match vs.getD 18 .none with | .str _ _ => true | _ => false) && (match vs.getD 7 .none with | .int _ _ => true | _ => false) && (match vs.getD 9 .none with | .bool _ => true | _ => false) && (match vs.getD 10 .none with | .int _ _ => true | _ => false) && c != P
theorem codeHd_in {dd : Option Addr} {vs : Array Value} {sl : Array (Option Value)} (l : K.lookup c = some ⟨.type "code", dd, .fields vs, sl⟩) (h : codeFld vs c P = true) : PySem.W.codeHdIn K c P = true := by
  unfold PySem.W.codeHdIn
  rw [l]
  exact h
end
end Tl
namespace Tk
open PySem L2 Tl PyProof.Rows
def top (i : Nat) : Stmt := PySem.Challenge.pw_alongall_k00_weaves_and_letters_judged.main.body.getD i (.Pass ⟨0, 0, 0, 0⟩)
abbrev st_is_name : Stmt := top 6
abbrev N_is_name : List Str := ["thing", "sign"]
abbrev P_is_name : List Str := ["thing"]
theorem sc_is_name : FnScope N_is_name P_is_name (defScope st_is_name) := ⟨rfl, rfl, rfl, by decide +kernel, rfl, by decide +kernel, by decide +kernel⟩
abbrev st_are_names : Stmt := top 11
abbrev N_are_names : List Str := ["thing", "one", "other", "name"]
abbrev P_are_names : List Str := ["thing"]
theorem sc_are_names : FnScope N_are_names P_are_names (defScope st_are_names) := ⟨rfl, rfl, rfl, by decide +kernel, rfl, by decide +kernel, by decide +kernel⟩
abbrev st_is_scope : Stmt := top 12
abbrev N_is_scope : List Str := ["thing"]
abbrev P_is_scope : List Str := ["thing"]
theorem sc_is_scope : FnScope N_is_scope P_is_scope (defScope st_is_scope) := ⟨rfl, rfl, rfl, by decide +kernel, rfl, by decide +kernel, by decide +kernel⟩
abbrev st_need_scope : Stmt := top 13
abbrev N_need_scope : List Str := ["scope"]
abbrev P_need_scope : List Str := ["scope"]
theorem sc_need_scope : FnScope N_need_scope P_need_scope (defScope st_need_scope) := ⟨rfl, rfl, rfl, by decide +kernel, rfl, by decide +kernel, by decide +kernel⟩
abbrev st_letters_of : Stmt := top 14
abbrev N_letters_of : List Str := ["scope", "found", "name", "letter"]
abbrev P_letters_of : List Str := ["scope"]
theorem sc_letters_of : FnScope N_letters_of P_letters_of (defScope st_letters_of) := ⟨rfl, rfl, rfl, by decide +kernel, rfl, by decide +kernel, by decide +kernel⟩
abbrev st_letters : Stmt := top 15
abbrev N_letters : List Str := ["scope"]
abbrev P_letters : List Str := ["scope"]
theorem sc_letters : FnScope N_letters P_letters (defScope st_letters) := ⟨rfl, rfl, rfl, by decide +kernel, rfl, by decide +kernel, by decide +kernel⟩
abbrev st_is_letter : Stmt := top 16
abbrev N_is_letter : List Str := ["scope", "thing", "name"]
abbrev P_is_letter : List Str := ["scope", "thing"]
theorem sc_is_letter : FnScope N_is_letter P_is_letter (defScope st_is_letter) := ⟨rfl, rfl, rfl, by decide +kernel, rfl, by decide +kernel, by decide +kernel⟩
abbrev st_inner : Stmt := top 17
abbrev N_inner : List Str := ["weave"]
abbrev P_inner : List Str := ["weave"]
theorem sc_inner : FnScope N_inner P_inner (defScope st_inner) := ⟨rfl, rfl, rfl, by decide +kernel, rfl, by decide +kernel, by decide +kernel⟩
abbrev st_heads : Stmt := top 18
abbrev N_heads : List Str := ["thing", "sizes"]
abbrev P_heads : List Str := ["thing"]
theorem sc_heads : FnScope N_heads P_heads (defScope st_heads) := ⟨rfl, rfl, rfl, by decide +kernel, rfl, by decide +kernel, by decide +kernel⟩
abbrev st_is_weave_of : Stmt := top 19
abbrev N_is_weave_of : List Str := ["scope", "thing", "line", "done", "here", "deep", "part"]
abbrev P_is_weave_of : List Str := ["scope", "thing"]
theorem sc_is_weave_of : FnScope N_is_weave_of P_is_weave_of (defScope st_is_weave_of) := ⟨rfl, rfl, rfl, by decide +kernel, rfl, by decide +kernel, by decide +kernel⟩
abbrev st_rises : Stmt := top 20
abbrev N_rises : List Str := ["parts", "one", "other"]
abbrev P_rises : List Str := ["parts"]
theorem sc_rises : FnScope N_rises P_rises (defScope st_rises) := ⟨rfl, rfl, rfl, by decide +kernel, rfl, by decide +kernel, by decide +kernel⟩
abbrev st_is_weave : Stmt := top 21
abbrev N_is_weave : List Str := ["scope", "thing"]
abbrev P_is_weave : List Str := ["scope", "thing"]
theorem sc_is_weave : FnScope N_is_weave P_is_weave (defScope st_is_weave) := ⟨rfl, rfl, rfl, by decide +kernel, rfl, by decide +kernel, by decide +kernel⟩
abbrev st__law_begun : Stmt := top 23
abbrev N__law_begun : List Str := ["script", "wide", "grain"]
abbrev P__law_begun : List Str := ["script"]
theorem sc__law_begun : FnScope N__law_begun P__law_begun (defScope st__law_begun) := ⟨rfl, rfl, rfl, by decide +kernel, rfl, by decide +kernel, by decide +kernel⟩
abbrev st__law_mixed : Stmt := top 24
abbrev N__law_mixed : List Str := ["draw", "turn", "found", "prime", "blend", "grain"]
abbrev P__law_mixed : List Str := ["draw"]
theorem sc__law_mixed : FnScope N__law_mixed P__law_mixed (defScope st__law_mixed) := ⟨rfl, rfl, rfl, by decide +kernel, rfl, by decide +kernel, by decide +kernel⟩
abbrev st__law_take : Stmt := top 25
abbrev N__law_take : List Str := ["draw", "many", "found"]
abbrev P__law_take : List Str := ["draw", "many"]
theorem sc__law_take : FnScope N__law_take P__law_take (defScope st__law_take) := ⟨rfl, rfl, rfl, by decide +kernel, rfl, by decide +kernel, by decide +kernel⟩
abbrev st__law_pick : Stmt := top 26
abbrev N__law_pick : List Str := ["draw", "some"]
abbrev P__law_pick : List Str := ["draw", "some"]
theorem sc__law_pick : FnScope N__law_pick P__law_pick (defScope st__law_pick) := ⟨rfl, rfl, rfl, by decide +kernel, rfl, by decide +kernel, by decide +kernel⟩
abbrev st__law_shuffled : Stmt := top 27
abbrev N__law_shuffled : List Str := ["draw", "some", "left", "found"]
abbrev P__law_shuffled : List Str := ["draw", "some"]
theorem sc__law_shuffled : FnScope N__law_shuffled P__law_shuffled (defScope st__law_shuffled) := ⟨rfl, rfl, rfl, by decide +kernel, rfl, by decide +kernel, by decide +kernel⟩
abbrev st__law_caught : Stmt := top 28
abbrev N__law_caught : List Str := ["work", "error", "caught"]
abbrev P__law_caught : List Str := ["work"]
theorem sc__law_caught : FnScope N__law_caught P__law_caught (defScope st__law_caught) := ⟨rfl, rfl, rfl, by decide +kernel, rfl, by decide +kernel, by decide +kernel⟩
abbrev st__law_names : Stmt := top 29
abbrev N__law_names : List Str := ["draw", "many", "some", "one", "stem", "other"]
abbrev P__law_names : List Str := ["draw", "many"]
theorem sc__law_names : FnScope N__law_names P__law_names (defScope st__law_names) := ⟨rfl, rfl, rfl, by decide +kernel, rfl, by decide +kernel, by decide +kernel⟩
abbrev st__law_scope : Stmt := top 30
abbrev N__law_scope : List Str := ["draw", "most"]
abbrev P__law_scope : List Str := ["draw", "most"]
theorem sc__law_scope : FnScope N__law_scope P__law_scope (defScope st__law_scope) := ⟨rfl, rfl, rfl, by decide +kernel, rfl, by decide +kernel, by decide +kernel⟩
abbrev st__law_letters : Stmt := top 31
abbrev N__law_letters : List Str := ["scope", "found", "name", "letter"]
abbrev P__law_letters : List Str := ["scope"]
theorem sc__law_letters : FnScope N__law_letters P__law_letters (defScope st__law_letters) := ⟨rfl, rfl, rfl, by decide +kernel, rfl, by decide +kernel, by decide +kernel⟩
abbrev st__law_paths : Stmt := top 32
abbrev N__law_paths : List Str := ["thing", "found", "k", "part", "path"]
abbrev P__law_paths : List Str := ["thing"]
theorem sc__law_paths : FnScope N__law_paths P__law_paths (defScope st__law_paths) := ⟨rfl, rfl, rfl, by decide +kernel, rfl, by decide +kernel, by decide +kernel⟩
abbrev st__law_part : Stmt := top 33
abbrev N__law_part : List Str := ["thing", "path"]
abbrev P__law_part : List Str := ["thing", "path"]
theorem sc__law_part : FnScope N__law_part P__law_part (defScope st__law_part) := ⟨rfl, rfl, rfl, by decide +kernel, rfl, by decide +kernel, by decide +kernel⟩
abbrev st__law_put : Stmt := top 34
abbrev N__law_put : List Str := ["thing", "path", "part"]
abbrev P__law_put : List Str := ["thing", "path", "part"]
theorem sc__law_put : FnScope N__law_put P__law_put (defScope st__law_put) := ⟨rfl, rfl, rfl, by decide +kernel, rfl, by decide +kernel, by decide +kernel⟩
abbrev st__law_odd : Stmt := top 35
abbrev N__law_odd : List Str := ["draw", "part", "words", "at", "some"]
abbrev P__law_odd : List Str := ["draw", "part", "words"]
theorem sc__law_odd : FnScope N__law_odd P__law_odd (defScope st__law_odd) := ⟨rfl, rfl, rfl, by decide +kernel, rfl, by decide +kernel, by decide +kernel⟩
abbrev st__law_bent : Stmt := top 36
abbrev N__law_bent : List Str := ["draw", "thing", "words", "path"]
abbrev P__law_bent : List Str := ["draw", "thing", "words"]
theorem sc__law_bent : FnScope N__law_bent P__law_bent (defScope st__law_bent) := ⟨rfl, rfl, rfl, by decide +kernel, rfl, by decide +kernel, by decide +kernel⟩
abbrev st__law_once : Stmt := top 37
abbrev N__law_once : List Str := ["some", "found", "one"]
abbrev P__law_once : List Str := ["some"]
theorem sc__law_once : FnScope N__law_once P__law_once (defScope st__law_once) := ⟨rfl, rfl, rfl, by decide +kernel, rfl, by decide +kernel, by decide +kernel⟩
abbrev st__law_weave : Stmt := top 38
abbrev N__law_weave : List Str := ["draw", "scope", "left", "chance", "one", "some", "k"]
abbrev P__law_weave : List Str := ["draw", "scope", "left"]
theorem sc__law_weave : FnScope N__law_weave P__law_weave (defScope st__law_weave) := ⟨rfl, rfl, rfl, by decide +kernel, rfl, by decide +kernel, by decide +kernel⟩
abbrev st__law_inner : Stmt := top 39
abbrev N__law_inner : List Str := ["weave"]
abbrev P__law_inner : List Str := ["weave"]
theorem sc__law_inner : FnScope N__law_inner P__law_inner (defScope st__law_inner) := ⟨rfl, rfl, rfl, by decide +kernel, rfl, by decide +kernel, by decide +kernel⟩
abbrev st__law_nodes : Stmt := top 40
abbrev N__law_nodes : List Str := ["weave", "found", "k", "part", "path"]
abbrev P__law_nodes : List Str := ["weave"]
theorem sc__law_nodes : FnScope N__law_nodes P__law_nodes (defScope st__law_nodes) := ⟨rfl, rfl, rfl, by decide +kernel, rfl, by decide +kernel, by decide +kernel⟩
abbrev st__law_are_names : Stmt := top 41
abbrev N__law_are_names : List Str := ["thing", "name", "sign"]
abbrev P__law_are_names : List Str := ["thing"]
theorem sc__law_are_names : FnScope N__law_are_names P__law_are_names (defScope st__law_are_names) := ⟨rfl, rfl, rfl, by decide +kernel, rfl, by decide +kernel, by decide +kernel⟩
abbrev st__law_is_weave : Stmt := top 42
abbrev N__law_is_weave : List Str := ["scope", "thing", "deep", "sizes", "parts", "part", "name"]
abbrev P__law_is_weave : List Str := ["scope", "thing", "deep"]
theorem sc__law_is_weave : FnScope N__law_is_weave P__law_is_weave (defScope st__law_is_weave) := ⟨rfl, rfl, rfl, by decide +kernel, rfl, by decide +kernel, by decide +kernel⟩
abbrev st__law_said : Stmt := top 43
abbrev N__law_said : List Str := ["scope", "thing"]
abbrev P__law_said : List Str := ["scope", "thing"]
theorem sc__law_said : FnScope N__law_said P__law_said (defScope st__law_said) := ⟨rfl, rfl, rfl, by decide +kernel, rfl, by decide +kernel, by decide +kernel⟩
abbrev st_law : Stmt := top 44
abbrev N_law : List Str := ["script", "draw", "turn", "scope", "weave", "thing", "lap", "odd", "is_scope_v", "many", "word", "wide", "small"]
abbrev P_law : List Str := ["script"]
theorem sc_law : FnScope N_law P_law (defScope st_law) := ⟨rfl, rfl, rfl, by decide +kernel, rfl, by decide +kernel, by decide +kernel⟩
/-! the evaluators -/
def sub_BadScope : Str → Option Bool := fun c => if c = "BadScope" then some true else none
def f_is_name (C : Nat → List D → List O → RR D) : Sm := sSeq (sIf (eOrT (eNot (eTru (eIsi "str" (eVar 0)))) (eOrT (eNot (eIs (eCh (pr2 dLe) (pr2 dLe) (eC (.int 1)) (ePr (pr1 dLen) (eCons (eVar 0) (eNil))) (eC (.int 8))))) (eIs (eBin (pr2 (dIn false)) (eVar 0) (eC (.tup [(.str "ahead"), (.str "all"), (.str "apart"), (.str "bare"), (.str "both"), (.str "dense"), (.str "down"), (.str "either"), (.str "finite"), (.str "first"), (.str "last"), (.str "next"), (.str "not"), (.str "one"), (.str "same"), (.str "scattered"), (.str "some"), (.str "sub"), (.str "well")])))))) (sRet (eC (.bl false))) (sNext)) (sRet (ePr (pr1 dAll) (eCons (eFrz (eComp (eSrc (eVar 0)) (GT.nm 1) (tYesT) (eCh (pr2 dLe) (pr2 dLe) (eC (.str "a")) (eVar 1) (eC (.str "z"))) [1])) (eNil))))
def f_are_names (C : Nat → List D → List O → RR D) : Sm := sSeq (sIf (eOrT (eNot (eTru (eIsi "tuple" (eVar 0)))) (eNot (eTru (ePr (pr1 dAll) (eCons (eFrz (eComp (eSrc (eVar 0)) (GT.nm 3) (tYesT) (eCall (C 0) 1 (eCons (eVar 3) (eNil))) [3])) (eNil)))))) (sRet (eC (.bl false))) (sNext)) (sRet (ePr (pr1 dAll) (eCons (eFrz (eComp (eZip (eCons (eVar 0) (eCons (eSl dSl (eVar 0) (ePart (eC (.int 1))) (eNoPart)) (eNil)))) (GT.tp [GT.nm 1, GT.nm 2]) (tYesT) (eBin (pr2 dLt) (eVar 1) (eVar 2)) [1, 2])) (eNil))))
def f_is_scope (C : Nat → List D → List O → RR D) : Sm := sRet (eAndV (eCall (C 1) 1 (eCons (eVar 0) (eNil))) (eBin (pr2 dLe) (ePr (pr1 dLen) (eCons (eVar 0) (eNil))) (eC (.int 3))))
def f_need_scope (C : Nat → List D → List O → RR D) : Sm := sIf (eNot (eTru (eCall (C 2) 1 (eCons (eVar 0) (eNil))))) (sRaise "BadScope") (sNext)
def f_letters_of (C : Nat → List D → List O → RR D) : Sm := sSeq (sAsg (eFrz (eLim (eCons (eTup (eNil)) (eNil)))) (GT.nm 1)) (sSeq (sFor (eSrc (eVar 0)) (GT.nm 2) (sAsg (eBin (pr2 dAdd) (eVar 1) (eFrz (eComp (eSrc (eVar 1)) (GT.nm 3) (tYesT) (eBin (pr2 dAdd) (eVar 3) (eTup (eCons (eVar 2) (eNil)))) [3]))) (GT.nm 1))) (sRet (eVar 1)))
def f_letters (C : Nat → List D → List O → RR D) : Sm := sSeq (sDrop (eCall (C 3) 1 (eCons (eVar 0) (eNil)))) (sRet (ePr (pr1 dTuple) (eCons (eCall (C 4) 1 (eCons (eVar 0) (eNil))) (eNil))))
def f_is_letter (C : Nat → List D → List O → RR D) : Sm := sRet (eAndV (eCall (C 1) 1 (eCons (eVar 1) (eNil))) (ePr (pr1 dAll) (eCons (eFrz (eComp (eSrc (eVar 1)) (GT.nm 2) (tYesT) (eBin (pr2 (dIn false)) (eVar 2) (eVar 0)) [2])) (eNil))))
def f_inner (C : Nat → List D → List O → RR D) : Sm := sSeq (sIf (eIs (eBin (pr2 (dEq false)) (eBin (pr2 dIx) (eVar 0) (eC (.int 0))) (eC (.str "mix")))) (sRet (eBin (pr2 dIx) (eVar 0) (eC (.int 1)))) (sNext)) (sRet (eIfE (eIs (eBin (pr2 (dIn false)) (eBin (pr2 dIx) (eVar 0) (eC (.int 0))) (eTup (eCons (eC (.str "none")) (eCons (eC (.str "letter")) (eNil)))))) (eTup (eNil)) (eSl dSl (eVar 0) (ePart (eC (.int 1))) (eNoPart))))
def f_heads (C : Nat → List D → List O → RR D) : Sm := sSeq (sIf (eOrT (eNot (eTru (eIsi "tuple" (eVar 0)))) (eOrT (eIs (eBin (pr2 (dEq false)) (eVar 0) (eTup (eNil)))) (eNot (eTru (eIsi "str" (eBin (pr2 dIx) (eVar 0) (eC (.int 0)))))))) (sRet (eC (.bl false))) (sNext)) (sSeq (sAsg (eDict [(eC (.str "none"), eC (.int 1)), (eC (.str "letter"), eC (.int 2)), (eC (.str "then"), eC (.int 3)), (eC (.str "on"), eC (.int 2)), (eC (.str "back"), eC (.int 2)), (eC (.str "mix"), eC (.int 2))]) (GT.nm 1)) (sSeq (sIf (eOrT (eIs (eBin (pr2 (dIn true)) (eBin (pr2 dIx) (eVar 0) (eC (.int 0))) (eVar 1))) (eIs (eBin (pr2 (dEq true)) (ePr (pr1 dLen) (eCons (eVar 0) (eNil))) (eBin (pr2 dIx) (eVar 1) (eBin (pr2 dIx) (eVar 0) (eC (.int 0))))))) (sRet (eC (.bl false))) (sNext)) (sRet (eOrV (eBin (pr2 (dEq true)) (eBin (pr2 dIx) (eVar 0) (eC (.int 0))) (eC (.str "mix"))) (eAndV (eIsi "tuple" (eBin (pr2 dIx) (eVar 0) (eC (.int 1)))) (eBin (pr2 (dEq true)) (eBin (pr2 dIx) (eVar 0) (eC (.int 1))) (eTup (eNil))))))))
def f_is_weave_of (C : Nat → List D → List O → RR D) : Sm := sSeq (sAsg (eAll (eLim (eCons (eTup (eCons (eVar 1) (eCons (eC (.int 1)) (eNil)))) (eNil)))) (GT.nm 2)) (sSeq (sAsg (eC (.int 0)) (GT.nm 3)) (sSeq (goW (eIs (eBin (pr2 dLt) (eVar 3) (ePr (pr1 dLen) (eCons (eVar 2) (eNil))))) (sSeq (sAsg (eBin (pr2 dIx) (eVar 2) (eVar 3)) (GT.tp [GT.nm 4, GT.nm 5])) (sSeq (sAug dIadd 3 (eC (.int 1))) (sSeq (sIf (eOrT (eNot (eTru (eCall (C 8) 1 (eCons (eVar 4) (eNil))))) (eOrT (eIs (eBin (pr2 dGt) (eVar 5) (eC (.int 60)))) (eIs (eBin (pr2 dGt) (ePr (pr1 dLen) (eCons (eVar 2) (eNil))) (eC (.int 400)))))) (sRet (eC (.bl false))) (sNext)) (sIf (eIs (eBin (pr2 (dEq false)) (eBin (pr2 dIx) (eVar 4) (eC (.int 0))) (eC (.str "letter")))) (sIf (eNot (eTru (eCall (C 6) 2 (eCons (eVar 0) (eCons (eBin (pr2 dIx) (eVar 4) (eC (.int 1))) (eNil)))))) (sRet (eC (.bl false))) (sNext)) (sDrop (eMt "list" mExtend (eVar 2) (eCons (eFrz (eComp (eSrc (eCall (C 7) 1 (eCons (eVar 4) (eNil)))) (GT.nm 6) (tYesT) (eTup (eCons (eVar 6) (eCons (eBin (pr2 dAdd) (eVar 5) (eC (.int 1))) (eNil)))) [6])) (eNil)))))))) fuel) (sRet (ePr (pr1 dAll) (eCons (eFrz (eComp (eSrc (eVar 2)) (GT.tp [GT.nm 4, GT.nm 5]) (eIs (eBin (pr2 (dEq false)) (eBin (pr2 dIx) (eVar 4) (eC (.int 0))) (eC (.str "mix")))) (eCall (C 10) 1 (eCons (eBin (pr2 dIx) (eVar 4) (eC (.int 1))) (eNil))) [4, 5])) (eNil))))))
def f_rises (C : Nat → List D → List O → RR D) : Sm := sRet (ePr (pr1 dAll) (eCons (eFrz (eComp (eZip (eCons (eVar 0) (eCons (eSl dSl (eVar 0) (ePart (eC (.int 1))) (eNoPart)) (eNil)))) (GT.tp [GT.nm 1, GT.nm 2]) (tYesT) (eBin (pr2 dLt) (eVar 1) (eVar 2)) [1, 2])) (eNil)))
def f_is_weave (C : Nat → List D → List O → RR D) : Sm := sSeq (sDrop (eCall (C 3) 1 (eCons (eVar 0) (eNil)))) (sRet (eCall (C 9) 2 (eCons (eVar 0) (eCons (eVar 1) (eNil)))))
def f__law_begun (C : Nat → List D → List O → RR D) : Sm := sSeq (sAsg (eAll (eComp (eSrc (eVar 0)) (GT.nm 2) (eIs (eBin (pr2 dGe) (ePr (pr1 dAbs) (eCons (eVar 2) (eNil))) (eBin (pr2 dPow) (eC (.int 10)) (eC (.int 18))))) (eBin (pr2 dSub) (ePr (pr1 dAbs) (eCons (eVar 2) (eNil))) (eBin (pr2 dPow) (eC (.int 10)) (eC (.int 18)))) [2])) (.nm 1)) (sRet (eDict [(eC (.str "wide"), eVar 1), (eC (.str "cells"), eFrz (eComp (eSrc (eVar 0)) (GT.nm 2) (tYesT) (eBin (pr2 dMod) (ePr (pr1 dInt) (eCons (ePr (pr1 dAbs) (eCons (eVar 2) (eNil))) (eNil))) (eC (.int 2147483629))) [2])), (eC (.str "rest"), eC (.int 0)), (eC (.str "turn"), eC (.int 0))]))
def f__law_mixed (C : Nat → List D → List O → RR D) : Sm := sSeq (sPar (eCons (eBin (pr2 dAdd) (eBin (pr2 dIx) (eVar 0) (eC (.str "turn"))) (eC (.int 1))) (eCons (eC (.int 0)) (eNil))) 1 2) (sSeq (sPut dPut (eVar 1) (eVar 0) (eC (.str "turn"))) (sSeq (sFor (eSrc (eFrz (eLim (eCons (eC (.int 2147483647)) (eCons (eC (.int 2147483629)) (eCons (eC (.int 2147483587)) (eCons (eC (.int 2147483579)) (eNil)))))))) (GT.nm 3) (sSeq (sAsg (eBin (pr2 dAdd) (eBin (pr2 dMul) (eC (.int 48271)) (eVar 1)) (eBin (pr2 dDiv) (eVar 3) (eC (.int 37)))) (GT.nm 4)) (sSeq (sFor (eSrc (eBin (pr2 dIx) (eVar 0) (eC (.str "cells")))) (GT.nm 5) (sAsg (eBin (pr2 dMod) (ePr (pr1 dInt) (eCons (eBin (pr2 dAdd) (eBin (pr2 dAdd) (eBin (pr2 dMul) (eVar 4) (eC (.int 69621))) (eVar 5)) (eVar 1)) (eNil))) (eVar 3)) (GT.nm 4))) (sAsg (eBin (pr2 dAdd) (eBin (pr2 dMul) (eVar 2) (eC (.int 2147483647))) (eBin (pr2 dMod) (ePr (pr1 dInt) (eCons (eBin (pr2 dPow) (eVar 4) (eC (.int 5))) (eNil))) (eVar 3))) (GT.nm 2))))) (sRet (eVar 2))))
def f__law_take (C : Nat → List D → List O → RR D) : Sm := sSeq (sIf (eIs (eBin (pr2 (dEq false)) (eBin (pr2 dIx) (eVar 0) (eC (.str "rest"))) (eC (.int 0)))) (sPut dPut (eIfE (eIs (eBin (pr2 (dEq true)) (eBin (pr2 dIx) (eVar 0) (eC (.str "wide"))) (eFrz (eLim (eNil))))) (eMt "list" mPopAt (eBin (pr2 dIx) (eVar 0) (eC (.str "wide"))) (eCons (eC (.int 0)) (eNil))) (eCall (C 13) 1 (eCons (eVar 0) (eNil)))) (eVar 0) (eC (.str "rest"))) (sNext)) (sSeq (sAsg (eBin (pr2 dMod) (ePr (pr1 dInt) (eCons (eBin (pr2 dIx) (eVar 0) (eC (.str "rest"))) (eNil))) (eVar 1)) (GT.nm 2)) (sSeq (sPut dPut (eBin (pr2 dDiv) (eBin (pr2 dIx) (eVar 0) (eC (.str "rest"))) (eVar 1)) (eVar 0) (eC (.str "rest"))) (sRet (eVar 2))))
def f__law_pick (C : Nat → List D → List O → RR D) : Sm := sRet (eBin (pr2 dIx) (eVar 1) (eCall (C 14) 2 (eCons (eVar 0) (eCons (ePr (pr1 dLen) (eCons (eVar 1) (eNil))) (eNil)))))
def f__law_shuffled (C : Nat → List D → List O → RR D) : Sm := sSeq (sPar (eCons (eAll (ePL pTuple (eCons (eVar 1) (eNil)))) (eCons (eAll (eLim (eNil))) (eNil))) 2 3) (sSeq (goW (eIs (eBin (pr2 (dEq true)) (eVar 2) (eFrz (eLim (eNil))))) (sDrop (eMt "list" mAppend (eVar 3) (eCons (eMt "list" mPopAt (eVar 2) (eCons (eCall (C 14) 2 (eCons (eVar 0) (eCons (ePr (pr1 dLen) (eCons (eVar 2) (eNil))) (eNil)))) (eNil))) (eNil)))) fuel) (sRet (eVar 3)))
def f__law_names (C : Nat → List D → List O → RR D) : Sm := sSeq (sAsg (eFrz (eLim (eNil))) (GT.nm 2)) (sSeq (sFor (eSrc (eC (.str "bcdfghklmnprstvwxz"))) (GT.nm 3) (sAsg (eBin (pr2 dAdd) (eVar 2) (eFrz (eComp (eSrc (eC (.str "aeiou"))) (GT.nm 5) (tYesT) (eBin (pr2 dAdd) (eVar 3) (eVar 5)) [5]))) (GT.nm 2))) (sRet (eFrz (eComp (eSrc (eSl dSl (eCall (C 16) 2 (eCons (eVar 0) (eCons (eVar 2) (eNil)))) (eNoPart) (ePart (eVar 1)))) (GT.nm 4) (tYesT) (eBin (pr2 dAdd) (eVar 4) (eCall (C 15) 2 (eCons (eVar 0) (eCons (eFrz (eLim (eCons (eC (.str "q")) (eCons (eC (.str "k")) (eCons (eC (.str "x")) (eCons (eC (.str "mu")) (eNil))))))) (eNil))))) [4]))))
def f__law_scope (C : Nat → List D → List O → RR D) : Sm := sRet (ePr (pr1 dTuple) (eCons (eFrz (ePL pSorted (eCons (eCall (C 18) 2 (eCons (eVar 0) (eCons (eCall (C 14) 2 (eCons (eVar 0) (eCons (eBin (pr2 dAdd) (eVar 1) (eC (.int 1))) (eNil)))) (eNil)))) (eNil)))) (eNil)))
def f__law_letters (C : Nat → List D → List O → RR D) : Sm := sSeq (sAsg (eFrz (eLim (eCons (eTup (eNil)) (eNil)))) (GT.nm 1)) (sSeq (sFor (eSrc (eVar 0)) (GT.nm 2) (sAsg (eBin (pr2 dAdd) (eVar 1) (eFrz (eComp (eSrc (eVar 1)) (GT.nm 3) (tYesT) (eBin (pr2 dAdd) (eVar 3) (eTup (eCons (eVar 2) (eNil)))) [3]))) (GT.nm 1))) (sRet (eVar 1)))
def f__law_paths (C : Nat → List D → List O → RR D) : Sm := sSeq (sAsg (eFrz (eLim (eCons (eTup (eNil)) (eNil)))) (GT.nm 1)) (sSeq (sFor (eEnum (eCons (eIfE (eTru (eIsi "tuple" (eVar 0))) (eVar 0) (eTup (eNil))) (eNil))) (GT.tp [GT.nm 2, GT.nm 3]) (sAsg (eBin (pr2 dAdd) (eVar 1) (eFrz (eComp (eSrc (eCall (C 21) 1 (eCons (eVar 3) (eNil)))) (GT.nm 4) (tYesT) (eBin (pr2 dAdd) (eTup (eCons (eVar 2) (eNil))) (eVar 4)) [4]))) (GT.nm 1))) (sRet (eVar 1)))
def f__law_part (C : Nat → List D → List O → RR D) : Sm := sRet (eIfE (eIs (eBin (pr2 (dEq false)) (eVar 1) (eTup (eNil)))) (eVar 0) (eCall (C 22) 2 (eCons (eBin (pr2 dIx) (eVar 0) (eBin (pr2 dIx) (eVar 1) (eC (.int 0)))) (eCons (eSl dSl (eVar 1) (ePart (eC (.int 1))) (eNoPart)) (eNil)))))
def f__law_put (C : Nat → List D → List O → RR D) : Sm := sRet (eIfE (eIs (eBin (pr2 (dEq false)) (eVar 1) (eTup (eNil)))) (eVar 2) (eBin (pr2 dAdd) (eBin (pr2 dAdd) (eSl dSl (eVar 0) (eNoPart) (ePart (eBin (pr2 dIx) (eVar 1) (eC (.int 0))))) (eTup (eCons (eCall (C 23) 3 (eCons (eBin (pr2 dIx) (eVar 0) (eBin (pr2 dIx) (eVar 1) (eC (.int 0)))) (eCons (eSl dSl (eVar 1) (ePart (eC (.int 1))) (eNoPart)) (eCons (eVar 2) (eNil))))) (eNil)))) (eSl dSl (eVar 0) (ePart (eBin (pr2 dAdd) (eBin (pr2 dIx) (eVar 1) (eC (.int 0))) (eC (.int 1)))) (eNoPart))))
def f__law_odd (C : Nat → List D → List O → RR D) : Sm := sSeq (sIf (eAndT (eTru (eIsi "tuple" (eVar 1))) (eIs (eBin (pr2 dGt) (eCall (C 14) 2 (eCons (eVar 0) (eCons (eC (.int 3)) (eNil)))) (eC (.int 0))))) (sSeq (sAsg (eCall (C 14) 2 (eCons (eVar 0) (eCons (eBin (pr2 dAdd) (ePr (pr1 dLen) (eCons (eVar 1) (eNil))) (eC (.int 1))) (eNil)))) (GT.nm 3)) (sSeq (sAsg (eFrz (eLim (eCons (eBin (pr2 dAdd) (eSl dSl (eVar 1) (eNoPart) (ePart (eVar 3))) (eSl dSl (eVar 1) (ePart (eBin (pr2 dAdd) (eVar 3) (eC (.int 1)))) (eNoPart))) (eCons (eBin (pr2 dAdd) (eBin (pr2 dAdd) (eSl dSl (eVar 1) (eNoPart) (ePart (eVar 3))) (eSl dSl (eVar 1) (ePart (eVar 3)) (ePart (eBin (pr2 dAdd) (eVar 3) (eC (.int 1)))))) (eSl dSl (eVar 1) (ePart (eVar 3)) (eNoPart))) (eCons (eRev (eVar 1)) (eCons (eFrz (ePL pTuple (eCons (eVar 1) (eNil)))) (eCons (eBin (pr2 dAdd) (eVar 1) (eTup (eCons (eC .non) (eNil)))) (eCons (eTup (eNil)) (eNil))))))))) (GT.nm 4)) (sRet (eCall (C 15) 2 (eCons (eVar 0) (eCons (eVar 4) (eNil))))))) (sNext)) (sSeq (sIf (eAndT (eTru (eIsi "str" (eVar 1))) (eIs (eBin (pr2 dGt) (eCall (C 14) 2 (eCons (eVar 0) (eCons (eC (.int 3)) (eNil)))) (eC (.int 0))))) (sRet (eCall (C 15) 2 (eCons (eVar 0) (eCons (eBin (pr2 dAdd) (eVar 2) (eFrz (eLim (eCons (eBin (pr2 dAdd) (eVar 1) (eC (.str "a"))) (eCons (eSl dSl (eVar 1) (eNoPart) (ePart (eC (.int (-1))))) (eCons (eMt0 "str" mUpper (eVar 1)) (eCons (eTup (eCons (eVar 1) (eNil))) (eCons (eC (.str "a b")) (eCons (eC (.str "a1")) (eCons (eC (.str "abcdefghi")) (eCons (eC (.str "")) (eNil)))))))))))) (eNil))))) (sNext)) (sSeq (sIf (eAndT (eTru (eIsi "int" (eVar 1))) (eAndT (eNot (eTru (eIsi "bool" (eVar 1)))) (eIs (eBin (pr2 dGt) (eCall (C 14) 2 (eCons (eVar 0) (eCons (eC (.int 3)) (eNil)))) (eC (.int 0)))))) (sRet (eCall (C 15) 2 (eCons (eVar 0) (eCons (eFrz (eLim (eCons (eBin (pr2 dAdd) (eVar 1) (eC (.int 1))) (eCons (eBin (pr2 dSub) (eVar 1) (eC (.int 1))) (eCons (eC (.int 0)) (eCons (eC (.int 1)) (eCons (eC (.int 2)) (eCons (eC (.int 3)) (eCons (eC (.int 7)) (eCons (eC (.int 300)) (eCons (eC (.int 301)) (eCons (eC (.int (-1))) (eCons (eC (.bl true)) (eCons (eC (.bl false)) (eCons (ePr (pr1 dStr) (eCons (eVar 1) (eNil))) (eCons (eTup (eCons (eVar 1) (eNil))) (eNil))))))))))))))))) (eNil))))) (sNext)) (sRet (eCall (C 15) 2 (eCons (eVar 0) (eCons (eFrz (eLim (eCons (eC .non) (eCons (eC (.int 0)) (eCons (eC (.int 5)) (eCons (eC (.bl true)) (eCons (eC (.str "a")) (eCons (eC (.str "")) (eCons (eTup (eNil)) (eCons (eFrz (eLim (eNil))) (eCons (eDict0) (eCons (eTup (eCons (eC (.str "a")) (eNil))) (eCons (eTup (eCons (eC (.str "yes")) (eNil))) (eCons (eC (.int (-1))) (eNil))))))))))))))) (eNil)))))))
def f__law_bent (C : Nat → List D → List O → RR D) : Sm := sSeq (sAsg (eCall (C 15) 2 (eCons (eVar 0) (eCons (eCall (C 21) 1 (eCons (eVar 1) (eNil))) (eNil)))) (GT.nm 3)) (sRet (eCall (C 23) 3 (eCons (eVar 1) (eCons (eVar 3) (eCons (eCall (C 24) 3 (eCons (eVar 0) (eCons (eCall (C 22) 2 (eCons (eVar 1) (eCons (eVar 3) (eNil)))) (eCons (eVar 2) (eNil))))) (eNil))))))
def f__law_once (C : Nat → List D → List O → RR D) : Sm := sSeq (sAsg (eAll (eLim (eNil))) (GT.nm 1)) (sSeq (sFor (eSrc (eFrz (ePL pSorted (eCons (eVar 0) (eNil))))) (GT.nm 2) (sIf (eOrT (eIs (eBin (pr2 (dEq false)) (eVar 1) (eFrz (eLim (eNil))))) (eIs (eBin (pr2 (dEq true)) (eBin (pr2 dIx) (eVar 1) (eC (.int (-1)))) (eVar 2)))) (sDrop (eMt "list" mAppend (eVar 1) (eCons (eVar 2) (eNil)))) (sNext))) (sRet (ePr (pr1 dTuple) (eCons (eVar 1) (eNil)))))
def f__law_weave (C : Nat → List D → List O → RR D) : Sm := sSeq (sPut dPut (eBin (pr2 dSub) (eBin (pr2 dIx) (eVar 2) (eC (.int 0))) (eC (.int 1))) (eVar 2) (eC (.int 0))) (sSeq (sAsg (eCall (C 14) 2 (eCons (eVar 0) (eCons (eC (.int 12)) (eNil)))) (GT.nm 3)) (sSeq (sIf (eOrT (eIs (eBin (pr2 dLe) (eBin (pr2 dIx) (eVar 2) (eC (.int 0))) (eC (.int 0)))) (eIs (eBin (pr2 dLt) (eVar 3) (eC (.int 4))))) (sRet (eIfE (eAndT (eIs (eBin (pr2 (dEq false)) (eVar 3) (eC (.int 3)))) (eIs (eBin (pr2 (dEq false)) (eCall (C 14) 2 (eCons (eVar 0) (eCons (eC (.int 3)) (eNil)))) (eC (.int 0))))) (eTup (eCons (eC (.str "none")) (eNil))) (eTup (eCons (eC (.str "letter")) (eCons (eCall (C 15) 2 (eCons (eVar 0) (eCons (eCall (C 20) 1 (eCons (eVar 1) (eNil))) (eNil)))) (eNil)))))) (sNext)) (sSeq (sIf (eIs (eBin (pr2 dLt) (eVar 3) (eC (.int 8)))) (sSeq (sAsg (eCall (C 27) 3 (eCons (eVar 0) (eCons (eVar 1) (eCons (eVar 2) (eNil))))) (GT.nm 4)) (sRet (eTup (eCons (eC (.str "then")) (eCons (eVar 4) (eCons (eCall (C 27) 3 (eCons (eVar 0) (eCons (eVar 1) (eCons (eVar 2) (eNil))))) (eNil))))))) (sNext)) (sSeq (sIf (eIs (eBin (pr2 dLt) (eVar 3) (eC (.int 10)))) (sRet (eTup (eCons (eBin (pr2 dIx) (eFrz (eLim (eCons (eC (.str "on")) (eCons (eC (.str "back")) (eNil))))) (eBin (pr2 dSub) (eVar 3) (eC (.int 8)))) (eCons (eCall (C 27) 3 (eCons (eVar 0) (eCons (eVar 1) (eCons (eVar 2) (eNil))))) (eNil))))) (sNext)) (sSeq (sAsg (eFrz (eComp (eRng1 (eCons (eBin (pr2 dAdd) (eC (.int 1)) (eCall (C 14) 2 (eCons (eVar 0) (eCons (eC (.int 3)) (eNil))))) (eNil))) (GT.nm 6) (tYesT) (eCall (C 27) 3 (eCons (eVar 0) (eCons (eVar 1) (eCons (eVar 2) (eNil))))) [6])) (.nm 5)) (sRet (eTup (eCons (eC (.str "mix")) (eCons (eCall (C 26) 1 (eCons (eVar 5) (eNil))) (eNil))))))))))
def f__law_inner (C : Nat → List D → List O → RR D) : Sm := sSeq (sIf (eIs (eBin (pr2 (dEq false)) (eBin (pr2 dIx) (eVar 0) (eC (.int 0))) (eC (.str "mix")))) (sRet (eFrz (ePL pTuple (eCons (eBin (pr2 dIx) (eVar 0) (eC (.int 1))) (eNil))))) (sNext)) (sRet (eIfE (eIs (eBin (pr2 (dIn false)) (eBin (pr2 dIx) (eVar 0) (eC (.int 0))) (eFrz (eLim (eCons (eC (.str "none")) (eCons (eC (.str "letter")) (eNil))))))) (eFrz (eLim (eNil))) (eFrz (ePL pTuple (eCons (eSl dSl (eVar 0) (ePart (eC (.int 1))) (eNoPart)) (eNil))))))
def f__law_nodes (C : Nat → List D → List O → RR D) : Sm := sSeq (sAsg (eFrz (eLim (eCons (eTup (eNil)) (eNil)))) (GT.nm 1)) (sSeq (sFor (eEnum (eCons (eCall (C 28) 1 (eCons (eVar 0) (eNil))) (eNil))) (GT.tp [GT.nm 2, GT.nm 3]) (sAsg (eBin (pr2 dAdd) (eVar 1) (eFrz (eComp (eSrc (eCall (C 29) 1 (eCons (eVar 3) (eNil)))) (GT.nm 4) (tYesT) (eBin (pr2 dAdd) (eTup (eCons (eVar 2) (eNil))) (eVar 4)) [4]))) (GT.nm 1))) (sRet (eVar 1)))
def f__law_are_names (C : Nat → List D → List O → RR D) : Sm := sSeq (sIf (eNot (eTru (eIsi "tuple" (eVar 0)))) (sRet (eC (.bl false))) (sNext)) (sSeq (sFor (eSrc (eVar 0)) (GT.nm 1) (sIf (eOrT (eNot (eTru (eIsi "str" (eVar 1)))) (eOrT (eNot (eIs (eCh (pr2 dLe) (pr2 dLe) (eC (.int 1)) (ePr (pr1 dLen) (eCons (eVar 1) (eNil))) (eC (.int 8))))) (eIs (eBin (pr2 (dEq true)) (eFrz (eComp (eSrc (eVar 1)) (GT.nm 2) (eNot (eIs (eCh (pr2 dLe) (pr2 dLe) (eC (.str "a")) (eVar 2) (eC (.str "z"))))) (eVar 2) [2])) (eFrz (eLim (eNil))))))) (sRet (eC (.bl false))) (sNext))) (sRet (eBin (pr2 (dEq false)) (eFrz (ePL pTuple (eCons (eVar 0) (eNil)))) (eFrz (eSortSet (eVar 0))))))
def f__law_is_weave (C : Nat → List D → List O → RR D) : Sm := sSeq (sIf (eOrT (eIs (eBin (pr2 dGt) (eVar 2) (eC (.int 60)))) (eOrT (eNot (eTru (eIsi "tuple" (eVar 1)))) (eOrT (eIs (eBin (pr2 (dEq false)) (eVar 1) (eTup (eNil)))) (eNot (eTru (eIsi "str" (eBin (pr2 dIx) (eVar 1) (eC (.int 0))))))))) (sRet (eC (.bl false))) (sNext)) (sSeq (sAsg (eDict [(eC (.str "none"), eC (.int 1)), (eC (.str "letter"), eC (.int 2)), (eC (.str "then"), eC (.int 3)), (eC (.str "on"), eC (.int 2)), (eC (.str "back"), eC (.int 2)), (eC (.str "mix"), eC (.int 2))]) (GT.nm 3)) (sSeq (sIf (eOrT (eIs (eBin (pr2 (dIn true)) (eBin (pr2 dIx) (eVar 1) (eC (.int 0))) (eVar 3))) (eIs (eBin (pr2 (dEq true)) (ePr (pr1 dLen) (eCons (eVar 1) (eNil))) (eBin (pr2 dIx) (eVar 3) (eBin (pr2 dIx) (eVar 1) (eC (.int 0))))))) (sRet (eC (.bl false))) (sNext)) (sSeq (sIf (eIs (eBin (pr2 (dEq false)) (eBin (pr2 dIx) (eVar 1) (eC (.int 0))) (eC (.str "letter")))) (sRet (eAndV (eCall (C 30) 1 (eCons (eBin (pr2 dIx) (eVar 1) (eC (.int 1))) (eNil))) (eBin (pr2 (dEq false)) (eFrz (eComp (eSrc (eBin (pr2 dIx) (eVar 1) (eC (.int 1)))) (GT.nm 6) (eIs (eBin (pr2 (dIn true)) (eVar 6) (eVar 0))) (eVar 6) [6])) (eFrz (eLim (eNil)))))) (sNext)) (sSeq (sAsg (eIfE (eIs (eBin (pr2 (dEq false)) (eBin (pr2 dIx) (eVar 1) (eC (.int 0))) (eC (.str "mix")))) (eBin (pr2 dIx) (eVar 1) (eC (.int 1))) (eSl dSl (eVar 1) (ePart (eC (.int 1))) (eNoPart))) (GT.nm 4)) (sSeq (sIf (eOrT (eNot (eTru (eIsi "tuple" (eVar 4)))) (eAndT (eIs (eBin (pr2 (dEq false)) (eBin (pr2 dIx) (eVar 1) (eC (.int 0))) (eC (.str "mix")))) (eIs (eBin (pr2 (dEq false)) (eVar 4) (eTup (eNil)))))) (sRet (eC (.bl false))) (sNext)) (sSeq (sIf (eIs (eBin (pr2 (dEq true)) (eFrz (eComp (eSrc (eVar 4)) (GT.nm 5) (eNot (eTru (eCall (C 31) 3 (eCons (eVar 0) (eCons (eVar 5) (eCons (eBin (pr2 dAdd) (eVar 2) (eC (.int 1))) (eNil))))))) (eVar 5) [5])) (eFrz (eLim (eNil))))) (sRet (eC (.bl false))) (sNext)) (sRet (eOrV (eBin (pr2 (dEq true)) (eBin (pr2 dIx) (eVar 1) (eC (.int 0))) (eC (.str "mix"))) (eBin (pr2 (dEq false)) (eVar 4) (eCall (C 26) 1 (eCons (eVar 4) (eNil))))))))))))
def f__law_said (C : Nat → List D → List O → RR D) : Sm := sRet (eAndV (eCall (C 31) 3 (eCons (eVar 0) (eCons (eVar 1) (eCons (eC (.int 1)) (eNil))))) (eBin (pr2 dLe) (ePr (pr1 dLen) (eCons (eCall (C 29) 1 (eCons (eVar 1) (eNil))) (eNil))) (eC (.int 400))))
def f_law (C : Nat → List D → List O → RR D) : Sm := sSeq (sAsg (eCall (C 12) 1 (eCons (eVar 0) (eNil))) (GT.nm 1)) (sSeq (sFor (eRng1 (eCons (eBin (pr2 dAdd) (eC (.int 3)) (ePr (pr2 dMin) (eCons (ePr (pr1 dLen) (eCons (eVar 0) (eNil))) (eCons (eC (.int 9)) (eNil))))) (eNil))) (GT.nm 2) (sSeq (sAsg (eCall (C 19) 2 (eCons (eVar 1) (eCons (eC (.int 3)) (eNil)))) (GT.nm 3)) (sSeq (sAsg (eCall (C 27) 3 (eCons (eVar 1) (eCons (eVar 3) (eCons (eAll (eLim (eCons (eC (.int 9)) (eNil)))) (eNil))))) (GT.nm 4)) (sSeq (sIf (eOrT (eIs (eBin (pr2 (dIs true)) (eCall (C 11) 2 (eCons (eVar 3) (eCons (eVar 4) (eNil)))) (eC (.bl true)))) (eIs (eBin (pr2 (dIs true)) (eCallK (C 11) 2 2 [1, 0] (eCons (eVar 4) (eCons (eVar 3) (eNil)))) (eC (.bl true))))) (sRet (eC (.bl false))) (sNext)) (sSeq (sIf (eOrT (eIs (eBin (pr2 (dEq true)) (eCall (C 5) 1 (eCons (eVar 3) (eNil))) (ePr (pr1 dTuple) (eCons (eCall (C 20) 1 (eCons (eVar 3) (eNil))) (eNil))))) (eIs (eBin (pr2 (dEq true)) (eCallK (C 5) 1 1 [0] (eCons (eVar 3) (eNil))) (eCall (C 5) 1 (eCons (eVar 3) (eNil)))))) (sRet (eC (.bl false))) (sNext)) (sSeq (sAsg (eVar 4) (GT.nm 5)) (sSeq (sFor (eRng1 (eCons (eC (.int 8)) (eNil))) (GT.nm 6) (sSeq (sAsg (eCall (C 25) 3 (eCons (eVar 1) (eCons (eIfE (eIs (eBin (pr2 dGt) (eVar 6) (eC (.int 4)))) (eVar 5) (eVar 4)) (eCons (eFrz (eLim (eCons (eC (.str "none")) (eCons (eC (.str "letter")) (eCons (eC (.str "then")) (eCons (eC (.str "on")) (eCons (eC (.str "back")) (eCons (eC (.str "mix")) (eCons (eC (.str "qaq")) (eNil)))))))))) (eNil))))) (GT.nm 5)) (sIf (eIs (eBin (pr2 (dEq true)) (ePr (pr1 dRepr) (eCons (eCall (C 11) 2 (eCons (eVar 3) (eCons (eVar 5) (eNil)))) (eNil))) (ePr (pr1 dRepr) (eCons (eCall (C 32) 2 (eCons (eVar 3) (eCons (eVar 5) (eNil)))) (eNil))))) (sRet (eC (.bl false))) (sNext)))) (sSeq (sAsg (eCall (C 25) 3 (eCons (eVar 1) (eCons (eVar 3) (eCons (eFrz (eLim (eCons (eC (.str "qaq")) (eNil)))) (eNil))))) (GT.nm 7)) (sSeq (sAsg (eAndV (eCall (C 30) 1 (eCons (eVar 7) (eNil))) (eBin (pr2 dLt) (ePr (pr1 dLen) (eCons (eVar 7) (eNil))) (eC (.int 4)))) (GT.nm 8)) (sIf (eNot (eTru (eVar 8))) (sSeq (sIf (eNot (eTru (eCaught sub_BadScope (eCall (C 5) 1 (eCons (eVar 7) (eNil)))))) (sRet (eC (.bl false))) (sNext)) (sIf (eNot (eTru (eCaught sub_BadScope (eCall (C 11) 2 (eCons (eVar 7) (eCons (eVar 4) (eNil))))))) (sRet (eC (.bl false))) (sNext))) (sNext))))))))))) (sSeq (sPar (eCons (eCall (C 15) 2 (eCons (eVar 1) (eCons (eFrz (eLim (eCons (eC (.int 59)) (eCons (eC (.int 60)) (eCons (eC (.int 61)) (eNil)))))) (eNil)))) (eCons (eTup (eCons (eC (.str "letter")) (eCons (eTup (eNil)) (eNil)))) (eNil))) 9 10) (sSeq (sFor (eRng1 (eCons (eBin (pr2 dSub) (eVar 9) (eC (.int 1))) (eNil))) (GT.nm 6) (sAsg (eTup (eCons (eC (.str "on")) (eCons (eVar 10) (eNil)))) (GT.nm 10))) (sSeq (sIf (eIs (eBin (pr2 (dEq true)) (ePr (pr1 dRepr) (eCons (eCall (C 11) 2 (eCons (eTup (eNil)) (eCons (eVar 10) (eNil)))) (eNil))) (ePr (pr1 dRepr) (eCons (eBin (pr2 dLe) (eVar 9) (eC (.int 60))) (eNil))))) (sRet (eC (.bl false))) (sNext)) (sSeq (sAsg (eTup (eCons (eTup (eCons (eC (.str "letter")) (eCons (eTup (eNil)) (eNil)))) (eCons (eTup (eCons (eC (.str "letter")) (eCons (eTup (eNil)) (eNil)))) (eNil)))) (GT.tp [GT.nm 11, GT.nm 12])) (sSeq (sFor (eRng1 (eCons (eC (.int 7)) (eNil))) (GT.nm 6) (sPar (eCons (eTup (eCons (eC (.str "then")) (eCons (eVar 11) (eCons (eVar 11) (eNil))))) (eCons (eVar 11) (eNil))) 11 12)) (sSeq (sPar (eCons (eTup (eCons (eC (.str "then")) (eCons (eVar 11) (eCons (eVar 12) (eNil))))) (eCons (eCall (C 15) 2 (eCons (eVar 1) (eCons (eFrz (eLim (eCons (eC (.int 16)) (eCons (eC (.int 17)) (eCons (eC (.int 18)) (eNil)))))) (eNil)))) (eNil))) 11 9) (sSeq (sFor (eRng1 (eCons (eVar 9) (eNil))) (GT.nm 6) (sAsg (eTup (eCons (eC (.str "on")) (eCons (eVar 11) (eNil)))) (GT.nm 11))) (sRet (eBin (pr2 (dEq false)) (ePr (pr1 dRepr) (eCons (eCall (C 11) 2 (eCons (eTup (eNil)) (eCons (eVar 11) (eNil)))) (eNil))) (ePr (pr1 dRepr) (eCons (eBin (pr2 dLt) (eVar 9) (eC (.int 18))) (eNil)))))))))))))
def callN : Nat → Nat → List D → List O → RR D
  | 0 => fun _ _ _ => .err
  | 1 => fun _ _ _ => .err
  | 2 => fun _ _ _ => .err
  | n + 3 => fun i => match i with
    | 0 => bodyOf (f_is_name (callN (n + 2))) 2
    | 1 => bodyOf (f_are_names (callN (n + 2))) 4
    | 2 => bodyOf (f_is_scope (callN (n + 2))) 1
    | 3 => bodyOf (f_need_scope (callN (n + 2))) 1
    | 4 => bodyOf (f_letters_of (callN (n + 2))) 4
    | 5 => bodyOf (f_letters (callN (n + 2))) 1
    | 6 => bodyOf (f_is_letter (callN (n + 2))) 3
    | 7 => bodyOf (f_inner (callN (n + 2))) 1
    | 8 => bodyOf (f_heads (callN (n + 2))) 2
    | 9 => bodyOf (f_is_weave_of (callN (n + 2))) 7
    | 10 => bodyOf (f_rises (callN (n + 2))) 3
    | 11 => bodyOf (f_is_weave (callN (n + 2))) 2
    | 12 => bodyOf (f__law_begun (callN (n + 2))) 3
    | 13 => bodyOf (f__law_mixed (callN (n + 2))) 6
    | 14 => bodyOf (f__law_take (callN (n + 2))) 3
    | 15 => bodyOf (f__law_pick (callN (n + 2))) 2
    | 16 => bodyOf (f__law_shuffled (callN (n + 2))) 4
    | 18 => bodyOf (f__law_names (callN (n + 2))) 6
    | 19 => bodyOf (f__law_scope (callN (n + 2))) 2
    | 20 => bodyOf (f__law_letters (callN (n + 2))) 4
    | 21 => bodyOf (f__law_paths (callN (n + 2))) 5
    | 22 => bodyOf (f__law_part (callN (n + 2))) 2
    | 23 => bodyOf (f__law_put (callN (n + 2))) 3
    | 24 => bodyOf (f__law_odd (callN (n + 2))) 5
    | 25 => bodyOf (f__law_bent (callN (n + 2))) 4
    | 26 => bodyOf (f__law_once (callN (n + 2))) 3
    | 27 => bodyOf (f__law_weave (callN (n + 2))) 7
    | 28 => bodyOf (f__law_inner (callN (n + 2))) 1
    | 29 => bodyOf (f__law_nodes (callN (n + 2))) 5
    | 30 => bodyOf (f__law_are_names (callN (n + 2))) 3
    | 31 => bodyOf (f__law_is_weave (callN (n + 2))) 7
    | 32 => bodyOf (f__law_said (callN (n + 2))) 2
    | 33 => bodyOf (f_law (callN n)) 13
    | _ => fun _ _ => .err
/-- what the walk asks of the module: fa, fd the defs, ca the classes, cc the code objects and tables of the defs that make lambdas -/
structure Gs (P : Program) (w : World) (K : PySem.W.Frag) (mg : Str → Option Value) (base : Heap) (T : List (Addr × Str)) (fa : Nat → Addr) (fd : Nat → FuncData) (ca : Nat → Addr) (cc : Nat → Addr × Addr) : Prop where
  n_abs : mg "abs" = none
  n_all : mg "all" = none
  n_bool : mg "bool" = none
  n_enumerate : mg "enumerate" = none
  n_int : mg "int" = none
  n_isinstance : mg "isinstance" = none
  n_len : mg "len" = none
  n_list : mg "list" = none
  n_min : mg "min" = none
  n_range : mg "range" = none
  n_repr : mg "repr" = none
  n_set : mg "set" = none
  n_sorted : mg "sorted" = none
  n_str : mg "str" = none
  n_tuple : mg "tuple" = none
  n_zip : mg "zip" = none
  c_KEPT : GC K mg "KEPT" (.tup [(.str "ahead"), (.str "all"), (.str "apart"), (.str "bare"), (.str "both"), (.str "dense"), (.str "down"), (.str "either"), (.str "finite"), (.str "first"), (.str "last"), (.str "next"), (.str "not"), (.str "one"), (.str "same"), (.str "scattered"), (.str "some"), (.str "sub"), (.str "well")])
  c_MOST_DEEP : GC K mg "MOST_DEEP" (.int 60)
  c_MOST_LETTERS : GC K mg "MOST_LETTERS" (.int 8)
  c_MOST_NAMES : GC K mg "MOST_NAMES" (.int 3)
  c_MOST_NODES : GC K mg "MOST_NODES" (.int 400)
  m_is_name : mg "is_name" = some (.ref (fa 0))
  k_is_name : PySem.W.keepIn K (.ref (fa 0)) = true
  b_is_name : Binds K (fd 0) P_is_name []
  u_is_name : Fun K "is_name" "is_name" st_is_name (fa 0) (fd 0)
  m_are_names : mg "are_names" = some (.ref (fa 1))
  k_are_names : PySem.W.keepIn K (.ref (fa 1)) = true
  b_are_names : Binds K (fd 1) P_are_names []
  u_are_names : Fun K "are_names" "are_names" st_are_names (fa 1) (fd 1)
  m_is_scope : mg "is_scope" = some (.ref (fa 2))
  k_is_scope : PySem.W.keepIn K (.ref (fa 2)) = true
  b_is_scope : Binds K (fd 2) P_is_scope []
  u_is_scope : Fun K "is_scope" "is_scope" st_is_scope (fa 2) (fd 2)
  m_need_scope : mg "need_scope" = some (.ref (fa 3))
  k_need_scope : PySem.W.keepIn K (.ref (fa 3)) = true
  b_need_scope : Binds K (fd 3) P_need_scope []
  u_need_scope : Fun K "need_scope" "need_scope" st_need_scope (fa 3) (fd 3)
  m_letters_of : mg "letters_of" = some (.ref (fa 4))
  k_letters_of : PySem.W.keepIn K (.ref (fa 4)) = true
  b_letters_of : Binds K (fd 4) P_letters_of []
  u_letters_of : Fun K "letters_of" "letters_of" st_letters_of (fa 4) (fd 4)
  m_letters : mg "letters" = some (.ref (fa 5))
  k_letters : PySem.W.keepIn K (.ref (fa 5)) = true
  b_letters : Binds K (fd 5) P_letters []
  u_letters : Fun K "letters" "letters" st_letters (fa 5) (fd 5)
  m_is_letter : mg "is_letter" = some (.ref (fa 6))
  k_is_letter : PySem.W.keepIn K (.ref (fa 6)) = true
  b_is_letter : Binds K (fd 6) P_is_letter []
  u_is_letter : Fun K "is_letter" "is_letter" st_is_letter (fa 6) (fd 6)
  m_inner : mg "inner" = some (.ref (fa 7))
  k_inner : PySem.W.keepIn K (.ref (fa 7)) = true
  b_inner : Binds K (fd 7) P_inner []
  u_inner : Fun K "inner" "inner" st_inner (fa 7) (fd 7)
  m_heads : mg "heads" = some (.ref (fa 8))
  k_heads : PySem.W.keepIn K (.ref (fa 8)) = true
  b_heads : Binds K (fd 8) P_heads []
  u_heads : Fun K "heads" "heads" st_heads (fa 8) (fd 8)
  m_is_weave_of : mg "is_weave_of" = some (.ref (fa 9))
  k_is_weave_of : PySem.W.keepIn K (.ref (fa 9)) = true
  b_is_weave_of : Binds K (fd 9) P_is_weave_of []
  u_is_weave_of : Fun K "is_weave_of" "is_weave_of" st_is_weave_of (fa 9) (fd 9)
  m_rises : mg "rises" = some (.ref (fa 10))
  k_rises : PySem.W.keepIn K (.ref (fa 10)) = true
  b_rises : Binds K (fd 10) P_rises []
  u_rises : Fun K "rises" "rises" st_rises (fa 10) (fd 10)
  m_is_weave : mg "is_weave" = some (.ref (fa 11))
  k_is_weave : PySem.W.keepIn K (.ref (fa 11)) = true
  b_is_weave : Binds K (fd 11) P_is_weave []
  u_is_weave : Fun K "is_weave" "is_weave" st_is_weave (fa 11) (fd 11)
  m__law_begun : mg "_law_begun" = some (.ref (fa 12))
  k__law_begun : PySem.W.keepIn K (.ref (fa 12)) = true
  b__law_begun : Binds K (fd 12) P__law_begun []
  u__law_begun : Fun K "_law_begun" "_law_begun" st__law_begun (fa 12) (fd 12)
  m__law_mixed : mg "_law_mixed" = some (.ref (fa 13))
  k__law_mixed : PySem.W.keepIn K (.ref (fa 13)) = true
  b__law_mixed : Binds K (fd 13) P__law_mixed []
  u__law_mixed : Fun K "_law_mixed" "_law_mixed" st__law_mixed (fa 13) (fd 13)
  m__law_take : mg "_law_take" = some (.ref (fa 14))
  k__law_take : PySem.W.keepIn K (.ref (fa 14)) = true
  b__law_take : Binds K (fd 14) P__law_take []
  u__law_take : Fun K "_law_take" "_law_take" st__law_take (fa 14) (fd 14)
  m__law_pick : mg "_law_pick" = some (.ref (fa 15))
  k__law_pick : PySem.W.keepIn K (.ref (fa 15)) = true
  b__law_pick : Binds K (fd 15) P__law_pick []
  u__law_pick : Fun K "_law_pick" "_law_pick" st__law_pick (fa 15) (fd 15)
  m__law_shuffled : mg "_law_shuffled" = some (.ref (fa 16))
  k__law_shuffled : PySem.W.keepIn K (.ref (fa 16)) = true
  b__law_shuffled : Binds K (fd 16) P__law_shuffled []
  u__law_shuffled : Fun K "_law_shuffled" "_law_shuffled" st__law_shuffled (fa 16) (fd 16)
  m__law_caught : mg "_law_caught" = some (.ref (fa 17))
  k__law_caught : PySem.W.keepIn K (.ref (fa 17)) = true
  b__law_caught : Binds K (fd 17) P__law_caught []
  u__law_caught : Fun K "_law_caught" "_law_caught" st__law_caught (fa 17) (fd 17)
  m__law_names : mg "_law_names" = some (.ref (fa 18))
  k__law_names : PySem.W.keepIn K (.ref (fa 18)) = true
  b__law_names : Binds K (fd 18) P__law_names []
  u__law_names : Fun K "_law_names" "_law_names" st__law_names (fa 18) (fd 18)
  m__law_scope : mg "_law_scope" = some (.ref (fa 19))
  k__law_scope : PySem.W.keepIn K (.ref (fa 19)) = true
  b__law_scope : Binds K (fd 19) P__law_scope []
  u__law_scope : Fun K "_law_scope" "_law_scope" st__law_scope (fa 19) (fd 19)
  m__law_letters : mg "_law_letters" = some (.ref (fa 20))
  k__law_letters : PySem.W.keepIn K (.ref (fa 20)) = true
  b__law_letters : Binds K (fd 20) P__law_letters []
  u__law_letters : Fun K "_law_letters" "_law_letters" st__law_letters (fa 20) (fd 20)
  m__law_paths : mg "_law_paths" = some (.ref (fa 21))
  k__law_paths : PySem.W.keepIn K (.ref (fa 21)) = true
  b__law_paths : Binds K (fd 21) P__law_paths []
  u__law_paths : Fun K "_law_paths" "_law_paths" st__law_paths (fa 21) (fd 21)
  m__law_part : mg "_law_part" = some (.ref (fa 22))
  k__law_part : PySem.W.keepIn K (.ref (fa 22)) = true
  b__law_part : Binds K (fd 22) P__law_part []
  u__law_part : Fun K "_law_part" "_law_part" st__law_part (fa 22) (fd 22)
  m__law_put : mg "_law_put" = some (.ref (fa 23))
  k__law_put : PySem.W.keepIn K (.ref (fa 23)) = true
  b__law_put : Binds K (fd 23) P__law_put []
  u__law_put : Fun K "_law_put" "_law_put" st__law_put (fa 23) (fd 23)
  m__law_odd : mg "_law_odd" = some (.ref (fa 24))
  k__law_odd : PySem.W.keepIn K (.ref (fa 24)) = true
  b__law_odd : Binds K (fd 24) P__law_odd []
  u__law_odd : Fun K "_law_odd" "_law_odd" st__law_odd (fa 24) (fd 24)
  m__law_bent : mg "_law_bent" = some (.ref (fa 25))
  k__law_bent : PySem.W.keepIn K (.ref (fa 25)) = true
  b__law_bent : Binds K (fd 25) P__law_bent []
  u__law_bent : Fun K "_law_bent" "_law_bent" st__law_bent (fa 25) (fd 25)
  m__law_once : mg "_law_once" = some (.ref (fa 26))
  k__law_once : PySem.W.keepIn K (.ref (fa 26)) = true
  b__law_once : Binds K (fd 26) P__law_once []
  u__law_once : Fun K "_law_once" "_law_once" st__law_once (fa 26) (fd 26)
  m__law_weave : mg "_law_weave" = some (.ref (fa 27))
  k__law_weave : PySem.W.keepIn K (.ref (fa 27)) = true
  b__law_weave : Binds K (fd 27) P__law_weave []
  u__law_weave : Fun K "_law_weave" "_law_weave" st__law_weave (fa 27) (fd 27)
  m__law_inner : mg "_law_inner" = some (.ref (fa 28))
  k__law_inner : PySem.W.keepIn K (.ref (fa 28)) = true
  b__law_inner : Binds K (fd 28) P__law_inner []
  u__law_inner : Fun K "_law_inner" "_law_inner" st__law_inner (fa 28) (fd 28)
  m__law_nodes : mg "_law_nodes" = some (.ref (fa 29))
  k__law_nodes : PySem.W.keepIn K (.ref (fa 29)) = true
  b__law_nodes : Binds K (fd 29) P__law_nodes []
  u__law_nodes : Fun K "_law_nodes" "_law_nodes" st__law_nodes (fa 29) (fd 29)
  m__law_are_names : mg "_law_are_names" = some (.ref (fa 30))
  k__law_are_names : PySem.W.keepIn K (.ref (fa 30)) = true
  b__law_are_names : Binds K (fd 30) P__law_are_names []
  u__law_are_names : Fun K "_law_are_names" "_law_are_names" st__law_are_names (fa 30) (fd 30)
  m__law_is_weave : mg "_law_is_weave" = some (.ref (fa 31))
  k__law_is_weave : PySem.W.keepIn K (.ref (fa 31)) = true
  b__law_is_weave : Binds K (fd 31) P__law_is_weave []
  u__law_is_weave : Fun K "_law_is_weave" "_law_is_weave" st__law_is_weave (fa 31) (fd 31)
  m__law_said : mg "_law_said" = some (.ref (fa 32))
  k__law_said : PySem.W.keepIn K (.ref (fa 32)) = true
  b__law_said : Binds K (fd 32) P__law_said []
  u__law_said : Fun K "_law_said" "_law_said" st__law_said (fa 32) (fd 32)
  m_law : mg "law" = some (.ref (fa 33))
  k_law : PySem.W.keepIn K (.ref (fa 33)) = true
  b_law : Binds K (fd 33) P_law []
  u_law : FunC K "law" "law" st_law (fa 33) (fd 33) (.ref (cc 33).1)
  tb_law : LamX.TabB base mg (cc 33).1 (cc 33).2
  tm_law : ((cc 33).2, ((("law" : Str) ++ ".<locals>.") ++ "<lambda>")) ∈ T
  tu_law : ∀ p ∈ T, p.1 = (cc 33).2 → p.2 = ((("law" : Str) ++ ".<locals>.") ++ "<lambda>")
  kb_is_weave_1_0 : KB K (fd 11) P_is_weave ["thing", "scope"] [1, 0]
  kb_letters_0 : KB K (fd 5) P_letters ["scope"] [0]
  r_BadScope : ∀ {X : Cx} {W : WX} {k : Nat} {m : Str} {j : Nat} {p p2 pos p3 : Pos}, X.K = K → X.mg = mg → In X W k → X.env.kindOf "BadScope" = some .globalImplicit → PS X (.Raise (some (.Call (.Name "BadScope" p) [.Constant (.str m) j p2] [] pos)) none p3) (tS X T W (sRaise "BadScope"))
  x_BadScope : mg "BadScope" = some (.ref (ca 1))
  x_OrderError : mg "OrderError" = some (.ref (ca 0))
  s_BadScope : Subs K mg (ca 0) (ca 1) sub_BadScope
structure Lv (P : Program) (w : World) (K : PySem.W.Frag) (mg : Str → Option Value) (base : Heap) (T : List (Addr × Str)) (fa : Nat → Addr) (fd : Nat → FuncData) (k : Nat) : Prop where
  F_is_name : FnOk P w K mg base (L2.CX P w) k (fa 0) (fd 0) P_is_name (spC K mg T P_is_name.length (callN k 0))
  F_are_names : FnOk P w K mg base (L2.CX P w) k (fa 1) (fd 1) P_are_names (spC K mg T P_are_names.length (callN k 1))
  F_is_scope : FnOk P w K mg base (L2.CX P w) k (fa 2) (fd 2) P_is_scope (spC K mg T P_is_scope.length (callN k 2))
  F_need_scope : FnOk P w K mg base (L2.CX P w) k (fa 3) (fd 3) P_need_scope (spC K mg T P_need_scope.length (callN k 3))
  F_letters_of : FnOk P w K mg base (L2.CX P w) k (fa 4) (fd 4) P_letters_of (spC K mg T P_letters_of.length (callN k 4))
  F_letters : FnOk P w K mg base (L2.CX P w) k (fa 5) (fd 5) P_letters (spC K mg T P_letters.length (callN k 5))
  F_is_letter : FnOk P w K mg base (L2.CX P w) k (fa 6) (fd 6) P_is_letter (spC K mg T P_is_letter.length (callN k 6))
  F_inner : FnOk P w K mg base (L2.CX P w) k (fa 7) (fd 7) P_inner (spC K mg T P_inner.length (callN k 7))
  F_heads : FnOk P w K mg base (L2.CX P w) k (fa 8) (fd 8) P_heads (spC K mg T P_heads.length (callN k 8))
  F_is_weave_of : FnOk P w K mg base (L2.CX P w) k (fa 9) (fd 9) P_is_weave_of (spC K mg T P_is_weave_of.length (callN k 9))
  F_rises : FnOk P w K mg base (L2.CX P w) k (fa 10) (fd 10) P_rises (spC K mg T P_rises.length (callN k 10))
  F_is_weave : FnOk P w K mg base (L2.CX P w) k (fa 11) (fd 11) P_is_weave (spC K mg T P_is_weave.length (callN k 11))
  F__law_begun : FnOk P w K mg base (L2.CX P w) k (fa 12) (fd 12) P__law_begun (spC K mg T P__law_begun.length (callN k 12))
  F__law_mixed : FnOk P w K mg base (L2.CX P w) k (fa 13) (fd 13) P__law_mixed (spC K mg T P__law_mixed.length (callN k 13))
  F__law_take : FnOk P w K mg base (L2.CX P w) k (fa 14) (fd 14) P__law_take (spC K mg T P__law_take.length (callN k 14))
  F__law_pick : FnOk P w K mg base (L2.CX P w) k (fa 15) (fd 15) P__law_pick (spC K mg T P__law_pick.length (callN k 15))
  F__law_shuffled : FnOk P w K mg base (L2.CX P w) k (fa 16) (fd 16) P__law_shuffled (spC K mg T P__law_shuffled.length (callN k 16))
  F__law_names : FnOk P w K mg base (L2.CX P w) k (fa 18) (fd 18) P__law_names (spC K mg T P__law_names.length (callN k 18))
  F__law_scope : FnOk P w K mg base (L2.CX P w) k (fa 19) (fd 19) P__law_scope (spC K mg T P__law_scope.length (callN k 19))
  F__law_letters : FnOk P w K mg base (L2.CX P w) k (fa 20) (fd 20) P__law_letters (spC K mg T P__law_letters.length (callN k 20))
  F__law_paths : FnOk P w K mg base (L2.CX P w) k (fa 21) (fd 21) P__law_paths (spC K mg T P__law_paths.length (callN k 21))
  F__law_part : FnOk P w K mg base (L2.CX P w) k (fa 22) (fd 22) P__law_part (spC K mg T P__law_part.length (callN k 22))
  F__law_put : FnOk P w K mg base (L2.CX P w) k (fa 23) (fd 23) P__law_put (spC K mg T P__law_put.length (callN k 23))
  F__law_odd : FnOk P w K mg base (L2.CX P w) k (fa 24) (fd 24) P__law_odd (spC K mg T P__law_odd.length (callN k 24))
  F__law_bent : FnOk P w K mg base (L2.CX P w) k (fa 25) (fd 25) P__law_bent (spC K mg T P__law_bent.length (callN k 25))
  F__law_once : FnOk P w K mg base (L2.CX P w) k (fa 26) (fd 26) P__law_once (spC K mg T P__law_once.length (callN k 26))
  F__law_weave : FnOk P w K mg base (L2.CX P w) k (fa 27) (fd 27) P__law_weave (spC K mg T P__law_weave.length (callN k 27))
  F__law_inner : FnOk P w K mg base (L2.CX P w) k (fa 28) (fd 28) P__law_inner (spC K mg T P__law_inner.length (callN k 28))
  F__law_nodes : FnOk P w K mg base (L2.CX P w) k (fa 29) (fd 29) P__law_nodes (spC K mg T P__law_nodes.length (callN k 29))
  F__law_are_names : FnOk P w K mg base (L2.CX P w) k (fa 30) (fd 30) P__law_are_names (spC K mg T P__law_are_names.length (callN k 30))
  F__law_is_weave : FnOk P w K mg base (L2.CX P w) k (fa 31) (fd 31) P__law_is_weave (spC K mg T P__law_is_weave.length (callN k 31))
  F__law_said : FnOk P w K mg base (L2.CX P w) k (fa 32) (fd 32) P__law_said (spC K mg T P__law_said.length (callN k 32))
  F_law : FnOk P w K mg base (L2.CX P w) k (fa 33) (fd 33) P_law (spC K mg T P_law.length (callN k 33))
section
variable {P : Program} {w : World} {K : PySem.W.Frag} {mg : Str → Option Value} {base : Heap} {T : List (Addr × Str)} {fa : Nat → Addr} {fd : Nat → FuncData} {ca : Nat → Addr} {cc : Nat → Addr × Addr} {k : Nat}
theorem gives (G : Gs P w K mg base T fa fd ca cc) {X : Cx} (h1 : X.K = K) (h2 : X.mg = mg) (cdg : Value) (qq : Str) : LamX.GivesTo X N__law_caught "_law_caught" (defScope st__law_caught) (fa 17) cdg (defBody st__law_caught) "work" qq (TTkeep X.K (ca 0)) := by
  exact keep_gives (by kernel_rfl) (by rw [h2]; exact G.x_OrderError) (by kernel_rfl) sc__law_caught.nd (by kernel_rfl) (by kernel_rfl) (by kernel_rfl) (by kernel_rfl) (by kernel_rfl) (by kernel_rfl)
theorem d_is_name (G : Gs P w K mg base T fa fd ca cc) (L : Lv P w K mg base T fa fd k) : FnOk P w K mg base (L2.CX P w) (k + 1) (fa 0) (fd 0) P_is_name (spC K mg T P_is_name.length (bodyOf (f_is_name (callN k)) N_is_name.length)) := by
  refine def_ok G.u_is_name sc_is_name fun cdv A outer s H E hr => ?_
  have I : In (cxOf (L2.CX P w) P w K mg base N_is_name "is_name" (defScope st_is_name) (fa 0) cdv A outer s H E) (fun cls d _ H => E cls d H) k := in_of sc_is_name.nd hr
  exact s_cons (s_if (PW.pt (x_tor (x_tnot (y_tru (y_isi G.n_isinstance G.n_str (by kernel_rfl) (y_l 0)))) (x_tor (x_tnot (y_tch (o_le) (o_le) (y_int) (y_cb c_len G.n_len (by kernel_rfl) (y_cons (y_l 0) (x_nil))) (y_g G.c_MOST_LETTERS))) (x_tor1 (y_tcmp (o_in I.u) (y_l 0) (y_g G.c_KEPT)))))) (s_one (s_ret (y_bl))) (s_nil)) (s_one (s_ret (y_cb (c_all I.calm) G.n_all (by kernel_rfl) (y_cons (x_frz (y_lc I [("sign", 1)] (x_src (y_l 0)) (fun _ _ _ _ _ => y_gl I.blk 1) (fun _ _ _ _ _ => x_ptsNil (W := W0)) (fun _ _ _ _ _ => y_ch (o_le) (o_le) (y_str) (y_l 1) (y_str)))) (x_nil)))))
theorem d_are_names (G : Gs P w K mg base T fa fd ca cc) (L : Lv P w K mg base T fa fd k) : FnOk P w K mg base (L2.CX P w) (k + 1) (fa 1) (fd 1) P_are_names (spC K mg T P_are_names.length (bodyOf (f_are_names (callN k)) N_are_names.length)) := by
  refine def_ok G.u_are_names sc_are_names fun cdv A outer s H E hr => ?_
  have I : In (cxOf (L2.CX P w) P w K mg base N_are_names "are_names" (defScope st_are_names) (fa 1) cdv A outer s H E) (fun cls d _ H => E cls d H) k := in_of sc_are_names.nd hr
  exact s_cons (s_if (PW.pt (x_tor (x_tnot (y_tru (y_isi G.n_isinstance G.n_tuple (by kernel_rfl) (y_l 0)))) (x_tor1 (x_tnot (y_tru (y_cb (c_all I.calm) G.n_all (by kernel_rfl) (y_cons (x_frz (y_lc I [("name", 3)] (x_src (y_l 0)) (fun _ _ _ _ _ => y_gl I.blk 3) (fun _ _ _ _ _ => x_ptsNil (W := W0)) (fun _ _ _ _ _ => y_call I.blk L.F_is_name G.m_is_name G.k_is_name G.b_is_name (y_cons (y_l 3) (x_nil))))) (x_nil)))))))) (s_one (s_ret (y_bl))) (s_nil)) (s_one (s_ret (y_cb (c_all I.calm) G.n_all (by kernel_rfl) (y_cons (x_frz (y_lc I [("one", 1), ("other", 2)] (y_zip G.n_zip (y_cons (y_l 0) (y_cons (y_sl (y_l 0) (x_part (y_int)) (x_noPart)) (x_nil)))) (fun _ _ _ _ _ => y_gtp I.blk (y_gcons (y_gl I.blk 1) (y_gcons (y_gl I.blk 2) (x_gnil)))) (fun _ _ _ _ _ => x_ptsNil (W := W0)) (fun _ _ _ _ _ => y_cmp (o_lt I.blk.u) (y_l 1) (y_l 2)))) (x_nil)))))
theorem d_is_scope (G : Gs P w K mg base T fa fd ca cc) (L : Lv P w K mg base T fa fd k) : FnOk P w K mg base (L2.CX P w) (k + 1) (fa 2) (fd 2) P_is_scope (spC K mg T P_is_scope.length (bodyOf (f_is_scope (callN k)) N_is_scope.length)) := by
  refine def_ok G.u_is_scope sc_is_scope fun cdv A outer s H E hr => ?_
  have I : In (cxOf (L2.CX P w) P w K mg base N_is_scope "is_scope" (defScope st_is_scope) (fa 2) cdv A outer s H E) (fun cls d _ H => E cls d H) k := in_of sc_is_scope.nd hr
  exact s_one (s_ret (x_andV (y_call I L.F_are_names G.m_are_names G.k_are_names G.b_are_names (y_cons (y_l 0) (x_nil))) (x_one (y_cmp (o_le) (y_cb c_len G.n_len (by kernel_rfl) (y_cons (y_l 0) (x_nil))) (y_g G.c_MOST_NAMES)))))
theorem d_need_scope (G : Gs P w K mg base T fa fd ca cc) (L : Lv P w K mg base T fa fd k) : FnOk P w K mg base (L2.CX P w) (k + 1) (fa 3) (fd 3) P_need_scope (spC K mg T P_need_scope.length (bodyOf (f_need_scope (callN k)) N_need_scope.length)) := by
  refine def_ok G.u_need_scope sc_need_scope fun cdv A outer s H E hr => ?_
  have I : In (cxOf (L2.CX P w) P w K mg base N_need_scope "need_scope" (defScope st_need_scope) (fa 3) cdv A outer s H E) (fun cls d _ H => E cls d H) k := in_of sc_need_scope.nd hr
  exact s_one (s_if (x_tnot (y_tru (y_call I L.F_is_scope G.m_is_scope G.k_is_scope G.b_is_scope (y_cons (y_l 0) (x_nil))))) (s_one (G.r_BadScope rfl rfl I (by kernel_rfl))) (s_nil))
theorem d_letters_of (G : Gs P w K mg base T fa fd ca cc) (L : Lv P w K mg base T fa fd k) : FnOk P w K mg base (L2.CX P w) (k + 1) (fa 4) (fd 4) P_letters_of (spC K mg T P_letters_of.length (bodyOf (f_letters_of (callN k)) N_letters_of.length)) := by
  refine def_ok G.u_letters_of sc_letters_of fun cdv A outer s H E hr => ?_
  have I : In (cxOf (L2.CX P w) P w K mg base N_letters_of "letters_of" (defScope st_letters_of) (fa 4) cdv A outer s H E) (fun cls d _ H => E cls d H) k := in_of sc_letters_of.nd hr
  have hp := hp_of (X := cxOf (L2.CX P w) P w K mg base N_letters_of "letters_of" (defScope st_letters_of) (fa 4) cdv A outer s H E) rfl
  exact s_cons (y_asg (x_frz (x_lst (y_cons (x_tup (x_nil)) (x_nil)))) (y_gl I 1)) (s_cons (y_for I hp (x_src (y_l 0)) (y_gc I 2) (s_one (y_asg (x_bin o_add (y_l 1) (x_frz (y_lc I [("letter", 3)] (x_src (y_l 1)) (fun _ _ _ _ _ => y_gl I.blk 3) (fun _ _ _ _ _ => x_ptsNil (W := W0)) (fun _ _ _ _ _ => x_bin o_add (y_l 3) (x_tup (y_cons (y_c 2) (x_nil))))))) (y_gl I 1)))) (s_one (s_ret (y_l 1))))
theorem d_letters (G : Gs P w K mg base T fa fd ca cc) (L : Lv P w K mg base T fa fd k) : FnOk P w K mg base (L2.CX P w) (k + 1) (fa 5) (fd 5) P_letters (spC K mg T P_letters.length (bodyOf (f_letters (callN k)) N_letters.length)) := by
  refine def_ok G.u_letters sc_letters fun cdv A outer s H E hr => ?_
  have I : In (cxOf (L2.CX P w) P w K mg base N_letters "letters" (defScope st_letters) (fa 5) cdv A outer s H E) (fun cls d _ H => E cls d H) k := in_of sc_letters.nd hr
  exact s_cons (y_expr (y_call I L.F_need_scope G.m_need_scope G.k_need_scope G.b_need_scope (y_cons (y_l 0) (x_nil)))) (s_one (s_ret (y_ct c_tuple G.n_tuple (by kernel_rfl) (y_cons (y_call I L.F_letters_of G.m_letters_of G.k_letters_of G.b_letters_of (y_cons (y_l 0) (x_nil))) (x_nil)))))
theorem d_is_letter (G : Gs P w K mg base T fa fd ca cc) (L : Lv P w K mg base T fa fd k) : FnOk P w K mg base (L2.CX P w) (k + 1) (fa 6) (fd 6) P_is_letter (spC K mg T P_is_letter.length (bodyOf (f_is_letter (callN k)) N_is_letter.length)) := by
  refine def_ok G.u_is_letter sc_is_letter fun cdv A outer s H E hr => ?_
  have I : In (cxOf (L2.CX P w) P w K mg base N_is_letter "is_letter" (defScope st_is_letter) (fa 6) cdv A outer s H E) (fun cls d _ H => E cls d H) k := in_of sc_is_letter.nd hr
  exact s_one (s_ret (x_andV (y_call I L.F_are_names G.m_are_names G.k_are_names G.b_are_names (y_cons (y_l 1) (x_nil))) (x_one (y_cb (c_all I.calm) G.n_all (by kernel_rfl) (y_cons (x_frz (y_lc I [("name", 2)] (x_src (y_l 1)) (fun _ _ _ _ _ => y_gl I.blk 2) (fun _ _ _ _ _ => x_ptsNil (W := W0)) (fun _ _ _ _ _ => y_cmp (o_in I.blk.u) (y_l 2) (y_c 0)))) (x_nil))))))
theorem d_inner (G : Gs P w K mg base T fa fd ca cc) (L : Lv P w K mg base T fa fd k) : FnOk P w K mg base (L2.CX P w) (k + 1) (fa 7) (fd 7) P_inner (spC K mg T P_inner.length (bodyOf (f_inner (callN k)) N_inner.length)) := by
  refine def_ok G.u_inner sc_inner fun cdv A outer s H E hr => ?_
  have I : In (cxOf (L2.CX P w) P w K mg base N_inner "inner" (defScope st_inner) (fa 7) cdv A outer s H E) (fun cls d _ H => E cls d H) k := in_of sc_inner.nd hr
  exact s_cons (s_if (y_tcmp (o_eq I.u) (y_sub I (y_l 0) (y_int)) (y_str)) (s_one (s_ret (y_sub I (y_l 0) (y_int)))) (s_nil)) (s_one (s_ret (x_ifE (y_tcmp (o_in I.u) (y_sub I (y_l 0) (y_int)) (x_tup (y_cons (y_str) (y_cons (y_str) (x_nil))))) (x_tup (x_nil)) (y_sl (y_l 0) (x_part (y_int)) (x_noPart)))))
theorem d_heads (G : Gs P w K mg base T fa fd ca cc) (L : Lv P w K mg base T fa fd k) : FnOk P w K mg base (L2.CX P w) (k + 1) (fa 8) (fd 8) P_heads (spC K mg T P_heads.length (bodyOf (f_heads (callN k)) N_heads.length)) := by
  refine def_ok G.u_heads sc_heads fun cdv A outer s H E hr => ?_
  have I : In (cxOf (L2.CX P w) P w K mg base N_heads "heads" (defScope st_heads) (fa 8) cdv A outer s H E) (fun cls d _ H => E cls d H) k := in_of sc_heads.nd hr
  exact s_cons (s_if (PW.pt (x_tor (x_tnot (y_tru (y_isi G.n_isinstance G.n_tuple (by kernel_rfl) (y_l 0)))) (x_tor (y_tcmp (o_eq I.u) (y_l 0) (x_tup (x_nil))) (x_tor1 (x_tnot (y_tru (y_isi G.n_isinstance G.n_str (by kernel_rfl) (y_sub I (y_l 0) (y_int))))))))) (s_one (s_ret (y_bl))) (s_nil)) (s_cons (y_asg (y_dict (.cons (y_str) (y_int) (.cons (y_str) (y_int) (.cons (y_str) (y_int) (.cons (y_str) (y_int) (.cons (y_str) (y_int) (.cons (y_str) (y_int) (.nil)))))))) (y_gl I 1)) (s_cons (s_if (PW.pt (x_tor (y_tcmp (o_notin I.u) (y_sub I (y_l 0) (y_int)) (y_l 1)) (x_tor1 (y_tcmp (o_ne I.u) (y_cb c_len G.n_len (by kernel_rfl) (y_cons (y_l 0) (x_nil))) (y_sub I (y_l 1) (y_sub I (y_l 0) (y_int))))))) (s_one (s_ret (y_bl))) (s_nil)) (s_one (s_ret (x_orV (y_cmp (o_ne I.u) (y_sub I (y_l 0) (y_int)) (y_str)) (x_one (x_andV (y_isi G.n_isinstance G.n_tuple (by kernel_rfl) (y_sub I (y_l 0) (y_int))) (x_one (y_cmp (o_ne I.u) (y_sub I (y_l 0) (y_int)) (x_tup (x_nil)))))))))))
theorem d_is_weave_of (G : Gs P w K mg base T fa fd ca cc) (L : Lv P w K mg base T fa fd k) : FnOk P w K mg base (L2.CX P w) (k + 1) (fa 9) (fd 9) P_is_weave_of (spC K mg T P_is_weave_of.length (bodyOf (f_is_weave_of (callN k)) N_is_weave_of.length)) := by
  refine def_ok G.u_is_weave_of sc_is_weave_of fun cdv A outer s H E hr => ?_
  have I : In (cxOf (L2.CX P w) P w K mg base N_is_weave_of "is_weave_of" (defScope st_is_weave_of) (fa 9) cdv A outer s H E) (fun cls d _ H => E cls d H) k := in_of sc_is_weave_of.nd hr
  have hp := hp_of (X := cxOf (L2.CX P w) P w K mg base N_is_weave_of "is_weave_of" (defScope st_is_weave_of) (fa 9) cdv A outer s H E) rfl
  exact s_cons (y_asg (x_all (x_lst (y_cons (x_tup (y_cons (y_l 1) (y_cons (y_int) (x_nil)))) (x_nil)))) (y_gl I 2)) (s_cons (y_asg (y_int) (y_gl I 3)) (s_cons (s_while (n := fuel) hp (y_tcmp (o_lt I.u) (y_l 3) (y_cb c_len G.n_len (by kernel_rfl) (y_cons (y_l 2) (x_nil)))) (s_cons (y_asg (y_sub I (y_l 2) (y_l 3)) (y_gtp I (y_gcons (y_gl I 4) (y_gcons (y_gc I 5) (x_gnil))))) (s_cons (y_aug I 3 i_add (y_int)) (s_cons (s_if (PW.pt (x_tor (x_tnot (y_tru (y_call I L.F_heads G.m_heads G.k_heads G.b_heads (y_cons (y_l 4) (x_nil))))) (x_tor (y_tcmp (o_gt) (y_c 5) (y_g G.c_MOST_DEEP)) (x_tor1 (y_tcmp (o_gt) (y_cb c_len G.n_len (by kernel_rfl) (y_cons (y_l 2) (x_nil))) (y_g G.c_MOST_NODES)))))) (s_one (s_ret (y_bl))) (s_nil)) (s_one (s_if (y_tcmp (o_eq I.u) (y_sub I (y_l 4) (y_int)) (y_str)) (s_one (s_if (x_tnot (y_tru (y_call I L.F_is_letter G.m_is_letter G.k_is_letter G.b_is_letter (y_cons (y_l 0) (y_cons (y_sub I (y_l 4) (y_int)) (x_nil)))))) (s_one (s_ret (y_bl))) (s_nil))) (s_one (y_expr (y_mL PySem.F.slot_list_extend PySem.F.type_list_extend m_extend (y_l 2) (y_cons (x_frz (y_lc I [("part", 6)] (x_src (y_call I L.F_inner G.m_inner G.k_inner G.b_inner (y_cons (y_l 4) (x_nil)))) (fun _ _ _ _ _ => y_gl I.blk 6) (fun _ _ _ _ _ => x_ptsNil (W := W0)) (fun _ _ _ _ _ => x_tup (y_cons (y_l 6) (y_cons (x_bin o_add (y_c 5) (y_int)) (x_nil)))))) (x_nil))))))))))) (s_one (s_ret (y_cb (c_all I.calm) G.n_all (by kernel_rfl) (y_cons (x_frz (y_lc I [("here", 4), ("deep", 5)] (x_src (y_l 2)) (fun _ _ _ _ _ => y_gtp I.blk (y_gcons (y_gl I.blk 4) (y_gcons (y_gl I.blk 5) (x_gnil)))) (fun _ _ _ _ _ => x_tone (y_tcmp (o_eq I.blk.u) (y_sub I.blk (y_l 4) (y_int)) (y_str))) (fun _ _ _ _ _ => y_call I.blk L.F_rises G.m_rises G.k_rises G.b_rises (y_cons (y_sub I.blk (y_l 4) (y_int)) (x_nil))))) (x_nil)))))))
theorem d_rises (G : Gs P w K mg base T fa fd ca cc) (L : Lv P w K mg base T fa fd k) : FnOk P w K mg base (L2.CX P w) (k + 1) (fa 10) (fd 10) P_rises (spC K mg T P_rises.length (bodyOf (f_rises (callN k)) N_rises.length)) := by
  refine def_ok G.u_rises sc_rises fun cdv A outer s H E hr => ?_
  have I : In (cxOf (L2.CX P w) P w K mg base N_rises "rises" (defScope st_rises) (fa 10) cdv A outer s H E) (fun cls d _ H => E cls d H) k := in_of sc_rises.nd hr
  exact s_one (s_ret (y_cb (c_all I.calm) G.n_all (by kernel_rfl) (y_cons (x_frz (y_lc I [("one", 1), ("other", 2)] (y_zip G.n_zip (y_cons (y_l 0) (y_cons (y_sl (y_l 0) (x_part (y_int)) (x_noPart)) (x_nil)))) (fun _ _ _ _ _ => y_gtp I.blk (y_gcons (y_gl I.blk 1) (y_gcons (y_gl I.blk 2) (x_gnil)))) (fun _ _ _ _ _ => x_ptsNil (W := W0)) (fun _ _ _ _ _ => y_cmp (o_lt I.blk.u) (y_l 1) (y_l 2)))) (x_nil))))
theorem d_is_weave (G : Gs P w K mg base T fa fd ca cc) (L : Lv P w K mg base T fa fd k) : FnOk P w K mg base (L2.CX P w) (k + 1) (fa 11) (fd 11) P_is_weave (spC K mg T P_is_weave.length (bodyOf (f_is_weave (callN k)) N_is_weave.length)) := by
  refine def_ok G.u_is_weave sc_is_weave fun cdv A outer s H E hr => ?_
  have I : In (cxOf (L2.CX P w) P w K mg base N_is_weave "is_weave" (defScope st_is_weave) (fa 11) cdv A outer s H E) (fun cls d _ H => E cls d H) k := in_of sc_is_weave.nd hr
  exact s_cons (y_expr (y_call I L.F_need_scope G.m_need_scope G.k_need_scope G.b_need_scope (y_cons (y_l 0) (x_nil)))) (s_one (s_ret (y_call I L.F_is_weave_of G.m_is_weave_of G.k_is_weave_of G.b_is_weave_of (y_cons (y_l 0) (y_cons (y_l 1) (x_nil))))))
theorem d__law_begun (G : Gs P w K mg base T fa fd ca cc) (L : Lv P w K mg base T fa fd k) : FnOk P w K mg base (L2.CX P w) (k + 1) (fa 12) (fd 12) P__law_begun (spC K mg T P__law_begun.length (bodyOf (f__law_begun (callN k)) N__law_begun.length)) := by
  refine def_ok G.u__law_begun sc__law_begun fun cdv A outer s H E hr => ?_
  have I : In (cxOf (L2.CX P w) P w K mg base N__law_begun "_law_begun" (defScope st__law_begun) (fa 12) cdv A outer s H E) (fun cls d _ H => E cls d H) k := in_of sc__law_begun.nd hr
  exact s_cons (y_setLc I 1 [("grain", 2)] eAll (.inr rfl) (x_src (y_l 0)) (fun _ _ _ _ _ => y_gl I.blk 2) (fun _ _ _ _ _ => x_tone (y_tcmp (o_ge) (y_cb c_abs G.n_abs (by kernel_rfl) (y_cons (y_l 2) (x_nil))) (x_bin o_pow (y_int) (y_int)))) (fun _ _ _ _ _ => x_bin o_sub (y_cb c_abs G.n_abs (by kernel_rfl) (y_cons (y_l 2) (x_nil))) (x_bin o_pow (y_int) (y_int)))) (s_one (s_ret (y_dict (.cons (y_str) (y_l 1) (.cons (y_str) (x_frz (y_lc I [("grain", 2)] (x_src (y_l 0)) (fun _ _ _ _ _ => y_gl I.blk 2) (fun _ _ _ _ _ => x_ptsNil (W := W0)) (fun _ _ _ _ _ => x_bin o_mod (y_ct c_int G.n_int (by kernel_rfl) (y_cons (y_cb c_abs G.n_abs (by kernel_rfl) (y_cons (y_l 2) (x_nil))) (x_nil))) (y_int)))) (.cons (y_str) (y_int) (.cons (y_str) (y_int) (.nil))))))))
theorem d__law_mixed (G : Gs P w K mg base T fa fd ca cc) (L : Lv P w K mg base T fa fd k) : FnOk P w K mg base (L2.CX P w) (k + 1) (fa 13) (fd 13) P__law_mixed (spC K mg T P__law_mixed.length (bodyOf (f__law_mixed (callN k)) N__law_mixed.length)) := by
  refine def_ok G.u__law_mixed sc__law_mixed fun cdv A outer s H E hr => ?_
  have I : In (cxOf (L2.CX P w) P w K mg base N__law_mixed "_law_mixed" (defScope st__law_mixed) (fa 13) cdv A outer s H E) (fun cls d _ H => E cls d H) k := in_of sc__law_mixed.nd hr
  have hp := hp_of (X := cxOf (L2.CX P w) P w K mg base N__law_mixed "_law_mixed" (defScope st__law_mixed) (fa 13) cdv A outer s H E) rfl
  exact s_cons (y_par I 1 2 (y_cons (x_bin o_add (y_sub I (y_l 0) (y_str)) (y_int)) (y_cons (y_int) (x_nil)))) (s_cons (y_put I (y_l 1) (y_l 0) (y_str)) (s_cons (y_for I hp (x_src (x_frz (x_lst (y_cons (y_int) (y_cons (y_int) (y_cons (y_int) (y_cons (y_int) (x_nil)))))))) (y_gl I 3) (s_cons (y_asg (x_bin o_add (x_bin o_mul (y_int) (y_l 1)) (x_bin o_div (y_l 3) (y_int))) (y_gl I 4)) (s_cons (y_for I hp (x_src (y_sub I (y_l 0) (y_str))) (y_gl I 5) (s_one (y_asg (x_bin o_mod (y_ct c_int G.n_int (by kernel_rfl) (y_cons (x_bin o_add (x_bin o_add (x_bin o_mul (y_l 4) (y_int)) (y_l 5)) (y_l 1)) (x_nil))) (y_l 3)) (y_gl I 4)))) (s_one (y_asg (x_bin o_add (x_bin o_mul (y_l 2) (y_int)) (x_bin o_mod (y_ct c_int G.n_int (by kernel_rfl) (y_cons (x_bin o_pow (y_l 4) (y_int)) (x_nil))) (y_l 3))) (y_gl I 2)))))) (s_one (s_ret (y_l 2)))))
theorem d__law_take (G : Gs P w K mg base T fa fd ca cc) (L : Lv P w K mg base T fa fd k) : FnOk P w K mg base (L2.CX P w) (k + 1) (fa 14) (fd 14) P__law_take (spC K mg T P__law_take.length (bodyOf (f__law_take (callN k)) N__law_take.length)) := by
  refine def_ok G.u__law_take sc__law_take fun cdv A outer s H E hr => ?_
  have I : In (cxOf (L2.CX P w) P w K mg base N__law_take "_law_take" (defScope st__law_take) (fa 14) cdv A outer s H E) (fun cls d _ H => E cls d H) k := in_of sc__law_take.nd hr
  exact s_cons (s_if (y_tcmp (o_eq I.u) (y_sub I (y_l 0) (y_str)) (y_int)) (s_one (y_put I (x_ifE (y_tcmp (o_ne I.u) (y_sub I (y_l 0) (y_str)) (x_frz (x_lst (x_nil)))) (y_mL PySem.F.slot_list_pop PySem.F.type_list_pop m_popAt (y_sub I (y_l 0) (y_str)) (y_cons (y_int) (x_nil))) (y_call I L.F__law_mixed G.m__law_mixed G.k__law_mixed G.b__law_mixed (y_cons (y_l 0) (x_nil)))) (y_l 0) (y_str))) (s_nil)) (s_cons (y_asg (x_bin o_mod (y_ct c_int G.n_int (by kernel_rfl) (y_cons (y_sub I (y_l 0) (y_str)) (x_nil))) (y_l 1)) (y_gl I 2)) (s_cons (y_put I (x_bin o_div (y_sub I (y_l 0) (y_str)) (y_l 1)) (y_l 0) (y_str)) (s_one (s_ret (y_l 2)))))
theorem d__law_pick (G : Gs P w K mg base T fa fd ca cc) (L : Lv P w K mg base T fa fd k) : FnOk P w K mg base (L2.CX P w) (k + 1) (fa 15) (fd 15) P__law_pick (spC K mg T P__law_pick.length (bodyOf (f__law_pick (callN k)) N__law_pick.length)) := by
  refine def_ok G.u__law_pick sc__law_pick fun cdv A outer s H E hr => ?_
  have I : In (cxOf (L2.CX P w) P w K mg base N__law_pick "_law_pick" (defScope st__law_pick) (fa 15) cdv A outer s H E) (fun cls d _ H => E cls d H) k := in_of sc__law_pick.nd hr
  exact s_one (s_ret (y_sub I (y_l 1) (y_call I L.F__law_take G.m__law_take G.k__law_take G.b__law_take (y_cons (y_l 0) (y_cons (y_cb c_len G.n_len (by kernel_rfl) (y_cons (y_l 1) (x_nil))) (x_nil))))))
theorem d__law_shuffled (G : Gs P w K mg base T fa fd ca cc) (L : Lv P w K mg base T fa fd k) : FnOk P w K mg base (L2.CX P w) (k + 1) (fa 16) (fd 16) P__law_shuffled (spC K mg T P__law_shuffled.length (bodyOf (f__law_shuffled (callN k)) N__law_shuffled.length)) := by
  refine def_ok G.u__law_shuffled sc__law_shuffled fun cdv A outer s H E hr => ?_
  have I : In (cxOf (L2.CX P w) P w K mg base N__law_shuffled "_law_shuffled" (defScope st__law_shuffled) (fa 16) cdv A outer s H E) (fun cls d _ H => E cls d H) k := in_of sc__law_shuffled.nd hr
  have hp := hp_of (X := cxOf (L2.CX P w) P w K mg base N__law_shuffled "_law_shuffled" (defScope st__law_shuffled) (fa 16) cdv A outer s H E) rfl
  exact s_cons (y_par I 2 3 (y_cons (x_all (y_ctL c_list G.n_list (by kernel_rfl) (y_cons (y_l 1) (x_nil)))) (y_cons (x_all (x_lst (x_nil))) (x_nil)))) (s_cons (s_while (n := fuel) hp (y_tcmp (o_ne I.u) (y_l 2) (x_frz (x_lst (x_nil)))) (s_one (y_expr (y_mL PySem.F.slot_list_append PySem.F.type_list_append m_append (y_l 3) (y_cons (y_mL PySem.F.slot_list_pop PySem.F.type_list_pop m_popAt (y_l 2) (y_cons (y_call I L.F__law_take G.m__law_take G.k__law_take G.b__law_take (y_cons (y_l 0) (y_cons (y_cb c_len G.n_len (by kernel_rfl) (y_cons (y_l 2) (x_nil))) (x_nil)))) (x_nil))) (x_nil)))))) (s_one (s_ret (y_l 3))))
theorem d__law_names (G : Gs P w K mg base T fa fd ca cc) (L : Lv P w K mg base T fa fd k) : FnOk P w K mg base (L2.CX P w) (k + 1) (fa 18) (fd 18) P__law_names (spC K mg T P__law_names.length (bodyOf (f__law_names (callN k)) N__law_names.length)) := by
  refine def_ok G.u__law_names sc__law_names fun cdv A outer s H E hr => ?_
  have I : In (cxOf (L2.CX P w) P w K mg base N__law_names "_law_names" (defScope st__law_names) (fa 18) cdv A outer s H E) (fun cls d _ H => E cls d H) k := in_of sc__law_names.nd hr
  have hp := hp_of (X := cxOf (L2.CX P w) P w K mg base N__law_names "_law_names" (defScope st__law_names) (fa 18) cdv A outer s H E) rfl
  exact s_cons (y_asg (x_frz (x_lst (x_nil))) (y_gl I 2)) (s_cons (y_for I hp (x_src (y_str)) (y_gc I 3) (s_one (y_asg (x_bin o_add (y_l 2) (x_frz (y_lc I [("other", 5)] (x_src (y_str)) (fun _ _ _ _ _ => y_gl I.blk 5) (fun _ _ _ _ _ => x_ptsNil (W := W0)) (fun _ _ _ _ _ => x_bin o_add (y_c 3) (y_l 5))))) (y_gl I 2)))) (s_one (s_ret (x_frz (y_lc I [("stem", 4)] (x_src (y_sl (y_call I L.F__law_shuffled G.m__law_shuffled G.k__law_shuffled G.b__law_shuffled (y_cons (y_c 0) (y_cons (y_l 2) (x_nil)))) (x_noPart) (x_part (y_l 1)))) (fun _ _ _ _ _ => y_gl I.blk 4) (fun _ _ _ _ _ => x_ptsNil (W := W0)) (fun _ _ _ _ _ => x_bin o_add (y_l 4) (y_call I.blk L.F__law_pick G.m__law_pick G.k__law_pick G.b__law_pick (y_cons (y_c 0) (y_cons (x_frz (x_lst (y_cons (y_str) (y_cons (y_str) (y_cons (y_str) (y_cons (y_str) (x_nil))))))) (x_nil))))))))))
theorem d__law_scope (G : Gs P w K mg base T fa fd ca cc) (L : Lv P w K mg base T fa fd k) : FnOk P w K mg base (L2.CX P w) (k + 1) (fa 19) (fd 19) P__law_scope (spC K mg T P__law_scope.length (bodyOf (f__law_scope (callN k)) N__law_scope.length)) := by
  refine def_ok G.u__law_scope sc__law_scope fun cdv A outer s H E hr => ?_
  have I : In (cxOf (L2.CX P w) P w K mg base N__law_scope "_law_scope" (defScope st__law_scope) (fa 19) cdv A outer s H E) (fun cls d _ H => E cls d H) k := in_of sc__law_scope.nd hr
  exact s_one (s_ret (y_ct c_tuple G.n_tuple (by kernel_rfl) (y_cons (x_frz (y_cbL (c_sorted I) G.n_sorted (by kernel_rfl) (y_cons (y_call I L.F__law_names G.m__law_names G.k__law_names G.b__law_names (y_cons (y_l 0) (y_cons (y_call I L.F__law_take G.m__law_take G.k__law_take G.b__law_take (y_cons (y_l 0) (y_cons (x_bin o_add (y_l 1) (y_int)) (x_nil)))) (x_nil)))) (x_nil)))) (x_nil))))
theorem d__law_letters (G : Gs P w K mg base T fa fd ca cc) (L : Lv P w K mg base T fa fd k) : FnOk P w K mg base (L2.CX P w) (k + 1) (fa 20) (fd 20) P__law_letters (spC K mg T P__law_letters.length (bodyOf (f__law_letters (callN k)) N__law_letters.length)) := by
  refine def_ok G.u__law_letters sc__law_letters fun cdv A outer s H E hr => ?_
  have I : In (cxOf (L2.CX P w) P w K mg base N__law_letters "_law_letters" (defScope st__law_letters) (fa 20) cdv A outer s H E) (fun cls d _ H => E cls d H) k := in_of sc__law_letters.nd hr
  have hp := hp_of (X := cxOf (L2.CX P w) P w K mg base N__law_letters "_law_letters" (defScope st__law_letters) (fa 20) cdv A outer s H E) rfl
  exact s_cons (y_asg (x_frz (x_lst (y_cons (x_tup (x_nil)) (x_nil)))) (y_gl I 1)) (s_cons (y_for I hp (x_src (y_l 0)) (y_gc I 2) (s_one (y_asg (x_bin o_add (y_l 1) (x_frz (y_lc I [("letter", 3)] (x_src (y_l 1)) (fun _ _ _ _ _ => y_gl I.blk 3) (fun _ _ _ _ _ => x_ptsNil (W := W0)) (fun _ _ _ _ _ => x_bin o_add (y_l 3) (x_tup (y_cons (y_c 2) (x_nil))))))) (y_gl I 1)))) (s_one (s_ret (y_l 1))))
theorem d__law_paths (G : Gs P w K mg base T fa fd ca cc) (L : Lv P w K mg base T fa fd k) : FnOk P w K mg base (L2.CX P w) (k + 1) (fa 21) (fd 21) P__law_paths (spC K mg T P__law_paths.length (bodyOf (f__law_paths (callN k)) N__law_paths.length)) := by
  refine def_ok G.u__law_paths sc__law_paths fun cdv A outer s H E hr => ?_
  have I : In (cxOf (L2.CX P w) P w K mg base N__law_paths "_law_paths" (defScope st__law_paths) (fa 21) cdv A outer s H E) (fun cls d _ H => E cls d H) k := in_of sc__law_paths.nd hr
  have hp := hp_of (X := cxOf (L2.CX P w) P w K mg base N__law_paths "_law_paths" (defScope st__law_paths) (fa 21) cdv A outer s H E) rfl
  exact s_cons (y_asg (x_frz (x_lst (y_cons (x_tup (x_nil)) (x_nil)))) (y_gl I 1)) (s_cons (y_for I hp (y_enum G.n_enumerate (y_cons (x_ifE (y_tru (y_isi G.n_isinstance G.n_tuple (by kernel_rfl) (y_l 0))) (y_l 0) (x_tup (x_nil))) (x_nil))) (y_gtp I (y_gcons (y_gc I 2) (y_gcons (y_gl I 3) (x_gnil)))) (s_one (y_asg (x_bin o_add (y_l 1) (x_frz (y_lc I [("path", 4)] (x_src (y_call I L.F__law_paths G.m__law_paths G.k__law_paths G.b__law_paths (y_cons (y_l 3) (x_nil)))) (fun _ _ _ _ _ => y_gl I.blk 4) (fun _ _ _ _ _ => x_ptsNil (W := W0)) (fun _ _ _ _ _ => x_bin o_add (x_tup (y_cons (y_c 2) (x_nil))) (y_l 4))))) (y_gl I 1)))) (s_one (s_ret (y_l 1))))
theorem d__law_part (G : Gs P w K mg base T fa fd ca cc) (L : Lv P w K mg base T fa fd k) : FnOk P w K mg base (L2.CX P w) (k + 1) (fa 22) (fd 22) P__law_part (spC K mg T P__law_part.length (bodyOf (f__law_part (callN k)) N__law_part.length)) := by
  refine def_ok G.u__law_part sc__law_part fun cdv A outer s H E hr => ?_
  have I : In (cxOf (L2.CX P w) P w K mg base N__law_part "_law_part" (defScope st__law_part) (fa 22) cdv A outer s H E) (fun cls d _ H => E cls d H) k := in_of sc__law_part.nd hr
  exact s_one (s_ret (x_ifE (y_tcmp (o_eq I.u) (y_l 1) (x_tup (x_nil))) (y_l 0) (y_call I L.F__law_part G.m__law_part G.k__law_part G.b__law_part (y_cons (y_sub I (y_l 0) (y_sub I (y_l 1) (y_int))) (y_cons (y_sl (y_l 1) (x_part (y_int)) (x_noPart)) (x_nil))))))
theorem d__law_put (G : Gs P w K mg base T fa fd ca cc) (L : Lv P w K mg base T fa fd k) : FnOk P w K mg base (L2.CX P w) (k + 1) (fa 23) (fd 23) P__law_put (spC K mg T P__law_put.length (bodyOf (f__law_put (callN k)) N__law_put.length)) := by
  refine def_ok G.u__law_put sc__law_put fun cdv A outer s H E hr => ?_
  have I : In (cxOf (L2.CX P w) P w K mg base N__law_put "_law_put" (defScope st__law_put) (fa 23) cdv A outer s H E) (fun cls d _ H => E cls d H) k := in_of sc__law_put.nd hr
  exact s_one (s_ret (x_ifE (y_tcmp (o_eq I.u) (y_l 1) (x_tup (x_nil))) (y_l 2) (x_bin o_add (x_bin o_add (y_sl (y_l 0) (x_noPart) (x_part (y_sub I (y_l 1) (y_int)))) (x_tup (y_cons (y_call I L.F__law_put G.m__law_put G.k__law_put G.b__law_put (y_cons (y_sub I (y_l 0) (y_sub I (y_l 1) (y_int))) (y_cons (y_sl (y_l 1) (x_part (y_int)) (x_noPart)) (y_cons (y_l 2) (x_nil))))) (x_nil)))) (y_sl (y_l 0) (x_part (x_bin o_add (y_sub I (y_l 1) (y_int)) (y_int))) (x_noPart)))))
theorem d__law_odd (G : Gs P w K mg base T fa fd ca cc) (L : Lv P w K mg base T fa fd k) : FnOk P w K mg base (L2.CX P w) (k + 1) (fa 24) (fd 24) P__law_odd (spC K mg T P__law_odd.length (bodyOf (f__law_odd (callN k)) N__law_odd.length)) := by
  refine def_ok G.u__law_odd sc__law_odd fun cdv A outer s H E hr => ?_
  have I : In (cxOf (L2.CX P w) P w K mg base N__law_odd "_law_odd" (defScope st__law_odd) (fa 24) cdv A outer s H E) (fun cls d _ H => E cls d H) k := in_of sc__law_odd.nd hr
  exact s_cons (s_if (PW.pt (x_tand (y_tru (y_isi G.n_isinstance G.n_tuple (by kernel_rfl) (y_l 1))) (x_tand1 (y_tcmp (o_gt) (y_call I L.F__law_take G.m__law_take G.k__law_take G.b__law_take (y_cons (y_l 0) (y_cons (y_int) (x_nil)))) (y_int))))) (s_cons (y_asg (y_call I L.F__law_take G.m__law_take G.k__law_take G.b__law_take (y_cons (y_l 0) (y_cons (x_bin o_add (y_cb c_len G.n_len (by kernel_rfl) (y_cons (y_l 1) (x_nil))) (y_int)) (x_nil)))) (y_gl I 3)) (s_cons (y_asg (x_frz (x_lst (y_cons (x_bin o_add (y_sl (y_l 1) (x_noPart) (x_part (y_l 3))) (y_sl (y_l 1) (x_part (x_bin o_add (y_l 3) (y_int))) (x_noPart))) (y_cons (x_bin o_add (x_bin o_add (y_sl (y_l 1) (x_noPart) (x_part (y_l 3))) (y_sl (y_l 1) (x_part (y_l 3)) (x_part (x_bin o_add (y_l 3) (y_int))))) (y_sl (y_l 1) (x_part (y_l 3)) (x_noPart))) (y_cons (x_rev (y_l 1)) (y_cons (x_frz (y_ctL c_list G.n_list (by kernel_rfl) (y_cons (y_l 1) (x_nil)))) (y_cons (x_bin o_add (y_l 1) (x_tup (y_cons (y_non) (x_nil)))) (y_cons (x_tup (x_nil)) (x_nil))))))))) (y_gl I 4)) (s_one (s_ret (y_call I L.F__law_pick G.m__law_pick G.k__law_pick G.b__law_pick (y_cons (y_l 0) (y_cons (y_l 4) (x_nil)))))))) (s_nil)) (s_cons (s_if (PW.pt (x_tand (y_tru (y_isi G.n_isinstance G.n_str (by kernel_rfl) (y_l 1))) (x_tand1 (y_tcmp (o_gt) (y_call I L.F__law_take G.m__law_take G.k__law_take G.b__law_take (y_cons (y_l 0) (y_cons (y_int) (x_nil)))) (y_int))))) (s_one (s_ret (y_call I L.F__law_pick G.m__law_pick G.k__law_pick G.b__law_pick (y_cons (y_l 0) (y_cons (x_bin o_add (y_l 2) (x_frz (x_lst (y_cons (x_bin o_add (y_l 1) (y_str)) (y_cons (y_sl (y_l 1) (x_noPart) (x_part (y_neg))) (y_cons (y_mS0 PySem.F.slot_str_upper PySem.F.type_str_upper m_upper (y_l 1)) (y_cons (x_tup (y_cons (y_l 1) (x_nil))) (y_cons (y_str) (y_cons (y_str) (y_cons (y_str) (y_cons (y_str) (x_nil)))))))))))) (x_nil)))))) (s_nil)) (s_cons (s_if (PW.pt (x_tand (y_tru (y_isi G.n_isinstance G.n_int (by kernel_rfl) (y_l 1))) (x_tand (x_tnot (y_tru (y_isi G.n_isinstance G.n_bool (by kernel_rfl) (y_l 1)))) (x_tand1 (y_tcmp (o_gt) (y_call I L.F__law_take G.m__law_take G.k__law_take G.b__law_take (y_cons (y_l 0) (y_cons (y_int) (x_nil)))) (y_int)))))) (s_one (s_ret (y_call I L.F__law_pick G.m__law_pick G.k__law_pick G.b__law_pick (y_cons (y_l 0) (y_cons (x_frz (x_lst (y_cons (x_bin o_add (y_l 1) (y_int)) (y_cons (x_bin o_sub (y_l 1) (y_int)) (y_cons (y_int) (y_cons (y_int) (y_cons (y_int) (y_cons (y_int) (y_cons (y_int) (y_cons (y_int) (y_cons (y_int) (y_cons (y_neg) (y_cons (y_bl) (y_cons (y_bl) (y_cons (y_ct c_str G.n_str (by kernel_rfl) (y_cons (y_l 1) (x_nil))) (y_cons (x_tup (y_cons (y_l 1) (x_nil))) (x_nil))))))))))))))))) (x_nil)))))) (s_nil)) (s_one (s_ret (y_call I L.F__law_pick G.m__law_pick G.k__law_pick G.b__law_pick (y_cons (y_l 0) (y_cons (x_frz (x_lst (y_cons (y_non) (y_cons (y_int) (y_cons (y_int) (y_cons (y_bl) (y_cons (y_str) (y_cons (y_str) (y_cons (x_tup (x_nil)) (y_cons (x_frz (x_lst (x_nil))) (y_cons (x_dict0) (y_cons (x_tup (y_cons (y_str) (x_nil))) (y_cons (x_tup (y_cons (y_str) (x_nil))) (y_cons (y_neg) (x_nil))))))))))))))) (x_nil))))))))
theorem d__law_bent (G : Gs P w K mg base T fa fd ca cc) (L : Lv P w K mg base T fa fd k) : FnOk P w K mg base (L2.CX P w) (k + 1) (fa 25) (fd 25) P__law_bent (spC K mg T P__law_bent.length (bodyOf (f__law_bent (callN k)) N__law_bent.length)) := by
  refine def_ok G.u__law_bent sc__law_bent fun cdv A outer s H E hr => ?_
  have I : In (cxOf (L2.CX P w) P w K mg base N__law_bent "_law_bent" (defScope st__law_bent) (fa 25) cdv A outer s H E) (fun cls d _ H => E cls d H) k := in_of sc__law_bent.nd hr
  exact s_cons (y_asg (y_call I L.F__law_pick G.m__law_pick G.k__law_pick G.b__law_pick (y_cons (y_l 0) (y_cons (y_call I L.F__law_paths G.m__law_paths G.k__law_paths G.b__law_paths (y_cons (y_l 1) (x_nil))) (x_nil)))) (y_gl I 3)) (s_one (s_ret (y_call I L.F__law_put G.m__law_put G.k__law_put G.b__law_put (y_cons (y_l 1) (y_cons (y_l 3) (y_cons (y_call I L.F__law_odd G.m__law_odd G.k__law_odd G.b__law_odd (y_cons (y_l 0) (y_cons (y_call I L.F__law_part G.m__law_part G.k__law_part G.b__law_part (y_cons (y_l 1) (y_cons (y_l 3) (x_nil)))) (y_cons (y_l 2) (x_nil))))) (x_nil)))))))
theorem d__law_once (G : Gs P w K mg base T fa fd ca cc) (L : Lv P w K mg base T fa fd k) : FnOk P w K mg base (L2.CX P w) (k + 1) (fa 26) (fd 26) P__law_once (spC K mg T P__law_once.length (bodyOf (f__law_once (callN k)) N__law_once.length)) := by
  refine def_ok G.u__law_once sc__law_once fun cdv A outer s H E hr => ?_
  have I : In (cxOf (L2.CX P w) P w K mg base N__law_once "_law_once" (defScope st__law_once) (fa 26) cdv A outer s H E) (fun cls d _ H => E cls d H) k := in_of sc__law_once.nd hr
  have hp := hp_of (X := cxOf (L2.CX P w) P w K mg base N__law_once "_law_once" (defScope st__law_once) (fa 26) cdv A outer s H E) rfl
  exact s_cons (y_asg (x_all (x_lst (x_nil))) (y_gl I 1)) (s_cons (y_for I hp (x_src (x_frz (y_cbL (c_sorted I) G.n_sorted (by kernel_rfl) (y_cons (y_l 0) (x_nil))))) (y_gl I 2) (s_one (s_if (PW.pt (x_tor (y_tcmp (o_eq I.u) (y_l 1) (x_frz (x_lst (x_nil)))) (x_tor1 (y_tcmp (o_ne I.u) (y_sub I (y_l 1) (y_neg)) (y_l 2))))) (s_one (y_expr (y_mL PySem.F.slot_list_append PySem.F.type_list_append m_append (y_l 1) (y_cons (y_l 2) (x_nil))))) (s_nil)))) (s_one (s_ret (y_ct c_tuple G.n_tuple (by kernel_rfl) (y_cons (y_l 1) (x_nil))))))
theorem d__law_weave (G : Gs P w K mg base T fa fd ca cc) (L : Lv P w K mg base T fa fd k) : FnOk P w K mg base (L2.CX P w) (k + 1) (fa 27) (fd 27) P__law_weave (spC K mg T P__law_weave.length (bodyOf (f__law_weave (callN k)) N__law_weave.length)) := by
  refine def_ok G.u__law_weave sc__law_weave fun cdv A outer s H E hr => ?_
  have I : In (cxOf (L2.CX P w) P w K mg base N__law_weave "_law_weave" (defScope st__law_weave) (fa 27) cdv A outer s H E) (fun cls d _ H => E cls d H) k := in_of sc__law_weave.nd hr
  exact s_cons (y_put I (x_bin o_sub (y_sub I (y_c 2) (y_int)) (y_int)) (y_c 2) (y_int)) (s_cons (y_asg (y_call I L.F__law_take G.m__law_take G.k__law_take G.b__law_take (y_cons (y_c 0) (y_cons (y_int) (x_nil)))) (y_gl I 3)) (s_cons (s_if (PW.pt (x_tor (y_tcmp (o_le) (y_sub I (y_c 2) (y_int)) (y_int)) (x_tor1 (y_tcmp (o_lt I.u) (y_l 3) (y_int))))) (s_one (s_ret (x_ifE (PW.pt (x_tand (y_tcmp (o_eq I.u) (y_l 3) (y_int)) (x_tand1 (y_tcmp (o_eq I.u) (y_call I L.F__law_take G.m__law_take G.k__law_take G.b__law_take (y_cons (y_c 0) (y_cons (y_int) (x_nil)))) (y_int))))) (x_tup (y_cons (y_str) (x_nil))) (x_tup (y_cons (y_str) (y_cons (y_call I L.F__law_pick G.m__law_pick G.k__law_pick G.b__law_pick (y_cons (y_c 0) (y_cons (y_call I L.F__law_letters G.m__law_letters G.k__law_letters G.b__law_letters (y_cons (y_c 1) (x_nil))) (x_nil)))) (x_nil))))))) (s_nil)) (s_cons (s_if (y_tcmp (o_lt I.u) (y_l 3) (y_int)) (s_cons (y_asg (y_call I L.F__law_weave G.m__law_weave G.k__law_weave G.b__law_weave (y_cons (y_c 0) (y_cons (y_c 1) (y_cons (y_c 2) (x_nil))))) (y_gl I 4)) (s_one (s_ret (x_tup (y_cons (y_str) (y_cons (y_l 4) (y_cons (y_call I L.F__law_weave G.m__law_weave G.k__law_weave G.b__law_weave (y_cons (y_c 0) (y_cons (y_c 1) (y_cons (y_c 2) (x_nil))))) (x_nil)))))))) (s_nil)) (s_cons (s_if (y_tcmp (o_lt I.u) (y_l 3) (y_int)) (s_one (s_ret (x_tup (y_cons (y_sub I (x_frz (x_lst (y_cons (y_str) (y_cons (y_str) (x_nil))))) (x_bin o_sub (y_l 3) (y_int))) (y_cons (y_call I L.F__law_weave G.m__law_weave G.k__law_weave G.b__law_weave (y_cons (y_c 0) (y_cons (y_c 1) (y_cons (y_c 2) (x_nil))))) (x_nil)))))) (s_nil)) (s_cons (y_setLc I 5 [("k", 6)] eFrz (.inl rfl) (y_rng1 G.n_range (y_cons (x_bin o_add (y_int) (y_call I L.F__law_take G.m__law_take G.k__law_take G.b__law_take (y_cons (y_c 0) (y_cons (y_int) (x_nil))))) (x_nil))) (fun _ _ _ _ _ => y_gl I.blk 6) (fun _ _ _ _ _ => x_ptsNil (W := W0)) (fun _ _ _ _ _ => y_call I.blk L.F__law_weave G.m__law_weave G.k__law_weave G.b__law_weave (y_cons (y_c 0) (y_cons (y_c 1) (y_cons (y_c 2) (x_nil)))))) (s_one (s_ret (x_tup (y_cons (y_str) (y_cons (y_call I L.F__law_once G.m__law_once G.k__law_once G.b__law_once (y_cons (y_l 5) (x_nil))) (x_nil)))))))))))
theorem d__law_inner (G : Gs P w K mg base T fa fd ca cc) (L : Lv P w K mg base T fa fd k) : FnOk P w K mg base (L2.CX P w) (k + 1) (fa 28) (fd 28) P__law_inner (spC K mg T P__law_inner.length (bodyOf (f__law_inner (callN k)) N__law_inner.length)) := by
  refine def_ok G.u__law_inner sc__law_inner fun cdv A outer s H E hr => ?_
  have I : In (cxOf (L2.CX P w) P w K mg base N__law_inner "_law_inner" (defScope st__law_inner) (fa 28) cdv A outer s H E) (fun cls d _ H => E cls d H) k := in_of sc__law_inner.nd hr
  exact s_cons (s_if (y_tcmp (o_eq I.u) (y_sub I (y_l 0) (y_int)) (y_str)) (s_one (s_ret (x_frz (y_ctL c_list G.n_list (by kernel_rfl) (y_cons (y_sub I (y_l 0) (y_int)) (x_nil)))))) (s_nil)) (s_one (s_ret (x_ifE (y_tcmp (o_in I.u) (y_sub I (y_l 0) (y_int)) (x_frz (x_lst (y_cons (y_str) (y_cons (y_str) (x_nil)))))) (x_frz (x_lst (x_nil))) (x_frz (y_ctL c_list G.n_list (by kernel_rfl) (y_cons (y_sl (y_l 0) (x_part (y_int)) (x_noPart)) (x_nil)))))))
theorem d__law_nodes (G : Gs P w K mg base T fa fd ca cc) (L : Lv P w K mg base T fa fd k) : FnOk P w K mg base (L2.CX P w) (k + 1) (fa 29) (fd 29) P__law_nodes (spC K mg T P__law_nodes.length (bodyOf (f__law_nodes (callN k)) N__law_nodes.length)) := by
  refine def_ok G.u__law_nodes sc__law_nodes fun cdv A outer s H E hr => ?_
  have I : In (cxOf (L2.CX P w) P w K mg base N__law_nodes "_law_nodes" (defScope st__law_nodes) (fa 29) cdv A outer s H E) (fun cls d _ H => E cls d H) k := in_of sc__law_nodes.nd hr
  have hp := hp_of (X := cxOf (L2.CX P w) P w K mg base N__law_nodes "_law_nodes" (defScope st__law_nodes) (fa 29) cdv A outer s H E) rfl
  exact s_cons (y_asg (x_frz (x_lst (y_cons (x_tup (x_nil)) (x_nil)))) (y_gl I 1)) (s_cons (y_for I hp (y_enum G.n_enumerate (y_cons (y_call I L.F__law_inner G.m__law_inner G.k__law_inner G.b__law_inner (y_cons (y_l 0) (x_nil))) (x_nil))) (y_gtp I (y_gcons (y_gc I 2) (y_gcons (y_gl I 3) (x_gnil)))) (s_one (y_asg (x_bin o_add (y_l 1) (x_frz (y_lc I [("path", 4)] (x_src (y_call I L.F__law_nodes G.m__law_nodes G.k__law_nodes G.b__law_nodes (y_cons (y_l 3) (x_nil)))) (fun _ _ _ _ _ => y_gl I.blk 4) (fun _ _ _ _ _ => x_ptsNil (W := W0)) (fun _ _ _ _ _ => x_bin o_add (x_tup (y_cons (y_c 2) (x_nil))) (y_l 4))))) (y_gl I 1)))) (s_one (s_ret (y_l 1))))
theorem d__law_are_names (G : Gs P w K mg base T fa fd ca cc) (L : Lv P w K mg base T fa fd k) : FnOk P w K mg base (L2.CX P w) (k + 1) (fa 30) (fd 30) P__law_are_names (spC K mg T P__law_are_names.length (bodyOf (f__law_are_names (callN k)) N__law_are_names.length)) := by
  refine def_ok G.u__law_are_names sc__law_are_names fun cdv A outer s H E hr => ?_
  have I : In (cxOf (L2.CX P w) P w K mg base N__law_are_names "_law_are_names" (defScope st__law_are_names) (fa 30) cdv A outer s H E) (fun cls d _ H => E cls d H) k := in_of sc__law_are_names.nd hr
  have hp := hp_of (X := cxOf (L2.CX P w) P w K mg base N__law_are_names "_law_are_names" (defScope st__law_are_names) (fa 30) cdv A outer s H E) rfl
  exact s_cons (s_if (x_tnot (y_tru (y_isi G.n_isinstance G.n_tuple (by kernel_rfl) (y_l 0)))) (s_one (s_ret (y_bl))) (s_nil)) (s_cons (y_for I hp (x_src (y_l 0)) (y_gl I 1) (s_one (s_if (PW.pt (x_tor (x_tnot (y_tru (y_isi G.n_isinstance G.n_str (by kernel_rfl) (y_l 1)))) (x_tor (x_tnot (y_tch (o_le) (o_le) (y_int) (y_cb c_len G.n_len (by kernel_rfl) (y_cons (y_l 1) (x_nil))) (y_int))) (x_tor1 (y_tcmp (o_ne I.u) (x_frz (y_lc I [("sign", 2)] (x_src (y_l 1)) (fun _ _ _ _ _ => y_gl I.blk 2) (fun _ _ _ _ _ => x_tone (x_tnot (y_tch (o_le) (o_le) (y_str) (y_l 2) (y_str)))) (fun _ _ _ _ _ => y_l 2))) (x_frz (x_lst (x_nil)))))))) (s_one (s_ret (y_bl))) (s_nil)))) (s_one (s_ret (y_cmp (o_eq I.u) (x_frz (y_ctL c_list G.n_list (by kernel_rfl) (y_cons (y_l 0) (x_nil)))) (x_frz (y_sortSet I G.n_sorted G.n_set (y_l 0)))))))
theorem d__law_is_weave (G : Gs P w K mg base T fa fd ca cc) (L : Lv P w K mg base T fa fd k) : FnOk P w K mg base (L2.CX P w) (k + 1) (fa 31) (fd 31) P__law_is_weave (spC K mg T P__law_is_weave.length (bodyOf (f__law_is_weave (callN k)) N__law_is_weave.length)) := by
  refine def_ok G.u__law_is_weave sc__law_is_weave fun cdv A outer s H E hr => ?_
  have I : In (cxOf (L2.CX P w) P w K mg base N__law_is_weave "_law_is_weave" (defScope st__law_is_weave) (fa 31) cdv A outer s H E) (fun cls d _ H => E cls d H) k := in_of sc__law_is_weave.nd hr
  exact s_cons (s_if (PW.pt (x_tor (y_tcmp (o_gt) (y_c 2) (y_int)) (x_tor (x_tnot (y_tru (y_isi G.n_isinstance G.n_tuple (by kernel_rfl) (y_l 1)))) (x_tor (y_tcmp (o_eq I.u) (y_l 1) (x_tup (x_nil))) (x_tor1 (x_tnot (y_tru (y_isi G.n_isinstance G.n_str (by kernel_rfl) (y_sub I (y_l 1) (y_int)))))))))) (s_one (s_ret (y_bl))) (s_nil)) (s_cons (y_asg (y_dict (.cons (y_str) (y_int) (.cons (y_str) (y_int) (.cons (y_str) (y_int) (.cons (y_str) (y_int) (.cons (y_str) (y_int) (.cons (y_str) (y_int) (.nil)))))))) (y_gl I 3)) (s_cons (s_if (PW.pt (x_tor (y_tcmp (o_notin I.u) (y_sub I (y_l 1) (y_int)) (y_l 3)) (x_tor1 (y_tcmp (o_ne I.u) (y_cb c_len G.n_len (by kernel_rfl) (y_cons (y_l 1) (x_nil))) (y_sub I (y_l 3) (y_sub I (y_l 1) (y_int))))))) (s_one (s_ret (y_bl))) (s_nil)) (s_cons (s_if (y_tcmp (o_eq I.u) (y_sub I (y_l 1) (y_int)) (y_str)) (s_one (s_ret (x_andV (y_call I L.F__law_are_names G.m__law_are_names G.k__law_are_names G.b__law_are_names (y_cons (y_sub I (y_l 1) (y_int)) (x_nil))) (x_one (y_cmp (o_eq I.u) (x_frz (y_lc I [("name", 6)] (x_src (y_sub I (y_l 1) (y_int))) (fun _ _ _ _ _ => y_gl I.blk 6) (fun _ _ _ _ _ => x_tone (y_tcmp (o_notin I.blk.u) (y_l 6) (y_c 0))) (fun _ _ _ _ _ => y_l 6))) (x_frz (x_lst (x_nil)))))))) (s_nil)) (s_cons (y_asg (x_ifE (y_tcmp (o_eq I.u) (y_sub I (y_l 1) (y_int)) (y_str)) (y_sub I (y_l 1) (y_int)) (y_sl (y_l 1) (x_part (y_int)) (x_noPart))) (y_gl I 4)) (s_cons (s_if (PW.pt (x_tor (x_tnot (y_tru (y_isi G.n_isinstance G.n_tuple (by kernel_rfl) (y_l 4)))) (x_tor1 (PW.pt (x_tand (y_tcmp (o_eq I.u) (y_sub I (y_l 1) (y_int)) (y_str)) (x_tand1 (y_tcmp (o_eq I.u) (y_l 4) (x_tup (x_nil))))))))) (s_one (s_ret (y_bl))) (s_nil)) (s_cons (s_if (y_tcmp (o_ne I.u) (x_frz (y_lc I [("part", 5)] (x_src (y_l 4)) (fun _ _ _ _ _ => y_gl I.blk 5) (fun _ _ _ _ _ => x_tone (x_tnot (y_tru (y_call I.blk L.F__law_is_weave G.m__law_is_weave G.k__law_is_weave G.b__law_is_weave (y_cons (y_c 0) (y_cons (y_l 5) (y_cons (x_bin o_add (y_c 2) (y_int)) (x_nil)))))))) (fun _ _ _ _ _ => y_l 5))) (x_frz (x_lst (x_nil)))) (s_one (s_ret (y_bl))) (s_nil)) (s_one (s_ret (x_orV (y_cmp (o_ne I.u) (y_sub I (y_l 1) (y_int)) (y_str)) (x_one (y_cmp (o_eq I.u) (y_l 4) (y_call I L.F__law_once G.m__law_once G.k__law_once G.b__law_once (y_cons (y_l 4) (x_nil))))))))))))))
theorem d__law_said (G : Gs P w K mg base T fa fd ca cc) (L : Lv P w K mg base T fa fd k) : FnOk P w K mg base (L2.CX P w) (k + 1) (fa 32) (fd 32) P__law_said (spC K mg T P__law_said.length (bodyOf (f__law_said (callN k)) N__law_said.length)) := by
  refine def_ok G.u__law_said sc__law_said fun cdv A outer s H E hr => ?_
  have I : In (cxOf (L2.CX P w) P w K mg base N__law_said "_law_said" (defScope st__law_said) (fa 32) cdv A outer s H E) (fun cls d _ H => E cls d H) k := in_of sc__law_said.nd hr
  exact s_one (s_ret (x_andV (y_call I L.F__law_is_weave G.m__law_is_weave G.k__law_is_weave G.b__law_is_weave (y_cons (y_l 0) (y_cons (y_l 1) (y_cons (y_int) (x_nil))))) (x_one (y_cmp (o_le) (y_cb c_len G.n_len (by kernel_rfl) (y_cons (y_call I L.F__law_nodes G.m__law_nodes G.k__law_nodes G.b__law_nodes (y_cons (y_l 1) (x_nil))) (x_nil))) (y_int)))))
theorem d_law (G : Gs P w K mg base T fa fd ca cc) (L : Lv P w K mg base T fa fd k) : FnOk P w K mg base (L2.CX P w) (k + 3) (fa 33) (fd 33) P_law (spC K mg T P_law.length (bodyOf (f_law (callN k)) N_law.length)) := by
  refine def_okC (k := k + 2) G.u_law sc_law fun A outer s H E hr2 => ?_
  have I : In (cxOf (L2.CX P w) P w K mg base N_law "law" (defScope st_law) (fa 33) (.ref (cc 33).1) A outer s H E) (fun cls d _ H => E cls d H) k := in_of sc_law.nd (hr2.mono (Nat.le_add_right _ _))
  have hp := hp_of (X := cxOf (L2.CX P w) P w K mg base N_law "law" (defScope st_law) (fa 33) (.ref (cc 33).1) A outer s H E) rfl
  exact s_cons (y_asg (y_call I L.F__law_begun G.m__law_begun G.k__law_begun G.b__law_begun (y_cons (y_l 0) (x_nil))) (y_gl I 1)) (s_cons (y_for I hp (y_rng1 G.n_range (y_cons (x_bin o_add (y_int) (y_cb (c_min I.calm) G.n_min (by kernel_rfl) (y_cons (y_cb c_len G.n_len (by kernel_rfl) (y_cons (y_l 0) (x_nil))) (y_cons (y_int) (x_nil))))) (x_nil))) (y_gl I 2) (s_cons (y_asg (y_call I L.F__law_scope G.m__law_scope G.k__law_scope G.b__law_scope (y_cons (y_l 1) (y_cons (y_int) (x_nil)))) (y_gl I 3)) (s_cons (y_asg (y_call I L.F__law_weave G.m__law_weave G.k__law_weave G.b__law_weave (y_cons (y_l 1) (y_cons (y_l 3) (y_cons (x_all (x_lst (y_cons (y_int) (x_nil)))) (x_nil))))) (y_gc I 4)) (s_cons (s_if (PW.pt (x_tor (y_tcmp (o_isnot) (y_call I L.F_is_weave G.m_is_weave G.k_is_weave G.b_is_weave (y_cons (y_l 3) (y_cons (y_c 4) (x_nil)))) (y_bl)) (x_tor1 (y_tcmp (o_isnot) (y_callK I L.F_is_weave G.m_is_weave G.k_is_weave G.kb_is_weave_1_0 (x_kcons (y_c 4) (x_kcons (y_l 3) (x_knil)))) (y_bl))))) (s_one (s_ret (y_bl))) (s_nil)) (s_cons (s_if (PW.pt (x_tor (y_tcmp (o_ne I.u) (y_call I L.F_letters G.m_letters G.k_letters G.b_letters (y_cons (y_l 3) (x_nil))) (y_ct c_tuple G.n_tuple (by kernel_rfl) (y_cons (y_call I L.F__law_letters G.m__law_letters G.k__law_letters G.b__law_letters (y_cons (y_l 3) (x_nil))) (x_nil)))) (x_tor1 (y_tcmp (o_ne I.u) (y_callK I L.F_letters G.m_letters G.k_letters G.kb_letters_0 (x_kcons (y_l 3) (x_knil))) (y_call I L.F_letters G.m_letters G.k_letters G.b_letters (y_cons (y_l 3) (x_nil))))))) (s_one (s_ret (y_bl))) (s_nil)) (s_cons (y_asg (y_c 4) (y_gl I 5)) (s_cons (y_for I hp (y_rng1 G.n_range (y_cons (y_int) (x_nil))) (y_gl I 6) (s_cons (y_asg (y_call I L.F__law_bent G.m__law_bent G.k__law_bent G.b__law_bent (y_cons (y_l 1) (y_cons (x_ifE (y_tcmp (o_gt) (y_l 6) (y_int)) (y_l 5) (y_c 4)) (y_cons (x_frz (x_lst (y_cons (y_str) (y_cons (y_str) (y_cons (y_str) (y_cons (y_str) (y_cons (y_str) (y_cons (y_str) (y_cons (y_str) (x_nil)))))))))) (x_nil))))) (y_gl I 5)) (s_one (s_if (y_tcmp (o_ne I.u) (y_cb c_repr G.n_repr (by kernel_rfl) (y_cons (y_call I L.F_is_weave G.m_is_weave G.k_is_weave G.b_is_weave (y_cons (y_l 3) (y_cons (y_l 5) (x_nil)))) (x_nil))) (y_cb c_repr G.n_repr (by kernel_rfl) (y_cons (y_call I L.F__law_said G.m__law_said G.k__law_said G.b__law_said (y_cons (y_l 3) (y_cons (y_l 5) (x_nil)))) (x_nil)))) (s_one (s_ret (y_bl))) (s_nil))))) (s_cons (y_asg (y_call I L.F__law_bent G.m__law_bent G.k__law_bent G.b__law_bent (y_cons (y_l 1) (y_cons (y_l 3) (y_cons (x_frz (x_lst (y_cons (y_str) (x_nil)))) (x_nil))))) (y_gc I 7)) (s_cons (y_asg (x_andV (y_call I L.F__law_are_names G.m__law_are_names G.k__law_are_names G.b__law_are_names (y_cons (y_c 7) (x_nil))) (x_one (y_cmp (o_lt I.u) (y_cb c_len G.n_len (by kernel_rfl) (y_cons (y_c 7) (x_nil))) (y_int)))) (y_gl I 8)) (s_one (s_if (x_tnot (y_tru (y_l 8))) (s_cons (s_if (x_tnot (y_tru (y_caught I hr2 G.n_isinstance G.m__law_caught G.u__law_caught G.b__law_caught sc__law_caught rfl (by kernel_rfl) (gives G rfl rfl) G.tb_law rfl G.tm_law G.tu_law G.x_BadScope G.s_BadScope (fun _ _ _ _ _ _ _ J => y_call J L.F_letters G.m_letters G.k_letters G.b_letters (y_cons (y_f 7) (x_nil)))))) (s_one (s_ret (y_bl))) (s_nil)) (s_one (s_if (x_tnot (y_tru (y_caught I hr2 G.n_isinstance G.m__law_caught G.u__law_caught G.b__law_caught sc__law_caught rfl (by kernel_rfl) (gives G rfl rfl) G.tb_law rfl G.tm_law G.tu_law G.x_BadScope G.s_BadScope (fun _ _ _ _ _ _ _ J => y_call J L.F_is_weave G.m_is_weave G.k_is_weave G.b_is_weave (y_cons (y_f 7) (y_cons (y_f 4) (x_nil))))))) (s_one (s_ret (y_bl))) (s_nil)))) (s_nil)))))))))))) (s_cons (y_par I 9 10 (y_cons (y_call I L.F__law_pick G.m__law_pick G.k__law_pick G.b__law_pick (y_cons (y_l 1) (y_cons (x_frz (x_lst (y_cons (y_int) (y_cons (y_int) (y_cons (y_int) (x_nil)))))) (x_nil)))) (y_cons (x_tup (y_cons (y_str) (y_cons (x_tup (x_nil)) (x_nil)))) (x_nil)))) (s_cons (y_for I hp (y_rng1 G.n_range (y_cons (x_bin o_sub (y_l 9) (y_int)) (x_nil))) (y_gl I 6) (s_one (y_asg (x_tup (y_cons (y_str) (y_cons (y_l 10) (x_nil)))) (y_gl I 10)))) (s_cons (s_if (y_tcmp (o_ne I.u) (y_cb c_repr G.n_repr (by kernel_rfl) (y_cons (y_call I L.F_is_weave G.m_is_weave G.k_is_weave G.b_is_weave (y_cons (x_tup (x_nil)) (y_cons (y_l 10) (x_nil)))) (x_nil))) (y_cb c_repr G.n_repr (by kernel_rfl) (y_cons (y_cmp (o_le) (y_l 9) (y_int)) (x_nil)))) (s_one (s_ret (y_bl))) (s_nil)) (s_cons (y_asg (x_tup (y_cons (x_tup (y_cons (y_str) (y_cons (x_tup (x_nil)) (x_nil)))) (y_cons (x_tup (y_cons (y_str) (y_cons (x_tup (x_nil)) (x_nil)))) (x_nil)))) (y_gtp I (y_gcons (y_gl I 11) (y_gcons (y_gl I 12) (x_gnil))))) (s_cons (y_for I hp (y_rng1 G.n_range (y_cons (y_int) (x_nil))) (y_gl I 6) (s_one (y_par I 11 12 (y_cons (x_tup (y_cons (y_str) (y_cons (y_l 11) (y_cons (y_l 11) (x_nil))))) (y_cons (y_l 11) (x_nil)))))) (s_cons (y_par I 11 9 (y_cons (x_tup (y_cons (y_str) (y_cons (y_l 11) (y_cons (y_l 12) (x_nil))))) (y_cons (y_call I L.F__law_pick G.m__law_pick G.k__law_pick G.b__law_pick (y_cons (y_l 1) (y_cons (x_frz (x_lst (y_cons (y_int) (y_cons (y_int) (y_cons (y_int) (x_nil)))))) (x_nil)))) (x_nil)))) (s_cons (y_for I hp (y_rng1 G.n_range (y_cons (y_l 9) (x_nil))) (y_gl I 6) (s_one (y_asg (x_tup (y_cons (y_str) (y_cons (y_l 11) (x_nil)))) (y_gl I 11)))) (s_one (s_ret (y_cmp (o_eq I.u) (y_cb c_repr G.n_repr (by kernel_rfl) (y_cons (y_call I L.F_is_weave G.m_is_weave G.k_is_weave G.b_is_weave (y_cons (x_tup (x_nil)) (y_cons (y_l 11) (x_nil)))) (x_nil))) (y_cb c_repr G.n_repr (by kernel_rfl) (y_cons (y_cmp (o_lt I.u) (y_l 9) (y_int)) (x_nil))))))))))))))
theorem lv (G : Gs P w K mg base T fa fd ca cc) : ∀ k, Lv P w K mg base T fa fd k
  | 0 => ⟨def_none, def_none, def_none, def_none, def_none, def_none, def_none, def_none, def_none, def_none, def_none, def_none, def_none, def_none, def_none, def_none, def_none, def_none, def_none, def_none, def_none, def_none, def_none, def_none, def_none, def_none, def_none, def_none, def_none, def_none, def_none, def_none, def_none⟩
  | 1 => ⟨def_none.mono (Nat.zero_le _), def_none.mono (Nat.zero_le _), def_none.mono (Nat.zero_le _), def_none.mono (Nat.zero_le _), def_none.mono (Nat.zero_le _), def_none.mono (Nat.zero_le _), def_none.mono (Nat.zero_le _), def_none.mono (Nat.zero_le _), def_none.mono (Nat.zero_le _), def_none.mono (Nat.zero_le _), def_none.mono (Nat.zero_le _), def_none.mono (Nat.zero_le _), def_none.mono (Nat.zero_le _), def_none.mono (Nat.zero_le _), def_none.mono (Nat.zero_le _), def_none.mono (Nat.zero_le _), def_none.mono (Nat.zero_le _), def_none.mono (Nat.zero_le _), def_none.mono (Nat.zero_le _), def_none.mono (Nat.zero_le _), def_none.mono (Nat.zero_le _), def_none.mono (Nat.zero_le _), def_none.mono (Nat.zero_le _), def_none.mono (Nat.zero_le _), def_none.mono (Nat.zero_le _), def_none.mono (Nat.zero_le _), def_none.mono (Nat.zero_le _), def_none.mono (Nat.zero_le _), def_none.mono (Nat.zero_le _), def_none.mono (Nat.zero_le _), def_none.mono (Nat.zero_le _), def_none.mono (Nat.zero_le _), def_none.mono (Nat.zero_le _)⟩
  | 2 => ⟨def_none.mono (Nat.zero_le _), def_none.mono (Nat.zero_le _), def_none.mono (Nat.zero_le _), def_none.mono (Nat.zero_le _), def_none.mono (Nat.zero_le _), def_none.mono (Nat.zero_le _), def_none.mono (Nat.zero_le _), def_none.mono (Nat.zero_le _), def_none.mono (Nat.zero_le _), def_none.mono (Nat.zero_le _), def_none.mono (Nat.zero_le _), def_none.mono (Nat.zero_le _), def_none.mono (Nat.zero_le _), def_none.mono (Nat.zero_le _), def_none.mono (Nat.zero_le _), def_none.mono (Nat.zero_le _), def_none.mono (Nat.zero_le _), def_none.mono (Nat.zero_le _), def_none.mono (Nat.zero_le _), def_none.mono (Nat.zero_le _), def_none.mono (Nat.zero_le _), def_none.mono (Nat.zero_le _), def_none.mono (Nat.zero_le _), def_none.mono (Nat.zero_le _), def_none.mono (Nat.zero_le _), def_none.mono (Nat.zero_le _), def_none.mono (Nat.zero_le _), def_none.mono (Nat.zero_le _), def_none.mono (Nat.zero_le _), def_none.mono (Nat.zero_le _), def_none.mono (Nat.zero_le _), def_none.mono (Nat.zero_le _), def_none.mono (Nat.zero_le _)⟩
  | k + 3 => let L0 := lv G k; let L := lv G (k + 2); ⟨d_is_name G L, d_are_names G L, d_is_scope G L, d_need_scope G L, d_letters_of G L, d_letters G L, d_is_letter G L, d_inner G L, d_heads G L, d_is_weave_of G L, d_rises G L, d_is_weave G L, d__law_begun G L, d__law_mixed G L, d__law_take G L, d__law_pick G L, d__law_shuffled G L, d__law_names G L, d__law_scope G L, d__law_letters G L, d__law_paths G L, d__law_part G L, d__law_put G L, d__law_odd G L, d__law_bent G L, d__law_once G L, d__law_weave G L, d__law_inner G L, d__law_nodes G L, d__law_are_names G L, d__law_is_weave G L, d__law_said G L, d_law G L0⟩
/-! what the top leaves -/
theorem at_is_name {f : Addr} (d : DefAt K "is_name" st_is_name f) : ∃ fd : FuncData, Fun K "is_name" "is_name" st_is_name f fd ∧ Binds K fd P_is_name [] := by
  obtain ⟨kV, dc, pm, an, cd, ct, F⟩ := d.fn
  exact ⟨_, F, binds_of (fun us hl => match us, hl with | [_], _ => rfl)⟩
theorem at_are_names {f : Addr} (d : DefAt K "are_names" st_are_names f) : ∃ fd : FuncData, Fun K "are_names" "are_names" st_are_names f fd ∧ Binds K fd P_are_names [] := by
  obtain ⟨kV, dc, pm, an, cd, ct, F⟩ := d.fn
  exact ⟨_, F, binds_of (fun us hl => match us, hl with | [_], _ => rfl)⟩
theorem at_is_scope {f : Addr} (d : DefAt K "is_scope" st_is_scope f) : ∃ fd : FuncData, Fun K "is_scope" "is_scope" st_is_scope f fd ∧ Binds K fd P_is_scope [] := by
  obtain ⟨kV, dc, pm, an, cd, ct, F⟩ := d.fn
  exact ⟨_, F, binds_of (fun us hl => match us, hl with | [_], _ => rfl)⟩
theorem at_need_scope {f : Addr} (d : DefAt K "need_scope" st_need_scope f) : ∃ fd : FuncData, Fun K "need_scope" "need_scope" st_need_scope f fd ∧ Binds K fd P_need_scope [] := by
  obtain ⟨kV, dc, pm, an, cd, ct, F⟩ := d.fn
  exact ⟨_, F, binds_of (fun us hl => match us, hl with | [_], _ => rfl)⟩
theorem at_letters_of {f : Addr} (d : DefAt K "letters_of" st_letters_of f) : ∃ fd : FuncData, Fun K "letters_of" "letters_of" st_letters_of f fd ∧ Binds K fd P_letters_of [] := by
  obtain ⟨kV, dc, pm, an, cd, ct, F⟩ := d.fn
  exact ⟨_, F, binds_of (fun us hl => match us, hl with | [_], _ => rfl)⟩
theorem at_letters {f : Addr} (d : DefAt K "letters" st_letters f) : ∃ fd : FuncData, Fun K "letters" "letters" st_letters f fd ∧ Binds K fd P_letters [] ∧ KB K fd P_letters ["scope"] [0] := by
  obtain ⟨kV, dc, pm, an, cd, ct, F⟩ := d.fn
  exact ⟨_, F, binds_of (fun us hl => match us, hl with | [_], _ => rfl), fun s ws _ hl => match ws, hl with | [_], _ => .of_eq rfl⟩
theorem at_is_letter {f : Addr} (d : DefAt K "is_letter" st_is_letter f) : ∃ fd : FuncData, Fun K "is_letter" "is_letter" st_is_letter f fd ∧ Binds K fd P_is_letter [] := by
  obtain ⟨kV, dc, pm, an, cd, ct, F⟩ := d.fn
  exact ⟨_, F, binds_of (fun us hl => match us, hl with | [_, _], _ => rfl)⟩
theorem at_inner {f : Addr} (d : DefAt K "inner" st_inner f) : ∃ fd : FuncData, Fun K "inner" "inner" st_inner f fd ∧ Binds K fd P_inner [] := by
  obtain ⟨kV, dc, pm, an, cd, ct, F⟩ := d.fn
  exact ⟨_, F, binds_of (fun us hl => match us, hl with | [_], _ => rfl)⟩
theorem at_heads {f : Addr} (d : DefAt K "heads" st_heads f) : ∃ fd : FuncData, Fun K "heads" "heads" st_heads f fd ∧ Binds K fd P_heads [] := by
  obtain ⟨kV, dc, pm, an, cd, ct, F⟩ := d.fn
  exact ⟨_, F, binds_of (fun us hl => match us, hl with | [_], _ => rfl)⟩
theorem at_is_weave_of {f : Addr} (d : DefAt K "is_weave_of" st_is_weave_of f) : ∃ fd : FuncData, Fun K "is_weave_of" "is_weave_of" st_is_weave_of f fd ∧ Binds K fd P_is_weave_of [] := by
  obtain ⟨kV, dc, pm, an, cd, ct, F⟩ := d.fn
  exact ⟨_, F, binds_of (fun us hl => match us, hl with | [_, _], _ => rfl)⟩
theorem at_rises {f : Addr} (d : DefAt K "rises" st_rises f) : ∃ fd : FuncData, Fun K "rises" "rises" st_rises f fd ∧ Binds K fd P_rises [] := by
  obtain ⟨kV, dc, pm, an, cd, ct, F⟩ := d.fn
  exact ⟨_, F, binds_of (fun us hl => match us, hl with | [_], _ => rfl)⟩
theorem at_is_weave {f : Addr} (d : DefAt K "is_weave" st_is_weave f) : ∃ fd : FuncData, Fun K "is_weave" "is_weave" st_is_weave f fd ∧ Binds K fd P_is_weave [] ∧ KB K fd P_is_weave ["thing", "scope"] [1, 0] := by
  obtain ⟨kV, dc, pm, an, cd, ct, F⟩ := d.fn
  exact ⟨_, F, binds_of (fun us hl => match us, hl with | [_, _], _ => rfl), fun s ws _ hl => match ws, hl with | [_, _], _ => .of_eq rfl⟩
theorem at__law_begun {f : Addr} (d : DefAt K "_law_begun" st__law_begun f) : ∃ fd : FuncData, Fun K "_law_begun" "_law_begun" st__law_begun f fd ∧ Binds K fd P__law_begun [] := by
  obtain ⟨kV, dc, pm, an, cd, ct, F⟩ := d.fn
  exact ⟨_, F, binds_of (fun us hl => match us, hl with | [_], _ => rfl)⟩
theorem at__law_mixed {f : Addr} (d : DefAt K "_law_mixed" st__law_mixed f) : ∃ fd : FuncData, Fun K "_law_mixed" "_law_mixed" st__law_mixed f fd ∧ Binds K fd P__law_mixed [] := by
  obtain ⟨kV, dc, pm, an, cd, ct, F⟩ := d.fn
  exact ⟨_, F, binds_of (fun us hl => match us, hl with | [_], _ => rfl)⟩
theorem at__law_take {f : Addr} (d : DefAt K "_law_take" st__law_take f) : ∃ fd : FuncData, Fun K "_law_take" "_law_take" st__law_take f fd ∧ Binds K fd P__law_take [] := by
  obtain ⟨kV, dc, pm, an, cd, ct, F⟩ := d.fn
  exact ⟨_, F, binds_of (fun us hl => match us, hl with | [_, _], _ => rfl)⟩
theorem at__law_pick {f : Addr} (d : DefAt K "_law_pick" st__law_pick f) : ∃ fd : FuncData, Fun K "_law_pick" "_law_pick" st__law_pick f fd ∧ Binds K fd P__law_pick [] := by
  obtain ⟨kV, dc, pm, an, cd, ct, F⟩ := d.fn
  exact ⟨_, F, binds_of (fun us hl => match us, hl with | [_, _], _ => rfl)⟩
theorem at__law_shuffled {f : Addr} (d : DefAt K "_law_shuffled" st__law_shuffled f) : ∃ fd : FuncData, Fun K "_law_shuffled" "_law_shuffled" st__law_shuffled f fd ∧ Binds K fd P__law_shuffled [] := by
  obtain ⟨kV, dc, pm, an, cd, ct, F⟩ := d.fn
  exact ⟨_, F, binds_of (fun us hl => match us, hl with | [_, _], _ => rfl)⟩
theorem at__law_caught {f : Addr} (d : DefAt K "_law_caught" st__law_caught f) : ∃ fd : FuncData, Fun K "_law_caught" "_law_caught" st__law_caught f fd ∧ Binds K fd P__law_caught [] := by
  obtain ⟨kV, dc, pm, an, cd, ct, F⟩ := d.fn
  exact ⟨_, F, binds_of (fun us hl => match us, hl with | [_], _ => rfl)⟩
theorem at__law_names {f : Addr} (d : DefAt K "_law_names" st__law_names f) : ∃ fd : FuncData, Fun K "_law_names" "_law_names" st__law_names f fd ∧ Binds K fd P__law_names [] := by
  obtain ⟨kV, dc, pm, an, cd, ct, F⟩ := d.fn
  exact ⟨_, F, binds_of (fun us hl => match us, hl with | [_, _], _ => rfl)⟩
theorem at__law_scope {f : Addr} (d : DefAt K "_law_scope" st__law_scope f) : ∃ fd : FuncData, Fun K "_law_scope" "_law_scope" st__law_scope f fd ∧ Binds K fd P__law_scope [] := by
  obtain ⟨kV, dc, pm, an, cd, ct, F⟩ := d.fn
  exact ⟨_, F, binds_of (fun us hl => match us, hl with | [_, _], _ => rfl)⟩
theorem at__law_letters {f : Addr} (d : DefAt K "_law_letters" st__law_letters f) : ∃ fd : FuncData, Fun K "_law_letters" "_law_letters" st__law_letters f fd ∧ Binds K fd P__law_letters [] := by
  obtain ⟨kV, dc, pm, an, cd, ct, F⟩ := d.fn
  exact ⟨_, F, binds_of (fun us hl => match us, hl with | [_], _ => rfl)⟩
theorem at__law_paths {f : Addr} (d : DefAt K "_law_paths" st__law_paths f) : ∃ fd : FuncData, Fun K "_law_paths" "_law_paths" st__law_paths f fd ∧ Binds K fd P__law_paths [] := by
  obtain ⟨kV, dc, pm, an, cd, ct, F⟩ := d.fn
  exact ⟨_, F, binds_of (fun us hl => match us, hl with | [_], _ => rfl)⟩
theorem at__law_part {f : Addr} (d : DefAt K "_law_part" st__law_part f) : ∃ fd : FuncData, Fun K "_law_part" "_law_part" st__law_part f fd ∧ Binds K fd P__law_part [] := by
  obtain ⟨kV, dc, pm, an, cd, ct, F⟩ := d.fn
  exact ⟨_, F, binds_of (fun us hl => match us, hl with | [_, _], _ => rfl)⟩
theorem at__law_put {f : Addr} (d : DefAt K "_law_put" st__law_put f) : ∃ fd : FuncData, Fun K "_law_put" "_law_put" st__law_put f fd ∧ Binds K fd P__law_put [] := by
  obtain ⟨kV, dc, pm, an, cd, ct, F⟩ := d.fn
  exact ⟨_, F, binds_of (fun us hl => match us, hl with | [_, _, _], _ => rfl)⟩
theorem at__law_odd {f : Addr} (d : DefAt K "_law_odd" st__law_odd f) : ∃ fd : FuncData, Fun K "_law_odd" "_law_odd" st__law_odd f fd ∧ Binds K fd P__law_odd [] := by
  obtain ⟨kV, dc, pm, an, cd, ct, F⟩ := d.fn
  exact ⟨_, F, binds_of (fun us hl => match us, hl with | [_, _, _], _ => rfl)⟩
theorem at__law_bent {f : Addr} (d : DefAt K "_law_bent" st__law_bent f) : ∃ fd : FuncData, Fun K "_law_bent" "_law_bent" st__law_bent f fd ∧ Binds K fd P__law_bent [] := by
  obtain ⟨kV, dc, pm, an, cd, ct, F⟩ := d.fn
  exact ⟨_, F, binds_of (fun us hl => match us, hl with | [_, _, _], _ => rfl)⟩
theorem at__law_once {f : Addr} (d : DefAt K "_law_once" st__law_once f) : ∃ fd : FuncData, Fun K "_law_once" "_law_once" st__law_once f fd ∧ Binds K fd P__law_once [] := by
  obtain ⟨kV, dc, pm, an, cd, ct, F⟩ := d.fn
  exact ⟨_, F, binds_of (fun us hl => match us, hl with | [_], _ => rfl)⟩
theorem at__law_weave {f : Addr} (d : DefAt K "_law_weave" st__law_weave f) : ∃ fd : FuncData, Fun K "_law_weave" "_law_weave" st__law_weave f fd ∧ Binds K fd P__law_weave [] := by
  obtain ⟨kV, dc, pm, an, cd, ct, F⟩ := d.fn
  exact ⟨_, F, binds_of (fun us hl => match us, hl with | [_, _, _], _ => rfl)⟩
theorem at__law_inner {f : Addr} (d : DefAt K "_law_inner" st__law_inner f) : ∃ fd : FuncData, Fun K "_law_inner" "_law_inner" st__law_inner f fd ∧ Binds K fd P__law_inner [] := by
  obtain ⟨kV, dc, pm, an, cd, ct, F⟩ := d.fn
  exact ⟨_, F, binds_of (fun us hl => match us, hl with | [_], _ => rfl)⟩
theorem at__law_nodes {f : Addr} (d : DefAt K "_law_nodes" st__law_nodes f) : ∃ fd : FuncData, Fun K "_law_nodes" "_law_nodes" st__law_nodes f fd ∧ Binds K fd P__law_nodes [] := by
  obtain ⟨kV, dc, pm, an, cd, ct, F⟩ := d.fn
  exact ⟨_, F, binds_of (fun us hl => match us, hl with | [_], _ => rfl)⟩
theorem at__law_are_names {f : Addr} (d : DefAt K "_law_are_names" st__law_are_names f) : ∃ fd : FuncData, Fun K "_law_are_names" "_law_are_names" st__law_are_names f fd ∧ Binds K fd P__law_are_names [] := by
  obtain ⟨kV, dc, pm, an, cd, ct, F⟩ := d.fn
  exact ⟨_, F, binds_of (fun us hl => match us, hl with | [_], _ => rfl)⟩
theorem at__law_is_weave {f : Addr} (d : DefAt K "_law_is_weave" st__law_is_weave f) : ∃ fd : FuncData, Fun K "_law_is_weave" "_law_is_weave" st__law_is_weave f fd ∧ Binds K fd P__law_is_weave [] := by
  obtain ⟨kV, dc, pm, an, cd, ct, F⟩ := d.fn
  exact ⟨_, F, binds_of (fun us hl => match us, hl with | [_, _, _], _ => rfl)⟩
theorem at__law_said {f : Addr} (d : DefAt K "_law_said" st__law_said f) : ∃ fd : FuncData, Fun K "_law_said" "_law_said" st__law_said f fd ∧ Binds K fd P__law_said [] := by
  obtain ⟨kV, dc, pm, an, cd, ct, F⟩ := d.fn
  exact ⟨_, F, binds_of (fun us hl => match us, hl with | [_, _], _ => rfl)⟩
theorem at_law {f c : Addr} (d : DefCAt K "law" st_law f c) : ∃ fd : FuncData, FunC K "law" "law" st_law f fd (.ref c) ∧ Binds K fd P_law [] ∧ ∀ (s : Shared) (u : Value), BindsTo s fd ⟨[u], []⟩ [("script", u)] := by
  obtain ⟨kV, dc, pm, an, ct, F⟩ := d.fn
  exact ⟨_, F, binds_of (fun us hl => match us, hl with | [_], _ => rfl), fun s u => .of_eq rfl⟩
theorem law_at {l : PySem.W.OpenLaw} {w : World} {K : PySem.W.Frag} {mg : Str → Option Value} {h : Heap} {fa0 : Addr} (X : K.In h) (G : h.Ns mainGlobals mg) (hfa : mg "law" = some (.ref fa0)) {f_0 f_1 f_2 f_3 f_4 f_5 f_6 f_7 f_8 f_9 f_10 f_11 f_12 f_13 f_14 f_15 f_16 f_17 f_18 f_19 f_20 f_21 f_22 f_23 f_24 f_25 f_26 f_27 f_28 f_29 f_30 f_31 f_32 f_33 c_33 P_33 C_BadScope C_OrderError : Addr} {bm : List Value} {lv0 : Nat}
    {initId : String} (FB : ExcBaseFacts "ValueError" "ValueError.__new__" initId bm)
    {oc_0 kV_0 dc_0 pm_0 cd_0 ct_0 : Value} {od_0 an_0 : Option Addr} {sl_0 : Array (Option Value)}
    {oc_1 kV_1 dc_1 pm_1 cd_1 ct_1 : Value} {od_1 an_1 : Option Addr} {sl_1 : Array (Option Value)}
    {oc_2 kV_2 dc_2 pm_2 cd_2 ct_2 : Value} {od_2 an_2 : Option Addr} {sl_2 : Array (Option Value)}
    {oc_3 kV_3 dc_3 pm_3 cd_3 ct_3 : Value} {od_3 an_3 : Option Addr} {sl_3 : Array (Option Value)}
    {oc_4 kV_4 dc_4 pm_4 cd_4 ct_4 : Value} {od_4 an_4 : Option Addr} {sl_4 : Array (Option Value)}
    {oc_5 kV_5 dc_5 pm_5 cd_5 ct_5 : Value} {od_5 an_5 : Option Addr} {sl_5 : Array (Option Value)}
    {oc_6 kV_6 dc_6 pm_6 cd_6 ct_6 : Value} {od_6 an_6 : Option Addr} {sl_6 : Array (Option Value)}
    {oc_7 kV_7 dc_7 pm_7 cd_7 ct_7 : Value} {od_7 an_7 : Option Addr} {sl_7 : Array (Option Value)}
    {oc_8 kV_8 dc_8 pm_8 cd_8 ct_8 : Value} {od_8 an_8 : Option Addr} {sl_8 : Array (Option Value)}
    {oc_9 kV_9 dc_9 pm_9 cd_9 ct_9 : Value} {od_9 an_9 : Option Addr} {sl_9 : Array (Option Value)}
    {oc_10 kV_10 dc_10 pm_10 cd_10 ct_10 : Value} {od_10 an_10 : Option Addr} {sl_10 : Array (Option Value)}
    {oc_11 kV_11 dc_11 pm_11 cd_11 ct_11 : Value} {od_11 an_11 : Option Addr} {sl_11 : Array (Option Value)}
    {oc_12 kV_12 dc_12 pm_12 cd_12 ct_12 : Value} {od_12 an_12 : Option Addr} {sl_12 : Array (Option Value)}
    {oc_13 kV_13 dc_13 pm_13 cd_13 ct_13 : Value} {od_13 an_13 : Option Addr} {sl_13 : Array (Option Value)}
    {oc_14 kV_14 dc_14 pm_14 cd_14 ct_14 : Value} {od_14 an_14 : Option Addr} {sl_14 : Array (Option Value)}
    {oc_15 kV_15 dc_15 pm_15 cd_15 ct_15 : Value} {od_15 an_15 : Option Addr} {sl_15 : Array (Option Value)}
    {oc_16 kV_16 dc_16 pm_16 cd_16 ct_16 : Value} {od_16 an_16 : Option Addr} {sl_16 : Array (Option Value)}
    {oc_17 kV_17 dc_17 pm_17 cd_17 ct_17 : Value} {od_17 an_17 : Option Addr} {sl_17 : Array (Option Value)}
    {oc_18 kV_18 dc_18 pm_18 cd_18 ct_18 : Value} {od_18 an_18 : Option Addr} {sl_18 : Array (Option Value)}
    {oc_19 kV_19 dc_19 pm_19 cd_19 ct_19 : Value} {od_19 an_19 : Option Addr} {sl_19 : Array (Option Value)}
    {oc_20 kV_20 dc_20 pm_20 cd_20 ct_20 : Value} {od_20 an_20 : Option Addr} {sl_20 : Array (Option Value)}
    {oc_21 kV_21 dc_21 pm_21 cd_21 ct_21 : Value} {od_21 an_21 : Option Addr} {sl_21 : Array (Option Value)}
    {oc_22 kV_22 dc_22 pm_22 cd_22 ct_22 : Value} {od_22 an_22 : Option Addr} {sl_22 : Array (Option Value)}
    {oc_23 kV_23 dc_23 pm_23 cd_23 ct_23 : Value} {od_23 an_23 : Option Addr} {sl_23 : Array (Option Value)}
    {oc_24 kV_24 dc_24 pm_24 cd_24 ct_24 : Value} {od_24 an_24 : Option Addr} {sl_24 : Array (Option Value)}
    {oc_25 kV_25 dc_25 pm_25 cd_25 ct_25 : Value} {od_25 an_25 : Option Addr} {sl_25 : Array (Option Value)}
    {oc_26 kV_26 dc_26 pm_26 cd_26 ct_26 : Value} {od_26 an_26 : Option Addr} {sl_26 : Array (Option Value)}
    {oc_27 kV_27 dc_27 pm_27 cd_27 ct_27 : Value} {od_27 an_27 : Option Addr} {sl_27 : Array (Option Value)}
    {oc_28 kV_28 dc_28 pm_28 cd_28 ct_28 : Value} {od_28 an_28 : Option Addr} {sl_28 : Array (Option Value)}
    {oc_29 kV_29 dc_29 pm_29 cd_29 ct_29 : Value} {od_29 an_29 : Option Addr} {sl_29 : Array (Option Value)}
    {oc_30 kV_30 dc_30 pm_30 cd_30 ct_30 : Value} {od_30 an_30 : Option Addr} {sl_30 : Array (Option Value)}
    {oc_31 kV_31 dc_31 pm_31 cd_31 ct_31 : Value} {od_31 an_31 : Option Addr} {sl_31 : Array (Option Value)}
    {oc_32 kV_32 dc_32 pm_32 cd_32 ct_32 : Value} {od_32 an_32 : Option Addr} {sl_32 : Array (Option Value)}
    {oc_33 kV_33 dc_33 pm_33 ct_33 : Value} {od_33 an_33 : Option Addr} {sl_33 : Array (Option Value)}
    {A_KEPT : Addr} {dd_KEPT : Option Addr} {its_KEPT : Array Value} {nn_KEPT : Nat} {ss_KEPT : Array (Option Value)}
    {t_MOST_DEEP : Tok}
    {t_MOST_LETTERS : Tok}
    {t_MOST_NAMES : Tok}
    {t_MOST_NODES : Tok}
    {hdd_33 : Option Addr} {hvs_33 : Array Value} {hsl_33 : Array (Option Value)}
    (ht_33 : h.get? P_33 = some { cls := .none, data := .fields #[] })
    (a_0 : PySem.W.nsIn K mainGlobals "is_name" = some (some (.ref f_0)))
    (l_0 : K.lookup f_0 = some ⟨oc_0, od_0, .func (PySem.W.fnOf "is_name" "is_name" (defArgs st_is_name) (defBody st_is_name) (defScope st_is_name) .none kV_0 dc_0 pm_0 an_0 cd_0 ct_0), sl_0⟩)
    (c_c_0 : PySem.W.codeIn K cd_0 "is_name" = true)
    (k_0 : PySem.W.keepIn K (.ref f_0) = true)
    (a_1 : PySem.W.nsIn K mainGlobals "are_names" = some (some (.ref f_1)))
    (l_1 : K.lookup f_1 = some ⟨oc_1, od_1, .func (PySem.W.fnOf "are_names" "are_names" (defArgs st_are_names) (defBody st_are_names) (defScope st_are_names) .none kV_1 dc_1 pm_1 an_1 cd_1 ct_1), sl_1⟩)
    (c_c_1 : PySem.W.codeIn K cd_1 "are_names" = true)
    (k_1 : PySem.W.keepIn K (.ref f_1) = true)
    (a_2 : PySem.W.nsIn K mainGlobals "is_scope" = some (some (.ref f_2)))
    (l_2 : K.lookup f_2 = some ⟨oc_2, od_2, .func (PySem.W.fnOf "is_scope" "is_scope" (defArgs st_is_scope) (defBody st_is_scope) (defScope st_is_scope) .none kV_2 dc_2 pm_2 an_2 cd_2 ct_2), sl_2⟩)
    (c_c_2 : PySem.W.codeIn K cd_2 "is_scope" = true)
    (k_2 : PySem.W.keepIn K (.ref f_2) = true)
    (a_3 : PySem.W.nsIn K mainGlobals "need_scope" = some (some (.ref f_3)))
    (l_3 : K.lookup f_3 = some ⟨oc_3, od_3, .func (PySem.W.fnOf "need_scope" "need_scope" (defArgs st_need_scope) (defBody st_need_scope) (defScope st_need_scope) .none kV_3 dc_3 pm_3 an_3 cd_3 ct_3), sl_3⟩)
    (c_c_3 : PySem.W.codeIn K cd_3 "need_scope" = true)
    (k_3 : PySem.W.keepIn K (.ref f_3) = true)
    (a_4 : PySem.W.nsIn K mainGlobals "letters_of" = some (some (.ref f_4)))
    (l_4 : K.lookup f_4 = some ⟨oc_4, od_4, .func (PySem.W.fnOf "letters_of" "letters_of" (defArgs st_letters_of) (defBody st_letters_of) (defScope st_letters_of) .none kV_4 dc_4 pm_4 an_4 cd_4 ct_4), sl_4⟩)
    (c_c_4 : PySem.W.codeIn K cd_4 "letters_of" = true)
    (k_4 : PySem.W.keepIn K (.ref f_4) = true)
    (a_5 : PySem.W.nsIn K mainGlobals "letters" = some (some (.ref f_5)))
    (l_5 : K.lookup f_5 = some ⟨oc_5, od_5, .func (PySem.W.fnOf "letters" "letters" (defArgs st_letters) (defBody st_letters) (defScope st_letters) .none kV_5 dc_5 pm_5 an_5 cd_5 ct_5), sl_5⟩)
    (c_c_5 : PySem.W.codeIn K cd_5 "letters" = true)
    (k_5 : PySem.W.keepIn K (.ref f_5) = true)
    (a_6 : PySem.W.nsIn K mainGlobals "is_letter" = some (some (.ref f_6)))
    (l_6 : K.lookup f_6 = some ⟨oc_6, od_6, .func (PySem.W.fnOf "is_letter" "is_letter" (defArgs st_is_letter) (defBody st_is_letter) (defScope st_is_letter) .none kV_6 dc_6 pm_6 an_6 cd_6 ct_6), sl_6⟩)
    (c_c_6 : PySem.W.codeIn K cd_6 "is_letter" = true)
    (k_6 : PySem.W.keepIn K (.ref f_6) = true)
    (a_7 : PySem.W.nsIn K mainGlobals "inner" = some (some (.ref f_7)))
    (l_7 : K.lookup f_7 = some ⟨oc_7, od_7, .func (PySem.W.fnOf "inner" "inner" (defArgs st_inner) (defBody st_inner) (defScope st_inner) .none kV_7 dc_7 pm_7 an_7 cd_7 ct_7), sl_7⟩)
    (c_c_7 : PySem.W.codeIn K cd_7 "inner" = true)
    (k_7 : PySem.W.keepIn K (.ref f_7) = true)
    (a_8 : PySem.W.nsIn K mainGlobals "heads" = some (some (.ref f_8)))
    (l_8 : K.lookup f_8 = some ⟨oc_8, od_8, .func (PySem.W.fnOf "heads" "heads" (defArgs st_heads) (defBody st_heads) (defScope st_heads) .none kV_8 dc_8 pm_8 an_8 cd_8 ct_8), sl_8⟩)
    (c_c_8 : PySem.W.codeIn K cd_8 "heads" = true)
    (k_8 : PySem.W.keepIn K (.ref f_8) = true)
    (a_9 : PySem.W.nsIn K mainGlobals "is_weave_of" = some (some (.ref f_9)))
    (l_9 : K.lookup f_9 = some ⟨oc_9, od_9, .func (PySem.W.fnOf "is_weave_of" "is_weave_of" (defArgs st_is_weave_of) (defBody st_is_weave_of) (defScope st_is_weave_of) .none kV_9 dc_9 pm_9 an_9 cd_9 ct_9), sl_9⟩)
    (c_c_9 : PySem.W.codeIn K cd_9 "is_weave_of" = true)
    (k_9 : PySem.W.keepIn K (.ref f_9) = true)
    (a_10 : PySem.W.nsIn K mainGlobals "rises" = some (some (.ref f_10)))
    (l_10 : K.lookup f_10 = some ⟨oc_10, od_10, .func (PySem.W.fnOf "rises" "rises" (defArgs st_rises) (defBody st_rises) (defScope st_rises) .none kV_10 dc_10 pm_10 an_10 cd_10 ct_10), sl_10⟩)
    (c_c_10 : PySem.W.codeIn K cd_10 "rises" = true)
    (k_10 : PySem.W.keepIn K (.ref f_10) = true)
    (a_11 : PySem.W.nsIn K mainGlobals "is_weave" = some (some (.ref f_11)))
    (l_11 : K.lookup f_11 = some ⟨oc_11, od_11, .func (PySem.W.fnOf "is_weave" "is_weave" (defArgs st_is_weave) (defBody st_is_weave) (defScope st_is_weave) .none kV_11 dc_11 pm_11 an_11 cd_11 ct_11), sl_11⟩)
    (c_c_11 : PySem.W.codeIn K cd_11 "is_weave" = true)
    (k_11 : PySem.W.keepIn K (.ref f_11) = true)
    (a_12 : PySem.W.nsIn K mainGlobals "_law_begun" = some (some (.ref f_12)))
    (l_12 : K.lookup f_12 = some ⟨oc_12, od_12, .func (PySem.W.fnOf "_law_begun" "_law_begun" (defArgs st__law_begun) (defBody st__law_begun) (defScope st__law_begun) .none kV_12 dc_12 pm_12 an_12 cd_12 ct_12), sl_12⟩)
    (c_c_12 : PySem.W.codeIn K cd_12 "_law_begun" = true)
    (k_12 : PySem.W.keepIn K (.ref f_12) = true)
    (a_13 : PySem.W.nsIn K mainGlobals "_law_mixed" = some (some (.ref f_13)))
    (l_13 : K.lookup f_13 = some ⟨oc_13, od_13, .func (PySem.W.fnOf "_law_mixed" "_law_mixed" (defArgs st__law_mixed) (defBody st__law_mixed) (defScope st__law_mixed) .none kV_13 dc_13 pm_13 an_13 cd_13 ct_13), sl_13⟩)
    (c_c_13 : PySem.W.codeIn K cd_13 "_law_mixed" = true)
    (k_13 : PySem.W.keepIn K (.ref f_13) = true)
    (a_14 : PySem.W.nsIn K mainGlobals "_law_take" = some (some (.ref f_14)))
    (l_14 : K.lookup f_14 = some ⟨oc_14, od_14, .func (PySem.W.fnOf "_law_take" "_law_take" (defArgs st__law_take) (defBody st__law_take) (defScope st__law_take) .none kV_14 dc_14 pm_14 an_14 cd_14 ct_14), sl_14⟩)
    (c_c_14 : PySem.W.codeIn K cd_14 "_law_take" = true)
    (k_14 : PySem.W.keepIn K (.ref f_14) = true)
    (a_15 : PySem.W.nsIn K mainGlobals "_law_pick" = some (some (.ref f_15)))
    (l_15 : K.lookup f_15 = some ⟨oc_15, od_15, .func (PySem.W.fnOf "_law_pick" "_law_pick" (defArgs st__law_pick) (defBody st__law_pick) (defScope st__law_pick) .none kV_15 dc_15 pm_15 an_15 cd_15 ct_15), sl_15⟩)
    (c_c_15 : PySem.W.codeIn K cd_15 "_law_pick" = true)
    (k_15 : PySem.W.keepIn K (.ref f_15) = true)
    (a_16 : PySem.W.nsIn K mainGlobals "_law_shuffled" = some (some (.ref f_16)))
    (l_16 : K.lookup f_16 = some ⟨oc_16, od_16, .func (PySem.W.fnOf "_law_shuffled" "_law_shuffled" (defArgs st__law_shuffled) (defBody st__law_shuffled) (defScope st__law_shuffled) .none kV_16 dc_16 pm_16 an_16 cd_16 ct_16), sl_16⟩)
    (c_c_16 : PySem.W.codeIn K cd_16 "_law_shuffled" = true)
    (k_16 : PySem.W.keepIn K (.ref f_16) = true)
    (a_17 : PySem.W.nsIn K mainGlobals "_law_caught" = some (some (.ref f_17)))
    (l_17 : K.lookup f_17 = some ⟨oc_17, od_17, .func (PySem.W.fnOf "_law_caught" "_law_caught" (defArgs st__law_caught) (defBody st__law_caught) (defScope st__law_caught) .none kV_17 dc_17 pm_17 an_17 cd_17 ct_17), sl_17⟩)
    (c_c_17 : PySem.W.codeIn K cd_17 "_law_caught" = true)
    (k_17 : PySem.W.keepIn K (.ref f_17) = true)
    (a_18 : PySem.W.nsIn K mainGlobals "_law_names" = some (some (.ref f_18)))
    (l_18 : K.lookup f_18 = some ⟨oc_18, od_18, .func (PySem.W.fnOf "_law_names" "_law_names" (defArgs st__law_names) (defBody st__law_names) (defScope st__law_names) .none kV_18 dc_18 pm_18 an_18 cd_18 ct_18), sl_18⟩)
    (c_c_18 : PySem.W.codeIn K cd_18 "_law_names" = true)
    (k_18 : PySem.W.keepIn K (.ref f_18) = true)
    (a_19 : PySem.W.nsIn K mainGlobals "_law_scope" = some (some (.ref f_19)))
    (l_19 : K.lookup f_19 = some ⟨oc_19, od_19, .func (PySem.W.fnOf "_law_scope" "_law_scope" (defArgs st__law_scope) (defBody st__law_scope) (defScope st__law_scope) .none kV_19 dc_19 pm_19 an_19 cd_19 ct_19), sl_19⟩)
    (c_c_19 : PySem.W.codeIn K cd_19 "_law_scope" = true)
    (k_19 : PySem.W.keepIn K (.ref f_19) = true)
    (a_20 : PySem.W.nsIn K mainGlobals "_law_letters" = some (some (.ref f_20)))
    (l_20 : K.lookup f_20 = some ⟨oc_20, od_20, .func (PySem.W.fnOf "_law_letters" "_law_letters" (defArgs st__law_letters) (defBody st__law_letters) (defScope st__law_letters) .none kV_20 dc_20 pm_20 an_20 cd_20 ct_20), sl_20⟩)
    (c_c_20 : PySem.W.codeIn K cd_20 "_law_letters" = true)
    (k_20 : PySem.W.keepIn K (.ref f_20) = true)
    (a_21 : PySem.W.nsIn K mainGlobals "_law_paths" = some (some (.ref f_21)))
    (l_21 : K.lookup f_21 = some ⟨oc_21, od_21, .func (PySem.W.fnOf "_law_paths" "_law_paths" (defArgs st__law_paths) (defBody st__law_paths) (defScope st__law_paths) .none kV_21 dc_21 pm_21 an_21 cd_21 ct_21), sl_21⟩)
    (c_c_21 : PySem.W.codeIn K cd_21 "_law_paths" = true)
    (k_21 : PySem.W.keepIn K (.ref f_21) = true)
    (a_22 : PySem.W.nsIn K mainGlobals "_law_part" = some (some (.ref f_22)))
    (l_22 : K.lookup f_22 = some ⟨oc_22, od_22, .func (PySem.W.fnOf "_law_part" "_law_part" (defArgs st__law_part) (defBody st__law_part) (defScope st__law_part) .none kV_22 dc_22 pm_22 an_22 cd_22 ct_22), sl_22⟩)
    (c_c_22 : PySem.W.codeIn K cd_22 "_law_part" = true)
    (k_22 : PySem.W.keepIn K (.ref f_22) = true)
    (a_23 : PySem.W.nsIn K mainGlobals "_law_put" = some (some (.ref f_23)))
    (l_23 : K.lookup f_23 = some ⟨oc_23, od_23, .func (PySem.W.fnOf "_law_put" "_law_put" (defArgs st__law_put) (defBody st__law_put) (defScope st__law_put) .none kV_23 dc_23 pm_23 an_23 cd_23 ct_23), sl_23⟩)
    (c_c_23 : PySem.W.codeIn K cd_23 "_law_put" = true)
    (k_23 : PySem.W.keepIn K (.ref f_23) = true)
    (a_24 : PySem.W.nsIn K mainGlobals "_law_odd" = some (some (.ref f_24)))
    (l_24 : K.lookup f_24 = some ⟨oc_24, od_24, .func (PySem.W.fnOf "_law_odd" "_law_odd" (defArgs st__law_odd) (defBody st__law_odd) (defScope st__law_odd) .none kV_24 dc_24 pm_24 an_24 cd_24 ct_24), sl_24⟩)
    (c_c_24 : PySem.W.codeIn K cd_24 "_law_odd" = true)
    (k_24 : PySem.W.keepIn K (.ref f_24) = true)
    (a_25 : PySem.W.nsIn K mainGlobals "_law_bent" = some (some (.ref f_25)))
    (l_25 : K.lookup f_25 = some ⟨oc_25, od_25, .func (PySem.W.fnOf "_law_bent" "_law_bent" (defArgs st__law_bent) (defBody st__law_bent) (defScope st__law_bent) .none kV_25 dc_25 pm_25 an_25 cd_25 ct_25), sl_25⟩)
    (c_c_25 : PySem.W.codeIn K cd_25 "_law_bent" = true)
    (k_25 : PySem.W.keepIn K (.ref f_25) = true)
    (a_26 : PySem.W.nsIn K mainGlobals "_law_once" = some (some (.ref f_26)))
    (l_26 : K.lookup f_26 = some ⟨oc_26, od_26, .func (PySem.W.fnOf "_law_once" "_law_once" (defArgs st__law_once) (defBody st__law_once) (defScope st__law_once) .none kV_26 dc_26 pm_26 an_26 cd_26 ct_26), sl_26⟩)
    (c_c_26 : PySem.W.codeIn K cd_26 "_law_once" = true)
    (k_26 : PySem.W.keepIn K (.ref f_26) = true)
    (a_27 : PySem.W.nsIn K mainGlobals "_law_weave" = some (some (.ref f_27)))
    (l_27 : K.lookup f_27 = some ⟨oc_27, od_27, .func (PySem.W.fnOf "_law_weave" "_law_weave" (defArgs st__law_weave) (defBody st__law_weave) (defScope st__law_weave) .none kV_27 dc_27 pm_27 an_27 cd_27 ct_27), sl_27⟩)
    (c_c_27 : PySem.W.codeIn K cd_27 "_law_weave" = true)
    (k_27 : PySem.W.keepIn K (.ref f_27) = true)
    (a_28 : PySem.W.nsIn K mainGlobals "_law_inner" = some (some (.ref f_28)))
    (l_28 : K.lookup f_28 = some ⟨oc_28, od_28, .func (PySem.W.fnOf "_law_inner" "_law_inner" (defArgs st__law_inner) (defBody st__law_inner) (defScope st__law_inner) .none kV_28 dc_28 pm_28 an_28 cd_28 ct_28), sl_28⟩)
    (c_c_28 : PySem.W.codeIn K cd_28 "_law_inner" = true)
    (k_28 : PySem.W.keepIn K (.ref f_28) = true)
    (a_29 : PySem.W.nsIn K mainGlobals "_law_nodes" = some (some (.ref f_29)))
    (l_29 : K.lookup f_29 = some ⟨oc_29, od_29, .func (PySem.W.fnOf "_law_nodes" "_law_nodes" (defArgs st__law_nodes) (defBody st__law_nodes) (defScope st__law_nodes) .none kV_29 dc_29 pm_29 an_29 cd_29 ct_29), sl_29⟩)
    (c_c_29 : PySem.W.codeIn K cd_29 "_law_nodes" = true)
    (k_29 : PySem.W.keepIn K (.ref f_29) = true)
    (a_30 : PySem.W.nsIn K mainGlobals "_law_are_names" = some (some (.ref f_30)))
    (l_30 : K.lookup f_30 = some ⟨oc_30, od_30, .func (PySem.W.fnOf "_law_are_names" "_law_are_names" (defArgs st__law_are_names) (defBody st__law_are_names) (defScope st__law_are_names) .none kV_30 dc_30 pm_30 an_30 cd_30 ct_30), sl_30⟩)
    (c_c_30 : PySem.W.codeIn K cd_30 "_law_are_names" = true)
    (k_30 : PySem.W.keepIn K (.ref f_30) = true)
    (a_31 : PySem.W.nsIn K mainGlobals "_law_is_weave" = some (some (.ref f_31)))
    (l_31 : K.lookup f_31 = some ⟨oc_31, od_31, .func (PySem.W.fnOf "_law_is_weave" "_law_is_weave" (defArgs st__law_is_weave) (defBody st__law_is_weave) (defScope st__law_is_weave) .none kV_31 dc_31 pm_31 an_31 cd_31 ct_31), sl_31⟩)
    (c_c_31 : PySem.W.codeIn K cd_31 "_law_is_weave" = true)
    (k_31 : PySem.W.keepIn K (.ref f_31) = true)
    (a_32 : PySem.W.nsIn K mainGlobals "_law_said" = some (some (.ref f_32)))
    (l_32 : K.lookup f_32 = some ⟨oc_32, od_32, .func (PySem.W.fnOf "_law_said" "_law_said" (defArgs st__law_said) (defBody st__law_said) (defScope st__law_said) .none kV_32 dc_32 pm_32 an_32 cd_32 ct_32), sl_32⟩)
    (c_c_32 : PySem.W.codeIn K cd_32 "_law_said" = true)
    (k_32 : PySem.W.keepIn K (.ref f_32) = true)
    (a_33 : PySem.W.nsIn K mainGlobals "law" = some (some (.ref f_33)))
    (l_33 : K.lookup f_33 = some ⟨oc_33, od_33, .func (PySem.W.fnOf "law" "law" (defArgs st_law) (defBody st_law) (defScope st_law) .none kV_33 dc_33 pm_33 an_33 (.ref c_33) ct_33), sl_33⟩)
    (c_c_33 : PySem.W.codeIn K (.ref c_33) "law" = true)
    (k_33 : PySem.W.keepIn K (.ref f_33) = true)
    (z_abs : PySem.W.nsIn K mainGlobals "abs" = some none)
    (z_all : PySem.W.nsIn K mainGlobals "all" = some none)
    (z_bool : PySem.W.nsIn K mainGlobals "bool" = some none)
    (z_enumerate : PySem.W.nsIn K mainGlobals "enumerate" = some none)
    (z_int : PySem.W.nsIn K mainGlobals "int" = some none)
    (z_isinstance : PySem.W.nsIn K mainGlobals "isinstance" = some none)
    (z_len : PySem.W.nsIn K mainGlobals "len" = some none)
    (z_list : PySem.W.nsIn K mainGlobals "list" = some none)
    (z_min : PySem.W.nsIn K mainGlobals "min" = some none)
    (z_range : PySem.W.nsIn K mainGlobals "range" = some none)
    (z_repr : PySem.W.nsIn K mainGlobals "repr" = some none)
    (z_set : PySem.W.nsIn K mainGlobals "set" = some none)
    (z_sorted : PySem.W.nsIn K mainGlobals "sorted" = some none)
    (z_str : PySem.W.nsIn K mainGlobals "str" = some none)
    (z_tuple : PySem.W.nsIn K mainGlobals "tuple" = some none)
    (z_zip : PySem.W.nsIn K mainGlobals "zip" = some none)
    (e_KEPT : PySem.W.nsIn K mainGlobals "KEPT" = some (some (.ref A_KEPT)))
    (el_KEPT : K.lookup A_KEPT = some ⟨.type "tuple", dd_KEPT, .seq its_KEPT nn_KEPT, ss_KEPT⟩)
    (ez_KEPT : its_KEPT.size ≤ sizeLine)
    (ef_KEPT : flatOk its_KEPT.toList [(.str "ahead"), (.str "all"), (.str "apart"), (.str "bare"), (.str "both"), (.str "dense"), (.str "down"), (.str "either"), (.str "finite"), (.str "first"), (.str "last"), (.str "next"), (.str "not"), (.str "one"), (.str "same"), (.str "scattered"), (.str "some"), (.str "sub"), (.str "well")] = true)
    (e_MOST_DEEP : PySem.W.nsIn K mainGlobals "MOST_DEEP" = some (some (.int 60 t_MOST_DEEP)))
    (e_MOST_LETTERS : PySem.W.nsIn K mainGlobals "MOST_LETTERS" = some (some (.int 8 t_MOST_LETTERS)))
    (e_MOST_NAMES : PySem.W.nsIn K mainGlobals "MOST_NAMES" = some (some (.int 3 t_MOST_NAMES)))
    (e_MOST_NODES : PySem.W.nsIn K mainGlobals "MOST_NODES" = some (some (.int 400 t_MOST_NODES)))
    (xa_BadScope : PySem.W.nsIn K mainGlobals "BadScope" = some (some (.ref C_BadScope)))
    (xk_BadScope : PySem.W.keepIn K (.ref C_BadScope) = true)
    (xq_BadScope : PySem.W.excIn K C_BadScope bm "ValueError.__new__" = true)
    (xs_BadScope : PySem.W.subIn K (.ref C_BadScope) (.type "BaseException") = some true)
    (xt_BadScope : PySem.W.typeIn K (.ref C_BadScope) = some (.type "type"))
    (a_BadScope : PySem.W.nsIn K mainGlobals "BadScope" = some (some (.ref C_BadScope)))
    (a_OrderError : PySem.W.nsIn K mainGlobals "OrderError" = some (some (.ref C_OrderError)))
    (hd_BadScope : PySem.W.hasDictIn K C_BadScope = true)
    (ty_BadScope : PySem.W.typeIn K (.ref C_BadScope) = some (.type "type"))
    (hd_OrderError : PySem.W.hasDictIn K C_OrderError = true)
    (ty_OrderError : PySem.W.typeIn K (.ref C_OrderError) = some (.type "type"))
    (sb_OrderError : PySem.W.subIn K (.ref C_OrderError) (.type "BaseException") = some true)
    (sr_BadScope : PySem.W.subIn K (.ref C_BadScope) (.ref C_OrderError) = some true)
    (ec_BadScope : ExcC K C_BadScope)
    (sn_BadScope : PySem.W.subIn K (.type "NoneType") (.ref C_BadScope) = some false)
    (nt_33 : K.lookup P_33 = none)
    (hl_33 : K.lookup c_33 = some ⟨.type "code", hdd_33, .fields hvs_33, hsl_33⟩)
    (hf_33 : codeFld hvs_33 c_33 P_33 = true)
    (pure_ : ∀ ns : List Int, ns.length ≤ 63 → ∃ st, callN lv0 33 [.scr (ns.map .int)] [] = .ok (.bl true) st) : LamX.LawAtS l w K (L2.CX l.prog w) lv0 63 "script" mg fa0 h := by
  have d_0 : DefAt K "is_name" st_is_name f_0 := ⟨a_0, ⟨_, _, _, _, _, _, _, _, _, l_0, c_c_0⟩, k_0⟩
  have d_1 : DefAt K "are_names" st_are_names f_1 := ⟨a_1, ⟨_, _, _, _, _, _, _, _, _, l_1, c_c_1⟩, k_1⟩
  have d_2 : DefAt K "is_scope" st_is_scope f_2 := ⟨a_2, ⟨_, _, _, _, _, _, _, _, _, l_2, c_c_2⟩, k_2⟩
  have d_3 : DefAt K "need_scope" st_need_scope f_3 := ⟨a_3, ⟨_, _, _, _, _, _, _, _, _, l_3, c_c_3⟩, k_3⟩
  have d_4 : DefAt K "letters_of" st_letters_of f_4 := ⟨a_4, ⟨_, _, _, _, _, _, _, _, _, l_4, c_c_4⟩, k_4⟩
  have d_5 : DefAt K "letters" st_letters f_5 := ⟨a_5, ⟨_, _, _, _, _, _, _, _, _, l_5, c_c_5⟩, k_5⟩
  have d_6 : DefAt K "is_letter" st_is_letter f_6 := ⟨a_6, ⟨_, _, _, _, _, _, _, _, _, l_6, c_c_6⟩, k_6⟩
  have d_7 : DefAt K "inner" st_inner f_7 := ⟨a_7, ⟨_, _, _, _, _, _, _, _, _, l_7, c_c_7⟩, k_7⟩
  have d_8 : DefAt K "heads" st_heads f_8 := ⟨a_8, ⟨_, _, _, _, _, _, _, _, _, l_8, c_c_8⟩, k_8⟩
  have d_9 : DefAt K "is_weave_of" st_is_weave_of f_9 := ⟨a_9, ⟨_, _, _, _, _, _, _, _, _, l_9, c_c_9⟩, k_9⟩
  have d_10 : DefAt K "rises" st_rises f_10 := ⟨a_10, ⟨_, _, _, _, _, _, _, _, _, l_10, c_c_10⟩, k_10⟩
  have d_11 : DefAt K "is_weave" st_is_weave f_11 := ⟨a_11, ⟨_, _, _, _, _, _, _, _, _, l_11, c_c_11⟩, k_11⟩
  have d_12 : DefAt K "_law_begun" st__law_begun f_12 := ⟨a_12, ⟨_, _, _, _, _, _, _, _, _, l_12, c_c_12⟩, k_12⟩
  have d_13 : DefAt K "_law_mixed" st__law_mixed f_13 := ⟨a_13, ⟨_, _, _, _, _, _, _, _, _, l_13, c_c_13⟩, k_13⟩
  have d_14 : DefAt K "_law_take" st__law_take f_14 := ⟨a_14, ⟨_, _, _, _, _, _, _, _, _, l_14, c_c_14⟩, k_14⟩
  have d_15 : DefAt K "_law_pick" st__law_pick f_15 := ⟨a_15, ⟨_, _, _, _, _, _, _, _, _, l_15, c_c_15⟩, k_15⟩
  have d_16 : DefAt K "_law_shuffled" st__law_shuffled f_16 := ⟨a_16, ⟨_, _, _, _, _, _, _, _, _, l_16, c_c_16⟩, k_16⟩
  have d_17 : DefAt K "_law_caught" st__law_caught f_17 := ⟨a_17, ⟨_, _, _, _, _, _, _, _, _, l_17, c_c_17⟩, k_17⟩
  have d_18 : DefAt K "_law_names" st__law_names f_18 := ⟨a_18, ⟨_, _, _, _, _, _, _, _, _, l_18, c_c_18⟩, k_18⟩
  have d_19 : DefAt K "_law_scope" st__law_scope f_19 := ⟨a_19, ⟨_, _, _, _, _, _, _, _, _, l_19, c_c_19⟩, k_19⟩
  have d_20 : DefAt K "_law_letters" st__law_letters f_20 := ⟨a_20, ⟨_, _, _, _, _, _, _, _, _, l_20, c_c_20⟩, k_20⟩
  have d_21 : DefAt K "_law_paths" st__law_paths f_21 := ⟨a_21, ⟨_, _, _, _, _, _, _, _, _, l_21, c_c_21⟩, k_21⟩
  have d_22 : DefAt K "_law_part" st__law_part f_22 := ⟨a_22, ⟨_, _, _, _, _, _, _, _, _, l_22, c_c_22⟩, k_22⟩
  have d_23 : DefAt K "_law_put" st__law_put f_23 := ⟨a_23, ⟨_, _, _, _, _, _, _, _, _, l_23, c_c_23⟩, k_23⟩
  have d_24 : DefAt K "_law_odd" st__law_odd f_24 := ⟨a_24, ⟨_, _, _, _, _, _, _, _, _, l_24, c_c_24⟩, k_24⟩
  have d_25 : DefAt K "_law_bent" st__law_bent f_25 := ⟨a_25, ⟨_, _, _, _, _, _, _, _, _, l_25, c_c_25⟩, k_25⟩
  have d_26 : DefAt K "_law_once" st__law_once f_26 := ⟨a_26, ⟨_, _, _, _, _, _, _, _, _, l_26, c_c_26⟩, k_26⟩
  have d_27 : DefAt K "_law_weave" st__law_weave f_27 := ⟨a_27, ⟨_, _, _, _, _, _, _, _, _, l_27, c_c_27⟩, k_27⟩
  have d_28 : DefAt K "_law_inner" st__law_inner f_28 := ⟨a_28, ⟨_, _, _, _, _, _, _, _, _, l_28, c_c_28⟩, k_28⟩
  have d_29 : DefAt K "_law_nodes" st__law_nodes f_29 := ⟨a_29, ⟨_, _, _, _, _, _, _, _, _, l_29, c_c_29⟩, k_29⟩
  have d_30 : DefAt K "_law_are_names" st__law_are_names f_30 := ⟨a_30, ⟨_, _, _, _, _, _, _, _, _, l_30, c_c_30⟩, k_30⟩
  have d_31 : DefAt K "_law_is_weave" st__law_is_weave f_31 := ⟨a_31, ⟨_, _, _, _, _, _, _, _, _, l_31, c_c_31⟩, k_31⟩
  have d_32 : DefAt K "_law_said" st__law_said f_32 := ⟨a_32, ⟨_, _, _, _, _, _, _, _, _, l_32, c_c_32⟩, k_32⟩
  have d_33 : DefCAt K "law" st_law f_33 c_33 := ⟨a_33, ⟨_, _, _, _, _, _, _, _, l_33, c_c_33⟩, k_33⟩
  have g_KEPT : GC K mg "KEPT" (.tup [(.str "ahead"), (.str "all"), (.str "apart"), (.str "bare"), (.str "both"), (.str "dense"), (.str "down"), (.str "either"), (.str "finite"), (.str "first"), (.str "last"), (.str "next"), (.str "not"), (.str "one"), (.str "same"), (.str "scattered"), (.str "some"), (.str "sub"), (.str "well")]) := gc_tup X G e_KEPT el_KEPT ez_KEPT ef_KEPT
  have g_MOST_DEEP : GC K mg "MOST_DEEP" (.int 60) := gc_int X G e_MOST_DEEP
  have g_MOST_LETTERS : GC K mg "MOST_LETTERS" (.int 8) := gc_int X G e_MOST_LETTERS
  have g_MOST_NAMES : GC K mg "MOST_NAMES" (.int 3) := gc_int X G e_MOST_NAMES
  have g_MOST_NODES : GC K mg "MOST_NODES" (.int 400) := gc_int X G e_MOST_NODES
  have x_BadScope : ExcAt K "BadScope" C_BadScope "ValueError" "ValueError.__new__" bm := ⟨xa_BadScope, xk_BadScope, xq_BadScope, xs_BadScope, xt_BadScope⟩
  have em_BadScope : PySem.W.exmOne K (.ref C_BadScope) (.ref C_OrderError) = some true := PySem.W.exm_ref sb_OrderError hd_OrderError ty_OrderError sr_BadScope
  have nn_BadScope : PySem.W.kitOne K (.type "NoneType") (.ref C_BadScope) = some false := kit_ref hd_BadScope ty_BadScope sn_BadScope rfl
  have ko_BadScope_BadScope : PySem.W.kitOne K (.ref C_BadScope) (.ref C_BadScope) = some true := kit_self
  have hd_33 : PySem.W.codeHdIn K c_33 P_33 = true := codeHd_in hl_33 hf_33
  obtain ⟨fd_0, F_0, B_0⟩ := at_is_name d_0
  obtain ⟨fd_1, F_1, B_1⟩ := at_are_names d_1
  obtain ⟨fd_2, F_2, B_2⟩ := at_is_scope d_2
  obtain ⟨fd_3, F_3, B_3⟩ := at_need_scope d_3
  obtain ⟨fd_4, F_4, B_4⟩ := at_letters_of d_4
  obtain ⟨fd_5, F_5, B_5, K_letters_0⟩ := at_letters d_5
  obtain ⟨fd_6, F_6, B_6⟩ := at_is_letter d_6
  obtain ⟨fd_7, F_7, B_7⟩ := at_inner d_7
  obtain ⟨fd_8, F_8, B_8⟩ := at_heads d_8
  obtain ⟨fd_9, F_9, B_9⟩ := at_is_weave_of d_9
  obtain ⟨fd_10, F_10, B_10⟩ := at_rises d_10
  obtain ⟨fd_11, F_11, B_11, K_is_weave_1_0⟩ := at_is_weave d_11
  obtain ⟨fd_12, F_12, B_12⟩ := at__law_begun d_12
  obtain ⟨fd_13, F_13, B_13⟩ := at__law_mixed d_13
  obtain ⟨fd_14, F_14, B_14⟩ := at__law_take d_14
  obtain ⟨fd_15, F_15, B_15⟩ := at__law_pick d_15
  obtain ⟨fd_16, F_16, B_16⟩ := at__law_shuffled d_16
  obtain ⟨fd_17, F_17, B_17⟩ := at__law_caught d_17
  obtain ⟨fd_18, F_18, B_18⟩ := at__law_names d_18
  obtain ⟨fd_19, F_19, B_19⟩ := at__law_scope d_19
  obtain ⟨fd_20, F_20, B_20⟩ := at__law_letters d_20
  obtain ⟨fd_21, F_21, B_21⟩ := at__law_paths d_21
  obtain ⟨fd_22, F_22, B_22⟩ := at__law_part d_22
  obtain ⟨fd_23, F_23, B_23⟩ := at__law_put d_23
  obtain ⟨fd_24, F_24, B_24⟩ := at__law_odd d_24
  obtain ⟨fd_25, F_25, B_25⟩ := at__law_bent d_25
  obtain ⟨fd_26, F_26, B_26⟩ := at__law_once d_26
  obtain ⟨fd_27, F_27, B_27⟩ := at__law_weave d_27
  obtain ⟨fd_28, F_28, B_28⟩ := at__law_inner d_28
  obtain ⟨fd_29, F_29, B_29⟩ := at__law_nodes d_29
  obtain ⟨fd_30, F_30, B_30⟩ := at__law_are_names d_30
  obtain ⟨fd_31, F_31, B_31⟩ := at__law_is_weave d_31
  obtain ⟨fd_32, F_32, B_32⟩ := at__law_said d_32
  obtain ⟨fd_33, F_33, B_33, BL⟩ := at_law d_33
  have GS : ∀ base : Heap, K.In base → base.Ns mainGlobals mg → (∀ p ∈ ([(c_33, P_33)] : List (Addr × Addr)), LamX.TabB base mg p.1 p.2) → Gs l.prog w K mg base [(P_33, ((("law" : Str) ++ ".<locals>.") ++ "<lambda>"))] (fun i => ([f_0, f_1, f_2, f_3, f_4, f_5, f_6, f_7, f_8, f_9, f_10, f_11, f_12, f_13, f_14, f_15, f_16, f_17, f_18, f_19, f_20, f_21, f_22, f_23, f_24, f_25, f_26, f_27, f_28, f_29, f_30, f_31, f_32, f_33] : List Addr).getD i 0) (fun i => ([fd_0, fd_1, fd_2, fd_3, fd_4, fd_5, fd_6, fd_7, fd_8, fd_9, fd_10, fd_11, fd_12, fd_13, fd_14, fd_15, fd_16, fd_17, fd_18, fd_19, fd_20, fd_21, fd_22, fd_23, fd_24, fd_25, fd_26, fd_27, fd_28, fd_29, fd_30, fd_31, fd_32, fd_33] : List FuncData).getD i (fd_0)) (fun i => ([C_OrderError, C_BadScope] : List Addr).getD i 0) (fun i => ([(0, 0), (0, 0), (0, 0), (0, 0), (0, 0), (0, 0), (0, 0), (0, 0), (0, 0), (0, 0), (0, 0), (0, 0), (0, 0), (0, 0), (0, 0), (0, 0), (0, 0), (0, 0), (0, 0), (0, 0), (0, 0), (0, 0), (0, 0), (0, 0), (0, 0), (0, 0), (0, 0), (0, 0), (0, 0), (0, 0), (0, 0), (0, 0), (0, 0), (c_33, P_33)] : List (Addr × Addr)).getD i (0, 0)) := fun base XB GB hTB => {
    n_abs := PySem.W.mg_none_of X G z_abs
    n_all := PySem.W.mg_none_of X G z_all
    n_bool := PySem.W.mg_none_of X G z_bool
    n_enumerate := PySem.W.mg_none_of X G z_enumerate
    n_int := PySem.W.mg_none_of X G z_int
    n_isinstance := PySem.W.mg_none_of X G z_isinstance
    n_len := PySem.W.mg_none_of X G z_len
    n_list := PySem.W.mg_none_of X G z_list
    n_min := PySem.W.mg_none_of X G z_min
    n_range := PySem.W.mg_none_of X G z_range
    n_repr := PySem.W.mg_none_of X G z_repr
    n_set := PySem.W.mg_none_of X G z_set
    n_sorted := PySem.W.mg_none_of X G z_sorted
    n_str := PySem.W.mg_none_of X G z_str
    n_tuple := PySem.W.mg_none_of X G z_tuple
    n_zip := PySem.W.mg_none_of X G z_zip
    c_KEPT := g_KEPT
    c_MOST_DEEP := g_MOST_DEEP
    c_MOST_LETTERS := g_MOST_LETTERS
    c_MOST_NAMES := g_MOST_NAMES
    c_MOST_NODES := g_MOST_NODES
    m_is_name := PySem.W.mg_of X G d_0.a
    k_is_name := d_0.k
    b_is_name := B_0
    u_is_name := F_0
    m_are_names := PySem.W.mg_of X G d_1.a
    k_are_names := d_1.k
    b_are_names := B_1
    u_are_names := F_1
    m_is_scope := PySem.W.mg_of X G d_2.a
    k_is_scope := d_2.k
    b_is_scope := B_2
    u_is_scope := F_2
    m_need_scope := PySem.W.mg_of X G d_3.a
    k_need_scope := d_3.k
    b_need_scope := B_3
    u_need_scope := F_3
    m_letters_of := PySem.W.mg_of X G d_4.a
    k_letters_of := d_4.k
    b_letters_of := B_4
    u_letters_of := F_4
    m_letters := PySem.W.mg_of X G d_5.a
    k_letters := d_5.k
    b_letters := B_5
    u_letters := F_5
    m_is_letter := PySem.W.mg_of X G d_6.a
    k_is_letter := d_6.k
    b_is_letter := B_6
    u_is_letter := F_6
    m_inner := PySem.W.mg_of X G d_7.a
    k_inner := d_7.k
    b_inner := B_7
    u_inner := F_7
    m_heads := PySem.W.mg_of X G d_8.a
    k_heads := d_8.k
    b_heads := B_8
    u_heads := F_8
    m_is_weave_of := PySem.W.mg_of X G d_9.a
    k_is_weave_of := d_9.k
    b_is_weave_of := B_9
    u_is_weave_of := F_9
    m_rises := PySem.W.mg_of X G d_10.a
    k_rises := d_10.k
    b_rises := B_10
    u_rises := F_10
    m_is_weave := PySem.W.mg_of X G d_11.a
    k_is_weave := d_11.k
    b_is_weave := B_11
    u_is_weave := F_11
    m__law_begun := PySem.W.mg_of X G d_12.a
    k__law_begun := d_12.k
    b__law_begun := B_12
    u__law_begun := F_12
    m__law_mixed := PySem.W.mg_of X G d_13.a
    k__law_mixed := d_13.k
    b__law_mixed := B_13
    u__law_mixed := F_13
    m__law_take := PySem.W.mg_of X G d_14.a
    k__law_take := d_14.k
    b__law_take := B_14
    u__law_take := F_14
    m__law_pick := PySem.W.mg_of X G d_15.a
    k__law_pick := d_15.k
    b__law_pick := B_15
    u__law_pick := F_15
    m__law_shuffled := PySem.W.mg_of X G d_16.a
    k__law_shuffled := d_16.k
    b__law_shuffled := B_16
    u__law_shuffled := F_16
    m__law_caught := PySem.W.mg_of X G d_17.a
    k__law_caught := d_17.k
    b__law_caught := B_17
    u__law_caught := F_17
    m__law_names := PySem.W.mg_of X G d_18.a
    k__law_names := d_18.k
    b__law_names := B_18
    u__law_names := F_18
    m__law_scope := PySem.W.mg_of X G d_19.a
    k__law_scope := d_19.k
    b__law_scope := B_19
    u__law_scope := F_19
    m__law_letters := PySem.W.mg_of X G d_20.a
    k__law_letters := d_20.k
    b__law_letters := B_20
    u__law_letters := F_20
    m__law_paths := PySem.W.mg_of X G d_21.a
    k__law_paths := d_21.k
    b__law_paths := B_21
    u__law_paths := F_21
    m__law_part := PySem.W.mg_of X G d_22.a
    k__law_part := d_22.k
    b__law_part := B_22
    u__law_part := F_22
    m__law_put := PySem.W.mg_of X G d_23.a
    k__law_put := d_23.k
    b__law_put := B_23
    u__law_put := F_23
    m__law_odd := PySem.W.mg_of X G d_24.a
    k__law_odd := d_24.k
    b__law_odd := B_24
    u__law_odd := F_24
    m__law_bent := PySem.W.mg_of X G d_25.a
    k__law_bent := d_25.k
    b__law_bent := B_25
    u__law_bent := F_25
    m__law_once := PySem.W.mg_of X G d_26.a
    k__law_once := d_26.k
    b__law_once := B_26
    u__law_once := F_26
    m__law_weave := PySem.W.mg_of X G d_27.a
    k__law_weave := d_27.k
    b__law_weave := B_27
    u__law_weave := F_27
    m__law_inner := PySem.W.mg_of X G d_28.a
    k__law_inner := d_28.k
    b__law_inner := B_28
    u__law_inner := F_28
    m__law_nodes := PySem.W.mg_of X G d_29.a
    k__law_nodes := d_29.k
    b__law_nodes := B_29
    u__law_nodes := F_29
    m__law_are_names := PySem.W.mg_of X G d_30.a
    k__law_are_names := d_30.k
    b__law_are_names := B_30
    u__law_are_names := F_30
    m__law_is_weave := PySem.W.mg_of X G d_31.a
    k__law_is_weave := d_31.k
    b__law_is_weave := B_31
    u__law_is_weave := F_31
    m__law_said := PySem.W.mg_of X G d_32.a
    k__law_said := d_32.k
    b__law_said := B_32
    u__law_said := F_32
    m_law := PySem.W.mg_of X G d_33.a
    k_law := d_33.k
    b_law := B_33
    u_law := F_33
    tb_law := hTB (c_33, P_33) (by simp)
    tm_law := by simp
    tu_law := fun p hp _ => by rw [List.mem_singleton.mp hp]
    kb_is_weave_1_0 := K_is_weave_1_0
    kb_letters_0 := K_letters_0
    r_BadScope := fun h1 h2 I hg => raise_of FB x_BadScope X G (by kernel_rfl) h1 h2 I hg
    x_BadScope := PySem.W.mg_of X G a_BadScope
    x_OrderError := PySem.W.mg_of X G a_OrderError
    s_BadScope := ⟨nn_BadScope, fun c b hc D hD => by
      unfold sub_BadScope at hc
      split at hc
      · rename_i hcc
        subst hcc
        cases hc
        have z := (PySem.W.mg_of X G x_BadScope.a).symm.trans hD
        cases z
        exact ⟨ec_BadScope, em_BadScope, ko_BadScope_BadScope⟩
      · cases hc⟩
  }
  have e0 := hfa.symm.trans (PySem.W.mg_of X G d_33.a)
  cases e0
  refine ⟨fd_33, [(c_33, P_33)], _, fun p hp => by
      simp only [List.mem_singleton] at hp
      subst hp
      exact ht_33, fun p hp => by
      simp only [List.mem_singleton] at hp
      subst hp
      exact nt_33, fun p hp => by
      simp only [List.mem_singleton] at hp
      subst hp
      exact PySem.W.codeHd_of_K X hd_33, BL, fun H a ns hl hb hH hS => law_entry (T := [(P_33, ((("law" : Str) ++ ".<locals>.") ++ "<lambda>"))]) (fun p hp => by
      simp only [List.mem_singleton] at hp
      subst hp
      exact hH (c_33, P_33) (by simp)) hS (pure_ ns hl), fun base XB GB hTB => (lv (GS base XB GB hTB) lv0).F_law⟩
end
end Tk
namespace Tk
open PySem L2 Tl
abbrev Sv := List (Option D)
theorem bind_ok {α β : Type} (a : α) (st : List O) (k : α → List O → RR β) : (RR.ok a st).bind k = k a st := rfl
theorem bind_exc {α β : Type} (c : Str) (st : List O) (k : α → List O → RR β) : (RR.exc c st : RR α).bind k = .exc c st := rfl
theorem bind_err {α β : Type} (k : α → List O → RR β) : (RR.err : RR α).bind k = .err := rfl
theorem onE_ok {α : Type} (a : α) (st : List O) (ρ : Sv) (k : α → List O → SR) : onE (.ok a st) ρ k = k a st := rfl
theorem onE_exc {α : Type} (c : Str) (st : List O) (ρ : Sv) (k : α → List O → SR) : onE (.exc c st : RR α) ρ k = .exc c ρ st := rfl
theorem ty_loc (st : List O) (n : Nat) : tyD st (.loc n) = "list" ∨ tyD st (.loc n) = "dict" := by
  unfold tyD
  cases h : st[n]? with
  | none => exact .inl (by simp only [h])
  | some o =>
    cases o with
    | lst x => exact .inl (by simp only [h])
    | dic x => exact .inr (by simp only [h])
/-! what isinstance says -/
def isTup : D → Bool | .tup _ => true | _ => false
def isStr : D → Bool | .str _ => true | _ => false
def isInt : D → Bool | .int _ => true | .bl _ => true | _ => false
def isBl : D → Bool | .bl _ => true | _ => false

theorem k_NoneType_tuple : kitB "NoneType" "tuple" = some false := by decide +kernel
theorem k_bool_tuple : kitB "bool" "tuple" = some false := by decide +kernel
theorem k_int_tuple : kitB "int" "tuple" = some false := by decide +kernel
theorem k_str_tuple : kitB "str" "tuple" = some false := by decide +kernel
theorem k_tuple_tuple : kitB "tuple" "tuple" = some true := by decide +kernel
theorem k_list_tuple : kitB "list" "tuple" = some false := by decide +kernel
theorem k_dict_tuple : kitB "dict" "tuple" = some false := by decide +kernel
theorem kit_tuple (st : List O) (d : D) : kitB (tyD st d) "tuple" = some (isTup d) := by
  cases d with
  | non => exact k_NoneType_tuple
  | bl b => exact k_bool_tuple
  | int i => exact k_int_tuple
  | str x => exact k_str_tuple
  | tup x => exact k_tuple_tuple
  | lst x => exact k_list_tuple
  | scr x => exact k_list_tuple
  | loc n =>
    rcases ty_loc st n with e | e
    · rw [e]
      exact k_list_tuple
    · rw [e]
      exact k_dict_tuple
theorem k_NoneType_str : kitB "NoneType" "str" = some false := by decide +kernel
theorem k_bool_str : kitB "bool" "str" = some false := by decide +kernel
theorem k_int_str : kitB "int" "str" = some false := by decide +kernel
theorem k_str_str : kitB "str" "str" = some true := by decide +kernel
theorem k_tuple_str : kitB "tuple" "str" = some false := by decide +kernel
theorem k_list_str : kitB "list" "str" = some false := by decide +kernel
theorem k_dict_str : kitB "dict" "str" = some false := by decide +kernel
theorem kit_str (st : List O) (d : D) : kitB (tyD st d) "str" = some (isStr d) := by
  cases d with
  | non => exact k_NoneType_str
  | bl b => exact k_bool_str
  | int i => exact k_int_str
  | str x => exact k_str_str
  | tup x => exact k_tuple_str
  | lst x => exact k_list_str
  | scr x => exact k_list_str
  | loc n =>
    rcases ty_loc st n with e | e
    · rw [e]
      exact k_list_str
    · rw [e]
      exact k_dict_str
theorem k_NoneType_int : kitB "NoneType" "int" = some false := by decide +kernel
theorem k_bool_int : kitB "bool" "int" = some true := by decide +kernel
theorem k_int_int : kitB "int" "int" = some true := by decide +kernel
theorem k_str_int : kitB "str" "int" = some false := by decide +kernel
theorem k_tuple_int : kitB "tuple" "int" = some false := by decide +kernel
theorem k_list_int : kitB "list" "int" = some false := by decide +kernel
theorem k_dict_int : kitB "dict" "int" = some false := by decide +kernel
theorem kit_int (st : List O) (d : D) : kitB (tyD st d) "int" = some (isInt d) := by
  cases d with
  | non => exact k_NoneType_int
  | bl b => exact k_bool_int
  | int i => exact k_int_int
  | str x => exact k_str_int
  | tup x => exact k_tuple_int
  | lst x => exact k_list_int
  | scr x => exact k_list_int
  | loc n =>
    rcases ty_loc st n with e | e
    · rw [e]
      exact k_list_int
    · rw [e]
      exact k_dict_int
theorem k_NoneType_bool : kitB "NoneType" "bool" = some false := by decide +kernel
theorem k_bool_bool : kitB "bool" "bool" = some true := by decide +kernel
theorem k_int_bool : kitB "int" "bool" = some false := by decide +kernel
theorem k_str_bool : kitB "str" "bool" = some false := by decide +kernel
theorem k_tuple_bool : kitB "tuple" "bool" = some false := by decide +kernel
theorem k_list_bool : kitB "list" "bool" = some false := by decide +kernel
theorem k_dict_bool : kitB "dict" "bool" = some false := by decide +kernel
theorem kit_bool (st : List O) (d : D) : kitB (tyD st d) "bool" = some (isBl d) := by
  cases d with
  | non => exact k_NoneType_bool
  | bl b => exact k_bool_bool
  | int i => exact k_int_bool
  | str x => exact k_str_bool
  | tup x => exact k_tuple_bool
  | lst x => exact k_list_bool
  | scr x => exact k_list_bool
  | loc n =>
    rcases ty_loc st n with e | e
    · rw [e]
      exact k_list_bool
    · rw [e]
      exact k_dict_bool
/-! walks that leave the store -/
theorem goC_map {s : Src} {t : GT} {el : Sv → List O → RR D} {ρ : Sv} {F : D → D} {st : List O} (hg : s.gd st = true) : ∀ (ds acc : List D), acc.length + ds.length ≤ sizeLine → (∀ d ∈ ds, ∃ ρ', asgT t d ρ = some ρ' ∧ el ρ' st = .ok (F d) st) → goC s t tYesT el ρ ds acc st = .ok (acc ++ ds.map F) st
  | [], acc, _, _ => by
    unfold goC
    rw [if_pos hg]
    simp
  | d :: ds, acc, hl, h => by
    obtain ⟨ρ', h1, h2⟩ := h d (by simp)
    unfold goC
    rw [if_pos hg, h1]
    simp only [List.length_cons] at hl
    show (noExc (el ρ' st)).bind _ = _
    rw [h2]
    show (if acc.length < sizeLine then goC s t tYesT el ρ ds (acc ++ [F d]) st else .err) = _
    rw [if_pos (by omega), goC_map hg ds (acc ++ [F d]) (by simp; omega) fun d hd => h d (by simp [hd])]
    simp
theorem goC_filter {s : Src} {t : GT} {ts : Sv → List O → RR Bool} {el : Sv → List O → RR D} {ρ : Sv} {p : D → Bool} {F : D → D} {st : List O} (hg : s.gd st = true) : ∀ (ds acc : List D), acc.length + ds.length ≤ sizeLine → (∀ d ∈ ds, ∃ ρ', asgT t d ρ = some ρ' ∧ ts ρ' st = .ok (p d) st ∧ (p d = true → el ρ' st = .ok (F d) st)) → goC s t ts el ρ ds acc st = .ok (acc ++ (ds.filter p).map F) st
  | [], acc, _, _ => by
    unfold goC
    rw [if_pos hg]
    simp
  | d :: ds, acc, hl, h => by
    obtain ⟨ρ', h1, h2, h3⟩ := h d (by simp)
    unfold goC
    rw [if_pos hg, h1]
    simp only [List.length_cons] at hl
    show (noExc (ts ρ' st)).bind _ = _
    rw [h2]
    show (if p d = true then _ else _) = _
    by_cases hp : p d = true
    · rw [if_pos hp, h3 hp]
      show (if acc.length < sizeLine then goC s t ts el ρ ds (acc ++ [F d]) st else .err) = _
      rw [if_pos (by omega), goC_filter hg ds (acc ++ [F d]) (by simp; omega) fun d hd => h d (by simp [hd]), List.filter_cons_of_pos hp]
      simp
    · rw [if_neg hp, goC_filter hg ds acc (by omega) fun d hd => h d (by simp [hd]), List.filter_cons_of_neg hp]
theorem allBl_map {α : Type} (p : α → Bool) : ∀ xs : List α, allBl (xs.map fun x => .bl (p x)) = some (xs.map p)
  | [] => rfl
  | x :: xs => by
    rw [List.map_cons, allBl, allBl_map p xs]
    rfl
theorem all_map {α : Type} (p : α → Bool) (xs : List α) : (xs.map p).all id = xs.all p := by
  rw [List.all_map]
  rfl
end Tk
/-! PEv: outcomes that leave the store's objects as they are (new ones may come). -/
namespace Tk
open PySem L2 Tl
def Gr (st st' : List O) : Prop := ∃ r, st' = st ++ r
theorem Gr.refl {st : List O} : Gr st st := ⟨[], by simp⟩
theorem Gr.trans {a b c : List O} (h : Gr a b) (k : Gr b c) : Gr a c := by
  obtain ⟨r, rfl⟩ := h
  obtain ⟨q, rfl⟩ := k
  exact ⟨r ++ q, by simp⟩
theorem Gr.one {st : List O} (r : List O) : Gr st (st ++ r) := ⟨r, rfl⟩
theorem Gr.get {a b : List O} (h : Gr a b) {n : Nat} {o : O} (e : a[n]? = some o) : b[n]? = some o := by
  obtain ⟨r, rfl⟩ := h
  rw [List.getElem?_append_left (List.getElem?_eq_some_iff.mp e).1]
  exact e
def Ev {α : Type} (r : RR α) (st : List O) (a : α) : Prop := ∃ s, r = .ok a s ∧ Gr st s
theorem Ev.of {α : Type} {st : List O} {a : α} : Ev (.ok a st) st a := ⟨st, rfl, Gr.refl⟩
theorem Ev.mk {α : Type} {r : RR α} {st : List O} {a : α} (h : r = .ok a st) : Ev r st a := ⟨st, h, Gr.refl⟩
theorem Ev.up {α : Type} {r : RR α} {st s : List O} {a : α} (g : Gr st s) (h : Ev r s a) : Ev r st a := by
  obtain ⟨s', e, g'⟩ := h
  exact ⟨s', e, g.trans g'⟩
theorem Ev.bind {α β : Type} {r : RR α} {st : List O} {a : α} {k : α → List O → RR β} {b : β} (h : Ev r st a) (q : ∀ s, Gr st s → Ev (k a s) s b) : Ev (r.bind k) st b := by
  obtain ⟨s, e, g⟩ := h
  subst e
  exact (q s g).up g
section
variable {ρ : Sv} {st : List O} {f g k : Sv → List O → RR D} {fs : Sv → List O → RR (List D)} {t u : Sv → List O → RR Bool} {x y z d : D} {xs : List D} {b c : Bool}
theorem ev_var {i : Nat} (h : ρ[i]? = some (some d)) : Ev (eVar i ρ st) st d := Ev.mk (by unfold eVar; rw [h])
theorem ev_c : Ev (eC d ρ st) st d := Ev.of
theorem ev_nil : Ev (eNil ρ st) st [] := Ev.of
theorem ev_cons (h1 : Ev (f ρ st) st x) (h2 : ∀ s, Gr st s → Ev (fs ρ s) s xs) : Ev (eCons f fs ρ st) st (x :: xs) := h1.bind fun s g => (h2 s g).bind fun s2 _ => Ev.of
theorem ev_pr {h : Pr} (h1 : Ev (fs ρ st) st xs) (h2 : ∀ s, Gr st s → h s xs = some (d, s)) : Ev (ePr h fs ρ st) st d := h1.bind fun s g => Ev.mk (by rw [h2 s g]; rfl)
theorem ev_bin {h : Pr} (h1 : Ev (f ρ st) st x) (h2 : ∀ s, Gr st s → Ev (g ρ s) s y) (h3 : ∀ s, Gr st s → h s [x, y] = some (d, s)) : Ev (eBin h f g ρ st) st d := h1.bind fun s g1 => (h2 s g1).bind fun s2 g2 => Ev.mk (by rw [h3 s2 (g1.trans g2)]; rfl)
theorem ev_ch {h h' : Pr} (h1 : Ev (f ρ st) st x) (h2 : ∀ s, Gr st s → Ev (g ρ s) s y) (h3 : ∀ s, Gr st s → h s [x, y] = some (.bl b, s)) (h4 : b = true → ∀ s, Gr st s → Ev (k ρ s) s z) (h5 : b = true → ∀ s, Gr st s → h' s [y, z] = some (.bl c, s)) : Ev (eCh h h' f g k ρ st) st (.bl (b && c)) := by
  refine h1.bind fun s g1 => (h2 s g1).bind fun s2 g2 => ?_
  rw [h3 s2 (g1.trans g2)]
  cases b with
  | false => exact Ev.of
  | true => exact (h4 rfl s2 (g1.trans g2)).bind fun s3 g3 => Ev.mk (by rw [h5 rfl s3 ((g1.trans g2).trans g3)]; rfl)
theorem ev_is (h : Ev (f ρ st) st (.bl b)) : Ev (eIs f ρ st) st b := h.bind fun s _ => Ev.of
theorem ev_not (h : Ev (t ρ st) st b) : Ev (eNot t ρ st) st (!b) := h.bind fun s _ => Ev.of
theorem ev_or (h1 : Ev (t ρ st) st b) (h2 : b = false → ∀ s, Gr st s → Ev (u ρ s) s c) : Ev (eOrT t u ρ st) st (b || c) := h1.bind fun s g => by
  cases b with
  | true => exact Ev.of
  | false => exact h2 rfl s g
theorem ev_and (h1 : Ev (t ρ st) st b) (h2 : b = true → ∀ s, Gr st s → Ev (u ρ s) s c) : Ev (eAndT t u ρ st) st (b && c) := h1.bind fun s g => by
  cases b with
  | true => exact h2 rfl s g
  | false => exact Ev.of
theorem ev_orV (h1 : Ev (f ρ st) st (.bl b)) (h2 : b = false → ∀ s, Gr st s → Ev (g ρ s) s (.bl c)) : Ev (eOrV f g ρ st) st (.bl (b || c)) := h1.bind fun s g => by
  cases b with
  | true => exact Ev.of
  | false => exact h2 rfl s g
theorem ev_andV (h1 : Ev (f ρ st) st (.bl b)) (h2 : b = true → ∀ s, Gr st s → Ev (g ρ s) s (.bl c)) : Ev (eAndV f g ρ st) st (.bl (b && c)) := h1.bind fun s g => by
  cases b with
  | true => exact h2 rfl s g
  | false => exact Ev.of
theorem ev_tru (h : Ev (f ρ st) st x) (h2 : ∀ s, truth s x = some b) : Ev (eTru f ρ st) st b := h.bind fun s _ => by
  rw [h2 s]
  exact Ev.of
theorem ev_truB (h : Ev (f ρ st) st (.bl b)) : Ev (eTru f ρ st) st b := ev_tru h fun _ => rfl
theorem ev_isi {T : String} (h : Ev (f ρ st) st x) (h2 : ∀ s, kitB (tyD s x) T = some b) : Ev (eIsi T f ρ st) st (.bl b) := h.bind fun s _ => by
  rw [h2 s]
  exact Ev.of
theorem ev_ifE (h : Ev (t ρ st) st b) (h1 : b = true → ∀ s, Gr st s → Ev (f ρ s) s x) (h2 : b = false → ∀ s, Gr st s → Ev (g ρ s) s x) : Ev (eIfE t f g ρ st) st x := h.bind fun s g => by
  cases b with
  | true => exact h1 rfl s g
  | false => exact h2 rfl s g
theorem ev_tup (h : Ev (fs ρ st) st xs) (hl : xs.length ≤ sizeLine) : Ev (eTup fs ρ st) st (.tup xs) := h.bind fun s _ => by
  rw [if_pos hl]
  exact Ev.of
theorem ev_lim (h : Ev (fs ρ st) st xs) (hl : xs.length ≤ sizeLine) : Ev (eLim fs ρ st) st xs := h.bind fun s _ => by
  rw [if_pos hl]
  exact Ev.of
theorem ev_frz (h : Ev (fs ρ st) st xs) : Ev (eFrz fs ρ st) st (.lst xs) := h.bind fun s _ => Ev.of
theorem ev_call {F : List D → List O → RR D} {n : Nat} (h : Ev (fs ρ st) st xs) (hl : xs.length = n) (h2 : ∀ s, Gr st s → Ev (F xs s) s d) : Ev (eCall F n fs ρ st) st d := h.bind fun s g => by
  rw [if_pos hl]
  exact h2 s g
theorem ev_src {sr : Src} (h : Ev (f ρ st) st x) (h2 : ∀ s, Gr st s → srcOf s x = some sr) : Ev (eSrc f ρ st) st sr := h.bind fun s g => by
  rw [h2 s g]
  exact Ev.of
theorem ev_noPart : Ev (eNoPart ρ st) st none := Ev.of
theorem ev_part {i : Int} (h : Ev (f ρ st) st (.int i)) : Ev (ePart f ρ st) st (some i) := h.bind fun s _ => Ev.of
theorem ev_sl {h : PrS} {l r : Sv → List O → RR (Option Int)} {a c : Option Int} (h1 : Ev (f ρ st) st x) (h2 : ∀ s, Gr st s → Ev (l ρ s) s a) (h3 : ∀ s, Gr st s → Ev (r ρ s) s c) (h4 : ∀ s, Gr st s → h s x a c = some d) : Ev (eSl h f l r ρ st) st d :=
  h1.bind fun s g => (h2 s g).bind fun s2 g2 => (h3 s2 (g.trans g2)).bind fun s3 g3 => Ev.mk (by rw [h4 s3 ((g.trans g2).trans g3)]; rfl)
/-- a comprehension: element by element; what is walked stands as it is -/
theorem ev_goCG {s0 : Src} {tg : GT} {F : D → D} {p : D → Bool} : ∀ (ds acc : List D) (st : List O), (∀ s, Gr st s → s0.gd s = true) → acc.length + ds.length ≤ sizeLine → (∀ d ∈ ds, ∃ ρ', asgT tg d ρ = some ρ' ∧ ∀ s, Gr st s → Ev (t ρ' s) s (p d) ∧ (p d = true → Ev (f ρ' s) s (F d))) → Ev (goC s0 tg t f ρ ds acc st) st (acc ++ (ds.filter p).map F)
  | [], acc, st, hn, _, _ => by
    unfold goC
    rw [if_pos (hn st Gr.refl)]
    simp only [List.filter_nil, List.map_nil, List.append_nil]
    exact Ev.of
  | d :: ds, acc, st, hn, hl, h => by
    obtain ⟨ρ', h1, h2⟩ := h d (by simp)
    simp only [List.length_cons] at hl
    unfold goC
    rw [if_pos (hn st Gr.refl), h1]
    obtain ⟨s1, e1, g1⟩ := (h2 st Gr.refl).1
    show Ev ((noExc (t ρ' st)).bind _) st _
    rw [e1]
    show Ev (if p d = true then _ else _) st _
    have h' : ∀ s, Gr st s → ∀ d ∈ ds, ∃ ρ', asgT tg d ρ = some ρ' ∧ ∀ s', Gr s s' → Ev (t ρ' s') s' (p d) ∧ (p d = true → Ev (f ρ' s') s' (F d)) := fun s g d hd => by
      obtain ⟨ρ2, a, b⟩ := h d (by simp [hd])
      exact ⟨ρ2, a, fun s' g' => b s' (g.trans g')⟩
    cases hp : p d with
    | false =>
      rw [if_neg (by decide), List.filter_cons_of_neg (by rw [hp]; decide)]
      exact (ev_goCG ds acc s1 (fun s g => hn s (g1.trans g)) (by omega) (h' s1 g1)).up g1
    | true =>
      rw [if_pos rfl, List.filter_cons_of_pos hp]
      obtain ⟨s2, e2, g2⟩ := (h2 s1 g1).2 hp
      show Ev ((noExc (f ρ' s1)).bind _) st _
      rw [e2]
      show Ev (if acc.length < sizeLine then goC s0 tg t f ρ ds (acc ++ [F d]) s2 else .err) st _
      rw [if_pos (by omega)]
      have := ev_goCG ds (acc ++ [F d]) s2 (fun s g => hn s ((g1.trans g2).trans g)) (by simp; omega) (h' s2 (g1.trans g2))
      simp only [List.append_assoc, List.singleton_append] at this
      exact this.up (g1.trans g2)
theorem ev_compG {sr : Sv → List O → RR Src} {s0 : Src} (hs : Ev (sr ρ st) st s0) (hn : ∀ s, Gr st s → s0.gd s = true) {tg : GT} {own : List Nat} {F : D → D} {p : D → Bool} (hl : s0.its.length ≤ sizeLine) (h : ∀ d ∈ s0.its, ∃ ρ', asgT tg d (wipeR ρ own) = some ρ' ∧ ∀ s, Gr st s → Ev (t ρ' s) s (p d) ∧ (p d = true → Ev (f ρ' s) s (F d))) : Ev (eComp sr tg t f own ρ st) st ((s0.its.filter p).map F) :=
  hs.bind fun s g => by
    have := ev_goCG (ρ := wipeR ρ own) (t := t) (f := f) (tg := tg) (F := F) (p := p) s0.its [] s (fun s' g' => hn s' (g.trans g')) (by simpa using hl) fun d hd => by
      obtain ⟨ρ2, a, b⟩ := h d hd
      exact ⟨ρ2, a, fun s' g' => b s' (g.trans g')⟩
    simpa using this
theorem gd_none {s0 : Src} (hn : s0.at' = none) (s : List O) : s0.gd s = true := by
  unfold Src.gd
  rw [hn]
theorem ev_comp {sr : Sv → List O → RR Src} {s0 : Src} (hs : Ev (sr ρ st) st s0) (hn : s0.at' = none) {tg : GT} {own : List Nat} {F : D → D} {p : D → Bool} (hl : s0.its.length ≤ sizeLine) (h : ∀ d ∈ s0.its, ∃ ρ', asgT tg d (wipeR ρ own) = some ρ' ∧ ∀ s, Gr st s → Ev (t ρ' s) s (p d) ∧ (p d = true → Ev (f ρ' s) s (F d))) : Ev (eComp sr tg t f own ρ st) st ((s0.its.filter p).map F) := ev_compG hs (fun s _ => gd_none hn s) hl h
/-- without a test -/
theorem ev_comp1 {sr : Sv → List O → RR Src} {s0 : Src} (hs : Ev (sr ρ st) st s0) (hn : s0.at' = none) {tg : GT} {own : List Nat} {F : D → D} (hl : s0.its.length ≤ sizeLine) (h : ∀ d ∈ s0.its, ∃ ρ', asgT tg d (wipeR ρ own) = some ρ' ∧ ∀ s, Gr st s → Ev (f ρ' s) s (F d)) : Ev (eComp sr tg tYesT f own ρ st) st (s0.its.map F) := by
  have := ev_comp (t := tYesT) (f := f) (tg := tg) (own := own) (F := F) (p := fun _ => true) hs hn hl fun d hd => by
    obtain ⟨ρ2, a, b⟩ := h d hd
    exact ⟨ρ2, a, fun s g => ⟨Ev.of, fun _ => b s g⟩⟩
  rw [List.filter_eq_self.mpr fun _ _ => rfl] at this
  exact this
theorem ev_all {fs' : Sv → List O → RR (List D)} (p : D → Bool) (h : Ev (fs' ρ st) st (xs.map fun x => .bl (p x))) : Ev (ePr (pr1 dAll) (eCons (eFrz fs') eNil) ρ st) st (.bl (xs.all p)) := by
  refine ev_pr (ev_cons (ev_frz h) fun s _ => ev_nil) fun s _ => ?_
  show (dAll s (.lst _)).map _ = _
  unfold dAll Tl.listOf
  show (((allBl (xs.map fun x => .bl (p x))).map fun bs => D.bl (bs.all id)).map fun d => (d, s)) = _
  rw [allBl_map, Option.map_some, all_map]
  rfl
/-! statements -/
def Nx (r : SR) (st : List O) (ρ : Sv) : Prop := ∃ s, r = .nx ρ s ∧ Gr st s
def Rt (r : SR) (st : List O) (d : D) : Prop := ∃ s, r = .rt d s ∧ Gr st s
theorem Nx.up {r : SR} {s : List O} (g : Gr st s) (h : Nx r s ρ) : Nx r st ρ := by
  obtain ⟨s', e, g'⟩ := h
  exact ⟨s', e, g.trans g'⟩
theorem Rt.up {r : SR} {s : List O} (g : Gr st s) (h : Rt r s d) : Rt r st d := by
  obtain ⟨s', e, g'⟩ := h
  exact ⟨s', e, g.trans g'⟩
theorem rt_ret (h : Ev (f ρ st) st d) : Rt (sRet f ρ st) st d := by
  obtain ⟨s, e, g⟩ := h
  refine ⟨s, ?_, g⟩
  unfold sRet
  rw [e]
  rfl
theorem nx_next : Nx (sNext ρ st) st ρ := ⟨st, rfl, Gr.refl⟩
theorem nx_drop (h : Ev (f ρ st) st d) : Nx (sDrop f ρ st) st ρ := by
  obtain ⟨s, e, g⟩ := h
  refine ⟨s, ?_, g⟩
  unfold sDrop
  rw [e]
  rfl
theorem nx_asg {tg : GT} {ρ' : Sv} (h : Ev (f ρ st) st d) (ha : asgT tg d ρ = some ρ') : Nx (sAsg f tg ρ st) st ρ' := by
  obtain ⟨s, e, g⟩ := h
  refine ⟨s, ?_, g⟩
  unfold sAsg
  rw [e]
  show (match asgT tg d ρ with
    | some ρ' => SR.nx ρ' s
    | none => .err) = _
  rw [ha]
theorem rt_seq {a c : Sm} {ρ' : Sv} (h1 : Nx (a ρ st) st ρ') (h2 : ∀ s, Gr st s → Rt (c ρ' s) s d) : Rt (sSeq a c ρ st) st d := by
  obtain ⟨s, e, g⟩ := h1
  unfold sSeq
  rw [e]
  exact (h2 s g).up g
theorem rt_seq1 {a c : Sm} (h1 : Rt (a ρ st) st d) : Rt (sSeq a c ρ st) st d := by
  obtain ⟨s, e, g⟩ := h1
  unfold sSeq
  rw [e]
  exact ⟨s, rfl, g⟩
theorem nx_seq {a c : Sm} {ρ' ρ2 : Sv} (h1 : Nx (a ρ st) st ρ') (h2 : ∀ s, Gr st s → Nx (c ρ' s) s ρ2) : Nx (sSeq a c ρ st) st ρ2 := by
  obtain ⟨s, e, g⟩ := h1
  unfold sSeq
  rw [e]
  exact (h2 s g).up g
theorem rt_if {a c : Sm} (h : Ev (t ρ st) st b) (h1 : b = true → ∀ s, Gr st s → Rt (a ρ s) s d) (h2 : b = false → ∀ s, Gr st s → Rt (c ρ s) s d) : Rt (sIf t a c ρ st) st d := by
  obtain ⟨s, e, g⟩ := h
  unfold sIf
  rw [e]
  cases b with
  | true => exact (h1 rfl s g).up g
  | false => exact (h2 rfl s g).up g
theorem nx_if {a c : Sm} {ρ' : Sv} (h : Ev (t ρ st) st b) (h1 : b = true → ∀ s, Gr st s → Nx (a ρ s) s ρ') (h2 : b = false → ∀ s, Gr st s → Nx (c ρ s) s ρ') : Nx (sIf t a c ρ st) st ρ' := by
  obtain ⟨s, e, g⟩ := h
  unfold sIf
  rw [e]
  cases b with
  | true => exact (h1 rfl s g).up g
  | false => exact (h2 rfl s g).up g
/-- if t: return x, else on -/
theorem rt_guard {a c : Sm} (h : Ev (t ρ st) st b) (h1 : b = true → ∀ s, Gr st s → Rt (a ρ s) s d) (h2 : b = false → ∀ s, Gr st s → Rt (c ρ s) s d) : Rt (sSeq (sIf t a sNext) c ρ st) st d := by
  cases b with
  | true => exact rt_seq1 (rt_if h h1 fun z => by cases z)
  | false => exact rt_seq (nx_if h (fun z => by cases z) fun _ s _ => nx_next) fun s g => h2 rfl s g
theorem ev_body {a : Sm} {n : Nat} {ds : List D} (h : Rt (a (ds.map some ++ List.replicate (n - ds.length) none) st) st d) : Ev (bodyOf a n ds st) st d := by
  obtain ⟨s, e, g⟩ := h
  refine ⟨s, ?_, g⟩
  unfold bodyOf
  rw [e]
theorem ev_bodyN {a : Sm} {n : Nat} {ds : List D} {ρ' : Sv} (h : Nx (a (ds.map some ++ List.replicate (n - ds.length) none) st) st ρ') : Ev (bodyOf a n ds st) st .non := by
  obtain ⟨s, e, g⟩ := h
  refine ⟨s, ?_, g⟩
  unfold bodyOf
  rw [e]
/-- for .. over what stays -/
theorem nx_goF {s0 : Src} (hn : s0.at' = none) {tg : GT} {a : Sm} (I : Nat → Sv → Prop) : ∀ (ds : List D) (i : Nat) (ρ : Sv) (st : List O), I i ρ → (∀ j d ρ, ds[j]? = some d → I (i + j) ρ → ∃ ρ1, asgT tg d ρ = some ρ1 ∧ ∀ s, Gr st s → ∃ ρ2, Nx (a ρ1 s) s ρ2 ∧ I (i + j + 1) ρ2) → ∃ ρ', Nx (goF s0 tg a ds ρ st) st ρ' ∧ I (i + ds.length) ρ'
  | [], i, ρ, st, h, _ => by
    have hg : s0.gd st = true := by
      unfold Src.gd
      rw [hn]
    refine ⟨ρ, ⟨st, ?_, Gr.refl⟩, by simpa using h⟩
    unfold goF
    rw [if_pos hg]
  | d :: ds, i, ρ, st, h, q => by
    have hg : s0.gd st = true := by
      unfold Src.gd
      rw [hn]
    obtain ⟨ρ1, h1, h2⟩ := q 0 d ρ (by simp) (by simpa using h)
    obtain ⟨ρ2, ⟨s1, e1, g1⟩, h3⟩ := h2 st Gr.refl
    obtain ⟨ρ', n', h4⟩ := nx_goF hn I ds (i + 1) ρ2 s1 (by simpa using h3) fun j d' ρ0 hd hI => by
      obtain ⟨ρ3, a3, b3⟩ := q (j + 1) d' ρ0 (by simpa using hd) (by rw [show i + (j + 1) = i + 1 + j by omega]; exact hI)
      refine ⟨ρ3, a3, fun s g => ?_⟩
      obtain ⟨ρ4, a4, b4⟩ := b3 s (g1.trans g)
      exact ⟨ρ4, a4, by rw [show i + 1 + j + 1 = i + (j + 1) + 1 by omega]; exact b4⟩
    refine ⟨ρ', ?_, by rw [List.length_cons, show i + (ds.length + 1) = i + 1 + ds.length by omega]; exact h4⟩
    unfold goF
    rw [if_pos hg, h1]
    show Nx (match a ρ1 st with
      | .nx ρ2 s2 => goF s0 tg a ds ρ2 s2
      | .ct ρ2 s2 => goF s0 tg a ds ρ2 s2
      | .bk ρ2 s2 => .nx ρ2 s2
      | r => r) st ρ'
    rw [e1]
    exact n'.up g1
end
end Tk
/-! P1: the program's words by data: names, scopes, letters. -/
namespace Tk
open PySem L2 Tl
def keptD : List D := [(.str "ahead"), (.str "all"), (.str "apart"), (.str "bare"), (.str "both"), (.str "dense"), (.str "down"), (.str "either"), (.str "finite"), (.str "first"), (.str "last"), (.str "next"), (.str "not"), (.str "one"), (.str "same"), (.str "scattered"), (.str "some"), (.str "sub"), (.str "well")]
theorem lay_kept : lay (.tup keptD) = true := by decide +kernel
theorem dep_kept : dep (.tup keptD) = 1 := by decide +kernel
/-- a text of few plain signs -/
def strA (x : Str) : Bool := decide (x.length ≤ 100000) && x.cps.all (· < 0x110000)
theorem strA_lay {x : Str} (h : strA x = true) : lay (.str x) = true := by
  unfold strA at h
  rw [Bool.and_eq_true] at h
  exact h.2
theorem strA_len {x : Str} (h : strA x = true) : x.length ≤ sizeLine := by
  unfold strA at h
  rw [Bool.and_eq_true, decide_eq_true_eq] at h
  rw [sizeLine_eq]
  omega
theorem dep_str (x : Str) : dep (.str x) = 0 := rfl
def aToZ : D → Bool
  | .str x => !decide (x.cps.toList < ("a" : Str).cps.toList) && !decide (("z" : Str).cps.toList < x.cps.toList)
  | _ => false
def isName : D → Bool
  | .str x => decide ((1 : Int) ≤ (x.length : Nat)) && decide (((x.length : Nat) : Int) ≤ 8) && !anyEq (.str x) keptD && (signs x).all aToZ
  | _ => false
theorem isName_str (x : Str) : isName (.str x) = (decide ((1 : Int) ≤ (x.length : Nat)) && decide (((x.length : Nat) : Int) ≤ 8) && !anyEq (.str x) keptD && (signs x).all aToZ) := rfl
theorem sgn_str {x : Str} {d : D} (h : d ∈ signs x) : ∃ y, d = .str y := by
  unfold signs at h
  obtain ⟨c, _, rfl⟩ := List.mem_map.mp h
  exact ⟨_, rfl⟩
theorem sgn_len (x : Str) : (signs x).length = x.length := by
  unfold signs
  rw [List.length_map, Array.length_toList]
  rfl
/-- texts at the top are plain -/
def top1 (d : D) : Prop := ∀ x, d = .str x → strA x = true
theorem in_kept {x : Str} (h : strA x = true) (s : List O) : pr2 (dIn false) s [.str x, .tup keptD] = some (.bl (anyEq (.str x) keptD), s) := by
  show (dIn false s (.str x) (.tup keptD)).map _ = _
  unfold dIn
  simp only
  rw [if_pos ⟨strA_lay h, lay_kept, by rw [dep_str]; omega⟩]
  rfl
theorem guard_str {ρ : Sv} {st : List O} {i : Nat} {d : D} {u : Sv → List O → RR Bool} (hv : ρ[i]? = some (some d)) (h : isStr d = false) : Ev (eOrT (eNot (eTru (eIsi "str" (eVar i)))) u ρ st) st true := by
  have := ev_or (u := u) (c := false) (ev_not (ev_truB (ev_isi (ρ := ρ) (st := st) (ev_var hv) fun s => kit_str s d))) fun z => by
    rw [h] at z
    cases z
  rw [h] at this
  exact this
theorem guard_tup {ρ : Sv} {st : List O} {i : Nat} {d : D} {u : Sv → List O → RR Bool} (hv : ρ[i]? = some (some d)) (h : isTup d = false) : Ev (eOrT (eNot (eTru (eIsi "tuple" (eVar i)))) u ρ st) st true := by
  have := ev_or (u := u) (c := false) (ev_not (ev_truB (ev_isi (ρ := ρ) (st := st) (ev_var hv) fun s => kit_tuple s d))) fun z => by
    rw [h] at z
    cases z
  rw [h] at this
  exact this
theorem c_is_name (n : Nat) (d : D) (st : List O) (hs : top1 d) : Ev (callN (n + 3) 0 [d] st) st (.bl (isName d)) := by
  show Ev (bodyOf (f_is_name (callN (n + 2))) 2 [d] st) st _
  cases hd : isStr d with
  | false =>
    have e : isName d = false := by cases d <;> first | rfl | cases hd
    rw [e]
    exact ev_body (rt_guard (guard_str rfl hd) (fun _ s _ => rt_ret ev_c) fun z => by cases z)
  | true =>
    cases d with
    | str x =>
      have hx := hs x rfl
      have len : ∀ (ρ : Sv) (st : List O), ρ[0]? = some (some (.str x)) → Ev (ePr (pr1 dLen) (eCons (eVar 0) eNil) ρ st) st (.int (x.length : Nat)) := fun ρ st h => ev_pr (ev_cons (ev_var h) fun _ _ => ev_nil) fun s _ => by
        show (dLen s (.str x)).map _ = _
        unfold dLen
        simp only
        rw [if_pos (strA_len hx)]
        rfl
      have test := ev_or (ev_not (ev_truB (ev_isi (ρ := [some (.str x), none]) (st := st) (T := "str") (ev_var (i := 0) rfl) fun s => kit_str s (.str x)))) fun _ s _ =>
        ev_or (ev_not (ev_is (ev_ch (h := pr2 dLe) (h' := pr2 dLe) (ρ := [some (.str x), none]) (st := s) (b := decide ((1 : Int) ≤ (x.length : Nat))) (c := decide (((x.length : Nat) : Int) ≤ 8)) (ev_c (d := .int 1)) (fun s2 _ => len _ s2 rfl) (fun s2 _ => rfl) (fun _ s2 _ => ev_c (d := .int 8)) fun _ s2 _ => rfl))) fun _ s2 _ =>
          ev_is (ev_bin (ev_var (i := 0) rfl) (fun s3 _ => ev_c (d := .tup keptD)) fun s3 _ => in_kept hx s3)
      refine ev_body (rt_guard test (fun hb s _ => ?_) fun hb s _ => rt_ret ?_)
      · have e : isName (.str x) = false := by
          simp only [isStr, Bool.not_true, Bool.false_or, Bool.or_eq_true, Bool.not_eq_true'] at hb
          rw [isName_str]
          rcases hb with hb | hb
          · rw [hb]
            rfl
          · rw [hb]
            simp
        rw [e]
        exact rt_ret ev_c
      · have hb2 : isName (.str x) = (signs x).all aToZ := by
          simp only [isStr, Bool.not_true, Bool.false_or, Bool.or_eq_false_iff, Bool.not_eq_false'] at hb
          rw [isName_str, hb.1, hb.2]
          rfl
        rw [hb2]
        refine ev_all aToZ (ev_comp1 (s0 := ⟨signs x, none⟩) (ev_src (ev_var rfl) fun _ _ => rfl) rfl (by rw [sgn_len]; exact strA_len hx) fun d hd => ?_)
        obtain ⟨y, rfl⟩ := sgn_str hd
        exact ⟨_, rfl, fun s2 _ => ev_ch (h := pr2 dLe) (h' := pr2 dLe) ev_c (fun s3 _ => ev_var rfl) (fun s3 _ => rfl) (fun _ s3 _ => ev_c) fun _ s3 _ => rfl⟩
    | _ => cases hd

/-! pairs side by side -/
def nexts : List D → List D
  | x :: y :: r => .tup [x, y] :: nexts (y :: r)
  | _ => []
theorem nexts_eq : ∀ ds : List D, pairs ds (ds.drop 1) = nexts ds
  | [] => rfl
  | [x] => rfl
  | x :: y :: r => by
    show D.tup [x, y] :: pairs (y :: r) ((y :: r).drop 1) = _
    rw [nexts_eq (y :: r)]
    rfl
theorem cut1 (ds : List D) : cut ds (some 1) none = ds.drop 1 := by
  unfold cut
  have e : HT.sIx ds.length 0 (some 1) = min 1 ds.length := HT.sIx_nat _ _ 1
  rw [e, HT.sIx_none]
  by_cases h : ds.length = 0
  · rw [List.eq_nil_of_length_eq_zero h]
    rfl
  · rw [show min 1 ds.length = 1 by omega]
    rw [List.take_of_length_le (by rw [List.length_drop]; omega)]
theorem nexts_len (ds : List D) : (nexts ds).length ≤ ds.length := by
  rw [← nexts_eq, pairs_len, List.length_drop]
  omega
theorem nexts_mem : ∀ {ds : List D} {d : D}, d ∈ nexts ds → ∃ x y, d = .tup [x, y] ∧ x ∈ ds ∧ y ∈ ds
  | [], d, h => by cases h
  | [x], d, h => by cases h
  | x :: y :: r, d, h => by
    rcases List.mem_cons.mp (show d ∈ D.tup [x, y] :: nexts (y :: r) from h) with z | z
    · exact ⟨x, y, z, by simp, by simp⟩
    · obtain ⟨a, b, e, ha, hb⟩ := nexts_mem z
      exact ⟨a, b, e, by simp [ha], by simp [hb]⟩
/-- x < y in a pair -/
def pairLt : D → Bool
  | .tup [x, y] => (ltD x y).getD false
  | _ => false
/-- what may be asked for <: laid, not deep, comparable -/
def ltOk (x y : D) : Prop := lay x = true ∧ lay y = true ∧ dep x ≤ 64 ∧ (ltD x y).isSome = true
theorem lt_ok {x y : D} (h : ltOk x y) (s : List O) : pr2 dLt s [x, y] = some (.bl ((ltD x y).getD false), s) := by
  obtain ⟨h1, h2, h3, h4⟩ := h
  obtain ⟨k, hk⟩ := Option.isSome_iff_exists.mp h4
  show (dLt s x y).map _ = _
  unfold dLt
  rw [if_pos ⟨h1, h2, h3⟩, hk]
  rfl
def risesD (ds : List D) : Bool := (nexts ds).all pairLt
/-- all([a < b for a, b in zip(t, t[1:])]) -/
theorem ev_rises {ρ : Sv} {st : List O} {i a b : Nat} {ds : List D} (hi : ρ[i]? = some (some (.tup ds))) (hl : ds.length ≤ sizeLine) (hab : a ≠ b) (ha : a < ρ.length) (hb : b < ρ.length) (hc : ∀ x ∈ ds, ∀ y ∈ ds, ltOk x y) :
    Ev (ePr (pr1 dAll) (eCons (eFrz (eComp (eZip (eCons (eVar i) (eCons (eSl dSl (eVar i) (ePart (eC (.int 1))) eNoPart) eNil))) (.tp [.nm a, .nm b]) tYesT (eBin (pr2 dLt) (eVar a) (eVar b)) [a, b])) eNil) ρ st) st (.bl (risesD ds)) := by
  refine ev_all pairLt (ev_comp1 (s0 := ⟨nexts ds, none⟩) ?_ rfl (Nat.le_trans (nexts_len ds) hl) fun d hd => ?_)
  · refine (ev_cons (ev_var hi) fun s _ => ev_cons (ev_sl (h := dSl) (d := .tup (ds.drop 1)) (ev_var hi) (fun s _ => ev_part ev_c) (fun s _ => ev_noPart) fun s _ => ?_) fun s _ => ev_nil).bind fun s _ => ?_
    · show some (D.tup (cut ds (some 1) none)) = _
      rw [cut1]
    · rw [show (⟨nexts ds, none⟩ : Src) = ⟨pairs ds (ds.drop 1), none⟩ by rw [nexts_eq]]
      exact Ev.of
  · obtain ⟨x, y, rfl, hx, hy⟩ := nexts_mem hd
    have wl : (wipeR ρ [a, b]).length = ρ.length := by
      unfold wipeR
      simp [wipeR]
    refine ⟨((wipeR ρ [a, b]).set a (some x)).set b (some y), rfl, fun s _ => ev_bin (x := x) (y := y) (ev_var ?_) (fun s _ => ev_var ?_) fun s _ => lt_ok (hc x hx y hy) s⟩
    · rw [List.getElem?_set_ne (Ne.symm hab), List.getElem?_set_self (by rw [wl]; exact ha)]
    · rw [List.getElem?_set_self (by rw [List.length_set, wl]; exact hb)]

/-- a tuple whose texts at the top are plain, not too long -/
def flat1 (ds : List D) : Prop := (∀ d ∈ ds, top1 d) ∧ ds.length ≤ 100000
theorem flat1_len {ds : List D} (h : flat1 ds) : ds.length ≤ sizeLine := by
  have := h.2
  rw [sizeLine_eq]
  omega
theorem name_str {d : D} (h : isName d = true) : ∃ x, d = .str x := by
  cases d <;> first | exact ⟨_, rfl⟩ | cases h
theorem lt_strs {x y : Str} (hx : strA x = true) (hy : strA y = true) : ltOk (.str x) (.str y) := ⟨strA_lay hx, strA_lay hy, by rw [dep_str]; omega, rfl⟩
theorem names_lt {ds : List D} (h : flat1 ds) (hn : ds.all isName = true) : ∀ x ∈ ds, ∀ y ∈ ds, ltOk x y := fun x hx y hy => by
  obtain ⟨a, rfl⟩ := name_str (List.all_eq_true.mp hn x hx)
  obtain ⟨b, rfl⟩ := name_str (List.all_eq_true.mp hn y hy)
  exact lt_strs (h.1 _ hx a rfl) (h.1 _ hy b rfl)
def areNames : D → Bool
  | .tup ds => ds.all isName && risesD ds
  | _ => false
theorem c_are_names (n : Nat) (d : D) (st : List O) (hs : ∀ ds, d = .tup ds → flat1 ds) : Ev (callN (n + 5) 1 [d] st) st (.bl (areNames d)) := by
  show Ev (bodyOf (f_are_names (callN (n + 4))) 4 [d] st) st _
  cases hd : isTup d with
  | false =>
    have e : areNames d = false := by cases d <;> first | rfl | cases hd
    rw [e]
    exact ev_body (rt_guard (guard_tup rfl hd) (fun _ s _ => rt_ret ev_c) fun z => by cases z)
  | true =>
    cases d with
    | tup ds =>
      have hf := hs ds rfl
      have test := ev_or (ev_not (ev_truB (ev_isi (ρ := [some (.tup ds), none, none, none]) (st := st) (T := "tuple") (ev_var (i := 0) rfl) fun s => kit_tuple s (.tup ds)))) fun _ s _ =>
        ev_not (ev_truB (ev_all (ρ := [some (.tup ds), none, none, none]) (st := s) isName (ev_comp1 (s0 := ⟨ds, none⟩) (tg := .nm 3) (own := [3]) (f := eCall (callN (n + 4) 0) 1 (eCons (eVar 3) eNil)) (ev_src (ev_var (i := 0) rfl) fun _ _ => rfl) rfl (flat1_len hf) fun d hd =>
          ⟨_, rfl, fun s2 _ => ev_call (ev_cons (ev_var rfl) fun _ _ => ev_nil) rfl fun s3 _ => c_is_name (n + 1) d s3 (hf.1 d hd)⟩)))
      refine ev_body (rt_guard test (fun hb s _ => ?_) fun hb s _ => rt_ret ?_)
      · have e : areNames (.tup ds) = false := by
          show (ds.all isName && risesD ds) = false
          simp only [isTup, Bool.not_true, Bool.false_or, Bool.not_eq_true'] at hb
          rw [hb]
          rfl
        rw [e]
        exact rt_ret ev_c
      · have hb2 : ds.all isName = true := by
          simpa [isTup] using hb
        have e : areNames (.tup ds) = risesD ds := by
          show (ds.all isName && risesD ds) = _
          rw [hb2]
          rfl
        rw [e]
        exact ev_rises (ρ := [some (.tup ds), none, none, none]) rfl (flat1_len hf) (by decide) (by simp) (by simp) (names_lt hf hb2)
    | _ => cases hd
def isScope : D → Bool
  | .tup ds => (ds.all isName && risesD ds) && decide (((ds.length : Nat) : Int) ≤ 3)
  | _ => false
theorem ev_lenT {ρ : Sv} {st : List O} {f : Sv → List O → RR D} {ds : List D} (h : Ev (f ρ st) st (.tup ds)) : Ev (ePr (pr1 dLen) (eCons f eNil) ρ st) st (.int (ds.length : Nat)) := ev_pr (ev_cons h fun _ _ => ev_nil) fun s _ => rfl
theorem c_is_scope (n : Nat) (d : D) (st : List O) (hs : ∀ ds, d = .tup ds → flat1 ds) : Ev (callN (n + 7) 2 [d] st) st (.bl (isScope d)) := by
  show Ev (bodyOf (f_is_scope (callN (n + 6))) 1 [d] st) st _
  have e : isScope d = (areNames d && (match d with | .tup ds => decide (((ds.length : Nat) : Int) ≤ 3) | _ => false)) := by cases d <;> rfl
  rw [e]
  refine ev_body (rt_ret (ev_andV (ev_call (ev_cons (ev_var rfl) fun _ _ => ev_nil) rfl fun s _ => c_are_names (n + 1) d s hs) fun h s _ => ?_))
  cases d with
  | tup ds => exact ev_bin (ev_lenT (ev_var rfl)) (fun s _ => ev_c) fun s _ => rfl
  | _ => cases h
/-- a raise -/
def Ex {α : Type} (r : RR α) (st : List O) (c : Str) : Prop := ∃ s, r = .exc c s ∧ Gr st s
theorem c_need_ok (n : Nat) (d : D) (st : List O) (hs : ∀ ds, d = .tup ds → flat1 ds) (h : isScope d = true) : Ev (callN (n + 9) 3 [d] st) st .non := by
  show Ev (bodyOf (f_need_scope (callN (n + 8))) 1 [d] st) st _
  refine ev_bodyN (ρ' := [some d]) (nx_if (ev_not (ev_truB (ev_call (ev_cons (ev_var rfl) fun _ _ => ev_nil) rfl fun s _ => c_is_scope (n + 1) d s hs))) (fun z => ?_) fun _ s _ => nx_next)
  rw [h] at z
  cases z
theorem c_need_no (n : Nat) (d : D) (st : List O) (hs : ∀ ds, d = .tup ds → flat1 ds) (h : isScope d = false) : Ex (callN (n + 9) 3 [d] st) st "BadScope" := by
  show Ex (bodyOf (f_need_scope (callN (n + 8))) 1 [d] st) st _
  obtain ⟨s, e, g⟩ := ev_not (ev_truB (ev_call (ρ := [some d]) (st := st) (F := callN (n + 8) 2) (n := 1) (ev_cons (ev_var (i := 0) rfl) fun _ _ => ev_nil) rfl fun s _ => c_is_scope (n + 1) d s hs))
  refine ⟨s, ?_, g⟩
  unfold bodyOf f_need_scope sIf
  show (match onE (eNot (eTru (eCall (callN (n + 8) 2) 1 (eCons (eVar 0) eNil))) [some d] st) [some d] _ with
    | .nx _ s => RR.ok D.non s
    | .rt d s => .ok d s
    | .exc c _ s => .exc c s
    | _ => .err) = _
  rw [e, h]
  rfl
end Tk
/-! P2: letters, heads of weaves. -/
namespace Tk
open PySem L2 Tl
def addT (name : D) : D → D
  | .tup l => .tup (l ++ [name])
  | d => d
def stepL (found : List D) (name : D) : List D := found ++ found.map (addT name)
def lettersD (ds : List D) : List D := ds.foldl stepL [.tup []]
theorem snoc_ind {P : List D → Prop} (h0 : P []) (h1 : ∀ ds d, P ds → P (ds ++ [d])) (ds : List D) : P ds := by
  have : ∀ n (ds : List D), ds.length = n → P ds := by
    intro n
    induction n with
    | zero =>
      intro ds h
      rw [List.eq_nil_of_length_eq_zero h]
      exact h0
    | succ n ih =>
      intro ds h
      have hne : ds ≠ [] := fun z => by rw [z] at h; cases h
      rw [← List.dropLast_concat_getLast hne]
      exact h1 _ _ (ih _ (by rw [List.length_dropLast]; omega))
  exact this ds.length ds rfl
theorem letters_snoc (ds : List D) (d : D) : lettersD (ds ++ [d]) = stepL (lettersD ds) d := by
  unfold lettersD
  rw [List.foldl_append]
  rfl
theorem letters_len : ∀ (ds : List D), (lettersD ds).length = 2 ^ ds.length := by
  intro ds
  induction ds using snoc_ind with
  | h0 => rfl
  | h1 ds d ih =>
    rw [letters_snoc]
    unfold stepL
    rw [List.length_append, List.length_map, ih, List.length_append]
    simp only [List.length_cons, List.length_nil]
    rw [Nat.pow_succ]
    omega
theorem letters_tup (ds : List D) : ∀ d ∈ lettersD ds, ∃ l, d = .tup l ∧ l.length ≤ ds.length ∧ ∀ x ∈ l, x ∈ ds := by
  induction ds using snoc_ind with
  | h0 =>
    intro d hd
    have : d = .tup [] := by simpa [lettersD] using hd
    exact ⟨[], this, Nat.le_refl _, fun x h => by cases h⟩
  | h1 ds d ih =>
    intro e he
    rw [letters_snoc] at he
    unfold stepL at he
    rw [List.length_append]
    rcases List.mem_append.mp he with z | z
    · obtain ⟨l, h1, h2, h3⟩ := ih e z
      exact ⟨l, h1, by omega, fun x hx => List.mem_append.mpr (.inl (h3 x hx))⟩
    · obtain ⟨f, hf, rfl⟩ := List.mem_map.mp z
      obtain ⟨l, rfl, h2, h3⟩ := ih f hf
      refine ⟨l ++ [d], rfl, by simp; omega, fun x hx => ?_⟩
      rcases List.mem_append.mp hx with y | y
      · exact List.mem_append.mpr (.inl (h3 x y))
      · exact List.mem_append.mpr (.inr y)
/-- found = [()] / for name in scope: .. / return found -/
theorem letters_body {st : List O} {ds : List D} (hl : ds.length ≤ 10) : Rt ((sSeq (sAsg (eFrz (eLim (eCons (eTup (eNil)) (eNil)))) (GT.nm 1)) (sSeq (sFor (eSrc (eVar 0)) (GT.nm 2) (sAsg (eBin (pr2 dAdd) (eVar 1) (eFrz (eComp (eSrc (eVar 1)) (GT.nm 3) (tYesT) (eBin (pr2 dAdd) (eVar 3) (eTup (eCons (eVar 2) (eNil)))) [3]))) (GT.nm 1))) (sRet (eVar 1)))) [some (.tup ds), none, none, none] st) st (.lst (lettersD ds)) := by
  refine rt_seq (ρ' := [some (.tup ds), some (.lst [.tup []]), none, none]) (nx_asg (d := .lst [.tup []]) (ev_frz (ev_lim (ev_cons (ev_tup ev_nil (Nat.zero_le _)) fun s _ => ev_nil) (by rw [sizeLine_eq]; decide))) rfl) fun s _ => ?_
  have small : ∀ i, i ≤ ds.length → (lettersD (ds.take i)).length ≤ 1024 := fun i hi => by
    rw [letters_len, List.length_take]
    have h1 : min i ds.length ≤ 10 := by omega
    calc 2 ^ (min i ds.length) ≤ 2 ^ 10 := Nat.pow_le_pow_right (by decide) h1
      _ = 1024 := by decide
  have loop : ∀ s : List O, ∃ ρ', Nx (sFor (eSrc (eVar 0)) (GT.nm 2) (sAsg (eBin (pr2 dAdd) (eVar 1) (eFrz (eComp (eSrc (eVar 1)) (GT.nm 3) (tYesT) (eBin (pr2 dAdd) (eVar 3) (eTup (eCons (eVar 2) (eNil)))) [3]))) (GT.nm 1)) [some (.tup ds), some (.lst [.tup []]), none, none] s) s ρ' ∧ ρ'[1]? = some (some (.lst (lettersD ds))) := fun s => by
    obtain ⟨ρ', h1, h2⟩ := nx_goF (s0 := ⟨ds, none⟩) rfl (tg := .nm 2) (a := sAsg (eBin (pr2 dAdd) (eVar 1) (eFrz (eComp (eSrc (eVar 1)) (GT.nm 3) (tYesT) (eBin (pr2 dAdd) (eVar 3) (eTup (eCons (eVar 2) (eNil)))) [3]))) (GT.nm 1)) (fun i ρ => ∃ a b, ρ = [some (.tup ds), some (.lst (lettersD (ds.take i))), a, b]) ds 0 [some (.tup ds), some (.lst [.tup []]), none, none] s ⟨none, none, rfl⟩ fun j d ρ hd ⟨a, b, e⟩ => by
      subst e
      rw [Nat.zero_add] at *
      have hj : j < ds.length := (List.getElem?_eq_some_iff.mp hd).1
      have hsm := small j (by omega)
      have tk : ds.take (j + 1) = ds.take j ++ [d] := by rw [List.take_add_one, hd]; rfl
      refine ⟨_, rfl, fun s _ => ⟨[some (.tup ds), some (.lst (lettersD (ds.take (j + 1)))), some d, b], nx_asg (d := .lst (lettersD (ds.take (j + 1)))) ?_ rfl, some d, b, rfl⟩⟩
      refine ev_bin (x := .lst (lettersD (ds.take j))) (y := .lst ((lettersD (ds.take j)).map (addT d))) (ev_var rfl) (fun s _ => ev_frz (ev_comp1 (s0 := ⟨lettersD (ds.take j), none⟩) (ev_src (ev_var rfl) fun _ _ => rfl) rfl (by show (lettersD (ds.take j)).length ≤ sizeLine; rw [sizeLine_eq]; omega) fun e he => ?_)) fun s _ => ?_
      · obtain ⟨l, rfl, hl2, _⟩ := letters_tup _ e he
        rw [List.length_take] at hl2
        refine ⟨_, rfl, fun s _ => ev_bin (x := .tup l) (y := .tup [d]) (ev_var rfl) (fun s _ => ev_tup (ev_cons (ev_var rfl) fun _ _ => ev_nil) (by rw [sizeLine_eq]; simp)) fun s _ => ?_⟩
        show (dAdd s (.tup l) (.tup [d])).map _ = _
        unfold dAdd
        simp only
        rw [if_pos (by rw [sizeLine_eq]; simp; omega)]
        rfl
      · show (dAdd s (.lst (lettersD (ds.take j))) (.lst ((lettersD (ds.take j)).map (addT d)))).map _ = _
        unfold dAdd Tl.listOf
        simp only
        rw [if_pos (by rw [sizeLine_eq, List.length_map]; omega), tk, letters_snoc]
        rfl
    obtain ⟨a, b, e⟩ := h2
    refine ⟨ρ', ?_, by rw [e, Nat.zero_add, List.take_of_length_le (Nat.le_refl _)]; rfl⟩
    unfold sFor
    exact h1
  obtain ⟨ρ', h1, h2⟩ := loop s
  exact rt_seq h1 fun s _ => rt_ret (ev_var h2)
theorem c_letters_of (n : Nat) (ds : List D) (st : List O) (hl : ds.length ≤ 10) : Ev (callN (n + 3) 4 [.tup ds] st) st (.lst (lettersD ds)) := by
  show Ev (bodyOf (f_letters_of (callN (n + 2))) 4 [.tup ds] st) st _
  exact ev_body (letters_body hl)
theorem c_law_letters (n : Nat) (ds : List D) (st : List O) (hl : ds.length ≤ 10) : Ev (callN (n + 3) 20 [.tup ds] st) st (.lst (lettersD ds)) := by
  show Ev (bodyOf (f__law_letters (callN (n + 2))) 4 [.tup ds] st) st _
  exact ev_body (letters_body hl)
theorem scope_len {ds : List D} (h : isScope (.tup ds) = true) : ds.length ≤ 3 := by
  have h' : ((ds.all isName && risesD ds) && decide (((ds.length : Nat) : Int) ≤ 3)) = true := h
  rw [Bool.and_eq_true, decide_eq_true_eq] at h'
  omega
theorem c_letters (n : Nat) (ds : List D) (st : List O) (hf : flat1 ds) (h : isScope (.tup ds) = true) : Ev (callN (n + 11) 5 [.tup ds] st) st (.tup (lettersD ds)) := by
  show Ev (bodyOf (f_letters (callN (n + 10))) 1 [.tup ds] st) st _
  refine ev_body (rt_seq (nx_drop (ev_call (ev_cons (ev_var rfl) fun _ _ => ev_nil) rfl fun s _ => c_need_ok (n + 1) _ s (fun es e => by cases e; exact hf) h)) fun s _ => rt_ret (ev_pr (ev_cons (ev_call (ev_cons (ev_var rfl) fun _ _ => ev_nil) rfl fun s _ => c_letters_of (n + 7) ds s (by have := scope_len h; omega)) fun _ _ => ev_nil) fun s _ => rfl))
theorem Ex.drop {ρ : Sv} {st : List O} {F : List D → List O → RR D} {m : Nat} {fs : Sv → List O → RR (List D)} {xs : List D} {c : Str} {k : Sm} {n : Nat} {ds : List D} (e : ρ = ds.map some ++ List.replicate (n - ds.length) none) (h : Ev (fs ρ st) st xs) (hl : xs.length = m) (h2 : ∀ s, Gr st s → Ex (F xs s) s c) : Ex (bodyOf (sSeq (sDrop (eCall F m fs)) k) n ds st) st c := by
  subst e
  obtain ⟨s, e1, g1⟩ := h
  obtain ⟨s2, e2, g2⟩ := h2 s g1
  refine ⟨s2, ?_, g1.trans g2⟩
  have e3 : eCall F m fs (ds.map some ++ List.replicate (n - ds.length) none) st = .exc c s2 := by
    unfold eCall
    rw [e1, bind_ok, if_pos hl, e2]
  unfold bodyOf sSeq sDrop
  rw [e3]
  rfl
theorem c_letters_no (n : Nat) (d : D) (st : List O) (hs : ∀ ds, d = .tup ds → flat1 ds) (h : isScope d = false) : Ex (callN (n + 11) 5 [d] st) st "BadScope" := by
  show Ex (bodyOf (f_letters (callN (n + 10))) 1 [d] st) st _
  exact Ex.drop rfl (ev_cons (ev_var rfl) fun _ _ => ev_nil) rfl fun s _ => c_need_no (n + 1) d s hs h
/-! ### is_letter -/
def inScope (sc : List D) (d : D) : Bool := anyEq d sc
def isLetter (sc : List D) : D → Bool
  | .tup ds => areNames (.tup ds) && ds.all (inScope sc)
  | _ => false
theorem in_scope {sc : List D} {x : Str} (hx : strA x = true) (hs : lay (.tup sc) = true) (s : List O) : pr2 (dIn false) s [.str x, .tup sc] = some (.bl (inScope sc (.str x)), s) := by
  show (dIn false s (.str x) (.tup sc)).map _ = _
  unfold dIn
  simp only
  rw [if_pos ⟨strA_lay hx, hs, by rw [dep_str]; omega⟩]
  rfl
theorem c_is_letter (n : Nat) (sc : List D) (d : D) (st : List O) (hs : ∀ ds, d = .tup ds → flat1 ds) (hl : lay (.tup sc) = true) : Ev (callN (n + 7) 6 [.tup sc, d] st) st (.bl (isLetter sc d)) := by
  show Ev (bodyOf (f_is_letter (callN (n + 6))) 3 [.tup sc, d] st) st _
  have e : isLetter sc d = (areNames d && (match d with | .tup ds => ds.all (inScope sc) | _ => false)) := by cases d <;> rfl
  rw [e]
  refine ev_body (rt_ret (ev_andV (ev_call (ev_cons (ev_var rfl) fun _ _ => ev_nil) rfl fun s _ => c_are_names (n + 1) d s hs) fun h s _ => ?_))
  cases d with
  | tup ds =>
    have hn : ds.all isName = true := by
      have h' : (ds.all isName && risesD ds) = true := h
      rw [Bool.and_eq_true] at h'
      exact h'.1
    refine ev_all (inScope sc) (ev_comp1 (s0 := ⟨ds, none⟩) (ev_src (ev_var rfl) fun _ _ => rfl) rfl (flat1_len (hs ds rfl)) fun e he => ?_)
    obtain ⟨x, rfl⟩ := name_str (List.all_eq_true.mp hn e he)
    exact ⟨_, rfl, fun s _ => ev_bin (ev_var rfl) (fun s _ => ev_var rfl) fun s _ => in_scope ((hs ds rfl).1 _ he x rfl) hl s⟩
  | _ => cases h
end Tk
/-! P3: heads, inner, rises. -/
namespace Tk
open PySem L2 Tl
def sizesK : List (Key × D) := [(.inr "none", .int 1), (.inr "letter", .int 2), (.inr "then", .int 3), (.inr "on", .int 2), (.inr "back", .int 2), (.inr "mix", .int 2)]
def sizesE : List ((Sv → List O → RR D) × (Sv → List O → RR D)) := [(eC (.str "none"), eC (.int 1)), (eC (.str "letter"), eC (.int 2)), (eC (.str "then"), eC (.int 3)), (eC (.str "on"), eC (.int 2)), (eC (.str "back"), eC (.int 2)), (eC (.str "mix"), eC (.int 2))]
theorem merge_sizes : mergeD [] sizesK = sizesK := by rfl
theorem ev_sizes (ρ : Sv) (st : List O) : eDict sizesE ρ st = .ok (.loc st.length) (st ++ [.dic sizesK]) := by
  have e : ePairs sizesE ρ (st ++ [.dic []]) = .ok sizesK (st ++ [.dic []]) := rfl
  unfold eDict
  rw [e, bind_ok]
  have g : (st ++ [O.dic []])[st.length]? = some (.dic []) := by simp
  rw [if_pos ⟨by decide, by rw [g]; rfl⟩, merge_sizes]
  congr 1
  rw [List.set_append_right _ _ (Nat.le_refl _), Nat.sub_self]
  rfl
theorem sizes_at {st s : List O} (g : Gr (st ++ [.dic sizesK]) s) : s[st.length]? = some (.dic sizesK) := g.get (by simp)
theorem in_sizes {st s : List O} (g : Gr (st ++ [.dic sizesK]) s) (t : Str) : pr2 (dIn true) s [.str t, .loc st.length] = some (.bl (!(lookD sizesK (.inr t)).isSome), s) := by
  show (dIn true s (.str t) (.loc st.length)).map _ = _
  unfold dIn Tl.listOf
  simp only [sizes_at g, dKey]
  rfl
theorem ix_sizes {st s : List O} (g : Gr (st ++ [.dic sizesK]) s) {t : Str} {d : D} (h : lookD sizesK (.inr t) = some d) : pr2 dIx s [.loc st.length, .str t] = some (d, s) := by
  show (dIx s (.loc st.length) (.str t)).map _ = _
  unfold dIx
  simp only [sizes_at g, dKey, h]
  rfl
def sizeT (t : Str) : Option Int := match lookD sizesK (.inr t) with
  | some (.int k) => some k
  | _ => none
theorem size_cases {t : Str} (h : (lookD sizesK (.inr t)).isSome = true) : ∃ k : Int, lookD sizesK (.inr t) = some (.int k) := by
  obtain ⟨d, hd⟩ := Option.isSome_iff_exists.mp h
  unfold lookD at hd
  obtain ⟨p, hp, rfl⟩ := Option.map_eq_some_iff.mp hd
  have hm := List.mem_of_find?_eq_some hp
  have : ∃ k : Int, p.2 = .int k := by
    simp only [sizesK, List.mem_cons, List.not_mem_nil, or_false] at hm
    rcases hm with rfl | rfl | rfl | rfl | rfl | rfl <;> exact ⟨_, rfl⟩
  obtain ⟨k, hk⟩ := this
  exact ⟨k, by unfold lookD; rw [hp, Option.map_some, hk]⟩
theorem pr2_eq (h : P2) (s : List O) (x y : D) : pr2 h s [x, y] = (h s x y).map fun d => (d, s) := rfl
/-- a statement whose outcome is known -/
theorem rt_seqX {ρ ρ' : Sv} {st s : List O} {d : D} {a c : Sm} (e : a ρ st = .nx ρ' s) (g : Gr st s) (h : Rt (c ρ' s) s d) : Rt (sSeq a c ρ st) st d := by
  unfold sSeq
  rw [e]
  exact h.up g
theorem ne_str {a b : Str} (ha : strA a = true) (hb : strA b = true) (s : List O) : pr2 (dEq true) s [.str a, .str b] = some (.bl (!decide (a = b)), s) := by
  show (dEq true s (.str a) (.str b)).map _ = _
  unfold dEq noneIn
  simp only
  rw [if_pos ⟨strA_lay ha, strA_lay hb, by show min 0 0 ≤ 64; decide⟩]
  have : peq (.str a) (.str b) = decide (a = b) := by
    show (a == b) = decide (a = b)
    by_cases h : a = b
    · rw [h]; simp
    · rw [decide_eq_false h]; simpa using h
  simp only [deref, this]
  rfl
theorem eq_str {a b : Str} (ha : strA a = true) (hb : strA b = true) (s : List O) : pr2 (dEq false) s [.str a, .str b] = some (.bl (decide (a = b)), s) := by
  show (dEq false s (.str a) (.str b)).map _ = _
  unfold dEq noneIn
  simp only
  rw [if_pos ⟨strA_lay ha, strA_lay hb, by show min 0 0 ≤ 64; decide⟩]
  have : peq (.str a) (.str b) = decide (a = b) := by
    show (a == b) = decide (a = b)
    by_cases h : a = b
    · rw [h]; simp
    · rw [decide_eq_false h]; simpa using h
  simp only [deref, this]
  rfl
theorem ne_int (a b : Int) (s : List O) : pr2 (dEq true) s [.int a, .int b] = some (.bl (!decide (a = b)), s) := by
  rw [pr2_eq]
  unfold dEq noneIn
  simp only
  rw [if_pos ⟨rfl, rfl, by show min 0 0 ≤ 64; decide⟩]
  have : peq (.int a) (.int b) = decide (a = b) := by
    show (a == b) = decide (a = b)
    by_cases h : a = b
    · rw [h]; simp
    · rw [decide_eq_false h]; simpa using h
  simp only [deref, this]
  rfl
theorem eq_nil (ds : List D) (s : List O) : pr2 (dEq false) s [.tup ds, .tup []] = some (.bl ds.isEmpty, s) := by
  rw [pr2_eq]
  cases ds <;> rfl
theorem ne_nil (ds : List D) (s : List O) : pr2 (dEq true) s [.tup ds, .tup []] = some (.bl (!ds.isEmpty), s) := by
  rw [pr2_eq]
  cases ds <;> rfl
theorem ix0 (x : D) (r : List D) (s : List O) : pr2 dIx s [.tup (x :: r), .int 0] = some (x, s) := by
  show (dIx s (.tup (x :: r)) (.int 0)).map _ = _
  unfold dIx
  simp only
  have : atI (x :: r) 0 = some x := by
    unfold atI ixN
    simp
  rw [this]
  rfl
theorem ix1 (x y : D) (r : List D) (s : List O) : pr2 dIx s [.tup (x :: y :: r), .int 1] = some (y, s) := by
  show (dIx s (.tup (x :: y :: r)) (.int 1)).map _ = _
  unfold dIx
  simp only
  have : atI (x :: y :: r) 1 = some y := by
    unfold atI ixN
    rw [if_pos (by decide), if_pos (by simp only [List.length_cons]; omega)]
    rfl
  rw [this]
  rfl
/-- the mix holds a tuple, not empty -/
def mixOk : List D → Bool
  | .tup (_ :: _) :: _ => true
  | _ => false
def headsD : D → Bool
  | .tup (.str t :: r) => (match sizeT t with
    | none => false
    | some k => decide (((r.length : Nat) : Int) + 1 = k)) && (!decide (t = "mix") || mixOk r)
  | _ => false
theorem strA_mix : strA "mix" = true := by decide +kernel
theorem size_mix : sizeT "mix" = some 2 := by decide +kernel
theorem c_heads (n : Nat) (d : D) (st : List O) (hs : ∀ ds, d = .tup ds → flat1 ds) : Ev (callN (n + 3) 8 [d] st) st (.bl (headsD d)) := by
  show Ev (bodyOf (f_heads (callN (n + 2))) 2 [d] st) st _
  cases hd : isTup d with
  | false =>
    have e : headsD d = false := by cases d <;> first | rfl | cases hd
    rw [e]
    exact ev_body (rt_guard (guard_tup rfl hd) (fun _ s _ => rt_ret ev_c) fun z => by cases z)
  | true =>
    cases d with
    | tup ds =>
      have hf := hs ds rfl
      have test := fun (hh : D) (q : ds = [] ∨ ∃ r, ds = hh :: r) => ev_or (ev_not (ev_truB (ev_isi (ρ := [some (.tup ds), none]) (st := st) (T := "tuple") (ev_var (i := 0) rfl) fun s => kit_tuple s (.tup ds)))) fun _ s _ =>
        ev_or (ρ := [some (.tup ds), none]) (st := s) (c := !isStr hh) (ev_is (ev_bin (ev_var (i := 0) rfl) (fun s _ => ev_tup ev_nil (Nat.zero_le _)) fun s _ => eq_nil ds s)) fun he s _ => ev_not (ev_truB (ev_isi (T := "str") (ev_bin (ev_var (i := 0) rfl) (fun s _ => ev_c (d := .int 0)) fun s _ => by
          rcases q with q | ⟨r, q⟩
          · subst q
            cases he
          · subst q
            exact ix0 hh r s) fun s => kit_str s hh))
      cases ds with
      | nil => exact ev_body (rt_guard (test .non (.inl rfl)) (fun _ s _ => rt_ret ev_c) fun z => by cases z)
      | cons x r =>
        have test := test x (.inr ⟨r, rfl⟩)
        cases hx : isStr x with
        | false =>
          rw [hx] at test
          have e : headsD (.tup (x :: r)) = false := by cases x <;> first | rfl | cases hx
          rw [e]
          exact ev_body (rt_guard test (fun _ s _ => rt_ret ev_c) fun z => by cases z)
        | true =>
          rw [hx] at test
          cases x with
          | str t =>
            have ht := hf.1 (.str t) (by simp) t rfl
            refine ev_body (rt_guard test (fun z => by cases z) fun _ s _ => ?_)
            refine rt_seqX (ρ' := [some (.tup (.str t :: r)), some (.loc s.length)]) (s := s ++ [.dic sizesK]) ?_ (Gr.one _) ?_
            · unfold sAsg
              show onE (eDict sizesE _ s) _ _ = _
              rw [ev_sizes]
              rfl
            · have head : ∀ (s2 : List O), Ev (eBin (pr2 dIx) (eVar 0) (eC (.int 0)) [some (.tup (.str t :: r)), some (.loc s.length)] s2) s2 (.str t) := fun s2 => ev_bin (ev_var rfl) (fun s _ => ev_c) fun s _ => ix0 _ _ s
              cases hk : (lookD sizesK (.inr t)).isSome with
              | false =>
                have e : headsD (.tup (.str t :: r)) = false := by
                  have hn : lookD sizesK (.inr t) = none := by simpa using hk
                  have h2 : sizeT t = none := by
                    unfold sizeT
                    rw [hn]
                  show ((match sizeT t with
                    | none => false
                    | some k => decide (((r.length : Nat) : Int) + 1 = k)) && _) = false
                  rw [h2]
                  rfl
                rw [e]
                refine rt_guard (b := true) ?_ (fun _ s _ => rt_ret ev_c) fun z => by cases z
                have := ev_or (ρ := [some (.tup (.str t :: r)), some (.loc s.length)]) (st := s ++ [.dic sizesK]) (u := eIs (eBin (pr2 (dEq true)) (ePr (pr1 dLen) (eCons (eVar 0) eNil)) (eBin (pr2 dIx) (eVar 1) (eBin (pr2 dIx) (eVar 0) (eC (.int 0)))))) (c := false) (ev_is (ev_bin (head _) (fun s2 _ => ev_var (i := 1) rfl) fun s2 g2 => in_sizes g2 t)) fun z => by
                  rw [hk] at z
                  cases z
                rw [hk] at this
                exact this
              | true =>
                obtain ⟨k, hk2⟩ := size_cases hk
                have hsz : sizeT t = some k := by
                  unfold sizeT
                  rw [hk2]
                have t1 := ev_or (ρ := [some (.tup (.str t :: r)), some (.loc s.length)]) (st := s ++ [.dic sizesK]) (ev_is (ev_bin (head _) (fun s2 _ => ev_var (i := 1) rfl) fun s2 g2 => in_sizes g2 t)) fun _ s2 g2 =>
                  ev_is (ev_bin (ev_lenT (ev_var (i := 0) (d := .tup (.str t :: r)) rfl)) (fun s3 g3 => ev_bin (ev_var (i := 1) (d := .loc s.length) rfl) (fun s4 _ => head s4) fun s4 g4 => ix_sizes ((g2.trans g3).trans g4) hk2) fun s3 _ => ne_int _ k s3)
                rw [hk] at t1
                have e : headsD (.tup (.str t :: r)) = (decide (((r.length : Nat) : Int) + 1 = k) && (!decide (t = "mix") || mixOk r)) := by
                  show ((match sizeT t with
                    | none => false
                    | some k => decide (((r.length : Nat) : Int) + 1 = k)) && _) = _
                  rw [hsz]
                have hlen : (((D.str t :: r).length : Nat) : Int) = ((r.length : Nat) : Int) + 1 := by simp
                rw [hlen] at t1
                rw [e]
                refine rt_guard t1 (fun hb s2 _ => ?_) fun hb s2 g2 => rt_ret ?_
                · have : decide (((r.length : Nat) : Int) + 1 = k) = false := by simpa using hb
                  rw [this]
                  exact rt_ret ev_c
                · have hkk : decide (((r.length : Nat) : Int) + 1 = k) = true := by simpa using hb
                  rw [hkk, Bool.true_and]
                  refine ev_orV (ev_bin (head _) (fun s3 _ => ev_c) fun s3 _ => ne_str ht strA_mix s3) fun hm s3 _ => ?_
                  have hm2 : t = "mix" := by simpa using hm
                  -- two places
                  rw [hm2, size_mix] at hsz
                  have hk3 : k = 2 := (Option.some.inj hsz).symm
                  have hr : r.length = 1 := by
                    have := of_decide_eq_true hkk
                    omega
                  obtain ⟨y, rfl⟩ : ∃ y, r = [y] := by
                    cases r with
                    | nil => cases hr
                    | cons y r =>
                      have : r = [] := List.eq_nil_of_length_eq_zero (by simpa using hr)
                      exact ⟨y, by rw [this]⟩
                  have snd : ∀ (s2 : List O), Ev (eBin (pr2 dIx) (eVar 0) (eC (.int 1)) [some (.tup [.str t, y]), some (.loc s.length)] s2) s2 y := fun s2 => ev_bin (ev_var rfl) (fun s _ => ev_c) fun s _ => ix1 _ _ _ s
                  have em : mixOk [y] = (isTup y && (match y with | .tup es => !es.isEmpty | _ => false)) := by
                    cases y with
                    | tup es => cases es <;> rfl
                    | _ => rfl
                  rw [em]
                  refine ev_andV (ev_isi (snd s3) fun s => kit_tuple s y) fun hy s4 _ => ?_
                  cases y with
                  | tup es => exact ev_bin (snd s4) (fun s _ => ev_tup ev_nil (Nat.zero_le _)) fun s _ => ne_nil es s
                  | _ => cases hy
          | _ => cases hx
    | _ => cases hd
end Tk
/-! P4: inner, is_weave_of. -/
namespace Tk
open PySem L2 Tl
def tagD : D → Str
  | .tup (.str t :: _) => t
  | _ => ""
def secD : D → D
  | .tup (_ :: y :: _) => y
  | _ => .non
def innerD : D → List D
  | .tup (.str t :: r) => if t = "mix" then (match r with
      | .tup es :: _ => es
      | _ => []) else if t = "none" ∨ t = "letter" then [] else r
  | _ => []
inductive Good : D → Prop where
  | tup {ds : List D} (h : flat1 ds) (k : ∀ d ∈ ds, Good d) : Good (.tup ds)
  | atom {d : D} (h : isTup d = false) (k : top1 d) : Good d
theorem Good.flat {d : D} (h : Good d) : ∀ ds, d = .tup ds → flat1 ds := fun ds e => by
  cases h with
  | tup h k => cases e; exact h
  | atom h k => rw [e] at h; cases h
theorem Good.sub {ds : List D} (h : Good (.tup ds)) : ∀ d ∈ ds, Good d := by
  cases h with
  | tup h k => exact k
  | atom h k => cases h
theorem Good.top {d : D} (h : Good d) : top1 d := by
  cases h with
  | tup h k => exact fun x e => by cases e
  | atom h k => exact k
/-- what heads tells -/
theorem heads_is {d : D} (h : headsD d = true) : ∃ t r k, d = .tup (.str t :: r) ∧ sizeT t = some k ∧ ((r.length : Nat) : Int) + 1 = k ∧ (t = "mix" → mixOk r = true) := by
  unfold headsD at h
  split at h
  · rename_i t r
    rw [Bool.and_eq_true, Bool.or_eq_true, Bool.not_eq_true', decide_eq_false_iff_not] at h
    obtain ⟨h1, h2⟩ := h
    have hk : ∃ k, sizeT t = some k ∧ ((r.length : Nat) : Int) + 1 = k := by
      split at h1
      · cases h1
      · rename_i k hk
        exact ⟨k, hk, of_decide_eq_true h1⟩
    obtain ⟨k, hk, hl⟩ := hk
    exact ⟨t, r, k, rfl, hk, hl, fun e => h2.elim (fun z => absurd e z) id⟩
  · cases h
theorem size_list {t : Str} {k : Int} (h : sizeT t = some k) : (t = "none" ∧ k = 1) ∨ (t = "letter" ∧ k = 2) ∨ (t = "then" ∧ k = 3) ∨ (t = "on" ∧ k = 2) ∨ (t = "back" ∧ k = 2) ∨ (t = "mix" ∧ k = 2) := by
  unfold sizeT lookD sizesK at h
  simp only [List.find?_cons, List.find?_nil] at h
  by_cases h1 : (Sum.inr "none" : Key) = .inr t
  · cases h1
    simp only [decide_true] at h
    cases h
    exact .inl ⟨rfl, rfl⟩
  rw [decide_eq_false h1] at h
  by_cases h1 : (Sum.inr "letter" : Key) = .inr t
  · cases h1
    simp only [decide_true] at h
    cases h
    exact .inr (.inl ⟨rfl, rfl⟩)
  rw [decide_eq_false h1] at h
  by_cases h1 : (Sum.inr "then" : Key) = .inr t
  · cases h1
    simp only [decide_true] at h
    cases h
    exact .inr (.inr (.inl ⟨rfl, rfl⟩))
  rw [decide_eq_false h1] at h
  by_cases h1 : (Sum.inr "on" : Key) = .inr t
  · cases h1
    simp only [decide_true] at h
    cases h
    exact .inr (.inr (.inr (.inl ⟨rfl, rfl⟩)))
  rw [decide_eq_false h1] at h
  by_cases h1 : (Sum.inr "back" : Key) = .inr t
  · cases h1
    simp only [decide_true] at h
    cases h
    exact .inr (.inr (.inr (.inr (.inl ⟨rfl, rfl⟩))))
  rw [decide_eq_false h1] at h
  by_cases h1 : (Sum.inr "mix" : Key) = .inr t
  · cases h1
    simp only [decide_true] at h
    cases h
    exact .inr (.inr (.inr (.inr (.inr ⟨rfl, rfl⟩))))
  rw [decide_eq_false h1] at h
  cases h
theorem strA_none : strA "none" = true := by decide +kernel
theorem strA_letter : strA "letter" = true := by decide +kernel
theorem in_two {t : Str} (h : strA t = true) (s : List O) : pr2 (dIn false) s [.str t, .tup [.str "none", .str "letter"]] = some (.bl (decide (t = "none" ∨ t = "letter")), s) := by
  rw [pr2_eq]
  unfold dIn
  simp only
  rw [if_pos ⟨strA_lay h, by decide +kernel, by rw [dep_str]; omega⟩]
  have : anyEq (.str t) [.str "none", .str "letter"] = decide (t = "none" ∨ t = "letter") := by
    show ((("none" : Str) == t) || ((("letter" : Str) == t) || false)) = _
    by_cases h1 : t = "none"
    · subst h1
      rfl
    · by_cases h2 : t = "letter"
      · subst h2
        rfl
      · rw [decide_eq_false (by simp [h1, h2])]
        have a : (("none" : Str) == t) = false := by simpa using fun z : ("none" : Str) = t => h1 z.symm
        have b : (("letter" : Str) == t) = false := by simpa using fun z : ("letter" : Str) = t => h2 z.symm
        rw [a, b]
        rfl
  rw [this]
  rfl
theorem c_inner (n : Nat) (d : D) (st : List O) (hg : Good d) (hh : headsD d = true) : Ev (callN (n + 3) 7 [d] st) st (.tup (innerD d)) := by
  obtain ⟨t, r, k, rfl, hk, hl, hm⟩ := heads_is hh
  show Ev (bodyOf (f_inner (callN (n + 2))) 1 [.tup (.str t :: r)] st) st _
  have ht := (hg.flat _ rfl).1 (.str t) (by simp) t rfl
  have head : ∀ (s2 : List O), Ev (eBin (pr2 dIx) (eVar 0) (eC (.int 0)) [some (.tup (.str t :: r))] s2) s2 (.str t) := fun s2 => ev_bin (ev_var rfl) (fun s _ => ev_c) fun s _ => ix0 _ _ s
  refine ev_body (rt_guard (ev_is (ev_bin (head st) (fun s _ => ev_c) fun s _ => eq_str ht strA_mix s)) (fun hb s _ => ?_) fun hb s _ => ?_)
  · have e : t = "mix" := of_decide_eq_true hb
    subst e
    have hmo := hm rfl
    cases r with
    | nil => cases hmo
    | cons y r =>
      cases y with
      | tup es =>
        have ei : innerD (.tup (.str "mix" :: .tup es :: r)) = es := by
          unfold innerD
          simp
        rw [ei]
        exact rt_ret (ev_bin (ev_var rfl) (fun s _ => ev_c) fun s _ => ix1 _ _ _ s)
      | _ => cases hmo
  · have e : t ≠ "mix" := of_decide_eq_false hb
    have ei : innerD (.tup (.str t :: r)) = if t = "none" ∨ t = "letter" then [] else r := by
      show (if t = "mix" then _ else if t = "none" ∨ t = "letter" then [] else r) = _
      rw [if_neg e]
    rw [ei]
    refine rt_ret (ev_ifE (ev_is (ev_bin (head s) (fun s _ => ev_tup (ev_cons ev_c fun s _ => ev_cons ev_c fun s _ => ev_nil) (by rw [sizeLine_eq]; decide)) fun s _ => in_two ht s)) (fun hb s _ => ?_) fun hb s _ => ?_)
    · rw [if_pos (of_decide_eq_true hb)]
      exact ev_tup ev_nil (Nat.zero_le _)
    · rw [if_neg (of_decide_eq_false hb)]
      refine ev_sl (h := dSl) (ev_var rfl) (fun s _ => ev_part ev_c) (fun s _ => ev_noPart) fun s _ => ?_
      show some (D.tup (cut (.str t :: r) (some 1) none)) = _
      rw [cut1]
      rfl
theorem c_rises (n : Nat) (ds : List D) (st : List O) (hl : ds.length ≤ sizeLine) (hc : ∀ x ∈ ds, ∀ y ∈ ds, ltOk x y) : Ev (callN (n + 3) 10 [.tup ds] st) st (.bl (risesD ds)) := by
  show Ev (bodyOf (f_rises (callN (n + 2))) 3 [.tup ds] st) st _
  exact ev_body (rt_ret (ev_rises (ρ := [some (.tup ds), none, none]) rfl hl (by decide) (by simp) (by simp) hc))
end Tk
/-! P5: is_weave_of, the worklist. -/
namespace Tk
open PySem L2 Tl
abbrev Nd := D × Int
def encN (p : Nd) : D := .tup [p.1, .int p.2]
def kidsN (p : Nd) : List Nd := if tagD p.1 = "letter" then [] else (innerD p.1).map fun d => (d, p.2 + 1)
def okN (sc : List D) (tot : Nat) (p : Nd) : Bool := headsD p.1 && (decide (p.2 ≤ 60) && (decide (tot ≤ 400) && (!decide (tagD p.1 = "letter") || isLetter sc (secD p.1))))
def bfs (sc : List D) : Nat → List Nd → List Nd → Option (List Nd)
  | 0, _, _ => none
  | _ + 1, pre, [] => some pre
  | n + 1, pre, p :: rest => if okN sc (pre.length + 1 + rest.length) p = true then bfs sc n (pre ++ [p]) (rest ++ kidsN p) else none
mutual
def wD : D → Nat
  | .tup ds => 1 + wDs ds
  | _ => 1
def wDs : List D → Nat
  | [] => 0
  | d :: ds => wD d + wDs ds
end
theorem wDs_append : ∀ (xs ys : List D), wDs (xs ++ ys) = wDs xs + wDs ys
  | [], ys => by simp [wDs]
  | x :: xs, ys => by simp [wDs, wDs_append xs ys, Nat.add_assoc]
theorem inner_eq (t : Str) (r : List D) : innerD (.tup (.str t :: r)) = if t = "mix" then (match r with
      | .tup es :: _ => es
      | _ => []) else if t = "none" ∨ t = "letter" then [] else r := rfl
theorem inner_w {d : D} (h : headsD d = true) : wDs (innerD d) + 1 ≤ wD d := by
  obtain ⟨t, r, k, rfl, hk, hl, hm⟩ := heads_is h
  rw [inner_eq]
  by_cases hx : t = "mix"
  · rw [if_pos hx]
    have := hm hx
    cases r with
    | nil => cases this
    | cons y r =>
      cases y with
      | tup es =>
        simp only [wD, wDs]
        omega
      | _ => cases this
  · rw [if_neg hx]
    split
    · simp only [wD, wDs]
      omega
    · simp only [wD, wDs]
      omega
def wN (ps : List Nd) : Nat := wDs (ps.map (·.1))
theorem kids_w {p : Nd} (h : headsD p.1 = true) : wN (kidsN p) + 1 ≤ wD p.1 := by
  unfold kidsN wN
  split
  · have := inner_w h
    simp only [List.map_nil, wDs]
    omega
  · rw [List.map_map]
    have : ((fun x : Nd => x.1) ∘ fun d => (d, p.2 + 1)) = id := rfl
    rw [this, List.map_id]
    exact inner_w h
theorem inner_good {d : D} (hg : Good d) (h : headsD d = true) : ∀ e ∈ innerD d, Good e := by
  obtain ⟨t, r, k, rfl, hk, hl, hm⟩ := heads_is h
  intro e he
  rw [inner_eq] at he
  by_cases hx : t = "mix"
  · rw [if_pos hx] at he
    cases r with
    | nil => cases he
    | cons y r =>
      cases y with
      | tup es => exact (hg.sub (.tup es) (by simp)).sub e he
      | _ => cases he
  · rw [if_neg hx] at he
    split at he
    · cases he
    · exact hg.sub e (by simp [he])
theorem kids_good {p : Nd} (hg : Good p.1) (h : headsD p.1 = true) : ∀ e ∈ kidsN p, Good e.1 := by
  intro e he
  unfold kidsN at he
  split at he
  · cases he
  · obtain ⟨d, hd, rfl⟩ := List.mem_map.mp he
    exact inner_good hg h d hd
theorem Gr.set {a b : List O} (h : Gr a b) {n : Nat} (hn : a.length ≤ n) (o : O) : Gr a (b.set n o) := by
  obtain ⟨r, rfl⟩ := h
  exact ⟨r.set (n - a.length) o, by rw [List.set_append_right _ _ hn]⟩
theorem lt_int (a b : Int) (s : List O) : pr2 dLt s [.int a, .int b] = some (.bl (decide (a < b)), s) := by
  rw [pr2_eq]
  rfl
abbrev lpT : Sv → List O → RR Bool := (eIs (eBin (pr2 dLt) (eVar 3) (ePr (pr1 dLen) (eCons (eVar 2) (eNil)))))
abbrev lpI1 (C : Nat → List D → List O → RR D) : Sm := (sIf (eOrT (eNot (eTru (eCall (C 8) 1 (eCons (eVar 4) (eNil))))) (eOrT (eIs (eBin (pr2 dGt) (eVar 5) (eC (.int 60)))) (eIs (eBin (pr2 dGt) (ePr (pr1 dLen) (eCons (eVar 2) (eNil))) (eC (.int 400)))))) (sRet (eC (.bl false))) (sNext))
abbrev lpI2 (C : Nat → List D → List O → RR D) : Sm := (sIf (eIs (eBin (pr2 (dEq false)) (eBin (pr2 dIx) (eVar 4) (eC (.int 0))) (eC (.str "letter")))) (sIf (eNot (eTru (eCall (C 6) 2 (eCons (eVar 0) (eCons (eBin (pr2 dIx) (eVar 4) (eC (.int 1))) (eNil)))))) (sRet (eC (.bl false))) (sNext)) (sDrop (eMt "list" mExtend (eVar 2) (eCons (eFrz (eComp (eSrc (eCall (C 7) 1 (eCons (eVar 4) (eNil)))) (GT.nm 6) (tYesT) (eTup (eCons (eVar 6) (eCons (eBin (pr2 dAdd) (eVar 5) (eC (.int 1))) (eNil)))) [6])) (eNil)))))
abbrev lpB (C : Nat → List D → List O → RR D) : Sm := (sSeq (sAsg (eBin (pr2 dIx) (eVar 2) (eVar 3)) (GT.tp [GT.nm 4, GT.nm 5])) (sSeq (sAug dIadd 3 (eC (.int 1))) (sSeq (lpI1 C) (lpI2 C))))
theorem len_loc {s : List O} {L : Nat} {xs : List D} (h : s[L]? = some (.lst xs)) : pr1 dLen s [.loc L] = some (.int (xs.length : Nat), s) := by
  show (dLen s (.loc L)).map _ = _
  unfold dLen
  simp only [h]
  rfl
theorem ev_lenL {ρ : Sv} {st : List O} {i L : Nat} {xs : List D} (hi : ρ[i]? = some (some (.loc L))) (h : st[L]? = some (.lst xs)) : Ev (ePr (pr1 dLen) (eCons (eVar i) eNil) ρ st) st (.int (xs.length : Nat)) := ev_pr (ev_cons (ev_var hi) fun _ _ => ev_nil) fun s g => len_loc (g.get h)
theorem gt_int (a b : Int) (s : List O) : pr2 dGt s [.int a, .int b] = some (.bl (decide (b < a)), s) := rfl
/-- one turn of the loop -/
theorem turn {m : Nat} {sc : List D} {thing : D} {pre rest : List Nd} {p : Nd} {a b c : Option D} {s st0 : List O} {L : Nat} (hsc : lay (.tup sc) = true) (g0 : Gr st0 s) (hL : st0.length ≤ L) (hs : s[L]? = some (.lst ((pre ++ p :: rest).map encN))) (hg : Good p.1) (hlen : pre.length + 1 + rest.length + wD p.1 ≤ 1000000) :
    (okN sc (pre.length + 1 + rest.length) p = false → ∃ s', lpB (callN (m + 8)) [some (.tup sc), some thing, some (.loc L), some (.int (pre.length : Nat)), a, b, c] s = .rt (.bl false) s' ∧ Gr st0 s') ∧
    (okN sc (pre.length + 1 + rest.length) p = true → ∃ s', lpB (callN (m + 8)) [some (.tup sc), some thing, some (.loc L), some (.int (pre.length : Nat)), a, b, c] s = .nx [some (.tup sc), some thing, some (.loc L), some (.int ((pre ++ [p]).length : Nat)), some p.1, some (.int p.2), c] s' ∧ Gr st0 s' ∧ s'[L]? = some (.lst ((pre ++ [p] ++ (rest ++ kidsN p)).map encN))) := by
  have e1 : sAsg (eBin (pr2 dIx) (eVar 2) (eVar 3)) (GT.tp [GT.nm 4, GT.nm 5]) [some (.tup sc), some thing, some (.loc L), some (.int (pre.length : Nat)), a, b, c] s = .nx [some (.tup sc), some thing, some (.loc L), some (.int (pre.length : Nat)), some p.1, some (.int p.2), c] s := by
    have ix : pr2 dIx s [.loc L, .int (pre.length : Nat)] = some (encN p, s) := by
      rw [pr2_eq]
      unfold dIx
      simp only [hs]
      have : atI ((pre ++ p :: rest).map encN) (pre.length : Nat) = some (encN p) := by
        apply L2.atI_nat
        rw [List.getElem?_map, List.getElem?_append_right (Nat.le_refl _), Nat.sub_self]
        rfl
      rw [this]
      rfl
    show onE ((RR.ok (D.loc L) s).bind fun x s1 => (RR.ok (D.int (pre.length : Nat)) s1).bind fun y s2 => liftP (pr2 dIx s2 [x, y])) _ _ = _
    rw [bind_ok, bind_ok, ix]
    rfl
  have e2 : sAug dIadd 3 (eC (.int 1)) [some (.tup sc), some thing, some (.loc L), some (.int (pre.length : Nat)), some p.1, some (.int p.2), c] s = .nx [some (.tup sc), some thing, some (.loc L), some (.int ((pre ++ [p]).length : Nat)), some p.1, some (.int p.2), c] s := by
    have : ((pre.length : Nat) : Int) + 1 = (((pre ++ [p]).length : Nat) : Int) := by simp
    show SR.nx [some (.tup sc), some thing, some (.loc L), some (.int ((pre.length : Nat) + 1)), some p.1, some (.int p.2), c] s = _
    rw [this]
  have e3 : lpB (callN (m + 8)) [some (.tup sc), some thing, some (.loc L), some (.int (pre.length : Nat)), a, b, c] s = sSeq (lpI1 (callN (m + 8))) (lpI2 (callN (m + 8))) [some (.tup sc), some thing, some (.loc L), some (.int ((pre ++ [p]).length : Nat)), some p.1, some (.int p.2), c] s := by
    show (match sAsg (eBin (pr2 dIx) (eVar 2) (eVar 3)) (GT.tp [GT.nm 4, GT.nm 5]) [some (.tup sc), some thing, some (.loc L), some (.int (pre.length : Nat)), a, b, c] s with
      | .nx ρ' st' => (sSeq (sAug dIadd 3 (eC (.int 1))) (sSeq (lpI1 (callN (m + 8))) (lpI2 (callN (m + 8))))) ρ' st'
      | r => r) = _
    rw [e1]
    show (match sAug dIadd 3 (eC (.int 1)) [some (.tup sc), some thing, some (.loc L), some (.int (pre.length : Nat)), some p.1, some (.int p.2), c] s with
      | .nx ρ' st' => (sSeq (lpI1 (callN (m + 8))) (lpI2 (callN (m + 8)))) ρ' st'
      | r => r) = _
    rw [e2]
  rw [e3]
  have hll : (((pre ++ p :: rest).map encN).length : Nat) = pre.length + 1 + rest.length := by
    simp
    omega
  have t1 := ev_or (ρ := [some (.tup sc), some thing, some (.loc L), some (.int ((pre ++ [p]).length : Nat)), some p.1, some (.int p.2), c]) (st := s) (ev_not (ev_truB (ev_call (F := callN (m + 8) 8) (n := 1) (ev_cons (ev_var (i := 4) (d := p.1) rfl) fun _ _ => ev_nil) rfl fun s _ => c_heads (m + 5) p.1 s hg.flat))) fun _ s1 g1 =>
    ev_or (ev_is (ev_bin (ev_var (i := 5) (d := .int p.2) rfl) (fun s _ => ev_c (d := .int 60)) fun s _ => gt_int p.2 60 s)) fun _ s2 g2 => ev_is (ev_bin (ev_lenL (i := 2) (L := L) rfl ((g1.trans g2).get hs)) (fun s _ => ev_c (d := .int 400)) fun s _ => gt_int _ 400 s)
  rw [hll] at t1
  obtain ⟨s1, e4, g1⟩ := t1
  have val : (!headsD p.1 || (decide (60 < p.2) || decide ((400 : Int) < ((pre.length + 1 + rest.length : Nat) : Int)))) = !(headsD p.1 && (decide (p.2 ≤ 60) && decide (pre.length + 1 + rest.length ≤ 400))) := by
    have a1 : decide (p.2 ≤ 60) = !decide (60 < p.2) := by
      by_cases h : p.2 ≤ 60
      · rw [decide_eq_true h, decide_eq_false (by omega)]; rfl
      · rw [decide_eq_false h, decide_eq_true (by omega)]; rfl
    have a2 : decide (pre.length + 1 + rest.length ≤ 400) = !decide ((400 : Int) < ((pre.length + 1 + rest.length : Nat) : Int)) := by
      by_cases h : pre.length + 1 + rest.length ≤ 400
      · rw [decide_eq_true h, decide_eq_false (by omega)]; rfl
      · rw [decide_eq_false h, decide_eq_true (by omega)]; rfl
    rw [a1, a2]
    cases headsD p.1 <;> cases decide (60 < p.2) <;> cases decide ((400 : Int) < ((pre.length + 1 + rest.length : Nat) : Int)) <;> rfl
  rw [val] at e4
  have first : lpI1 (callN (m + 8)) [some (.tup sc), some thing, some (.loc L), some (.int ((pre ++ [p]).length : Nat)), some p.1, some (.int p.2), c] s = if (headsD p.1 && (decide (p.2 ≤ 60) && decide (pre.length + 1 + rest.length ≤ 400))) = true then .nx [some (.tup sc), some thing, some (.loc L), some (.int ((pre ++ [p]).length : Nat)), some p.1, some (.int p.2), c] s1 else .rt (.bl false) s1 := by
    show onE _ _ _ = _
    rw [e4]
    cases (headsD p.1 && (decide (p.2 ≤ 60) && decide (pre.length + 1 + rest.length ≤ 400))) <;> rfl
  have okE : okN sc (pre.length + 1 + rest.length) p = ((headsD p.1 && (decide (p.2 ≤ 60) && decide (pre.length + 1 + rest.length ≤ 400))) && (!decide (tagD p.1 = "letter") || isLetter sc (secD p.1))) := by
    unfold okN
    simp only [Bool.and_assoc]
  have run : sSeq (lpI1 (callN (m + 8))) (lpI2 (callN (m + 8))) [some (.tup sc), some thing, some (.loc L), some (.int ((pre ++ [p]).length : Nat)), some p.1, some (.int p.2), c] s = if (headsD p.1 && (decide (p.2 ≤ 60) && decide (pre.length + 1 + rest.length ≤ 400))) = true then lpI2 (callN (m + 8)) [some (.tup sc), some thing, some (.loc L), some (.int ((pre ++ [p]).length : Nat)), some p.1, some (.int p.2), c] s1 else .rt (.bl false) s1 := by
    show (match lpI1 (callN (m + 8)) [some (.tup sc), some thing, some (.loc L), some (.int ((pre ++ [p]).length : Nat)), some p.1, some (.int p.2), c] s with
      | .nx ρ' st' => lpI2 (callN (m + 8)) ρ' st'
      | r => r) = _
    rw [first]
    cases (headsD p.1 && (decide (p.2 ≤ 60) && decide (pre.length + 1 + rest.length ≤ 400))) <;> rfl
  rw [run]
  cases hA : (headsD p.1 && (decide (p.2 ≤ 60) && decide (pre.length + 1 + rest.length ≤ 400))) with
  | false =>
    rw [okE, hA]
    exact ⟨fun _ => ⟨s1, by rw [if_neg (by decide)], g0.trans g1⟩, fun z => by cases z⟩
  | true =>
    rw [if_pos rfl, okE, hA, Bool.true_and]
    have hh : headsD p.1 = true := by
      rw [Bool.and_eq_true] at hA
      exact hA.1
    obtain ⟨t, r, k, hp, hk, hl, hm⟩ := heads_is hh
    have ht : strA t = true := (hg.flat _ hp).1 (.str t) (by simp) t rfl
    have htag : tagD p.1 = t := by rw [hp]; rfl
    rw [htag]
    have hs1 := g1.get hs
    have head : Ev (eIs (eBin (pr2 (dEq false)) (eBin (pr2 dIx) (eVar 4) (eC (.int 0))) (eC (.str "letter"))) [some (.tup sc), some thing, some (.loc L), some (.int ((pre ++ [p]).length : Nat)), some p.1, some (.int p.2), c] s1) s1 (decide (t = "letter")) :=
      ev_is (ev_bin (ev_bin (x := p.1) (ev_var rfl) (fun s _ => ev_c) fun s _ => (by rw [hp]; exact ix0 _ _ s)) (fun s _ => ev_c) fun s _ => eq_str ht strA_letter s)
    obtain ⟨s2, e5, g2⟩ := head
    have hs2 := g2.get hs1
    by_cases hl2 : t = "letter"
    · -- a letter
      subst hl2
      have hk2 : k = 2 := by
        rcases size_list hk with ⟨z, _⟩ | ⟨_, z⟩ | ⟨z, _⟩ | ⟨z, _⟩ | ⟨z, _⟩ | ⟨z, _⟩
        · exact absurd z (by decide +kernel)
        · exact z
        · exact absurd z (by decide +kernel)
        · exact absurd z (by decide +kernel)
        · exact absurd z (by decide +kernel)
        · exact absurd z (by decide +kernel)
      obtain ⟨y, rfl⟩ : ∃ y, r = [y] := by
        cases r with
        | nil =>
          simp at hl
          omega
        | cons y r =>
          have : r = [] := List.eq_nil_of_length_eq_zero (by
            simp only [List.length_cons] at hl
            omega)
          exact ⟨y, by rw [this]⟩
      have hsec : secD p.1 = y := by rw [hp]; rfl
      have hy : Good y := by
        have hg' := hg
        rw [hp] at hg'
        exact hg'.sub y (by simp)
      rw [hsec, decide_eq_true rfl, Bool.not_true, Bool.false_or]
      obtain ⟨s3, e6, g3⟩ := ev_not (ev_truB (ev_call (ρ := [some (.tup sc), some thing, some (.loc L), some (.int ((pre ++ [p]).length : Nat)), some p.1, some (.int p.2), c]) (st := s2) (F := callN (m + 8) 6) (n := 2) (ev_cons (ev_var (i := 0) rfl) fun s _ => ev_cons (ev_bin (x := p.1) (d := y) (h := pr2 dIx) (ev_var (i := 4) rfl) (fun s _ => ev_c (d := .int 1)) fun s _ => (by rw [hp]; exact ix1 _ _ _ s)) fun s _ => ev_nil) rfl fun s _ => c_is_letter (m + 1) sc y s hy.flat hsc))
      have run2 : lpI2 (callN (m + 8)) [some (.tup sc), some thing, some (.loc L), some (.int ((pre ++ [p]).length : Nat)), some p.1, some (.int p.2), c] s1 = if isLetter sc y = true then .nx [some (.tup sc), some thing, some (.loc L), some (.int ((pre ++ [p]).length : Nat)), some p.1, some (.int p.2), c] s3 else .rt (.bl false) s3 := by
        show onE _ _ _ = _
        rw [e5, onE_ok, decide_eq_true rfl, if_pos rfl]
        show onE _ _ _ = _
        rw [e6, onE_ok]
        cases isLetter sc y <;> rfl
      rw [run2]
      have hkids : kidsN p = [] := by
        unfold kidsN
        rw [htag, if_pos rfl]
      constructor
      · intro z
        rw [z]
        exact ⟨s3, by rw [if_neg (by decide)], ((g0.trans g1).trans g2).trans g3⟩
      · intro z
        rw [z, if_pos rfl]
        refine ⟨s3, rfl, ((g0.trans g1).trans g2).trans g3, ?_⟩
        rw [hkids, List.append_nil, List.append_assoc]
        exact g3.get hs2
    · rw [decide_eq_false hl2, Bool.not_false, Bool.true_or]
      refine ⟨fun z => (by cases z), fun _ => ?_⟩
      have hkids : kidsN p = (innerD p.1).map fun d => (d, p.2 + 1) := by
        unfold kidsN
        rw [htag, if_neg hl2]
      have hw := inner_w hh
      have lenw : ∀ xs : List D, xs.length ≤ wDs xs := by
        intro xs
        induction xs with
        | nil => exact Nat.le_refl _
        | cons x xs ih =>
          have : 1 ≤ wD x := by cases x <;> simp [wD]
          simp only [List.length_cons, wDs]
          omega
      have hil := lenw (innerD p.1)
      obtain ⟨s3, e6, g3⟩ := ev_cons (ρ := [some (.tup sc), some thing, some (.loc L), some (.int ((pre ++ [p]).length : Nat)), some p.1, some (.int p.2), c]) (st := s2) (ev_frz (ev_comp1 (s0 := ⟨innerD p.1, none⟩) (tg := .nm 6) (own := [6]) (f := eTup (eCons (eVar 6) (eCons (eBin (pr2 dAdd) (eVar 5) (eC (.int 1))) eNil))) (F := fun d => encN (d, p.2 + 1)) (ev_src (x := .tup (innerD p.1)) (ev_call (F := callN (m + 8) 7) (n := 1) (ev_cons (ev_var (i := 4) rfl) fun _ _ => ev_nil) rfl fun s _ => c_inner (m + 5) p.1 s hg hh) fun _ _ => rfl) rfl (by show (innerD p.1).length ≤ sizeLine; rw [sizeLine_eq]; omega) fun d hd => ⟨_, rfl, fun s _ => ev_tup (ev_cons (ev_var rfl) fun s _ => ev_cons (ev_bin (ev_var (d := .int p.2) rfl) (fun s _ => ev_c (d := .int 1)) fun s _ => rfl) fun s _ => ev_nil) (by rw [sizeLine_eq]; simp)⟩)) fun s _ => ev_nil
      have hs3 := g3.get hs2
      have ext : mExtend s3 [.loc L, .lst ((innerD p.1).map fun d => encN (d, p.2 + 1))] = some (.non, s3.set L (.lst ((pre ++ [p] ++ (rest ++ kidsN p)).map encN))) := by
        unfold mExtend Tl.listOf
        simp only [hs3]
        rw [if_pos (by rw [sizeLine_eq, hll, List.length_map]; omega), hkids]
        congr 4
        simp [List.map_map]
      have ty : tyIs "list" s2 (.loc L) = true := by
        unfold tyIs tyD
        simp only [hs2]
        rfl
      have run2 : lpI2 (callN (m + 8)) [some (.tup sc), some thing, some (.loc L), some (.int ((pre ++ [p]).length : Nat)), some p.1, some (.int p.2), c] s1 = .nx [some (.tup sc), some thing, some (.loc L), some (.int ((pre ++ [p]).length : Nat)), some p.1, some (.int p.2), c] (s3.set L (.lst ((pre ++ [p] ++ (rest ++ kidsN p)).map encN))) := by
        show onE _ _ _ = _
        rw [e5, onE_ok, decide_eq_false hl2, if_neg (by decide)]
        show onE ((RR.ok (D.loc L) s2).bind fun x s1 => if tyIs "list" s1 x = true then (eCons _ eNil _ s1).bind fun xs s2 => liftP (mExtend s2 (x :: xs)) else .err) _ _ = _
        rw [bind_ok, if_pos ty, e6, bind_ok, ext]
        rfl
      refine ⟨_, run2, Gr.set (((g0.trans g1).trans g2).trans g3) hL _, ?_⟩
      rw [List.getElem?_set_self (List.getElem?_eq_some_iff.mp hs3).1]
theorem wN_cons (p : Nd) (ps : List Nd) : wN (p :: ps) = wD p.1 + wN ps := rfl
theorem wN_app (ps qs : List Nd) : wN (ps ++ qs) = wN ps + wN qs := by
  unfold wN
  rw [List.map_append, wDs_append]
theorem len_wN : ∀ ps : List Nd, ps.length ≤ wN ps
  | [] => Nat.le_refl _
  | p :: ps => by
    have : 1 ≤ wD p.1 := by cases p.1 <;> simp [wD]
    have := len_wN ps
    rw [wN_cons, List.length_cons]
    omega
/-- the loop, turn by turn -/
theorem loop {m : Nat} {sc : List D} {thing : D} (hsc : lay (.tup sc) = true) {st0 : List O} {L : Nat} (hL : st0.length ≤ L) : ∀ (n : Nat) (pre rest : List Nd) (a b c : Option D) (s : List O), Gr st0 s → s[L]? = some (.lst ((pre ++ rest).map encN)) → (∀ p ∈ pre ++ rest, Good p.1) → wN rest < n → pre.length + wN rest ≤ 900000 →
    match bfs sc n pre rest with
    | some fin => ∃ a' b' c' s', goW lpT (lpB (callN (m + 8))) n [some (.tup sc), some thing, some (.loc L), some (.int (pre.length : Nat)), a, b, c] s = .nx [some (.tup sc), some thing, some (.loc L), some (.int (fin.length : Nat)), a', b', c'] s' ∧ Gr st0 s' ∧ s'[L]? = some (.lst (fin.map encN)) ∧ (∀ p ∈ fin, Good p.1) ∧ fin.length ≤ 900000
    | none => ∃ s', goW lpT (lpB (callN (m + 8))) n [some (.tup sc), some thing, some (.loc L), some (.int (pre.length : Nat)), a, b, c] s = .rt (.bl false) s' ∧ Gr st0 s'
  | 0, pre, rest, a, b, c, s, _, _, _, hw, _ => absurd hw (by omega)
  | n + 1, pre, rest, a, b, c, s, g0, hs, hg, hw, hb => by
    have test : lpT [some (.tup sc), some thing, some (.loc L), some (.int (pre.length : Nat)), a, b, c] s = .ok (decide (((pre.length : Nat) : Int) < (((pre ++ rest).map encN).length : Nat))) s := by
      have e : ePr (pr1 dLen) (eCons (eVar 2) eNil) [some (.tup sc), some thing, some (.loc L), some (.int (pre.length : Nat)), a, b, c] s = .ok (.int (((pre ++ rest).map encN).length : Nat)) s := by
        show (RR.ok [D.loc L] s).bind _ = _
        rw [bind_ok, len_loc hs]
        rfl
      show (((RR.ok (D.int (pre.length : Nat)) s).bind fun x s1 => (ePr (pr1 dLen) (eCons (eVar 2) eNil) [some (.tup sc), some thing, some (.loc L), some (.int (pre.length : Nat)), a, b, c] s1).bind fun y s2 => liftP (pr2 dLt s2 [x, y])).bind _) = _
      rw [bind_ok, e, bind_ok, lt_int]
      rfl
    have hlen : ((pre ++ rest).map encN).length = pre.length + rest.length := by simp
    rw [hlen] at test
    cases rest with
    | nil =>
      have hf : decide (((pre.length : Nat) : Int) < ((pre.length + ([] : List Nd).length : Nat) : Int)) = false := decide_eq_false (by simp)
      rw [hf] at test
      show ∃ a' b' c' s', _
      refine ⟨a, b, c, s, ?_, g0, by simpa using hs, fun p hp => hg p (by simpa using hp), by omega⟩
      show onE _ _ _ = _
      rw [test]
      rfl
    | cons p rest =>
      have ht : decide (((pre.length : Nat) : Int) < ((pre.length + (p :: rest).length : Nat) : Int)) = true := decide_eq_true (by simp only [List.length_cons]; omega)
      rw [ht] at test
      rw [wN_cons] at hw hb
      have hp1 : 1 ≤ wD p.1 := by cases p.1 <;> simp [wD]
      have hrl := len_wN rest
      obtain ⟨t1, t2⟩ := turn (m := m) (thing := thing) (a := a) (b := b) (c := c) hsc g0 hL hs (hg p (by simp)) (by omega)
      show match (if okN sc (pre.length + 1 + rest.length) p = true then bfs sc n (pre ++ [p]) (rest ++ kidsN p) else none) with
        | some fin => _
        | none => _
      have step : goW lpT (lpB (callN (m + 8))) (n + 1) [some (.tup sc), some thing, some (.loc L), some (.int (pre.length : Nat)), a, b, c] s = (match lpB (callN (m + 8)) [some (.tup sc), some thing, some (.loc L), some (.int (pre.length : Nat)), a, b, c] s with
          | .nx ρ' s2 => goW lpT (lpB (callN (m + 8))) n ρ' s2
          | .ct ρ' s2 => goW lpT (lpB (callN (m + 8))) n ρ' s2
          | .bk ρ' s2 => .nx ρ' s2
          | r => r) := by
        show onE _ _ _ = _
        rw [test]
        rfl
      rw [step]
      cases hok : okN sc (pre.length + 1 + rest.length) p with
      | false =>
        rw [if_neg (by decide)]
        obtain ⟨s', e, g⟩ := t1 hok
        exact ⟨s', by rw [e], g⟩
      | true =>
        rw [if_pos rfl]
        obtain ⟨s', e, g, hs'⟩ := t2 hok
        have hh : headsD p.1 = true := by
          unfold okN at hok
          rw [Bool.and_eq_true] at hok
          exact hok.1
        have hk := kids_w hh
        have := loop (m := m) (thing := thing) hsc hL n (pre ++ [p]) (rest ++ kidsN p) (some p.1) (some (.int p.2)) c s' g hs' (fun q hq => by
          rcases List.mem_append.mp hq with z | z
          · rcases List.mem_append.mp z with z | z
            · exact hg q (by simp [z])
            · exact hg q (by simp only [List.mem_singleton] at z; simp [z])
          · rcases List.mem_append.mp z with z | z
            · exact hg q (by simp [z])
            · exact kids_good (hg p (by simp)) hh q z) (by rw [wN_app]; omega) (by rw [wN_app, List.length_append]; simp only [List.length_cons, List.length_nil]; omega)
        rw [e]
        exact this
end Tk
/-! P6: valid weaves, is_weave_of by data. -/
namespace Tk
open PySem L2 Tl
/-- the nodes are right (the mixes' order aside) -/
inductive Vl (sc : List D) : D → Prop where
  | mk {d : D} (h : headsD d = true) (l : tagD d = "letter" → isLetter sc (secD d) = true) (k : tagD d ≠ "letter" → ∀ e ∈ innerD d, Vl sc e) : Vl sc d
theorem bfs_valid {sc : List D} : ∀ (n : Nat) (pre rest fin : List Nd), bfs sc n pre rest = some fin → (∀ p ∈ rest, Vl sc p.1) ∧ ∀ p ∈ fin, p ∈ pre ∨ Vl sc p.1
  | 0, pre, rest, fin, h => by cases h
  | n + 1, pre, [], fin, h => by
    cases h
    exact ⟨fun p hp => (by cases hp), fun p hp => .inl hp⟩
  | n + 1, pre, p :: rest, fin, h => by
    have h' : (if okN sc (pre.length + 1 + rest.length) p = true then bfs sc n (pre ++ [p]) (rest ++ kidsN p) else none) = some fin := h
    by_cases hok : okN sc (pre.length + 1 + rest.length) p = true
    · rw [if_pos hok] at h'
      obtain ⟨h1, h2⟩ := bfs_valid n _ _ _ h'
      unfold okN at hok
      simp only [Bool.and_eq_true, Bool.or_eq_true, Bool.not_eq_true', decide_eq_false_iff_not] at hok
      obtain ⟨ok1, ok2, ok3, ok4⟩ := hok
      have vp : Vl sc p.1 := by
        refine .mk ok1 (fun e => ok4.elim (fun z => absurd e z) id) fun e x hx => ?_
        have : (x, p.2 + 1) ∈ kidsN p := by
          unfold kidsN
          rw [if_neg e]
          exact List.mem_map.mpr ⟨x, hx, rfl⟩
        exact h1 _ (List.mem_append.mpr (.inr this))
      refine ⟨fun q hq => ?_, fun q hq => ?_⟩
      · rcases List.mem_cons.mp hq with z | z
        · rw [z]
          exact vp
        · exact h1 q (List.mem_append.mpr (.inl z))
      · rcases h2 q hq with z | z
        · rcases List.mem_append.mp z with z | z
          · exact .inl z
          · rw [List.mem_singleton] at z
            rw [z]
            exact .inr vp
        · exact .inr z
    · rw [if_neg hok] at h'
      cases h'
theorem ltPs_some : ∀ (xs ys : List PyData), (∀ x ∈ xs, ∀ y ∈ ys, (ltP x y).isSome = true) → (ltPs xs ys).isSome = true
  | [], [], _ => rfl
  | [], _ :: _, _ => rfl
  | _ :: _, [], _ => rfl
  | x :: xs, y :: ys, h => by
    rw [ltPs]
    split
    · exact ltPs_some xs ys fun a ha b hb => h a (by simp [ha]) b (by simp [hb])
    · exact h x (by simp) y (by simp)
theorem toPs_mem {p : PyData} {ds : List D} (h : p ∈ toPs ds) : ∃ d ∈ ds, p = toP d := by
  rw [toPs_map] at h
  obtain ⟨d, hd, e⟩ := List.mem_map.mp h
  exact ⟨d, hd, e.symm⟩
theorem letter_names {sc : List D} {d : D} (h : isLetter sc d = true) : ∃ ds, d = .tup ds ∧ ds.all isName = true := by
  cases d with
  | tup ds =>
    have h' : (areNames (.tup ds) && ds.all (inScope sc)) = true := h
    rw [Bool.and_eq_true] at h'
    have h2 : (ds.all isName && risesD ds) = true := h'.1
    rw [Bool.and_eq_true] at h2
    exact ⟨ds, rfl, h2.1⟩
  | _ => cases h
theorem lay_tup {ds : List D} (h : ∀ d ∈ ds, lay d = true) : lay (.tup ds) = true := by
  show PyData.canLayAll0 (toPs ds) = true
  induction ds with
  | nil => rfl
  | cons d ds ih =>
    show ((toP d).canLay0 && PyData.canLayAll0 (toPs ds)) = true
    rw [Bool.and_eq_true]
    exact ⟨h d (by simp), ih fun d hd => h d (by simp [hd])⟩
/-- a letter's two texts -/
theorem two_of {t : Str} {r : List D} {k : Int} (hk : sizeT t = some k) (hl : ((r.length : Nat) : Int) + 1 = k) (ht : t = "letter" ∨ t = "mix") : ∃ y, r = [y] := by
  have hk2 : k = 2 := by
    rcases ht with rfl | rfl
    · rcases size_list hk with ⟨z, _⟩ | ⟨_, z⟩ | ⟨z, _⟩ | ⟨z, _⟩ | ⟨z, _⟩ | ⟨z, _⟩
      · exact absurd z (by decide +kernel)
      · exact z
      · exact absurd z (by decide +kernel)
      · exact absurd z (by decide +kernel)
      · exact absurd z (by decide +kernel)
      · exact absurd z (by decide +kernel)
    · rw [size_mix] at hk
      exact (Option.some.inj hk).symm
  cases r with
  | nil =>
    simp at hl
    omega
  | cons y r =>
    have : r = [] := List.eq_nil_of_length_eq_zero (by
      simp only [List.length_cons] at hl
      omega)
    exact ⟨y, by rw [this]⟩
theorem vl_lay {sc : List D} {d : D} (v : Vl sc d) : Good d → lay d = true := by
  induction v with
  | @mk d h l k ih =>
    intro hg
    obtain ⟨t, r, kk, rfl, hk, hl, hm⟩ := heads_is h
    have ht := (hg.flat _ rfl).1 (.str t) (by simp) t rfl
    refine lay_tup fun e he => ?_
    rcases List.mem_cons.mp he with z | z
    · rw [z]
      exact strA_lay ht
    · by_cases h1 : t = "letter"
      · obtain ⟨y, rfl⟩ := two_of hk hl (.inl h1)
        rw [List.mem_singleton] at z
        subst z
        obtain ⟨ns, rfl, hn⟩ := letter_names (l h1)
        have hgn := hg.sub (.tup ns) (by simp)
        refine lay_tup fun x hx => ?_
        obtain ⟨a, rfl⟩ := name_str (List.all_eq_true.mp hn x hx)
        exact strA_lay ((hgn.flat _ rfl).1 _ hx a rfl)
      · by_cases h2 : t = "mix"
        · obtain ⟨y, rfl⟩ := two_of hk hl (.inr h2)
          rw [List.mem_singleton] at z
          subst z
          have := hm h2
          cases e with
          | tup es =>
            refine lay_tup fun x hx => ?_
            have hx' : x ∈ innerD (.tup [.str t, .tup es]) := by
              rw [inner_eq, if_pos h2]
              exact hx
            exact ih h1 x hx' ((hg.sub (.tup es) (by simp)).sub x hx)
          | _ => cases this
        · by_cases h3 : t = "none"
          · rcases size_list hk with ⟨_, q⟩ | ⟨q, _⟩ | ⟨q, _⟩ | ⟨q, _⟩ | ⟨q, _⟩ | ⟨q, _⟩
            · have : r = [] := List.eq_nil_of_length_eq_zero (by omega)
              rw [this] at z
              cases z
            all_goals exact absurd (h3.symm.trans q) (by decide +kernel)
          · refine ih h1 e ?_ (hg.sub e (by simp [z]))
            rw [inner_eq, if_neg h2, if_neg (by simp [h1, h3])]
            exact z
theorem vl_lt {sc : List D} {d : D} (v : Vl sc d) : ∀ d', Vl sc d' → (ltD d d').isSome = true := by
  induction v with
  | @mk d h l k ih =>
    intro d' v'
    obtain ⟨h', l', k'⟩ := v'
    obtain ⟨t, r, kk, rfl, hk, hl, hm⟩ := heads_is h
    obtain ⟨t', r', kk', rfl, hk', hl', hm'⟩ := heads_is h'
    show (ltP (.tuple (.str t :: toPs r)) (.tuple (.str t' :: toPs r'))).isSome = true
    rw [ltP, ltPs]
    by_cases hc : PyData.eqv (.str t) (.str t') = true
    · rw [if_pos hc]
      have hc' : (t == t') = true := hc
      have ett : t = t' := by simpa using hc'
      subst ett
      rw [hk] at hk'
      have ekk : kk = kk' := Option.some.inj hk'
      subst ekk
      by_cases h1 : t = "letter"
      · obtain ⟨y, rfl⟩ := two_of hk hl (.inl h1)
        obtain ⟨y', rfl⟩ := two_of hk hl' (.inl h1)
        obtain ⟨ns, rfl, hn⟩ := letter_names (l h1)
        obtain ⟨ns', rfl, hn'⟩ := letter_names (l' h1)
        refine ltPs_some _ _ fun a ha b hb => ?_
        obtain ⟨x, hx, rfl⟩ := toPs_mem ha
        obtain ⟨y, hy, rfl⟩ := toPs_mem hb
        rw [List.mem_singleton] at hx hy
        subst hx hy
        show (ltP (.tuple (toPs ns)) (.tuple (toPs ns'))).isSome = true
        rw [ltP]
        refine ltPs_some _ _ fun a ha b hb => ?_
        obtain ⟨x, hx, rfl⟩ := toPs_mem ha
        obtain ⟨y, hy, rfl⟩ := toPs_mem hb
        obtain ⟨u, rfl⟩ := name_str (List.all_eq_true.mp hn x hx)
        obtain ⟨w, rfl⟩ := name_str (List.all_eq_true.mp hn' y hy)
        rfl
      · by_cases h2 : t = "mix"
        · obtain ⟨y, rfl⟩ := two_of hk hl (.inr h2)
          obtain ⟨y', rfl⟩ := two_of hk hl' (.inr h2)
          have m1 := hm h2
          have m2 := hm' h2
          cases y with
          | tup es =>
            cases y' with
            | tup es' =>
              refine ltPs_some _ _ fun a ha b hb => ?_
              obtain ⟨x, hx, rfl⟩ := toPs_mem ha
              obtain ⟨y, hy, rfl⟩ := toPs_mem hb
              rw [List.mem_singleton] at hx hy
              subst hx hy
              show (ltP (.tuple (toPs es)) (.tuple (toPs es'))).isSome = true
              rw [ltP]
              refine ltPs_some _ _ fun a ha b hb => ?_
              obtain ⟨x, hx, rfl⟩ := toPs_mem ha
              obtain ⟨y, hy, rfl⟩ := toPs_mem hb
              refine ih h1 x ?_ y (k' h1 y ?_)
              · rw [inner_eq, if_pos h2]
                exact hx
              · rw [inner_eq, if_pos h2]
                exact hy
            | _ => cases m2
          | _ => cases m1
        · by_cases h3 : t = "none"
          · have hz : kk = 1 := by
              rcases size_list hk with ⟨_, q⟩ | ⟨q, _⟩ | ⟨q, _⟩ | ⟨q, _⟩ | ⟨q, _⟩ | ⟨q, _⟩
              · exact q
              all_goals exact absurd (h3.symm.trans q) (by decide +kernel)
            have e1 : r = [] := List.eq_nil_of_length_eq_zero (by omega)
            have e2 : r' = [] := List.eq_nil_of_length_eq_zero (by omega)
            subst e1 e2
            rfl
          · refine ltPs_some _ _ fun a ha b hb => ?_
            obtain ⟨x, hx, rfl⟩ := toPs_mem ha
            obtain ⟨y, hy, rfl⟩ := toPs_mem hb
            refine ih h1 x ?_ y (k' h1 y ?_)
            · rw [inner_eq, if_neg h2, if_neg (by simp [h1, h3])]
              exact hx
            · rw [inner_eq, if_neg h2, if_neg (by simp [h1, h3])]
              exact hy
    · rw [if_neg hc, ltP]
      rfl
end Tk
/-! P7: is_weave_of, is_weave. -/
namespace Tk
open PySem L2 Tl
theorem dep_mem {d : D} : ∀ {ds : List D}, d ∈ ds → dep d + 1 ≤ dep (.tup ds)
  | x :: ds, h => by
    rcases List.mem_cons.mp h with z | z
    · rw [z]
      simp only [dep, toP, toPs, PyData.depth, PyData.depthAll]
      omega
    · have := dep_mem z
      simp only [dep, toP, toPs, PyData.depth, PyData.depthAll] at this ⊢
      omega
theorem inner_dep {d : D} (h : headsD d = true) : ∀ e ∈ innerD d, dep e ≤ dep d := by
  obtain ⟨t, r, k, rfl, hk, hl, hm⟩ := heads_is h
  intro e he
  rw [inner_eq] at he
  by_cases hx : t = "mix"
  · rw [if_pos hx] at he
    cases r with
    | nil => cases he
    | cons y r =>
      cases y with
      | tup es =>
        have he : e ∈ es := he
        have h1 := dep_mem he
        have h2 : dep (.tup es) + 1 ≤ dep (.tup (.str t :: .tup es :: r)) := dep_mem (by simp)
        omega
      | _ => cases he
  · rw [if_neg hx] at he
    split at he
    · cases he
    · have : dep e + 1 ≤ dep (.tup (.str t :: r)) := dep_mem (by simp [he])
      omega
theorem bfs_dep {sc : List D} {m : Nat} : ∀ (n : Nat) (pre rest fin : List Nd), bfs sc n pre rest = some fin → (∀ p ∈ pre, dep p.1 ≤ m) → (∀ p ∈ rest, dep p.1 ≤ m) → ∀ p ∈ fin, dep p.1 ≤ m
  | 0, pre, rest, fin, h, _, _ => by cases h
  | n + 1, pre, [], fin, h, h1, _ => by
    cases h
    exact h1
  | n + 1, pre, p :: rest, fin, h, h1, h2 => by
    have h' : (if okN sc (pre.length + 1 + rest.length) p = true then bfs sc n (pre ++ [p]) (rest ++ kidsN p) else none) = some fin := h
    by_cases hok : okN sc (pre.length + 1 + rest.length) p = true
    · rw [if_pos hok] at h'
      have hh : headsD p.1 = true := by
        unfold okN at hok
        rw [Bool.and_eq_true] at hok
        exact hok.1
      refine bfs_dep n _ _ _ h' (fun q hq => ?_) fun q hq => ?_
      · rcases List.mem_append.mp hq with z | z
        · exact h1 q z
        · rw [List.mem_singleton] at z
          rw [z]
          exact h2 p (by simp)
      · rcases List.mem_append.mp hq with z | z
        · exact h2 q (by simp [z])
        · unfold kidsN at z
          split at z
          · cases z
          · obtain ⟨d, hd, rfl⟩ := List.mem_map.mp z
            exact Nat.le_trans (inner_dep hh d hd) (h2 p (by simp))
    · rw [if_neg hok] at h'
      cases h'
def mixN (p : Nd) : Bool := !decide (tagD p.1 = "mix") || risesD (innerD p.1)
def weaveOf (sc : List D) (thing : D) : Bool := match bfs sc fuel [] [(thing, 1)] with
  | none => false
  | some fin => fin.all mixN
def qMix : D → Bool
  | .tup [d, .int _] => decide (tagD d = "mix")
  | _ => false
def gMix : D → Bool
  | .tup [d, .int _] => risesD (innerD d)
  | _ => false
theorem all_mix : ∀ fin : List Nd, ((fin.map encN).filter qMix).all gMix = fin.all mixN
  | [] => rfl
  | p :: fin => by
    have ih := all_mix fin
    rw [List.map_cons, List.all_cons]
    have e1 : qMix (encN p) = decide (tagD p.1 = "mix") := rfl
    have e2 : gMix (encN p) = risesD (innerD p.1) := rfl
    cases h : decide (tagD p.1 = "mix") with
    | true =>
      rw [List.filter_cons_of_pos (by rw [e1, h]), List.all_cons, ih, e2]
      unfold mixN
      rw [h]
      rfl
    | false =>
      rw [List.filter_cons_of_neg (by rw [e1, h]; decide), ih]
      unfold mixN
      rw [h]
      rfl
theorem rt_seqE {ρ ρ' : Sv} {st s0 s : List O} {d : D} {a c : Sm} (e : a ρ s0 = .nx ρ' s) (h : Rt (c ρ' s) st d) : Rt (sSeq a c ρ s0) st d := by
  unfold sSeq
  rw [e]
  exact h
theorem rt_seqR {ρ : Sv} {st s0 : List O} {d : D} {a c : Sm} (h : Rt (a ρ s0) st d) : Rt (sSeq a c ρ s0) st d := by
  obtain ⟨s, e, g⟩ := h
  unfold sSeq
  rw [e]
  exact ⟨s, rfl, g⟩
theorem lst_one {ρ : Sv} {st : List O} {i j : Nat} {x : D} {k : Int} (h : ρ[i]? = some (some x)) : sAsg (eAll (eLim (eCons (eTup (eCons (eVar i) (eCons (eC (.int k)) (eNil)))) (eNil)))) (GT.nm j) ρ st = (match asgT (GT.nm j) (.loc st.length) ρ with
  | some ρ' => .nx ρ' (st ++ [.lst [.tup [x, .int k]]])
  | none => .err) := by
  have v : eVar i ρ st = .ok x st := by
    unfold eVar
    rw [h]
  have t : eTup (eCons (eVar i) (eCons (eC (.int k)) (eNil))) ρ st = .ok (.tup [x, .int k]) st := by
    have c : eCons (eVar i) (eCons (eC (.int k)) (eNil)) ρ st = .ok [x, .int k] st := by
      show (eVar i ρ st).bind _ = _
      rw [v]
      rfl
    have z : ([x, .int k] : List D).length ≤ sizeLine := by rw [sizeLine_eq]; simp
    unfold eTup
    rw [c]
    exact if_pos (e := RR.err) z
  have l : eLim (eCons (eTup (eCons (eVar i) (eCons (eC (.int k)) (eNil)))) (eNil)) ρ st = .ok [.tup [x, .int k]] st := by
    have c : eCons (eTup (eCons (eVar i) (eCons (eC (.int k)) (eNil)))) eNil ρ st = .ok [.tup [x, .int k]] st := by
      show (eTup (eCons (eVar i) (eCons (eC (.int k)) (eNil))) ρ st).bind _ = _
      rw [t]
      rfl
    have z : ([.tup [x, .int k]] : List D).length ≤ sizeLine := by rw [sizeLine_eq]; simp
    unfold eLim
    rw [c]
    exact if_pos (e := RR.err) z
  unfold sAsg eAll
  rw [l]
  rfl
theorem c_is_weave_of (m : Nat) (sc : List D) (thing : D) (st : List O) (hsc : lay (.tup sc) = true) (hg : Good thing) (hw : wD thing ≤ 800000) (hd : dep thing ≤ 64) : Ev (callN (m + 9) 9 [.tup sc, thing] st) st (.bl (weaveOf sc thing)) := by
  show Ev (bodyOf (f_is_weave_of (callN (m + 8))) 7 [.tup sc, thing] st) st _
  have e1 := lst_one (ρ := [some (.tup sc), some thing, none, none, none, none, none]) (st := st) (i := 1) (j := 2) (x := thing) (k := 1) rfl
  refine ev_body (rt_seqE e1 ?_)
  have e2 : sAsg (eC (.int 0)) (GT.nm 3) [some (.tup sc), some thing, some (.loc st.length), none, none, none, none] (st ++ [.lst [encN (thing, 1)]]) = .nx [some (.tup sc), some thing, some (.loc st.length), some (.int 0), none, none, none] (st ++ [.lst [encN (thing, 1)]]) := rfl
  refine rt_seqE e2 ?_
  have hL : (st ++ [O.lst [encN (thing, 1)]])[st.length]? = some (.lst ((([] : List Nd) ++ [(thing, 1)]).map encN)) := by simp
  have w1 : wN [(thing, 1)] = wD thing := by
    show wD thing + 0 = _
    omega
  have lp := loop (m := m) (thing := thing) hsc (Nat.le_refl st.length) fuel [] [(thing, 1)] none none none (st ++ [.lst [encN (thing, 1)]]) (Gr.one _) hL (fun p hp => by
    have : p = (thing, 1) := by simpa using hp
    rw [this]
    exact hg) (by rw [w1]; unfold fuel; omega) (by rw [w1]; simp only [List.length_nil]; omega)
  unfold weaveOf
  cases hb : bfs sc fuel [] [(thing, 1)] with
  | none =>
    rw [hb] at lp
    obtain ⟨s', e, g⟩ := lp
    exact rt_seqR ⟨s', e, g⟩
  | some fin =>
    rw [hb] at lp
    obtain ⟨a', b', c', s', e, g, hs', hgood, hlen⟩ := lp
    have vl : ∀ p ∈ fin, Vl sc p.1 := fun p hp => ((bfs_valid _ _ _ _ hb).2 p hp).resolve_left (by simp)
    have dp : ∀ p ∈ fin, dep p.1 ≤ 64 := bfs_dep _ _ _ _ hb (by simp) fun p hp => by
      have : p = (thing, 1) := by simpa using hp
      rw [this]
      exact hd
    refine rt_seqE e (Rt.up g (rt_ret ?_))
    show Ev _ _ (D.bl (fin.all mixN))
    rw [← all_mix]
    refine ev_all gMix ?_
    refine ev_compG (s0 := ⟨fin.map encN, some st.length⟩) (p := qMix) (F := fun d => .bl (gMix d)) (ev_src (ev_var rfl) fun s g => ?_) (fun s g => ?_) ?_ fun d hd => ?_
    · simp only [srcOf, g.get hs']
    · unfold Src.gd
      show (match s[st.length]? with
        | some (.lst l) => decide (l = fin.map encN)
        | _ => false) = true
      rw [g.get hs']
      exact decide_eq_true rfl
    · rw [sizeLine_eq]
      show (fin.map encN).length ≤ _
      rw [List.length_map]
      omega
    · obtain ⟨p, hp, rfl⟩ := List.mem_map.mp hd
      have v := vl p hp
      have hgp := hgood p hp
      have hh : headsD p.1 = true := by
        cases v
        assumption
      obtain ⟨t, r, k, hpe, hk, hl, hm⟩ := heads_is hh
      have ht : strA t = true := (hgp.flat _ hpe).1 (.str t) (by simp) t rfl
      have htag : tagD p.1 = t := by rw [hpe]; rfl
      refine ⟨[some (.tup sc), some thing, some (.loc st.length), some (.int (fin.length : Nat)), some p.1, some (.int p.2), c'], rfl, fun s gs => ⟨?_, fun hq => ?_⟩⟩
      · have : qMix (encN p) = decide (t = "mix") := by
          show decide (tagD p.1 = "mix") = _
          rw [htag]
        rw [this]
        exact ev_is (ev_bin (ev_bin (x := p.1) (ev_var rfl) (fun s _ => ev_c) fun s _ => (by rw [hpe]; exact ix0 _ _ s)) (fun s _ => ev_c) fun s _ => eq_str ht strA_mix s)
      · have hq' : tagD p.1 = "mix" := of_decide_eq_true hq
        rw [htag] at hq'
        have hmx := hm hq'
        have : ∃ es, r = [.tup es] := by
          obtain ⟨y, rfl⟩ := two_of hk hl (.inr hq')
          cases y with
          | tup es => exact ⟨es, rfl⟩
          | _ => cases hmx
        obtain ⟨es, rfl⟩ := this
        have hin : innerD p.1 = es := by
          rw [hpe, inner_eq, if_pos hq']
        show Ev _ _ (D.bl (risesD (innerD p.1)))
        rw [hin]
        have hge : Good (.tup es) := (show Good (.tup [.str t, .tup es]) from hpe ▸ hgp).sub _ (by simp)
        have kv : ∀ x ∈ es, Vl sc x := fun x hx => by
          obtain ⟨_, _, kk⟩ := v
          refine kk (by rw [htag, hq']; decide) x (by rw [hin]; exact hx)
        have ok : ∀ x ∈ es, ∀ y ∈ es, ltOk x y := fun x hx y hy => ⟨vl_lay (kv x hx) (hge.sub x hx), vl_lay (kv y hy) (hge.sub y hy), Nat.le_trans (inner_dep hh x (by rw [hin]; exact hx)) (dp p hp), vl_lt (kv x hx) y (kv y hy)⟩
        refine ev_call (ev_cons (x := .tup es) (ev_bin (x := p.1) (ev_var rfl) (fun s _ => ev_c) fun s _ => ?_) fun s _ => ev_nil) rfl fun s _ => ?_
        · rw [hpe]
          exact ix1 _ _ _ s
        · exact c_rises (m + 5) es s (flat1_len (hge.flat es rfl)) ok
end Tk
/-! P8: is_weave; the law's own are_names. -/
namespace Tk
open PySem L2 Tl
theorem c_is_weave (m : Nat) (sc : List D) (thing : D) (st : List O) (hf : flat1 sc) (hs : isScope (.tup sc) = true) (hsc : lay (.tup sc) = true) (hg : Good thing) (hw : wD thing ≤ 800000) (hd : dep thing ≤ 64) : Ev (callN (m + 10) 11 [.tup sc, thing] st) st (.bl (weaveOf sc thing)) := by
  show Ev (bodyOf (f_is_weave (callN (m + 9))) 2 [.tup sc, thing] st) st _
  exact ev_body (rt_seq (nx_drop (ev_call (ev_cons (ev_var rfl) fun _ _ => ev_nil) rfl fun s _ => c_need_ok m (.tup sc) s (fun ds e => by cases e; exact hf) hs)) fun s _ => rt_ret (ev_call (ev_cons (ev_var rfl) fun _ _ => ev_cons (ev_var rfl) fun _ _ => ev_nil) rfl fun s _ => c_is_weave_of m sc thing s hsc hg hw hd))
theorem c_is_weave_no (m : Nat) (sc thing : D) (st : List O) (hf : ∀ ds, sc = .tup ds → flat1 ds) (hs : isScope sc = false) : Ex (callN (m + 10) 11 [sc, thing] st) st "BadScope" := by
  show Ex (bodyOf (f_is_weave (callN (m + 9))) 2 [sc, thing] st) st _
  exact Ex.drop rfl (ev_cons (ev_var rfl) fun _ _ => ev_nil) rfl fun s _ => c_need_no m sc s hf hs
/-- a loop that may leave early with one answer -/
theorem rt_goF {s0 : Src} (hn : s0.at' = none) {tg : GT} {a : Sm} {bad : D} (p : D → Bool) (I : Sv → Prop) : ∀ (ds : List D) (ρ : Sv) (st : List O), I ρ → (∀ d ∈ ds, ∀ ρ, I ρ → ∃ ρ1, asgT tg d ρ = some ρ1 ∧ ∀ s, (p d = true → ∃ ρ2, Nx (a ρ1 s) s ρ2 ∧ I ρ2) ∧ (p d = false → Rt (a ρ1 s) s bad)) →
    (ds.all p = true → ∃ ρ', Nx (goF s0 tg a ds ρ st) st ρ' ∧ I ρ') ∧ (ds.all p = false → Rt (goF s0 tg a ds ρ st) st bad)
  | [], ρ, st, h, _ => by
    have hg : s0.gd st = true := gd_none hn st
    refine ⟨fun _ => ⟨ρ, ⟨st, ?_, Gr.refl⟩, h⟩, fun z => (by cases z)⟩
    unfold goF
    rw [if_pos hg]
  | d :: ds, ρ, st, h, q => by
    have hg : s0.gd st = true := gd_none hn st
    obtain ⟨ρ1, h1, h2⟩ := q d (by simp) ρ h
    obtain ⟨h3, h4⟩ := h2 st
    have e : goF s0 tg a (d :: ds) ρ st = (match a ρ1 st with
      | .nx ρ2 s2 => goF s0 tg a ds ρ2 s2
      | .ct ρ2 s2 => goF s0 tg a ds ρ2 s2
      | .bk ρ2 s2 => .nx ρ2 s2
      | r => r) := by
      show (if s0.gd st = true then (match asgT tg d ρ with
        | none => SR.err
        | some ρ' => match a ρ' st with
          | .nx ρ2 s2 => goF s0 tg a ds ρ2 s2
          | .ct ρ2 s2 => goF s0 tg a ds ρ2 s2
          | .bk ρ2 s2 => .nx ρ2 s2
          | r => r) else .err) = _
      rw [if_pos hg, h1]
    rw [e, List.all_cons]
    cases hp : p d with
    | false =>
      obtain ⟨s1, e1, g1⟩ := h4 hp
      rw [e1]
      exact ⟨fun z => (by cases z), fun _ => ⟨s1, rfl, g1⟩⟩
    | true =>
      obtain ⟨ρ2, ⟨s1, e1, g1⟩, i2⟩ := h3 hp
      rw [e1, Bool.true_and]
      obtain ⟨a1, a2⟩ := rt_goF hn p I ds ρ2 s1 i2 fun d hd => q d (by simp [hd])
      exact ⟨fun z => by
        obtain ⟨ρ', n', i'⟩ := a1 z
        exact ⟨ρ', n'.up g1, i'⟩, fun z => (a2 z).up g1⟩
/-- the same, before the rest -/
theorem rt_for {src : Sv → List O → RR Src} {s0 : Src} {tg : GT} {a c : Sm} {bad d : D} {ρ : Sv} {st : List O} (hs : Ev (src ρ st) st s0) (hn : s0.at' = none) (p : D → Bool) (I : Sv → Prop) (i0 : I ρ) (q : ∀ d ∈ s0.its, ∀ ρ, I ρ → ∃ ρ1, asgT tg d ρ = some ρ1 ∧ ∀ s, (p d = true → ∃ ρ2, Nx (a ρ1 s) s ρ2 ∧ I ρ2) ∧ (p d = false → Rt (a ρ1 s) s bad)) (h1 : s0.its.all p = true → ∀ ρ', I ρ' → ∀ s, Gr st s → Rt (c ρ' s) s d) (h2 : s0.its.all p = false → d = bad) : Rt (sSeq (sFor src tg a) c ρ st) st d := by
  obtain ⟨s, e, g⟩ := hs
  have f : sFor src tg a ρ st = goF s0 tg a s0.its ρ s := by
    unfold sFor
    rw [e]
    rfl
  obtain ⟨a1, a2⟩ := rt_goF hn p I s0.its ρ s i0 q
  cases hp : s0.its.all p with
  | true =>
    obtain ⟨ρ', n', i'⟩ := a1 hp
    exact rt_seq (by rw [f]; exact n'.up g) fun s g => h1 hp ρ' i' s g
  | false =>
    rw [h2 hp]
    exact rt_seq1 (by rw [f]; exact (a2 hp).up g)
/-! ### lists of plain texts -/
theorem lay_lst {ds : List D} (h : ∀ d ∈ ds, lay d = true) : lay (.lst ds) = true := lay_tup h
theorem sgn_lay {x : Str} (h : strA x = true) : ∀ d ∈ signs x, lay d = true := by
  intro d hd
  unfold signs at hd
  obtain ⟨c, hc, rfl⟩ := List.mem_map.mp hd
  unfold strA at h
  rw [Bool.and_eq_true] at h
  have h2 := h.2
  rw [Array.all_eq_true'] at h2
  have := h2 c (by simpa using hc)
  refine strA_lay ?_
  unfold strA
  rw [Bool.and_eq_true]
  refine ⟨decide_eq_true ?_, ?_⟩
  · show (#[c] : Array Nat).size ≤ 100000
    simp
  · show (#[c] : Array Nat).all _ = true
    simpa using this
theorem ne_lnil {ds : List D} (h : lay (.lst ds) = true) (s : List O) : pr2 (dEq true) s [.lst ds, .lst []] = some (.bl (!ds.isEmpty), s) := by
  rw [pr2_eq]
  have n : noneIn (.lst ds) (.lst []) = none := rfl
  have c : lay (deref s (.lst ds)) = true ∧ lay (deref s (.lst [])) = true ∧ min (dep (deref s (.lst ds))) (dep (deref s (.lst []))) ≤ 64 := ⟨h, rfl, by
    have : dep (deref s (.lst [])) = 1 := rfl
    omega⟩
  unfold dEq
  rw [n]
  simp only [if_pos c]
  cases ds <;> rfl
/-! ### _law_are_names -/
def lawName : D → Bool
  | .str x => decide ((1 : Int) ≤ (x.length : Nat)) && decide (((x.length : Nat) : Int) ≤ 8) && (signs x).all aToZ
  | _ => false
theorem filter_none (p : D → Bool) : ∀ ds : List D, (ds.filter fun d => !p d).isEmpty = ds.all p
  | [] => rfl
  | d :: ds => by
    rw [List.all_cons]
    cases h : p d with
    | true => rw [List.filter_cons_of_neg (by simp [h]), filter_none p ds, Bool.true_and]
    | false =>
      rw [List.filter_cons_of_pos (by simp [h])]
      rfl
end Tk
/-! P9: the law's own are_names. -/
namespace Tk
open PySem L2 Tl
def strsOf (ds : List D) : List Str := (allStr ds).getD []
def lawNames : D → Bool
  | .tup ds => ds.all lawName && peq (.lst ds) (.lst ((sortStrs (dedupS (strsOf ds))).map .str))
  | _ => false
theorem all_str : ∀ {ds : List D}, ds.all lawName = true → ∃ xs, allStr ds = some xs ∧ ds = xs.map .str
  | [], _ => ⟨[], rfl, rfl⟩
  | d :: ds, h => by
    rw [List.all_cons, Bool.and_eq_true] at h
    obtain ⟨xs, h1, h2⟩ := all_str h.2
    cases d with
    | str x =>
      refine ⟨x :: xs, ?_, by rw [h2]; rfl⟩
      show (allStr ds).map (x :: ·) = _
      rw [h1]
      rfl
    | _ => cases h.1
theorem dedup_len : ∀ xs : List Str, (dedupS xs).length ≤ xs.length
  | [] => Nat.le_refl _
  | x :: xs => by
    have := dedup_len xs
    unfold dedupS
    split
    · rw [List.length_cons]
      omega
    · rw [List.length_cons, List.length_cons]
      omega
theorem mem_sorts {xs : List Str} {x : Str} (h : x ∈ sortStrs (dedupS xs)) : x ∈ xs := by
  unfold sortStrs at h
  rw [List.mem_mergeSort] at h
  exact mem_dedupS.mp h
theorem eq_lst {xs ys : List D} (h1 : lay (.lst xs) = true) (h2 : lay (.lst ys) = true) (h3 : dep (.lst xs) ≤ 64) (s : List O) : pr2 (dEq false) s [.lst xs, .lst ys] = some (.bl (peq (.lst xs) (.lst ys)), s) := by
  rw [pr2_eq]
  have n : noneIn (.lst xs) (.lst ys) = none := rfl
  have c : lay (deref s (.lst xs)) = true ∧ lay (deref s (.lst ys)) = true ∧ min (dep (deref s (.lst xs))) (dep (deref s (.lst ys))) ≤ 64 := ⟨h1, h2, Nat.le_trans (Nat.min_le_left _ _) h3⟩
  unfold dEq
  rw [n]
  simp only [if_pos c]
  rfl
theorem dep_strs : ∀ xs : List Str, PyData.depthAll (toPs (xs.map .str)) = 0
  | [] => rfl
  | x :: xs => by
    have := dep_strs xs
    simp only [List.map_cons, toPs, toP, PyData.depthAll, PyData.depth]
    omega
theorem c_law_are_names (n : Nat) (d : D) (st : List O) (hs : ∀ ds, d = .tup ds → flat1 ds ∧ ds.length ≤ 4000) : Ev (callN (n + 3) 30 [d] st) st (.bl (lawNames d)) := by
  show Ev (bodyOf (f__law_are_names (callN (n + 2))) 3 [d] st) st _
  cases hd : isTup d with
  | false =>
    have e : lawNames d = false := by cases d <;> first | rfl | cases hd
    rw [e]
    have test := ev_not (ev_truB (ev_isi (ρ := [some d, none, none]) (st := st) (T := "tuple") (ev_var (i := 0) rfl) fun s => kit_tuple s d))
    rw [hd] at test
    exact ev_body (rt_guard test (fun _ s _ => rt_ret ev_c) fun z => by cases z)
  | true =>
    cases d with
    | tup ds =>
      obtain ⟨hf, h4⟩ := hs ds rfl
      have test := ev_not (ev_truB (ev_isi (ρ := [some (.tup ds), none, none]) (st := st) (T := "tuple") (ev_var (i := 0) rfl) fun s => kit_tuple s (.tup ds)))
      refine ev_body (rt_guard test (fun z => by cases z) fun _ s _ => ?_)
      refine rt_for (s0 := ⟨ds, none⟩) (ev_src (ev_var rfl) fun _ _ => rfl) rfl lawName (fun ρ => ∃ x y, ρ = [some (.tup ds), x, y]) (bad := .bl false) ⟨_, _, rfl⟩ (fun e he ρ hI => ?_) (fun ha ρ hI s _ => ?_) fun ha => ?_
      · obtain ⟨x, y, rfl⟩ := hI
        refine ⟨[some (.tup ds), some e, y], rfl, fun s => ?_⟩
        cases hx : isStr e with
        | false =>
          have en : lawName e = false := by cases e <;> first | rfl | cases hx
          rw [en]
          refine ⟨fun z => (by cases z), fun _ => rt_if (b := true) (guard_str rfl hx) (fun _ s _ => rt_ret ev_c) fun z => by cases z⟩
        | true =>
          cases e with
          | str x =>
            have hA : strA x = true := hf.1 _ he x rfl
            have len : ∀ (ρ : Sv) (st : List O), ρ[1]? = some (some (.str x)) → Ev (ePr (pr1 dLen) (eCons (eVar 1) eNil) ρ st) st (.int (x.length : Nat)) := fun ρ st h => ev_pr (ev_cons (ev_var h) fun _ _ => ev_nil) fun s _ => by
              show (dLen s (.str x)).map _ = _
              unfold dLen
              simp only
              rw [if_pos (strA_len hA)]
              rfl
            have sl : ∀ d ∈ signs x, lay d = true := sgn_lay hA
            have fl : lay (.lst (((signs x).filter fun d => !aToZ d).map id)) = true := lay_lst fun d hd => by
              rw [List.map_id, List.mem_filter] at hd
              exact sl d hd.1
            have test := ev_or (ev_not (ev_truB (ev_isi (ρ := [some (.tup ds), some (.str x), y]) (st := s) (T := "str") (ev_var (i := 1) rfl) fun s => kit_str s (.str x)))) fun _ s _ =>
              ev_or (ev_not (ev_is (ev_ch (h := pr2 dLe) (h' := pr2 dLe) (ρ := [some (.tup ds), some (.str x), y]) (st := s) (b := decide ((1 : Int) ≤ (x.length : Nat))) (c := decide (((x.length : Nat) : Int) ≤ 8)) (ev_c (d := .int 1)) (fun s2 _ => len _ s2 rfl) (fun s2 _ => rfl) (fun _ s2 _ => ev_c (d := .int 8)) fun _ s2 _ => rfl))) fun _ s2 _ =>
                ev_is (ev_bin (h := pr2 (dEq true)) (ev_frz (ev_comp (s0 := ⟨signs x, none⟩) (p := fun d => !aToZ d) (F := id) (tg := GT.nm 2) (own := [2]) (t := eNot (eIs (eCh (pr2 dLe) (pr2 dLe) (eC (.str "a")) (eVar 2) (eC (.str "z"))))) (f := eVar 2) (ev_src (ev_var (i := 1) rfl) fun _ _ => rfl) rfl (by rw [sgn_len]; exact strA_len hA) fun d hd => by
                  obtain ⟨z, rfl⟩ := sgn_str hd
                  exact ⟨_, rfl, fun s2 _ => ⟨ev_not (ev_is (ev_ch (h := pr2 dLe) (h' := pr2 dLe) ev_c (fun s3 _ => ev_var rfl) (fun s3 _ => rfl) (fun _ s3 _ => ev_c) fun _ s3 _ => rfl)), fun _ => ev_var rfl⟩⟩)) (fun s3 _ => ev_frz (ev_lim ev_nil (Nat.zero_le _))) fun s3 _ => ne_lnil fl s3)
            have tv : (!isStr (.str x) || (!(decide ((1 : Int) ≤ (x.length : Nat)) && decide (((x.length : Nat) : Int) ≤ 8)) || !(((signs x).filter fun d => !aToZ d).map id).isEmpty)) = !lawName (.str x) := by
              rw [List.map_id, filter_none]
              show (false || _) = !(decide ((1 : Int) ≤ (x.length : Nat)) && decide (((x.length : Nat) : Int) ≤ 8) && (signs x).all aToZ)
              cases decide ((1 : Int) ≤ (x.length : Nat)) <;> cases decide (((x.length : Nat) : Int) ≤ 8) <;> cases (signs x).all aToZ <;> rfl
            rw [tv] at test
            refine ⟨fun hn => ⟨_, nx_if test (fun z => ?_) fun _ s _ => nx_next, ⟨_, _, rfl⟩⟩, fun hn => rt_if test (fun _ s _ => rt_ret ev_c) fun z => ?_⟩
            · rw [hn] at z
              cases z
            · rw [hn] at z
              cases z
          | _ => cases hx
      · obtain ⟨x, y, rfl⟩ := hI
        have ha' : ds.all lawName = true := ha
        obtain ⟨xs, h1, h2⟩ := all_str ha'
        have hlen : xs.length ≤ 4000 := by
          rw [h2, List.length_map] at h4
          exact h4
        have sA : ∀ x ∈ xs, strA x = true := fun x hx => hf.1 (.str x) (by rw [h2]; exact List.mem_map_of_mem hx) x rfl
        have e : lawNames (.tup ds) = peq (.lst ds) (.lst ((sortStrs (dedupS xs)).map .str)) := by
          show (ds.all lawName && peq (.lst ds) (.lst ((sortStrs (dedupS (strsOf ds))).map .str))) = _
          rw [ha', Bool.true_and]
          unfold strsOf
          rw [h1]
          rfl
        rw [e]
        refine rt_ret (ev_bin (x := .lst ds) (y := .lst ((sortStrs (dedupS xs)).map .str)) (ev_frz ?_) (fun s _ => ev_frz ?_) fun s _ => ?_)
        · refine (ev_cons (ev_var rfl) fun s _ => ev_nil).bind fun s _ => ?_
          exact Ev.of
        · refine (ev_var (i := 0) rfl).bind fun s _ => ?_
          have : dSortSet (.tup ds) = some ((sortStrs (dedupS xs)).map .str) := by
            show ((allStr ds).bind fun xs => if xs.length + 1 < scanBound then some ((sortStrs (dedupS xs)).map D.str) else none) = _
            rw [h1]
            show (if xs.length + 1 < scanBound then some ((sortStrs (dedupS xs)).map D.str) else none) = _
            rw [if_pos (by unfold scanBound; omega)]
          rw [this]
          exact Ev.of
        · refine eq_lst (lay_lst fun d hd => ?_) (lay_lst fun d hd => ?_) ?_ s
          · rw [h2] at hd
            obtain ⟨x, hx, rfl⟩ := List.mem_map.mp hd
            exact strA_lay (sA x hx)
          · obtain ⟨x, hx, rfl⟩ := List.mem_map.mp hd
            exact strA_lay (sA x (mem_sorts hx))
          · have := dep_strs xs
            rw [h2]
            simp only [dep, toP, PyData.depth]
            omega
      · show D.bl (ds.all lawName && _) = _
        rw [show ds.all lawName = false from ha]
        rfl
    | _ => cases hd
end Tk
/-! P10: names in order: the law's word and the program's agree. -/
namespace Tk
open PySem L2 Tl
abbrev sLt (a b : Str) : Prop := a.cps.toList < b.cps.toList
theorem sLt_le {a b : Str} (h : sLt a b) : strLe a b = true := decide_eq_true (List.le_of_lt h)
theorem sLt_ne {a b : Str} (h : sLt a b) : a ≠ b := fun e => by
  rw [e] at h
  exact List.lt_irrefl _ h
theorem sLt_of {a b : Str} (h : strLe a b = true) (n : a ≠ b) : sLt a b := by
  have h' : a.cps.toList ≤ b.cps.toList := of_decide_eq_true h
  rcases Classical.em (b.cps.toList ≤ a.cps.toList) with k | k
  · exact absurd (PySem.W.str_of_cps (List.le_antisymm h' k)) n
  · exact List.not_le.mp k
theorem dedup_same : ∀ {xs : List Str}, xs.Nodup → dedupS xs = xs
  | [], _ => rfl
  | x :: xs, h => by
    rw [List.nodup_cons] at h
    unfold dedupS
    rw [if_neg h.1, dedup_same h.2]
theorem sorts_iff (xs : List Str) : sortStrs (dedupS xs) = xs ↔ xs.Pairwise sLt := by
  constructor
  · intro h
    have s : (sortStrs (dedupS xs)).Pairwise (fun a b => strLe a b = true) := List.pairwise_mergeSort strLe_trans strLe_total _
    have n : (sortStrs (dedupS xs)).Nodup := (List.mergeSort_perm _ _).nodup_iff.mpr (nd_dedupS xs)
    rw [h] at s n
    exact (s.and n).imp fun h => sLt_of h.1 h.2
  · intro h
    have n : xs.Nodup := h.imp fun z => sLt_ne z
    rw [dedup_same n]
    exact List.mergeSort_of_pairwise (h.imp fun z => sLt_le z)
theorem rises_strs : ∀ xs : List Str, risesD (xs.map .str) = true ↔ xs.Pairwise sLt
  | [] => ⟨fun _ => List.Pairwise.nil, fun _ => rfl⟩
  | [x] => ⟨fun _ => List.pairwise_singleton _ _, fun _ => rfl⟩
  | x :: y :: r => by
    have ih := rises_strs (y :: r)
    have e : risesD ((x :: y :: r).map .str) = (decide (sLt x y) && risesD ((y :: r).map .str)) := rfl
    rw [e, Bool.and_eq_true, ih, decide_eq_true_eq]
    constructor
    · rintro ⟨h1, h2⟩
      refine List.pairwise_cons.mpr ⟨fun z hz => ?_, h2⟩
      rcases List.mem_cons.mp hz with q | q
      · rw [q]
        exact h1
      · exact List.lt_trans h1 (List.rel_of_pairwise_cons h2 q)
    · intro h
      rw [List.pairwise_cons] at h
      exact ⟨h.1 y (by simp), h.2⟩
theorem peq_strs : ∀ (xs ys : List Str), PyData.eqvAll (toPs (xs.map .str)) (toPs (ys.map .str)) = decide (xs = ys)
  | [], [] => rfl
  | [], y :: ys => rfl
  | x :: xs, [] => rfl
  | x :: xs, y :: ys => by
    have ih := peq_strs xs ys
    show ((x == y) && PyData.eqvAll (toPs (xs.map .str)) (toPs (ys.map .str))) = _
    rw [ih]
    by_cases h : x = y
    · by_cases k : xs = ys <;> simp [h, k]
    · simp [h]
theorem lawNames_eq (ds : List D) : lawNames (.tup ds) = (ds.all lawName && risesD ds) := by
  show (ds.all lawName && _) = _
  cases h : ds.all lawName with
  | false => rfl
  | true =>
    obtain ⟨xs, h1, h2⟩ := all_str h
    rw [Bool.true_and, Bool.true_and]
    have e : strsOf ds = xs := by
      unfold strsOf
      rw [h1]
      rfl
    rw [e]
    have e2 : peq (.lst ds) (.lst ((sortStrs (dedupS xs)).map .str)) = decide (xs = sortStrs (dedupS xs)) := by
      rw [h2]
      exact peq_strs _ _
    rw [e2, h2, Bool.eq_iff_iff, decide_eq_true_eq, rises_strs, ← sorts_iff]
    exact eq_comm
end Tk
/-! P11: the worklist's word as a word over trees. -/
namespace Tk
open PySem L2 Tl
def vOk (sc : List D) : Nat → D → Bool
  | 0, _ => false
  | n + 1, d => headsD d && ((!decide (tagD d = "letter") || isLetter sc (secD d)) && (innerD d).all (vOk sc n))
def cnt : Nat → D → Nat
  | 0, _ => 1
  | n + 1, d => 1 + ((innerD d).map (cnt n)).sum
def mixA : Nat → D → Bool
  | 0, _ => true
  | n + 1, d => (!decide (tagD d = "mix") || risesD (innerD d)) && (innerD d).all (mixA n)
def remN (p : Nd) : Nat := (61 - p.2).toNat
def okP (sc : List D) (p : Nd) : Bool := vOk sc (remN p) p.1
def mixP (p : Nd) : Bool := mixA (remN p) p.1
def totN (ps : List Nd) : Nat := (ps.map fun p => cnt (remN p) p.1).sum
theorem cnt_pos : ∀ (n : Nat) (d : D), 1 ≤ cnt n d
  | 0, _ => Nat.le_refl _
  | n + 1, d => by
    show 1 ≤ 1 + _
    omega
theorem tot_len : ∀ ps : List Nd, ps.length ≤ totN ps
  | [] => Nat.le_refl _
  | p :: ps => by
    have h1 := tot_len ps
    have h2 := cnt_pos (remN p) p.1
    unfold totN at h1 ⊢
    rw [List.map_cons, List.sum_cons, List.length_cons]
    omega
theorem tot_app (xs ys : List Nd) : totN (xs ++ ys) = totN xs + totN ys := by
  unfold totN
  rw [List.map_append, List.sum_append]
theorem inner_letter {d : D} (h : tagD d = "letter") : innerD d = [] := by
  unfold tagD at h
  split at h
  · rename_i t r
    rw [inner_eq, h, if_neg (by decide), if_pos (.inr rfl)]
  · exact absurd h (by decide)
theorem kids_eq (p : Nd) : kidsN p = (innerD p.1).map fun d => (d, p.2 + 1) := by
  unfold kidsN
  by_cases h : tagD p.1 = "letter"
  · rw [if_pos h, inner_letter h]
    rfl
  · rw [if_neg h]
theorem rem_kid {p : Nd} (h : p.2 ≤ 60) (d : D) : remN p = remN (d, p.2 + 1) + 1 := by
  unfold remN
  simp only
  omega
/-- one node of the list, seen as a tree -/
theorem node_one {sc : List D} {p : Nd} (h : p.2 ≤ 60) : okP sc p = (headsD p.1 && ((!decide (tagD p.1 = "letter") || isLetter sc (secD p.1)) && (kidsN p).all (okP sc))) ∧ mixP p = (mixN p && (kidsN p).all mixP) ∧ cnt (remN p) p.1 = 1 + totN (kidsN p) := by
  obtain ⟨m, hm⟩ : ∃ m, m = (60 - p.2).toNat := ⟨_, rfl⟩
  have e : remN p = m + 1 := by
    unfold remN
    omega
  have k : ∀ d : D, remN (d, p.2 + 1) = m := fun d => by
    unfold remN
    simp only
    omega
  refine ⟨?_, ?_, ?_⟩
  · unfold okP
    rw [e, kids_eq, List.all_map]
    show (headsD p.1 && ((!decide (tagD p.1 = "letter") || isLetter sc (secD p.1)) && (innerD p.1).all (vOk sc m))) = _
    congr 2
    refine congrArg (List.all _) (funext fun d => ?_)
    show _ = vOk sc (remN (d, p.2 + 1)) d
    rw [k]
  · unfold mixP
    rw [e, kids_eq, List.all_map]
    show ((!decide (tagD p.1 = "mix") || risesD (innerD p.1)) && (innerD p.1).all (mixA m)) = _
    unfold mixN
    congr 1
    refine congrArg (List.all _) (funext fun d => ?_)
    show _ = mixA (remN (d, p.2 + 1)) d
    rw [k]
  · rw [e, kids_eq]
    unfold totN
    rw [List.map_map]
    show 1 + ((innerD p.1).map (cnt m)).sum = _
    congr 2
    refine congrArg (fun f => List.map f _) (funext fun d => ?_)
    show _ = cnt (remN (d, p.2 + 1)) d
    rw [k]
theorem ok_some {sc : List D} {p : Nd} (h : okP sc p = true) : p.2 ≤ 60 := by
  unfold okP at h
  by_cases k : p.2 ≤ 60
  · exact k
  · rw [show remN p = 0 by unfold remN; omega] at h
    cases h
theorem bfs_full {sc : List D} : ∀ (n : Nat) (pre rest : List Nd), wN rest < n → pre.length ≤ 400 →
    ((rest.all (okP sc) && decide (pre.length + totN rest ≤ 400)) = true → ∃ fin, bfs sc n pre rest = some fin ∧ fin.all mixN = (pre.all mixN && rest.all mixP)) ∧ ((rest.all (okP sc) && decide (pre.length + totN rest ≤ 400)) = false → bfs sc n pre rest = none)
  | 0, pre, rest, hw, _ => absurd hw (by omega)
  | n + 1, pre, [], hw, hp => by
    refine ⟨fun _ => ⟨pre, rfl, by simp⟩, fun z => ?_⟩
    rw [show decide (pre.length + totN ([] : List Nd) ≤ 400) = true from decide_eq_true (by show pre.length + 0 ≤ 400; omega)] at z
    cases z
  | n + 1, pre, p :: rest, hw, hp => by
    have e : bfs sc (n + 1) pre (p :: rest) = (if okN sc (pre.length + 1 + rest.length) p = true then bfs sc n (pre ++ [p]) (rest ++ kidsN p) else none) := rfl
    rw [e]
    have tl : totN (p :: rest) = cnt (remN p) p.1 + totN rest := by
      unfold totN
      rw [List.map_cons, List.sum_cons]
    rw [wN_cons] at hw
    by_cases hok : okN sc (pre.length + 1 + rest.length) p = true
    · rw [if_pos hok]
      unfold okN at hok
      rw [Bool.and_eq_true, Bool.and_eq_true, Bool.and_eq_true, decide_eq_true_eq, decide_eq_true_eq] at hok
      obtain ⟨ok1, ok2, ok3, ok4⟩ := hok
      obtain ⟨n1, n2, n3⟩ := node_one (sc := sc) ok2
      rw [ok1, ok4, Bool.true_and, Bool.true_and] at n1
      have hk := kids_w ok1
      have ih := bfs_full (sc := sc) n (pre ++ [p]) (rest ++ kidsN p) (by rw [wN_app]; omega) (by rw [List.length_append]; simp only [List.length_cons, List.length_nil]; omega)
      have t1 : ((rest ++ kidsN p).all (okP sc) && decide ((pre ++ [p]).length + totN (rest ++ kidsN p) ≤ 400)) = ((p :: rest).all (okP sc) && decide (pre.length + totN (p :: rest) ≤ 400)) := by
        rw [List.all_append, List.all_cons, n1, tot_app, tl, n3, Bool.and_comm (rest.all _)]
        congr 1
        refine decide_eq_decide.mpr ?_
        rw [List.length_append]
        simp only [List.length_cons, List.length_nil]
        omega
      have t2 : ((pre ++ [p]).all mixN && (rest ++ kidsN p).all mixP) = (pre.all mixN && (p :: rest).all mixP) := by
        rw [List.all_append, List.all_append, List.all_cons, List.all_cons, List.all_nil, n2]
        cases pre.all mixN <;> cases mixN p <;> cases rest.all mixP <;> cases (kidsN p).all mixP <;> rfl
      rw [t1, t2] at ih
      exact ih
    · rw [if_neg hok]
      refine ⟨fun z => absurd ?_ hok, fun _ => rfl⟩
      rw [Bool.and_eq_true, List.all_cons, Bool.and_eq_true, decide_eq_true_eq] at z
      obtain ⟨⟨z1, z2⟩, z3⟩ := z
      have l := ok_some z1
      obtain ⟨n1, n2, n3⟩ := node_one (sc := sc) l
      rw [n1, Bool.and_eq_true, Bool.and_eq_true] at z1
      have c1 := cnt_pos (remN p) p.1
      have c2 := tot_len rest
      unfold okN
      rw [z1.1, z1.2.1, decide_eq_true l, decide_eq_true (by omega)]
      rfl
theorem weaveOf_eq {sc : List D} {thing : D} (h : wD thing < fuel) : weaveOf sc thing = (vOk sc 60 thing && decide (cnt 60 thing ≤ 400) && mixA 60 thing) := by
  obtain ⟨h1, h2⟩ := bfs_full (sc := sc) fuel [] [(thing, 1)] (by show wD thing + 0 < fuel; omega) (Nat.zero_le _)
  have e : (([(thing, 1)] : List Nd).all (okP sc) && decide (([] : List Nd).length + totN [(thing, 1)] ≤ 400)) = (vOk sc 60 thing && decide (cnt 60 thing ≤ 400)) := by
    have a : ([(thing, 1)] : List Nd).all (okP sc) = vOk sc 60 thing := by
      rw [List.all_cons, List.all_nil, Bool.and_true]
      rfl
    have b : ([] : List Nd).length + totN [(thing, 1)] = cnt 60 thing := by
      show 0 + (cnt 60 thing + 0) = _
      omega
    rw [a, b]
  rw [e] at h1 h2
  unfold weaveOf
  cases k : (vOk sc 60 thing && decide (cnt 60 thing ≤ 400)) with
  | true =>
    obtain ⟨fin, f1, f2⟩ := h1 k
    rw [f1]
    show fin.all mixN = _
    rw [f2, List.all_cons, List.all_nil, List.all_nil, Bool.and_true]
    rfl
  | false =>
    rw [h2 k]
    rfl
end Tk
/-! P12: an order-keeping key of a tree of texts and tuples. -/
namespace Tk
open PySem L2 Tl
mutual
def keyP : PyData → List Nat
  | .str s => s.cps.toList.map (· + 1) ++ [0]
  | .tuple xs => keyPs xs
  | _ => []
def keyPs : List PyData → List Nat
  | [] => [0]
  | x :: xs => 1 :: (keyP x ++ keyPs xs)
end
mutual
def plainP : PyData → Bool
  | .str _ => true
  | .tuple xs => plainPs xs
  | _ => false
def plainPs : List PyData → Bool
  | [] => true
  | x :: xs => plainP x && plainPs xs
end
theorem app_lt (a : List Nat) (b c : List Nat) : a ++ b < a ++ c ↔ b < c := by
  induction a with
  | nil => exact Iff.rfl
  | cons x a ih =>
    rw [List.cons_append, List.cons_append, List.cons_lt_cons_iff, ih]
    constructor
    · rintro (h | h)
      · exact absurd h (Nat.lt_irrefl _)
      · exact h.2
    · exact fun h => .inr ⟨rfl, h⟩
theorem key_str : ∀ (a b : List Nat), a ≠ b → ∀ r r', ((a.map (· + 1) ++ [0]) ++ r < (b.map (· + 1) ++ [0]) ++ r' ↔ a < b) ∧ (a.map (· + 1) ++ [0]) ++ r ≠ (b.map (· + 1) ++ [0]) ++ r'
  | [], [], h, r, r' => absurd rfl h
  | [], y :: b, h, r, r' => by
    constructor
    · constructor
      · exact fun _ => List.nil_lt_cons _ _
      · exact fun _ => List.cons_lt_cons_iff.mpr (.inl (by show 0 < y + 1; omega))
    · intro e
      have := (List.cons.inj (show 0 :: ([] ++ r) = (y + 1) :: _ from e)).1
      omega
  | x :: a, [], h, r, r' => by
    constructor
    · constructor
      · intro z
        rcases List.cons_lt_cons_iff.mp (show (x + 1) :: _ < 0 :: ([] ++ r') from z) with q | q
        · exact absurd q (by omega)
        · exact absurd q.1 (by omega)
      · exact fun z => absurd z (List.not_lt_nil _)
    · intro e
      have := (List.cons.inj (show (x + 1) :: _ = 0 :: ([] ++ r') from e)).1
      omega
  | x :: a, y :: b, h, r, r' => by
    show ((x + 1) :: ((a.map (· + 1) ++ [0]) ++ r) < (y + 1) :: ((b.map (· + 1) ++ [0]) ++ r') ↔ _) ∧ (x + 1) :: ((a.map (· + 1) ++ [0]) ++ r) ≠ (y + 1) :: ((b.map (· + 1) ++ [0]) ++ r')
    rw [List.cons_lt_cons_iff, List.cons_lt_cons_iff]
    by_cases hx : x = y
    · subst hx
      have hn : a ≠ b := fun e => h (by rw [e])
      obtain ⟨h1, h2⟩ := key_str a b hn r r'
      rw [h1]
      exact ⟨⟨fun z => z.imp (by omega) fun q => ⟨rfl, q.2⟩, fun z => z.imp (by omega) fun q => ⟨rfl, q.2⟩⟩, fun e => h2 (List.cons.inj e).2⟩
    · refine ⟨⟨fun z => ?_, fun z => ?_⟩, fun e => ?_⟩
      · rcases z with q | q
        · exact .inl (by omega)
        · exact absurd q.1 (by omega)
      · rcases z with q | q
        · exact .inl (by omega)
        · exact absurd q.1 hx
      · have := (List.cons.inj e).1
        omega
mutual
theorem key_eqv : ∀ (x y : PyData), plainP x = true → plainP y = true → PyData.eqv x y = true → keyP x = keyP y
  | .str a, y, h1, h2, h => by
    cases y with
    | str b =>
      have : a = b := by simpa using (show (a == b) = true from h)
      rw [this]
    | tuple ys => cases h
    | _ => cases h2
  | .tuple xs, y, h1, h2, h => by
    cases y with
    | str b => cases h
    | tuple ys => exact key_eqvs xs ys h1 h2 h
    | _ => cases h2
  | .none, y, h1, _, _ => by cases h1
  | .bool _, y, h1, _, _ => by cases h1
  | .int _, y, h1, _, _ => by cases h1
  | .list _, y, h1, _, _ => by cases h1
  | .dict _, y, h1, _, _ => by cases h1
theorem key_eqvs : ∀ (xs ys : List PyData), plainPs xs = true → plainPs ys = true → PyData.eqvAll xs ys = true → keyPs xs = keyPs ys
  | [], [], _, _, _ => rfl
  | [], y :: ys, _, _, h => by cases h
  | x :: xs, [], _, _, h => by cases h
  | x :: xs, y :: ys, h1, h2, h => by
    have h1' : (plainP x && plainPs xs) = true := h1
    have h2' : (plainP y && plainPs ys) = true := h2
    have h' : (PyData.eqv x y && PyData.eqvAll xs ys) = true := by rwa [PyData.eqvAll] at h
    rw [Bool.and_eq_true] at h1' h2' h'
    show 1 :: (keyP x ++ keyPs xs) = 1 :: (keyP y ++ keyPs ys)
    rw [key_eqv x y h1'.1 h2'.1 h'.1, key_eqvs xs ys h1'.2 h2'.2 h'.2]
end
mutual
theorem key_lt : ∀ (x y : PyData) (k : Bool), plainP x = true → plainP y = true → PyData.eqv x y = false → ltP x y = some k → ∀ r r', (keyP x ++ r < keyP y ++ r' ↔ k = true) ∧ keyP x ++ r ≠ keyP y ++ r'
  | .str a, y, k, h1, h2, h, hl => by
    cases y with
    | str b =>
      have hn : a ≠ b := by simpa using (show (a == b) = false from h)
      have hn' : a.cps.toList ≠ b.cps.toList := fun e => hn (PySem.W.str_of_cps e)
      have hk : decide (a.cps.toList < b.cps.toList) = k := by
        rw [ltP] at hl
        exact Option.some.inj hl
      intro r r'
      obtain ⟨q1, q2⟩ := key_str _ _ hn' r r'
      refine ⟨?_, q2⟩
      rw [← hk, decide_eq_true_eq]
      exact q1
    | tuple ys => rw [ltP] at hl <;> cases hl
    | _ => cases h2
  | .tuple xs, y, k, h1, h2, h, hl => by
    cases y with
    | str b => rw [ltP] at hl <;> cases hl
    | tuple ys =>
      rw [ltP] at hl
      exact key_lts xs ys k h1 h2 h hl
    | _ => cases h2
  | .none, y, k, h1, _, _, _ => by cases h1
  | .bool _, y, k, h1, _, _, _ => by cases h1
  | .int _, y, k, h1, _, _, _ => by cases h1
  | .list _, y, k, h1, _, _, _ => by cases h1
  | .dict _, y, k, h1, _, _, _ => by cases h1
theorem key_lts : ∀ (xs ys : List PyData) (k : Bool), plainPs xs = true → plainPs ys = true → PyData.eqvAll xs ys = false → ltPs xs ys = some k → ∀ r r', (keyPs xs ++ r < keyPs ys ++ r' ↔ k = true) ∧ keyPs xs ++ r ≠ keyPs ys ++ r'
  | [], [], k, _, _, h, _ => by cases h
  | [], y :: ys, k, _, _, _, hl => by
    rw [ltPs] at hl
    cases hl
    intro r r'
    show (0 :: ([] ++ r) < 1 :: _ ↔ _) ∧ (0 :: ([] ++ r)) ≠ 1 :: _
    rw [List.cons_lt_cons_iff]
    exact ⟨⟨fun _ => rfl, fun _ => .inl (by omega)⟩, fun e => absurd (List.cons.inj e).1 (by omega)⟩
  | x :: xs, [], k, _, _, _, hl => by
    rw [ltPs] at hl
    cases hl
    intro r r'
    show (1 :: _ < 0 :: ([] ++ r') ↔ _) ∧ 1 :: _ ≠ (0 :: ([] ++ r'))
    rw [List.cons_lt_cons_iff]
    exact ⟨⟨fun z => (z.elim (fun q => absurd q (by omega)) fun q => absurd q.1 (by omega)), fun z => by cases z⟩, fun e => absurd (List.cons.inj e).1 (by omega)⟩
  | x :: xs, y :: ys, k, h1, h2, h, hl => by
    have h1' : (plainP x && plainPs xs) = true := h1
    have h2' : (plainP y && plainPs ys) = true := h2
    have h' : (PyData.eqv x y && PyData.eqvAll xs ys) = false := by rwa [PyData.eqvAll] at h
    rw [Bool.and_eq_true] at h1' h2'
    rw [ltPs] at hl
    intro r r'
    have e1 : keyPs (x :: xs) ++ r = 1 :: (keyP x ++ (keyPs xs ++ r)) := by
      show 1 :: ((keyP x ++ keyPs xs) ++ r) = _
      rw [List.append_assoc]
    have e2 : keyPs (y :: ys) ++ r' = 1 :: (keyP y ++ (keyPs ys ++ r')) := by
      show 1 :: ((keyP y ++ keyPs ys) ++ r') = _
      rw [List.append_assoc]
    have one : ∀ a b : List Nat, (1 :: a < 1 :: b ↔ a < b) ∧ (1 :: a ≠ 1 :: b ↔ a ≠ b) := fun a b => ⟨app_lt [1] a b, by simp⟩
    rw [e1, e2, (one _ _).1, (one _ _).2]
    by_cases he : PyData.eqv x y = true
    · rw [if_pos he] at hl
      rw [he, Bool.true_and] at h'
      obtain ⟨q1, q2⟩ := key_lts xs ys k h1'.2 h2'.2 h' hl r r'
      rw [key_eqv x y h1'.1 h2'.1 he, app_lt]
      exact ⟨q1, fun e => q2 (List.append_cancel_left e)⟩
    · rw [if_neg he] at hl
      exact key_lt x y k h1'.1 h2'.1 (by simpa using he) hl _ _
end
end Tk
/-! P13: sorted, each once. -/
namespace Tk
open PySem L2 Tl
mutual
theorem self_lt : ∀ (x y : PyData) (k : Bool), plainP x = true → plainP y = true → PyData.eqv x y = true → ltP x y = some k → k = false
  | .str a, y, k, h1, h2, h, hl => by
    cases y with
    | str b =>
      have : a = b := by simpa using (show (a == b) = true from h)
      rw [this, ltP] at hl
      have hk := Option.some.inj hl
      rw [← hk]
      exact decide_eq_false (List.lt_irrefl _)
    | tuple ys => cases h
    | _ => cases h2
  | .tuple xs, y, k, h1, h2, h, hl => by
    cases y with
    | str b => cases h
    | tuple ys =>
      rw [ltP] at hl
      exact self_lts xs ys k h1 h2 h hl
    | _ => cases h2
  | .none, y, k, h1, _, _, _ => by cases h1
  | .bool _, y, k, h1, _, _, _ => by cases h1
  | .int _, y, k, h1, _, _, _ => by cases h1
  | .list _, y, k, h1, _, _, _ => by cases h1
  | .dict _, y, k, h1, _, _, _ => by cases h1
theorem self_lts : ∀ (xs ys : List PyData) (k : Bool), plainPs xs = true → plainPs ys = true → PyData.eqvAll xs ys = true → ltPs xs ys = some k → k = false
  | [], [], k, _, _, _, hl => by
    rw [ltPs] at hl
    exact (Option.some.inj hl).symm
  | [], y :: ys, k, _, _, h, _ => by cases h
  | x :: xs, [], k, _, _, h, _ => by cases h
  | x :: xs, y :: ys, k, h1, h2, h, hl => by
    have h1' : (plainP x && plainPs xs) = true := h1
    have h2' : (plainP y && plainPs ys) = true := h2
    have h' : (PyData.eqv x y && PyData.eqvAll xs ys) = true := by rwa [PyData.eqvAll] at h
    rw [Bool.and_eq_true] at h1' h2' h'
    rw [ltPs, if_pos h'.1] at hl
    exact self_lts xs ys k h1'.2 h2'.2 h'.2 hl
end
abbrev Ky := List Nat
def keyD (d : D) : Ky := keyP (toP d)
/-- two trees that may stand side by side -/
def Cp (x y : D) : Prop := plainP (toP x) = true ∧ plainP (toP y) = true ∧ (ltD x y).isSome = true
theorem peq_key {x y : D} (h : Cp x y) : peq x y = decide (keyD x = keyD y) := by
  obtain ⟨h1, h2, h3⟩ := h
  obtain ⟨k, hk⟩ := Option.isSome_iff_exists.mp h3
  cases e : peq x y with
  | true => exact (decide_eq_true (key_eqv _ _ h1 h2 e)).symm
  | false =>
    have := (key_lt _ _ k h1 h2 e hk [] []).2
    rw [List.append_nil, List.append_nil] at this
    exact (decide_eq_false this).symm
theorem lt_key {x y : D} (h : Cp x y) : (ltD x y).getD false = decide (keyD x < keyD y) := by
  obtain ⟨h1, h2, h3⟩ := h
  obtain ⟨k, hk⟩ := Option.isSome_iff_exists.mp h3
  rw [hk]
  show k = _
  cases e : peq x y with
  | true =>
    rw [self_lt _ _ k h1 h2 e hk, show keyD x = keyD y from key_eqv _ _ h1 h2 e]
    exact (decide_eq_false (List.lt_irrefl _)).symm
  | false =>
    have := (key_lt _ _ k h1 h2 e hk [] []).1
    rw [List.append_nil, List.append_nil] at this
    rw [show decide (keyD x < keyD y) = decide (k = true) from decide_eq_decide.mpr this]
    cases k <;> rfl
def leK (a b : Ky) : Bool := decide (a ≤ b)
theorem le_key {x y : D} (h : Cp y x) : leD x y = leK (keyD x) (keyD y) := by
  have l := lt_key h
  obtain ⟨h1, h2, h3⟩ := h
  obtain ⟨k, hk⟩ := Option.isSome_iff_exists.mp h3
  rw [hk] at l
  have l' : k = decide (keyD y < keyD x) := l
  unfold leD leK
  rw [dataLt_ltP _ _ k hk, l']
  rw [Bool.eq_iff_iff, Bool.not_eq_true', decide_eq_false_iff_not, decide_eq_true_eq]
  exact List.not_lt
def lastNe (acc : List D) (x : D) : Bool := match acc.getLast? with
  | none => true
  | some l => !peq l x
def squash : List D → List D → List D
  | acc, [] => acc
  | acc, x :: r => if lastNe acc x = true then squash (acc ++ [x]) r else squash acc r
def onceD (xs : List D) : List D := squash [] (sortD xs)
def lastK (acc : List Ky) (x : Ky) : Bool := match acc.getLast? with
  | none => true
  | some l => !decide (l = x)
def squashK : List Ky → List Ky → List Ky
  | acc, [] => acc
  | acc, x :: r => if lastK acc x = true then squashK (acc ++ [x]) r else squashK acc r
def Cm (xs : List D) : Prop := ∀ x ∈ xs, ∀ y ∈ xs, Cp x y
theorem last_key {acc : List D} {x : D} (h : ∀ a ∈ acc, Cp a x) : lastNe acc x = lastK (acc.map keyD) (keyD x) := by
  unfold lastNe lastK
  rw [List.getLast?_map]
  cases e : acc.getLast? with
  | none => rfl
  | some l =>
    show (!peq l x) = !decide (keyD l = keyD x)
    rw [peq_key (h l (List.mem_of_getLast? e))]
theorem squash_key {xs : List D} (hm : Cm xs) : ∀ (r acc : List D), (∀ a ∈ acc, a ∈ xs) → (∀ a ∈ r, a ∈ xs) → (squash acc r).map keyD = squashK (acc.map keyD) (r.map keyD) ∧ ∀ a ∈ squash acc r, a ∈ xs
  | [], acc, h1, _ => ⟨rfl, h1⟩
  | x :: r, acc, h1, h2 => by
    have hx := h2 x (by simp)
    have e1 : squash acc (x :: r) = if lastNe acc x = true then squash (acc ++ [x]) r else squash acc r := rfl
    have e2 : squashK (acc.map keyD) ((x :: r).map keyD) = if lastK (acc.map keyD) (keyD x) = true then squashK (acc.map keyD ++ [keyD x]) (r.map keyD) else squashK (acc.map keyD) (r.map keyD) := rfl
    rw [e1, e2, last_key fun a ha => hm a (h1 a ha) x hx]
    split
    · have := squash_key hm r (acc ++ [x]) (fun a ha => by
        rcases List.mem_append.mp ha with z | z
        · exact h1 a z
        · rw [List.mem_singleton] at z
          rw [z]
          exact hx) fun a ha => h2 a (by simp [ha])
      rw [List.map_append] at this
      exact this
    · exact squash_key hm r acc h1 fun a ha => h2 a (by simp [ha])
theorem leK_trans (a b c : Ky) (h1 : leK a b = true) (h2 : leK b c = true) : leK a c = true := decide_eq_true (List.le_trans (of_decide_eq_true h1) (of_decide_eq_true h2))
theorem leK_total (a b : Ky) : (leK a b || leK b a) = true := by
  unfold leK
  rw [Bool.or_eq_true, decide_eq_true_eq, decide_eq_true_eq]
  exact List.le_total a b
theorem lt_of_leK {a b : Ky} (h : leK a b = true) (n : a ≠ b) : a < b := by
  have h' : a ≤ b := of_decide_eq_true h
  rcases Classical.em (b ≤ a) with k | k
  · exact absurd (List.le_antisymm h' k) n
  · exact List.not_le.mp k
theorem squash_up : ∀ (r acc : List Ky), acc.Pairwise (· < ·) → r.Pairwise (fun a b => leK a b = true) → (∀ a ∈ acc, ∀ b ∈ r, leK a b = true) → (squashK acc r).Pairwise (· < ·)
  | [], acc, h, _, _ => h
  | x :: r, acc, h, hr, hc => by
    have e2 : squashK acc (x :: r) = if lastK acc x = true then squashK (acc ++ [x]) r else squashK acc r := rfl
    rw [e2]
    rw [List.pairwise_cons] at hr
    split
    · rename_i hl
      refine squash_up r _ ?_ hr.2 fun a ha b hb => ?_
      · refine List.pairwise_append.mpr ⟨h, List.pairwise_singleton _ _, fun a ha b hb => ?_⟩
        rw [List.mem_singleton] at hb
        rw [hb]
        have hax := hc a ha x (by simp)
        refine lt_of_leK hax fun e => ?_
        subst e
        unfold lastK at hl
        cases hg : acc.getLast? with
        | none =>
          rw [List.getLast?_eq_none_iff] at hg
          rw [hg] at ha
          cases ha
        | some l =>
          rw [hg] at hl
          have hl' : l ≠ a := by simpa using hl
          obtain ⟨ys, hy⟩ := List.getLast?_eq_some_iff.mp hg
          have hla := hc l (List.mem_of_getLast? hg) a (by simp)
          rw [hy] at ha h
          rcases List.mem_append.mp ha with z | z
          · have := (List.pairwise_append.mp h).2.2 a z l (by simp)
            exact absurd (List.lt_trans this (lt_of_leK hla hl')) (List.lt_irrefl _)
          · rw [List.mem_singleton] at z
            exact hl' z.symm
      · rcases List.mem_append.mp ha with z | z
        · exact hc a z b (by simp [hb])
        · rw [List.mem_singleton] at z
          rw [z]
          exact hr.1 b hb
    · exact squash_up r acc h hr.2 fun a ha b hb => hc a ha b (by simp [hb])
theorem squash_same : ∀ (r acc : List Ky), (acc ++ r).Pairwise (· < ·) → squashK acc r = acc ++ r
  | [], acc, _ => (List.append_nil _).symm
  | x :: r, acc, h => by
    have e2 : squashK acc (x :: r) = if lastK acc x = true then squashK (acc ++ [x]) r else squashK acc r := rfl
    have hl : lastK acc x = true := by
      unfold lastK
      cases hg : acc.getLast? with
      | none => rfl
      | some l =>
        have := (List.pairwise_append.mp h).2.2 l (List.mem_of_getLast? hg) x (by simp)
        show (!decide (l = x)) = true
        rw [Bool.not_eq_true', decide_eq_false_iff_not]
        intro e
        rw [e] at this
        exact List.lt_irrefl _ this
    rw [e2, if_pos hl]
    have ee : acc ++ x :: r = (acc ++ [x]) ++ r := by simp
    rw [ee] at h ⊢
    exact squash_same r _ h
theorem once_keys (ks : List Ky) : squashK [] (ks.mergeSort leK) = ks ↔ ks.Pairwise (· < ·) := by
  constructor
  · intro h
    have := squash_up (ks.mergeSort leK) [] List.Pairwise.nil (List.pairwise_mergeSort leK_trans leK_total _) (by simp)
    rw [h] at this
    exact this
  · intro h
    have e : ks.mergeSort leK = ks := List.mergeSort_of_pairwise (h.imp fun z => decide_eq_true (List.le_of_lt z))
    rw [e]
    exact squash_same ks [] (by simpa using h)
theorem rises_keys : ∀ {xs : List D}, Cm xs → (risesD xs = true ↔ (xs.map keyD).Pairwise (· < ·))
  | [], _ => ⟨fun _ => List.Pairwise.nil, fun _ => rfl⟩
  | [x], _ => ⟨fun _ => List.pairwise_singleton _ _, fun _ => rfl⟩
  | x :: y :: r, hm => by
    have ih := rises_keys (xs := y :: r) fun a ha b hb => hm a (by simp [ha]) b (by simp [hb])
    have e : risesD (x :: y :: r) = ((ltD x y).getD false && risesD (y :: r)) := rfl
    rw [e, lt_key (hm x (by simp) y (by simp)), Bool.and_eq_true, ih, decide_eq_true_eq]
    constructor
    · rintro ⟨h1, h2⟩
      refine List.pairwise_cons.mpr ⟨fun z hz => ?_, h2⟩
      rcases List.mem_cons.mp (show z ∈ keyD y :: r.map keyD from hz) with q | q
      · rw [q]
        exact h1
      · exact List.lt_trans h1 (List.rel_of_pairwise_cons h2 q)
    · intro h
      rw [List.map_cons, List.pairwise_cons] at h
      exact ⟨h.1 (keyD y) (by simp), h.2⟩
theorem peq_keys : ∀ {xs ys : List D}, (∀ x ∈ xs, ∀ y ∈ ys, Cp x y) → PyData.eqvAll (toPs xs) (toPs ys) = decide (xs.map keyD = ys.map keyD)
  | [], [], _ => rfl
  | [], y :: ys, _ => rfl
  | x :: xs, [], _ => rfl
  | x :: xs, y :: ys, h => by
    have ih := peq_keys (xs := xs) (ys := ys) fun a ha b hb => h a (by simp [ha]) b (by simp [hb])
    have e : PyData.eqvAll (toPs (x :: xs)) (toPs (y :: ys)) = (peq x y && PyData.eqvAll (toPs xs) (toPs ys)) := by
      show PyData.eqvAll (toP x :: toPs xs) (toP y :: toPs ys) = _
      rw [PyData.eqvAll]
      rfl
    rw [e, ih, peq_key (h x (by simp) y (by simp)), List.map_cons, List.map_cons]
    by_cases h1 : keyD x = keyD y
    · by_cases h2 : xs.map keyD = ys.map keyD <;> simp [h1, h2]
    · simp [h1]
/-- parts == _law_once(parts) tells that they rise -/
theorem once_rises {xs : List D} (hm : Cm xs) : peq (.tup xs) (.tup (onceD xs)) = risesD xs := by
  have hs : ∀ a ∈ sortD xs, a ∈ xs := fun a ha => by
    unfold sortD at ha
    exact List.mem_mergeSort.mp ha
  obtain ⟨h1, h2⟩ := squash_key hm (sortD xs) [] (by simp) hs
  have e1 : peq (.tup xs) (.tup (onceD xs)) = decide (xs.map keyD = (onceD xs).map keyD) := peq_keys fun x hx y hy => hm x hx y (h2 y hy)
  have e2 : (sortD xs).map keyD = (xs.map keyD).mergeSort leK := List.map_mergeSort fun a ha b hb => le_key (hm b hb a ha)
  rw [e1, show (onceD xs).map keyD = _ from h1, e2, Bool.eq_iff_iff, decide_eq_true_eq, rises_keys hm, ← once_keys]
  exact eq_comm
end Tk
/-! P14: _law_once. -/
namespace Tk
open PySem L2 Tl
/-- what may be compared for ==: laid, not deep, texts and tuples only -/
def eqOk (d : D) : Prop := plainP (toP d) = true ∧ lay d = true ∧ dep d ≤ 63
theorem deref_pl {d : D} (h : plainP (toP d) = true) (s : List O) : deref s d = d := by
  cases d <;> first | rfl | cases h
theorem peq_nilr (ds : List D) : peq (.tup ds) (.tup []) = ds.isEmpty := by cases ds <;> rfl
theorem peq_nill (ds : List D) : peq (.tup []) (.tup ds) = ds.isEmpty := by cases ds <;> rfl
theorem dEq_pl (neg : Bool) {x y : D} (hx : eqOk x) (hy : eqOk y) (s : List O) : pr2 (dEq neg) s [x, y] = some (.bl (if neg then !peq x y else peq x y), s) := by
  rw [pr2_eq]
  unfold dEq
  cases e : noneIn x y with
  | some b =>
    have : b = peq x y := by
      unfold noneIn at e
      split at e
      · cases e
        exact (peq_nilr _).symm
      · cases e
        exact (peq_nill _).symm
      · cases e
    rw [this]
    rfl
  | none =>
    simp only [deref_pl hx.1, deref_pl hy.1]
    rw [if_pos ⟨hx.2.1, hy.2.1, Nat.le_trans (Nat.min_le_left _ _) (by have := hx.2.2; omega)⟩]
    rfl
theorem eq_locnil {s : List O} {L : Nat} {acc : List D} (h : s[L]? = some (.lst acc)) (hl : ∀ a ∈ acc, lay a = true) : pr2 (dEq false) s [.loc L, .lst []] = some (.bl acc.isEmpty, s) := by
  rw [pr2_eq]
  have d : deref s (.loc L) = .lst acc := by
    simp only [deref, h]
  have n : noneIn (.loc L) (.lst []) = none := rfl
  unfold dEq
  rw [n]
  have c : lay (deref s (.loc L)) = true ∧ lay (deref s (.lst [])) = true ∧ min (dep (deref s (.loc L))) (dep (deref s (.lst []))) ≤ 64 := by
    rw [d]
    exact ⟨lay_lst hl, rfl, Nat.le_trans (Nat.min_le_right _ _) (by show (1 : Nat) ≤ 64; omega)⟩
  show Option.map _ (if lay (deref s (.loc L)) = true ∧ lay (deref s (.lst [])) = true ∧ min (dep (deref s (.loc L))) (dep (deref s (.lst []))) ≤ 64 then some (D.bl (peq (deref s (.loc L)) (deref s (.lst [])))) else (noneL s (.loc L) (.lst [])).map _) = _
  rw [if_pos c, d]
  cases acc <;> rfl
abbrev onceT : Sv → List O → RR Bool := eOrT (eIs (eBin (pr2 (dEq false)) (eVar 1) (eFrz (eLim (eNil))))) (eIs (eBin (pr2 (dEq true)) (eBin (pr2 dIx) (eVar 1) (eC (.int (-1)))) (eVar 2)))
abbrev onceB : Sm := sIf onceT (sDrop (eMt "list" mAppend (eVar 1) (eCons (eVar 2) (eNil)))) (sNext)
theorem once_test {x e : D} {L : Nat} {acc : List D} {s : List O} (h : s[L]? = some (.lst acc)) (ha : ∀ a ∈ acc, eqOk a) (he : eqOk e) : onceT [some x, some (.loc L), some e] s = .ok (lastNe acc e) s := by
  have p1 : eIs (eBin (pr2 (dEq false)) (eVar 1) (eFrz (eLim (eNil)))) [some x, some (.loc L), some e] s = .ok acc.isEmpty s := by
    have : eBin (pr2 (dEq false)) (eVar 1) (eFrz (eLim (eNil))) [some x, some (.loc L), some e] s = liftP (pr2 (dEq false) s [.loc L, .lst []]) := rfl
    unfold eIs
    rw [this, eq_locnil h fun a h => (ha a h).2.1]
    rfl
  unfold onceT eOrT
  rw [p1]
  cases acc with
  | nil => rfl
  | cons a r =>
    obtain ⟨ys, l, hy⟩ : ∃ ys l, a :: r = ys ++ [l] := ⟨(a :: r).dropLast, (a :: r).getLast (by simp), (List.dropLast_concat_getLast (by simp)).symm⟩
    have hg : (a :: r).getLast? = some l := List.getLast?_eq_some_iff.mpr ⟨ys, hy⟩
    have hl := ha l (List.mem_of_getLast? hg)
    have p2 : eBin (pr2 dIx) (eVar 1) (eC (.int (-1))) [some x, some (.loc L), some e] s = .ok l s := by
      have : eBin (pr2 dIx) (eVar 1) (eC (.int (-1))) [some x, some (.loc L), some e] s = liftP (pr2 dIx s [.loc L, .int (-1)]) := rfl
      rw [this, pr2_eq]
      unfold dIx
      simp only [h]
      rw [hy, L2.atI_last]
      rfl
    show eIs (eBin (pr2 (dEq true)) (eBin (pr2 dIx) (eVar 1) (eC (.int (-1)))) (eVar 2)) [some x, some (.loc L), some e] s = _
    have p3 : eBin (pr2 (dEq true)) (eBin (pr2 dIx) (eVar 1) (eC (.int (-1)))) (eVar 2) [some x, some (.loc L), some e] s = liftP (pr2 (dEq true) s [l, e]) := by
      show (eBin (pr2 dIx) (eVar 1) (eC (.int (-1))) [some x, some (.loc L), some e] s).bind _ = _
      rw [p2]
      rfl
    unfold eIs
    rw [p3, dEq_pl true hl he]
    unfold lastNe
    rw [hg]
    rfl
theorem once_body {x e : D} {acc : List D} {st : List O} (ha : ∀ a ∈ acc, eqOk a) (he : eqOk e) (hl : acc.length < sizeLine) : onceB [some x, some (.loc st.length), some e] (st ++ [.lst acc]) = .nx [some x, some (.loc st.length), some e] (st ++ [.lst (if lastNe acc e = true then acc ++ [e] else acc)]) := by
  have h : (st ++ [O.lst acc])[st.length]? = some (.lst acc) := by simp
  unfold onceB sIf
  rw [once_test h ha he]
  show (if lastNe acc e = true then _ else _) = _
  cases k : lastNe acc e with
  | false => rfl
  | true =>
    rw [if_pos rfl, if_pos rfl]
    have ty : tyIs "list" (st ++ [O.lst acc]) (.loc st.length) = true := by
      unfold tyIs tyD
      simp only [h]
      rfl
    have ap : mAppend (st ++ [O.lst acc]) [.loc st.length, e] = some (.non, st ++ [O.lst (acc ++ [e])]) := by
      unfold mAppend
      simp only [h]
      rw [if_pos hl]
      simp
    have m : eMt "list" mAppend (eVar 1) (eCons (eVar 2) (eNil)) [some x, some (.loc st.length), some e] (st ++ [O.lst acc]) = .ok .non (st ++ [O.lst (acc ++ [e])]) := by
      show (if tyIs "list" (st ++ [O.lst acc]) (.loc st.length) = true then liftP (mAppend (st ++ [O.lst acc]) [.loc st.length, e]) else .err) = _
      rw [if_pos ty, ap]
      rfl
    unfold sDrop
    rw [m]
    rfl
theorem once_loop {x : D} {s0 : Src} (hn : s0.at' = none) : ∀ (r acc : List D) (y : Option D) (st : List O), (∀ a ∈ acc, eqOk a) → (∀ a ∈ r, eqOk a) → acc.length + r.length < sizeLine → ∃ y', goF s0 (GT.nm 2) onceB r [some x, some (.loc st.length), y] (st ++ [.lst acc]) = .nx [some x, some (.loc st.length), y'] (st ++ [.lst (squash acc r)])
  | [], acc, y, st, _, _, _ => ⟨y, by
    unfold goF
    rw [if_pos (gd_none hn _)]
    rfl⟩
  | e :: r, acc, y, st, ha, hr, hl => by
    rw [List.length_cons] at hl
    have he := hr e (by simp)
    have step : goF s0 (GT.nm 2) onceB (e :: r) [some x, some (.loc st.length), y] (st ++ [.lst acc]) = goF s0 (GT.nm 2) onceB r [some x, some (.loc st.length), some e] (st ++ [.lst (if lastNe acc e = true then acc ++ [e] else acc)]) := by
      show (if s0.gd (st ++ [.lst acc]) = true then (match onceB [some x, some (.loc st.length), some e] (st ++ [.lst acc]) with
        | .nx ρ2 s2 => goF s0 (GT.nm 2) onceB r ρ2 s2
        | .ct ρ2 s2 => goF s0 (GT.nm 2) onceB r ρ2 s2
        | .bk ρ2 s2 => .nx ρ2 s2
        | r => r) else .err) = _
      rw [if_pos (gd_none hn _), once_body ha he (by omega)]
    have sq : squash acc (e :: r) = squash (if lastNe acc e = true then acc ++ [e] else acc) r := by
      show (if lastNe acc e = true then squash (acc ++ [e]) r else squash acc r) = _
      split <;> rfl
    rw [step, sq]
    refine once_loop hn r _ (some e) st (fun a h => ?_) (fun a h => hr a (by simp [h])) ?_
    · split at h
      · rcases List.mem_append.mp h with z | z
        · exact ha a z
        · rw [List.mem_singleton] at z
          rw [z]
          exact he
      · exact ha a h
    · split
      · rw [List.length_append]
        simp only [List.length_cons, List.length_nil]
        omega
      · omega
theorem c_law_once (n : Nat) (d : D) (xs : List D) (st : List O) (hd : ∀ s, seqOf s d = some xs) (hs : sortOk xs = true) (hx : ∀ a ∈ xs, eqOk a) (hl : xs.length < sizeLine) : Ev (callN (n + 3) 26 [d] st) st (.tup (onceD xs)) := by
  show Ev (bodyOf (f__law_once (callN (n + 2))) 3 [d] st) st _
  have e1 : sAsg (eAll (eLim (eNil))) (GT.nm 1) [some d, none, none] st = .nx [some d, some (.loc st.length), none] (st ++ [.lst []]) := rfl
  refine ev_body (rt_seqE e1 ?_)
  have hm : ∀ a ∈ sortD xs, a ∈ xs := fun a ha => by
    unfold sortD at ha
    exact List.mem_mergeSort.mp ha
  have hlen : (sortD xs).length = xs.length := List.length_mergeSort _
  obtain ⟨y', lp⟩ := once_loop (x := d) (s0 := ⟨sortD xs, none⟩) rfl (sortD xs) [] none st (by simp) (fun a ha => hx a (hm a ha)) (by rw [hlen]; simp only [List.length_nil]; omega)
  have src : eSrc (eFrz (ePL pSorted (eCons (eVar 0) (eNil)))) [some d, some (.loc st.length), none] (st ++ [.lst []]) = .ok ⟨sortD xs, none⟩ (st ++ [.lst []]) := by
    have p : pSorted (st ++ [.lst []]) [d] = some (sortD xs) := by
      unfold pSorted
      simp only [hd, Option.bind_some]
      rw [if_pos hs]
    have q : eFrz (ePL pSorted (eCons (eVar 0) (eNil))) [some d, some (.loc st.length), none] (st ++ [.lst []]) = .ok (.lst (sortD xs)) (st ++ [.lst []]) := by
      show ((liftL (st ++ [.lst []]) (pSorted (st ++ [.lst []]) [d])).bind _) = _
      rw [p]
      rfl
    unfold eSrc
    rw [q]
    rfl
  have e2 : sFor (eSrc (eFrz (ePL pSorted (eCons (eVar 0) (eNil))))) (GT.nm 2) onceB [some d, some (.loc st.length), none] (st ++ [.lst []]) = .nx [some d, some (.loc st.length), y'] (st ++ [.lst (onceD xs)]) := by
    unfold sFor
    rw [src]
    exact lp
  refine rt_seqE e2 ?_
  have h : (st ++ [O.lst (onceD xs)])[st.length]? = some (.lst (onceD xs)) := by simp
  refine ⟨st ++ [.lst (onceD xs)], ?_, Gr.one _⟩
  have t : ePr (pr1 dTuple) (eCons (eVar 1) (eNil)) [some d, some (.loc st.length), y'] (st ++ [.lst (onceD xs)]) = .ok (.tup (onceD xs)) (st ++ [.lst (onceD xs)]) := by
    have : dTuple (st ++ [.lst (onceD xs)]) (.loc st.length) = some (.tup (onceD xs)) := by
      unfold dTuple seqOf Tl.listOf
      simp only [h]
      rfl
    show liftP ((dTuple (st ++ [.lst (onceD xs)]) (.loc st.length)).map _) = _
    rw [this]
    rfl
  unfold sRet
  rw [t]
  rfl
end Tk
/-! P15: the law's own inner and nodes. -/
namespace Tk
open PySem L2 Tl
theorem in_twoL {t : Str} (h : strA t = true) (s : List O) : pr2 (dIn false) s [.str t, .lst [.str "none", .str "letter"]] = some (.bl (decide (t = "none" ∨ t = "letter")), s) := in_two h s
theorem ev_plT {ρ : Sv} {st : List O} {f : Sv → List O → RR D} {x : D} {xs : List D} (h : Ev (f ρ st) st x) (h2 : ∀ s, seqOf s x = some xs) : Ev (ePL pTuple (eCons f eNil) ρ st) st xs := by
  refine (ev_cons h fun s _ => ev_nil).bind fun s _ => ?_
  show Ev (liftL s (seqOf s x)) s xs
  rw [h2]
  exact Ev.of
theorem c_law_inner (n : Nat) (d : D) (st : List O) (hg : Good d) (hh : headsD d = true) : Ev (callN (n + 3) 28 [d] st) st (.lst (innerD d)) := by
  obtain ⟨t, r, k, rfl, hk, hl, hm⟩ := heads_is hh
  show Ev (bodyOf (f__law_inner (callN (n + 2))) 1 [.tup (.str t :: r)] st) st _
  have ht := (hg.flat _ rfl).1 (.str t) (by simp) t rfl
  have head : ∀ (s2 : List O), Ev (eBin (pr2 dIx) (eVar 0) (eC (.int 0)) [some (.tup (.str t :: r))] s2) s2 (.str t) := fun s2 => ev_bin (ev_var rfl) (fun s _ => ev_c) fun s _ => ix0 _ _ s
  refine ev_body (rt_guard (ev_is (ev_bin (head st) (fun s _ => ev_c) fun s _ => eq_str ht strA_mix s)) (fun hb s _ => ?_) fun hb s _ => ?_)
  · have e : t = "mix" := of_decide_eq_true hb
    have hmo := hm e
    rw [inner_eq, if_pos e]
    cases r with
    | nil => cases hmo
    | cons y r =>
      cases y with
      | tup es => exact rt_ret (ev_frz (ev_plT (x := .tup es) (ev_bin (ev_var rfl) (fun s _ => ev_c) fun s _ => ix1 _ _ _ s) fun _ => rfl))
      | _ => cases hmo
  · have e : t ≠ "mix" := of_decide_eq_false hb
    rw [inner_eq, if_neg e]
    refine rt_ret (ev_ifE (ev_is (ev_bin (head s) (fun s _ => ev_frz (ev_lim (ev_cons ev_c fun s _ => ev_cons ev_c fun s _ => ev_nil) (by rw [sizeLine_eq]; decide))) fun s _ => in_twoL ht s)) (fun hb s _ => ?_) fun hb s _ => ?_)
    · rw [if_pos (of_decide_eq_true hb)]
      exact ev_frz (ev_lim ev_nil (Nat.zero_le _))
    · rw [if_neg (of_decide_eq_false hb)]
      refine ev_frz (ev_plT (x := .tup r) (ev_sl (h := dSl) (ev_var rfl) (fun s _ => ev_part ev_c) (fun s _ => ev_noPart) fun s _ => ?_) fun _ => rfl)
      show some (D.tup (cut (.str t :: r) (some 1) none)) = _
      rw [cut1]
      rfl
theorem inner_dep1 {d : D} (h : headsD d = true) : ∀ e ∈ innerD d, dep e + 1 ≤ dep d := by
  obtain ⟨t, r, k, rfl, hk, hl, hm⟩ := heads_is h
  intro e he
  rw [inner_eq] at he
  by_cases hx : t = "mix"
  · rw [if_pos hx] at he
    cases r with
    | nil => cases he
    | cons y r =>
      cases y with
      | tup es =>
        have he : e ∈ es := he
        have h1 := dep_mem he
        have h2 : dep (.tup es) + 1 ≤ dep (.tup (.str t :: .tup es :: r)) := dep_mem (by simp)
        omega
      | _ => cases he
  · rw [if_neg hx] at he
    split at he
    · cases he
    · exact dep_mem (by simp [he])
theorem cnt_w {sc : List D} : ∀ (k : Nat) (d : D), vOk sc k d = true → cnt k d ≤ wD d
  | 0, d, h => by cases h
  | k + 1, d, h => by
    have h' : (headsD d && ((!decide (tagD d = "letter") || isLetter sc (secD d)) && (innerD d).all (vOk sc k))) = true := h
    rw [Bool.and_eq_true, Bool.and_eq_true] at h'
    have w := inner_w h'.1
    have sum : ∀ ds : List D, ds.all (vOk sc k) = true → (ds.map (cnt k)).sum ≤ wDs ds := fun ds => by
      induction ds with
      | nil => exact fun _ => Nat.le_refl _
      | cons x ds ih =>
        intro z
        rw [List.all_cons, Bool.and_eq_true] at z
        have := cnt_w k x z.1
        have := ih z.2
        rw [List.map_cons, List.sum_cons]
        show _ ≤ wD x + wDs ds
        omega
    have := sum _ h'.2.2
    show 1 + _ ≤ _
    omega
end Tk
/-! P16: the law's own nodes. -/
namespace Tk
open PySem L2 Tl
theorem nx_for {src : Sv → List O → RR Src} {s0 : Src} {tg : GT} {a : Sm} {ρ : Sv} {st : List O} (hs : Ev (src ρ st) st s0) (hn : s0.at' = none) (I : Nat → Sv → Prop) (i0 : I 0 ρ) (q : ∀ j d ρ, s0.its[j]? = some d → I j ρ → ∃ ρ1, asgT tg d ρ = some ρ1 ∧ ∀ s, ∃ ρ2, Nx (a ρ1 s) s ρ2 ∧ I (j + 1) ρ2) : ∃ ρ', Nx (sFor src tg a ρ st) st ρ' ∧ I s0.its.length ρ' := by
  obtain ⟨s, e, g⟩ := hs
  obtain ⟨ρ', n', i'⟩ := nx_goF hn I s0.its 0 ρ s i0 fun j d ρ hj hI => by
    obtain ⟨ρ1, a1, b1⟩ := q j d ρ hj (by simpa using hI)
    exact ⟨ρ1, a1, fun s _ => by simpa using b1 s⟩
  refine ⟨ρ', ?_, by simpa using i'⟩
  unfold sFor
  rw [e]
  exact n'.up g
theorem add_lst {xs ys : List D} (h : xs.length + ys.length ≤ sizeLine) (s : List O) : pr2 dAdd s [.lst xs, .lst ys] = some (.lst (xs ++ ys), s) := by
  show (if xs.length + ys.length ≤ sizeLine then some (D.lst (xs ++ ys)) else none).map _ = _
  rw [if_pos h]
  rfl
theorem add_tup {xs ys : List D} (h : xs.length + ys.length ≤ sizeLine) (s : List O) : pr2 dAdd s [.tup xs, .tup ys] = some (.tup (xs ++ ys), s) := by
  show (if xs.length + ys.length ≤ sizeLine then some (D.tup (xs ++ ys)) else none).map _ = _
  rw [if_pos h]
  rfl
/-- a list of short tuples -/
def Paths (m : Nat) (ps : List D) : Prop := ∀ p ∈ ps, ∃ q, p = .tup q ∧ q.length ≤ m
def tailOf (k : Int) : D → D
  | .tup q => .tup (.int k :: q)
  | d => d
theorem paths_in {m : Nat} {ps : List D} (h : Paths m ps) (k : Int) : Paths (m + 1) (ps.map (tailOf k)) := by
  intro p hp
  obtain ⟨x, hx, rfl⟩ := List.mem_map.mp hp
  obtain ⟨q, rfl, hq⟩ := h x hx
  exact ⟨.int k :: q, rfl, by rw [List.length_cons]; omega⟩
def numPaths (f : D → List D) : Nat → List D → List D
  | _, [] => []
  | i, x :: r => (f x).map (tailOf (i : Nat)) ++ numPaths f (i + 1) r
def pathsG : Nat → D → List D
  | 0, _ => [.tup []]
  | k + 1, d => .tup [] :: numPaths (pathsG k) 0 (innerD d)
theorem num_app (f : D → List D) : ∀ (xs : List D) (i : Nat) (x : D), numPaths f i (xs ++ [x]) = numPaths f i xs ++ (f x).map (tailOf ((i + xs.length : Nat) : Int))
  | [], i, x => by
    show (f x).map (tailOf (i : Nat)) ++ [] = [] ++ _
    rw [List.append_nil, List.nil_append]
    rfl
  | y :: xs, i, x => by
    show (f y).map (tailOf (i : Nat)) ++ numPaths f (i + 1) (xs ++ [x]) = ((f y).map (tailOf (i : Nat)) ++ numPaths f (i + 1) xs) ++ _
    rw [num_app f xs (i + 1) x, List.append_assoc, List.length_cons, show i + 1 + xs.length = i + (xs.length + 1) by omega]
theorem num_len (f : D → List D) (g : D → Nat) (h : ∀ x, (f x).length = g x) : ∀ (xs : List D) (i : Nat), (numPaths f i xs).length = (xs.map g).sum
  | [], _ => rfl
  | x :: xs, i => by
    show ((f x).map _ ++ numPaths f (i + 1) xs).length = _
    rw [List.length_append, List.length_map, h, num_len f g h xs, List.map_cons, List.sum_cons]
theorem num_short (f : D → List D) (m : Nat) (h : ∀ x, Paths m (f x)) : ∀ (xs : List D) (i : Nat), Paths (m + 1) (numPaths f i xs)
  | [], _ => fun p hp => by cases hp
  | x :: xs, i => fun p hp => by
    rcases List.mem_append.mp (show p ∈ (f x).map (tailOf (i : Nat)) ++ numPaths f (i + 1) xs from hp) with z | z
    · exact paths_in (h x) _ p z
    · exact num_short f m h xs (i + 1) p z
theorem paths_len : ∀ (k : Nat) (d : D), (pathsG k d).length = cnt k d
  | 0, _ => rfl
  | k + 1, d => by
    show (numPaths (pathsG k) 0 (innerD d)).length + 1 = 1 + _
    rw [num_len _ _ (paths_len k)]
    omega
theorem paths_short : ∀ (k : Nat) (d : D), Paths k (pathsG k d)
  | 0, _ => fun p hp => ⟨[], by simpa [pathsG] using hp, Nat.le_refl _⟩
  | k + 1, d => fun p hp => by
    rcases List.mem_cons.mp (show p ∈ D.tup [] :: numPaths (pathsG k) 0 (innerD d) from hp) with z | z
    · exact ⟨[], z, Nat.zero_le _⟩
    · exact num_short _ k (paths_short k) _ 0 p z
theorem wd_mem {x : D} : ∀ {ds : List D}, x ∈ ds → wD x ≤ wDs ds
  | [], z => by cases z
  | y :: ds, z => by
    show wD x ≤ wD y + wDs ds
    rcases List.mem_cons.mp z with z | z
    · rw [z]
      omega
    · have := wd_mem z
      omega
theorem c_law_nodes {sc : List D} (n : Nat) : ∀ (h k : Nat) (d : D) (st : List O), Good d → dep d ≤ h → k ≤ 1000 → wD d ≤ 800000 → vOk sc k d = true → Ev (callN (n + h + 3) 29 [d] st) st (.lst (pathsG k d))
  | h, 0, d, st, _, _, _, _, hv => by cases hv
  | 0, k + 1, d, st, hg, hd, hm, hw, hv => by
    have h' : (headsD d && ((!decide (tagD d = "letter") || isLetter sc (secD d)) && (innerD d).all (vOk sc k))) = true := hv
    rw [Bool.and_eq_true] at h'
    obtain ⟨t, r, _, rfl, _⟩ := heads_is h'.1
    have : dep (.str t) + 1 ≤ dep (.tup (.str t :: r)) := dep_mem (by simp)
    omega
  | h + 1, k + 1, d, st, hg, hd, hm, hw, hv => by
    have h' : (headsD d && ((!decide (tagD d = "letter") || isLetter sc (secD d)) && (innerD d).all (vOk sc k))) = true := hv
    have hcw := cnt_w (k + 1) d hv
    rw [Bool.and_eq_true, Bool.and_eq_true] at h'
    obtain ⟨hh, _, hall⟩ := h'
    rw [List.all_eq_true] at hall
    have hcnt : cnt (k + 1) d = 1 + ((innerD d).map (cnt k)).sum := rfl
    show Ev (bodyOf (f__law_nodes (callN (n + h + 3))) 5 [d] st) st _
    have e1 : Nx (sAsg (eFrz (eLim (eCons (eTup (eNil)) (eNil)))) (GT.nm 1) [some d, none, none, none, none] st) st [some d, some (.lst [.tup []]), none, none, none] := nx_asg (ev_frz (ev_lim (ev_cons (ev_tup ev_nil (Nat.zero_le _)) fun s _ => ev_nil) (by rw [sizeLine_eq]; simp))) rfl
    refine ev_body (rt_seq e1 fun s0 _ => ?_)
    obtain ⟨ρ', nx, acc, a, b, c, hρ, hacc⟩ := nx_for (src := eEnum (eCons (eCall (callN (n + h + 3) 28) 1 (eCons (eVar 0) (eNil))) (eNil))) (tg := GT.tp [GT.nm 2, GT.nm 3]) (a := sAsg (eBin (pr2 dAdd) (eVar 1) (eFrz (eComp (eSrc (eCall (callN (n + h + 3) 29) 1 (eCons (eVar 3) (eNil)))) (GT.nm 4) (tYesT) (eBin (pr2 dAdd) (eTup (eCons (eVar 2) (eNil))) (eVar 4)) [4]))) (GT.nm 1)) (ρ := [some d, some (.lst [.tup []]), none, none, none]) (st := s0) (s0 := ⟨numbered 0 (innerD d), none⟩)
      ((ev_cons (x := .lst (innerD d)) (xs := []) (ev_call (ev_cons (ev_var rfl) fun _ _ => ev_nil) rfl fun s _ => (by

        exact c_law_inner (n + h) d s hg hh)) fun s _ => ev_nil).bind fun s _ => Ev.of (a := (⟨numbered 0 (innerD d), none⟩ : Src))) rfl
      (fun (j : Nat) (ρ : Sv) => ∃ acc a b c, ρ = [some d, some (.lst acc), a, b, c] ∧ acc = .tup [] :: numPaths (pathsG k) 0 ((innerD d).take j)) ⟨[.tup []], none, none, none, rfl, rfl⟩ (fun j e ρ hj hI => by
        obtain ⟨acc, a, b, c, rfl, hacc⟩ := hI
        obtain ⟨x, hx, rfl⟩ := numbered_get _ _ _ _ hj
        have hxm : x ∈ innerD d := List.mem_of_getElem? hx
        have hxw : wD x ≤ 800000 := by
          have := inner_w hh
          have := wd_mem hxm
          omega
        have hxd := inner_dep1 hh x hxm
        have hj' : j < (innerD d).length := (List.getElem?_eq_some_iff.mp hx).1
        have htk : (innerD d).take (j + 1) = (innerD d).take j ++ [x] := by
          rw [List.take_succ, hx]
          rfl
        have hlen : acc.length + (pathsG k x).length ≤ 800000 := by
          rw [hacc, List.length_cons, num_len _ _ (paths_len k), paths_len]
          have h1 : (((innerD d).take (j + 1)).map (cnt k)).sum = (((innerD d).take j).map (cnt k)).sum + cnt k x := by
            rw [htk, List.map_append, List.sum_append]
            simp
          have h2 : ((innerD d).map (cnt k)).sum = (((innerD d).take (j + 1)).map (cnt k)).sum + (((innerD d).drop (j + 1)).map (cnt k)).sum := by
            rw [← List.sum_append, ← List.map_append, List.take_append_drop]
          omega
        refine ⟨[some d, some (.lst acc), some (.int ((0 + j : Nat) : Int)), some x, c], rfl, fun s => ⟨[some d, some (.lst (acc ++ (pathsG k x).map (tailOf ((0 + j : Nat) : Int)))), some (.int ((0 + j : Nat) : Int)), some x, c], nx_asg (ev_bin (ev_var rfl) (fun s2 g2 => ?_) fun s2 _ => add_lst ?_ s2) rfl, ⟨_, _, _, _, rfl, ?_⟩⟩⟩
        · refine ev_frz (ev_comp1 (s0 := ⟨pathsG k x, none⟩) (ev_src (x := .lst (pathsG k x)) (ev_call (ev_cons (ev_var rfl) fun _ _ => ev_nil) rfl fun s _ => c_law_nodes n h k x s (inner_good hg hh x hxm) (by omega) (by omega) hxw (hall x hxm)) fun _ _ => rfl) rfl (by rw [sizeLine_eq]; show (pathsG k x).length ≤ _; omega) fun p hp => ?_)
          obtain ⟨q, rfl, hq⟩ := paths_short k x p hp
          exact ⟨_, rfl, fun s _ => ev_bin (x := .tup [.int ((0 + j : Nat) : Int)]) (y := .tup q) (ev_tup (ev_cons (ev_var rfl) fun _ _ => ev_nil) (by rw [sizeLine_eq]; simp)) (fun s _ => ev_var rfl) fun s _ => add_tup (by rw [sizeLine_eq]; simp only [List.length_cons, List.length_nil]; omega) s⟩
        · rw [List.length_map, sizeLine_eq]
          omega
        · rw [hacc, htk, num_app, List.length_take, Nat.min_eq_left (by omega)]
          rfl)
    have ht : (innerD d).take (numbered 0 (innerD d)).length = innerD d := by rw [numbered_len, List.take_length]
    rw [show ((⟨numbered 0 (innerD d), none⟩ : Src)).its.length = (numbered 0 (innerD d)).length from rfl, ht] at hacc
    subst hρ hacc
    exact rt_seq nx fun s _ => rt_ret (ev_var rfl)
end Tk
/-! P17: what _law_is_weave tells, as a word over trees. -/
namespace Tk
open PySem L2 Tl
def lawLetter (sc : List D) (d : D) : Bool := lawNames d && (match d with
  | .tup ds => ds.all (inScope sc)
  | _ => false)
def lawIs (sc : List D) : Nat → D → Bool
  | 0, _ => false
  | k + 1, d => headsD d && (if tagD d = "letter" then lawLetter sc (secD d) else (innerD d).all (lawIs sc k) && (!decide (tagD d = "mix") || peq (.tup (innerD d)) (.tup (onceD (innerD d)))))
/-- the names of the scope are names -/
theorem letter_same {sc : List D} (hsc : sc.all isName = true) (d : D) (hd : ∀ ds, d = .tup ds → flat1 ds) : lawLetter sc d = isLetter sc d := by
  cases d with
  | tup ds =>
    show (lawNames (.tup ds) && ds.all (inScope sc)) = (areNames (.tup ds) && ds.all (inScope sc))
    cases hs : ds.all (inScope sc) with
    | false => rw [Bool.and_false, Bool.and_false]
    | true =>
      rw [lawNames_eq]
      show ((ds.all lawName && risesD ds) && true) = ((ds.all isName && risesD ds) && true)
      congr 2
      rw [Bool.eq_iff_iff, List.all_eq_true, List.all_eq_true]
      rw [List.all_eq_true] at hs hsc
      constructor
      · intro h x hx
        have hn := h x hx
        have hi := hs x hx
        unfold inScope anyEq at hi
        obtain ⟨y, hy, hp⟩ := List.any_eq_true.mp hi
        have hyn := hsc y hy
        obtain ⟨u, rfl⟩ := name_str hyn
        cases x with
        | str w =>
          have : u = w := by simpa using (show (u == w) = true from hp)
          rw [← this]
          exact hyn
        | _ => cases hn
      · intro h x hx
        have hn := h x hx
        obtain ⟨u, rfl⟩ := name_str hn
        rw [isName_str] at hn
        simp only [Bool.and_eq_true] at hn
        show (decide ((1 : Int) ≤ (u.length : Nat)) && decide (((u.length : Nat) : Int) ≤ 8) && (signs u).all aToZ) = true
        rw [hn.1.1.1, hn.1.1.2, hn.2]
        rfl
  | _ => rfl
theorem vOk_vl {sc : List D} : ∀ (k : Nat) (d : D), vOk sc k d = true → Vl sc d
  | 0, d, h => by cases h
  | k + 1, d, h => by
    have h' : (headsD d && ((!decide (tagD d = "letter") || isLetter sc (secD d)) && (innerD d).all (vOk sc k))) = true := h
    rw [Bool.and_eq_true, Bool.and_eq_true, Bool.or_eq_true, Bool.not_eq_true', decide_eq_false_iff_not] at h'
    obtain ⟨h1, h2, h3⟩ := h'
    refine .mk h1 (fun e => h2.elim (fun z => absurd e z) id) fun _ e he => vOk_vl k e ?_
    exact List.all_eq_true.mp h3 e he
theorem plain_strs : ∀ {ds : List D}, ds.all isName = true → plainPs (toPs ds) = true
  | [], _ => rfl
  | d :: ds, h => by
    rw [List.all_cons, Bool.and_eq_true] at h
    obtain ⟨u, rfl⟩ := name_str h.1
    show (plainP (.str u) && plainPs (toPs ds)) = true
    rw [plain_strs h.2]
    rfl
theorem plain_all : ∀ {ds : List D}, (∀ d ∈ ds, plainP (toP d) = true) → plainPs (toPs ds) = true
  | [], _ => rfl
  | d :: ds, h => by
    show (plainP (toP d) && plainPs (toPs ds)) = true
    rw [h d (by simp), plain_all fun e he => h e (by simp [he])]
    rfl
theorem vl_plain {sc : List D} {d : D} (v : Vl sc d) : plainP (toP d) = true := by
  induction v with
  | @mk d h l k ih =>
    obtain ⟨t, r, kk, rfl, hk, hl, hm⟩ := heads_is h
    show plainPs (.str t :: toPs r) = true
    show (plainP (.str t) && plainPs (toPs r)) = true
    rw [show plainP (.str t) = true from rfl, Bool.true_and]
    by_cases h1 : t = "letter"
    · obtain ⟨y, rfl⟩ := two_of hk hl (.inl h1)
      obtain ⟨ns, rfl, hn⟩ := letter_names (l h1)
      show (plainPs (toPs ns) && true) = true
      rw [plain_strs hn]
      rfl
    · by_cases h2 : t = "mix"
      · obtain ⟨y, rfl⟩ := two_of hk hl (.inr h2)
        have hmo := hm h2
        cases y with
        | tup es =>
          show (plainPs (toPs es) && true) = true
          rw [plain_all fun e he => ih h1 e (by rw [inner_eq, if_pos h2]; exact he)]
          rfl
        | _ => cases hmo
      · by_cases h3 : t = "none"
        · have : r = [] := by
            rw [h3] at hk
            have hk1 : kk = 1 := Option.some.inj (hk.symm.trans (by decide +kernel : sizeT "none" = some 1))
            have : r.length = 0 := by omega
            exact List.eq_nil_of_length_eq_zero this
          rw [this]
          rfl
        · exact plain_all fun e he => ih h1 e (by rw [inner_eq, if_neg h2, if_neg (by simp [h1, h3])]; exact he)
theorem cm_inner {sc : List D} {k : Nat} {ds : List D} (h : ds.all (vOk sc k) = true) : Cm ds := fun x hx y hy => by
  rw [List.all_eq_true] at h
  have vx := vOk_vl k x (h x hx)
  have vy := vOk_vl k y (h y hy)
  exact ⟨vl_plain vx, vl_plain vy, vl_lt vx y vy⟩
theorem sec_flat {d : D} (hg : Good d) : ∀ ds, secD d = .tup ds → flat1 ds := by
  intro ds h
  unfold secD at h
  split at h
  · exact (hg.sub (.tup ds) (by rw [← h]; simp)).flat ds rfl
  · cases h
theorem lawIs_same {sc : List D} (hsc : sc.all isName = true) : ∀ (k : Nat) (d : D), 1 ≤ k → Good d → lawIs sc k d = (vOk sc k d && mixA k d)
  | 0, d, hk, _ => absurd hk (by omega)
  | k + 1, d, _, hg => by
    show (headsD d && (if tagD d = "letter" then lawLetter sc (secD d) else (innerD d).all (lawIs sc k) && (!decide (tagD d = "mix") || peq (.tup (innerD d)) (.tup (onceD (innerD d)))))) = ((headsD d && ((!decide (tagD d = "letter") || isLetter sc (secD d)) && (innerD d).all (vOk sc k))) && ((!decide (tagD d = "mix") || risesD (innerD d)) && (innerD d).all (mixA k)))
    cases hh : headsD d with
    | false => rfl
    | true =>
      by_cases hl : tagD d = "letter"
      · rw [if_pos hl, letter_same hsc _ (sec_flat hg), inner_letter hl, hl]
        rw [decide_eq_true rfl, decide_eq_false (by decide)]
        simp
      · rw [if_neg hl, decide_eq_false hl]
        have each : (innerD d).all (lawIs sc k) = ((innerD d).all (vOk sc k) && (innerD d).all (mixA k)) := by
          cases k with
          | zero =>
            cases innerD d <;> rfl
          | succ k =>
            have : ∀ ds : List D, (∀ e ∈ ds, Good e) → ds.all (lawIs sc (k + 1)) = (ds.all (vOk sc (k + 1)) && ds.all (mixA (k + 1))) := fun ds => by
              induction ds with
              | nil => exact fun _ => rfl
              | cons x ds ih =>
                intro h
                rw [List.all_cons, List.all_cons, List.all_cons, ih fun e he => h e (by simp [he]), lawIs_same hsc (k + 1) x (by omega) (h x (by simp))]
                cases vOk sc (k + 1) x <;> cases mixA (k + 1) x <;> cases ds.all (vOk sc (k + 1)) <;> cases ds.all (mixA (k + 1)) <;> rfl
            exact this _ (inner_good hg hh)
        rw [each]
        cases hv : (innerD d).all (vOk sc k) with
        | false => simp
        | true =>
          rw [once_rises (cm_inner hv)]
          cases decide (tagD d = "mix") <;> cases risesD (innerD d) <;> cases (innerD d).all (mixA k) <;> rfl
end Tk
/-! P18: the walk of _law_is_weave. -/
namespace Tk
open PySem L2 Tl
abbrev E7 (sc : List D) (d : D) (q : Int) (a b c e : Option D) : Sv := [some (.tup sc), some d, some (.int q), a, b, c, e]
theorem eq_lnil {ds : List D} (h : lay (.lst ds) = true) (s : List O) : pr2 (dEq false) s [.lst ds, .lst []] = some (.bl ds.isEmpty, s) := by
  rw [pr2_eq]
  have n : noneIn (.lst ds) (.lst []) = none := rfl
  have c : lay (deref s (.lst ds)) = true ∧ lay (deref s (.lst [])) = true ∧ min (dep (deref s (.lst ds))) (dep (deref s (.lst []))) ≤ 64 := ⟨h, rfl, by
    have : dep (deref s (.lst [])) = 1 := rfl
    omega⟩
  unfold dEq
  rw [n]
  simp only [if_pos c]
  cases ds <;> rfl
theorem nin_scope {sc : List D} {x : Str} (hx : strA x = true) (hs : lay (.tup sc) = true) (s : List O) : pr2 (dIn true) s [.str x, .tup sc] = some (.bl (!inScope sc (.str x)), s) := by
  show (dIn true s (.str x) (.tup sc)).map _ = _
  unfold dIn
  simp only
  rw [if_pos ⟨strA_lay hx, hs, by rw [dep_str]; omega⟩]
  rfl
theorem law_name_str {d : D} (h : lawName d = true) : ∃ x, d = .str x := by
  cases d <;> first | exact ⟨_, rfl⟩ | cases h
/-- the first question: too deep, no tuple, nothing in it, no text ahead -/
abbrev w1T : Sv → List O → RR Bool := eOrT (eIs (eBin (pr2 dGt) (eVar 2) (eC (.int 60)))) (eOrT (eNot (eTru (eIsi "tuple" (eVar 1)))) (eOrT (eIs (eBin (pr2 (dEq false)) (eVar 1) (eTup (eNil)))) (eNot (eTru (eIsi "str" (eBin (pr2 dIx) (eVar 1) (eC (.int 0))))))))
def firstStr : D → Bool
  | .tup (.str _ :: _) => true
  | _ => false
theorem w1_ev {sc : List D} {d : D} {q : Int} {a b c e : Option D} (st : List O) : Ev (w1T (E7 sc d q a b c e) st) st (decide (60 < q) || !firstStr d) := by
  refine ev_or (ev_is (ev_bin (ev_var rfl) (fun s _ => ev_c) fun s _ => gt_int q 60 s)) fun _ s _ => ?_
  cases hd : isTup d with
  | false =>
    have : firstStr d = false := by cases d <;> first | rfl | cases hd
    rw [this]
    exact guard_tup rfl hd
  | true =>
    cases d with
    | tup ds =>
      have t0 : Ev (eNot (eTru (eIsi "tuple" (eVar 1))) (E7 sc (.tup ds) q a b c e) s) s false := ev_not (ev_truB (ev_isi (ev_var rfl) fun s => kit_tuple s (.tup ds)))
      cases ds with
      | nil =>
        exact ev_or t0 fun _ s2 _ => ev_or (b := true) (c := false) (ev_is (ev_bin (ev_var rfl) (fun s _ => ev_tup ev_nil (Nat.zero_le _)) fun s _ => eq_nil [] s)) fun z => by cases z
      | cons x r =>
        have e3 : (!firstStr (.tup (x :: r))) = (false || (false || !isStr x)) := by cases x <;> rfl
        rw [e3]
        exact ev_or t0 fun _ s2 _ => ev_or (b := false) (ev_is (ev_bin (ev_var rfl) (fun s _ => ev_tup ev_nil (Nat.zero_le _)) fun s _ => eq_nil (x :: r) s)) fun _ s3 _ => ev_not (ev_truB (ev_isi (ev_bin (ev_var rfl) (fun s _ => ev_c) fun s _ => ix0 x r s) fun s => kit_str s x))
    | _ => cases hd
theorem heads_first {d : D} (h : firstStr d = false) : headsD d = false := by
  unfold firstStr at h
  split at h
  · cases h
  · rename_i hn
    unfold headsD
    split
    · rename_i t r
      exact absurd rfl (hn t r)
    · rfl
theorem lawIs_no {sc : List D} {k : Nat} {d : D} (h : headsD d = false) : lawIs sc k d = false := by
  cases k with
  | zero => rfl
  | succ k =>
    show (headsD d && _) = false
    rw [h]
    rfl
/-- the second question: the tag and the size -/
abbrev w2T : Sv → List O → RR Bool := eOrT (eIs (eBin (pr2 (dIn true)) (eBin (pr2 dIx) (eVar 1) (eC (.int 0))) (eVar 3))) (eIs (eBin (pr2 (dEq true)) (ePr (pr1 dLen) (eCons (eVar 1) (eNil))) (eBin (pr2 dIx) (eVar 3) (eBin (pr2 dIx) (eVar 1) (eC (.int 0))))))
def sizeOk (t : Str) (r : List D) : Bool := match sizeT t with
  | none => false
  | some k => decide (((r.length : Nat) : Int) + 1 = k)
theorem w2_ev {sc : List D} {t : Str} {r : List D} {q : Int} {b c e : Option D} {s0 s : List O} (g : Gr (s0 ++ [.dic sizesK]) s) : Ev (w2T (E7 sc (.tup (.str t :: r)) q (some (.loc s0.length)) b c e) s) s (!sizeOk t r) := by
  have head : ∀ (s2 : List O), Ev (eBin (pr2 dIx) (eVar 1) (eC (.int 0)) (E7 sc (.tup (.str t :: r)) q (some (.loc s0.length)) b c e) s2) s2 (.str t) := fun s2 => ev_bin (ev_var rfl) (fun s _ => ev_c) fun s _ => ix0 _ _ s
  cases hk : (lookD sizesK (.inr t)).isSome with
  | false =>
    have hn : lookD sizesK (.inr t) = none := by simpa using hk
    have h2 : sizeOk t r = false := by
      unfold sizeOk sizeT
      rw [hn]
    rw [h2]
    have := ev_or (ρ := E7 sc (.tup (.str t :: r)) q (some (.loc s0.length)) b c e) (st := s) (u := eIs (eBin (pr2 (dEq true)) (ePr (pr1 dLen) (eCons (eVar 1) (eNil))) (eBin (pr2 dIx) (eVar 3) (eBin (pr2 dIx) (eVar 1) (eC (.int 0)))))) (c := false) (ev_is (ev_bin (head _) (fun s2 _ => ev_var (i := 3) rfl) fun s2 g2 => in_sizes (g.trans g2) t)) fun z => by
      rw [hk] at z
      cases z
    rw [hk] at this
    exact this
  | true =>
    obtain ⟨k, hk2⟩ := size_cases hk
    have h2 : sizeOk t r = decide (((r.length : Nat) : Int) + 1 = k) := by
      unfold sizeOk sizeT
      rw [hk2]
    have t1 := ev_or (ρ := E7 sc (.tup (.str t :: r)) q (some (.loc s0.length)) b c e) (st := s) (ev_is (ev_bin (head _) (fun s2 _ => ev_var (i := 3) rfl) fun s2 g2 => in_sizes (g.trans g2) t)) fun _ s2 g2 =>
      ev_is (ev_bin (ev_lenT (ev_var (i := 1) (d := .tup (.str t :: r)) rfl)) (fun s3 g3 => ev_bin (ev_var (i := 3) (d := .loc s0.length) rfl) (fun s4 _ => head s4) fun s4 g4 => ix_sizes (((g.trans g2).trans g3).trans g4) hk2) fun s3 _ => ne_int _ k s3)
    rw [hk] at t1
    have hlen : (((D.str t :: r).length : Nat) : Int) = ((r.length : Nat) : Int) + 1 := by simp
    rw [hlen] at t1
    rw [h2]
    exact t1
end Tk
/-! P19: the walk of _law_is_weave, its later questions. -/
namespace Tk
open PySem L2 Tl
theorem law_letter_ev {sc : List D} {m : Nat} {t : Str} {y : D} {q : Int} {a b c e : Option D} (st : List O) (hlay : lay (.tup sc) = true) (hy : ∀ ds, y = .tup ds → flat1 ds ∧ ds.length ≤ 4000) :
    Ev (eAndV (eCall (callN (m + 3) 30) 1 (eCons (eBin (pr2 dIx) (eVar 1) (eC (.int 1))) (eNil))) (eBin (pr2 (dEq false)) (eFrz (eComp (eSrc (eBin (pr2 dIx) (eVar 1) (eC (.int 1)))) (GT.nm 6) (eIs (eBin (pr2 (dIn true)) (eVar 6) (eVar 0))) (eVar 6) [6])) (eFrz (eLim (eNil)))) (E7 sc (.tup [.str t, y]) q a b c e) st) st (.bl (lawLetter sc y)) := by
  have snd : ∀ (ρ : Sv) (s2 : List O), ρ[1]? = some (some (.tup [.str t, y])) → Ev (eBin (pr2 dIx) (eVar 1) (eC (.int 1)) ρ s2) s2 y := fun ρ s2 h => ev_bin (ev_var h) (fun s _ => ev_c) fun s _ => ix1 _ _ _ s
  refine ev_andV (ev_call (ev_cons (snd _ _ rfl) fun _ _ => ev_nil) rfl fun s _ => c_law_are_names m y s hy) fun hb s _ => ?_
  cases y with
  | tup ds =>
    rw [lawNames_eq, Bool.and_eq_true] at hb
    have hn := List.all_eq_true.mp hb.1
    have hf := (hy ds rfl).1
    have hA : ∀ d ∈ ds, lay d = true := fun d hd => by
      obtain ⟨x, rfl⟩ := law_name_str (hn d hd)
      exact strA_lay (hf.1 _ hd x rfl)
    have fl : lay (.lst ((ds.filter fun d => !inScope sc d).map id)) = true := lay_lst fun d hd => by
      rw [List.map_id, List.mem_filter] at hd
      exact hA d hd.1
    show Ev _ _ (D.bl (ds.all (inScope sc)))
    rw [← filter_none (inScope sc) ds, ← List.map_id (ds.filter _)]
    refine ev_bin (h := pr2 (dEq false)) (ev_frz (ev_comp (s0 := ⟨ds, none⟩) (p := fun d => !inScope sc d) (F := id) (ev_src (snd _ _ rfl) fun _ _ => rfl) rfl (flat1_len hf) fun d hd => ?_)) (fun s3 _ => ev_frz (ev_lim ev_nil (Nat.zero_le _))) fun s3 _ => eq_lnil fl s3
    obtain ⟨x, rfl⟩ := law_name_str (hn d hd)
    exact ⟨_, rfl, fun s2 _ => ⟨ev_is (ev_bin (ev_var rfl) (fun s3 _ => ev_var rfl) fun s3 _ => nin_scope (hf.1 _ hd x rfl) hlay s3), fun _ => ev_var rfl⟩⟩
  | _ => cases hb
/-- parts = thing[1] if thing[0] == 'mix' else thing[1:] -/
def partsOf (t : Str) (r : List D) : D := if t = "mix" then (match r with | y :: _ => y | [] => .non) else .tup r
theorem parts_ev {sc : List D} {t : Str} {r : List D} {q : Int} {a b c e : Option D} (st : List O) (ht : strA t = true) (hm : t = "mix" → ∃ y, r = [y]) :
    Ev (eIfE (eIs (eBin (pr2 (dEq false)) (eBin (pr2 dIx) (eVar 1) (eC (.int 0))) (eC (.str "mix")))) (eBin (pr2 dIx) (eVar 1) (eC (.int 1))) (eSl dSl (eVar 1) (ePart (eC (.int 1))) (eNoPart)) (E7 sc (.tup (.str t :: r)) q a b c e) st) st (partsOf t r) := by
  have head : ∀ (s2 : List O), Ev (eBin (pr2 dIx) (eVar 1) (eC (.int 0)) (E7 sc (.tup (.str t :: r)) q a b c e) s2) s2 (.str t) := fun s2 => ev_bin (ev_var rfl) (fun s _ => ev_c) fun s _ => ix0 _ _ s
  refine ev_ifE (ev_is (ev_bin (head st) (fun s _ => ev_c) fun s _ => eq_str ht strA_mix s)) (fun hb s _ => ?_) fun hb s _ => ?_
  · have et : t = "mix" := of_decide_eq_true hb
    obtain ⟨y, rfl⟩ := hm et
    have : partsOf t [y] = y := by
      unfold partsOf
      rw [if_pos et]
    rw [this]
    exact ev_bin (ev_var rfl) (fun s _ => ev_c) fun s _ => ix1 _ _ _ s
  · have et : t ≠ "mix" := of_decide_eq_false hb
    have : partsOf t r = .tup r := by
      unfold partsOf
      rw [if_neg et]
    rw [this]
    refine ev_sl (h := dSl) (ev_var rfl) (fun s _ => ev_part ev_c) (fun s _ => ev_noPart) fun s _ => ?_
    show some (D.tup (cut (.str t :: r) (some 1) none)) = _
    rw [cut1]
    rfl
/-- if not isinstance(parts, tuple) or (thing[0] == 'mix' and parts == ()) -/
abbrev w3T : Sv → List O → RR Bool := eOrT (eNot (eTru (eIsi "tuple" (eVar 4)))) (eAndT (eIs (eBin (pr2 (dEq false)) (eBin (pr2 dIx) (eVar 1) (eC (.int 0))) (eC (.str "mix")))) (eIs (eBin (pr2 (dEq false)) (eVar 4) (eTup (eNil)))))
theorem w3_ev {sc : List D} {t : Str} {r : List D} {q : Int} {a c e : Option D} {p : D} (st : List O) (ht : strA t = true) :
    Ev (w3T (E7 sc (.tup (.str t :: r)) q a (some p) c e) st) st (!isTup p || (decide (t = "mix") && (match p with | .tup ds => ds.isEmpty | _ => false))) := by
  have head : ∀ (s2 : List O), Ev (eBin (pr2 dIx) (eVar 1) (eC (.int 0)) (E7 sc (.tup (.str t :: r)) q a (some p) c e) s2) s2 (.str t) := fun s2 => ev_bin (ev_var rfl) (fun s _ => ev_c) fun s _ => ix0 _ _ s
  refine ev_or (ev_not (ev_truB (ev_isi (ev_var rfl) fun s => kit_tuple s p))) fun hb s _ => ?_
  cases p with
  | tup ds => exact ev_and (ev_is (ev_bin (head s) (fun s _ => ev_c) fun s _ => eq_str ht strA_mix s)) fun _ s _ => ev_is (ev_bin (ev_var rfl) (fun s _ => ev_tup ev_nil (Nat.zero_le _)) fun s _ => eq_nil ds s)
  | _ => cases hb
end Tk
/-! P20: _law_is_weave put together; _law_said. -/
namespace Tk
open PySem L2 Tl
theorem ne_lnilX (ds : List D) (s : List O) : pr2 (dEq true) s [.lst ds, .lst []] = some (.bl (!ds.isEmpty), s) := by
  cases h : lay (.lst ds) with
  | true => exact ne_lnil h s
  | false =>
    rw [pr2_eq]
    have n : noneIn (.lst ds) (.lst []) = none := rfl
    have c : ¬(lay (deref s (.lst ds)) = true ∧ lay (deref s (.lst [])) = true ∧ min (dep (deref s (.lst ds))) (dep (deref s (.lst []))) ≤ 64) := fun z => by
      have z1 : lay (.lst ds) = true := z.1
      rw [h] at z1
      cases z1
    unfold dEq
    rw [n]
    simp only [if_neg c]
    cases ds <;> rfl
theorem lawIs_vOk {sc : List D} (hsc : sc.all isName = true) : ∀ (k : Nat) (d : D), Good d → lawIs sc k d = true → vOk sc k d = true
  | 0, d, _, h => by cases h
  | k + 1, d, hg, h => by
    rw [lawIs_same hsc (k + 1) d (by omega) hg, Bool.and_eq_true] at h
    exact h.1
theorem head_vl {sc : List D} {d : D} (v : Vl sc d) : headK (toP d) = some 0 := by
  cases v with
  | mk h l k =>
    obtain ⟨t, r, kk, rfl, _⟩ := heads_is h
    rfl
theorem sort_vl {sc ds : List D} (h : ∀ e ∈ ds, Vl sc e) (hg : ∀ e ∈ ds, Good e) (hd : ∀ e ∈ ds, dep e ≤ 63) : sortOk ds = true := by
  unfold sortOk
  rw [Bool.and_eq_true, Bool.and_eq_true]
  refine ⟨⟨List.all_eq_true.mpr fun e he => ?_, List.all_eq_true.mpr fun e he => List.all_eq_true.mpr fun e' he' => vl_lt (h e he) e' (h e' he')⟩, ?_⟩
  · rw [Bool.and_eq_true]
    exact ⟨vl_lay (h e he) (hg e he), decide_eq_true (by have := hd e he; omega)⟩
  · unfold shapeOk
    have : (ds.map toP).all (fun d => decide (headK d = some 0)) = true := List.all_eq_true.mpr fun p hp => by
      obtain ⟨e, he, rfl⟩ := List.mem_map.mp hp
      exact decide_eq_true (head_vl (h e he))
    rw [this]
    simp
theorem eq_vl {sc : List D} {d : D} (v : Vl sc d) (hg : Good d) (hd : dep d ≤ 63) : eqOk d := ⟨vl_plain v, vl_lay v hg, hd⟩
theorem peq_once_plain {sc xs : List D} (h : ∀ e ∈ xs, Vl sc e) : plainP (toP (.tup xs)) = true := plain_all fun e he => vl_plain (h e he)
theorem once_mem {xs : List D} : ∀ e ∈ onceD xs, e ∈ xs := by
  have sq : ∀ (r acc : List D), ∀ e ∈ squash acc r, e ∈ acc ∨ e ∈ r := by
    intro r
    induction r with
    | nil => exact fun acc e he => .inl he
    | cons x r ih =>
      intro acc e he
      have he' : e ∈ (if lastNe acc x = true then squash (acc ++ [x]) r else squash acc r) := he
      split at he'
      · rcases ih _ e he' with z | z
        · rcases List.mem_append.mp z with z | z
          · exact .inl z
          · rw [List.mem_singleton] at z
            exact .inr (by rw [z]; simp)
        · exact .inr (by simp [z])
      · rcases ih _ e he' with z | z
        · exact .inl z
        · exact .inr (by simp [z])
  intro e he
  rcases sq _ _ e he with z | z
  · cases z
  · unfold sortD at z
    exact List.mem_mergeSort.mp z
theorem dep_tup_le {ds : List D} {m : Nat} (h : ∀ e ∈ ds, dep e ≤ m) : dep (.tup ds) ≤ m + 1 := by
  show PyData.depthAll (toPs ds) + 1 ≤ m + 1
  have : PyData.depthAll (toPs ds) ≤ m := by
    induction ds with
    | nil => exact Nat.zero_le _
    | cons x ds ih =>
      show max (dep x) (PyData.depthAll (toPs ds)) ≤ m
      have h1 := h x (by simp)
      have h2 := ih fun e he => h e (by simp [he])
      omega
  omega
theorem size_eq {t : Str} {r : List D} : headsD (.tup (.str t :: r)) = (sizeOk t r && (!decide (t = "mix") || mixOk r)) := rfl
theorem parts_in {t : Str} {r : List D} (h : headsD (.tup (.str t :: r)) = true) (hl : t ≠ "letter") : partsOf t r = .tup (innerD (.tup (.str t :: r))) := by
  obtain ⟨t', r', kk, e, hk, hln, hm⟩ := heads_is h
  cases e
  rw [inner_eq]
  unfold partsOf
  by_cases h2 : t = "mix"
  · rw [if_pos h2, if_pos h2]
    have hmo := hm h2
    obtain ⟨y, rfl⟩ := two_of hk hln (.inr h2)
    cases y with
    | tup es => rfl
    | _ => cases hmo
  · rw [if_neg h2, if_neg h2]
    by_cases h3 : t = "none"
    · rw [if_pos (.inl h3)]
      rw [h3] at hk
      have hk1 : kk = 1 := Option.some.inj (hk.symm.trans (by decide +kernel : sizeT "none" = some 1))
      have : r.length = 0 := by omega
      rw [List.eq_nil_of_length_eq_zero this]
    · rw [if_neg (by simp [hl, h3])]
theorem size_two {t : Str} {r : List D} (h : sizeOk t r = true) (ht : t = "letter" ∨ t = "mix") : ∃ y, r = [y] := by
  unfold sizeOk at h
  split at h
  · cases h
  · rename_i k hk
    exact two_of hk (of_decide_eq_true h) ht
theorem w3_heads {t : Str} {r : List D} (h : sizeOk t r = true) : (!isTup (partsOf t r) || (decide (t = "mix") && (match partsOf t r with | .tup ds => ds.isEmpty | _ => false))) = !headsD (.tup (.str t :: r)) := by
  rw [size_eq, h, Bool.true_and]
  by_cases h2 : t = "mix"
  · obtain ⟨y, rfl⟩ := size_two h (.inr h2)
    have e : partsOf t [y] = y := by
      unfold partsOf
      rw [if_pos h2]
    rw [e, h2]
    cases y with
    | tup es => cases es <;> rfl
    | _ => rfl
  · have e : partsOf t r = .tup r := by
      unfold partsOf
      rw [if_neg h2]
    rw [e, decide_eq_false h2]
    rfl
theorem wD_len (ds : List D) : ds.length ≤ wDs ds := by
  induction ds with
  | nil => exact Nat.le_refl _
  | cons x ds ih =>
    show ds.length + 1 ≤ wD x + wDs ds
    have : 1 ≤ wD x := by cases x <;> (unfold wD; omega)
    omega
theorem c_law_is_weave {sc : List D} (hsc : sc.all isName = true) (hlay : lay (.tup sc) = true) (n : Nat) : ∀ (h k : Nat) (d : D) (q : Int) (st : List O), q = 61 - (k : Int) → Good d → dep d ≤ h → h ≤ 62 → wD d ≤ 4000 → Ev (callN (n + h + 3) 31 [.tup sc, d, .int q] st) st (.bl (lawIs sc k d))
  | h, k, d, q, st, hq, hg, hd, hh, hw => by
    show Ev (bodyOf (f__law_is_weave (callN (n + h + 2))) 7 [.tup sc, d, .int q] st) st _
    refine ev_body (rt_guard (w1_ev (a := none) (b := none) (c := none) (e := none) st) (fun hb s _ => ?_) fun hb s0 _ => ?_)
    · have : lawIs sc k d = false := by
        rw [Bool.or_eq_true, decide_eq_true_eq, Bool.not_eq_true'] at hb
        rcases hb with z | z
        · have : k = 0 := by omega
          rw [this]
          rfl
        · exact lawIs_no (heads_first z)
      rw [this]
      exact rt_ret ev_c
    · rw [Bool.or_eq_false_iff, decide_eq_false_iff_not, Bool.not_eq_false'] at hb
      obtain ⟨k, rfl⟩ : ∃ k', k = k' + 1 := ⟨k - 1, by omega⟩
      obtain ⟨t, r, rfl⟩ : ∃ t r, d = .tup (.str t :: r) := by
        have := hb.2
        unfold firstStr at this
        split at this
        · exact ⟨_, _, rfl⟩
        · cases this
      have ht : strA t = true := hg.flat _ rfl |>.1 (.str t) (by simp) t rfl
      have hsub := hg.sub
      obtain ⟨h, rfl⟩ : ∃ h', h = h' + 1 := ⟨h - 1, by
        have : dep (.str t) + 1 ≤ dep (.tup (.str t :: r)) := dep_mem (by simp)
        omega⟩
      refine rt_seqX (ρ' := E7 sc (.tup (.str t :: r)) q (some (.loc s0.length)) none none none) (s := s0 ++ [.dic sizesK]) ?_ (Gr.one _) ?_
      · unfold sAsg
        show onE (eDict sizesE _ s0) _ _ = _
        rw [ev_sizes]
        rfl
      refine rt_guard (w2_ev (b := none) (c := none) (e := none) Gr.refl) (fun hb s _ => ?_) fun hb s1 g1 => ?_
      · have : headsD (.tup (.str t :: r)) = false := by
          rw [size_eq, show sizeOk t r = false by simpa using hb]
          rfl
        rw [lawIs_no this]
        exact rt_ret ev_c
      have hb : sizeOk t r = true := by simpa using hb
      have head : ∀ (a b c e : Option D) (s2 : List O), Ev (eBin (pr2 dIx) (eVar 1) (eC (.int 0)) (E7 sc (.tup (.str t :: r)) q a b c e) s2) s2 (.str t) := fun a b c e s2 => ev_bin (ev_var rfl) (fun s _ => ev_c) fun s _ => ix0 _ _ s
      refine rt_guard (ev_is (ev_bin (head _ _ _ _ s1) (fun s _ => ev_c) fun s _ => eq_str ht strA_letter s)) (fun hl s2 _ => ?_) fun hl s2 _ => ?_
      · have hl : t = "letter" := of_decide_eq_true hl
        obtain ⟨y, rfl⟩ := size_two hb (.inl hl)
        have hy : ∀ ds, y = .tup ds → flat1 ds ∧ ds.length ≤ 4000 := fun ds e => by
          refine ⟨(hsub y (by simp)).flat ds e, ?_⟩
          have h1 : wD y ≤ 4000 := by
            have h1 : wD y ≤ wDs [.str t, y] := wd_mem (by simp)
            have h2 : wD (.tup [.str t, y]) = 1 + wDs [.str t, y] := rfl
            omega
          rw [e] at h1
          have h2 : wD (.tup ds) = 1 + wDs ds := rfl
          have := wD_len ds
          omega
        have hA : lawIs sc (k + 1) (.tup [.str t, y]) = lawLetter sc y := by
          show (headsD (.tup [.str t, y]) && (if tagD (.tup [.str t, y]) = "letter" then lawLetter sc (secD (.tup [.str t, y])) else _)) = _
          rw [size_eq, hb, hl]
          rfl
        rw [hA]
        exact rt_ret (law_letter_ev (m := n + h) s2 hlay hy)
      have hl : t ≠ "letter" := of_decide_eq_false hl
      have hm : t = "mix" → ∃ y, r = [y] := fun e => size_two hb (.inr e)
      refine rt_seq (nx_asg (tg := GT.nm 4) (parts_ev (a := some (.loc s0.length)) (b := none) (c := none) (e := none) s2 ht hm) rfl) fun s3 _ => ?_
      have w3 : ∀ s, Ev (w3T (E7 sc (.tup (.str t :: r)) q (some (.loc s0.length)) (some (partsOf t r)) none none) s) s (!headsD (.tup (.str t :: r))) := fun s => by
        rw [← w3_heads hb]
        exact w3_ev s ht
      refine rt_guard (w3 s3) (fun hb s _ => ?_) fun hb s4 _ => ?_
      · rw [lawIs_no (by simpa using hb)]
        exact rt_ret ev_c
      have hd1 : headsD (.tup (.str t :: r)) = true := by simpa using hb
      have pe := parts_in hd1 hl
      have hin := inner_good hg hd1
      have hdp := inner_dep1 hd1
      have hiw := inner_w hd1
      have hlen := wD_len (innerD (.tup (.str t :: r)))
      have hA : lawIs sc (k + 1) (.tup (.str t :: r)) = ((innerD (.tup (.str t :: r))).all (lawIs sc k) && (!decide (t = "mix") || peq (.tup (innerD (.tup (.str t :: r)))) (.tup (onceD (innerD (.tup (.str t :: r))))))) := by
        show (headsD (.tup (.str t :: r)) && (if t = "letter" then _ else _)) = _
        rw [hd1, if_neg hl]
        rfl
      rw [hA]
      generalize innerD (.tup (.str t :: r)) = ps at pe hin hdp hiw hlen hA ⊢
      have t4 : Ev (eIs (eBin (pr2 (dEq true)) (eFrz (eComp (eSrc (eVar 4)) (GT.nm 5) (eNot (eTru (eCall (callN (n + h + 3) 31) 3 (eCons (eVar 0) (eCons (eVar 5) (eCons (eBin (pr2 dAdd) (eVar 2) (eC (.int 1))) (eNil))))))) (eVar 5) [5])) (eFrz (eLim (eNil)))) (E7 sc (.tup (.str t :: r)) q (some (.loc s0.length)) (some (partsOf t r)) none none) s4) s4 (!(ps.all (lawIs sc k))) := by
        rw [← filter_none (lawIs sc k) ps, ← List.map_id (ps.filter _)]
        refine ev_is (ev_bin (ev_frz (ev_comp (s0 := ⟨ps, none⟩) (p := fun d => !lawIs sc k d) (F := id) (ev_src (ev_var rfl) fun _ _ => by rw [pe]; rfl) rfl (by rw [sizeLine_eq]; show ps.length ≤ _; omega) fun e he => ?_)) (fun s _ => ev_frz (ev_lim ev_nil (Nat.zero_le _))) fun s _ => ne_lnilX _ s)
        have he : e ∈ ps := he
        have hew : wD e ≤ 4000 := by
          have := wd_mem he
          omega
        exact ⟨_, rfl, fun s _ => ⟨ev_not (ev_truB (ev_call (ev_cons (ev_var rfl) fun _ _ => ev_cons (ev_var rfl) fun _ _ => ev_cons (ev_bin (ev_var rfl) (fun s _ => ev_c) fun s _ => (rfl : pr2 dAdd s [.int q, .int 1] = some (.int (q + 1), s))) fun _ _ => ev_nil) rfl fun s _ => c_law_is_weave hsc hlay n h k e (q + 1) s (by omega) (hin e he) (by have := hdp e he; omega) (by omega) hew)), fun _ => ev_var rfl⟩⟩
      refine rt_guard t4 (fun hb s _ => ?_) fun hb s5 _ => rt_ret ?_
      · have : ps.all (lawIs sc k) = false := by simpa using hb
        rw [this]
        exact rt_ret ev_c
      have hall : ps.all (lawIs sc k) = true := by simpa using hb
      rw [hall, Bool.true_and]
      have hv : ∀ e ∈ ps, Vl sc e := fun e he => vOk_vl k e (lawIs_vOk hsc k e (hin e he) (List.all_eq_true.mp hall e he))
      have hd63 : ∀ e ∈ ps, dep e ≤ 61 := fun e he => by
        have := hdp e he
        omega
      have ho : ∀ e ∈ ps, eqOk e := fun e he => eq_vl (hv e he) (hin e he) (by have := hd63 e he; omega)
      refine ev_orV (ev_bin (head _ _ _ _ s5) (fun s _ => ev_c) fun s _ => ne_str ht strA_mix s) fun hmx s6 _ => ?_
      have lt : ∀ xs : List D, (∀ e ∈ xs, e ∈ ps) → eqOk (.tup xs) := fun xs hx => ⟨peq_once_plain fun e he => hv e (hx e he), lay_tup fun e he => (ho e (hx e he)).2.1, by have := dep_tup_le fun e he => hd63 e (hx e he); omega⟩
      refine ev_bin (h := pr2 (dEq false)) (x := .tup ps) (y := .tup (onceD ps)) (ev_var (by rw [← pe]; rfl)) (fun s _ => ev_call (ev_cons (x := .tup ps) (ev_var (by rw [← pe]; rfl)) fun _ _ => ev_nil) rfl fun s _ => c_law_once (n + h) (.tup ps) ps s (fun _ => rfl) (sort_vl hv hin fun e he => by have := hd63 e he; omega) ho (by rw [sizeLine_eq]; omega)) fun s _ => ?_
      exact dEq_pl false (lt ps fun _ z => z) (lt _ once_mem) s
end Tk
/-! P21: outcomes of what draws: what is drawn is not known, only bounded. -/
namespace Tk
open PySem L2 Tl
def cap : Nat := 1000000000
def dicOf (cells : List Int) (rest turn : Int) : O := .dic [(.inr "wide", .loc 0), (.inr "cells", .lst (cells.map .int)), (.inr "rest", .int rest), (.inr "turn", .int turn)]
structure DState (b : Nat) (st : List O) (wide cells : List Int) (rest turn : Int) : Prop where
  w : st[0]? = some (.lst (wide.map .int))
  d : st[1]? = some (dicOf cells rest turn)
  wp : ∀ w ∈ wide, (0 : Int) ≤ w
  cp : ∀ c ∈ cells, (0 : Int) ≤ c ∧ c < 2147483629
  cl : cells.length ≤ 63
  r0 : 0 ≤ rest
  t0 : 0 ≤ turn
  tb : turn ≤ (b : Int)
def DS (b : Nat) (st : List O) : Prop := ∃ wide cells rest turn, DState b st wide cells rest turn
def Keep (st s : List O) : Prop := ∀ i o, 2 ≤ i → st[i]? = some o → s[i]? = some o
theorem Keep.refl {st : List O} : Keep st st := fun _ _ _ h => h
theorem Keep.trans {a b c : List O} (h : Keep a b) (k : Keep b c) : Keep a c := fun i o hi e => k i o hi (h i o hi e)
theorem Gr.keep {a b : List O} (h : Gr a b) : Keep a b := fun i o _ e => h.get e
theorem DS.mono {b b' : Nat} {st : List O} (h : DS b st) (k : b ≤ b') : DS b' st := by
  obtain ⟨wide, cells, rest, turn, q⟩ := h
  exact ⟨wide, cells, rest, turn, { q with tb := by have := q.tb; omega }⟩
theorem DS.gr {b : Nat} {st s : List O} (h : DS b st) (k : Gr st s) : DS b s := by
  obtain ⟨wide, cells, rest, turn, q⟩ := h
  exact ⟨wide, cells, rest, turn, { q with w := k.get q.w, d := k.get q.d }⟩
theorem DS.len {b : Nat} {st : List O} (h : DS b st) : 2 ≤ st.length := by
  obtain ⟨wide, cells, rest, turn, q⟩ := h
  have := (List.getElem?_eq_some_iff.mp q.d).1
  omega
theorem Keep.set {st s : List O} (h : Keep st s) {i : Nat} (hi : i < 2) (o : O) : Keep st (s.set i o) := fun j o' hj e => by
  rw [List.getElem?_set_ne (by omega)]
  exact h j o' hj e
def Dv {α : Type} (r : RR α) (st : List O) (c : Nat) (P : α → List O → Prop) : Prop := ∀ b, b + c ≤ cap → DS b st → ∃ a s, r = .ok a s ∧ DS (b + c) s ∧ P a s
def Dn (r : SR) (st : List O) (c : Nat) (P : Sv → List O → Prop) : Prop := ∀ b, b + c ≤ cap → DS b st → ∃ ρ s, r = .nx ρ s ∧ DS (b + c) s ∧ P ρ s
def Dr (r : SR) (st : List O) (c : Nat) (P : D → List O → Prop) : Prop := ∀ b, b + c ≤ cap → DS b st → ∃ d s, r = .rt d s ∧ DS (b + c) s ∧ P d s
section
variable {α β : Type} {st : List O} {ρ : Sv} {c c' C : Nat}
theorem Dv.bind {r : RR α} {k : α → List O → RR β} {P : α → List O → Prop} {Q : β → List O → Prop} (h : Dv r st c P) (q : ∀ a s, P a s → Dv (k a s) s c' Q) (hc : c + c' ≤ C) : Dv (r.bind k) st C Q := fun b hb hs => by
  obtain ⟨a, s, e, h1, h2⟩ := h b (by omega) hs
  subst e
  obtain ⟨a', s', e', h3, h4⟩ := q a s h2 (b + c) (by omega) h1
  exact ⟨a', s', e', h3.mono (by omega), h4⟩
theorem Dv.mono {r : RR α} {P Q : α → List O → Prop} (h : Dv r st c P) (hc : c ≤ C) (k : ∀ a s, P a s → Q a s) : Dv r st C Q := fun b hb hs => by
  obtain ⟨a, s, e, h1, h2⟩ := h b (by omega) hs
  exact ⟨a, s, e, h1.mono (by omega), k a s h2⟩
theorem Ev.dv {r : RR α} {a : α} (h : Ev r st a) : Dv r st 0 fun x s => x = a ∧ Gr st s := fun b _ hs => by
  obtain ⟨s, e, g⟩ := h
  exact ⟨a, s, e, hs.gr g, rfl, g⟩
theorem Dv.of {a : α} {P : α → List O → Prop} (h : P a st) : Dv (.ok a st) st 0 P := fun b _ hs => ⟨a, st, rfl, hs, h⟩
/-- a plain part first -/
theorem Ev.dvb {r : RR α} {k : α → List O → RR β} {a : α} {Q : β → List O → Prop} (h : Ev r st a) (q : ∀ s, Gr st s → Dv (k a s) s c Q) : Dv (r.bind k) st c Q :=
  Dv.bind (c' := c) h.dv (fun x s ⟨e, g⟩ => by rw [e]; exact q s g) (by omega)
/-- a plain part behind -/
theorem Dv.evb {r : RR α} {k : α → List O → RR β} {P : α → List O → Prop} {Q : β → List O → Prop} (h : Dv r st c P) (q : ∀ a s, P a s → ∃ x, Ev (k a s) s x ∧ ∀ s', Gr s s' → Q x s') : Dv (r.bind k) st c Q :=
  Dv.bind (c' := 0) h (fun a s p => by
    obtain ⟨x, e, k⟩ := q a s p
    exact e.dv.mono (Nat.le_refl 0) fun y s' ⟨e, g⟩ => by rw [e]; exact k s' g) (by omega)
variable {f g : Sv → List O → RR D} {fs : Sv → List O → RR (List D)} {t : Sv → List O → RR Bool}
theorem dv_body {a : Sm} {n : Nat} {ds : List D} {P : D → List O → Prop} (h : Dr (a (ds.map some ++ List.replicate (n - ds.length) none) st) st c P) : Dv (bodyOf a n ds st) st c P := fun b hb hs => by
  obtain ⟨d, s, e, h1, h2⟩ := h b hb hs
  refine ⟨d, s, ?_, h1, h2⟩
  unfold bodyOf
  rw [e]
theorem dr_ret {P : D → List O → Prop} (h : Dv (f ρ st) st c P) : Dr (sRet f ρ st) st c P := fun b hb hs => by
  obtain ⟨d, s, e, h1, h2⟩ := h b hb hs
  refine ⟨d, s, ?_, h1, h2⟩
  unfold sRet
  rw [e]
  rfl
theorem dr_seq {a k : Sm} {P : Sv → List O → Prop} {Q : D → List O → Prop} (h : Dn (a ρ st) st c P) (q : ∀ ρ' s, P ρ' s → Dr (k ρ' s) s c' Q) (hc : c + c' ≤ C) : Dr (sSeq a k ρ st) st C Q := fun b hb hs => by
  obtain ⟨ρ', s, e, h1, h2⟩ := h b (by omega) hs
  obtain ⟨d, s', e', h3, h4⟩ := q ρ' s h2 (b + c) (by omega) h1
  refine ⟨d, s', ?_, h3.mono (by omega), h4⟩
  unfold sSeq
  rw [e]
  exact e'
theorem dn_seq {a k : Sm} {P Q : Sv → List O → Prop} (h : Dn (a ρ st) st c P) (q : ∀ ρ' s, P ρ' s → Dn (k ρ' s) s c' Q) (hc : c + c' ≤ C) : Dn (sSeq a k ρ st) st C Q := fun b hb hs => by
  obtain ⟨ρ', s, e, h1, h2⟩ := h b (by omega) hs
  obtain ⟨d, s', e', h3, h4⟩ := q ρ' s h2 (b + c) (by omega) h1
  refine ⟨d, s', ?_, h3.mono (by omega), h4⟩
  unfold sSeq
  rw [e]
  exact e'
theorem dr_seq1 {a k : Sm} {P : D → List O → Prop} (h : Dr (a ρ st) st c P) : Dr (sSeq a k ρ st) st c P := fun b hb hs => by
  obtain ⟨d, s, e, h1, h2⟩ := h b hb hs
  refine ⟨d, s, ?_, h1, h2⟩
  unfold sSeq
  rw [e]
theorem dr_guard {a k : Sm} {P : Bool → List O → Prop} {Q : D → List O → Prop} (h : Dv (t ρ st) st c P) (q1 : ∀ s, P true s → Dr (a ρ s) s c' Q) (q2 : ∀ s, P false s → Dr (k ρ s) s c' Q) (hc : c + c' ≤ C) : Dr (sSeq (sIf t a sNext) k ρ st) st C Q := fun b hb hs => by
  obtain ⟨v, s, e, h1, h2⟩ := h b (by omega) hs
  unfold sSeq sIf
  rw [e]
  cases v with
  | true =>
    obtain ⟨d, s', e', h3, h4⟩ := q1 s h2 (b + c) (by omega) h1
    refine ⟨d, s', ?_, h3.mono (by omega), h4⟩
    show (match a ρ s with
      | .nx ρ' s1 => k ρ' s1
      | r => r) = _
    rw [e']
  | false =>
    obtain ⟨d, s', e', h3, h4⟩ := q2 s h2 (b + c) (by omega) h1
    exact ⟨d, s', e', h3.mono (by omega), h4⟩
theorem dn_asg {tg : GT} {P : D → List O → Prop} (h : Dv (f ρ st) st c P) (g : D → Sv) (ha : ∀ d, asgT tg d ρ = some (g d)) : Dn (sAsg f tg ρ st) st c fun ρ' s => ∃ d, ρ' = g d ∧ P d s := fun b hb hs => by
  obtain ⟨d, s, e, h1, h2⟩ := h b hb hs
  refine ⟨g d, s, ?_, h1, d, rfl, h2⟩
  unfold sAsg
  rw [e]
  show (match asgT tg d ρ with
    | some ρ' => SR.nx ρ' s
    | none => .err) = _
  rw [ha]
theorem Nx.dn {r : SR} {ρ' : Sv} (h : Nx r st ρ') : Dn r st 0 fun x s => x = ρ' ∧ Gr st s := fun b _ hs => by
  obtain ⟨s, e, g⟩ := h
  exact ⟨ρ', s, e, hs.gr g, rfl, g⟩
theorem Rt.dr {r : SR} {d : D} (h : Rt r st d) : Dr r st 0 fun x s => x = d ∧ Gr st s := fun b _ hs => by
  obtain ⟨s, e, g⟩ := h
  exact ⟨d, s, e, hs.gr g, rfl, g⟩
theorem Dn.mono {r : SR} {P Q : Sv → List O → Prop} (h : Dn r st c P) (hc : c ≤ C) (k : ∀ a s, P a s → Q a s) : Dn r st C Q := fun b hb hs => by
  obtain ⟨a, s, e, h1, h2⟩ := h b (by omega) hs
  exact ⟨a, s, e, h1.mono (by omega), k a s h2⟩
theorem Dr.mono {r : SR} {P Q : D → List O → Prop} (h : Dr r st c P) (hc : c ≤ C) (k : ∀ a s, P a s → Q a s) : Dr r st C Q := fun b hb hs => by
  obtain ⟨a, s, e, h1, h2⟩ := h b (by omega) hs
  exact ⟨a, s, e, h1.mono (by omega), k a s h2⟩
theorem dv_is {P : Bool → List O → Prop} (h : Dv (f ρ st) st c fun d s => ∃ b, d = .bl b ∧ P b s) : Dv (eIs f ρ st) st c P :=
  Dv.bind (c' := 0) h (fun a s ⟨b, e, p⟩ => by rw [e]; exact Dv.of p) (by omega)
end
end Tk
/-! P22: the draw itself: mixed, take, pick. -/
namespace Tk
open PySem L2 Tl
theorem eq_int (a b : Int) (s : List O) : pr2 (dEq false) s [.int a, .int b] = some (.bl (decide (a = b)), s) := by
  rw [pr2_eq]
  unfold dEq noneIn
  simp only
  rw [if_pos ⟨rfl, rfl, by show min 0 0 ≤ 64; decide⟩]
  have : peq (.int a) (.int b) = decide (a = b) := by
    show (a == b) = decide (a = b)
    by_cases h : a = b
    · rw [h]; simp
    · rw [decide_eq_false h]; simpa using h
  simp only [deref, this]
  rfl
theorem ne_locnil {s : List O} {L : Nat} {acc : List D} (h : s[L]? = some (.lst acc)) : pr2 (dEq true) s [.loc L, .lst []] = some (.bl (!acc.isEmpty), s) := by
  rw [pr2_eq]
  have d : deref s (.loc L) = .lst acc := by
    simp only [deref, h]
  have n : noneIn (.loc L) (.lst []) = none := rfl
  unfold dEq
  rw [n]
  cases hl : lay (.lst acc) with
  | true =>
    have c : lay (deref s (.loc L)) = true ∧ lay (deref s (.lst [])) = true ∧ min (dep (deref s (.loc L))) (dep (deref s (.lst []))) ≤ 64 := by
      rw [d]
      exact ⟨hl, rfl, Nat.le_trans (Nat.min_le_right _ _) (by show (1 : Nat) ≤ 64; omega)⟩
    show Option.map _ (if lay (deref s (.loc L)) = true ∧ lay (deref s (.lst [])) = true ∧ min (dep (deref s (.loc L))) (dep (deref s (.lst []))) ≤ 64 then some (D.bl (!peq (deref s (.loc L)) (deref s (.lst [])))) else (noneL s (.loc L) (.lst [])).map _) = _
    rw [if_pos c, d]
    cases acc <;> rfl
  | false =>
    have c : ¬(lay (deref s (.loc L)) = true ∧ lay (deref s (.lst [])) = true ∧ min (dep (deref s (.loc L))) (dep (deref s (.lst []))) ≤ 64) := fun z => by
      have z1 := z.1
      rw [d, hl] at z1
      cases z1
    show Option.map _ (if lay (deref s (.loc L)) = true ∧ lay (deref s (.lst [])) = true ∧ min (dep (deref s (.loc L))) (dep (deref s (.lst []))) ≤ 64 then some (D.bl (!peq (deref s (.loc L)) (deref s (.lst [])))) else (noneL s (.loc L) (.lst [])).map _) = _
    rw [if_neg c]
    have e : noneL s (.loc L) (.lst []) = some acc.isEmpty := by
      unfold noneL Tl.listOf
      simp only [h]
      cases acc <;> rfl
    rw [e]
    rfl
section
variable {s : List O} {wide cells : List Int} {rest turn : Int} {b : Nat}
theorem ix_rest (h : s[1]? = some (dicOf cells rest turn)) : pr2 dIx s [.loc 1, .str "rest"] = some (.int rest, s) := by
  rw [pr2_eq]
  unfold dIx
  simp only [h, dicOf]
  rfl
theorem ix_turn (h : s[1]? = some (dicOf cells rest turn)) : pr2 dIx s [.loc 1, .str "turn"] = some (.int turn, s) := by
  rw [pr2_eq]
  unfold dIx
  simp only [h, dicOf]
  rfl
theorem ix_cells (h : s[1]? = some (dicOf cells rest turn)) : pr2 dIx s [.loc 1, .str "cells"] = some (.lst (cells.map .int), s) := by
  rw [pr2_eq]
  unfold dIx
  simp only [h, dicOf]
  rfl
theorem ix_wide (h : s[1]? = some (dicOf cells rest turn)) : pr2 dIx s [.loc 1, .str "wide"] = some (.loc 0, s) := by
  rw [pr2_eq]
  unfold dIx
  simp only [h, dicOf]
  rfl
theorem put_rest (h : s[1]? = some (dicOf cells rest turn)) (v : Int) : dPut s (.loc 1) (.str "rest") (.int v) = some (s.set 1 (dicOf cells v turn)) := by
  unfold dPut
  simp only [h, dicOf]
  show (if 4 < sizeLine then _ else none) = _
  rw [if_pos (by rw [sizeLine_eq]; omega)]
  rfl
theorem put_turn (h : s[1]? = some (dicOf cells rest turn)) (v : Int) : dPut s (.loc 1) (.str "turn") (.int v) = some (s.set 1 (dicOf cells rest v)) := by
  unfold dPut
  simp only [h, dicOf]
  show (if 4 < sizeLine then _ else none) = _
  rw [if_pos (by rw [sizeLine_eq]; omega)]
  rfl
end
theorem nx_par {ρ : Sv} {st : List O} {fs : Sv → List O → RR (List D)} {i j : Nat} {x y : D} (h : Ev (fs ρ st) st [x, y]) : Nx (sPar fs i j ρ st) st ((ρ.set i (some x)).set j (some y)) := by
  obtain ⟨s, e, g⟩ := h
  refine ⟨s, ?_, g⟩
  unfold sPar
  rw [e]
  rfl
/-- for .., what grows is known to grow -/
theorem nx_forG {src : Sv → List O → RR Src} {s0 : Src} {tg : GT} {a : Sm} {ρ : Sv} {st : List O} (hs : Ev (src ρ st) st s0) (hn : s0.at' = none) (I : Nat → Sv → Prop) (i0 : I 0 ρ) (q : ∀ j d ρ, s0.its[j]? = some d → I j ρ → ∃ ρ1, asgT tg d ρ = some ρ1 ∧ ∀ s, Gr st s → ∃ ρ2, Nx (a ρ1 s) s ρ2 ∧ I (j + 1) ρ2) : ∃ ρ', Nx (sFor src tg a ρ st) st ρ' ∧ I s0.its.length ρ' := by
  obtain ⟨s, e, g⟩ := hs
  obtain ⟨ρ', n', i'⟩ := nx_goF hn I s0.its 0 ρ s i0 fun j d ρ hj hI => by
    obtain ⟨ρ1, a1, b1⟩ := q j d ρ (by simpa using hj) (by simpa using hI)
    exact ⟨ρ1, a1, fun s' g' => by simpa using b1 s' (g.trans g')⟩
  refine ⟨ρ', ?_, by simpa using i'⟩
  unfold sFor
  rw [e]
  exact n'.up g
theorem mul_ok {a b : Int} (h : -(2 ^ 64) < a ∧ a < 2 ^ 64 ∨ -(2 ^ 64) < b ∧ b < 2 ^ 64) (s : List O) : pr2 dMul s [.int a, .int b] = some (.int (a * b), s) := by
  rw [pr2_eq]
  show Option.map _ (if CMul a b ∨ CMulW a b then some (D.int (a * b)) else none) = _
  rw [if_pos (.inl h)]
  rfl
theorem div_ok {a b : Int} (h : b ≠ 0 ∧ b.natAbs < 1073741824) (s : List O) : pr2 dDiv s [.int a, .int b] = some (.int (a.fdiv b), s) := by
  rw [pr2_eq]
  show Option.map _ (if CDivN a b then some (D.int (a.fdiv b)) else none) = _
  rw [if_pos (show CDivN a b from h)]
  rfl
theorem mod_ok {a b : Int} (h : b ≠ 0) (s : List O) : pr2 dMod s [.int a, .int b] = some (.int (a.fmod b), s) := by
  rw [pr2_eq]
  show Option.map _ (if b ≠ 0 then some (D.int (a.fmod b)) else none) = _
  rw [if_pos h]
  rfl
theorem pow_ok {a b : Int} (h : 0 ≤ b ∧ b ≤ 1000000 ∧ a.natAbs < 2 ^ 64) (s : List O) : pr2 dPow s [.int a, .int b] = some (.int (a ^ b.toNat), s) := by
  rw [pr2_eq]
  show Option.map _ (if CPow a b then some (D.int (a ^ b.toNat)) else none) = _
  rw [if_pos (show CPow a b from h)]
  rfl
theorem ev_int1 {ρ : Sv} {st : List O} {f : Sv → List O → RR D} {a : Int} (h : Ev (f ρ st) st (.int a)) : Ev (ePr (pr1 dInt) (eCons f eNil) ρ st) st (.int a) := ev_pr (ev_cons h fun _ _ => ev_nil) fun s _ => rfl
theorem seq_eq {ρ ρ' : Sv} {st s : List O} {a c : Sm} (e : a ρ st = .nx ρ' s) : sSeq a c ρ st = c ρ' s := by
  unfold sSeq
  rw [e]
theorem nx_seqX {ρ ρ' ρ2 : Sv} {st s : List O} {a c : Sm} (e : a ρ st = .nx ρ' s) (g : Gr st s) (h : Nx (c ρ' s) s ρ2) : Nx (sSeq a c ρ st) st ρ2 := by
  unfold sSeq
  rw [e]
  exact h.up g
abbrev E6 (t f p bl g : Option D) : Sv := [some (.loc 1), t, f, p, bl, g]
theorem fmod_in {a b : Int} (h : 0 < b) : 0 ≤ a.fmod b ∧ a.fmod b < b := ⟨Int.fmod_nonneg_of_pos a h, Int.fmod_lt_of_pos a h⟩
/-- one of the four primes -/
theorem mixed_turn {cells : List Int} {rest turn t2 found p : Int} {bl g : Option D} {s : List O} (h : s[1]? = some (dicOf cells rest t2)) (hc : cells.length ≤ 63) (ht : 0 ≤ turn ∧ turn ≤ 1000000000) (hp : 0 < p ∧ p < 2147483648) (hf : 0 ≤ found) :
    ∃ f2 b2 g2, 0 ≤ f2 ∧ Nx ((sSeq (sAsg (eBin (pr2 dAdd) (eBin (pr2 dMul) (eC (.int 48271)) (eVar 1)) (eBin (pr2 dDiv) (eVar 3) (eC (.int 37)))) (GT.nm 4)) (sSeq (sFor (eSrc (eBin (pr2 dIx) (eVar 0) (eC (.str "cells")))) (GT.nm 5) (sAsg (eBin (pr2 dMod) (ePr (pr1 dInt) (eCons (eBin (pr2 dAdd) (eBin (pr2 dAdd) (eBin (pr2 dMul) (eVar 4) (eC (.int 69621))) (eVar 5)) (eVar 1)) (eNil))) (eVar 3)) (GT.nm 4))) (sAsg (eBin (pr2 dAdd) (eBin (pr2 dMul) (eVar 2) (eC (.int 2147483647))) (eBin (pr2 dMod) (ePr (pr1 dInt) (eCons (eBin (pr2 dPow) (eVar 4) (eC (.int 5))) (eNil))) (eVar 3))) (GT.nm 2)))) (E6 (some (.int turn)) (some (.int found)) (some (.int p)) bl g) s) s (E6 (some (.int turn)) (some (.int f2)) (some (.int p)) b2 g2) := by
  have p0 : p ≠ 0 := by omega
  have e1 : Nx (sAsg (eBin (pr2 dAdd) (eBin (pr2 dMul) (eC (.int 48271)) (eVar 1)) (eBin (pr2 dDiv) (eVar 3) (eC (.int 37)))) (GT.nm 4) (E6 (some (.int turn)) (some (.int found)) (some (.int p)) bl g) s) s (E6 (some (.int turn)) (some (.int found)) (some (.int p)) (some (.int (48271 * turn + p.fdiv 37))) g) :=
    nx_asg (ev_bin (ev_bin ev_c (fun s _ => ev_var rfl) fun s _ => mul_ok (.inl (by decide)) s) (fun s _ => ev_bin (ev_var rfl) (fun s _ => ev_c) fun s _ => div_ok (by decide) s) fun s _ => rfl) rfl
  have b0 : 0 ≤ 48271 * turn + p.fdiv 37 ∧ 48271 * turn + p.fdiv 37 < 2 ^ 50 := by
    have h1 : 0 ≤ p.fdiv 37 := Int.fdiv_nonneg (by omega) (by omega)
    have h2 : p.fdiv 37 ≤ p := by
      rw [Int.fdiv_eq_ediv_of_nonneg _ (by omega)]
      omega
    omega
  have lp : ∀ s1, Gr s s1 → ∃ ρ', Nx (sFor (eSrc (eBin (pr2 dIx) (eVar 0) (eC (.str "cells")))) (GT.nm 5) (sAsg (eBin (pr2 dMod) (ePr (pr1 dInt) (eCons (eBin (pr2 dAdd) (eBin (pr2 dAdd) (eBin (pr2 dMul) (eVar 4) (eC (.int 69621))) (eVar 5)) (eVar 1)) (eNil))) (eVar 3)) (GT.nm 4)) (E6 (some (.int turn)) (some (.int found)) (some (.int p)) (some (.int (48271 * turn + p.fdiv 37))) g) s1) s1 ρ' ∧ ∃ (bv : Int) (g' : Option D), (0 ≤ bv ∧ bv < 2 ^ 50) ∧ ρ' = E6 (some (.int turn)) (some (.int found)) (some (.int p)) (some (.int bv)) g' := fun s1 g1 => by
    obtain ⟨ρ', n', i'⟩ := nx_forG (src := eSrc (eBin (pr2 dIx) (eVar 0) (eC (.str "cells")))) (tg := GT.nm 5) (a := sAsg (eBin (pr2 dMod) (ePr (pr1 dInt) (eCons (eBin (pr2 dAdd) (eBin (pr2 dAdd) (eBin (pr2 dMul) (eVar 4) (eC (.int 69621))) (eVar 5)) (eVar 1)) (eNil))) (eVar 3)) (GT.nm 4)) (ρ := E6 (some (.int turn)) (some (.int found)) (some (.int p)) (some (.int (48271 * turn + p.fdiv 37))) g) (st := s1) (s0 := ⟨cells.map .int, none⟩)
      (ev_src (ev_bin (ev_var rfl) (fun s _ => ev_c) fun s2 g2 => ix_cells ((g1.trans g2).get h)) fun _ _ => rfl) rfl
      (fun _ ρ => ∃ (bv : Int) (g' : Option D), (0 ≤ bv ∧ bv < 2 ^ 50) ∧ ρ = E6 (some (.int turn)) (some (.int found)) (some (.int p)) (some (.int bv)) g') ⟨_, _, b0, rfl⟩ (fun j d ρ hj hI => by
        obtain ⟨bv, g', hb, rfl⟩ := hI
        have hj' : (cells.map D.int)[j]? = some d := hj
        rw [List.getElem?_map] at hj'
        obtain ⟨cv, _, rfl⟩ := Option.map_eq_some_iff.mp hj'
        refine ⟨_, rfl, fun s2 _ => ⟨_, nx_asg (d := .int ((bv * 69621 + cv + turn).fmod p)) (ev_bin (x := .int (bv * 69621 + cv + turn)) (ev_int1 (ev_bin (ev_bin (ev_bin (ev_var rfl) (fun s _ => ev_c) fun s _ => mul_ok (.inr (by decide)) s) (fun s _ => ev_var rfl) fun s _ => rfl) (fun s _ => ev_var rfl) fun s _ => rfl)) (fun s _ => ev_var rfl) fun s _ => mod_ok p0 s) rfl, _, _, ?_, rfl⟩⟩
        have := fmod_in (a := bv * 69621 + cv + turn) hp.1
        omega)
    exact ⟨ρ', n', i'⟩
  obtain ⟨s1, r1, g1⟩ := e1
  obtain ⟨ρ', ⟨s2, r2, g2⟩, bv, g', hb, rfl⟩ := lp s1 g1
  refine ⟨found * 2147483647 + (bv ^ 5).fmod p, some (.int bv), g', ?_, ?_⟩
  · have := fmod_in (a := bv ^ 5) hp.1
    omega
  · refine nx_seqX r1 g1 (nx_seqX r2 g2 (nx_asg (ev_bin (x := .int (found * 2147483647)) (y := .int ((bv ^ 5).fmod p)) (ev_bin (ev_var rfl) (fun s _ => ev_c) fun s _ => mul_ok (.inr (by decide)) s) (fun s _ => ev_bin (x := .int (bv ^ 5)) (ev_int1 (ev_bin (ev_var rfl) (fun s _ => ev_c) fun s _ => pow_ok ⟨by decide, by decide, by omega⟩ s)) (fun s _ => ev_var rfl) fun s _ => mod_ok p0 s) fun s _ => rfl) rfl))
abbrev mixedB : Sm := sSeq (sAsg (eBin (pr2 dAdd) (eBin (pr2 dMul) (eC (.int 48271)) (eVar 1)) (eBin (pr2 dDiv) (eVar 3) (eC (.int 37)))) (GT.nm 4)) (sSeq (sFor (eSrc (eBin (pr2 dIx) (eVar 0) (eC (.str "cells")))) (GT.nm 5) (sAsg (eBin (pr2 dMod) (ePr (pr1 dInt) (eCons (eBin (pr2 dAdd) (eBin (pr2 dAdd) (eBin (pr2 dMul) (eVar 4) (eC (.int 69621))) (eVar 5)) (eVar 1)) (eNil))) (eVar 3)) (GT.nm 4))) (sAsg (eBin (pr2 dAdd) (eBin (pr2 dMul) (eVar 2) (eC (.int 2147483647))) (eBin (pr2 dMod) (ePr (pr1 dInt) (eCons (eBin (pr2 dPow) (eVar 4) (eC (.int 5))) (eNil))) (eVar 3))) (GT.nm 2)))
theorem c_mixed (n : Nat) {b : Nat} {wide cells : List Int} {rest turn : Int} {st : List O} (h : DState b st wide cells rest turn) (hb : b + 1 ≤ cap) : ∃ f s, callN (n + 3) 13 [.loc 1] st = .ok (.int f) s ∧ 0 ≤ f ∧ DState (b + 1) s wide cells rest (turn + 1) ∧ Keep st s := by
  show ∃ f s, bodyOf (f__law_mixed (callN (n + 2))) 6 [.loc 1] st = .ok (.int f) s ∧ _
  have t1 : turn + 1 ≤ 1000000000 := by
    have := h.tb
    unfold cap at hb
    omega
  have t0 := h.t0
  obtain ⟨s1, r1, g1⟩ : Nx (sPar (eCons (eBin (pr2 dAdd) (eBin (pr2 dIx) (eVar 0) (eC (.str "turn"))) (eC (.int 1))) (eCons (eC (.int 0)) (eNil))) 1 2 (E6 none none none none none) st) st (E6 (some (.int (turn + 1))) (some (.int 0)) none none none) := nx_par (ev_cons (ev_bin (ev_bin (ev_var rfl) (fun s _ => ev_c) fun s g => ix_turn (g.get h.d)) (fun s _ => ev_c) fun s _ => rfl) fun s _ => ev_cons ev_c fun s _ => ev_nil)
  have r2 : sPut dPut (eVar 1) (eVar 0) (eC (.str "turn")) (E6 (some (.int (turn + 1))) (some (.int 0)) none none none) s1 = .nx (E6 (some (.int (turn + 1))) (some (.int 0)) none none none) (s1.set 1 (dicOf cells rest (turn + 1))) := by
    show (match dPut s1 (.loc 1) (.str "turn") (.int (turn + 1)) with
      | some s4 => SR.nx _ s4
      | none => .err) = _
    rw [put_turn (g1.get h.d)]
  have hl := (List.getElem?_eq_some_iff.mp (g1.get h.d)).1
  have d2 : (s1.set 1 (dicOf cells rest (turn + 1)))[1]? = some (dicOf cells rest (turn + 1)) := List.getElem?_set_self hl
  generalize hs2 : s1.set 1 (dicOf cells rest (turn + 1)) = s2 at r2 d2
  obtain ⟨ρ', ⟨s3, r3, g3⟩, f, p, bl, g, hf, rfl⟩ : ∃ ρ', Nx (sFor (eSrc (eFrz (eLim (eCons (eC (.int 2147483647)) (eCons (eC (.int 2147483629)) (eCons (eC (.int 2147483587)) (eCons (eC (.int 2147483579)) (eNil)))))))) (GT.nm 3) mixedB (E6 (some (.int (turn + 1))) (some (.int 0)) none none none) s2) s2 ρ' ∧ ∃ (f : Int) (p bl g : Option D), 0 ≤ f ∧ ρ' = E6 (some (.int (turn + 1))) (some (.int f)) p bl g := by
    obtain ⟨ρ', n', i'⟩ := nx_forG (src := eSrc (eFrz (eLim (eCons (eC (.int 2147483647)) (eCons (eC (.int 2147483629)) (eCons (eC (.int 2147483587)) (eCons (eC (.int 2147483579)) (eNil)))))))) (tg := GT.nm 3) (a := mixedB) (ρ := E6 (some (.int (turn + 1))) (some (.int 0)) none none none) (st := s2) (s0 := ⟨[.int 2147483647, .int 2147483629, .int 2147483587, .int 2147483579], none⟩)
      (ev_src (ev_frz (ev_lim (ev_cons ev_c fun s _ => ev_cons ev_c fun s _ => ev_cons ev_c fun s _ => ev_cons ev_c fun s _ => ev_nil) (by rw [sizeLine_eq]; decide))) fun _ _ => rfl) rfl
      (fun _ ρ => ∃ (f : Int) (p bl g : Option D), 0 ≤ f ∧ ρ = E6 (some (.int (turn + 1))) (some (.int f)) p bl g) ⟨_, _, _, _, by decide, rfl⟩ (fun j d ρ hj hI => by
        obtain ⟨f, p, bl, g, hf, rfl⟩ := hI
        have hm : d ∈ [D.int 2147483647, .int 2147483629, .int 2147483587, .int 2147483579] := List.mem_of_getElem? hj
        obtain ⟨p', rfl, hp⟩ : ∃ p' : Int, d = .int p' ∧ 0 < p' ∧ p' < 2147483648 := by
          simp only [List.mem_cons, List.not_mem_nil, or_false] at hm
          rcases hm with z | z | z | z <;> exact ⟨_, z, by decide, by decide⟩
        refine ⟨_, rfl, fun s g4 => ?_⟩
        obtain ⟨f2, b2, g2, hf2, nn⟩ := mixed_turn (turn := turn + 1) (p := p') (bl := bl) (g := g) (g4.get d2) h.cl ⟨by omega, t1⟩ hp hf
        exact ⟨_, nn, _, _, _, _, hf2, rfl⟩)
    exact ⟨ρ', n', i'⟩
  have w2 : s2[0]? = some (.lst (wide.map .int)) := by
    rw [← hs2, List.getElem?_set_ne (by decide)]
    exact g1.get h.w
  refine ⟨f, s3, ?_, hf, { w := g3.get w2, d := g3.get d2, wp := h.wp, cp := h.cp, cl := h.cl, r0 := h.r0, t0 := by omega, tb := by have := h.tb; omega }, ?_⟩
  · have run : f__law_mixed (callN (n + 2)) (E6 none none none none none) st = .rt (.int f) s3 := (seq_eq r1).trans ((seq_eq r2).trans ((seq_eq r3).trans rfl))
    unfold bodyOf
    rw [show f__law_mixed (callN (n + 2)) (List.map some [D.loc 1] ++ List.replicate (6 - [D.loc 1].length) none) st = _ from run]
  · have k1 : Keep st s2 := by
      rw [← hs2]
      exact g1.keep.set (by decide) _
    exact k1.trans g3.keep
end Tk
/-! P23: take, pick. -/
namespace Tk
open PySem L2 Tl
theorem DState.gr {b : Nat} {st s : List O} {wide cells : List Int} {rest turn : Int} (h : DState b st wide cells rest turn) (k : Gr st s) : DState b s wide cells rest turn := { h with w := k.get h.w, d := k.get h.d }
theorem DState.mono {b b' : Nat} {st : List O} {wide cells : List Int} {rest turn : Int} (h : DState b st wide cells rest turn) (k : b ≤ b') : DState b' st wide cells rest turn := { h with tb := by have := h.tb; omega }
theorem DState.put {b : Nat} {st : List O} {wide cells : List Int} {rest turn : Int} (h : DState b st wide cells rest turn) {r : Int} (hr : 0 ≤ r) : DState b (st.set 1 (dicOf cells r turn)) wide cells r turn := { h with
  w := by rw [List.getElem?_set_ne (by decide)]; exact h.w
  d := List.getElem?_set_self (List.getElem?_eq_some_iff.mp h.d).1
  r0 := hr }
theorem put_nx {h : PrW} {f : Sv → List O → RR D} {ρ : Sv} {st s1 s4 : List O} {v o k : D} (e : f ρ st = .ok v s1) (ho : ρ[0]? = some (some o)) (hp : h s1 o k v = some s4) : sPut h f (eVar 0) (eC k) ρ st = .nx ρ s4 := by
  unfold sPut
  rw [e]
  have e2 : eVar 0 ρ s1 = .ok o s1 := by
    unfold eVar
    rw [ho]
  show onE (eVar 0 ρ s1) ρ _ = _
  rw [e2]
  show (match h s1 o k v with
    | some s4 => SR.nx ρ s4
    | none => .err) = _
  rw [hp]
theorem pop_wide {s : List O} {w : Int} {ws : List Int} {cells : List Int} {rest turn : Int} {x y : Option D} (h0 : s[0]? = some (.lst ((w :: ws).map .int))) (h1 : s[1]? = some (dicOf cells rest turn)) : eMt "list" mPopAt (eBin (pr2 dIx) (eVar 0) (eC (.str "wide"))) (eCons (eC (.int 0)) (eNil)) [some (.loc 1), x, y] s = .ok (.int w) (s.set 0 (.lst (ws.map .int))) := by
  have e1 : eBin (pr2 dIx) (eVar 0) (eC (.str "wide")) [some (.loc 1), x, y] s = .ok (.loc 0) s := by
    show liftP (pr2 dIx s [.loc 1, .str "wide"]) = _
    rw [ix_wide h1]
    rfl
  have ty : tyIs "list" s (.loc 0) = true := by
    unfold tyIs tyD
    simp only [h0]
    rfl
  have p : mPopAt s [.loc 0, .int 0] = some (.int w, s.set 0 (.lst (ws.map .int))) := by
    unfold mPopAt
    simp only [h0]
    rw [if_pos (by decide)]
    have : seqIndex? 0 ((w :: ws).map D.int).length = some 0 := by
      unfold seqIndex?
      simp
    rw [this]
    rfl
  unfold eMt
  rw [e1]
  show (if tyIs "list" s (.loc 0) = true then liftP (mPopAt s [.loc 0, .int 0]) else .err) = _
  rw [if_pos ty, p]
  rfl
abbrev takeA (C : Nat → List D → List O → RR D) : Sm := sIf (eIs (eBin (pr2 (dEq false)) (eBin (pr2 dIx) (eVar 0) (eC (.str "rest"))) (eC (.int 0)))) (sPut dPut (eIfE (eIs (eBin (pr2 (dEq true)) (eBin (pr2 dIx) (eVar 0) (eC (.str "wide"))) (eFrz (eLim (eNil))))) (eMt "list" mPopAt (eBin (pr2 dIx) (eVar 0) (eC (.str "wide"))) (eCons (eC (.int 0)) (eNil))) (eCall (C 13) 1 (eCons (eVar 0) (eNil)))) (eVar 0) (eC (.str "rest"))) (sNext)
abbrev E3 (m : Int) (y : Option D) : Sv := [some (.loc 1), some (.int m), y]
theorem take_head (n : Nat) {m : Int} {b : Nat} {wide cells : List Int} {rest turn : Int} {st : List O} (h : DState b st wide cells rest turn) (hb : b + 1 ≤ cap) : ∃ wide' rest' turn' s, takeA (callN (n + 3)) (E3 m none) st = .nx (E3 m none) s ∧ DState (b + 1) s wide' cells rest' turn' ∧ Keep st s := by
  obtain ⟨s1, e1, g1⟩ : Ev (eIs (eBin (pr2 (dEq false)) (eBin (pr2 dIx) (eVar 0) (eC (.str "rest"))) (eC (.int 0))) (E3 m none) st) st (decide (rest = 0)) := ev_is (ev_bin (ev_bin (ev_var rfl) (fun s _ => ev_c) fun s g => ix_rest (g.get h.d)) (fun s _ => ev_c) fun s _ => eq_int rest 0 s)
  have h1 := h.gr g1
  by_cases hr : rest = 0
  · rw [decide_eq_true hr] at e1
    obtain ⟨s2, e2, g2⟩ : Ev (eIs (eBin (pr2 (dEq true)) (eBin (pr2 dIx) (eVar 0) (eC (.str "wide"))) (eFrz (eLim (eNil)))) (E3 m none) s1) s1 (!(wide.map D.int).isEmpty) := ev_is (ev_bin (ev_bin (ev_var rfl) (fun s _ => ev_c) fun s g => ix_wide (g.get h1.d)) (fun s _ => ev_frz (ev_lim ev_nil (Nat.zero_le _))) fun s g => ne_locnil (g.get h1.w))
    have h2 := h1.gr g2
    have run : ∀ v s3 wide' turn', DState (b + 1) s3 wide' cells rest turn' → 0 ≤ v → Keep s2 s3 → (if (!(wide.map D.int).isEmpty) = true then eMt "list" mPopAt (eBin (pr2 dIx) (eVar 0) (eC (.str "wide"))) (eCons (eC (.int 0)) (eNil)) (E3 m none) s2 else eCall (callN (n + 3) 13) 1 (eCons (eVar 0) (eNil)) (E3 m none) s2) = .ok (.int v) s3 → ∃ wide' rest' turn' s, takeA (callN (n + 3)) (E3 m none) st = .nx (E3 m none) s ∧ DState (b + 1) s wide' cells rest' turn' ∧ Keep st s := fun v s3 wide' turn' h3 hv k3 ev => by
      refine ⟨wide', v, turn', s3.set 1 (dicOf cells v turn'), ?_, h3.put hv, ((g1.trans g2).keep.trans k3).set (by decide) _⟩
      unfold takeA sIf
      rw [e1]
      show sPut dPut _ (eVar 0) (eC (.str "rest")) (E3 m none) s1 = _
      refine put_nx (v := .int v) (s1 := s3) (o := .loc 1) ?_ rfl (put_rest h3.d v)
      unfold eIfE
      rw [e2]
      exact ev
    cases wide with
    | nil =>
      obtain ⟨f, s3, e3, hf, h3, k3⟩ := c_mixed n h2 hb
      exact run f s3 [] (turn + 1) h3 hf k3 e3
    | cons w ws =>
      refine run w (s2.set 0 (.lst (ws.map .int))) ws turn { h2.mono (Nat.le_succ b) with w := List.getElem?_set_self (List.getElem?_eq_some_iff.mp h2.w).1, d := by rw [List.getElem?_set_ne (by decide)]; exact h2.d, wp := fun x hx => h2.wp x (by simp [hx]) } (h2.wp w (by simp)) (Keep.refl.set (by decide) _) ?_
      exact pop_wide h2.w h2.d
  · rw [decide_eq_false hr] at e1
    refine ⟨wide, rest, turn, s1, ?_, h1.mono (Nat.le_succ b), g1.keep⟩
    unfold takeA sIf
    rw [e1]
    rfl
theorem c_take (n : Nat) (m : Int) (st : List O) (hm : 1 ≤ m ∧ m ≤ 1000000) : Dv (callN (n + 4) 14 [.loc 1, .int m] st) st 1 fun a s => ∃ v : Int, a = .int v ∧ (0 ≤ v ∧ v < m) ∧ Keep st s := fun b hb ⟨wide, cells, rest, turn, h⟩ => by
  obtain ⟨wide', rest', turn', s1, e1, h1, k1⟩ := take_head n (m := m) h hb
  obtain ⟨s2, e2, g2⟩ : Nx (sAsg (eBin (pr2 dMod) (ePr (pr1 dInt) (eCons (eBin (pr2 dIx) (eVar 0) (eC (.str "rest"))) (eNil))) (eVar 1)) (GT.nm 2) (E3 m none) s1) s1 (E3 m (some (.int (rest'.fmod m)))) := nx_asg (ev_bin (x := .int rest') (ev_int1 (ev_bin (ev_var rfl) (fun s _ => ev_c) fun s g => ix_rest (g.get h1.d))) (fun s _ => ev_var rfl) fun s _ => mod_ok (by omega) s) rfl
  have h2 := h1.gr g2
  obtain ⟨s3, e3, g3⟩ : Ev (eBin (pr2 dDiv) (eBin (pr2 dIx) (eVar 0) (eC (.str "rest"))) (eVar 1) (E3 m (some (.int (rest'.fmod m)))) s2) s2 (.int (rest'.fdiv m)) := ev_bin (ev_bin (ev_var rfl) (fun s _ => ev_c) fun s g => ix_rest (g.get h2.d)) (fun s _ => ev_var rfl) fun s _ => div_ok ⟨by omega, by omega⟩ s
  have h3 := h2.gr g3
  have e4 := put_nx (h := dPut) (f := eBin (pr2 dDiv) (eBin (pr2 dIx) (eVar 0) (eC (.str "rest"))) (eVar 1)) (ρ := E3 m (some (.int (rest'.fmod m)))) (o := .loc 1) e3 rfl (put_rest h3.d (rest'.fdiv m))
  refine ⟨.int (rest'.fmod m), _, ?_, ⟨_, _, _, _, h3.put (Int.fdiv_nonneg (a := rest') (b := m) h3.r0 (by omega))⟩, _, rfl, fmod_in (a := rest') (b := m) (by omega), ((k1.trans g2.keep).trans g3.keep).set (by decide) _⟩
  show bodyOf (f__law_take (callN (n + 3))) 3 [.loc 1, .int m] st = _
  have run : f__law_take (callN (n + 3)) (E3 m none) st = .rt (.int (rest'.fmod m)) (s3.set 1 (dicOf cells (rest'.fdiv m) turn')) := (seq_eq e1).trans ((seq_eq e2).trans ((seq_eq e4).trans rfl))
  unfold bodyOf
  rw [show f__law_take (callN (n + 3)) (List.map some [D.loc 1, .int m] ++ List.replicate (3 - [D.loc 1, D.int m].length) none) st = _ from run]
theorem ix_lst {ds : List D} {v : Int} (h : 0 ≤ v ∧ v < ds.length) (s : List O) : ∃ d ∈ ds, pr2 dIx s [.lst ds, .int v] = some (d, s) := by
  have hv : v.toNat < ds.length := by omega
  refine ⟨ds[v.toNat], List.getElem_mem hv, ?_⟩
  rw [pr2_eq]
  show (atI ds v).map _ = _
  have : atI ds v = some ds[v.toNat] := by
    unfold atI ixN
    rw [if_pos h.1, if_pos (by omega)]
    exact List.getElem?_eq_getElem hv
  rw [this]
  rfl
theorem c_pick (n : Nat) (ds : List D) (st : List O) (h1 : ds ≠ []) (h2 : ds.length ≤ 1000000) : Dv (callN (n + 5) 15 [.loc 1, .lst ds] st) st 1 fun a s => a ∈ ds ∧ Keep st s := by
  have h0 : 1 ≤ ds.length := by
    cases ds with
    | nil => exact absurd rfl h1
    | cons _ _ => simp
  show Dv (bodyOf (f__law_pick (callN (n + 4))) 2 [.loc 1, .lst ds] st) st 1 _
  refine dv_body (dr_ret ?_)
  refine Ev.dvb (a := .lst ds) (ev_var (i := 1) rfl) fun s1 g1 => ?_
  refine Dv.bind (c := 1) (c' := 0) (P := fun a s => ∃ v : Int, a = .int v ∧ (0 ≤ v ∧ v < (ds.length : Nat)) ∧ Keep st s) ?_ (fun a s ⟨v, e, hv, k⟩ => ?_) (by omega)
  · refine Ev.dvb (a := [.loc 1, .int (ds.length : Nat)]) (ev_cons (ev_var rfl) fun _ _ => ev_cons (ev_pr (ev_cons (ev_var (i := 1) (d := .lst ds) rfl) fun _ _ => ev_nil) fun s _ => rfl) fun _ _ => ev_nil) fun s2 g2 => ?_
    exact (c_take n (ds.length : Nat) s2 ⟨by omega, by omega⟩).mono (Nat.le_refl _) fun a s ⟨v, e, hv, k⟩ => ⟨v, e, hv, (g1.trans g2).keep.trans k⟩
  · rw [e]
    obtain ⟨d, hd, e2⟩ := ix_lst hv s
    rw [e2]
    exact Dv.of ⟨hd, k⟩
end Tk
/-! P24: shuffled. -/
namespace Tk
open PySem L2 Tl
theorem DS.set {b : Nat} {s : List O} (h : DS b s) {L : Nat} (hL : 2 ≤ L) (o : O) : DS b (s.set L o) := by
  obtain ⟨wide, cells, rest, turn, q⟩ := h
  exact ⟨wide, cells, rest, turn, { q with w := by rw [List.getElem?_set_ne (by omega)]; exact q.w, d := by rw [List.getElem?_set_ne (by omega)]; exact q.d }⟩
theorem Dv.ok {α : Type} {a : α} {st s : List O} {P : α → List O → Prop} (k : ∀ b, DS b st → DS b s) (h : P a s) : Dv (.ok a s) st 0 P := fun b _ hs => ⟨a, s, rfl, k b hs, h⟩
theorem ty_lst {s : List O} {L : Nat} {xs : List D} (h : s[L]? = some (.lst xs)) : tyIs "list" s (.loc L) = true := by
  unfold tyIs tyD
  simp only [h]
  rfl
abbrev shufT : Sv → List O → RR Bool := eIs (eBin (pr2 (dEq true)) (eVar 2) (eFrz (eLim (eNil))))
abbrev shufP (C : Nat → List D → List O → RR D) : Sv → List O → RR D := eMt "list" mPopAt (eVar 2) (eCons (eCall (C 14) 2 (eCons (eVar 0) (eCons (ePr (pr1 dLen) (eCons (eVar 2) (eNil))) (eNil)))) (eNil))
abbrev shufB (C : Nat → List D → List O → RR D) : Sm := sDrop (eMt "list" mAppend (eVar 3) (eCons (shufP C) (eNil)))
abbrev E4 (x : D) (L : Nat) : Sv := [some (.loc 1), some x, some (.loc L), some (.loc (L + 1))]
theorem pop_at {s : List O} {L : Nat} {left : List D} {v : Int} (h : s[L]? = some (.lst left)) (hv : 0 ≤ v ∧ v < left.length) (hl : left.length ≤ 1000) : ∃ j d, ∃ hj : j < left.length, left[j] = d ∧ mPopAt s [.loc L, .int v] = some (d, s.set L (.lst (left.eraseIdx j))) := by
  refine ⟨v.toNat, _, by omega, rfl, ?_⟩
  unfold mPopAt
  simp only [h]
  rw [if_pos (by omega)]
  have : seqIndex? v left.length = some v.toNat := by
    unfold seqIndex?
    have hn : ¬v < 0 := by omega
    simp [hv.1, hv.2, hn]
  rw [this]
  show (left[v.toNat]?).map _ = _
  rw [List.getElem?_eq_getElem (by omega)]
  rfl
theorem shuf_pop (n : Nat) {x : D} {L : Nat} (hL : 2 ≤ L) {left found : List D} {st : List O} (h1 : st[L]? = some (.lst left)) (h2 : st[L + 1]? = some (.lst found)) (hl : 1 ≤ left.length ∧ left.length ≤ 1000) : Dv (shufP (callN (n + 4)) (E4 x L) st) st 1 fun a s => ∃ j, ∃ hj : j < left.length, a = left[j] ∧ s[L]? = some (.lst (left.eraseIdx j)) ∧ s[L + 1]? = some (.lst found) := by
  refine Ev.dvb (a := .loc L) (ev_var (i := 2) rfl) fun s1 g1 => ?_
  rw [if_pos (ty_lst (g1.get h1))]
  refine Dv.bind (c := 1) (c' := 0) (P := fun xs s => ∃ v : Int, xs = [.int v] ∧ (0 ≤ v ∧ v < (left.length : Nat)) ∧ Keep st s) ?_ (fun xs s ⟨v, e, hv, k⟩ => ?_) (by omega)
  · refine Dv.bind (c := 1) (c' := 0) (P := fun a s => ∃ v : Int, a = .int v ∧ (0 ≤ v ∧ v < (left.length : Nat)) ∧ Keep st s) ?_ (fun a s ⟨v, e, hv, k⟩ => ?_) (by omega)
    · refine Ev.dvb (a := [.loc 1, .int (left.length : Nat)]) (ev_cons (ev_var rfl) fun s2 g2 => ev_cons (ev_lenL (i := 2) (L := L) (xs := left) rfl ((g1.trans g2).get h1)) fun _ _ => ev_nil) fun s2 g2 => ?_
      exact (c_take n (left.length : Nat) s2 ⟨by omega, by omega⟩).mono (Nat.le_refl _) fun a s ⟨v, e, hv, k⟩ => ⟨v, e, hv, (g1.trans g2).keep.trans k⟩
    · exact Dv.of ⟨v, by rw [e], hv, k⟩
  · rw [e]
    have k1 := k L _ hL h1
    have k2 := k (L + 1) _ (by omega) h2
    obtain ⟨j, d, hj, ed, ep⟩ := pop_at k1 hv hl.2
    rw [ep]
    refine Dv.ok (fun b hb => hb.set hL _) ⟨j, hj, ed.symm, List.getElem?_set_self (List.getElem?_eq_some_iff.mp k1).1, ?_⟩
    rw [List.getElem?_set_ne (by omega)]
    exact k2
theorem shuf_body (n : Nat) {x : D} {L : Nat} (hL : 2 ≤ L) {left found : List D} {st : List O} (h1 : st[L]? = some (.lst left)) (h2 : st[L + 1]? = some (.lst found)) (hl : 1 ≤ left.length ∧ left.length ≤ 1000) (hf : found.length ≤ 1000) : Dn (shufB (callN (n + 4)) (E4 x L) st) st 1 fun ρ s => ρ = E4 x L ∧ ∃ j, ∃ hj : j < left.length, s[L]? = some (.lst (left.eraseIdx j)) ∧ s[L + 1]? = some (.lst (found ++ [left[j]])) := by
  have dv : Dv (eMt "list" mAppend (eVar 3) (eCons (shufP (callN (n + 4))) (eNil)) (E4 x L) st) st 1 fun a s => ∃ j, ∃ hj : j < left.length, s[L]? = some (.lst (left.eraseIdx j)) ∧ s[L + 1]? = some (.lst (found ++ [left[j]])) := by
    refine Ev.dvb (a := .loc (L + 1)) (ev_var (i := 3) rfl) fun s1 g1 => ?_
    rw [if_pos (ty_lst (g1.get h2))]
    refine Dv.bind (c := 1) (c' := 0) (P := fun xs s => ∃ j, ∃ hj : j < left.length, xs = [left[j]] ∧ s[L]? = some (.lst (left.eraseIdx j)) ∧ s[L + 1]? = some (.lst found)) ?_ (fun xs s ⟨j, hj, e, k1, k2⟩ => ?_) (by omega)
    · refine Dv.bind (c := 1) (c' := 0) (shuf_pop n hL (g1.get h1) (g1.get h2) hl) (fun a s ⟨j, hj, e, k1, k2⟩ => ?_) (by omega)
      exact Dv.of ⟨j, hj, by rw [e], k1, k2⟩
    · rw [e]
      have ep : mAppend s [.loc (L + 1), left[j]] = some (.non, s.set (L + 1) (.lst (found ++ [left[j]]))) := by
        unfold mAppend
        simp only [k2]
        rw [if_pos (by rw [sizeLine_eq]; omega)]
      rw [ep]
      refine Dv.ok (fun b hb => hb.set (by omega) _) ⟨j, hj, ?_, List.getElem?_set_self (List.getElem?_eq_some_iff.mp k2).1⟩
      rw [List.getElem?_set_ne (by omega)]
      exact k1
  intro b hb hs
  obtain ⟨a, s, e, q1, q2⟩ := dv b hb hs
  refine ⟨_, s, ?_, q1, rfl, q2⟩
  unfold shufB sDrop
  rw [e]
  rfl
theorem erase_perm {α : Type} : ∀ (l : List α) (i : Nat) (h : i < l.length), (l[i] :: l.eraseIdx i).Perm l
  | [], i, h => absurd h (Nat.not_lt_zero i)
  | x :: l, 0, h => List.Perm.refl _
  | x :: l, i + 1, h => (List.Perm.swap x _ _).trans ((erase_perm l i (by simpa using h)).cons x)
theorem shuf_loop (n : Nat) {x : D} {L : Nat} (hL : 2 ≤ L) : ∀ (m : Nat) (left found : List D) (st : List O) (fl : Nat), left.length = m → m < fl → m ≤ 1000 → found.length + m ≤ 1000 → st[L]? = some (.lst left) → st[L + 1]? = some (.lst found) → Dn (goW shufT (shufB (callN (n + 4))) fl (E4 x L) st) st m fun ρ s => ρ = E4 x L ∧ ∃ out, s[L + 1]? = some (.lst out) ∧ (found ++ left).Perm out
  | m, left, found, st, 0, _, h, _, _, _, _ => absurd h (by omega)
  | m, left, found, st, fl + 1, hm, hfl, hl, hf, h1, h2 => fun b hb hs => by
    obtain ⟨s1, e1, g1⟩ : Ev (shufT (E4 x L) st) st (!left.isEmpty) := ev_is (ev_bin (ev_var rfl) (fun s _ => ev_frz (ev_lim ev_nil (Nat.zero_le _))) fun s g => ne_locnil (g.get h1))
    cases left with
    | nil =>
      refine ⟨_, s1, ?_, (hs.gr g1).mono (by omega), rfl, found, g1.get h2, by rw [List.append_nil]⟩
      unfold goW
      rw [e1]
      rfl
    | cons y ys =>
      obtain ⟨m, rfl⟩ : ∃ k, m = k + 1 := ⟨ys.length, by rw [← hm, List.length_cons]⟩
      obtain ⟨ρ2, s2, e2, q2, rfl, j, hj, k1, k2⟩ := shuf_body n (x := x) hL (g1.get h1) (g1.get h2) (by simp only [List.length_cons] at hm ⊢; omega) (by omega) b (by omega) (hs.gr g1)
      have hlen : ((y :: ys).eraseIdx j).length = m := by
        rw [List.length_eraseIdx, if_pos hj]
        omega
      obtain ⟨ρ3, s3, e3, q3, rfl, out, k3, p3⟩ := shuf_loop n (x := x) hL m ((y :: ys).eraseIdx j) (found ++ [(y :: ys)[j]]) s2 fl hlen (by omega) (by omega) (by rw [List.length_append]; simp only [List.length_cons, List.length_nil]; omega) k1 k2 (b + 1) (by omega) q2
      refine ⟨_, s3, ?_, q3.mono (by omega), rfl, out, k3, ?_⟩
      · unfold goW
        rw [e1]
        show (match shufB (callN (n + 4)) (E4 x L) s1 with
          | .nx ρ' s2 => goW shufT (shufB (callN (n + 4))) fl ρ' s2
          | .ct ρ' s2 => goW shufT (shufB (callN (n + 4))) fl ρ' s2
          | .bk ρ' s2 => .nx ρ' s2
          | r => r) = _
        rw [e2]
        exact e3
      · refine List.Perm.trans ?_ p3
        rw [List.append_assoc]
        exact (erase_perm _ _ hj).symm.append_left found
theorem c_shuffled (n : Nat) (ds : List D) (st : List O) (hl : ds.length ≤ 900) : Dv (callN (n + 5) 16 [.loc 1, .lst ds] st) st ds.length fun a s => ∃ L out, a = .loc L ∧ s[L]? = some (.lst out) ∧ ds.Perm out := by
  show Dv (bodyOf (f__law_shuffled (callN (n + 4))) 4 [.loc 1, .lst ds] st) st _ _
  refine dv_body fun b hb hs => ?_
  have hlen := hs.len
  have e1 : sPar (eCons (eAll (ePL pTuple (eCons (eVar 1) (eNil)))) (eCons (eAll (eLim (eNil))) (eNil))) 2 3 (List.map some [.loc 1, .lst ds] ++ List.replicate (4 - [D.loc 1, .lst ds].length) none) st = .nx (E4 (.lst ds) st.length) (st ++ [.lst ds] ++ [.lst []]) := by
    show SR.nx [some (D.loc 1), some (D.lst ds), some (.loc st.length), some (.loc (st ++ [O.lst ds]).length)] (st ++ [.lst ds] ++ [.lst []]) = _
    rw [List.length_append]
    rfl
  have g : Gr st (st ++ [.lst ds] ++ [.lst []]) := ⟨[.lst ds, .lst []], by simp⟩
  obtain ⟨ρ, s, e2, q, rfl, out, h1, p⟩ := shuf_loop n (x := .lst ds) (L := st.length) (by omega) ds.length ds [] (st ++ [.lst ds] ++ [.lst []]) fuel rfl (by show ds.length < 1000000; omega) (by omega) (by simp only [List.length_nil]; omega) (by simp) (by simp) b hb (hs.gr g)
  refine ⟨.loc (st.length + 1), s, ?_, q, st.length + 1, out, rfl, h1, by simpa using p⟩
  exact (seq_eq e1).trans ((seq_eq e2).trans rfl)
end Tk
/-! P25: names and scopes drawn. -/
namespace Tk
open PySem L2 Tl
theorem dv_noExc {α : Type} {r : RR α} {st : List O} {c : Nat} {P : α → List O → Prop} (h : Dv r st c P) : Dv (noExc r) st c P := fun b hb hs => by
  obtain ⟨a, s, e, q⟩ := h b hb hs
  exact ⟨a, s, by rw [e]; rfl, q⟩
/-- a comprehension whose elements draw -/
theorem dv_goC {s0 : Src} (hn : s0.at' = none) {tg : GT} {f : Sv → List O → RR D} {ρ : Sv} {c : Nat} (I : Nat → List D → List O → Prop) : ∀ (ds acc : List D) (i : Nat) (st : List O), acc.length + ds.length ≤ sizeLine → I i acc st → (∀ j d acc s, ds[j]? = some d → I (i + j) acc s → ∃ ρ', asgT tg d ρ = some ρ' ∧ Dv (f ρ' s) s c fun r s' => I (i + j + 1) (acc ++ [r]) s') → Dv (goC s0 tg tYesT f ρ ds acc st) st (ds.length * c) fun out s => I (i + ds.length) out s ∧ out.length = acc.length + ds.length
  | [], acc, i, st, _, h, _ => by
    unfold goC
    rw [if_pos (gd_none hn _)]
    exact (Dv.of (P := fun out s => I (i + 0) out s ∧ out.length = acc.length + 0) ⟨h, rfl⟩).mono (Nat.zero_le _) fun _ _ z => z
  | d :: ds, acc, i, st, hl, h, q => by
    obtain ⟨ρ', h1, h2⟩ := q 0 d acc st (by simp) (by simpa using h)
    simp only [List.length_cons] at hl ⊢
    unfold goC
    rw [if_pos (gd_none hn _), h1]
    show Dv ((noExc (f ρ' st)).bind _) st _ _
    refine Dv.bind (c := c) (c' := ds.length * c) (dv_noExc h2) (fun r s' hI => ?_) (by rw [Nat.succ_mul]; omega)
    rw [if_pos (by omega)]
    have := dv_goC hn (tg := tg) (f := f) (ρ := ρ) (c := c) I ds (acc ++ [r]) (i + 1) s' (by simp; omega) (by simpa using hI) fun j d' acc' s hd hI => by
      obtain ⟨ρ2, a2, b2⟩ := q (j + 1) d' acc' s (by simpa using hd) (by rw [show i + (j + 1) = i + 1 + j by omega]; exact hI)
      exact ⟨ρ2, a2, by rw [show i + (j + 1) + 1 = i + 1 + j + 1 by omega] at b2; exact b2⟩
    refine this.mono (Nat.le_refl _) fun out s ⟨z1, z2⟩ => ⟨?_, ?_⟩
    · rw [show i + (ds.length + 1) = i + 1 + ds.length by omega]
      exact z1
    · rw [z2, List.length_append]
      simp only [List.length_cons, List.length_nil]
      omega
def catD : D → D → D
  | .str a, .str b => .str (a ++ b)
  | d, _ => d
def first2 : D → D
  | .str x => .str ⟨(x.cps.toList.take 2).toArray⟩
  | d => d
def smS (n : Nat) (x : Str) : Bool := decide (x.length ≤ n) && x.cps.all (· < 128)
def smD (n : Nat) : D → Bool
  | .str x => smS n x
  | _ => false
def stemsOf (xs : List D) : List D := xs.flatMap fun one => (signs "aeiou").map (catD one)
def stems : List D := stemsOf (signs "bcdfghklmnprstvwxz")
def sufs : List D := [.str "q", .str "k", .str "x", .str "mu"]
theorem stems_len : stems.length = 90 := by decide +kernel
theorem stems_nodup : stems.Nodup := by decide +kernel
theorem names_ok : (stems.all fun s => sufs.all fun u => D.eqb (first2 (catD s u)) s && (isName (catD s u) && smD 4 (catD s u))) = true := by decide +kernel
theorem stems_str : (stems.all fun s => smD 2 s) = true := by decide +kernel
theorem name_of {s u : D} (hs : s ∈ stems) (hu : u ∈ sufs) : first2 (catD s u) = s ∧ isName (catD s u) = true ∧ smD 4 (catD s u) = true := by
  have := List.all_eq_true.mp (List.all_eq_true.mp names_ok s hs) u hu
  rw [Bool.and_eq_true, Bool.and_eq_true] at this
  exact ⟨(D.eqb_iff _ _).mp this.1, this.2⟩
theorem sm_str {n : Nat} {d : D} (h : smD n d = true) : ∃ x, d = .str x ∧ smS n x = true := by
  cases d with
  | str x => exact ⟨x, rfl, h⟩
  | _ => cases h
theorem sm_strA {n : Nat} {x : Str} (h : smS n x = true) (hn : n ≤ 100000) : strA x = true := by
  unfold smS at h
  unfold strA
  rw [Bool.and_eq_true, decide_eq_true_eq] at h ⊢
  refine ⟨by omega, ?_⟩
  have h2 := h.2
  rw [Array.all_eq_true'] at h2 ⊢
  intro c hc
  have := h2 c hc
  simp only [decide_eq_true_eq] at this ⊢
  omega
theorem add_str {a b : Str} (h : a.length + b.length ≤ sizeLine) (s : List O) : pr2 dAdd s [.str a, .str b] = some (.str (a ++ b), s) := by
  show (if a.length + b.length ≤ sizeLine then some (D.str (a ++ b)) else none).map _ = _
  rw [if_pos h]
  rfl
abbrev stemA : Sm := sFor (eSrc (eC (.str "bcdfghklmnprstvwxz"))) (GT.nm 3) (sAsg (eBin (pr2 dAdd) (eVar 2) (eFrz (eComp (eSrc (eC (.str "aeiou"))) (GT.nm 5) (tYesT) (eBin (pr2 dAdd) (eVar 3) (eVar 5)) [5]))) (GT.nm 2))
theorem sig_len {x : Str} {d : D} (h : d ∈ signs x) : ∃ y, d = .str y ∧ y.length = 1 := by
  unfold signs at h
  obtain ⟨c, _, rfl⟩ := List.mem_map.mp h
  exact ⟨_, rfl, rfl⟩
theorem stems_run (m : Int) (st : List O) : ∃ one, Nx (stemA [some (.loc 1), some (.int m), some (.lst []), none, none, none] st) st [some (.loc 1), some (.int m), some (.lst stems), one, none, none] := by
  obtain ⟨ρ', n', one, hρ⟩ := nx_forG (src := eSrc (eC (.str "bcdfghklmnprstvwxz"))) (tg := GT.nm 3) (a := sAsg (eBin (pr2 dAdd) (eVar 2) (eFrz (eComp (eSrc (eC (.str "aeiou"))) (GT.nm 5) (tYesT) (eBin (pr2 dAdd) (eVar 3) (eVar 5)) [5]))) (GT.nm 2)) (ρ := [some (.loc 1), some (.int m), some (.lst []), none, none, none]) (st := st) (s0 := ⟨signs "bcdfghklmnprstvwxz", none⟩)
    (ev_src ev_c fun _ _ => rfl) rfl (fun j ρ => ∃ one, ρ = [some (.loc 1), some (.int m), some (.lst (stemsOf ((signs "bcdfghklmnprstvwxz").take j))), one, none, none]) ⟨none, rfl⟩ (fun j d ρ hj hI => by
      obtain ⟨one, rfl⟩ := hI
      have hj' : (signs "bcdfghklmnprstvwxz")[j]? = some d := hj
      have hjl : j < 18 := (List.getElem?_eq_some_iff.mp hj').1
      obtain ⟨y, rfl, hy⟩ := sig_len (List.mem_of_getElem? hj')
      have e : stemsOf ((signs "bcdfghklmnprstvwxz").take (j + 1)) = stemsOf ((signs "bcdfghklmnprstvwxz").take j) ++ (signs "aeiou").map (catD (.str y)) := by
        rw [List.take_succ, hj']
        unfold stemsOf
        rw [List.flatMap_append]
        simp
      have hlen : (stemsOf ((signs "bcdfghklmnprstvwxz").take j)).length ≤ 1000 := by
        have h2 : ∀ xs : List D, (stemsOf xs).length = 5 * xs.length := fun xs => by
          induction xs with
          | nil => rfl
          | cons x xs ih =>
            unfold stemsOf at ih ⊢
            rw [List.flatMap_cons, List.length_append, ih, List.length_map, List.length_cons]
            have : (signs "aeiou").length = 5 := rfl
            omega
        rw [h2, List.length_take]
        omega
      refine ⟨_, rfl, fun s _ => ⟨_, nx_asg (d := .lst (stemsOf ((signs "bcdfghklmnprstvwxz").take (j + 1)))) (by
        rw [e]
        refine ev_bin (x := .lst (stemsOf ((signs "bcdfghklmnprstvwxz").take j))) (y := .lst ((signs "aeiou").map (catD (.str y)))) (ev_var rfl) (fun s _ => ev_frz (ev_comp1 (s0 := ⟨signs "aeiou", none⟩) (ev_src ev_c fun _ _ => rfl) rfl (by rw [sizeLine_eq]; show (5 : Nat) ≤ _; omega) fun u hu => ?_)) fun s _ => add_lst (by rw [List.length_map, sizeLine_eq]; have : (signs "aeiou").length = 5 := rfl; omega) s
        obtain ⟨z, rfl, hz⟩ := sig_len (show u ∈ signs "aeiou" from hu)
        exact ⟨_, rfl, fun s _ => ev_bin (ev_var rfl) (fun s _ => ev_var rfl) fun s _ => add_str (by rw [sizeLine_eq]; omega) s⟩) rfl, some (.str y), rfl⟩⟩)
  refine ⟨one, ?_⟩
  rw [hρ] at n'
  exact n'
/-- what is drawn for names: as many stems, each with an ending -/
structure NamesOk (k : Nat) (out : List D) : Prop where
  len : out.length ≤ k
  each : ∀ d ∈ out, isName d = true ∧ smD 4 d = true
  nodup : (out.map first2).Nodup
theorem take_min_len {α : Type} (l : List α) (k : Nat) : l.take (min l.length k) = l.take k := by
  rcases Nat.le_total k l.length with h | h
  · rw [Nat.min_eq_right h]
  · rw [Nat.min_eq_left h, List.take_length, List.take_of_length_le h]
theorem cut0 (ds : List D) (k : Nat) : cut ds none (some (k : Int)) = ds.take k := by
  unfold cut
  rw [HT.sIx_none, HT.sIx_nat, List.drop_zero, Nat.sub_zero, Nat.min_comm, take_min_len]
theorem callN_18 (n : Nat) : callN (n + 3) 18 = bodyOf (f__law_names (callN (n + 2))) 6 := rfl
theorem dv_call {F : List D → List O → RR D} {n c : Nat} {fs : Sv → List O → RR (List D)} {ρ : Sv} {st : List O} {xs : List D} {P : D → List O → Prop} (h : Ev (fs ρ st) st xs) (hl : xs.length = n) (h2 : ∀ s, Gr st s → Dv (F xs s) s c P) : Dv (eCall F n fs ρ st) st c P := Ev.dvb h fun s g => by
  rw [if_pos hl]
  exact h2 s g
theorem dv_callP {F : List D → List O → RR D} {n c c' C : Nat} {fs : Sv → List O → RR (List D)} {ρ : Sv} {st : List O} {R : List D → List O → Prop} {P : D → List O → Prop} (h : Dv (fs ρ st) st c R) (h2 : ∀ xs s, R xs s → xs.length = n ∧ Dv (F xs s) s c' P) (hc : c + c' ≤ C) : Dv (eCall F n fs ρ st) st C P := Dv.bind h (fun xs s r => by
  rw [if_pos (h2 xs s r).1]
  exact (h2 xs s r).2) hc
theorem c_names (n k : Nat) (hk : k ≤ 3) (st : List O) : Dv (callN (n + 6) 18 [.loc 1, .int (k : Nat)] st) st 100 fun a s => ∃ out, a = .lst out ∧ NamesOk k out := by
  rw [callN_18]
  have e1 : Nx (sAsg (eFrz (eLim (eNil))) (GT.nm 2) [some (.loc 1), some (.int (k : Nat)), none, none, none, none] st) st [some (.loc 1), some (.int (k : Nat)), some (.lst []), none, none, none] := nx_asg (ev_frz (ev_lim ev_nil (Nat.zero_le _))) rfl
  refine dv_body (dr_seq (c := 0) (c' := 100) e1.dn (fun ρ' s ⟨e, g⟩ => ?_) (by omega))
  rw [e]
  obtain ⟨one, e2⟩ := stems_run (k : Nat) s
  refine dr_seq (c := 0) (c' := 100) e2.dn (fun ρ' s1 ⟨e, g1⟩ => ?_) (by omega)
  rw [e]
  refine dr_ret ?_
  refine Dv.bind (c := 100) (c' := 0) (P := fun (out : List D) _ => NamesOk k out) ?_ (fun out s2 h => Dv.of ⟨out, rfl, h⟩) (by omega)
  refine Dv.bind (c := 90) (c' := 10) (P := fun (x : Src) _ => ∃ out, x = ⟨out.take k, none⟩ ∧ stems.Perm out) ?_ (fun x s2 ⟨out, e, hp⟩ => ?_) (by omega)
  · refine Dv.bind (c := 90) (c' := 0) (P := fun (x : D) _ => ∃ out, x = .lst (out.take k) ∧ stems.Perm out) ?_ (fun x s2 ⟨out, e, hp⟩ => by rw [e]; exact Dv.of ⟨out, rfl, hp⟩) (by omega)
    refine Dv.bind (c := 90) (c' := 0) (P := fun (x : D) s => ∃ L out, x = .loc L ∧ s[L]? = some (.lst out) ∧ stems.Perm out) ?_ (fun x s2 ⟨L, out, e, hL, hp⟩ => ?_) (by omega)
    · refine dv_call (xs := [.loc 1, .lst stems]) (ev_cons (ev_var rfl) fun _ _ => ev_cons (ev_var rfl) fun _ _ => ev_nil) rfl fun s2 _ => ?_
      exact (c_shuffled n stems s2 (by rw [stems_len]; omega)).mono (Nat.le_of_eq stems_len) fun a s ⟨L, out, h⟩ => ⟨L, out, h⟩
    · rw [e]
      refine Ev.dvb (a := (none : Option Int)) ev_noPart fun s3 g3 => Ev.dvb (a := (some ((k : Nat) : Int) : Option Int)) (ev_part (ev_var rfl)) fun s4 g4 => ?_
      have : dSl s4 (.loc L) none (some ((k : Nat) : Int)) = some (.lst (out.take k)) := by
        have h2 := (g3.trans g4).get hL
        show (Tl.listOf s4 (.loc L)).map _ = _
        unfold Tl.listOf
        simp only [h2]
        rw [Option.map_some, cut0]
      rw [this]
      exact Dv.of ⟨out, rfl, hp⟩
  · rw [e]
    have hm : ∀ d ∈ out.take k, d ∈ stems := fun d hd => hp.mem_iff.mpr (List.mem_of_mem_take hd)
    have hl : (out.take k).length ≤ 3 := by
      rw [List.length_take]
      omega
    refine (dv_goC (c := 1) rfl (tg := GT.nm 4) (fun j acc _ => acc.map first2 = (out.take k).take j ∧ ∀ d ∈ acc, isName d = true ∧ smD 4 d = true) (out.take k) [] 0 s2 (by rw [sizeLine_eq]; simp only [List.length_nil]; omega) ⟨rfl, fun d hd => by cases hd⟩ fun j d acc s hd hI => ?_).mono (by omega) fun res s ⟨hI, hlen⟩ => ?_
    · refine ⟨_, rfl, ?_⟩
      have hds := hm d (List.mem_of_getElem? hd)
      obtain ⟨x, rfl, hx⟩ := sm_str (List.all_eq_true.mp stems_str d hds)
      refine Ev.dvb (a := .str x) (ev_var rfl) fun s3 g3 => ?_
      refine Dv.bind (c := 1) (c' := 0) (P := fun (u : D) _ => u ∈ sufs) ?_ (fun u s4 hu => ?_) (by omega)
      · refine dv_call (xs := [.loc 1, .lst sufs]) (ev_cons (ev_var rfl) fun _ _ => ev_cons (ev_frz (ev_lim (ev_cons ev_c fun _ _ => ev_cons ev_c fun _ _ => ev_cons ev_c fun _ _ => ev_cons ev_c fun _ _ => ev_nil) (by rw [sizeLine_eq]; show (4 : Nat) ≤ _; omega))) fun _ _ => ev_nil) rfl fun s5 _ => ?_
        exact (c_pick n sufs s5 (by intro z; cases z) (by show (4 : Nat) ≤ _; omega)).mono (Nat.le_refl _) fun a s h => h.1
      · obtain ⟨h1, h2, h3⟩ := name_of hds hu
        have hul : ∃ y, u = .str y ∧ y.length ≤ 4 := by
          have : u ∈ [D.str "q", .str "k", .str "x", .str "mu"] := hu
          simp only [List.mem_cons, List.not_mem_nil, or_false] at this
          rcases this with z | z | z | z <;> exact ⟨_, z, by decide +kernel⟩
        obtain ⟨y, rfl, hy⟩ := hul
        have hxl : x.length ≤ 2 := by
          unfold smS at hx
          rw [Bool.and_eq_true, decide_eq_true_eq] at hx
          exact hx.1
        rw [add_str (by rw [sizeLine_eq]; omega)]
        refine Dv.of ⟨?_, fun d' hd' => ?_⟩
        · rw [List.map_append, hI.1, Nat.zero_add, List.take_succ, hd]
          have : first2 (.str (x ++ y)) = .str x := h1
          simp [this]
        · rcases List.mem_append.mp hd' with z | z
          · exact hI.2 d' z
          · rw [List.mem_singleton] at z
            rw [z]
            exact ⟨h2, h3⟩
    · refine ⟨by rw [hlen, List.length_nil, List.length_take]; omega, hI.2, ?_⟩
      rw [hI.1]
      exact ((hp.nodup_iff.mp stems_nodup).sublist (List.take_sublist _ _)).sublist (List.take_sublist _ _)
/-! ### scopes -/
structure ScOk (sc : List D) : Prop where
  scope : isScope (.tup sc) = true
  names : sc.all isName = true
  small : ∀ d ∈ sc, smD 4 d = true
  len : sc.length ≤ 3
theorem str_cp {n : Nat} {x y : D} (hx : smD n x = true) (hy : smD n y = true) : Cp x y := by
  obtain ⟨a, rfl, _⟩ := sm_str hx
  obtain ⟨b, rfl, _⟩ := sm_str hy
  exact ⟨rfl, rfl, rfl⟩
theorem key_inj {n : Nat} {x y : D} (hx : smD n x = true) (hy : smD n y = true) (h : keyD x = keyD y) : x = y := by
  obtain ⟨a, rfl, _⟩ := sm_str hx
  obtain ⟨b, rfl, _⟩ := sm_str hy
  have h2 := peq_key (str_cp (n := n) hx hy)
  rw [h, decide_eq_true rfl] at h2
  have : (a == b) = true := h2
  rw [eq_of_beq this]
theorem sort_rises {n : Nat} {xs : List D} (hs : ∀ d ∈ xs, smD n d = true) (hn : xs.Nodup) : risesD (sortD xs) = true := by
  have hm : ∀ a ∈ sortD xs, a ∈ xs := fun a ha => by
    unfold sortD at ha
    exact List.mem_mergeSort.mp ha
  have cm : Cm xs := fun x hx y hy => str_cp (hs x hx) (hs y hy)
  rw [rises_keys fun x hx y hy => cm x (hm x hx) y (hm y hy)]
  have e2 : (sortD xs).map keyD = (xs.map keyD).mergeSort leK := List.map_mergeSort fun a ha b hb => le_key (cm b hb a ha)
  rw [e2]
  have p : ((xs.map keyD).mergeSort leK).Pairwise (fun a b => leK a b = true) := List.pairwise_mergeSort leK_trans leK_total _
  have nd : ((xs.map keyD).mergeSort leK).Nodup := by
    rw [(List.mergeSort_perm _ _).nodup_iff]
    refine (List.pairwise_map.mpr ?_)
    refine List.Pairwise.imp_of_mem (fun ha hb h e => h (key_inj (hs _ ha) (hs _ hb) e)) hn
  exact List.Pairwise.imp_of_mem (fun ha hb h => lt_of_leK h.1 h.2) (p.and nd)
theorem c_scope (n : Nat) (st : List O) : Dv (callN (n + 7) 19 [.loc 1, .int 3] st) st 101 fun a s => ∃ sc, a = .tup sc ∧ ScOk sc := by
  show Dv (bodyOf (f__law_scope (callN (n + 6))) 2 [.loc 1, .int 3] st) st 101 _
  refine dv_body (dr_ret ?_)
  refine Dv.bind (c := 101) (c' := 0) (P := fun (xs : List D) _ => ∃ out, xs = [.lst (sortD out)] ∧ NamesOk 3 out) ?_ (fun xs s ⟨out, e, h⟩ => ?_) (by omega)
  · refine Dv.bind (c := 101) (c' := 0) (P := fun (x : D) _ => ∃ out, x = .lst (sortD out) ∧ NamesOk 3 out) ?_ (fun x s ⟨out, e, h⟩ => Dv.of ⟨out, by rw [e], h⟩) (by omega)
    refine Dv.bind (c := 101) (c' := 0) (P := fun (xs : List D) _ => ∃ out, xs = sortD out ∧ NamesOk 3 out) ?_ (fun xs s ⟨out, e, h⟩ => Dv.of ⟨out, by rw [e], h⟩) (by omega)
    refine Dv.bind (c := 101) (c' := 0) (P := fun (xs : List D) _ => ∃ out, xs = [.lst out] ∧ NamesOk 3 out) ?_ (fun xs s ⟨out, e, h⟩ => ?_) (by omega)
    · refine Dv.bind (c := 101) (c' := 0) (P := fun (x : D) _ => ∃ out, x = .lst out ∧ NamesOk 3 out) ?_ (fun x s ⟨out, e, h⟩ => Dv.of ⟨out, by rw [e], h⟩) (by omega)
      refine dv_callP (c := 1) (c' := 100) (R := fun (xs : List D) _ => ∃ k : Nat, k ≤ 3 ∧ xs = [.loc 1, .int (k : Nat)]) ?_ (fun xs s ⟨k, hk, e⟩ => ⟨by rw [e]; rfl, ?_⟩) (by omega)
      · refine Ev.dvb (a := .loc 1) (ev_var rfl) fun s1 _ => ?_
        refine Dv.bind (c := 1) (c' := 0) (P := fun (xs : List D) _ => ∃ k : Nat, k ≤ 3 ∧ xs = [.int (k : Nat)]) ?_ (fun xs s ⟨k, hk, e⟩ => Dv.of ⟨k, hk, by rw [e]⟩) (by omega)
        refine Dv.bind (c := 1) (c' := 0) (P := fun (x : D) _ => ∃ k : Nat, k ≤ 3 ∧ x = .int (k : Nat)) ?_ (fun x s ⟨k, hk, e⟩ => Dv.of ⟨k, hk, by rw [e]⟩) (by omega)
        refine dv_call (xs := [.loc 1, .int 4]) (ev_cons (ev_var rfl) fun _ _ => ev_cons (ev_bin (ev_var rfl) (fun s _ => ev_c) fun s _ => rfl) fun _ _ => ev_nil) rfl fun s2 _ => ?_
        exact (c_take (n + 2) 4 s2 ⟨by omega, by omega⟩).mono (Nat.le_refl _) fun a s ⟨v, e, hv, _⟩ => ⟨v.toNat, by omega, by rw [e, Int.toNat_of_nonneg hv.1]⟩
      · rw [e]
        exact (c_names n k hk s).mono (Nat.le_refl _) fun a s ⟨out, e, h⟩ => ⟨out, e, { h with len := by have := h.len; omega }⟩
    · rw [e]
      have hs : sortOk out = true := by
        unfold sortOk
        rw [Bool.and_eq_true, Bool.and_eq_true]
        refine ⟨⟨List.all_eq_true.mpr fun d hd => ?_, List.all_eq_true.mpr fun x hx => List.all_eq_true.mpr fun y hy => (str_cp (h.each x hx).2 (h.each y hy).2).2.2⟩, ?_⟩
        · obtain ⟨x, rfl, hx⟩ := sm_str (h.each d hd).2
          rw [strA_lay (sm_strA hx (by omega)), dep_str]
          rfl
        · unfold shapeOk
          have : (out.map toP).all (fun d => decide (kindT d = some 0)) = true := List.all_eq_true.mpr fun p hp => by
            obtain ⟨e, he, rfl⟩ := List.mem_map.mp hp
            obtain ⟨x, rfl, hx⟩ := sm_str (h.each e he).2
            rfl
          rw [this]
          rfl
      have : pSorted s [.lst out] = some (sortD out) := by
        show (if sortOk out = true then some (sortD out) else none) = _
        rw [if_pos hs]
      rw [this]
      exact Dv.of ⟨out, rfl, h⟩
  · rw [e]
    refine Dv.of ⟨sortD out, rfl, ?_⟩
    have hm : ∀ a ∈ sortD out, a ∈ out := fun a ha => by
      unfold sortD at ha
      exact List.mem_mergeSort.mp ha
    have hl : (sortD out).length = out.length := List.length_mergeSort _
    have hr : risesD (sortD out) = true := sort_rises (n := 4) (fun d hd => (h.each d hd).2) (List.Pairwise.of_map first2 (fun a b q e => q (by rw [e])) h.nodup)
    have hn : (sortD out).all isName = true := List.all_eq_true.mpr fun d hd => (h.each d (hm d hd)).1
    refine ⟨?_, hn, fun d hd => (h.each d (hm d hd)).2, by rw [hl]; exact h.len⟩
    show (((sortD out).all isName && risesD (sortD out)) && decide ((((sortD out).length : Nat) : Int) ≤ 3)) = true
    rw [hn, hr, decide_eq_true (by have := h.len; omega)]
    rfl
end Tk
/-! P26: paths, parts, putting. -/
namespace Tk
open PySem L2 Tl
/-- small data: short plain texts, small numbers, at any depth of tuples -/
inductive Sd (n : Nat) : D → Prop where
  | tup {ds : List D} (h : ∀ d ∈ ds, Sd n d) : Sd n (.tup ds)
  | str {x : Str} (h : smS n x = true) : Sd n (.str x)
  | int {i : Int} (h : i.natAbs ≤ n) : Sd n (.int i)
  | oth {d : D} (h1 : isTup d = false) (h2 : isStr d = false) (h3 : ∀ i, d ≠ .int i) : Sd n d
theorem smS_mono {n m : Nat} {x : Str} (h : smS n x = true) (k : n ≤ m) : smS m x = true := by
  unfold smS at h ⊢
  rw [Bool.and_eq_true, decide_eq_true_eq] at h ⊢
  exact ⟨by omega, h.2⟩
theorem Sd.mono {n m : Nat} {d : D} (h : Sd n d) (k : n ≤ m) : Sd m d := by
  induction h with
  | tup _ ih => exact .tup ih
  | str h => exact .str (smS_mono h k)
  | int h => exact .int (by omega)
  | oth h1 h2 h3 => exact .oth h1 h2 h3
theorem Sd.sub {n : Nat} {ds : List D} (h : Sd n (.tup ds)) : ∀ d ∈ ds, Sd n d := by
  cases h with
  | tup h => exact h
  | oth h1 _ _ => cases h1
theorem Sd.of_str {n : Nat} {x : Str} (h : Sd n (.str x)) : smS n x = true := by
  cases h with
  | str h => exact h
  | oth _ h _ => cases h
theorem Sd.of_int {n : Nat} {i : Int} (h : Sd n (.int i)) : i.natAbs ≤ n := by
  cases h with
  | int h => exact h
  | oth _ _ h => exact absurd rfl (h i)
theorem Sd.top {n : Nat} {d : D} (h : Sd n d) (hn : n ≤ 100000) : top1 d := fun x e => by
  rw [e] at h
  exact sm_strA h.of_str hn
theorem Sd.good {n : Nat} {d : D} (h : Sd n d) (hn : n ≤ 100000) : wD d ≤ 100000 → Good d := by
  induction h with
  | @tup ds h ih =>
    intro hw
    have h1 : wD (.tup ds) = 1 + wDs ds := rfl
    exact .tup ⟨fun d hd => (h d hd).top hn, by have := wD_len ds; omega⟩ fun d hd => ih d hd (by have := wd_mem hd; omega)
  | str h => exact fun _ => .atom rfl ((Sd.str h).top hn)
  | int h => exact fun _ => .atom rfl ((Sd.int h).top hn)
  | oth h1 h2 h3 => exact fun _ => .atom h1 ((Sd.oth h1 h2 h3).top hn)
def kidsD : D → List D
  | .tup ds => ds
  | _ => []
def pathsA : Nat → D → List D
  | 0, _ => [.tup []]
  | k + 1, d => .tup [] :: numPaths (pathsA k) 0 (kidsD d)
inductive Pt : D → List Nat → D → Prop where
  | nil {d : D} : Pt d [] d
  | cons {ds : List D} {k : Nat} {e x : D} {p : List Nat} (h : ds[k]? = some e) (t : Pt e p x) : Pt (.tup ds) (k :: p) x
def encP (p : List Nat) : D := .tup (p.map fun (k : Nat) => .int (k : Int))
theorem num_mem {f : D → List D} {q : D} : ∀ {ds : List D} {i : Nat}, q ∈ numPaths f i ds → ∃ j e q', ds[j]? = some e ∧ q' ∈ f e ∧ q = tailOf ((i + j : Nat) : Int) q'
  | [], i, h => by cases h
  | x :: ds, i, h => by
    rcases List.mem_append.mp (show q ∈ (f x).map (tailOf (i : Nat)) ++ numPaths f (i + 1) ds from h) with z | z
    · obtain ⟨q', hq, rfl⟩ := List.mem_map.mp z
      exact ⟨0, x, q', rfl, hq, rfl⟩
    · obtain ⟨j, e, q', h1, h2, h3⟩ := num_mem z
      exact ⟨j + 1, e, q', by simpa using h1, h2, by rw [h3, show i + 1 + j = i + (j + 1) by omega]⟩
theorem pathsA_pt : ∀ (k : Nat) (d : D), ∀ q ∈ pathsA k d, ∃ p x, q = encP p ∧ Pt d p x ∧ p.length ≤ k
  | 0, d, q, h => by
    have : q = .tup [] := by simpa [pathsA] using h
    exact ⟨[], d, this, .nil, Nat.le_refl _⟩
  | k + 1, d, q, h => by
    rcases List.mem_cons.mp (show q ∈ D.tup [] :: numPaths (pathsA k) 0 (kidsD d) from h) with z | z
    · exact ⟨[], d, z, .nil, Nat.zero_le _⟩
    · obtain ⟨j, e, q', h1, h2, h3⟩ := num_mem z
      obtain ⟨p, x, rfl, h5, h6⟩ := pathsA_pt k e q' h2
      cases d with
      | tup ds =>
        refine ⟨j :: p, x, ?_, .cons h1 h5, by rw [List.length_cons]; omega⟩
        rw [h3, Nat.zero_add]
        rfl
      | _ => cases h1
theorem num_sum {f : D → List D} (h : ∀ x, (f x).length ≤ wD x) : ∀ (ds : List D) (i : Nat), (numPaths f i ds).length ≤ wDs ds
  | [], _ => Nat.zero_le _
  | x :: ds, i => by
    show ((f x).map _ ++ numPaths f (i + 1) ds).length ≤ wD x + wDs ds
    rw [List.length_append, List.length_map]
    have := h x
    have := num_sum h ds (i + 1)
    omega
theorem wD_pos (d : D) : 1 ≤ wD d := by cases d <;> (unfold wD; omega)
theorem pathsA_len : ∀ (k : Nat) (d : D), (pathsA k d).length ≤ wD d
  | 0, d => wD_pos d
  | k + 1, d => by
    show (numPaths (pathsA k) 0 (kidsD d)).length + 1 ≤ wD d
    have h := num_sum (pathsA_len k) (kidsD d) 0
    have : wDs (kidsD d) + 1 ≤ wD d := by
      cases d with
      | tup ds => exact Nat.le_of_eq (Nat.add_comm _ _)
      | _ => exact Nat.le_refl _
    omega
theorem num_take {f : D → List D} (ds : List D) (j : Nat) (i : Nat) : (numPaths f i (ds.take j)).length ≤ (numPaths f i ds).length := by
  induction ds generalizing i j with
  | nil => rw [List.take_nil]; exact Nat.le_refl _
  | cons x ds ih =>
    cases j with
    | zero => exact Nat.zero_le _
    | succ j =>
      show ((f x).map _ ++ numPaths f (i + 1) (ds.take j)).length ≤ ((f x).map _ ++ numPaths f (i + 1) ds).length
      rw [List.length_append, List.length_append]
      have := ih j (i + 1)
      omega
theorem paths_step {m : Nat} {d : D} {st : List O} {ps : D → List D} (hk : ∀ x ∈ kidsD d, ∀ s, Ev (callN m 21 [x] s) s (.lst (ps x))) (hs : ∀ x, Paths 1000 (ps x)) (hl : ∀ x, (ps x).length ≤ wD x) (hw : wD d ≤ 100000) : Ev (bodyOf (f__law_paths (callN m)) 5 [d] st) st (.lst (.tup [] :: numPaths ps 0 (kidsD d))) := by
  have hww : wDs (kidsD d) + 1 ≤ wD d := by
    cases d with
    | tup ds => exact Nat.le_of_eq (Nat.add_comm _ _)
    | _ => exact Nat.le_refl _
  have htot := num_sum hl (kidsD d) 0
  have e1 : Nx (sAsg (eFrz (eLim (eCons (eTup (eNil)) (eNil)))) (GT.nm 1) [some d, none, none, none, none] st) st [some d, some (.lst [.tup []]), none, none, none] := nx_asg (ev_frz (ev_lim (ev_cons (ev_tup ev_nil (Nat.zero_le _)) fun s _ => ev_nil) (by rw [sizeLine_eq]; simp))) rfl
  refine ev_body (rt_seq e1 fun s0 _ => ?_)
  have src : Ev (eEnum (eCons (eIfE (eTru (eIsi "tuple" (eVar 0))) (eVar 0) (eTup (eNil))) (eNil)) [some d, some (.lst [.tup []]), none, none, none] s0) s0 ⟨numbered 0 (kidsD d), none⟩ := by
    refine (ev_cons (x := .tup (kidsD d)) (xs := []) (ev_ifE (b := isTup d) (ev_tru (ev_isi (b := isTup d) (ev_var rfl) fun s => kit_tuple s d) fun s => rfl) (fun hb s _ => ?_) fun hb s _ => ?_) fun s _ => ev_nil).bind fun s _ => Ev.of (a := (⟨numbered 0 (kidsD d), none⟩ : Src))
    · cases d with
      | tup ds => exact ev_var rfl
      | _ => cases hb
    · have : kidsD d = [] := by
        cases d with
        | tup ds => cases hb
        | _ => rfl
      rw [this]
      exact ev_tup ev_nil (Nat.zero_le _)
  obtain ⟨ρ', nx, acc, a, b, c, hρ, hacc⟩ := nx_for (tg := GT.tp [GT.nm 2, GT.nm 3]) (a := sAsg (eBin (pr2 dAdd) (eVar 1) (eFrz (eComp (eSrc (eCall (callN m 21) 1 (eCons (eVar 3) (eNil)))) (GT.nm 4) (tYesT) (eBin (pr2 dAdd) (eTup (eCons (eVar 2) (eNil))) (eVar 4)) [4]))) (GT.nm 1)) src rfl
    (fun (j : Nat) (ρ : Sv) => ∃ acc a b c, ρ = [some d, some (.lst acc), a, b, c] ∧ acc = .tup [] :: numPaths ps 0 ((kidsD d).take j)) ⟨[.tup []], none, none, none, rfl, rfl⟩ (fun j e ρ hj hI => by
      obtain ⟨acc, a, b, c, rfl, hacc⟩ := hI
      obtain ⟨x, hx, rfl⟩ := numbered_get _ _ _ _ hj
      have hxm : x ∈ kidsD d := List.mem_of_getElem? hx
      have htk : (kidsD d).take (j + 1) = (kidsD d).take j ++ [x] := by
        rw [List.take_succ, hx]
        rfl
      have hj' : j < (kidsD d).length := (List.getElem?_eq_some_iff.mp hx).1
      have hxl : (ps x).length ≤ 100000 := by
        have := hl x
        have := wd_mem hxm
        omega
      have hal : acc.length ≤ 100001 := by
        rw [hacc, List.length_cons]
        have := num_take (f := ps) (kidsD d) j 0
        omega
      refine ⟨[some d, some (.lst acc), some (.int ((0 + j : Nat) : Int)), some x, c], rfl, fun s => ⟨[some d, some (.lst (acc ++ (ps x).map (tailOf ((0 + j : Nat) : Int)))), some (.int ((0 + j : Nat) : Int)), some x, c], nx_asg (ev_bin (ev_var rfl) (fun s2 g2 => ?_) fun s2 _ => add_lst ?_ s2) rfl, ⟨_, _, _, _, rfl, ?_⟩⟩⟩
      · refine ev_frz (ev_comp1 (s0 := ⟨ps x, none⟩) (ev_src (x := .lst (ps x)) (ev_call (ev_cons (ev_var rfl) fun _ _ => ev_nil) rfl fun s _ => hk x hxm s) fun _ _ => rfl) rfl (by rw [sizeLine_eq]; show (ps x).length ≤ _; omega) fun p hp => ?_)
        obtain ⟨q, rfl, hq⟩ := hs x p hp
        exact ⟨_, rfl, fun s _ => ev_bin (x := .tup [.int ((0 + j : Nat) : Int)]) (y := .tup q) (ev_tup (ev_cons (ev_var rfl) fun _ _ => ev_nil) (by rw [sizeLine_eq]; simp)) (fun s _ => ev_var rfl) fun s _ => add_tup (by rw [sizeLine_eq]; simp only [List.length_cons, List.length_nil]; omega) s⟩
      · rw [List.length_map, sizeLine_eq]
        omega
      · rw [hacc, htk, num_app, List.length_take, Nat.min_eq_left (by omega)]
        rfl)
  have ht : (kidsD d).take (numbered 0 (kidsD d)).length = kidsD d := by rw [numbered_len, List.take_length]
  rw [show ((⟨numbered 0 (kidsD d), none⟩ : Src)).its.length = (numbered 0 (kidsD d)).length from rfl, ht] at hacc
  subst hρ hacc
  exact rt_seq nx fun s _ => rt_ret (ev_var rfl)
theorem callN_21 (n : Nat) : callN (n + 3) 21 = bodyOf (f__law_paths (callN (n + 2))) 5 := rfl
theorem pathsA_short (k : Nat) (hk : k ≤ 1000) (x : D) : Paths 1000 (pathsA k x) := fun q hq => by
  obtain ⟨p, _, rfl, _, hp⟩ := pathsA_pt k x q hq
  exact ⟨_, rfl, by rw [List.length_map]; omega⟩
theorem c_law_paths (n : Nat) : ∀ (h : Nat) (d : D) (st : List O), dep d ≤ h → h ≤ 900 → wD d ≤ 100000 → Ev (callN (n + h + 3) 21 [d] st) st (.lst (pathsA (h + 1) d))
  | 0, d, st, hd, hh, hw => by
    rw [callN_21]
    refine paths_step (ps := pathsA 0) (fun x hx => ?_) (pathsA_short 0 (by omega)) (pathsA_len 0) hw
    cases d with
    | tup ds =>
      have hx : x ∈ ds := hx
      have := dep_mem hx
      omega
    | _ => cases hx
  | h + 1, d, st, hd, hh, hw => by
    rw [callN_21]
    refine paths_step (ps := pathsA (h + 1)) (fun x hx s => ?_) (pathsA_short (h + 1) (by omega)) (pathsA_len (h + 1)) hw
    cases d with
    | tup ds =>
      have hx : x ∈ ds := hx
      have := dep_mem hx
      have h1 := wd_mem hx
      have h2 : wD (.tup ds) = 1 + wDs ds := rfl
      exact c_law_paths n h x s (by omega) (by omega) (by omega)
    | _ => cases hx
end Tk
/-! P27: part, put. -/
namespace Tk
open PySem L2 Tl
def putP : D → List Nat → D → D
  | _, [], y => y
  | .tup ds, k :: p, y => .tup (ds.take k ++ [putP (ds.getD k .non) p y] ++ ds.drop (k + 1))
  | _, _ :: _, y => y
theorem get_split {ds : List D} {k : Nat} {e : D} (h : ds[k]? = some e) : ds = ds.take k ++ e :: ds.drop (k + 1) := by
  have hk := (List.getElem?_eq_some_iff.mp h)
  obtain ⟨hk, rfl⟩ := hk
  rw [List.getElem_cons_drop, List.take_append_drop]
theorem get_getD {ds : List D} {k : Nat} {e : D} (h : ds[k]? = some e) : ds.getD k .non = e := by
  rw [List.getD_eq_getElem?_getD, h]
  rfl
theorem pt_mem {ds : List D} {k : Nat} {e : D} (h : ds[k]? = some e) : e ∈ ds := List.mem_of_getElem? h
theorem pt_sd {n : Nat} {d x : D} {p : List Nat} (t : Pt d p x) : Sd n d → Sd n x := by
  induction t with
  | nil => exact id
  | cons h t ih => exact fun s => ih (s.sub _ (pt_mem h))
theorem pt_w {d x : D} {p : List Nat} (t : Pt d p x) : wD x ≤ wD d := by
  induction t with
  | nil => exact Nat.le_refl _
  | @cons ds k e x p h t ih =>
    have h1 := wd_mem (pt_mem h)
    have h2 : wD (.tup ds) = 1 + wDs ds := rfl
    omega
theorem pt_dep {d x : D} {p : List Nat} (t : Pt d p x) : dep x ≤ dep d := by
  induction t with
  | nil => exact Nat.le_refl _
  | @cons ds k e x p h t ih =>
    have h1 := dep_mem (pt_mem h)
    omega
theorem put_sd {n : Nat} {y : D} (hy : Sd n y) {d x : D} {p : List Nat} (t : Pt d p x) : Sd n d → Sd n (putP d p y) := by
  induction t with
  | nil => exact fun _ => hy
  | @cons ds k e x p h t ih =>
    intro s
    have hs := s.sub
    refine .tup fun z hz => ?_
    rw [get_getD h] at hz
    simp only [List.mem_append, List.mem_singleton] at hz
    rcases hz with (hz | hz) | hz
    · exact hs z (List.mem_of_mem_take hz)
    · rw [hz]
      exact ih (hs _ (pt_mem h))
    · exact hs z (List.mem_of_mem_drop hz)
theorem put_w {y d x : D} {p : List Nat} (t : Pt d p x) : wD (putP d p y) + wD x = wD d + wD y := by
  induction t with
  | nil => exact Nat.add_comm _ _
  | @cons ds k e x p h t ih =>
    have h1 : wD (putP (.tup ds) (k :: p) y) = 1 + wDs (ds.take k ++ [putP (ds.getD k .non) p y] ++ ds.drop (k + 1)) := rfl
    have h2 : wD (.tup ds) = 1 + wDs ds := rfl
    have h3 : wDs ds = wDs (ds.take k) + (wD e + wDs (ds.drop (k + 1))) := by
      conv => lhs; rw [get_split h]
      rw [wDs_append]
      rfl
    have h4 : wDs [putP e p y] = wD (putP e p y) := Nat.add_zero _
    rw [get_getD h, wDs_append, wDs_append, h4] at h1
    omega
theorem put_dep {y d x : D} {p : List Nat} (t : Pt d p x) (hy : dep y ≤ dep x + 1) : dep (putP d p y) ≤ dep d + 1 := by
  induction t with
  | nil => exact hy
  | @cons ds k e x p h t ih =>
    have hd : 1 ≤ dep (.tup ds) := by
      have := dep_mem (pt_mem h)
      omega
    have : ∀ z ∈ ds.take k ++ [putP (ds.getD k .non) p y] ++ ds.drop (k + 1), dep z ≤ dep (.tup ds) := fun z hz => by
      rw [get_getD h] at hz
      simp only [List.mem_append, List.mem_singleton] at hz
      rcases hz with (hz | hz) | hz
      · have := dep_mem (List.mem_of_mem_take hz)
        omega
      · rw [hz]
        have := dep_mem (pt_mem h)
        have := ih hy
        omega
      · have := dep_mem (List.mem_of_mem_drop hz)
        omega
    exact dep_tup_le this
/-! ### the walks -/
theorem callN_22 (n : Nat) : callN (n + 3) 22 = bodyOf (f__law_part (callN (n + 2))) 2 := rfl
theorem callN_23 (n : Nat) : callN (n + 3) 23 = bodyOf (f__law_put (callN (n + 2))) 3 := rfl
theorem ix_tup {ds : List D} {k : Nat} {e : D} (h : ds[k]? = some e) (s : List O) : pr2 dIx s [.tup ds, .int (k : Nat)] = some (e, s) := by
  have hk := (List.getElem?_eq_some_iff.mp h).1
  rw [pr2_eq]
  show (atI ds (k : Nat)).map _ = _
  have : atI ds (k : Nat) = some e := by
    unfold atI ixN
    rw [if_pos (by omega), if_pos (by omega)]
    rw [Int.toNat_natCast]
    exact h
  rw [this]
  rfl
theorem path_empty (q : List Nat) (s : List O) : pr2 (dEq false) s [encP q, .tup []] = some (.bl q.isEmpty, s) := by
  have := eq_nil (q.map fun (k : Nat) => D.int (k : Int)) s
  rw [List.isEmpty_map] at this
  exact this
theorem path_tail (k : Nat) (q : List Nat) : cut (List.map (fun (k : Nat) => D.int (k : Int)) (k :: q)) (some 1) none = q.map fun (k : Nat) => .int (k : Int) := by
  rw [cut1]
  rfl
theorem c_law_part (n : Nat) {d x : D} {p : List Nat} (t : Pt d p x) : ∀ st, Ev (callN (n + p.length + 3) 22 [d, encP p] st) st x := by
  induction t with
  | @nil d =>
    intro st
    rw [callN_22]
    exact ev_body (rt_ret (ev_ifE (b := true) (ev_is (ev_bin (ev_var rfl) (fun s _ => ev_tup ev_nil (Nat.zero_le _)) fun s _ => path_empty [] s)) (fun _ s _ => ev_var rfl) fun z => by cases z))
  | @cons ds k e x p h t ih =>
    intro st
    rw [callN_22]
    refine ev_body (rt_ret (ev_ifE (b := false) (ev_is (ev_bin (ev_var rfl) (fun s _ => ev_tup ev_nil (Nat.zero_le _)) fun s _ => path_empty (k :: p) s)) (fun z => by cases z) fun _ s _ => ?_))
    refine ev_call (xs := [e, encP p]) (ev_cons (ev_bin (ev_var (i := 0) (d := .tup ds) rfl) (fun s _ => ev_bin (y := .int 0) (ev_var (i := 1) (d := encP (k :: p)) rfl) (fun s _ => ev_c) fun s _ => ix0 _ _ s) fun s _ => ix_tup h s) fun s _ => ev_cons (ev_sl (h := dSl) (ev_var (i := 1) (d := encP (k :: p)) rfl) (fun s _ => ev_part ev_c) (fun s _ => ev_noPart) fun s _ => ?_) fun _ _ => ev_nil) rfl fun s _ => ?_
    · show some (D.tup (cut _ (some 1) none)) = _
      rw [path_tail]
      rfl
    · exact ih s
theorem cutK (ds : List D) (k : Nat) : cut ds (some (k : Int)) none = ds.drop k := by
  unfold cut
  rw [HT.sIx_none, HT.sIx_nat]
  rcases Nat.le_total k ds.length with h | h
  · rw [Nat.min_eq_left h]
    exact List.take_of_length_le (by rw [List.length_drop]; exact Nat.le_refl _)
  · rw [Nat.min_eq_right h, List.drop_length, List.drop_of_length_le h, List.take_nil]
theorem c_law_put (n : Nat) {d x y : D} {p : List Nat} (t : Pt d p x) : ∀ st, wD d ≤ 100000 → Ev (callN (n + p.length + 3) 23 [d, encP p, y] st) st (putP d p y) := by
  induction t with
  | @nil d =>
    intro st hw
    rw [callN_23]
    exact ev_body (rt_ret (ev_ifE (b := true) (ev_is (ev_bin (ev_var rfl) (fun s _ => ev_tup ev_nil (Nat.zero_le _)) fun s _ => path_empty [] s)) (fun _ s _ => ev_var rfl) fun z => by cases z))
  | @cons ds k e x p h t ih =>
    intro st hw
    rw [callN_23]
    have h2 : wD (.tup ds) = 1 + wDs ds := rfl
    have hl := wD_len ds
    have hew := wd_mem (pt_mem h)
    have key : ∀ s2, Ev (eBin (pr2 dIx) (eVar 1) (eC (.int 0)) [some (.tup ds), some (encP (k :: p)), some y] s2) s2 (.int (k : Nat)) := fun s2 => ev_bin (y := .int 0) (ev_var (i := 1) (d := encP (k :: p)) rfl) (fun s _ => ev_c) fun s _ => ix0 _ _ s
    refine ev_body (rt_ret (ev_ifE (b := false) (ev_is (ev_bin (ev_var rfl) (fun s _ => ev_tup ev_nil (Nat.zero_le _)) fun s _ => path_empty (k :: p) s)) (fun z => by cases z) fun _ s _ => ?_))
    have hp : putP (.tup ds) (k :: p) y = .tup ((ds.take k ++ [putP e p y]) ++ ds.drop (k + 1)) := by
      show D.tup (ds.take k ++ [putP (ds.getD k .non) p y] ++ ds.drop (k + 1)) = _
      rw [get_getD h]
    rw [hp]
    refine ev_bin (x := .tup (ds.take k ++ [putP e p y])) (y := .tup (ds.drop (k + 1))) (ev_bin (x := .tup (ds.take k)) (y := .tup [putP e p y]) (ev_sl (h := dSl) (ev_var (i := 0) (d := .tup ds) rfl) (fun s _ => ev_noPart) (fun s _ => ev_part (key s)) fun s _ => ?_) (fun s _ => ev_tup (ev_cons (ev_call (xs := [e, encP p, y]) (ev_cons (ev_bin (ev_var (i := 0) (d := .tup ds) rfl) (fun s _ => key s) fun s _ => ix_tup h s) fun s _ => ev_cons (ev_sl (h := dSl) (ev_var (i := 1) (d := encP (k :: p)) rfl) (fun s _ => ev_part ev_c) (fun s _ => ev_noPart) fun s _ => ?_) fun _ _ => ev_cons (ev_var rfl) fun _ _ => ev_nil) rfl fun s _ => ih s (by omega)) fun _ _ => ev_nil) (by rw [sizeLine_eq]; show (1 : Nat) ≤ _; omega)) fun s _ => add_tup ?_ s) (fun s _ => ev_sl (h := dSl) (ev_var (i := 0) (d := .tup ds) rfl) (fun s _ => ev_part (i := ((k + 1 : Nat) : Int)) (ev_bin (key s) (fun s _ => ev_c) fun s _ => rfl)) (fun s _ => ev_noPart) fun s _ => ?_) fun s _ => add_tup ?_ s
    · show some (D.tup (cut ds none (some ((k : Nat) : Int)))) = _
      rw [cut0]
    · show some (D.tup (cut _ (some 1) none)) = _
      rw [path_tail]
      rfl
    · rw [sizeLine_eq, List.length_take]
      simp only [List.length_cons, List.length_nil]
      omega
    · show some (D.tup (cut ds (some ((k + 1 : Nat) : Int)) none)) = _
      rw [cutK]
    · rw [sizeLine_eq, List.length_append, List.length_take, List.length_drop]
      simp only [List.length_cons, List.length_nil]
      omega
end Tk
/-! P28: plain facts for what is bent. -/
namespace Tk
open PySem L2 Tl
theorem mapIdx_const {α β : Type} (g : α → β) : ∀ l : List α, l.mapIdx (fun _ c => g c) = l.map g
  | [] => rfl
  | a :: l => by
    rw [List.mapIdx_cons, List.map_cons, mapIdx_const g l]
theorem upper_toList (x : Str) : (Txt.upper x).cps.toList = x.cps.toList.flatMap Unicode.upperOf := by
  show (Array.flatten (x.cps.mapIdx fun i c => (Unicode.upperOf c).toArray)).toList = _
  rw [Array.toList_flatten, Array.toList_mapIdx, mapIdx_const, List.map_map, List.flatMap_def]
  congr 1
theorem upper_low : ∀ c : Fin 128, ((Unicode.upperOf c.val).length == 1 && (Unicode.upperOf c.val).all (· < 128)) = true := by decide +kernel
theorem sm_list {n : Nat} {x : Str} : smS n x = true ↔ x.cps.toList.length ≤ n ∧ ∀ c ∈ x.cps.toList, c < 128 := by
  unfold smS
  rw [Bool.and_eq_true, decide_eq_true_eq, Array.all_eq_true']
  show x.cps.size ≤ n ∧ _ ↔ _
  rw [Array.length_toList]
  simp
theorem upper_sm {n : Nat} {x : Str} (h : smS n x = true) : smS n (Txt.upper x) = true := by
  rw [sm_list] at h ⊢
  rw [upper_toList]
  obtain ⟨h1, h2⟩ := h
  have key : ∀ l : List Nat, (∀ c ∈ l, c < 128) → (l.flatMap Unicode.upperOf).length = l.length ∧ ∀ c ∈ l.flatMap Unicode.upperOf, c < 128 := fun l => by
    induction l with
    | nil => exact fun _ => ⟨rfl, fun c hc => by cases hc⟩
    | cons c l ih =>
      intro h
      have hc := upper_low ⟨c, h c (by simp)⟩
      rw [Bool.and_eq_true, beq_iff_eq, List.all_eq_true] at hc
      obtain ⟨i1, i2⟩ := ih fun c hc => h c (by simp [hc])
      rw [List.flatMap_cons]
      refine ⟨by rw [List.length_append, i1, List.length_cons]; have := hc.1; simp only at this; omega, fun z hz => ?_⟩
      rcases List.mem_append.mp hz with q | q
      · simpa using hc.2 z q
      · exact i2 z q
  obtain ⟨k1, k2⟩ := key _ h2
  exact ⟨by omega, k2⟩
theorem cutS_sm {n : Nat} {x : Str} (lo hi : Option Int) (h : smS n x = true) : smS n (cutS x lo hi) = true := by
  rw [sm_list] at h ⊢
  unfold cutS
  simp only [List.toList_toArray] at *
  refine ⟨?_, fun c hc => h.2 c (List.mem_of_mem_drop (List.mem_of_mem_take hc))⟩
  rw [List.length_take, List.length_drop]
  omega
theorem app_sm {n : Nat} {x : Str} (h : smS n x = true) : smS (n + 1) (x ++ "a") = true := by
  rw [sm_list] at h ⊢
  have e : (x ++ "a" : Str).cps.toList = x.cps.toList ++ [97] := by
    show (x.cps ++ (Str.ofString "a").cps).toList = _
    rw [Array.toList_append]
    congr 1
  rw [e]
  refine ⟨by rw [List.length_append]; simp only [List.length_cons, List.length_nil]; omega, fun c hc => ?_⟩
  rcases List.mem_append.mp hc with z | z
  · exact h.2 c z
  · rw [List.mem_singleton] at z
    omega
theorem num_small : ∀ i : Fin 2001, smS 5 (toString ((i.val : Int) - 1000)) = true := by decide +kernel
theorem num_sm {i : Int} (h : i.natAbs ≤ 1000) : smS 5 (toString i) = true := by
  have := num_small ⟨(i + 1000).toNat, by omega⟩
  have e : (((i + 1000).toNat : Nat) : Int) - 1000 = i := by omega
  simp only [e] at this
  exact this
/-- what a part may become -/
def OddOk (n : Nat) (x y : D) : Prop := Sd (n + 2) y ∧ wD y ≤ 2 * wD x + 2 ∧ dep y ≤ dep x + 1
theorem dep_pos (ds : List D) : 1 ≤ dep (.tup ds) := by
  show 1 ≤ PyData.depthAll (toPs ds) + 1
  omega
theorem odd_sub {n : Nat} {ds es : List D} (hx : Sd n (.tup ds)) (h : ∀ e ∈ es, e ∈ ds) (hw : wDs es ≤ 2 * wDs ds) : OddOk n (.tup ds) (.tup es) := by
  have h1 : wD (.tup es) = 1 + wDs es := rfl
  have h2 : wD (.tup ds) = 1 + wDs ds := rfl
  have hp := dep_pos ds
  have hd : dep (.tup es) ≤ (dep (.tup ds) - 1) + 1 := dep_tup_le fun e he => by
    have := dep_mem (h e he)
    omega
  exact ⟨.tup fun e he => (hx.sub e (h e he)).mono (by omega), by omega, by omega⟩
theorem odd_atom {n : Nat} {x y : D} (h : Sd (n + 2) y) (hw : wD y ≤ 2) (hd : dep y ≤ 1) : OddOk n x y := ⟨h, by omega, by omega⟩
theorem wDs_take (ds : List D) (k : Nat) : wDs (ds.take k) ≤ wDs ds := by
  have : wDs ds = wDs (ds.take k) + wDs (ds.drop k) := by
    conv => lhs; rw [← List.take_append_drop k ds]
    rw [wDs_append]
  omega
theorem wDs_split (ds : List D) (k : Nat) : wDs ds = wDs (ds.take k) + wDs (ds.drop k) := by
  conv => lhs; rw [← List.take_append_drop k ds]
  rw [wDs_append]
theorem wDs_rev : ∀ ds : List D, wDs ds.reverse = wDs ds
  | [] => rfl
  | x :: ds => by
    rw [List.reverse_cons, wDs_append, wDs_rev ds]
    show wDs ds + (wD x + 0) = wD x + wDs ds
    omega
theorem wDs_perm {xs ys : List D} (h : xs.Perm ys) : wDs xs = wDs ys := by
  induction h with
  | nil => rfl
  | cons x _ ih => show wD x + wDs _ = wD x + wDs _; rw [ih]
  | swap x y l => show wD _ + (wD _ + wDs l) = wD _ + (wD _ + wDs l); omega
  | trans _ _ a b => exact a.trans b
theorem cut_mem {ds : List D} {lo hi : Option Int} {d : D} (h : d ∈ cut ds lo hi) : d ∈ ds := List.mem_of_mem_drop (List.mem_of_mem_take h)
theorem cut_w (ds : List D) (lo hi : Option Int) : wDs (cut ds lo hi) ≤ wDs ds := by
  unfold cut
  have h1 := wDs_take (ds.drop (HT.sIx ds.length 0 lo)) (HT.sIx ds.length ds.length hi - HT.sIx ds.length 0 lo)
  have h2 := wDs_split ds (HT.sIx ds.length 0 lo)
  omega
theorem cut_len (ds : List D) (lo hi : Option Int) : (cut ds lo hi).length ≤ ds.length := by
  unfold cut
  rw [List.length_take, List.length_drop]
  omega
end Tk
/-! P29: _law_odd, _law_bent. -/
namespace Tk
open PySem L2 Tl
theorem dv_and {t u : Sv → List O → RR Bool} {ρ : Sv} {st : List O} {b : Bool} {c : Nat} (h1 : Ev (t ρ st) st b) (h2 : ∀ s, Gr st s → Dv (u ρ s) s c fun _ _ => True) : Dv (eAndT t u ρ st) st c fun v _ => v = true → b = true := Ev.dvb h1 fun s g => by
  cases b with
  | true =>
    rw [if_pos rfl]
    exact (h2 s g).mono (Nat.le_refl _) fun _ _ _ _ => rfl
  | false => exact (Dv.of (P := fun v _ => v = true → false = true) fun z => z).mono (Nat.zero_le _) fun _ _ z => z
theorem dv_andP {t u : Sv → List O → RR Bool} {ρ : Sv} {st : List O} {b : Bool} {c : Nat} {P : Prop} (h1 : Ev (t ρ st) st b) (h2 : b = true → ∀ s, Gr st s → Dv (u ρ s) s c fun v _ => v = true → P) : Dv (eAndT t u ρ st) st c fun v _ => v = true → b = true ∧ P := Ev.dvb h1 fun s g => by
  cases b with
  | true =>
    rw [if_pos rfl]
    exact (h2 rfl s g).mono (Nat.le_refl _) fun _ _ z q => ⟨rfl, z q⟩
  | false => exact (Dv.of (P := fun v _ => v = true → false = true ∧ P) fun z => (by cases z)).mono (Nat.zero_le _) fun _ _ z => z
abbrev E5 (x w : D) (a b : Option D) : Sv := [some (.loc 1), some x, some w, a, b]
theorem dv_take3 (n : Nat) {x w : D} {a b : Option D} (st : List O) : Dv (eIs (eBin (pr2 dGt) (eCall (callN (n + 5) 14) 2 (eCons (eVar 0) (eCons (eC (.int 3)) (eNil)))) (eC (.int 0))) (E5 x w a b) st) st 1 fun _ _ => True := by
  refine dv_is ?_
  refine Dv.bind (c := 1) (c' := 0) (P := fun (d : D) _ => ∃ v : Int, d = .int v) ?_ (fun d s ⟨v, e⟩ => ?_) (by omega)
  · refine dv_call (xs := [.loc 1, .int 3]) (ev_cons (ev_var rfl) fun _ _ => ev_cons ev_c fun _ _ => ev_nil) rfl fun s _ => ?_
    exact (c_take (n + 1) 3 s ⟨by omega, by omega⟩).mono (Nat.le_refl _) fun a s ⟨v, e, _⟩ => ⟨v, e⟩
  · rw [e]
    refine Ev.dvb (a := .int 0) ev_c fun s2 _ => ?_
    rw [show pr2 dGt s2 [.int v, .int 0] = some (.bl (decide (0 < v)), s2) from rfl]
    exact Dv.of ⟨_, rfl, trivial⟩
/-- pick of what was made -/
theorem dv_pick (n : Nat) {ρ : Sv} {st : List O} {f : Sv → List O → RR D} {xs : List D} {P : D → Prop} (h0 : ρ[0]? = some (some (.loc 1))) (h : ∀ s, Ev (f ρ s) s (.lst xs)) (hne : xs ≠ []) (hl : xs.length ≤ 1000000) (hp : ∀ y ∈ xs, P y) : Dv (eCall (callN (n + 5) 15) 2 (eCons (eVar 0) (eCons f (eNil))) ρ st) st 1 fun y _ => P y :=
  dv_call (xs := [.loc 1, .lst xs]) (ev_cons (ev_var h0) fun s _ => ev_cons (h s) fun _ _ => ev_nil) rfl fun s _ => (c_pick n xs s hne hl).mono (Nat.le_refl _) fun a _ z => hp a z.1
theorem odd_tup (n m : Nat) {ds : List D} {w : D} (hx : Sd m (.tup ds)) (hw : wD (.tup ds) ≤ 100000) (st : List O) :
    Dr ((sSeq (sAsg (eCall (callN (n + 5) 14) 2 (eCons (eVar 0) (eCons (eBin (pr2 dAdd) (ePr (pr1 dLen) (eCons (eVar 1) (eNil))) (eC (.int 1))) (eNil)))) (GT.nm 3)) (sSeq (sAsg (eFrz (eLim (eCons (eBin (pr2 dAdd) (eSl dSl (eVar 1) (eNoPart) (ePart (eVar 3))) (eSl dSl (eVar 1) (ePart (eBin (pr2 dAdd) (eVar 3) (eC (.int 1)))) (eNoPart))) (eCons (eBin (pr2 dAdd) (eBin (pr2 dAdd) (eSl dSl (eVar 1) (eNoPart) (ePart (eVar 3))) (eSl dSl (eVar 1) (ePart (eVar 3)) (ePart (eBin (pr2 dAdd) (eVar 3) (eC (.int 1)))))) (eSl dSl (eVar 1) (ePart (eVar 3)) (eNoPart))) (eCons (eRev (eVar 1)) (eCons (eFrz (ePL pTuple (eCons (eVar 1) (eNil)))) (eCons (eBin (pr2 dAdd) (eVar 1) (eTup (eCons (eC .non) (eNil)))) (eCons (eTup (eNil)) (eNil))))))))) (GT.nm 4)) (sRet (eCall (callN (n + 5) 15) 2 (eCons (eVar 0) (eCons (eVar 4) (eNil))))))) (E5 (.tup ds) w none none) st) st 2 fun y _ => OddOk m (.tup ds) y := by
  have h2 : wD (.tup ds) = 1 + wDs ds := rfl
  have hl := wD_len ds
  refine dr_seq (c := 1) (c' := 1) (P := fun ρ _ => ∃ k : Nat, ρ = E5 (.tup ds) w (some (.int (k : Int))) none) ?_ (fun ρ s ⟨k, e⟩ => ?_) (by omega)
  · refine (dn_asg (c := 1) (P := fun d _ => ∃ k : Nat, d = .int (k : Int)) ?_ (fun d => E5 (.tup ds) w (some d) none) fun d => rfl).mono (Nat.le_refl _) fun ρ s ⟨d, e, k, hk⟩ => ⟨k, by rw [e, hk]⟩
    refine dv_call (xs := [.loc 1, .int ((ds.length : Nat) + 1)]) (ev_cons (ev_var rfl) fun _ _ => ev_cons (ev_bin (ev_lenT (ev_var (i := 1) (d := .tup ds) rfl)) (fun s _ => ev_c) fun s _ => rfl) fun _ _ => ev_nil) rfl fun s _ => ?_
    exact (c_take (n + 1) ((ds.length : Nat) + 1) s ⟨by omega, by omega⟩).mono (Nat.le_refl _) fun a s ⟨v, e, hv, _⟩ => ⟨v.toNat, by rw [e, Int.toNat_of_nonneg hv.1]⟩
  · rw [e]
    have sl : ∀ {lo hi : Sv → List O → RR (Option Int)} {a b : Option Int} {y : Option D} (s : List O), (∀ s, Ev (lo (E5 (.tup ds) w y none) s) s a) → (∀ s, Ev (hi (E5 (.tup ds) w y none) s) s b) → Ev (eSl dSl (eVar 1) lo hi (E5 (.tup ds) w y none) s) s (.tup (cut ds a b)) := fun s ha hb => ev_sl (h := dSl) (ev_var (i := 1) (d := .tup ds) rfl) (fun s _ => ha s) (fun s _ => hb s) fun s _ => rfl
    have pk : ∀ s, Ev (ePart (eVar 3) (E5 (.tup ds) w (some (.int (k : Int))) none) s) s (some ((k : Nat) : Int)) := fun s => ev_part (ev_var rfl)
    have pk1 : ∀ s, Ev (ePart (eBin (pr2 dAdd) (eVar 3) (eC (.int 1))) (E5 (.tup ds) w (some (.int (k : Int))) none) s) s (some (((k + 1 : Nat) : Nat) : Int)) := fun s => ev_part (ev_bin (ev_var rfl) (fun s _ => ev_c) fun s _ => rfl)
    have hcl := cut_len ds
    have bnd : ∀ {xs ys : List D}, xs.length ≤ 300000 → ys.length ≤ 300000 → xs.length + ys.length ≤ sizeLine := fun h1 h2 => by
      rw [sizeLine_eq]
      omega
    refine dr_seq (c := 0) (c' := 1) (Nx.dn (nx_asg (d := .lst [.tup (cut ds none (some (k : Int)) ++ cut ds (some ((k + 1 : Nat) : Int)) none), .tup (cut ds none (some (k : Int)) ++ cut ds (some (k : Int)) (some ((k + 1 : Nat) : Int)) ++ cut ds (some (k : Int)) none), .tup ds.reverse, .lst ds, .tup (ds ++ [.non]), .tup []]) (ρ' := E5 (.tup ds) w (some (.int (k : Int))) (some (.lst [.tup (cut ds none (some (k : Int)) ++ cut ds (some ((k + 1 : Nat) : Int)) none), .tup (cut ds none (some (k : Int)) ++ cut ds (some (k : Int)) (some ((k + 1 : Nat) : Int)) ++ cut ds (some (k : Int)) none), .tup ds.reverse, .lst ds, .tup (ds ++ [.non]), .tup []]))) (ev_frz (ev_lim (ev_cons ?_ fun _ _ => ev_cons ?_ fun _ _ => ev_cons ?_ fun _ _ => ev_cons ?_ fun _ _ => ev_cons ?_ fun _ _ => ev_cons (ev_tup ev_nil (Nat.zero_le _)) fun _ _ => ev_nil) (by rw [sizeLine_eq]; show (6 : Nat) ≤ _; omega))) rfl)) (fun ρ s ⟨e, _⟩ => ?_) (by omega)
    · exact ev_bin (sl _ (fun s => ev_noPart) pk) (fun s _ => sl s pk1 fun s => ev_noPart) fun s _ => add_tup (bnd (by have := hcl none (some (k : Int)); omega) (by have := hcl (some ((k + 1 : Nat) : Int)) none; omega)) s
    · refine ev_bin (ev_bin (sl _ (fun s => ev_noPart) pk) (fun s _ => sl s pk pk1) fun s _ => add_tup (bnd (by have := hcl none (some (k : Int)); omega) (by have := hcl (some (k : Int)) (some ((k + 1 : Nat) : Int)); omega)) s) (fun s _ => sl s pk fun s => ev_noPart) fun s _ => add_tup (bnd ?_ (by have := hcl (some (k : Int)) none; omega)) s
      rw [List.length_append]
      have h3 := hcl none (some (k : Int))
      have h4 := hcl (some (k : Int)) (some ((k + 1 : Nat) : Int))
      omega
    · exact (ev_var (i := 1) (d := .tup ds) rfl).bind fun s _ => Ev.of
    · exact ev_frz (ev_plT (ev_var (i := 1) (d := .tup ds) rfl) fun _ => rfl)
    · exact ev_bin (ev_var (i := 1) (d := .tup ds) rfl) (fun s _ => ev_tup (ev_cons ev_c fun _ _ => ev_nil) (by rw [sizeLine_eq]; show (1 : Nat) ≤ _; omega)) fun s _ => add_tup (bnd (by omega) (by show (1 : Nat) ≤ _; omega)) s
    · rw [e]
      refine dr_ret (dv_pick n rfl (fun s => ev_var (i := 4) rfl) (by intro z; cases z) (by show (6 : Nat) ≤ _; omega) fun y hy => ?_)
      simp only [List.mem_cons, List.not_mem_nil, or_false] at hy
      rcases hy with z | z | z | z | z | z <;> rw [z]
      · refine odd_sub hx (fun e he => ?_) ?_
        · rcases List.mem_append.mp he with q | q <;> exact cut_mem q
        · rw [wDs_append]
          have h3 := cut_w ds none (some (k : Int))
          have h4 := cut_w ds (some ((k + 1 : Nat) : Int)) none
          omega
      · refine odd_sub hx (fun e he => ?_) ?_
        · rcases List.mem_append.mp he with q | q
          · rcases List.mem_append.mp q with q | q <;> exact cut_mem q
          · exact cut_mem q
        · rw [wDs_append, wDs_append, cut0, cutK]
          have h3 := wDs_split ds k
          have h4 := cut_w ds (some (k : Int)) (some ((k + 1 : Nat) : Int))
          omega
      · exact odd_sub hx (fun e he => by simpa using he) (by rw [wDs_rev]; omega)
      · refine ⟨.oth rfl rfl (fun i z => by cases z), ?_, ?_⟩
        · show (1 : Nat) ≤ _
          omega
        · show dep (.tup ds) ≤ _
          omega
      · have h3 : wD (.tup (ds ++ [.non])) = 1 + wDs (ds ++ [.non]) := rfl
        rw [wDs_append] at h3
        have h4 : wDs [D.non] = 1 := rfl
        have hp := dep_pos ds
        have hd : dep (.tup (ds ++ [.non])) ≤ (dep (.tup ds) - 1) + 1 := dep_tup_le fun e he => by
          rcases List.mem_append.mp he with q | q
          · have := dep_mem q
            omega
          · rw [List.mem_singleton] at q
            rw [q]
            exact Nat.zero_le _
        refine ⟨.tup fun e he => ?_, by omega, by omega⟩
        rcases List.mem_append.mp he with q | q
        · exact (hx.sub e q).mono (by omega)
        · rw [List.mem_singleton] at q
          rw [q]
          exact .oth rfl rfl fun i z => by cases z
      · exact odd_sub hx (fun e he => by cases he) (Nat.zero_le _)
end Tk
/-! P30: _law_odd and _law_bent whole. -/
namespace Tk
open PySem L2 Tl
theorem sm_lit {n : Nat} (h : 10 ≤ n) : ∀ x ∈ (["a b", "a1", "abcdefghi", "", "a", "yes"] : List Str), smS n x = true := fun x hx => by
  have : ∀ y ∈ (["a b", "a1", "abcdefghi", "", "a", "yes"] : List Str), smS 10 y = true := by decide +kernel
  exact smS_mono (this x hx) h
theorem odd_str (n m : Nat) (hm : 10 ≤ m) {x : Str} {ws : List D} (hx : smS m x = true) (hmm : m ≤ 900) (hws : ∀ w ∈ ws, smD 10 w = true) (hwl : ws.length ≤ 10) (st : List O) :
    Dv (eCall (callN (n + 5) 15) 2 (eCons (eVar 0) (eCons (eBin (pr2 dAdd) (eVar 2) (eFrz (eLim (eCons (eBin (pr2 dAdd) (eVar 1) (eC (.str "a"))) (eCons (eSl dSl (eVar 1) (eNoPart) (ePart (eC (.int (-1))))) (eCons (eMt0 "str" mUpper (eVar 1)) (eCons (eTup (eCons (eVar 1) (eNil))) (eCons (eC (.str "a b")) (eCons (eC (.str "a1")) (eCons (eC (.str "abcdefghi")) (eCons (eC (.str "")) (eNil)))))))))))) (eNil))) (E5 (.str x) (.lst ws) none none) st) st 1 fun y _ => OddOk m (.str x) y := by
  have hxl : x.length ≤ m := by
    unfold smS at hx
    rw [Bool.and_eq_true, decide_eq_true_eq] at hx
    exact hx.1
  refine dv_pick n (xs := ws ++ [.str (x ++ "a"), .str (cutS x none (some (-1))), .str (Txt.upper x), .tup [.str x], .str "a b", .str "a1", .str "abcdefghi", .str ""]) rfl (fun s => ?_) (by simp) (by rw [List.length_append]; simp only [List.length_cons, List.length_nil]; omega) fun y hy => ?_
  · refine ev_bin (x := .lst ws) (ev_var rfl) (fun s _ => ev_frz (ev_lim (ev_cons ?_ fun _ _ => ev_cons ?_ fun _ _ => ev_cons ?_ fun _ _ => ev_cons (ev_tup (ev_cons (ev_var rfl) fun _ _ => ev_nil) (by rw [sizeLine_eq]; show (1 : Nat) ≤ _; omega)) fun _ _ => ev_cons ev_c fun _ _ => ev_cons ev_c fun _ _ => ev_cons ev_c fun _ _ => ev_cons ev_c fun _ _ => ev_nil) (by rw [sizeLine_eq]; show (8 : Nat) ≤ _; omega))) fun s _ => add_lst (by rw [sizeLine_eq]; simp only [List.length_cons, List.length_nil]; omega) s
    · exact ev_bin (ev_var rfl) (fun s _ => ev_c) fun s _ => add_str (by rw [sizeLine_eq]; have : ("a" : Str).length = 1 := rfl; omega) s
    · refine ev_sl (h := dSl) (ev_var (i := 1) (d := .str x) rfl) (fun s _ => ev_noPart) (fun s _ => ev_part ev_c) fun s _ => ?_
      show (if x.length ≤ sizeLine then some (D.str (cutS x none (some (-1)))) else none) = _
      rw [if_pos (by rw [sizeLine_eq]; omega)]
    · refine (ev_var (i := 1) (d := .str x) rfl).bind fun s _ => Ev.mk ?_
      have : mUpper s [.str x] = some (.str (Txt.upper x), s) := by
        show (if x.length ≤ 5592405 then some (D.str (Txt.upper x), s) else none) = _
        rw [if_pos (by omega)]
      show (if tyIs "str" s (.str x) = true then liftP (mUpper s [.str x]) else .err) = _
      rw [if_pos (by rfl), this]
      rfl
  · have lit := fun z hz => sm_lit (n := m + 2) (by omega) z hz
    rcases List.mem_append.mp hy with z | z
    · obtain ⟨w, rfl, hw⟩ := sm_str (hws y z)
      exact odd_atom (.str (smS_mono hw (by omega))) (by show (1 : Nat) ≤ _; omega) (Nat.zero_le _)
    · simp only [List.mem_cons, List.not_mem_nil, or_false] at z
      rcases z with z | z | z | z | z | z | z | z <;> rw [z]
      · exact odd_atom (.str (smS_mono (app_sm hx) (by omega))) (by show (1 : Nat) ≤ _; omega) (Nat.zero_le _)
      · exact odd_atom (.str (smS_mono (cutS_sm _ _ hx) (by omega))) (by show (1 : Nat) ≤ _; omega) (Nat.zero_le _)
      · exact odd_atom (.str (smS_mono (upper_sm hx) (by omega))) (by show (1 : Nat) ≤ _; omega) (Nat.zero_le _)
      · refine odd_atom (.tup fun d hd => ?_) (by show (2 : Nat) ≤ _; omega) (Nat.le_refl 1)
        rw [List.mem_singleton] at hd
        rw [hd]
        exact .str (smS_mono hx (by omega))
      · exact odd_atom (.str (lit _ (by simp))) (by show (1 : Nat) ≤ _; omega) (Nat.zero_le _)
      · exact odd_atom (.str (lit _ (by simp))) (by show (1 : Nat) ≤ _; omega) (Nat.zero_le _)
      · exact odd_atom (.str (lit _ (by simp))) (by show (1 : Nat) ≤ _; omega) (Nat.zero_le _)
      · exact odd_atom (.str (lit _ (by simp))) (by show (1 : Nat) ≤ _; omega) (Nat.zero_le _)
theorem odd_int (n m : Nat) (hm : 310 ≤ m) {i : Int} {w : D} (hx : i.natAbs ≤ m) (hmm : m ≤ 900) (st : List O) :
    Dv (eCall (callN (n + 5) 15) 2 (eCons (eVar 0) (eCons (eFrz (eLim (eCons (eBin (pr2 dAdd) (eVar 1) (eC (.int 1))) (eCons (eBin (pr2 dSub) (eVar 1) (eC (.int 1))) (eCons (eC (.int 0)) (eCons (eC (.int 1)) (eCons (eC (.int 2)) (eCons (eC (.int 3)) (eCons (eC (.int 7)) (eCons (eC (.int 300)) (eCons (eC (.int 301)) (eCons (eC (.int (-1))) (eCons (eC (.bl true)) (eCons (eC (.bl false)) (eCons (ePr (pr1 dStr) (eCons (eVar 1) (eNil))) (eCons (eTup (eCons (eVar 1) (eNil))) (eNil))))))))))))))))) (eNil))) (E5 (.int i) w none none) st) st 1 fun y _ => OddOk m (.int i) y := by
  refine dv_pick n (xs := [.int (i + 1), .int (i - 1), .int 0, .int 1, .int 2, .int 3, .int 7, .int 300, .int 301, .int (-1), .bl true, .bl false, .str (toString i), .tup [.int i]]) rfl (fun s => ?_) (by simp) (by show (14 : Nat) ≤ _; omega) fun y hy => ?_
  · refine ev_frz (ev_lim (ev_cons (ev_bin (ev_var rfl) (fun s _ => ev_c) fun s _ => rfl) fun _ _ => ev_cons (ev_bin (ev_var rfl) (fun s _ => ev_c) fun s _ => rfl) fun _ _ => ev_cons ev_c fun _ _ => ev_cons ev_c fun _ _ => ev_cons ev_c fun _ _ => ev_cons ev_c fun _ _ => ev_cons ev_c fun _ _ => ev_cons ev_c fun _ _ => ev_cons ev_c fun _ _ => ev_cons ev_c fun _ _ => ev_cons ev_c fun _ _ => ev_cons ev_c fun _ _ => ev_cons (ev_pr (ev_cons (ev_var rfl) fun _ _ => ev_nil) fun s _ => ?_) fun _ _ => ev_cons (ev_tup (ev_cons (ev_var rfl) fun _ _ => ev_nil) (by rw [sizeLine_eq]; show (1 : Nat) ≤ _; omega)) fun _ _ => ev_nil) (by rw [sizeLine_eq]; show (14 : Nat) ≤ _; omega))
    show (if i.natAbs.log2 < 1920 then some (D.str (toString i)) else none).map _ = _
    rw [if_pos (by have := Nat.log2_le_self i.natAbs; omega)]
    rfl
  · simp only [List.mem_cons, List.not_mem_nil, or_false] at hy
    have w1 : (1 : Nat) ≤ 2 := by omega
    rcases hy with z | z | z | z | z | z | z | z | z | z | z | z | z | z <;> rw [z]
    · exact odd_atom (.int (by omega)) w1 (Nat.zero_le _)
    · exact odd_atom (.int (by omega)) w1 (Nat.zero_le _)
    · exact odd_atom (.int (by omega)) w1 (Nat.zero_le _)
    · exact odd_atom (.int (by omega)) w1 (Nat.zero_le _)
    · exact odd_atom (.int (by omega)) w1 (Nat.zero_le _)
    · exact odd_atom (.int (by omega)) w1 (Nat.zero_le _)
    · exact odd_atom (.int (by omega)) w1 (Nat.zero_le _)
    · exact odd_atom (.int (by omega)) w1 (Nat.zero_le _)
    · exact odd_atom (.int (by omega)) w1 (Nat.zero_le _)
    · exact odd_atom (.int (by omega)) w1 (Nat.zero_le _)
    · exact odd_atom (.oth rfl rfl fun i z => by cases z) w1 (Nat.zero_le _)
    · exact odd_atom (.oth rfl rfl fun i z => by cases z) w1 (Nat.zero_le _)
    · exact odd_atom (.str (smS_mono (num_sm (by omega)) (by omega))) w1 (Nat.zero_le _)
    · refine odd_atom (.tup fun d hd => ?_) (by show (2 : Nat) ≤ _; omega) (Nat.le_refl 1)
      rw [List.mem_singleton] at hd
      rw [hd]
      exact .int (by omega)
def othItems (L : Nat) : List D := [.non, .int 0, .int 5, .bl true, .str "a", .str "", .tup [], .lst [], .loc L, .tup [.str "a"], .tup [.str "yes"], .int (-1)]
theorem odd_oth (n m : Nat) (hm : 310 ≤ m) {x w : D} (st : List O) :
    Dv (eCall (callN (n + 5) 15) 2 (eCons (eVar 0) (eCons (eFrz (eLim (eCons (eC .non) (eCons (eC (.int 0)) (eCons (eC (.int 5)) (eCons (eC (.bl true)) (eCons (eC (.str "a")) (eCons (eC (.str "")) (eCons (eTup (eNil)) (eCons (eFrz (eLim (eNil))) (eCons (eDict0) (eCons (eTup (eCons (eC (.str "a")) (eNil))) (eCons (eTup (eCons (eC (.str "yes")) (eNil))) (eCons (eC (.int (-1))) (eNil))))))))))))))) (eNil))) (E5 x w none none) st) st 1 fun y _ => OddOk m x y := by
  refine dv_callP (c := 0) (c' := 1) (R := fun xs _ => ∃ L, xs = [.loc 1, .lst (othItems L)]) (fun b _ hs => ?_) (fun xs s ⟨L, e⟩ => ⟨by rw [e]; rfl, ?_⟩) (by omega)
  · refine ⟨[.loc 1, .lst (othItems st.length)], st ++ [.dic []], ?_, hs.gr (Gr.one _), st.length, rfl⟩
    rfl
  · rw [e]
    refine (c_pick n (othItems L) s (by intro z; cases z) (by show (12 : Nat) ≤ _; omega)).mono (Nat.le_refl _) fun y _ hy => ?_
    have hy := hy.1
    unfold othItems at hy
    simp only [List.mem_cons, List.not_mem_nil, or_false] at hy
    have w1 : (1 : Nat) ≤ 2 := by omega
    have lit := fun z hz => sm_lit (n := m + 2) (by omega) z hz
    rcases hy with z | z | z | z | z | z | z | z | z | z | z | z <;> rw [z]
    · exact odd_atom (.oth rfl rfl fun i z => by cases z) w1 (Nat.zero_le _)
    · exact odd_atom (.int (by omega)) w1 (Nat.zero_le _)
    · exact odd_atom (.int (by omega)) w1 (Nat.zero_le _)
    · exact odd_atom (.oth rfl rfl fun i z => by cases z) w1 (Nat.zero_le _)
    · exact odd_atom (.str (lit _ (by simp))) w1 (Nat.zero_le _)
    · exact odd_atom (.str (lit _ (by simp))) w1 (Nat.zero_le _)
    · exact odd_atom (.tup fun d hd => by cases hd) w1 (Nat.le_refl 1)
    · exact odd_atom (.oth rfl rfl fun i z => by cases z) w1 (Nat.le_refl 1)
    · exact odd_atom (.oth rfl rfl fun i z => by cases z) w1 (by first | exact Nat.zero_le _ | exact Nat.le_refl 1 | (simp [dep, toP, PyData.depth]))
    · refine odd_atom (.tup fun d hd => ?_) (Nat.le_refl 2) (Nat.le_refl 1)
      rw [List.mem_singleton] at hd
      rw [hd]
      exact .str (lit _ (by simp))
    · refine odd_atom (.tup fun d hd => ?_) (Nat.le_refl 2) (Nat.le_refl 1)
      rw [List.mem_singleton] at hd
      rw [hd]
      exact .str (lit _ (by simp))
    · exact odd_atom (.int (by omega)) w1 (Nat.zero_le _)
theorem callN_24 (n : Nat) : callN (n + 3) 24 = bodyOf (f__law_odd (callN (n + 2))) 5 := rfl
theorem callN_25 (n : Nat) : callN (n + 3) 25 = bodyOf (f__law_bent (callN (n + 2))) 4 := rfl
theorem dr_guardT {t : Sv → List O → RR Bool} {ρ : Sv} {st : List O} {c c1 c2 C : Nat} {a k : Sm} {R : Prop} {Q : D → List O → Prop} (h : Dv (t ρ st) st c fun v _ => v = true → R) (q1 : R → ∀ s, Dr (a ρ s) s c1 Q) (q2 : ∀ s, Dr (k ρ s) s c2 Q) (hc : c + max c1 c2 ≤ C) : Dr (sSeq (sIf t a sNext) k ρ st) st C Q :=
  dr_guard (c' := max c1 c2) h (fun s r => (q1 (r rfl) s).mono (Nat.le_max_left _ _) fun _ _ z => z) (fun s _ => (q2 s).mono (Nat.le_max_right _ _) fun _ _ z => z) hc
theorem c_odd (n m : Nat) (hm : 310 ≤ m ∧ m ≤ 900) {x : D} {ws : List D} (hx : Sd m x) (hw : wD x ≤ 100000) (hws : ∀ w ∈ ws, smD 10 w = true) (hwl : ws.length ≤ 10) (st : List O) : Dv (callN (n + 6) 24 [.loc 1, x, .lst ws] st) st 4 fun y _ => OddOk m x y := by
  rw [callN_24]
  refine dv_body ?_
  show Dr (f__law_odd (callN (n + 5)) (E5 x (.lst ws) none none) st) st 4 _
  refine dr_guardT (c := 1) (c1 := 2) (c2 := 3) (dv_and (b := isTup x) (ev_truB (ev_isi (ev_var rfl) fun s => kit_tuple s x)) fun s _ => dv_take3 n s) (fun hb s => ?_) (fun s => ?_) (by decide)
  · cases x with
    | tup ds => exact odd_tup n m hx hw s
    | _ => cases hb
  · refine dr_guardT (c := 1) (c1 := 1) (c2 := 2) (dv_and (b := isStr x) (ev_truB (ev_isi (ev_var rfl) fun s => kit_str s x)) fun s _ => dv_take3 n s) (fun hb s => ?_) (fun s => ?_) (by decide)
    · cases x with
      | str x => exact dr_ret (odd_str n m (by omega) hx.of_str hm.2 hws hwl s)
      | _ => cases hb
    · refine dr_guardT (c := 1) (c1 := 1) (c2 := 1) (dv_andP (b := isInt x) (P := (!isBl x) = true) (ev_truB (ev_isi (ev_var rfl) fun s => kit_int s x)) fun _ s _ => dv_and (b := !isBl x) (ev_not (ev_truB (ev_isi (ev_var rfl) fun s => kit_bool s x))) fun s _ => dv_take3 n s) (fun hb s => ?_) (fun s => ?_) (by decide)
      · cases x with
        | int i => exact dr_ret (odd_int n m hm.1 hx.of_int hm.2 s)
        | bl b => cases hb.2
        | _ => cases hb.1
      · exact dr_ret (odd_oth n m hm.1 s)
theorem c_bent (n m : Nat) (hm : 310 ≤ m ∧ m ≤ 900) {d : D} {ws : List D} (hx : Sd m d) (hw : wD d ≤ 100000) (hd : dep d ≤ 30) (hws : ∀ w ∈ ws, smD 10 w = true) (hwl : ws.length ≤ 10) (st : List O) : Dv (callN (n + 40) 25 [.loc 1, d, .lst ws] st) st 5 fun y _ => OddOk m d y := by
  rw [callN_25]
  refine dv_body ?_
  show Dr (f__law_bent (callN (n + 39)) [some (.loc 1), some d, some (.lst ws), none] st) st 5 _
  refine dr_seq (c := 1) (c' := 4) (P := fun ρ _ => ∃ p x, ρ = [some (.loc 1), some d, some (.lst ws), some (encP p)] ∧ Pt d p x ∧ p.length ≤ 31) ?_ (fun ρ s ⟨p, x, e, t, hp⟩ => ?_) (by omega)
  · refine (dn_asg (c := 1) (P := fun y _ => ∃ p x, y = encP p ∧ Pt d p x ∧ p.length ≤ 31) ?_ (fun y => [some (.loc 1), some d, some (.lst ws), some y]) fun y => rfl).mono (Nat.le_refl _) fun ρ s ⟨y, e, p, x, e2, t, hp⟩ => ⟨p, x, by rw [e, e2], t, hp⟩
    refine dv_pick (n + 34) (xs := pathsA 31 d) rfl (fun s => ev_call (ev_cons (ev_var rfl) fun _ _ => ev_nil) rfl fun s _ => ?_) (by intro z; cases z) (by have := pathsA_len 31 d; omega) fun y hy => ?_
    · exact c_law_paths (n + 6) 30 d s hd (by omega) hw
    · obtain ⟨p, x, h1, h2, h3⟩ := pathsA_pt 31 d y hy
      exact ⟨p, x, h1, h2, h3⟩
  · rw [e]
    refine dr_ret (dv_callP (c := 4) (c' := 0) (R := fun xs _ => ∃ y, xs = [d, encP p, y] ∧ OddOk m x y) ?_ (fun xs s ⟨y, e, ho⟩ => ⟨by rw [e]; rfl, ?_⟩) (by omega))
    · refine Ev.dvb (a := d) (ev_var rfl) fun s _ => ?_
      refine Dv.bind (c := 4) (c' := 0) (P := fun xs _ => ∃ y, xs = [encP p, y] ∧ OddOk m x y) ?_ (fun xs s ⟨y, e, ho⟩ => Dv.of ⟨y, by rw [e], ho⟩) (by omega)
      refine Ev.dvb (a := encP p) (ev_var rfl) fun s _ => ?_
      refine Dv.bind (c := 4) (c' := 0) (P := fun xs _ => ∃ y, xs = [y] ∧ OddOk m x y) ?_ (fun xs s ⟨y, e, ho⟩ => Dv.of ⟨y, by rw [e], ho⟩) (by omega)
      refine Dv.bind (c := 4) (c' := 0) (P := fun y _ => OddOk m x y) ?_ (fun y s ho => Dv.of ⟨y, rfl, ho⟩) (by omega)
      refine dv_call (xs := [.loc 1, x, .lst ws]) (ev_cons (ev_var rfl) fun _ _ => ev_cons (ev_call (xs := [d, encP p]) (ev_cons (ev_var rfl) fun _ _ => ev_cons (ev_var rfl) fun _ _ => ev_nil) rfl fun s _ => ?_) fun _ _ => ev_cons (ev_var rfl) fun _ _ => ev_nil) rfl fun s _ => ?_
      · have := c_law_part (n + 36 - p.length) t s
        rw [show n + 36 - p.length + p.length + 3 = n + 39 by omega] at this
        exact this
      · exact c_odd (n + 33) m hm (pt_sd t hx) (Nat.le_trans (pt_w t) hw) hws hwl s
    · rw [e]
      have := c_law_put (n + 36 - p.length) (y := y) t s hw
      rw [show n + 36 - p.length + p.length + 3 = n + 39 by omega] at this
      refine this.dv.mono (Nat.le_refl _) fun z _ hz => ?_
      rw [hz.1]
      have h1 := put_w (y := y) t
      have h2 := pt_w t
      have h3 := ho.2.1
      exact ⟨put_sd ho.1 t (hx.mono (by omega)), by omega, put_dep t ho.2.2⟩
end Tk
/-! P31: weaves that are made right. -/
namespace Tk
open PySem L2 Tl
theorem letters_sub (ds : List D) : ∀ d ∈ lettersD ds, ∃ l, d = .tup l ∧ l.Sublist ds := by
  induction ds using snoc_ind with
  | h0 =>
    intro d hd
    have : d = .tup [] := by simpa [lettersD] using hd
    exact ⟨[], this, List.Sublist.refl _⟩
  | h1 ds d ih =>
    intro e he
    rw [letters_snoc] at he
    unfold stepL at he
    rcases List.mem_append.mp he with z | z
    · obtain ⟨l, h1, h2⟩ := ih e z
      exact ⟨l, h1, h2.trans (List.sublist_append_left _ _)⟩
    · obtain ⟨f, hf, rfl⟩ := List.mem_map.mp z
      obtain ⟨l, rfl, h2⟩ := ih f hf
      exact ⟨l ++ [d], rfl, h2.append (List.Sublist.refl _)⟩
theorem ScOk.rises {sc : List D} (h : ScOk sc) : risesD sc = true := by
  have := h.scope
  have e : isScope (.tup sc) = ((sc.all isName && risesD sc) && decide (((sc.length : Nat) : Int) ≤ 3)) := rfl
  rw [e, Bool.and_eq_true, Bool.and_eq_true] at this
  exact this.1.2
theorem in_self {sc : List D} (h : ∀ d ∈ sc, smD 4 d = true) {d : D} (hd : d ∈ sc) : inScope sc d = true := by
  obtain ⟨x, rfl, _⟩ := sm_str (h d hd)
  refine List.any_eq_true.mpr ⟨_, hd, ?_⟩
  show (x == x) = true
  exact beq_self_eq_true x
theorem letter_ok {sc : List D} (h : ScOk sc) : ∀ d ∈ lettersD sc, isLetter sc d = true ∧ Sd 10 d ∧ wD d ≤ 4 ∧ dep d ≤ 1 := by
  intro d hd
  obtain ⟨l, rfl, hl⟩ := letters_sub sc d hd
  have hm : ∀ e ∈ l, e ∈ sc := fun e he => hl.subset he
  have hlen := hl.length_le
  have cm : Cm sc := fun x hx y hy => str_cp (h.small x hx) (h.small y hy)
  have hr : risesD l = true := by
    rw [rises_keys fun x hx y hy => cm x (hm x hx) y (hm y hy)]
    exact ((rises_keys cm).mp h.rises).sublist (hl.map keyD)
  refine ⟨?_, .tup fun e he => ?_, ?_, dep_tup_le fun e he => ?_⟩
  · show ((l.all isName && risesD l) && l.all (inScope sc)) = true
    rw [hr, List.all_eq_true.mpr fun e he => List.all_eq_true.mp h.names e (hm e he), List.all_eq_true.mpr fun e he => in_self h.small (hm e he)]
    rfl
  · obtain ⟨x, rfl, hx⟩ := sm_str (h.small e (hm e he))
    exact .str (smS_mono hx (by omega))
  · have hw : ∀ l : List D, (∀ e ∈ l, smD 4 e = true) → wDs l = l.length := fun l => by
      induction l with
      | nil => exact fun _ => rfl
      | cons x l ih =>
        intro h
        obtain ⟨y, rfl, _⟩ := sm_str (h x (by simp))
        show 1 + wDs l = l.length + 1
        rw [ih fun e he => h e (by simp [he])]
        omega
    show 1 + wDs l ≤ 4
    rw [hw l fun e he => h.small e (hm e he)]
    have := h.len
    omega
  · obtain ⟨x, rfl, _⟩ := sm_str (h.small e (hm e he))
    exact Nat.zero_le _
structure WOk (sc : List D) (h : Nat) (d : D) : Prop where
  ok : ∀ k, h ≤ k → vOk sc k d = true ∧ mixA k d = true
  sd : Sd 10 d
  dp : dep d ≤ 2 * h
theorem WOk.up {sc : List D} {h h' : Nat} {d : D} (w : WOk sc h d) (k : h ≤ h') : WOk sc h' d := ⟨fun m hm => w.ok m (by omega), w.sd, by have := w.dp; omega⟩
theorem WOk.vl {sc : List D} {h : Nat} {d : D} (w : WOk sc h d) : Vl sc d := vOk_vl h d (w.ok h (Nat.le_refl _)).1
theorem tag_sd (t : Str) (h : t ∈ (["none", "letter", "then", "on", "back", "mix"] : List Str)) : Sd 10 (.str t) := by
  have : ∀ y ∈ (["none", "letter", "then", "on", "back", "mix"] : List Str), smS 10 y = true := by decide +kernel
  exact .str (this t h)
theorem w_none {sc : List D} : WOk sc 1 (.tup [.str "none"]) where
  ok := fun k hk => by
    obtain ⟨k, rfl⟩ : ∃ j, k = j + 1 := ⟨k - 1, by omega⟩
    have h1 : headsD (.tup [.str "none"]) = true := by decide +kernel
    have h2 : innerD (.tup [.str "none"]) = [] := by decide +kernel
    have h3 : tagD (.tup [.str "none"]) ≠ "letter" := by decide +kernel
    have h4 : tagD (.tup [.str "none"]) ≠ "mix" := by decide +kernel
    constructor
    · show (headsD _ && ((!decide (tagD _ = "letter") || _) && (innerD _).all (vOk sc k))) = true
      rw [h1, h2, decide_eq_false h3]
      rfl
    · show ((!decide (tagD _ = "mix") || _) && (innerD _).all (mixA k)) = true
      rw [h2, decide_eq_false h4]
      rfl
  sd := .tup fun d hd => by
    rw [List.mem_singleton] at hd
    rw [hd]
    exact tag_sd _ (by simp)
  dp := by show (1 : Nat) ≤ 2; omega
theorem w_letter {sc : List D} (h : ScOk sc) {y : D} (hy : y ∈ lettersD sc) : WOk sc 1 (.tup [.str "letter", y]) where
  ok := fun k hk => by
    obtain ⟨k, rfl⟩ : ∃ j, k = j + 1 := ⟨k - 1, by omega⟩
    have h1 : headsD (.tup [.str "letter", y]) = true := by
      show ((match sizeT "letter" with
        | none => false
        | some k => decide ((([y].length : Nat) : Int) + 1 = k)) && (!decide (("letter" : Str) = "mix") || mixOk [y])) = true
      rw [show sizeT "letter" = some 2 by decide +kernel, decide_eq_false (by decide)]
      rfl
    have h2 : innerD (.tup [.str "letter", y]) = [] := inner_letter rfl
    have h4 : (("letter" : Str) ≠ "mix") := by decide +kernel
    constructor
    · show (headsD _ && ((!decide (tagD _ = "letter") || isLetter sc y) && (innerD _).all (vOk sc k))) = true
      rw [h1, h2, (letter_ok h y hy).1]
      simp
    · show ((!decide (("letter" : Str) = "mix") || _) && (innerD _).all (mixA k)) = true
      rw [h2, decide_eq_false h4]
      rfl
  sd := .tup fun d hd => by
    simp only [List.mem_cons, List.not_mem_nil, or_false] at hd
    rcases hd with z | z <;> rw [z]
    · exact tag_sd _ (by simp)
    · exact (letter_ok h y hy).2.1
  dp := by
    refine dep_tup_le fun d hd => ?_
    simp only [List.mem_cons, List.not_mem_nil, or_false] at hd
    rcases hd with z | z <;> rw [z]
    · exact Nat.zero_le _
    · exact (letter_ok h y hy).2.2.2
/-- then, on, back -/
theorem w_plain {sc : List D} {h : Nat} {t : Str} {r : List D} (ht : (t = "then" ∧ r.length = 2) ∨ ((t = "on" ∨ t = "back") ∧ r.length = 1)) (hr : ∀ d ∈ r, WOk sc h d) : WOk sc (h + 1) (.tup (.str t :: r)) where
  ok := fun k hk => by
    obtain ⟨k, rfl⟩ : ∃ j, k = j + 1 := ⟨k - 1, by omega⟩
    have hm : t ≠ "mix" ∧ t ≠ "letter" ∧ t ≠ "none" := by
      rcases ht with ⟨rfl, _⟩ | ⟨rfl | rfl, _⟩ <;> decide +kernel
    have h1 : headsD (.tup (.str t :: r)) = true := by
      show ((match sizeT t with
        | none => false
        | some k => decide (((r.length : Nat) : Int) + 1 = k)) && (!decide (t = "mix") || mixOk r)) = true
      rw [decide_eq_false hm.1]
      rcases ht with ⟨rfl, hl⟩ | ⟨rfl | rfl, hl⟩
      · rw [show sizeT "then" = some 3 by decide +kernel, hl]
        rfl
      · rw [show sizeT "on" = some 2 by decide +kernel, hl]
        rfl
      · rw [show sizeT "back" = some 2 by decide +kernel, hl]
        rfl
    have h2 : innerD (.tup (.str t :: r)) = r := by
      rw [inner_eq, if_neg hm.1, if_neg (by simp [hm.2.1, hm.2.2])]
    constructor
    · show (headsD _ && ((!decide (t = "letter") || _) && (innerD _).all (vOk sc k))) = true
      rw [h1, h2, decide_eq_false hm.2.1, List.all_eq_true.mpr fun d hd => ((hr d hd).ok k (by omega)).1]
      rfl
    · show ((!decide (t = "mix") || _) && (innerD _).all (mixA k)) = true
      rw [h2, decide_eq_false hm.1, List.all_eq_true.mpr fun d hd => ((hr d hd).ok k (by omega)).2]
      rfl
  sd := .tup fun d hd => by
    rcases List.mem_cons.mp hd with z | z
    · rw [z]
      refine tag_sd _ ?_
      rcases ht with ⟨rfl, _⟩ | ⟨rfl | rfl, _⟩ <;> simp
    · exact (hr d z).sd
  dp := by
    refine Nat.le_trans (dep_tup_le (m := 2 * h) fun d hd => ?_) (by omega)
    rcases List.mem_cons.mp hd with z | z
    · rw [z]
      exact Nat.zero_le _
    · exact (hr d z).dp
theorem squash_acc : ∀ (r acc : List D), ∀ a ∈ acc, a ∈ squash acc r
  | [], acc, a, ha => ha
  | x :: r, acc, a, ha => by
    show a ∈ (if lastNe acc x = true then squash (acc ++ [x]) r else squash acc r)
    split
    · exact squash_acc r _ a (by simp [ha])
    · exact squash_acc r _ a ha
theorem once_ne {xs : List D} (h : xs ≠ []) : onceD xs ≠ [] := by
  unfold onceD
  have hl : (sortD xs).length = xs.length := List.length_mergeSort _
  cases e : sortD xs with
  | nil =>
    rw [e] at hl
    exact absurd (List.eq_nil_of_length_eq_zero hl.symm) h
  | cons x r =>
    intro z
    have : x ∈ squash [] (x :: r) := squash_acc r [x] x (by simp)
    rw [z] at this
    cases this
theorem squash_w : ∀ (r acc : List D), wDs (squash acc r) ≤ wDs acc + wDs r
  | [], acc => Nat.le_refl _
  | x :: r, acc => by
    show wDs (if lastNe acc x = true then squash (acc ++ [x]) r else squash acc r) ≤ wDs acc + (wD x + wDs r)
    split
    · have := squash_w r (acc ++ [x])
      rw [wDs_append] at this
      have e : wDs [x] = wD x := Nat.add_zero _
      omega
    · have := squash_w r acc
      omega
theorem once_w (xs : List D) : wDs (onceD xs) ≤ wDs xs := by
  have h1 := squash_w (sortD xs) []
  have h2 : wDs (sortD xs) = wDs xs := wDs_perm (List.mergeSort_perm _ _)
  have h3 : wDs ([] : List D) = 0 := rfl
  unfold onceD
  omega
theorem once_up {xs : List D} (hm : Cm xs) : risesD (onceD xs) = true := by
  have hs : ∀ a ∈ sortD xs, a ∈ xs := fun a ha => by
    unfold sortD at ha
    exact List.mem_mergeSort.mp ha
  obtain ⟨h1, h2⟩ := squash_key hm (sortD xs) [] (by simp) hs
  have e2 : (sortD xs).map keyD = (xs.map keyD).mergeSort leK := List.map_mergeSort fun a ha b hb => le_key (hm b hb a ha)
  rw [rises_keys (xs := onceD xs) fun x hx y hy => hm x (h2 x hx) y (h2 y hy)]
  rw [show (onceD xs).map keyD = _ from h1, e2]
  exact squash_up _ [] List.Pairwise.nil (List.pairwise_mergeSort leK_trans leK_total _) (by simp)
theorem w_cm {sc : List D} {h : Nat} {xs : List D} (hx : ∀ d ∈ xs, WOk sc h d) : Cm xs := fun x hx' y hy => ⟨vl_plain (hx x hx').vl, vl_plain (hx y hy).vl, vl_lt (hx x hx').vl y (hx y hy).vl⟩
theorem w_mix {sc : List D} {h : Nat} {xs : List D} (hne : xs ≠ []) (hx : ∀ d ∈ xs, WOk sc h d) : WOk sc (h + 1) (.tup [.str "mix", .tup (onceD xs)]) where
  ok := fun k hk => by
    obtain ⟨k, rfl⟩ : ∃ j, k = j + 1 := ⟨k - 1, by omega⟩
    have h1 : headsD (.tup [.str "mix", .tup (onceD xs)]) = true := by
      show ((match sizeT "mix" with
        | none => false
        | some k => decide ((([D.tup (onceD xs)].length : Nat) : Int) + 1 = k)) && (!decide (("mix" : Str) = "mix") || mixOk [.tup (onceD xs)])) = true
      rw [size_mix]
      cases e : onceD xs with
      | nil => exact absurd e (once_ne hne)
      | cons x r => rfl
    have h2 : innerD (.tup [.str "mix", .tup (onceD xs)]) = onceD xs := by
      rw [inner_eq, if_pos rfl]
    have h4 : (("mix" : Str) ≠ "letter") := by decide +kernel
    constructor
    · show (headsD _ && ((!decide (("mix" : Str) = "letter") || _) && (innerD _).all (vOk sc k))) = true
      rw [h1, h2, decide_eq_false h4, List.all_eq_true.mpr fun d hd => ((hx d (once_mem d hd)).ok k (by omega)).1]
      rfl
    · show ((_ || risesD (innerD _)) && (innerD _).all (mixA k)) = true
      rw [h2, once_up (w_cm hx), List.all_eq_true.mpr fun d hd => ((hx d (once_mem d hd)).ok k (by omega)).2]
      simp
  sd := .tup fun d hd => by
    simp only [List.mem_cons, List.not_mem_nil, or_false] at hd
    rcases hd with z | z <;> rw [z]
    · exact tag_sd _ (by simp)
    · exact .tup fun e he => (hx e (once_mem e he)).sd
  dp := by
    refine dep_tup_le fun d hd => ?_
    simp only [List.mem_cons, List.not_mem_nil, or_false] at hd
    rcases hd with z | z <;> rw [z]
    · exact Nat.zero_le _
    · exact dep_tup_le fun e he => (hx e (once_mem e he)).dp
end Tk
/-! P32: _law_weave. -/
namespace Tk
open PySem L2 Tl
def oneL (l : Int) : O := .lst [.int l]
def Wres (sc : List D) (L h : Nat) (l : Int) : D → List O → Prop := fun d s => ∃ l' : Int, l' ≤ l - 1 ∧ s[L]? = some (oneL l') ∧ WOk sc h d ∧ wD d ≤ 6 + 18 * ((l - 1).toNat - (l' - 1).toNat)
abbrev Ew (sc : List D) (L : Nat) (a b c e : Option D) : Sv := [some (.loc 1), some (.tup sc), some (.loc L), a, b, c, e]
theorem dv_ifE {t : Sv → List O → RR Bool} {f g : Sv → List O → RR D} {ρ : Sv} {st : List O} {c c' C : Nat} {P : Bool → List O → Prop} {Q : D → List O → Prop} (h : Dv (t ρ st) st c P) (h1 : ∀ s, P true s → Dv (f ρ s) s c' Q) (h2 : ∀ s, P false s → Dv (g ρ s) s c' Q) (hc : c + c' ≤ C) : Dv (eIfE t f g ρ st) st C Q := Dv.bind h (fun b s p => by
  cases b with
  | true =>
    rw [if_pos rfl]
    exact h1 s p
  | false =>
    rw [if_neg (by decide)]
    exact h2 s p) hc
theorem ix_one {s : List O} {L : Nat} {l : Int} (h : s[L]? = some (oneL l)) : pr2 dIx s [.loc L, .int 0] = some (.int l, s) := by
  rw [pr2_eq]
  unfold dIx
  simp only [h, oneL]
  rfl
theorem put_one {s : List O} {L : Nat} {l v : Int} (h : s[L]? = some (oneL l)) : dPut s (.loc L) (.int 0) (.int v) = some (s.set L (oneL v)) := by
  unfold dPut
  simp only [h, oneL]
  rfl
theorem put_nx2 {h : PrW} {f : Sv → List O → RR D} {ρ : Sv} {st s1 s4 : List O} {v o k : D} (e : f ρ st = .ok v s1) (ho : ρ[2]? = some (some o)) (hp : h s1 o k v = some s4) : sPut h f (eVar 2) (eC k) ρ st = .nx ρ s4 := by
  unfold sPut
  rw [e]
  have e2 : eVar 2 ρ s1 = .ok o s1 := by
    unfold eVar
    rw [ho]
  show onE (eVar 2 ρ s1) ρ _ = _
  rw [e2]
  show (match h s1 o k v with
    | some s4 => SR.nx ρ s4
    | none => .err) = _
  rw [hp]
section
variable {sc : List D} {n L h cc : Nat} {l : Int}
/-- one more draw that leaves all else -/
theorem dv_takeK {m : Int} (hm : 1 ≤ m ∧ m ≤ 1000) {ρ : Sv} (h0 : ρ[0]? = some (some (.loc 1))) (st : List O) : Dv (eCall (callN (n + 7) 14) 2 (eCons (eVar 0) (eCons (eC (.int m)) (eNil))) ρ st) st 1 fun a s => ∃ v : Int, a = .int v ∧ (0 ≤ v ∧ v < m) ∧ Keep st s :=
  dv_call (xs := [.loc 1, .int m]) (ev_cons (ev_var h0) fun _ _ => ev_cons ev_c fun _ _ => ev_nil) rfl fun s g => (c_take (n + 3) m s ⟨by omega, by omega⟩).mono (Nat.le_refl _) fun a s' ⟨v, e, hv, k⟩ => ⟨v, e, hv, g.keep.trans k⟩
theorem weave_leaf (hs : ScOk sc) (hL : 2 ≤ L) {v : Int} {a b c : Option D} {st : List O} (hst : st[L]? = some (oneL (l - 1))) :
    Dv (eIfE (eAndT (eIs (eBin (pr2 (dEq false)) (eVar 3) (eC (.int 3)))) (eIs (eBin (pr2 (dEq false)) (eCall (callN (n + 7) 14) 2 (eCons (eVar 0) (eCons (eC (.int 3)) (eNil)))) (eC (.int 0))))) (eTup (eCons (eC (.str "none")) (eNil))) (eTup (eCons (eC (.str "letter")) (eCons (eCall (callN (n + 7) 15) 2 (eCons (eVar 0) (eCons (eCall (callN (n + 7) 20) 1 (eCons (eVar 1) (eNil))) (eNil)))) (eNil)))) (Ew sc L (some (.int v)) a b c) st) st 2 (Wres sc L (h + 1) l) := by
  refine dv_ifE (c := 1) (c' := 1) (P := fun _ s => s[L]? = some (oneL (l - 1))) ?_ (fun s hk => ?_) (fun s hk => ?_) (by omega)
  · refine Ev.dvb (a := decide (v = 3)) (ev_is (ev_bin (ev_var rfl) (fun s _ => ev_c) fun s _ => eq_int v 3 s)) fun s g => ?_
    cases decide (v = 3) with
    | true =>
      rw [if_pos rfl]
      refine dv_is (Dv.bind (c := 1) (c' := 0) (dv_takeK (m := 3) ⟨by omega, by omega⟩ rfl s) (fun d s2 ⟨v, e, hv, k⟩ => ?_) (by omega))
      rw [e]
      refine Ev.dvb (a := .int 0) ev_c fun s3 g3 => ?_
      rw [eq_int]
      exact Dv.of ⟨_, rfl, g3.get (k L _ hL (g.get hst))⟩
    | false =>
      rw [if_neg (by decide)]
      exact (Dv.of (P := fun _ s => s[L]? = some (oneL (l - 1))) (g.get hst)).mono (Nat.zero_le _) fun _ _ z => z
  · refine ((ev_tup (ev_cons ev_c fun _ _ => ev_nil) (by rw [sizeLine_eq]; show (1 : Nat) ≤ _; omega)).dv).mono (Nat.zero_le _) fun d s2 ⟨e, g⟩ => ⟨l - 1, Int.le_refl _, g.get hk, ?_, ?_⟩
    · rw [e]
      exact w_none.up (by omega)
    · rw [e]
      show (2 : Nat) ≤ _
      omega
  · refine Dv.bind (c := 1) (c' := 0) (P := fun xs s => ∃ y, xs = [.str "letter", y] ∧ y ∈ lettersD sc ∧ s[L]? = some (oneL (l - 1))) ?_ (fun xs s2 ⟨y, e, hy, k⟩ => ?_) (by omega)
    · refine Ev.dvb (a := .str "letter") ev_c fun s1 g1 => ?_
      refine Dv.bind (c := 1) (c' := 0) (P := fun xs s => ∃ y, xs = [y] ∧ y ∈ lettersD sc ∧ s[L]? = some (oneL (l - 1))) ?_ (fun xs s2 ⟨y, e, hy, k⟩ => Dv.of ⟨y, by rw [e], hy, k⟩) (by omega)
      refine Dv.bind (c := 1) (c' := 0) (P := fun y s => y ∈ lettersD sc ∧ s[L]? = some (oneL (l - 1))) ?_ (fun y s2 ⟨hy, k⟩ => Dv.of ⟨y, rfl, hy, k⟩) (by omega)
      refine dv_call (xs := [.loc 1, .lst (lettersD sc)]) (ev_cons (ev_var rfl) fun _ _ => ev_cons (ev_call (ev_cons (ev_var rfl) fun _ _ => ev_nil) rfl fun s _ => c_law_letters (n + 4) sc s (by have := hs.len; omega)) fun _ _ => ev_nil) rfl fun s2 g2 => ?_
      have hlen := letters_len sc
      have h8 : 2 ^ sc.length ≤ 2 ^ 3 := Nat.pow_le_pow_right (by omega) hs.len
      have hp : 0 < 2 ^ sc.length := Nat.pow_pos (by omega)
      exact (c_pick (n + 2) (lettersD sc) s2 (fun z => by rw [z] at hlen; simp only [List.length_nil] at hlen; omega) (by omega)).mono (Nat.le_refl _) fun a s3 ⟨ha, k⟩ => ⟨ha, k L _ hL ((g1.trans g2).get hk)⟩
    · rw [e]
      rw [if_pos (by rw [sizeLine_eq]; show (2 : Nat) ≤ _; omega)]
      refine Dv.of ⟨l - 1, Int.le_refl _, k, (w_letter hs hy).up (by omega), ?_⟩
      show 1 + (1 + (wD y + 0)) ≤ _
      have := (letter_ok hs y hy).2.2.1
      omega
theorem weave_body (hs : ScOk sc) (hL : 2 ≤ L) (hh : h ≤ 20) {st : List O} (hst : st[L]? = some (oneL l)) (hl : l ≤ 9)
    (IH : 1 < l → ∀ l2 : Int, l2 ≤ l - 1 → ∀ s, s[L]? = some (oneL l2) → Dv (callN (n + 7) 27 [.loc 1, .tup sc, .loc L] s) s cc (Wres sc L h l2)) :
    Dv (bodyOf (f__law_weave (callN (n + 7))) 7 [.loc 1, .tup sc, .loc L] st) st (3 + 3 * cc) (Wres sc L (h + 1) l) := by
  refine dv_body ?_
  show Dr (f__law_weave (callN (n + 7)) (Ew sc L none none none none) st) st (3 + 3 * cc) _
  -- left[0] = left[0] - 1
  refine dr_seq (c := 0) (c' := 3 + 3 * cc) (P := fun ρ s => ρ = Ew sc L none none none none ∧ s[L]? = some (oneL (l - 1))) (fun b _ hb => ?_) (fun ρ s ⟨e, k⟩ => ?_) (by omega)
  · obtain ⟨s1, e1, g1⟩ : Ev (eBin (pr2 dSub) (eBin (pr2 dIx) (eVar 2) (eC (.int 0))) (eC (.int 1)) (Ew sc L none none none none) st) st (.int (l - 1)) := ev_bin (ev_bin (ev_var rfl) (fun s _ => ev_c) fun s g => ix_one (g.get hst)) (fun s _ => ev_c) fun s _ => rfl
    exact ⟨_, _, put_nx2 (o := .loc L) e1 rfl (put_one (g1.get hst)), (hb.gr g1).set hL _, rfl, List.getElem?_set_self (List.getElem?_eq_some_iff.mp (g1.get hst)).1⟩
  rw [e]
  -- chance
  refine dr_seq (c := 1) (c' := 2 + 3 * cc) (P := fun ρ s => ∃ v : Int, ρ = Ew sc L (some (.int v)) none none none ∧ (0 ≤ v ∧ v < 12) ∧ s[L]? = some (oneL (l - 1))) ?_ (fun ρ s ⟨v, e, hv, k⟩ => ?_) (by omega)
  · refine (dn_asg (c := 1) (dv_takeK (m := 12) ⟨by omega, by omega⟩ rfl s) (fun d => Ew sc L (some d) none none none) fun d => rfl).mono (Nat.le_refl _) fun ρ s2 ⟨d, e, v, e2, hv, kk⟩ => ⟨v, by rw [e, e2], hv, kk L _ hL k⟩
  rw [e]
  refine dr_guard (c := 0) (c' := 2 + 3 * cc) (P := fun x s => x = (decide (l - 1 ≤ 0) || decide (v < 4)) ∧ s[L]? = some (oneL (l - 1))) ?_ (fun s ⟨hb, k⟩ => ?_) (fun s ⟨hb, k⟩ => ?_) (by omega)
  · refine (ev_or (ev_is (ev_bin (x := .int (l - 1)) (y := .int 0) (ev_bin (ev_var rfl) (fun s _ => ev_c) fun s g => ix_one (g.get k)) (fun s _ => ev_c) fun s _ => rfl)) fun _ s _ => ev_is (ev_bin (ev_var rfl) (fun s _ => ev_c) fun s _ => lt_int v 4 s)).dv.mono (Nat.le_refl _) fun x s2 ⟨e, g⟩ => ⟨e, g.get k⟩
  · exact dr_ret ((weave_leaf (h := h) hs hL k).mono (by omega) fun _ _ z => z)
  have hb1 : 1 < l := by
    have := hb.symm
    rw [Bool.or_eq_false_iff, decide_eq_false_iff_not] at this
    omega
  have IH := IH hb1
  have rcl : ∀ {a b c e : Option D} (l2 : Int), l2 ≤ l - 1 → ∀ s, s[L]? = some (oneL l2) → Dv (eCall (callN (n + 7) 27) 3 (eCons (eVar 0) (eCons (eVar 1) (eCons (eVar 2) (eNil)))) (Ew sc L a b c e) s) s cc (Wres sc L h l2) := fun l2 h2 s hk => dv_call (xs := [.loc 1, .tup sc, .loc L]) (ev_cons (ev_var rfl) fun _ _ => ev_cons (ev_var rfl) fun _ _ => ev_cons (ev_var rfl) fun _ _ => ev_nil) rfl fun s2 g => IH l2 h2 s2 (g.get hk)
  refine dr_guard (c := 0) (c' := 2 + 3 * cc) (P := fun x s => x = decide (v < 8) ∧ s[L]? = some (oneL (l - 1))) ?_ (fun s ⟨_, k⟩ => ?_) (fun s ⟨hb8, k⟩ => ?_) (by omega)
  · refine (ev_is (ev_bin (ev_var rfl) (fun s _ => ev_c) fun s _ => lt_int v 8 s)).dv.mono (Nat.le_refl _) fun x s2 ⟨e, g⟩ => ⟨e, g.get k⟩
  · -- then
    refine dr_seq (c := cc) (c' := cc) (P := fun ρ s => ∃ x, ρ = Ew sc L (some (.int v)) (some x) none none ∧ Wres sc L h (l - 1) x s) ?_ (fun ρ s2 ⟨x, e, l', h1, h2, h3, h4⟩ => ?_) (by omega)
    · exact (dn_asg (rcl (l - 1) (by omega) s k) (fun d => Ew sc L (some (.int v)) (some d) none none) fun d => rfl).mono (Nat.le_refl _) fun ρ s2 ⟨d, e, w⟩ => ⟨d, e, w⟩
    · rw [e]
      refine dr_ret (Dv.bind (c := cc) (c' := 0) (P := fun xs s => ∃ y, xs = [.str "then", x, y] ∧ Wres sc L h l' y s) ?_ (fun xs s3 ⟨y, e, l3, q1, q2, q3, q4⟩ => ?_) (by omega))
      · refine Ev.dvb (a := .str "then") ev_c fun s3 g3 => ?_
        refine Dv.bind (c := cc) (c' := 0) (P := fun xs s => ∃ y, xs = [x, y] ∧ Wres sc L h l' y s) ?_ (fun xs s4 ⟨y, e, w⟩ => Dv.of ⟨y, by rw [e], w⟩) (by omega)
        refine Ev.dvb (a := x) (ev_var rfl) fun s4 g4 => ?_
        refine Dv.bind (c := cc) (c' := 0) (P := fun xs s => ∃ y, xs = [y] ∧ Wres sc L h l' y s) ?_ (fun xs s4 ⟨y, e, w⟩ => Dv.of ⟨y, by rw [e], w⟩) (by omega)
        exact Dv.bind (c := cc) (c' := 0) (rcl l' (by omega) s4 ((g3.trans g4).get h2)) (fun y s5 w => Dv.of ⟨y, rfl, w⟩) (by omega)
      · rw [e]
        rw [if_pos (by rw [sizeLine_eq]; show (3 : Nat) ≤ _; omega)]
        refine Dv.of ⟨l3, by omega, q2, w_plain (.inl ⟨rfl, rfl⟩) fun d hd => ?_, ?_⟩
        · simp only [List.mem_cons, List.not_mem_nil, or_false] at hd
          rcases hd with z | z <;> rw [z]
          · exact h3
          · exact q3
        · show 1 + (1 + (wD x + (wD y + 0))) ≤ _
          omega
  refine dr_guard (c := 0) (c' := 2 + 3 * cc) (P := fun x s => x = decide (v < 10) ∧ s[L]? = some (oneL (l - 1))) ?_ (fun s ⟨hb10, k⟩ => ?_) (fun s ⟨_, k⟩ => ?_) (by omega)
  · refine (ev_is (ev_bin (ev_var rfl) (fun s _ => ev_c) fun s _ => lt_int v 10 s)).dv.mono (Nat.le_refl _) fun x s2 ⟨e, g⟩ => ⟨e, g.get k⟩
  · -- on, back
    have hv8 : v = 8 ∨ v = 9 := by
      have h1 := of_decide_eq_false hb8.symm
      have h2 := of_decide_eq_true hb10.symm
      omega
    obtain ⟨t, ht, ix⟩ : ∃ t : Str, (t = "on" ∨ t = "back") ∧ ∀ s : List O, pr2 dIx s [.lst [.str "on", .str "back"], .int (v - 8)] = some (.str t, s) := by
      rcases hv8 with rfl | rfl
      · exact ⟨"on", .inl rfl, fun s => rfl⟩
      · exact ⟨"back", .inr rfl, fun s => rfl⟩
    refine dr_ret (Dv.bind (c := cc) (c' := 0) (P := fun xs s => ∃ y, xs = [.str t, y] ∧ Wres sc L h (l - 1) y s) ?_ (fun xs s3 ⟨y, e, l3, q1, q2, q3, q4⟩ => ?_) (by omega))
    · refine Ev.dvb (a := .str t) (ev_bin (x := .lst [.str "on", .str "back"]) (y := .int (v - 8)) (ev_frz (ev_lim (ev_cons ev_c fun _ _ => ev_cons ev_c fun _ _ => ev_nil) (by rw [sizeLine_eq]; show (2 : Nat) ≤ _; omega))) (fun s _ => ev_bin (ev_var rfl) (fun s _ => ev_c) fun s _ => rfl) fun s _ => ix s) fun s3 g3 => ?_
      refine Dv.bind (c := cc) (c' := 0) (P := fun xs s => ∃ y, xs = [y] ∧ Wres sc L h (l - 1) y s) ?_ (fun xs s4 ⟨y, e, w⟩ => Dv.of ⟨y, by rw [e], w⟩) (by omega)
      exact Dv.bind (c := cc) (c' := 0) (rcl (l - 1) (by omega) s3 (g3.get k)) (fun y s5 w => Dv.of ⟨y, rfl, w⟩) (by omega)
    · rw [e]
      rw [if_pos (by rw [sizeLine_eq]; show (2 : Nat) ≤ _; omega)]
      refine Dv.of ⟨l3, by omega, q2, w_plain (.inr ⟨ht, rfl⟩) fun d hd => ?_, ?_⟩
      · rw [List.mem_singleton] at hd
        rw [hd]
        exact q3
      · show 1 + (1 + (wD y + 0)) ≤ _
        omega
  · -- mix
    refine dr_seq (c := 1 + 3 * cc) (c' := 0) (P := fun ρ s => ∃ xs l3, ρ = Ew sc L (some (.int v)) none (some (.lst xs)) none ∧ xs ≠ [] ∧ xs.length ≤ 3 ∧ (∀ d ∈ xs, WOk sc h d) ∧ l3 ≤ l - 1 ∧ s[L]? = some (oneL l3) ∧ wDs xs ≤ 18 + 18 * ((l - 1 - 1).toNat - (l3 - 1).toNat)) ?_ (fun ρ s2 ⟨xs, l3, e, hne, hxl, hw, h3, hk, hx⟩ => ?_) (by omega)
    · refine (dn_asg (c := 1 + 3 * cc) (P := fun x s => ∃ xs l3, x = .lst xs ∧ xs ≠ [] ∧ xs.length ≤ 3 ∧ (∀ d ∈ xs, WOk sc h d) ∧ l3 ≤ l - 1 ∧ s[L]? = some (oneL l3) ∧ wDs xs ≤ 18 + 18 * ((l - 1 - 1).toNat - (l3 - 1).toNat)) ?_ (fun d => Ew sc L (some (.int v)) none (some d) none) fun d => rfl).mono (Nat.le_refl _) fun ρ s2 ⟨d, e, xs, l3, e2, q⟩ => ⟨xs, l3, by rw [e, e2], q⟩
      refine Dv.bind (c := 1 + 3 * cc) (c' := 0) (P := fun xs s => ∃ l3, xs ≠ [] ∧ xs.length ≤ 3 ∧ (∀ d ∈ xs, WOk sc h d) ∧ l3 ≤ l - 1 ∧ s[L]? = some (oneL l3) ∧ wDs xs ≤ 18 + 18 * ((l - 1 - 1).toNat - (l3 - 1).toNat)) ?_ (fun xs s2 ⟨l3, q⟩ => Dv.of ⟨xs, l3, rfl, q⟩) (by omega)
      refine Dv.bind (c := 1) (c' := 3 * cc) (P := fun (x : Src) s => ∃ m : Nat, m ≤ 2 ∧ x = ⟨intsD 0 (m + 1), none⟩ ∧ s[L]? = some (oneL (l - 1))) ?_ (fun x s2 ⟨m, hm, e, hk⟩ => ?_) (by omega)
      · refine Dv.bind (c := 1) (c' := 0) (P := fun xs s => ∃ m : Nat, m ≤ 2 ∧ xs = [.int ((m : Int) + 1)] ∧ s[L]? = some (oneL (l - 1))) ?_ (fun xs s2 ⟨m, hm, e, hk⟩ => ?_) (by omega)
        · refine Dv.bind (c := 1) (c' := 0) (P := fun x s => ∃ m : Nat, m ≤ 2 ∧ x = .int ((m : Int) + 1) ∧ s[L]? = some (oneL (l - 1))) ?_ (fun x s2 ⟨m, hm, e, hk⟩ => Dv.of ⟨m, hm, by rw [e], hk⟩) (by omega)
          refine Ev.dvb (a := .int 1) ev_c fun s3 g3 => ?_
          refine Dv.bind (c := 1) (c' := 0) (dv_takeK (m := 3) ⟨by omega, by omega⟩ rfl s3) (fun x s4 ⟨w, e, hw, kk⟩ => ?_) (by omega)
          rw [e]
          refine Dv.ok (s := s4) (fun _ z => z) ⟨w.toNat, by omega, ?_, kk L _ hL (g3.get k)⟩
          rw [Int.toNat_of_nonneg hw.1, Int.add_comm]
        · rw [e]
          have e3 : ((m : Int) + 1).toNat = m + 1 := by omega
          dsimp only
          rw [if_pos (by omega), e3]
          exact Dv.of ⟨m, hm, rfl, hk⟩
      · rw [e]
        have hil : (intsD 0 (m + 1)).length = m + 1 := by simp [intsD]
        refine (dv_goC (c := cc) rfl (tg := GT.nm 6) (fun j acc s => ∃ l3 : Int, l3 ≤ l - 1 ∧ s[L]? = some (oneL l3) ∧ (∀ d ∈ acc, WOk sc h d) ∧ wDs acc ≤ 6 * j + 18 * ((l - 1 - 1).toNat - (l3 - 1).toNat)) (intsD 0 (m + 1)) [] 0 s2 (by rw [sizeLine_eq, hil]; simp only [List.length_nil]; omega) ⟨l - 1, Int.le_refl _, hk, (fun d hd => by cases hd), Nat.zero_le _⟩ fun j d acc s3 hd ⟨l3, h3, hk3, hw, hx⟩ => ⟨_, rfl, ?_⟩).mono ?_ fun out s4 ⟨⟨l3, h3, hk3, hw, hx⟩, ho⟩ => ?_
        · refine (rcl (a := some (.int v)) (b := none) (c := none) (e := some d) l3 h3 s3 hk3).mono (Nat.le_refl _) fun y s5 ⟨l4, q1, q2, q3, q4⟩ => ⟨l4, by omega, q2, fun z hz => ?_, ?_⟩
          · rcases List.mem_append.mp hz with z1 | z1
            · exact hw z z1
            · rw [List.mem_singleton] at z1
              rw [z1]
              exact q3
          · rw [wDs_append]
            have e5 : wDs [y] = wD y := Nat.add_zero _
            omega
        · rw [hil]
          exact Nat.mul_le_mul_right _ (by omega)
        · rw [hil] at ho hx
          simp only [List.length_nil] at ho
          refine ⟨l3, fun z => ?_, by omega, hw, h3, hk3, by omega⟩
          rw [z] at ho
          simp only [List.length_nil] at ho
          omega
    · rw [e]
      have hd63 : ∀ d ∈ xs, dep d ≤ 63 := fun d hd => by
        have := (hw d hd).dp
        omega
      have hwl : wDs xs ≤ 200 := by omega
      have hg : ∀ d ∈ xs, Good d := fun d hd => (hw d hd).sd.good (by omega) (by have := wd_mem hd; omega)
      refine dr_ret ((ev_tup (xs := [.str "mix", .tup (onceD xs)]) (ev_cons ev_c fun s _ => ev_cons (ev_call (ev_cons (ev_var rfl) fun _ _ => ev_nil) rfl fun s _ => c_law_once (n + 4) (.lst xs) xs s (fun _ => rfl) (sort_vl (fun d hd => (hw d hd).vl) hg hd63) (fun d hd => eq_vl (hw d hd).vl (hg d hd) (hd63 d hd)) (by rw [sizeLine_eq]; omega)) fun _ _ => ev_nil) (by rw [sizeLine_eq]; show (2 : Nat) ≤ _; omega)).dv.mono (Nat.le_refl _) fun d s3 ⟨e, g⟩ => ?_)
      rw [e]
      refine ⟨l3, h3, g.get hk, w_mix hne hw, ?_⟩
      show 1 + (1 + ((1 + wDs (onceD xs)) + 0)) ≤ _
      have := once_w xs
      omega
end
def wc : Nat → Nat
  | 0 => 3
  | j + 1 => 3 + 3 * wc j
theorem callN_27 (n : Nat) : callN (n + 3) 27 = bodyOf (f__law_weave (callN (n + 2))) 7 := rfl
theorem c_weave {sc : List D} (hs : ScOk sc) {L : Nat} (hL : 2 ≤ L) (n : Nat) : ∀ (j : Nat) (l : Int) (st : List O), j ≤ 19 → l ≤ (j : Int) + 1 → l ≤ 9 → st[L]? = some (oneL l) → Dv (callN (n + j + 8) 27 [.loc 1, .tup sc, .loc L] st) st (wc j) (Wres sc L (j + 1) l)
  | 0, l, st, _, hl, h9, hst => by
    rw [callN_27]
    exact weave_body (n := n) (h := 0) (cc := 0) hs hL (by omega) hst h9 fun z => absurd z (by omega)
  | j + 1, l, st, hj, hl, h9, hst => by
    rw [callN_27]
    exact weave_body (n := n + (j + 1)) (h := j + 1) (cc := wc j) hs hL (by omega) hst h9 fun z l2 h2 s hk => c_weave hs hL n j l2 s (by omega) (by omega) (by omega) hk
end Tk
/-! P33: _law_begun, _law_said, what is compared. -/
namespace Tk
open PySem L2 Tl
def absI (i : Int) : Int := if i < 0 then -i else i
theorem ev_abs {ρ : Sv} {st : List O} {i : Nat} {v : Int} (h : ρ[i]? = some (some (.int v))) : Ev (ePr (pr1 dAbs) (eCons (eVar i) eNil) ρ st) st (.int (absI v)) := ev_pr (ev_cons (ev_var h) fun _ _ => ev_nil) fun s _ => rfl
theorem ev_ten {ρ : Sv} {st : List O} : Ev (eBin (pr2 dPow) (eC (.int 10)) (eC (.int 18)) ρ st) st (.int (10 ^ 18)) := ev_bin ev_c (fun s _ => ev_c) fun s _ => pow_ok ⟨by decide, by decide, by decide⟩ s
theorem filt_int {p : D → Bool} {F : D → D} {q : Int → Bool} {G : Int → Int} (hp : ∀ i, p (.int i) = q i) (hF : ∀ i, F (.int i) = .int (G i)) : ∀ ns : List Int, ((ns.map D.int).filter p).map F = ((ns.filter q).map G).map D.int
  | [] => rfl
  | i :: ns => by
    rw [List.map_cons, List.filter_cons, List.filter_cons, hp]
    split
    · rw [List.map_cons, hF, filt_int hp hF ns, List.map_cons, List.map_cons]
    · exact filt_int hp hF ns
def geT : D → Bool
  | .int i => decide (10 ^ 18 ≤ absI i)
  | _ => false
def subT : D → D
  | .int i => .int (absI i - 10 ^ 18)
  | d => d
def modT : D → D
  | .int i => .int ((absI i).fmod 2147483629)
  | d => d
theorem ev_st0 {α : Type} {r : RR α} {a : α} (h : Ev r [] a) : ∃ s, r = .ok a s := by
  obtain ⟨s, e, _⟩ := h
  exact ⟨s, e⟩
theorem c_begun (n : Nat) (ns : List Int) (hn : ns.length ≤ 63) : ∃ s, callN (n + 3) 12 [.scr (ns.map .int)] [] = .ok (.loc 1) s ∧ DS 0 s := by
  show ∃ s, bodyOf (f__law_begun (callN (n + 2))) 3 [.scr (ns.map .int)] [] = .ok (.loc 1) s ∧ DS 0 s
  -- no evaluation here leaves anything in the store: the comprehensions are plain
  have gd : ∀ st : List O, (⟨ns.map D.int, none⟩ : Src).gd st = true := fun st => gd_none rfl st
  have hl : ([] : List D).length + (ns.map D.int).length ≤ sizeLine := by
    rw [sizeLine_eq, List.length_map]
    simp only [List.length_nil]
    omega
  have int_of : ∀ d ∈ ns.map D.int, ∃ i, d = .int i := fun d hd => by
    obtain ⟨i, _, rfl⟩ := List.mem_map.mp hd
    exact ⟨i, rfl⟩
  have ge : ∀ (ρ : Sv) (st : List O) (i : Int), ρ[2]? = some (some (.int i)) → eIs (eBin (pr2 dGe) (ePr (pr1 dAbs) (eCons (eVar 2) (eNil))) (eBin (pr2 dPow) (eC (.int 10)) (eC (.int 18)))) ρ st = .ok (decide (10 ^ 18 ≤ absI i)) st := fun ρ st i h => by
    have e : eVar 2 ρ st = .ok (.int i) st := by unfold eVar; rw [h]
    unfold eIs eBin ePr eCons
    rw [e]
    show RR.bind (RR.bind (RR.ok (D.int (absI i)) st) fun x s1 => (RR.bind (liftP (pr2 dPow st [.int 10, .int 18])) fun y s2 => liftP (pr2 dGe s2 [x, y]))) _ = _
    rw [pow_ok ⟨by decide, by decide, by decide⟩]
    rfl
  have sb : ∀ (ρ : Sv) (st : List O) (i : Int), ρ[2]? = some (some (.int i)) → eBin (pr2 dSub) (ePr (pr1 dAbs) (eCons (eVar 2) (eNil))) (eBin (pr2 dPow) (eC (.int 10)) (eC (.int 18))) ρ st = .ok (.int (absI i - 10 ^ 18)) st := fun ρ st i h => by
    have e : eVar 2 ρ st = .ok (.int i) st := by unfold eVar; rw [h]
    unfold eBin ePr eCons
    rw [e]
    show (RR.bind (RR.ok (D.int (absI i)) st) fun x s1 => (RR.bind (liftP (pr2 dPow st [.int 10, .int 18])) fun y s2 => liftP (pr2 dSub s2 [x, y]))) = _
    rw [pow_ok ⟨by decide, by decide, by decide⟩]
    rfl
  have md : ∀ (ρ : Sv) (st : List O) (i : Int), ρ[2]? = some (some (.int i)) → eBin (pr2 dMod) (ePr (pr1 dInt) (eCons (ePr (pr1 dAbs) (eCons (eVar 2) (eNil))) (eNil))) (eC (.int 2147483629)) ρ st = .ok (.int ((absI i).fmod 2147483629)) st := fun ρ st i h => by
    have e : eVar 2 ρ st = .ok (.int i) st := by unfold eVar; rw [h]
    have ab : ePr (pr1 dAbs) (eCons (eVar 2) (eNil)) ρ st = .ok (.int (absI i)) st := by
      unfold ePr eCons
      rw [e]
      rfl
    have ab2 : ePr (pr1 dInt) (eCons (ePr (pr1 dAbs) (eCons (eVar 2) (eNil))) (eNil)) ρ st = .ok (.int (absI i)) st := by
      show RR.bind (RR.bind (ePr (pr1 dAbs) (eCons (eVar 2) (eNil)) ρ st) _) _ = _
      rw [ab]
      rfl
    show RR.bind (ePr (pr1 dInt) (eCons (ePr (pr1 dAbs) (eCons (eVar 2) (eNil))) (eNil)) ρ st) _ = _
    rw [ab2]
    show liftP (pr2 dMod st [.int (absI i), .int 2147483629]) = _
    rw [mod_ok (by decide)]
    rfl
  have w1 : eComp (eSrc (eVar 0)) (GT.nm 2) (eIs (eBin (pr2 dGe) (ePr (pr1 dAbs) (eCons (eVar 2) (eNil))) (eBin (pr2 dPow) (eC (.int 10)) (eC (.int 18))))) (eBin (pr2 dSub) (ePr (pr1 dAbs) (eCons (eVar 2) (eNil))) (eBin (pr2 dPow) (eC (.int 10)) (eC (.int 18)))) [2] [some (.scr (ns.map .int)), none, none] [] = .ok (((ns.map D.int).filter geT).map subT) [] := by
    show goC ⟨ns.map D.int, none⟩ (GT.nm 2) _ _ (wipeR [some (.scr (ns.map .int)), none, none] [2]) (ns.map D.int) [] [] = _
    rw [goC_filter (p := geT) (F := subT) (gd []) _ _ hl fun d hd => ?_]
    · rfl
    · obtain ⟨i, rfl⟩ := int_of d hd
      exact ⟨_, rfl, ge _ _ i rfl, fun _ => sb _ _ i rfl⟩
  have ew := filt_int (p := geT) (F := subT) (q := fun i => decide (10 ^ 18 ≤ absI i)) (G := fun i => absI i - 10 ^ 18) (fun i => rfl) (fun i => rfl) ns
  rw [ew] at w1
  generalize hw : (ns.filter fun i => decide (10 ^ 18 ≤ absI i)).map (fun i => absI i - 10 ^ 18) = wide at w1
  have hwp : ∀ w ∈ wide, (0 : Int) ≤ w := fun w hw' => by
    rw [← hw] at hw'
    obtain ⟨i, hi, rfl⟩ := List.mem_map.mp hw'
    have := of_decide_eq_true (List.mem_filter.mp hi).2
    omega
  have e1 : sAsg (eAll (eComp (eSrc (eVar 0)) (GT.nm 2) (eIs (eBin (pr2 dGe) (ePr (pr1 dAbs) (eCons (eVar 2) (eNil))) (eBin (pr2 dPow) (eC (.int 10)) (eC (.int 18))))) (eBin (pr2 dSub) (ePr (pr1 dAbs) (eCons (eVar 2) (eNil))) (eBin (pr2 dPow) (eC (.int 10)) (eC (.int 18)))) [2])) (.nm 1) [some (.scr (ns.map .int)), none, none] [] = .nx [some (.scr (ns.map .int)), some (.loc 0), none] [.lst (wide.map .int)] := by
    unfold sAsg eAll
    rw [w1]
    rfl
  have w2 : ∀ st, eFrz (eComp (eSrc (eVar 0)) (GT.nm 2) (tYesT) (eBin (pr2 dMod) (ePr (pr1 dInt) (eCons (ePr (pr1 dAbs) (eCons (eVar 2) (eNil))) (eNil))) (eC (.int 2147483629))) [2]) [some (.scr (ns.map .int)), some (.loc 0), none] st = .ok (.lst ((ns.map fun i => (absI i).fmod 2147483629).map .int)) st := fun st => by
    have : eComp (eSrc (eVar 0)) (GT.nm 2) (tYesT) (eBin (pr2 dMod) (ePr (pr1 dInt) (eCons (ePr (pr1 dAbs) (eCons (eVar 2) (eNil))) (eNil))) (eC (.int 2147483629))) [2] [some (.scr (ns.map .int)), some (.loc 0), none] st = .ok ((ns.map D.int).map modT) st := by
      show goC ⟨ns.map D.int, none⟩ (GT.nm 2) _ _ (wipeR [some (.scr (ns.map .int)), some (.loc 0), none] [2]) (ns.map D.int) [] st = _
      rw [goC_map (F := modT) (gd st) _ _ hl fun d hd => ?_]
      · rfl
      · obtain ⟨i, rfl⟩ := int_of d hd
        exact ⟨_, rfl, md _ _ i rfl⟩
    unfold eFrz
    rw [this, List.map_map, List.map_map]
    rfl
  generalize hc : (ns.map fun i => (absI i).fmod 2147483629) = cells at w2
  have hcp : ∀ c ∈ cells, (0 : Int) ≤ c ∧ c < 2147483629 := fun c hc' => by
    rw [← hc] at hc'
    obtain ⟨i, _, rfl⟩ := List.mem_map.mp hc'
    exact fmod_in (by decide)
  have hcl : cells.length ≤ 63 := by rw [← hc, List.length_map]; exact hn
  have e2 : sRet (eDict [(eC (.str "wide"), eVar 1), (eC (.str "cells"), eFrz (eComp (eSrc (eVar 0)) (GT.nm 2) (tYesT) (eBin (pr2 dMod) (ePr (pr1 dInt) (eCons (ePr (pr1 dAbs) (eCons (eVar 2) (eNil))) (eNil))) (eC (.int 2147483629))) [2])), (eC (.str "rest"), eC (.int 0)), (eC (.str "turn"), eC (.int 0))]) [some (.scr (ns.map .int)), some (.loc 0), none] [.lst (wide.map .int)] = .rt (.loc 1) [.lst (wide.map .int), dicOf cells 0 0] := by
    have ps : ePairs [(eC (.str "wide"), eVar 1), (eC (.str "cells"), eFrz (eComp (eSrc (eVar 0)) (GT.nm 2) (tYesT) (eBin (pr2 dMod) (ePr (pr1 dInt) (eCons (ePr (pr1 dAbs) (eCons (eVar 2) (eNil))) (eNil))) (eC (.int 2147483629))) [2])), (eC (.str "rest"), eC (.int 0)), (eC (.str "turn"), eC (.int 0))] [some (.scr (ns.map .int)), some (.loc 0), none] [.lst (wide.map .int), .dic []] = .ok [(.inr "wide", .loc 0), (.inr "cells", .lst (cells.map .int)), (.inr "rest", .int 0), (.inr "turn", .int 0)] [.lst (wide.map .int), .dic []] := by
      show RR.bind (RR.bind (eFrz (eComp (eSrc (eVar 0)) (GT.nm 2) (tYesT) (eBin (pr2 dMod) (ePr (pr1 dInt) (eCons (ePr (pr1 dAbs) (eCons (eVar 2) (eNil))) (eNil))) (eC (.int 2147483629))) [2]) [some (.scr (ns.map .int)), some (.loc 0), none] [.lst (wide.map .int), .dic []]) _) _ = _
      rw [w2]
      rfl
    have : eDict [(eC (.str "wide"), eVar 1), (eC (.str "cells"), eFrz (eComp (eSrc (eVar 0)) (GT.nm 2) (tYesT) (eBin (pr2 dMod) (ePr (pr1 dInt) (eCons (ePr (pr1 dAbs) (eCons (eVar 2) (eNil))) (eNil))) (eC (.int 2147483629))) [2])), (eC (.str "rest"), eC (.int 0)), (eC (.str "turn"), eC (.int 0))] [some (.scr (ns.map .int)), some (.loc 0), none] [.lst (wide.map .int)] = .ok (.loc 1) [.lst (wide.map .int), dicOf cells 0 0] := by
      unfold eDict
      rw [show ([O.lst (wide.map .int)] ++ [O.dic []]) = [.lst (wide.map .int), .dic []] from rfl, ps]
      rfl
    unfold sRet
    rw [this]
    rfl
  refine ⟨[.lst (wide.map .int), dicOf cells 0 0], ?_, wide, cells, 0, 0, { w := rfl, d := rfl, wp := hwp, cp := hcp, cl := hcl, r0 := Int.le_refl _, t0 := Int.le_refl _, tb := Int.le_refl _ }⟩
  have run : f__law_begun (callN (n + 2)) [some (.scr (ns.map .int)), none, none] [] = .rt (.loc 1) [.lst (wide.map .int), dicOf cells 0 0] := (seq_eq e1).trans e2
  unfold bodyOf
  rw [show f__law_begun (callN (n + 2)) (List.map some [D.scr (ns.map .int)] ++ List.replicate (3 - [D.scr (ns.map .int)].length) none) [] = _ from run]
end Tk
/-! P34: what is asked in each round. -/
namespace Tk
open PySem L2 Tl
theorem ScOk.lay {sc : List D} (h : ScOk sc) : lay (.tup sc) = true := lay_tup fun d hd => by
  obtain ⟨x, rfl, hx⟩ := sm_str (h.small d hd)
  exact strA_lay (sm_strA hx (by omega))
theorem ScOk.flat {sc : List D} (h : ScOk sc) : flat1 sc := ⟨fun d hd x e => by
  have := h.small d hd
  rw [e] at this
  exact sm_strA (n := 4) this (by omega), by have := h.len; omega⟩
theorem callN_32 (n : Nat) : callN (n + 3) 32 = bodyOf (f__law_said (callN (n + 2))) 2 := rfl
theorem c_law_said {sc : List D} (hs : ScOk sc) (n : Nat) (d : D) (st : List O) (hg : Good d) (hd : dep d ≤ 30) (hw : wD d ≤ 4000) : Ev (callN (n + 40) 32 [.tup sc, d] st) st (.bl (weaveOf sc d)) := by
  rw [callN_32, weaveOf_eq (by show wD d < 1000000; omega)]
  have e : (vOk sc 60 d && decide (cnt 60 d ≤ 400) && mixA 60 d) = (lawIs sc 60 d && decide (((cnt 60 d : Nat) : Int) ≤ 400)) := by
    rw [lawIs_same hs.names 60 d (by omega) hg]
    have : decide (((cnt 60 d : Nat) : Int) ≤ 400) = decide (cnt 60 d ≤ 400) := by
      by_cases h : cnt 60 d ≤ 400
      · rw [decide_eq_true h, decide_eq_true (by omega)]
      · rw [decide_eq_false h, decide_eq_false (by omega)]
    rw [this]
    cases vOk sc 60 d <;> cases mixA 60 d <;> cases decide (cnt 60 d ≤ 400) <;> rfl
  rw [e]
  refine ev_body (rt_ret (ev_andV (ev_call (xs := [.tup sc, d, .int 1]) (ev_cons (ev_var rfl) fun _ _ => ev_cons (ev_var rfl) fun _ _ => ev_cons ev_c fun _ _ => ev_nil) rfl fun s _ => c_law_is_weave hs.names hs.lay (n + 6) 30 60 d 1 s (by omega) hg hd (by omega) hw) fun hb s _ => ?_))
  rw [lawIs_same hs.names 60 d (by omega) hg, Bool.and_eq_true] at hb
  refine ev_bin (x := .int (((pathsG 60 d).length : Nat) : Int)) (y := .int 400) (ev_pr (ev_cons (ev_call (xs := [d]) (ev_cons (ev_var rfl) fun _ _ => ev_nil) rfl fun s _ => c_law_nodes (n + 6) 30 60 d s hg hd (by omega) (by omega) hb.1) fun _ _ => ev_nil) fun s _ => rfl) (fun s _ => ev_c) fun s _ => ?_
  rw [paths_len]
  rfl
theorem strA_bool (b : Bool) : strA (boolText b) = true := by cases b <;> decide +kernel
theorem ev_reprs {neg : Bool} {A B : Sv → List O → RR D} {ρ : Sv} {st : List O} {a b : Bool} (hA : Ev (A ρ st) st (.bl a)) (hB : ∀ s, Gr st s → Ev (B ρ s) s (.bl b)) (hab : a = b) : Ev (eIs (eBin (pr2 (dEq neg)) (ePr (pr1 dRepr) (eCons A (eNil))) (ePr (pr1 dRepr) (eCons B (eNil)))) ρ st) st (!neg) := by
  subst hab
  refine ev_is (ev_bin (x := .str (boolText a)) (y := .str (boolText a)) (ev_pr (ev_cons hA fun _ _ => ev_nil) fun s _ => rfl) (fun s g => ev_pr (ev_cons (hB s g) fun _ _ => ev_nil) fun s _ => rfl) fun s _ => ?_)
  cases neg with
  | true =>
    rw [ne_str (strA_bool a) (strA_bool a), decide_eq_true rfl]
  | false =>
    rw [eq_str (strA_bool a) (strA_bool a), decide_eq_true rfl]
    rfl
/-- what a weave bent b times may be -/
structure Th (b : Nat) (d : D) : Prop where
  sd : Sd (310 + 2 * b) d
  w : wD d + 2 ≤ 2 ^ b * 152
  dp : dep d ≤ 20 + b
theorem Th.next {b : Nat} {d y : D} (h : Th b d) (o : OddOk (310 + 2 * b) d y) : Th (b + 1) y where
  sd := by
    have := o.1
    rw [show 310 + 2 * (b + 1) = 310 + 2 * b + 2 by omega]
    exact this
  w := by
    have h1 := h.w
    have h2 := o.2.1
    rw [Nat.pow_succ]
    omega
  dp := by
    have h1 := h.dp
    have h2 := o.2.2
    omega
theorem Th.bound {b : Nat} {d : D} (h : Th b d) (hb : b ≤ 4) : wD d ≤ 2430 := by
  have h1 := h.w
  have h2 : 2 ^ b ≤ 2 ^ 4 := Nat.pow_le_pow_right (by omega) hb
  omega
theorem Th.good {b : Nat} {d : D} (h : Th b d) (hb : b ≤ 4) : Good d := h.sd.good (by omega) (by have := h.bound hb; omega)
theorem w_th {sc : List D} {d : D} (h : WOk sc 9 d) (hw : wD d ≤ 150) : Th 0 d := ⟨h.sd.mono (by omega), by omega, by have := h.dp; omega⟩
theorem w_true {sc : List D} {d : D} (h : WOk sc 9 d) (hw : wD d ≤ 150) : weaveOf sc d = true := by
  rw [weaveOf_eq (by show wD d < 1000000; omega)]
  obtain ⟨h1, h2⟩ := h.ok 60 (by omega)
  have h3 := cnt_w 60 d h1
  rw [h1, h2, decide_eq_true (by omega)]
  rfl
theorem ev_callK {F : List D → List O → RR D} {n m : Nat} {perm : List Nat} {fs : Sv → List O → RR (List D)} {ρ : Sv} {st : List O} {xs ys : List D} {d : D} (h : Ev (fs ρ st) st xs) (hl : xs.length = m) (hp : pick perm xs = ys) (hn : ys.length = n) (h2 : ∀ s, Gr st s → Ev (F ys s) s d) : Ev (eCallK F n m perm fs ρ st) st d := h.bind fun s g => by
  rw [hp, if_pos ⟨hl, hn⟩]
  exact h2 s g
mutual
theorem eqv_self : ∀ x : PyData, plainP x = true → PyData.eqv x x = true
  | .str a, _ => by
    show (a == a) = true
    exact beq_self_eq_true a
  | .tuple xs, h => by
    show PyData.eqvAll xs xs = true
    exact eqvs_self xs h
  | .none, h => by cases h
  | .bool _, h => by cases h
  | .int _, h => by cases h
  | .list _, h => by cases h
  | .dict _, h => by cases h
theorem eqvs_self : ∀ xs : List PyData, plainPs xs = true → PyData.eqvAll xs xs = true
  | [], _ => rfl
  | x :: xs, h => by
    have h' : (plainP x && plainPs xs) = true := h
    rw [Bool.and_eq_true] at h'
    rw [PyData.eqvAll, eqv_self x h'.1, eqvs_self xs h'.2]
    rfl
end
theorem ne_self {x : D} (h : eqOk x) (s : List O) : pr2 (dEq true) s [x, x] = some (.bl false, s) := by
  rw [dEq_pl true h h]
  have : peq x x = true := eqv_self _ h.1
  rw [this]
  rfl
theorem letters_eqOk {sc : List D} (h : ScOk sc) : eqOk (.tup (lettersD sc)) := by
  refine ⟨plain_all fun d hd => ?_, lay_tup fun d hd => ?_, ?_⟩
  · obtain ⟨l, rfl, _, hm⟩ := letters_tup sc d hd
    exact plain_strs (List.all_eq_true.mpr fun e he => List.all_eq_true.mp h.names e (hm e he))
  · obtain ⟨l, rfl, _, hm⟩ := letters_tup sc d hd
    refine lay_tup fun e he => ?_
    obtain ⟨x, rfl, hx⟩ := sm_str (h.small e (hm e he))
    exact strA_lay (sm_strA hx (by omega))
  · have := dep_tup_le fun d hd => (letter_ok h d hd).2.2.2
    omega
/-! ### bent scopes -/
theorem name_law {d : D} (h : isName d = true) : lawName d = true := by
  obtain ⟨u, rfl⟩ := name_str h
  rw [isName_str] at h
  simp only [Bool.and_eq_true] at h
  show (decide ((1 : Int) ≤ (u.length : Nat)) && decide (((u.length : Nat) : Int) ≤ 8) && (signs u).all aToZ) = true
  rw [h.1.1.1, h.1.1.2, h.2]
  rfl
theorem scope_law {d : D} (h : isScope d = true) : ∃ ds, d = .tup ds ∧ lawNames d = true ∧ ds.length ≤ 3 := by
  cases d with
  | tup ds =>
    have h3 := scope_len h
    have h' : ((ds.all isName && risesD ds) && decide (((ds.length : Nat) : Int) ≤ 3)) = true := h
    rw [Bool.and_eq_true, Bool.and_eq_true] at h'
    refine ⟨ds, rfl, ?_, h3⟩
    rw [lawNames_eq, h'.1.2, List.all_eq_true.mpr fun e he => name_law (List.all_eq_true.mp h'.1.1 e he)]
    rfl
  | _ => cases h
theorem ev_caught {f : Sv → List O → RR D} {ρ : Sv} {st : List O} (h : Ex (f ρ st) st "BadScope") : Ev (eCaught sub_BadScope f ρ st) st (.bl true) := by
  obtain ⟨s, e, g⟩ := h
  refine ⟨s, ?_, g⟩
  unfold eCaught
  rw [e]
  rfl
theorem ex_call {F : List D → List O → RR D} {n : Nat} {fs : Sv → List O → RR (List D)} {ρ : Sv} {st : List O} {xs : List D} {c : Str} (h : Ev (fs ρ st) st xs) (hl : xs.length = n) (h2 : ∀ s, Gr st s → Ex (F xs s) s c) : Ex (eCall F n fs ρ st) st c := by
  obtain ⟨s, e, g⟩ := h
  obtain ⟨s2, e2, g2⟩ := h2 s g
  refine ⟨s2, ?_, g.trans g2⟩
  unfold eCall
  rw [e, bind_ok, if_pos hl, e2]
end Tk
/-! P35: one round of the law. -/
namespace Tk
open PySem L2 Tl
theorem dn_goF {s0 : Src} (hn : s0.at' = none) {tg : GT} {a : Sm} {c : Nat} (I : Nat → Sv → Prop) : ∀ (ds : List D) (i : Nat) (ρ : Sv) (st : List O), I i ρ → (∀ j d ρ s, ds[j]? = some d → I (i + j) ρ → ∃ ρ1, asgT tg d ρ = some ρ1 ∧ Dn (a ρ1 s) s c fun ρ2 _ => I (i + j + 1) ρ2) → Dn (goF s0 tg a ds ρ st) st (ds.length * c) fun ρ' _ => I (i + ds.length) ρ'
  | [], i, ρ, st, h, _ => fun b _ hs => by
    refine ⟨ρ, st, ?_, hs.mono (by omega), h⟩
    unfold goF
    rw [if_pos (gd_none hn _)]
  | d :: ds, i, ρ, st, h, q => fun b hb hs => by
    obtain ⟨ρ1, h1, h2⟩ := q 0 d ρ st (by simp) (by simpa using h)
    simp only [List.length_cons, Nat.succ_mul] at hb ⊢
    obtain ⟨ρ2, s1, e1, q1, h3⟩ := h2 b (by omega) hs
    obtain ⟨ρ', s', e2, q2, h4⟩ := dn_goF hn (tg := tg) (a := a) (c := c) I ds (i + 1) ρ2 s1 (by simpa using h3) (fun j d' ρ0 s hd hI => by
      obtain ⟨ρ3, a3, b3⟩ := q (j + 1) d' ρ0 s (by simpa using hd) (by rw [show i + (j + 1) = i + 1 + j by omega]; exact hI)
      exact ⟨ρ3, a3, by rw [show i + (j + 1) + 1 = i + 1 + j + 1 by omega] at b3; exact b3⟩) (b + c) (by omega) q1
    refine ⟨ρ', s', ?_, q2.mono (by omega), by rw [show i + (ds.length + 1) = i + 1 + ds.length by omega]; exact h4⟩
    unfold goF
    rw [if_pos (gd_none hn _), h1]
    show (match a ρ1 st with
      | .nx ρ2 s2 => goF s0 tg a ds ρ2 s2
      | .ct ρ2 s2 => goF s0 tg a ds ρ2 s2
      | .bk ρ2 s2 => .nx ρ2 s2
      | r => r) = _
    rw [e1]
    exact e2
theorem dn_for {src : Sv → List O → RR Src} {s0 : Src} {tg : GT} {a : Sm} {ρ : Sv} {st : List O} {c C : Nat} (hs : Ev (src ρ st) st s0) (hn : s0.at' = none) (I : Nat → Sv → Prop) (i0 : I 0 ρ) (q : ∀ j d ρ s, s0.its[j]? = some d → I j ρ → ∃ ρ1, asgT tg d ρ = some ρ1 ∧ Dn (a ρ1 s) s c fun ρ2 _ => I (j + 1) ρ2) (hc : s0.its.length * c ≤ C) : Dn (sFor src tg a ρ st) st C fun ρ' _ => I s0.its.length ρ' := fun b hb hds => by
  obtain ⟨s, e, g⟩ := hs
  obtain ⟨ρ', s', e', q', h'⟩ := dn_goF hn (tg := tg) (a := a) (c := c) I s0.its 0 ρ s i0 (fun j d ρ s hd hI => by
    obtain ⟨ρ1, a1, b1⟩ := q j d ρ s hd (by simpa using hI)
    exact ⟨ρ1, a1, by simpa using b1⟩) b (by omega) (hds.gr g)
  refine ⟨ρ', s', ?_, q'.mono (by omega), by simpa using h'⟩
  unfold sFor
  rw [e]
  exact e'
abbrev EL (x : D) (t sc w th lap od is mn wo wi sm : Option D) : Sv := [some x, some (.loc 1), t, sc, w, th, lap, od, is, mn, wo, wi, sm]
theorem nx_skip {t : Sv → List O → RR Bool} {a : Sm} {ρ : Sv} {st : List O} (h : Ev (t ρ st) st false) : Nx (sIf t a sNext ρ st) st ρ := nx_if h (fun z => by cases z) fun _ s _ => nx_next
theorem rng_ev {fs : Sv → List O → RR (List D)} {ρ : Sv} {st : List O} {m : Nat} (h : Ev (fs ρ st) st [.int (m : Int)]) (hm : m ≤ 1000) : Ev (eRng1 fs ρ st) st ⟨intsD 0 m, none⟩ := h.bind fun s _ => by
  dsimp only
  rw [if_pos (by omega), Int.toNat_natCast]
  exact Ev.of
theorem int_at {m j : Nat} {d : D} (h : (intsD 0 m)[j]? = some d) : d = .int (j : Int) ∧ j < m := by
  unfold intsD at h
  rw [List.getElem?_map] at h
  obtain ⟨i, hi, rfl⟩ := Option.map_eq_some_iff.mp h
  obtain ⟨h1, h2⟩ := List.getElem?_eq_some_iff.mp hi
  rw [List.length_range] at h1
  rw [List.getElem_range] at h2
  exact ⟨by rw [← h2]; simp, h1⟩
abbrev Call57 := callN 57
abbrev wsD : List D := [.str "none", .str "letter", .str "then", .str "on", .str "back", .str "mix", .str "qaq"]
theorem ws_small : ∀ w ∈ wsD, smD 10 w = true := by decide +kernel
theorem q_small : ∀ w ∈ [D.str "qaq"], smD 10 w = true := by decide +kernel
theorem ev_isweave {sc d : D} {ds : List D} {ρ : Sv} {st : List O} {i j : Nat} (h1 : ρ[i]? = some (some (.tup ds))) (h2 : ρ[j]? = some (some d)) (hf : flat1 ds) (hs : isScope (.tup ds) = true) (hl : lay (.tup ds) = true) (hg : Good d) (hw : wD d ≤ 800000) (hd : dep d ≤ 64) : Ev (eCall (Call57 11) 2 (eCons (eVar i) (eCons (eVar j) (eNil))) ρ st) st (.bl (weaveOf ds d)) := ev_call (xs := [.tup ds, d]) (ev_cons (ev_var h1) fun _ _ => ev_cons (ev_var h2) fun _ _ => ev_nil) rfl fun s _ => c_is_weave 47 ds d s hf hs hl hg hw hd
abbrev lapB : Sm := sSeq (sAsg (eCall (Call57 25) 3 (eCons (eVar 1) (eCons (eIfE (eIs (eBin (pr2 dGt) (eVar 6) (eC (.int 4)))) (eVar 5) (eVar 4)) (eCons (eFrz (eLim (eCons (eC (.str "none")) (eCons (eC (.str "letter")) (eCons (eC (.str "then")) (eCons (eC (.str "on")) (eCons (eC (.str "back")) (eCons (eC (.str "mix")) (eCons (eC (.str "qaq")) (eNil)))))))))) (eNil))))) (GT.nm 5)) (sIf (eIs (eBin (pr2 (dEq true)) (ePr (pr1 dRepr) (eCons (eCall (Call57 11) 2 (eCons (eVar 3) (eCons (eVar 5) (eNil)))) (eNil))) (ePr (pr1 dRepr) (eCons (eCall (Call57 32) 2 (eCons (eVar 3) (eCons (eVar 5) (eNil)))) (eNil))))) (sRet (eC (.bl false))) (sNext))
def bents (j : Nat) : Nat := if j = 0 then 0 else if j ≤ 5 then 1 else j - 4
theorem lap_run {sc : List D} (hs : ScOk sc) {x w th : D} {t l od is mn wo wi sm : Option D} (hw : Th 0 w) {j : Nat} (hj : j < 8) (hth : Th (bents j) th) (hl : l = some (.int (j : Int))) (st : List O) : Dn (lapB (EL x t (some (.tup sc)) (some w) (some th) l od is mn wo wi sm) st) st 5 fun ρ _ => ∃ th', ρ = EL x t (some (.tup sc)) (some w) (some th') l od is mn wo wi sm ∧ Th (bents (j + 1)) th' := by
  subst hl
  -- what is bent
  obtain ⟨d, b, hd, hb, hbj, hgt⟩ : ∃ d b, Th b d ∧ b + 1 = bents (j + 1) ∧ b ≤ 3 ∧ ((decide ((4 : Int) < (j : Int)) = true → d = th) ∧ (decide ((4 : Int) < (j : Int)) = false → d = w)) := by
    by_cases h : 4 < j
    · refine ⟨th, bents j, hth, ?_, ?_, fun _ => rfl, fun z => ?_⟩
      · rcases (by omega : j = 5 ∨ j = 6 ∨ j = 7) with rfl | rfl | rfl <;> rfl
      · rcases (by omega : j = 5 ∨ j = 6 ∨ j = 7) with rfl | rfl | rfl <;> decide
      · have := of_decide_eq_false z
        omega
    · refine ⟨w, 0, hw, ?_, by omega, fun z => ?_, fun _ => rfl⟩
      · unfold bents
        rw [if_neg (by omega), if_pos (by omega)]
      · have := of_decide_eq_true z
        omega
  refine dn_seq (c := 5) (c' := 0) (P := fun ρ _ => ∃ th', ρ = EL x t (some (.tup sc)) (some w) (some th') (some (.int (j : Int))) od is mn wo wi sm ∧ Th (b + 1) th') ?_ (fun ρ s ⟨th', e, h'⟩ => ?_) (by omega)
  · refine (dn_asg (c := 5) (P := fun d' _ => Th (b + 1) d') ?_ (fun d' => EL x t (some (.tup sc)) (some w) (some d') (some (.int (j : Int))) od is mn wo wi sm) fun d' => rfl).mono (Nat.le_refl _) fun ρ s ⟨d', e, h'⟩ => ⟨d', e, h'⟩
    have hbd := hd.bound (by omega)
    refine dv_call (xs := [.loc 1, d, .lst wsD]) (ev_cons (ev_var rfl) fun _ _ => ev_cons (ev_ifE (ev_is (ev_bin (ev_var rfl) (fun s _ => ev_c) fun s _ => gt_int (j : Int) 4 s)) (fun hb s _ => ?_) fun hb s _ => ?_) fun _ _ => ev_cons (ev_frz (ev_lim (ev_cons ev_c fun _ _ => ev_cons ev_c fun _ _ => ev_cons ev_c fun _ _ => ev_cons ev_c fun _ _ => ev_cons ev_c fun _ _ => ev_cons ev_c fun _ _ => ev_cons ev_c fun _ _ => ev_nil) (by rw [sizeLine_eq]; show (7 : Nat) ≤ _; omega))) fun _ _ => ev_nil) rfl fun s _ => ?_
    · rw [hgt.1 hb]
      exact ev_var rfl
    · rw [hgt.2 hb]
      exact ev_var rfl
    · exact (c_bent 17 (310 + 2 * b) ⟨by omega, by omega⟩ hd.sd (by omega) (by have := hd.dp; omega) ws_small (by show (7 : Nat) ≤ _; omega) s).mono (Nat.le_refl _) fun y _ o => hd.next o
  · rw [e]
    have hg := h'.good (by omega)
    have hbd := h'.bound (by omega)
    have hdp := h'.dp
    refine (nx_skip (ev_reprs (neg := true) (ev_isweave (sc := .tup sc) rfl rfl hs.flat hs.scope hs.lay hg (by omega) (by omega)) (fun s _ => ev_call (xs := [.tup sc, th']) (ev_cons (ev_var rfl) fun _ _ => ev_cons (ev_var rfl) fun _ _ => ev_nil) rfl fun s _ => c_law_said hs 17 th' s hg (by omega) (by omega)) rfl)).dn.mono (Nat.le_refl _) fun ρ s ⟨e, _⟩ => ⟨th', e, by rw [← hb]; exact h'⟩
end Tk
/-! P36: one whole round. -/
namespace Tk
open PySem L2 Tl
abbrev rd0 : Sm := sAsg (eCall (Call57 19) 2 (eCons (eVar 1) (eCons (eC (.int 3)) (eNil)))) (GT.nm 3)
abbrev rd1 : Sm := sAsg (eCall (Call57 27) 3 (eCons (eVar 1) (eCons (eVar 3) (eCons (eAll (eLim (eCons (eC (.int 9)) (eNil)))) (eNil))))) (GT.nm 4)
abbrev rd2 : Sm := sIf (eOrT (eIs (eBin (pr2 (dIs true)) (eCall (Call57 11) 2 (eCons (eVar 3) (eCons (eVar 4) (eNil)))) (eC (.bl true)))) (eIs (eBin (pr2 (dIs true)) (eCallK (Call57 11) 2 2 [1, 0] (eCons (eVar 4) (eCons (eVar 3) (eNil)))) (eC (.bl true))))) (sRet (eC (.bl false))) (sNext)
abbrev rd3 : Sm := sIf (eOrT (eIs (eBin (pr2 (dEq true)) (eCall (Call57 5) 1 (eCons (eVar 3) (eNil))) (ePr (pr1 dTuple) (eCons (eCall (Call57 20) 1 (eCons (eVar 3) (eNil))) (eNil))))) (eIs (eBin (pr2 (dEq true)) (eCallK (Call57 5) 1 1 [0] (eCons (eVar 3) (eNil))) (eCall (Call57 5) 1 (eCons (eVar 3) (eNil)))))) (sRet (eC (.bl false))) (sNext)
abbrev rd4 : Sm := sAsg (eVar 4) (GT.nm 5)
abbrev rd5 : Sm := sFor (eRng1 (eCons (eC (.int 8)) (eNil))) (GT.nm 6) (sSeq (sAsg (eCall (Call57 25) 3 (eCons (eVar 1) (eCons (eIfE (eIs (eBin (pr2 dGt) (eVar 6) (eC (.int 4)))) (eVar 5) (eVar 4)) (eCons (eFrz (eLim (eCons (eC (.str "none")) (eCons (eC (.str "letter")) (eCons (eC (.str "then")) (eCons (eC (.str "on")) (eCons (eC (.str "back")) (eCons (eC (.str "mix")) (eCons (eC (.str "qaq")) (eNil)))))))))) (eNil))))) (GT.nm 5)) (sIf (eIs (eBin (pr2 (dEq true)) (ePr (pr1 dRepr) (eCons (eCall (Call57 11) 2 (eCons (eVar 3) (eCons (eVar 5) (eNil)))) (eNil))) (ePr (pr1 dRepr) (eCons (eCall (Call57 32) 2 (eCons (eVar 3) (eCons (eVar 5) (eNil)))) (eNil))))) (sRet (eC (.bl false))) (sNext)))
abbrev rd6 : Sm := sAsg (eCall (Call57 25) 3 (eCons (eVar 1) (eCons (eVar 3) (eCons (eFrz (eLim (eCons (eC (.str "qaq")) (eNil)))) (eNil))))) (GT.nm 7)
abbrev rd7 : Sm := sAsg (eAndV (eCall (Call57 30) 1 (eCons (eVar 7) (eNil))) (eBin (pr2 dLt) (ePr (pr1 dLen) (eCons (eVar 7) (eNil))) (eC (.int 4)))) (GT.nm 8)
abbrev rd8 : Sm := sIf (eNot (eTru (eVar 8))) (sSeq (sIf (eNot (eTru (eCaught sub_BadScope (eCall (Call57 5) 1 (eCons (eVar 7) (eNil)))))) (sRet (eC (.bl false))) (sNext)) (sIf (eNot (eTru (eCaught sub_BadScope (eCall (Call57 11) 2 (eCons (eVar 7) (eCons (eVar 4) (eNil))))))) (sRet (eC (.bl false))) (sNext))) (sNext)
abbrev roundB : Sm := sSeq rd0 ( sSeq rd1 ( sSeq rd2 ( sSeq rd3 ( sSeq rd4 ( sSeq rd5 ( sSeq rd6 ( sSeq rd7 (rd8))))))))
abbrev topSrc : Sv → List O → RR Src := eRng1 (eCons (eBin (pr2 dAdd) (eC (.int 3)) (ePr (pr2 dMin) (eCons (ePr (pr1 dLen) (eCons (eVar 0) (eNil))) (eCons (eC (.int 9)) (eNil))))) (eNil))
abbrev topA : Sm := sAsg (eCall (Call57 12) 1 (eCons (eVar 0) (eNil))) (GT.nm 1)
abbrev en0 : Sm := sPar (eCons (eCall (Call57 15) 2 (eCons (eVar 1) (eCons (eFrz (eLim (eCons (eC (.int 59)) (eCons (eC (.int 60)) (eCons (eC (.int 61)) (eNil)))))) (eNil)))) (eCons (eTup (eCons (eC (.str "letter")) (eCons (eTup (eNil)) (eNil)))) (eNil))) 9 10
abbrev en1 : Sm := sFor (eRng1 (eCons (eBin (pr2 dSub) (eVar 9) (eC (.int 1))) (eNil))) (GT.nm 6) (sAsg (eTup (eCons (eC (.str "on")) (eCons (eVar 10) (eNil)))) (GT.nm 10))
abbrev en2 : Sm := sIf (eIs (eBin (pr2 (dEq true)) (ePr (pr1 dRepr) (eCons (eCall (Call57 11) 2 (eCons (eTup (eNil)) (eCons (eVar 10) (eNil)))) (eNil))) (ePr (pr1 dRepr) (eCons (eBin (pr2 dLe) (eVar 9) (eC (.int 60))) (eNil))))) (sRet (eC (.bl false))) (sNext)
abbrev en3 : Sm := sAsg (eTup (eCons (eTup (eCons (eC (.str "letter")) (eCons (eTup (eNil)) (eNil)))) (eCons (eTup (eCons (eC (.str "letter")) (eCons (eTup (eNil)) (eNil)))) (eNil)))) (GT.tp [GT.nm 11, GT.nm 12])
abbrev en4 : Sm := sFor (eRng1 (eCons (eC (.int 7)) (eNil))) (GT.nm 6) (sPar (eCons (eTup (eCons (eC (.str "then")) (eCons (eVar 11) (eCons (eVar 11) (eNil))))) (eCons (eVar 11) (eNil))) 11 12)
abbrev en5 : Sm := sPar (eCons (eTup (eCons (eC (.str "then")) (eCons (eVar 11) (eCons (eVar 12) (eNil))))) (eCons (eCall (Call57 15) 2 (eCons (eVar 1) (eCons (eFrz (eLim (eCons (eC (.int 16)) (eCons (eC (.int 17)) (eCons (eC (.int 18)) (eNil)))))) (eNil)))) (eNil))) 11 9
abbrev en6 : Sm := sFor (eRng1 (eCons (eVar 9) (eNil))) (GT.nm 6) (sAsg (eTup (eCons (eC (.str "on")) (eCons (eVar 11) (eNil)))) (GT.nm 11))
abbrev en7 : Sm := sRet (eBin (pr2 (dEq false)) (ePr (pr1 dRepr) (eCons (eCall (Call57 11) 2 (eCons (eTup (eNil)) (eCons (eVar 11) (eNil)))) (eNil))) (ePr (pr1 dRepr) (eCons (eBin (pr2 dLt) (eVar 9) (eC (.int 18))) (eNil))))
abbrev lawB : Sm := sSeq topA (sSeq (sFor topSrc (GT.nm 2) roundB) (sSeq en0 ( sSeq en1 ( sSeq en2 ( sSeq en3 ( sSeq en4 ( sSeq en5 ( sSeq en6 (en7)))))))))
theorem lawB_is : f_law Call57 = lawB := rfl
theorem strs_w {n : Nat} : ∀ {l : List D}, (∀ e ∈ l, smD n e = true) → wDs l = l.length
  | [], _ => rfl
  | x :: l, h => by
    obtain ⟨y, rfl, _⟩ := sm_str (h x (by simp))
    show 1 + wDs l = l.length + 1
    rw [strs_w (n := n) fun e he => h e (by simp [he])]
    omega
theorem sc_sd {sc : List D} (h : ScOk sc) : Sd 310 (.tup sc) ∧ wD (.tup sc) ≤ 4 ∧ dep (.tup sc) ≤ 1 := by
  refine ⟨.tup fun d hd => ?_, ?_, dep_tup_le fun d hd => ?_⟩
  · obtain ⟨x, rfl, hx⟩ := sm_str (h.small d hd)
    exact .str (smS_mono hx (by omega))
  · show 1 + wDs sc ≤ 4
    rw [strs_w h.small]
    have := h.len
    omega
  · obtain ⟨x, rfl, _⟩ := sm_str (h.small d hd)
    exact Nat.zero_le _
def isL (d : D) : Bool := lawNames d && (match d with | .tup ds => decide (((ds.length : Nat) : Int) < 4) | _ => false)
theorem isL_scope {d : D} (h : isL d = false) : isScope d = false := by
  cases hs : isScope d with
  | false => rfl
  | true =>
    obtain ⟨ds, rfl, h1, h2⟩ := scope_law hs
    have : isL (.tup ds) = true := by
      show (lawNames (.tup ds) && decide (((ds.length : Nat) : Int) < 4)) = true
      rw [h1, decide_eq_true (by omega)]
      rfl
    rw [h] at this
    cases this
def Shape (x : D) (ρ : Sv) : Prop := ∃ t sc w th lap od is mn wo wi sm, ρ = EL x t sc w th lap od is mn wo wi sm
theorem rd2_ev {sc : List D} (hs : ScOk sc) {x w : D} {t th lap od is mn wo wi sm : Option D} (hw : WOk sc 9 w) (hww : wD w ≤ 150) (st : List O) : Nx (rd2 (EL x t (some (.tup sc)) (some w) th lap od is mn wo wi sm) st) st (EL x t (some (.tup sc)) (some w) th lap od is mn wo wi sm) := by
  have hth := w_th hw hww
  have hg := hth.good (by omega)
  have hd := hth.dp
  have one : ∀ s, Ev (callN 57 11 [.tup sc, w] s) s (.bl true) := fun s => by
    rw [← w_true hw hww]
    exact c_is_weave 47 sc w s hs.flat hs.scope hs.lay hg (by omega) (by omega)
  refine nx_skip (ev_or (b := false) (c := false) (ev_is (ev_bin (x := .bl true) (ev_call (xs := [.tup sc, w]) (ev_cons (ev_var rfl) fun _ _ => ev_cons (ev_var rfl) fun _ _ => ev_nil) rfl fun s _ => one s) (fun s _ => ev_c) fun s _ => rfl)) fun _ s _ => ev_is (ev_bin (x := .bl true) (ev_callK (xs := [w, .tup sc]) (ys := [.tup sc, w]) (ev_cons (ev_var rfl) fun _ _ => ev_cons (ev_var rfl) fun _ _ => ev_nil) rfl rfl rfl fun s _ => one s) (fun s _ => ev_c) fun s _ => rfl))
theorem rd3_ev {sc : List D} (hs : ScOk sc) {x : D} {t w th lap od is mn wo wi sm : Option D} (st : List O) : Nx (rd3 (EL x t (some (.tup sc)) w th lap od is mn wo wi sm) st) st (EL x t (some (.tup sc)) w th lap od is mn wo wi sm) := by
  have he := letters_eqOk hs
  have lt : ∀ s, Ev (callN 57 5 [.tup sc] s) s (.tup (lettersD sc)) := fun s => c_letters 46 sc s hs.flat hs.scope
  have lt2 : ∀ s, Ev (eCall (Call57 5) 1 (eCons (eVar 3) (eNil)) (EL x t (some (.tup sc)) w th lap od is mn wo wi sm) s) s (.tup (lettersD sc)) := fun s => ev_call (xs := [.tup sc]) (ev_cons (ev_var rfl) fun _ _ => ev_nil) rfl fun s _ => lt s
  refine nx_skip (ev_or (b := false) (c := false) (ev_is (ev_bin (x := .tup (lettersD sc)) (y := .tup (lettersD sc)) (lt2 _) (fun s _ => ev_pr (xs := [.lst (lettersD sc)]) (ev_cons (ev_call (xs := [.tup sc]) (ev_cons (ev_var rfl) fun _ _ => ev_nil) rfl fun s _ => c_law_letters 54 sc s (by have := hs.len; omega)) fun _ _ => ev_nil) fun s _ => rfl) fun s _ => ne_self he s)) fun _ s _ => ev_is (ev_bin (x := .tup (lettersD sc)) (y := .tup (lettersD sc)) (ev_callK (xs := [.tup sc]) (ys := [.tup sc]) (ev_cons (ev_var rfl) fun _ _ => ev_nil) rfl rfl rfl fun s _ => lt s) (fun s _ => lt2 s) fun s _ => ne_self he s))
theorem rd7_ev {x od : D} {t sc w th lap is mn wo wi sm : Option D} (hg : ∀ ds, od = .tup ds → flat1 ds ∧ ds.length ≤ 4000) (st : List O) : Nx (rd7 (EL x t sc w th lap (some od) is mn wo wi sm) st) st (EL x t sc w th lap (some od) (some (.bl (isL od))) mn wo wi sm) := by
  refine nx_asg (ev_andV (ev_call (xs := [od]) (ev_cons (ev_var rfl) fun _ _ => ev_nil) rfl fun s _ => c_law_are_names 54 od s hg) fun hb s _ => ?_) rfl
  cases od with
  | tup ds => exact ev_bin (ev_lenT (ev_var (i := 7) (d := .tup ds) rfl)) (fun s _ => ev_c) fun s _ => lt_int _ 4 s
  | _ => cases hb
theorem rd8_ev {x od w : D} {t sc th lap mn wo wi sm : Option D} (hg : ∀ ds, od = .tup ds → flat1 ds) (st : List O) : Nx (rd8 (EL x t sc (some w) th lap (some od) (some (.bl (isL od))) mn wo wi sm) st) st (EL x t sc (some w) th lap (some od) (some (.bl (isL od))) mn wo wi sm) := by
  refine nx_if (ev_not (ev_truB (ev_var rfl))) (fun hb s _ => ?_) fun _ s _ => nx_next
  have hn := isL_scope (show isL od = false by simpa using hb)
  refine nx_seq (nx_skip (ev_not (b := true) (ev_truB (ev_caught (ex_call (xs := [od]) (ev_cons (ev_var rfl) fun _ _ => ev_nil) rfl fun s _ => c_letters_no 46 od s hg hn))))) fun s _ => nx_skip (ev_not (b := true) (ev_truB (ev_caught (ex_call (xs := [od, w]) (ev_cons (ev_var rfl) fun _ _ => ev_cons (ev_var rfl) fun _ _ => ev_nil) rfl fun s _ => c_is_weave_no 47 od w s hg hn))))
theorem wc8 : wc 8 = 29523 := rfl
theorem round_run (x : D) (ρ : Sv) (hρ : Shape x ρ) (st : List O) : Dn (roundB ρ st) st 30000 fun ρ' _ => Shape x ρ' := by
  obtain ⟨t, sc0, w0, th0, lap0, od0, is0, mn, wo, wi, sm, rfl⟩ := hρ
  -- the scope
  refine dn_seq (c := 101) (c' := 29899) (P := fun ρ _ => ∃ sc, ScOk sc ∧ ρ = EL x t (some (.tup sc)) w0 th0 lap0 od0 is0 mn wo wi sm) ?_ (fun ρ s ⟨sc, hs, e⟩ => ?_) (by omega)
  · refine (dn_asg (c := 101) (P := fun d _ => ∃ sc, d = .tup sc ∧ ScOk sc) ?_ (fun d => EL x t (some d) w0 th0 lap0 od0 is0 mn wo wi sm) fun d => rfl).mono (Nat.le_refl _) fun ρ s ⟨d, e, sc, e2, hs⟩ => ⟨sc, hs, by rw [e, e2]⟩
    exact dv_call (xs := [.loc 1, .int 3]) (ev_cons (ev_var rfl) fun _ _ => ev_cons ev_c fun _ _ => ev_nil) rfl fun s _ => c_scope 50 s
  rw [e]
  -- the weave
  refine dn_seq (c := 29523) (c' := 376) (P := fun ρ _ => ∃ w, (WOk sc 9 w ∧ wD w ≤ 150) ∧ ρ = EL x t (some (.tup sc)) (some w) th0 lap0 od0 is0 mn wo wi sm) ?_ (fun ρ s ⟨w, ⟨hw, hww⟩, e⟩ => ?_) (by omega)
  · refine (dn_asg (c := 29523) (P := fun d _ => WOk sc 9 d ∧ wD d ≤ 150) ?_ (fun d => EL x t (some (.tup sc)) (some d) th0 lap0 od0 is0 mn wo wi sm) fun d => rfl).mono (Nat.le_refl _) fun ρ s ⟨d, e, h⟩ => ⟨d, h, e⟩
    refine dv_callP (c := 0) (c' := 29523) (R := fun xs s => ∃ L, 2 ≤ L ∧ xs = [.loc 1, .tup sc, .loc L] ∧ s[L]? = some (oneL 9)) (fun b _ hb => ?_) (fun xs s ⟨L, hL, e, hk⟩ => ⟨by rw [e]; rfl, ?_⟩) (by omega)
    · refine ⟨[.loc 1, .tup sc, .loc s.length], s ++ [oneL 9], rfl, hb.gr (Gr.one _), s.length, hb.len, rfl, by simp⟩
    · rw [e]
      refine (c_weave hs hL 41 8 9 s (by omega) (by omega) (by omega) hk).mono (Nat.le_of_eq wc8) fun d s2 ⟨l', h1, h2, h3, h4⟩ => ⟨h3, by omega⟩
  rw [e]
  have hth := w_th hw hww
  refine dn_seq (c := 0) (c' := 376) (rd2_ev hs hw hww s).dn (fun ρ s ⟨e, _⟩ => ?_) (by omega)
  rw [e]
  refine dn_seq (c := 0) (c' := 376) (rd3_ev hs s).dn (fun ρ s ⟨e, _⟩ => ?_) (by omega)
  rw [e]
  refine dn_seq (c := 0) (c' := 376) (Nx.dn (ρ' := EL x t (some (.tup sc)) (some w) (some w) lap0 od0 is0 mn wo wi sm) (nx_asg (ev_var rfl) rfl)) (fun ρ s ⟨e, _⟩ => ?_) (by omega)
  rw [e]
  -- the bends
  refine dn_seq (c := 40) (c' := 336) (P := fun ρ _ => ∃ th l, ρ = EL x t (some (.tup sc)) (some w) th l od0 is0 mn wo wi sm) ?_ (fun ρ s ⟨th, l, e⟩ => ?_) (by omega)
  · refine (dn_for (c := 5) (C := 40) (tg := GT.nm 6) (a := lapB) (rng_ev (m := 8) (ev_cons ev_c fun _ _ => ev_nil) (by omega)) rfl (fun j ρ => ∃ th l, ρ = EL x t (some (.tup sc)) (some w) (some th) l od0 is0 mn wo wi sm ∧ Th (bents j) th) ⟨w, lap0, rfl, hth⟩ (fun j d ρ s hd ⟨th, l, e, hj⟩ => ?_) (by show 8 * 5 ≤ 40; omega)).mono (Nat.le_refl _) fun ρ s ⟨th, l, e, _⟩ => ⟨some th, l, e⟩
    obtain ⟨rfl, hj8⟩ := int_at hd
    rw [e]
    refine ⟨EL x t (some (.tup sc)) (some w) (some th) (some (.int (j : Int))) od0 is0 mn wo wi sm, rfl, (lap_run hs hth hj8 hj rfl s).mono (Nat.le_refl _) fun ρ2 _ ⟨th', e, h'⟩ => ⟨th', _, e, h'⟩⟩
  rw [e]
  -- the bent scope
  obtain ⟨q1, q2, q3⟩ := sc_sd hs
  refine dn_seq (c := 5) (c' := 331) (P := fun ρ _ => ∃ od, OddOk 310 (.tup sc) od ∧ ρ = EL x t (some (.tup sc)) (some w) th l (some od) is0 mn wo wi sm) ?_ (fun ρ s ⟨od, ho, e⟩ => ?_) (by omega)
  · refine (dn_asg (c := 5) (P := fun d _ => OddOk 310 (.tup sc) d) ?_ (fun d => EL x t (some (.tup sc)) (some w) th l (some d) is0 mn wo wi sm) fun d => rfl).mono (Nat.le_refl _) fun ρ s ⟨d, e, h⟩ => ⟨d, h, e⟩
    exact dv_call (xs := [.loc 1, .tup sc, .lst [.str "qaq"]]) (ev_cons (ev_var rfl) fun _ _ => ev_cons (ev_var rfl) fun _ _ => ev_cons (ev_frz (ev_lim (ev_cons ev_c fun _ _ => ev_nil) (by rw [sizeLine_eq]; show (1 : Nat) ≤ _; omega))) fun _ _ => ev_nil) rfl fun s _ => c_bent 17 310 ⟨by omega, by omega⟩ q1 (by omega) (by omega) q_small (by show (1 : Nat) ≤ _; omega) s
  rw [e]
  have hwo := ho.2.1
  have hgo := ho.1.good (by omega) (by omega)
  have hfo : ∀ ds, od = .tup ds → flat1 ds ∧ ds.length ≤ 4000 := fun ds e => ⟨hgo.flat ds e, by
    have h1 : wD (.tup ds) = 1 + wDs ds := rfl
    have h2 := wD_len ds
    rw [e] at hwo
    omega⟩
  refine dn_seq (c := 0) (c' := 331) (rd7_ev hfo s).dn (fun ρ s ⟨e, _⟩ => ?_) (by omega)
  rw [e]
  exact (rd8_ev (fun ds e => (hfo ds e).1) s).dn.mono (by omega) fun ρ s ⟨e, _⟩ => ⟨_, _, _, _, _, _, _, _, _, _, _, e⟩
end Tk
/-! P37: the two last questions; the law. -/
namespace Tk
open PySem L2 Tl
def LT : D := .tup [.str "letter", .tup []]
def onW : Nat → D → D
  | 0, d => d
  | k + 1, d => .tup [.str "on", onW k d]
def dblW : Nat → D × D
  | 0 => (LT, LT)
  | k + 1 => (.tup [.str "then", (dblW k).1, (dblW k).1], (dblW k).1)
def wideF : D := .tup [.str "then", (dblW 7).1, (dblW 7).2]
theorem lt_sd : Sd 10 LT := .tup fun d hd => by
  simp only [List.mem_cons, List.not_mem_nil, or_false] at hd
  rcases hd with z | z <;> rw [z]
  · exact tag_sd _ (by simp)
  · exact .tup fun d hd => by cases hd
theorem on_sd {d : D} (h : Sd 10 d) : ∀ k, Sd 10 (onW k d)
  | 0 => h
  | k + 1 => .tup fun e he => by
    simp only [List.mem_cons, List.not_mem_nil, or_false] at he
    rcases he with z | z <;> rw [z]
    · exact tag_sd _ (by simp)
    · exact on_sd h k
theorem on_w (d : D) : ∀ k, wD (onW k d) = 2 * k + wD d
  | 0 => by
    show wD d = _
    omega
  | k + 1 => by
    show 1 + (1 + (wD (onW k d) + 0)) = _
    rw [on_w d k]
    omega
theorem on_dep (d : D) : ∀ k, dep (onW k d) ≤ k + dep d
  | 0 => by
    show dep d ≤ _
    omega
  | k + 1 => by
    refine Nat.le_trans (dep_tup_le (m := k + dep d) fun e he => ?_) (by omega)
    simp only [List.mem_cons, List.not_mem_nil, or_false] at he
    rcases he with z | z <;> rw [z]
    · exact Nat.zero_le _
    · exact on_dep d k
theorem dbl_sd : ∀ k, Sd 10 (dblW k).1 ∧ Sd 10 (dblW k).2
  | 0 => ⟨lt_sd, lt_sd⟩
  | k + 1 => ⟨.tup fun e he => by
    simp only [List.mem_cons, List.not_mem_nil, or_false] at he
    rcases he with z | z | z <;> rw [z]
    · exact tag_sd _ (by simp)
    · exact (dbl_sd k).1
    · exact (dbl_sd k).1, (dbl_sd k).1⟩
theorem wide_sd : Sd 10 wideF := .tup fun e he => by
  simp only [List.mem_cons, List.not_mem_nil, or_false] at he
  rcases he with z | z | z <;> rw [z]
  · exact tag_sd _ (by simp)
  · exact (dbl_sd 7).1
  · exact (dbl_sd 7).2
theorem wide_w : wD wideF ≤ 3000 := by decide +kernel
theorem wide_dep : dep wideF ≤ 30 := by decide +kernel
theorem nil_ok : ScOk [] := ⟨rfl, rfl, fun d hd => (by cases hd), by show (0 : Nat) ≤ 3; omega⟩
def tellW (d : D) : Bool := vOk [] 60 d && decide (cnt 60 d ≤ 400) && mixA 60 d
theorem tell_on : tellW (onW 58 LT) = true ∧ tellW (onW 59 LT) = true ∧ tellW (onW 60 LT) = false := by decide +kernel
theorem tell_wide : tellW (onW 16 wideF) = true ∧ tellW (onW 17 wideF) = true ∧ tellW (onW 18 wideF) = false := by decide +kernel
theorem ev_reprs' {neg : Bool} {A B : Sv → List O → RR D} {ρ : Sv} {st : List O} {a b : Bool} (hA : Ev (A ρ st) st (.bl a)) (hB : ∀ s, Gr st s → Ev (B ρ s) s (.bl b)) (hab : a = b) : Ev (eBin (pr2 (dEq neg)) (ePr (pr1 dRepr) (eCons A (eNil))) (ePr (pr1 dRepr) (eCons B (eNil))) ρ st) st (.bl (!neg)) := by
  subst hab
  refine ev_bin (x := .str (boolText a)) (y := .str (boolText a)) (ev_pr (ev_cons hA fun _ _ => ev_nil) fun s _ => rfl) (fun s g => ev_pr (ev_cons (hB s g) fun _ _ => ev_nil) fun s _ => rfl) fun s _ => ?_
  cases neg with
  | true =>
    rw [ne_str (strA_bool a) (strA_bool a), decide_eq_true rfl]
  | false =>
    rw [eq_str (strA_bool a) (strA_bool a), decide_eq_true rfl]
    rfl
theorem asks (d : D) (hs : Sd 10 d) (hw : wD d ≤ 5000) (hd : dep d ≤ 64) (s : List O) : Ev (callN 57 11 [.tup [], d] s) s (.bl (tellW d)) := by
  have := c_is_weave 47 [] d s nil_ok.flat nil_ok.scope nil_ok.lay (hs.good (by omega) (by omega)) (by omega) hd
  rw [weaveOf_eq (by show wD d < 1000000; omega)] at this
  exact this
theorem dn_par {fs : Sv → List O → RR (List D)} {ρ : Sv} {st : List O} {i j c : Nat} {P : D → D → Prop} (h : Dv (fs ρ st) st c fun xs _ => ∃ a b, xs = [a, b] ∧ P a b) : Dn (sPar fs i j ρ st) st c fun ρ' _ => ∃ a b, ρ' = (ρ.set i (some a)).set j (some b) ∧ P a b := fun b hb hs => by
  obtain ⟨xs, s, e, q, a, b', rfl, p⟩ := h b hb hs
  refine ⟨_, s, ?_, q, a, b', rfl, p⟩
  unfold sPar
  rw [e]
  rfl
theorem dv_pick3 {ρ : Sv} (h0 : ρ[1]? = some (some (.loc 1))) (a b c : Int) (st : List O) : Dv (eCall (Call57 15) 2 (eCons (eVar 1) (eCons (eFrz (eLim (eCons (eC (.int a)) (eCons (eC (.int b)) (eCons (eC (.int c)) (eNil)))))) (eNil))) ρ st) st 1 fun y _ => y ∈ [D.int a, .int b, .int c] :=
  dv_call (xs := [.loc 1, .lst [.int a, .int b, .int c]]) (ev_cons (ev_var h0) fun s _ => ev_cons (ev_frz (ev_lim (ev_cons ev_c fun _ _ => ev_cons ev_c fun _ _ => ev_cons ev_c fun _ _ => ev_nil) (by rw [sizeLine_eq]; show (3 : Nat) ≤ _; omega))) fun _ _ => ev_nil) rfl fun s _ => (c_pick 52 [.int a, .int b, .int c] s (by intro z; cases z) (by show (3 : Nat) ≤ _; omega)).mono (Nat.le_refl _) fun a _ z => z.1
theorem ev_two {ρ : Sv} {st : List O} {t : Str} {f : Sv → List O → RR D} {d : D} (h : ∀ s, Ev (f ρ s) s d) : Ev (eTup (eCons (eC (.str t)) (eCons f (eNil))) ρ st) st (.tup [.str t, d]) := ev_tup (ev_cons ev_c fun s _ => ev_cons (h s) fun _ _ => ev_nil) (by rw [sizeLine_eq]; show (2 : Nat) ≤ _; omega)
theorem en1_run (x : D) {t sc w th lap od is wi sm : Option D} (k : Nat) (hk : k ≤ 60) (st : List O) : ∃ lap', Nx (en1 (EL x t sc w th lap od is (some (.int ((k + 1 : Nat) : Int))) (some LT) wi sm) st) st (EL x t sc w th lap' od is (some (.int ((k + 1 : Nat) : Int))) (some (onW k LT)) wi sm) := by
  obtain ⟨ρ', n', l, e⟩ := nx_for (src := eRng1 (eCons (eBin (pr2 dSub) (eVar 9) (eC (.int 1))) (eNil))) (tg := GT.nm 6) (a := sAsg (eTup (eCons (eC (.str "on")) (eCons (eVar 10) (eNil)))) (GT.nm 10)) (ρ := EL x t sc w th lap od is (some (.int ((k + 1 : Nat) : Int))) (some LT) wi sm) (st := st) (s0 := ⟨intsD 0 k, none⟩)
    (rng_ev (m := k) (ev_cons (ev_bin (y := .int 1) (ev_var rfl) (fun s _ => ev_c) fun s _ => by
      show some (D.int (((k + 1 : Nat) : Int) - 1), s) = _
      rw [show ((k + 1 : Nat) : Int) - 1 = (k : Int) by omega]) fun _ _ => ev_nil) (by omega)) rfl (fun j ρ => ∃ l, ρ = EL x t sc w th l od is (some (.int ((k + 1 : Nat) : Int))) (some (onW j LT)) wi sm) ⟨lap, rfl⟩ (fun j d ρ hd ⟨l, e⟩ => by
      rw [e]
      exact ⟨EL x t sc w th (some d) od is (some (.int ((k + 1 : Nat) : Int))) (some (onW j LT)) wi sm, rfl, fun s => ⟨EL x t sc w th (some d) od is (some (.int ((k + 1 : Nat) : Int))) (some (onW (j + 1) LT)) wi sm, nx_asg (ev_two fun s => ev_var rfl) rfl, some d, rfl⟩⟩)
  rw [show (⟨intsD 0 k, none⟩ : Src).its.length = k by show (intsD 0 k).length = k; simp [intsD]] at e
  rw [e] at n'
  exact ⟨l, n'⟩
theorem en6_run (x : D) {t sc w th lap od is wo sm : Option D} (k : Nat) (hk : k ≤ 60) (st : List O) : ∃ lap', Nx (en6 (EL x t sc w th lap od is (some (.int (k : Int))) wo (some wideF) sm) st) st (EL x t sc w th lap' od is (some (.int (k : Int))) wo (some (onW k wideF)) sm) := by
  obtain ⟨ρ', n', l, e⟩ := nx_for (src := eRng1 (eCons (eVar 9) (eNil))) (tg := GT.nm 6) (a := sAsg (eTup (eCons (eC (.str "on")) (eCons (eVar 11) (eNil)))) (GT.nm 11)) (ρ := EL x t sc w th lap od is (some (.int (k : Int))) wo (some wideF) sm) (st := st) (s0 := ⟨intsD 0 k, none⟩)
    (rng_ev (m := k) (ev_cons (ev_var rfl) fun _ _ => ev_nil) (by omega)) rfl (fun j ρ => ∃ l, ρ = EL x t sc w th l od is (some (.int (k : Int))) wo (some (onW j wideF)) sm) ⟨lap, rfl⟩ (fun j d ρ hd ⟨l, e⟩ => by
      rw [e]
      exact ⟨EL x t sc w th (some d) od is (some (.int (k : Int))) wo (some (onW j wideF)) sm, rfl, fun s => ⟨EL x t sc w th (some d) od is (some (.int (k : Int))) wo (some (onW (j + 1) wideF)) sm, nx_asg (ev_two fun s => ev_var rfl) rfl, some d, rfl⟩⟩)
  rw [show (⟨intsD 0 k, none⟩ : Src).its.length = k by show (intsD 0 k).length = k; simp [intsD]] at e
  rw [e] at n'
  exact ⟨l, n'⟩
theorem en4_run (x : D) {t sc w th lap od is mn wo : Option D} (st : List O) : ∃ lap', Nx (en4 (EL x t sc w th lap od is mn wo (some LT) (some LT)) st) st (EL x t sc w th lap' od is mn wo (some (dblW 7).1) (some (dblW 7).2)) := by
  obtain ⟨ρ', n', l, e⟩ := nx_for (src := eRng1 (eCons (eC (.int 7)) (eNil))) (tg := GT.nm 6) (a := sPar (eCons (eTup (eCons (eC (.str "then")) (eCons (eVar 11) (eCons (eVar 11) (eNil))))) (eCons (eVar 11) (eNil))) 11 12) (ρ := EL x t sc w th lap od is mn wo (some LT) (some LT)) (st := st) (s0 := ⟨intsD 0 7, none⟩)
    (rng_ev (m := 7) (ev_cons ev_c fun _ _ => ev_nil) (by omega)) rfl (fun j ρ => ∃ l, ρ = EL x t sc w th l od is mn wo (some (dblW j).1) (some (dblW j).2)) ⟨lap, rfl⟩ (fun j d ρ hd ⟨l, e⟩ => by
      rw [e]
      exact ⟨EL x t sc w th (some d) od is mn wo (some (dblW j).1) (some (dblW j).2), rfl, fun s => ⟨EL x t sc w th (some d) od is mn wo (some (dblW (j + 1)).1) (some (dblW (j + 1)).2), nx_par (ev_cons (ev_tup (ev_cons ev_c fun _ _ => ev_cons (ev_var rfl) fun _ _ => ev_cons (ev_var rfl) fun _ _ => ev_nil) (by rw [sizeLine_eq]; show (3 : Nat) ≤ _; omega)) fun _ _ => ev_cons (ev_var rfl) fun _ _ => ev_nil), some d, rfl⟩⟩)
  rw [show (⟨intsD 0 7, none⟩ : Src).its.length = 7 from rfl] at e
  rw [e] at n'
  exact ⟨l, n'⟩
theorem end_run (x : D) (ρ : Sv) (hρ : Shape x ρ) (st : List O) : Dr ((sSeq en0 ( sSeq en1 ( sSeq en2 ( sSeq en3 ( sSeq en4 ( sSeq en5 ( sSeq en6 (en7)))))))) ρ st) st 2 fun d _ => d = .bl true := by
  obtain ⟨t, sc, w, th, lap, od, is, mn, wo, wi, sm, rfl⟩ := hρ
  refine dr_seq (c := 1) (c' := 1) (P := fun ρ _ => ∃ k : Nat, (k = 58 ∨ k = 59 ∨ k = 60) ∧ ρ = EL x t sc w th lap od is (some (.int ((k + 1 : Nat) : Int))) (some LT) wi sm) ?_ (fun ρ s ⟨k, hk, e⟩ => ?_) (by omega)
  · refine (dn_par (c := 1) (P := fun a b => (∃ k : Nat, (k = 58 ∨ k = 59 ∨ k = 60) ∧ a = .int ((k + 1 : Nat) : Int)) ∧ b = LT) ?_).mono (Nat.le_refl _) fun ρ s ⟨a, b, e, ⟨k, hk, ea⟩, eb⟩ => ⟨k, hk, by rw [e, ea, eb]; rfl⟩
    refine Dv.bind (c := 1) (c' := 0) (dv_pick3 rfl 59 60 61 st) (fun a s ha => ?_) (by omega)
    refine Ev.dvb (a := [LT]) (ev_cons (ev_two fun s => ev_tup ev_nil (Nat.zero_le _)) fun _ _ => ev_nil) fun s2 _ => Dv.of ⟨a, LT, rfl, ?_, rfl⟩
    simp only [List.mem_cons, List.not_mem_nil, or_false] at ha
    rcases ha with z | z | z <;> rw [z]
    · exact ⟨58, .inl rfl, rfl⟩
    · exact ⟨59, .inr (.inl rfl), rfl⟩
    · exact ⟨60, .inr (.inr rfl), rfl⟩
  rw [e]
  obtain ⟨lap1, n1⟩ := en1_run x (t := t) (sc := sc) (w := w) (th := th) (lap := lap) (od := od) (is := is) (wi := wi) (sm := sm) k (by omega) s
  refine dr_seq (c := 0) (c' := 1) n1.dn (fun ρ s ⟨e, _⟩ => ?_) (by omega)
  rw [e]
  have q1 : tellW (onW k LT) = decide (((k + 1 : Nat) : Int) ≤ 60) := by
    rcases hk with rfl | rfl | rfl
    · exact tell_on.1
    · exact tell_on.2.1
    · exact tell_on.2.2
  have hdl : dep LT ≤ 2 := by decide +kernel
  have hwl : wD LT ≤ 5 := by decide +kernel
  have n2 : Nx (en2 (EL x t sc w th lap1 od is (some (.int ((k + 1 : Nat) : Int))) (some (onW k LT)) wi sm) s) s (EL x t sc w th lap1 od is (some (.int ((k + 1 : Nat) : Int))) (some (onW k LT)) wi sm) := nx_skip (ev_reprs (neg := true) (ev_call (xs := [.tup [], onW k LT]) (ev_cons (ev_tup ev_nil (Nat.zero_le _)) fun _ _ => ev_cons (ev_var rfl) fun _ _ => ev_nil) rfl fun s _ => asks (onW k LT) (on_sd lt_sd k) (by rw [on_w]; omega) (by have := on_dep LT k; omega) s) (fun s _ => ev_bin (ev_var rfl) (fun s _ => ev_c) fun s _ => rfl) q1)
  refine dr_seq (c := 0) (c' := 1) n2.dn (fun ρ s ⟨e, _⟩ => ?_) (by omega)
  rw [e]
  have n3 : Nx (en3 (EL x t sc w th lap1 od is (some (.int ((k + 1 : Nat) : Int))) (some (onW k LT)) wi sm) s) s (EL x t sc w th lap1 od is (some (.int ((k + 1 : Nat) : Int))) (some (onW k LT)) (some LT) (some LT)) := nx_asg (d := .tup [LT, LT]) (ev_tup (ev_cons (ev_two fun s => ev_tup ev_nil (Nat.zero_le _)) fun _ _ => ev_cons (ev_two fun s => ev_tup ev_nil (Nat.zero_le _)) fun _ _ => ev_nil) (by rw [sizeLine_eq]; show (2 : Nat) ≤ _; omega)) rfl
  refine dr_seq (c := 0) (c' := 1) n3.dn (fun ρ s ⟨e, _⟩ => ?_) (by omega)
  rw [e]
  obtain ⟨lap2, n4⟩ := en4_run x (t := t) (sc := sc) (w := w) (th := th) (lap := lap1) (od := od) (is := is) (mn := some (.int ((k + 1 : Nat) : Int))) (wo := some (onW k LT)) s
  refine dr_seq (c := 0) (c' := 1) n4.dn (fun ρ s ⟨e, _⟩ => ?_) (by omega)
  rw [e]
  generalize some (D.int ((k + 1 : Nat) : Int)) = mn1
  generalize some (onW k LT) = wo1
  refine dr_seq (c := 1) (c' := 0) (P := fun ρ _ => ∃ k : Nat, (k = 16 ∨ k = 17 ∨ k = 18) ∧ ρ = EL x t sc w th lap2 od is (some (.int (k : Int))) wo1 (some wideF) (some (dblW 7).2)) ?_ (fun ρ s ⟨k, hk, e⟩ => ?_) (by omega)
  · refine (dn_par (c := 1) (P := fun a b => (∃ k : Nat, (k = 16 ∨ k = 17 ∨ k = 18) ∧ b = .int (k : Int)) ∧ a = wideF) ?_).mono (Nat.le_refl _) fun ρ s ⟨a, b, e, ⟨k, hk, ea⟩, eb⟩ => ⟨k, hk, by rw [e, ea, eb]; rfl⟩
    refine Ev.dvb (a := wideF) (ev_tup (ev_cons ev_c fun _ _ => ev_cons (ev_var rfl) fun _ _ => ev_cons (ev_var rfl) fun _ _ => ev_nil) (by rw [sizeLine_eq]; show (3 : Nat) ≤ _; omega)) fun s2 _ => ?_
    refine Dv.bind (c := 1) (c' := 0) (P := fun xs _ => ∃ k : Nat, (k = 16 ∨ k = 17 ∨ k = 18) ∧ xs = [.int (k : Int)]) ?_ (fun xs s3 ⟨k, hk, e⟩ => Dv.of ⟨wideF, .int (k : Int), by rw [e], ⟨k, hk, rfl⟩, rfl⟩) (by omega)
    refine Dv.bind (c := 1) (c' := 0) (dv_pick3 rfl 16 17 18 s2) (fun a s ha => ?_) (by omega)
    simp only [List.mem_cons, List.not_mem_nil, or_false] at ha
    rcases ha with z | z | z <;> rw [z]
    · exact Dv.of ⟨16, .inl rfl, rfl⟩
    · exact Dv.of ⟨17, .inr (.inl rfl), rfl⟩
    · exact Dv.of ⟨18, .inr (.inr rfl), rfl⟩
  rw [e]
  obtain ⟨lap3, n6⟩ := en6_run x (t := t) (sc := sc) (w := w) (th := th) (lap := lap2) (od := od) (is := is) (wo := wo1) (sm := some (dblW 7).2) k (by omega) s
  refine dr_seq (c := 0) (c' := 0) n6.dn (fun ρ s ⟨e, _⟩ => ?_) (by omega)
  rw [e]
  have q2 : tellW (onW k wideF) = decide ((k : Int) < 18) := by
    rcases hk with rfl | rfl | rfl
    · exact tell_wide.1
    · exact tell_wide.2.1
    · exact tell_wide.2.2
  exact dr_ret ((ev_reprs' (neg := false) (ev_call (xs := [.tup [], onW k wideF]) (ev_cons (ev_tup ev_nil (Nat.zero_le _)) fun _ _ => ev_cons (ev_var rfl) fun _ _ => ev_nil) rfl fun s _ => asks (onW k wideF) (on_sd wide_sd k) (by rw [on_w]; have := wide_w; omega) (by have := on_dep wideF k; have := wide_dep; omega) s) (fun s _ => ev_bin (ev_var rfl) (fun s _ => ev_c) fun s _ => lt_int _ 18 s) q2).dv.mono (Nat.le_refl _) fun d s ⟨e, _⟩ => e)
def lvl : Nat := 60
theorem callN_33 (n : Nat) : callN (n + 3) 33 = bodyOf (f_law (callN n)) 13 := rfl
theorem pure_law : ∀ ns : List Int, ns.length ≤ 63 → ∃ st, callN lvl 33 [.scr (ns.map .int)] [] = .ok (.bl true) st := fun ns hn => by
  obtain ⟨s1, e1, h1⟩ := c_begun 54 ns hn
  have ea : topA (([D.scr (ns.map .int)]).map some ++ List.replicate 12 none) [] = .nx (EL (.scr (ns.map .int)) none none none none none none none none none none none) s1 := by
    show onE (if [D.scr (ns.map .int)].length = 1 then callN 57 12 [D.scr (ns.map .int)] [] else .err) _ _ = _
    rw [if_pos (show [D.scr (ns.map .int)].length = 1 from rfl), show callN 57 12 [D.scr (ns.map .int)] [] = _ from e1]
    rfl
  have rest : Dr ((sSeq (sFor topSrc (GT.nm 2) roundB) (sSeq en0 ( sSeq en1 ( sSeq en2 ( sSeq en3 ( sSeq en4 ( sSeq en5 ( sSeq en6 (en7))))))))) (EL (.scr (ns.map .int)) none none none none none none none none none none none) s1) s1 360002 fun d _ => d = .bl true := by
    refine dr_seq (c := 360000) (c' := 2) (P := fun ρ _ => Shape (.scr (ns.map .int)) ρ) ?_ (fun ρ s h => end_run _ ρ h s) (by omega)
    have hm : Ev (topSrc (EL (.scr (ns.map .int)) none none none none none none none none none none none) s1) s1 ⟨intsD 0 (3 + min ns.length 9), none⟩ := rng_ev (ev_cons (ev_bin (x := .int 3) (y := .int (if (9 : Int) < ((ns.length : Nat) : Int) then (9 : Int) else ((ns.length : Nat) : Int))) ev_c (fun s _ => ev_pr (xs := [.int (ns.length : Nat), .int 9]) (ev_cons (ev_pr (ev_cons (ev_var rfl) fun _ _ => ev_nil) fun s _ => (by
      show some (D.int (((ns.map D.int).length : Nat) : Int), s) = _
      rw [List.length_map])) fun _ _ => ev_cons ev_c fun _ _ => ev_nil) fun s _ => rfl) fun s _ => by
        show some (D.int (3 + (if (9 : Int) < ((ns.length : Nat) : Int) then (9 : Int) else ((ns.length : Nat) : Int))), s) = _
        congr 3
        split <;> omega) fun _ _ => ev_nil) (by omega)
    refine dn_for (c := 30000) hm rfl (fun _ ρ => Shape (.scr (ns.map .int)) ρ) ⟨_, _, _, _, _, _, _, _, _, _, _, rfl⟩ (fun j d ρ s hd ⟨t, sc, w, th, lap, od, is, mn, wo, wi, sm, e⟩ => ?_) (by
      show (intsD 0 (3 + min ns.length 9)).length * 30000 ≤ 360000
      rw [show (intsD 0 (3 + min ns.length 9)).length = 3 + min ns.length 9 by simp [intsD]]
      omega)
    rw [e]
    exact ⟨EL (.scr (ns.map .int)) (some d) sc w th lap od is mn wo wi sm, rfl, round_run _ _ ⟨_, _, _, _, _, _, _, _, _, _, _, rfl⟩ s⟩
  obtain ⟨d, s2, e2, _, rfl⟩ := rest 0 (by unfold cap; omega) h1
  refine ⟨s2, ?_⟩
  show callN (57 + 3) 33 [.scr (ns.map .int)] [] = _
  rw [callN_33, lawB_is]
  unfold bodyOf
  rw [show lawB (List.map some [D.scr (ns.map .int)] ++ List.replicate (13 - [D.scr (ns.map .int)].length) none) [] = .rt (.bl true) s2 from (seq_eq ea).trans e2]
end Tk
open PySem PySem.W PyProof.Rows L2 in
set_option maxRecDepth 100000 in
set_option maxHeartbeats 0 in
theorem PySem.Challenge.cw_alongall_k00_weaves_and_letters_judged_holds : PySem.Challenge.rw_alongall_k00_weaves_and_letters_judged.Holds := by
  w_on; o_law; k_head; (case hw => w_witness2)
  k_fill
  refine LamX.walk_ofTs (l := PySem.Challenge.rw_alongall_k00_weaves_and_letters_judged) (n := 63) (k := Tk.lvl) (x := "script") (CX := fun w => L2.CX (PySem.Challenge.rw_alongall_k00_weaves_and_letters_judged).prog w) rfl (by decide) rfl ⟨rfl, by decide, by decide⟩ (fun w h Y => PySem.W.km_in_of Y) ?F (fun w H s e s' z => by obtain ⟨_, _, _, _, _, _, _, _, _, _, _, _, z⟩ := z; exact z.elim)
  case F =>
    intro w mg fa h Y KX G hmg
    refine' Tk.law_at KX G hmg PySem.F.excBase_ValueError ?ht_33 ?a_0 ?l_0 ?c_c_0 ?k_0 ?a_1 ?l_1 ?c_c_1 ?k_1 ?a_2 ?l_2 ?c_c_2 ?k_2 ?a_3 ?l_3 ?c_c_3 ?k_3 ?a_4 ?l_4 ?c_c_4 ?k_4 ?a_5 ?l_5 ?c_c_5 ?k_5 ?a_6 ?l_6 ?c_c_6 ?k_6 ?a_7 ?l_7 ?c_c_7 ?k_7 ?a_8 ?l_8 ?c_c_8 ?k_8 ?a_9 ?l_9 ?c_c_9 ?k_9 ?a_10 ?l_10 ?c_c_10 ?k_10 ?a_11 ?l_11 ?c_c_11 ?k_11 ?a_12 ?l_12 ?c_c_12 ?k_12 ?a_13 ?l_13 ?c_c_13 ?k_13 ?a_14 ?l_14 ?c_c_14 ?k_14 ?a_15 ?l_15 ?c_c_15 ?k_15 ?a_16 ?l_16 ?c_c_16 ?k_16 ?a_17 ?l_17 ?c_c_17 ?k_17 ?a_18 ?l_18 ?c_c_18 ?k_18 ?a_19 ?l_19 ?c_c_19 ?k_19 ?a_20 ?l_20 ?c_c_20 ?k_20 ?a_21 ?l_21 ?c_c_21 ?k_21 ?a_22 ?l_22 ?c_c_22 ?k_22 ?a_23 ?l_23 ?c_c_23 ?k_23 ?a_24 ?l_24 ?c_c_24 ?k_24 ?a_25 ?l_25 ?c_c_25 ?k_25 ?a_26 ?l_26 ?c_c_26 ?k_26 ?a_27 ?l_27 ?c_c_27 ?k_27 ?a_28 ?l_28 ?c_c_28 ?k_28 ?a_29 ?l_29 ?c_c_29 ?k_29 ?a_30 ?l_30 ?c_c_30 ?k_30 ?a_31 ?l_31 ?c_c_31 ?k_31 ?a_32 ?l_32 ?c_c_32 ?k_32 ?a_33 ?l_33 ?c_c_33 ?k_33 ?z_abs ?z_all ?z_bool ?z_enumerate ?z_int ?z_isinstance ?z_len ?z_list ?z_min ?z_range ?z_repr ?z_set ?z_sorted ?z_str ?z_tuple ?z_zip ?e_KEPT ?el_KEPT ?ez_KEPT ?ef_KEPT ?e_MOST_DEEP ?e_MOST_LETTERS ?e_MOST_NAMES ?e_MOST_NODES ?xa_BadScope ?xk_BadScope ?xq_BadScope ?xs_BadScope ?xt_BadScope ?a_BadScope ?a_OrderError ?hd_BadScope ?ty_BadScope ?hd_OrderError ?ty_OrderError ?sb_OrderError ?sr_BadScope ?ec_BadScope ?sn_BadScope ?nt_33 ?hl_33 ?hf_33 Tk.pure_law
    (case ht_33 => exact PySem.W.km_tabs_of Y _ List.mem_cons_self)
    (case a_0 => k_is)
    (case l_0 => k_is)
    (case c_c_0 => k_is)
    (case k_0 => k_is)
    (case a_1 => k_is)
    (case l_1 => k_is)
    (case c_c_1 => k_is)
    (case k_1 => k_is)
    (case a_2 => k_is)
    (case l_2 => k_is)
    (case c_c_2 => k_is)
    (case k_2 => k_is)
    (case a_3 => k_is)
    (case l_3 => k_is)
    (case c_c_3 => k_is)
    (case k_3 => k_is)
    (case a_4 => k_is)
    (case l_4 => k_is)
    (case c_c_4 => k_is)
    (case k_4 => k_is)
    (case a_5 => k_is)
    (case l_5 => k_is)
    (case c_c_5 => k_is)
    (case k_5 => k_is)
    (case a_6 => k_is)
    (case l_6 => k_is)
    (case c_c_6 => k_is)
    (case k_6 => k_is)
    (case a_7 => k_is)
    (case l_7 => k_is)
    (case c_c_7 => k_is)
    (case k_7 => k_is)
    (case a_8 => k_is)
    (case l_8 => k_is)
    (case c_c_8 => k_is)
    (case k_8 => k_is)
    (case a_9 => k_is)
    (case l_9 => k_is)
    (case c_c_9 => k_is)
    (case k_9 => k_is)
    (case a_10 => k_is)
    (case l_10 => k_is)
    (case c_c_10 => k_is)
    (case k_10 => k_is)
    (case a_11 => k_is)
    (case l_11 => k_is)
    (case c_c_11 => k_is)
    (case k_11 => k_is)
    (case a_12 => k_is)
    (case l_12 => k_is)
    (case c_c_12 => k_is)
    (case k_12 => k_is)
    (case a_13 => k_is)
    (case l_13 => k_is)
    (case c_c_13 => k_is)
    (case k_13 => k_is)
    (case a_14 => k_is)
    (case l_14 => k_is)
    (case c_c_14 => k_is)
    (case k_14 => k_is)
    (case a_15 => k_is)
    (case l_15 => k_is)
    (case c_c_15 => k_is)
    (case k_15 => k_is)
    (case a_16 => k_is)
    (case l_16 => k_is)
    (case c_c_16 => k_is)
    (case k_16 => k_is)
    (case a_17 => k_is)
    (case l_17 => k_is)
    (case c_c_17 => k_is)
    (case k_17 => k_is)
    (case a_18 => k_is)
    (case l_18 => k_is)
    (case c_c_18 => k_is)
    (case k_18 => k_is)
    (case a_19 => k_is)
    (case l_19 => k_is)
    (case c_c_19 => k_is)
    (case k_19 => k_is)
    (case a_20 => k_is)
    (case l_20 => k_is)
    (case c_c_20 => k_is)
    (case k_20 => k_is)
    (case a_21 => k_is)
    (case l_21 => k_is)
    (case c_c_21 => k_is)
    (case k_21 => k_is)
    (case a_22 => k_is)
    (case l_22 => k_is)
    (case c_c_22 => k_is)
    (case k_22 => k_is)
    (case a_23 => k_is)
    (case l_23 => k_is)
    (case c_c_23 => k_is)
    (case k_23 => k_is)
    (case a_24 => k_is)
    (case l_24 => k_is)
    (case c_c_24 => k_is)
    (case k_24 => k_is)
    (case a_25 => k_is)
    (case l_25 => k_is)
    (case c_c_25 => k_is)
    (case k_25 => k_is)
    (case a_26 => k_is)
    (case l_26 => k_is)
    (case c_c_26 => k_is)
    (case k_26 => k_is)
    (case a_27 => k_is)
    (case l_27 => k_is)
    (case c_c_27 => k_is)
    (case k_27 => k_is)
    (case a_28 => k_is)
    (case l_28 => k_is)
    (case c_c_28 => k_is)
    (case k_28 => k_is)
    (case a_29 => k_is)
    (case l_29 => k_is)
    (case c_c_29 => k_is)
    (case k_29 => k_is)
    (case a_30 => k_is)
    (case l_30 => k_is)
    (case c_c_30 => k_is)
    (case k_30 => k_is)
    (case a_31 => k_is)
    (case l_31 => k_is)
    (case c_c_31 => k_is)
    (case k_31 => k_is)
    (case a_32 => k_is)
    (case l_32 => k_is)
    (case c_c_32 => k_is)
    (case k_32 => k_is)
    (case a_33 => k_is)
    (case l_33 => k_is)
    (case c_c_33 => k_is)
    (case k_33 => k_is)
    (case z_abs => k_is)
    (case z_all => k_is)
    (case z_bool => k_is)
    (case z_enumerate => k_is)
    (case z_int => k_is)
    (case z_isinstance => k_is)
    (case z_len => k_is)
    (case z_list => k_is)
    (case z_min => k_is)
    (case z_range => k_is)
    (case z_repr => k_is)
    (case z_set => k_is)
    (case z_sorted => k_is)
    (case z_str => k_is)
    (case z_tuple => k_is)
    (case z_zip => k_is)
    (case e_KEPT => k_is)
    (case el_KEPT => k_is)
    (case ez_KEPT => decide)
    (case ef_KEPT => kernel_rfl)
    (case e_MOST_DEEP => k_is)
    (case e_MOST_LETTERS => k_is)
    (case e_MOST_NAMES => k_is)
    (case e_MOST_NODES => k_is)
    (case xa_BadScope => k_is)
    (case xk_BadScope => k_is)
    (case xq_BadScope => k_exc)
    (case xs_BadScope => k_is)
    (case xt_BadScope => k_is)
    (case a_BadScope => k_is)
    (case a_OrderError => k_is)
    (case hd_BadScope => k_is)
    (case ty_BadScope => k_is)
    (case hd_OrderError => k_is)
    (case ty_OrderError => k_is)
    (case sb_OrderError => k_is)
    (case sr_BadScope => k_is)
    (case ec_BadScope => (refine' ⟨?h1, ?h2, ?h3, ?h4, ?h5, ?h6, ?h7, ?h8⟩; (case h1 => k_is); (case h2 => k_is); (case h3 => k_is); (case h4 => k_is); (case h5 => k_is); (case h6 => k_is); (case h7 => k_is); (case h8 => k_is)))
    (case sn_BadScope => k_is)
    (case nt_33 => kernel_rfl)
    (case hl_33 => k_is)
    (case hf_33 => kernel_rfl)
