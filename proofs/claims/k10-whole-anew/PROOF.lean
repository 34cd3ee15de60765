import PyProof.Rows.All
import Wide.All
import OpenK.AllK
import Wide.FinOn
import HandS.Conv
import HandS.Deep
import HandS.EndBits
import HandS.ExcIs
import HandS.ForExc
import HandS.ForMost
import HandS.IsInst
import HandS.Iter
import HandS.NoneIn
import HandS.SetBool
import HandS.SetFor
import HandS.Style
import HandS.TupSets
import HandS.Wide
import HandS.Zip
import KE.SortData
import PySem.Challenge.RW_watchtogether_k10_whole_anew
set_option Elab.async false
set_option linter.all false
set_option maxRecDepth 100000
set_option maxHeartbeats 8000000
/-! Core 1: data, stores, what stands for what, later states. -/
namespace Wt
open PySem PySem.Spec PyProof.Rows L2

/-! ### data -/
inductive D where
  | non | bl (b : Bool) | int (i : Int) | str (x : Str) | tup (l : List D) | lst (l : List D) | scr (l : List D) | ins (c : Nat) (fs : List D) | loc (i : Nat) | cls (c : Nat)
instance : Inhabited D := ⟨.non⟩
inductive Cell where
  | list (l : List D) | inst (c : Nat) (fs : List D) | dK (kvs : List (Key × D)) | dT (kvs : List (List Key × D)) | lT (kvs : List (List Key × D)) | dead
abbrev Sto := List Cell
abbrev En := List (Option D)
/-- what an expression gives -/
inductive Rs (α : Type) where
  | ok (a : α) (st : Sto) | exc (c : Nat) (st : Sto) | bad
/-- what a statement gives -/
inductive Fl where
  | nx (env : En) (st : Sto) | rt (d : D) (st : Sto) | bk (env : En) (st : Sto) | ct (env : En) (st : Sto) | exc (c : Nat) (env : En) (st : Sto) | bad

/-- the fields of the classes, in the order of __init__ -/
def nms : Nat → List Str
  | 1 => ["command"]
  | 2 => ["place", "pairs"]
  | 4 => ["line"]
  | 5 => ["length", "known", "letters", "now", "lines"]
  | _ => []

mutual
def D.beq : D → D → Bool
  | .non, .non => true
  | .bl a, .bl b => a == b
  | .int a, .int b => a == b
  | .str a, .str b => a == b
  | .tup a, .tup b => D.beqs a b
  | .lst a, .lst b => D.beqs a b
  | .scr a, .scr b => D.beqs a b
  | .ins c a, .ins d b => c == d && D.beqs a b
  | .loc a, .loc b => a == b
  | .cls a, .cls b => a == b
  | _, _ => false
def D.beqs : List D → List D → Bool
  | [], [] => true
  | x :: xs, y :: ys => D.beq x y && D.beqs xs ys
  | _, _ => false
end
mutual
theorem D.beq_refl : ∀ d : D, D.beq d d = true
  | .non => by simp [D.beq]
  | .bl _ => by simp [D.beq]
  | .int _ => by simp [D.beq]
  | .str _ => by simp [D.beq]
  | .tup l => by simp [D.beq, D.beqs_refl l]
  | .lst l => by simp [D.beq, D.beqs_refl l]
  | .scr l => by simp [D.beq, D.beqs_refl l]
  | .ins c l => by simp [D.beq, D.beqs_refl l]
  | .loc _ => by simp [D.beq]
  | .cls _ => by simp [D.beq]
theorem D.beqs_refl : ∀ l : List D, D.beqs l l = true
  | [] => by simp [D.beqs]
  | x :: xs => by simp [D.beqs, D.beq_refl x, D.beqs_refl xs]
end
mutual
theorem D.beq_eq : ∀ d e : D, D.beq d e = true → d = e
  | .non, e, h => by cases e <;> simp [D.beq] at h <;> rfl
  | .bl _, e, h => by cases e <;> simp [D.beq] at h <;> rw [h]
  | .int _, e, h => by cases e <;> simp [D.beq] at h <;> rw [h]
  | .str _, e, h => by cases e <;> simp [D.beq] at h <;> rw [h]
  | .tup l, e, h => by
    cases e <;> simp [D.beq] at h
    rw [D.beqs_eq _ _ h]
  | .lst l, e, h => by
    cases e <;> simp [D.beq] at h
    rw [D.beqs_eq _ _ h]
  | .scr l, e, h => by
    cases e <;> simp [D.beq] at h
    rw [D.beqs_eq _ _ h]
  | .ins c l, e, h => by
    cases e <;> simp [D.beq] at h
    rw [h.1, D.beqs_eq _ _ h.2]
  | .loc _, e, h => by cases e <;> simp [D.beq] at h <;> rw [h]
  | .cls _, e, h => by cases e <;> simp [D.beq] at h <;> rw [h]
theorem D.beqs_eq : ∀ l m : List D, D.beqs l m = true → l = m
  | [], m, h => by cases m <;> simp [D.beqs] at h <;> rfl
  | x :: xs, m, h => by
    cases m <;> simp [D.beqs] at h
    rw [D.beq_eq _ _ h.1, D.beqs_eq _ _ h.2]
end

/-! ### what stands for what -/
structure Vw where
  /-- what stays as it is -/
  F : Addr → Prop
  /-- what is ours, and nobody else writes -/
  P : Addr → Prop
  ρ : List Addr
/-- a list from outside: frozen, or of the written part -/
def FzL (K : PySem.W.Frag) (H : Hp) (a : Addr) (xs : List V) : Prop :=
  (∃ o, H a = some (.frz o (.lst xs))) ∨ ∃ (o : Obj) (its : Array Value) (n : Nat), K.lookup a = some o ∧ o.cls = .type "list" ∧ o.dict = none ∧ o.data = .seq its n ∧ its.size ≤ sizeLine ∧ Vals xs its.toList
theorem FzL.sq {K : PySem.W.Frag} {H : Hp} {a : Addr} {xs : List V} (h : FzL K H a xs) : SqL K H a xs := by
  rcases h with ⟨o, h⟩ | h
  · exact .inl (.inr ⟨o, h⟩)
  · exact .inr h
section
variable (K : PySem.W.Frag) (G : Nat → Addr) (H : Hp) (S : Vw)
mutual
def Rep : D → V → Prop
  | .non, v => v = .non
  | .bl b, v => v = .bl b
  | .int i, v => v = .int i
  | .str x, v => v = .str x
  | .tup l, v => ∃ a vs, v = .ref a ∧ H a = some (.tup vs) ∧ Reps l vs
  | .lst l, v => ∃ a vs, v = .ref a ∧ S.F a ∧ H a = some (.lst vs) ∧ Reps l vs
  | .scr l, v => ∃ a vs, v = .ref a ∧ FzL K H a vs ∧ Reps l vs
  | .ins c fs, v => ∃ a dx vs, v = .ref a ∧ S.F a ∧ H a = some (.ins (G c) dx ((nms c).zip vs)) ∧ Reps fs vs
  | .loc i, v => ∃ a, v = .ref a ∧ S.ρ[i]? = some a
  | .cls c, v => v = .ref (G c)
def Reps : List D → List V → Prop
  | [], vs => vs = []
  | d :: ds, vs => ∃ v ws, vs = v :: ws ∧ Rep d v ∧ Reps ds ws
end
end
section
variable {K : PySem.W.Frag} {G : Nat → Addr} {H H' H2 : Hp} {S S' S2 : Vw}
theorem Reps.nil : Reps K G H S [] [] := by simp [Reps]
theorem Reps.cons {d : D} {ds : List D} {v : V} {vs : List V} (h : Rep K G H S d v) (t : Reps K G H S ds vs) : Reps K G H S (d :: ds) (v :: vs) := by
  simp only [Reps]
  exact ⟨v, vs, rfl, h, t⟩
theorem Reps.of_nil {vs : List V} (h : Reps K G H S [] vs) : vs = [] := by simpa [Reps] using h
theorem Reps.of_cons {d : D} {ds : List D} {vs : List V} (h : Reps K G H S (d :: ds) vs) : ∃ v ws, vs = v :: ws ∧ Rep K G H S d v ∧ Reps K G H S ds ws := by
  simpa [Reps] using h
theorem Reps.length : ∀ {ds : List D} {vs : List V}, Reps K G H S ds vs → ds.length = vs.length
  | [], _, h => by rw [h.of_nil]; rfl
  | d :: ds, _, h => by
    obtain ⟨v, ws, rfl, _, t⟩ := h.of_cons
    simp [Reps.length t]
theorem Reps.append : ∀ {ds es : List D} {vs ws : List V}, Reps K G H S ds vs → Reps K G H S es ws → Reps K G H S (ds ++ es) (vs ++ ws)
  | [], _, _, _, h, t => by rw [h.of_nil]; exact t
  | d :: ds, _, _, _, h, t => by
    obtain ⟨v, us, rfl, r, q⟩ := h.of_cons
    exact .cons r (Reps.append q t)
theorem Reps.get : ∀ {ds : List D} {vs : List V} {i : Nat} {d : D}, Reps K G H S ds vs → ds[i]? = some d → ∃ v, vs[i]? = some v ∧ Rep K G H S d v
  | [], _, _, _, _, e => by simp at e
  | d :: ds, _, 0, _, h, e => by
    obtain ⟨v, us, rfl, r, q⟩ := h.of_cons
    simp at e
    subst e
    exact ⟨v, rfl, r⟩
  | d :: ds, _, i + 1, _, h, e => by
    obtain ⟨v, us, rfl, r, q⟩ := h.of_cons
    simpa using Reps.get (i := i) q (by simpa using e)
theorem Reps.get' : ∀ {ds : List D} {vs : List V} {i : Nat} {v : V}, Reps K G H S ds vs → vs[i]? = some v → ∃ d, ds[i]? = some d ∧ Rep K G H S d v
  | [], _, _, _, h, e => by rw [h.of_nil] at e; simp at e
  | d :: ds, _, 0, _, h, e => by
    obtain ⟨v, us, rfl, r, q⟩ := h.of_cons
    simp at e
    subst e
    exact ⟨d, rfl, r⟩
  | d :: ds, _, i + 1, _, h, e => by
    obtain ⟨v, us, rfl, r, q⟩ := h.of_cons
    simpa using Reps.get' (i := i) q (by simpa using e)
theorem Reps.take : ∀ {ds : List D} {vs : List V} (n : Nat), Reps K G H S ds vs → Reps K G H S (ds.take n) (vs.take n)
  | _, _, 0, _ => by simpa using Reps.nil
  | [], _, n + 1, h => by rw [h.of_nil]; simpa using Reps.nil
  | d :: ds, _, n + 1, h => by
    obtain ⟨v, us, rfl, r, q⟩ := h.of_cons
    exact .cons r (Reps.take n q)
theorem Reps.drop : ∀ {ds : List D} {vs : List V} (n : Nat), Reps K G H S ds vs → Reps K G H S (ds.drop n) (vs.drop n)
  | _, _, 0, h => by simpa using h
  | [], _, n + 1, h => by rw [h.of_nil]; simpa using Reps.nil
  | d :: ds, _, n + 1, h => by
    obtain ⟨v, us, rfl, r, q⟩ := h.of_cons
    exact Reps.drop n q
theorem Reps.set {e : D} {w : V} (re : Rep K G H S e w) : ∀ {ds : List D} {vs : List V} (i : Nat), Reps K G H S ds vs → Reps K G H S (ds.set i e) (vs.set i w)
  | [], _, _, h => by rw [h.of_nil]; simpa using Reps.nil
  | d :: ds, _, 0, h => by
    obtain ⟨v, us, rfl, r, q⟩ := h.of_cons
    exact .cons re q
  | d :: ds, _, i + 1, h => by
    obtain ⟨v, us, rfl, r, q⟩ := h.of_cons
    exact .cons r (Reps.set re i q)
theorem Reps.reverse : ∀ {ds : List D} {vs : List V}, Reps K G H S ds vs → Reps K G H S ds.reverse vs.reverse
  | [], _, h => by rw [h.of_nil]; simpa using Reps.nil
  | d :: ds, _, h => by
    obtain ⟨v, us, rfl, r, q⟩ := h.of_cons
    simpa using (Reps.reverse q).append (.cons r .nil)
theorem Reps.dropLast {ds : List D} {vs : List V} (h : Reps K G H S ds vs) : Reps K G H S ds.dropLast vs.dropLast := by
  rw [List.dropLast_eq_take, List.dropLast_eq_take, h.length]
  exact h.take _
theorem Reps.one {d : D} {vs : List V} (h : Reps K G H S [d] vs) : ∃ v, vs = [v] ∧ Rep K G H S d v := by
  obtain ⟨v, us, rfl, r, q⟩ := h.of_cons
  rw [q.of_nil]
  exact ⟨v, rfl, r⟩
theorem Reps.two {d e : D} {vs : List V} (h : Reps K G H S [d, e] vs) : ∃ v w, vs = [v, w] ∧ Rep K G H S d v ∧ Rep K G H S e w := by
  obtain ⟨v, us, rfl, r, q⟩ := h.of_cons
  obtain ⟨w, rfl, q2⟩ := q.one
  exact ⟨v, w, rfl, r, q2⟩
theorem Reps.ints : ∀ {ns : List Int} {vs : List V}, Reps K G H S (ns.map D.int) vs → vs = ns.map V.int
  | [], _, h => h.of_nil
  | n :: ns, _, h => by
    obtain ⟨v, us, rfl, r, q⟩ := h.of_cons
    have r' : v = .int n := by simpa [Rep] using r
    rw [r', Reps.ints q]
    rfl
theorem Reps.of_ints : ∀ {ns : List Int}, Reps K G H S (ns.map D.int) (ns.map V.int)
  | [] => .nil
  | n :: ns => .cons (by simp [Rep]) Reps.of_ints
theorem Reps.bls : ∀ {ns : List Bool} {vs : List V}, Reps K G H S (ns.map D.bl) vs → vs = ns.map V.bl
  | [], _, h => h.of_nil
  | n :: ns, _, h => by
    obtain ⟨v, us, rfl, r, q⟩ := h.of_cons
    have r' : v = .bl n := by simpa [Rep] using r
    rw [r', Reps.bls q]
    rfl

/-! ### later states -/
structure LatR (H : Hp) (S : Vw) (H' : Hp) (S' : Vw) : Prop where
  fz : ∀ a o, S.F a → H a = some o → S'.F a ∧ H' a = some o
  tp : ∀ a xs, H a = some (.tup xs) → H' a = some (.tup xs)
  fr : ∀ a o u, H a = some (.frz o u) → H' a = some (.frz o u)
  pr : S.ρ <+: S'.ρ
structure Lat (H : Hp) (S : Vw) (H' : Hp) (S' : Vw) : Prop extends LatR H S H' S' where
  pp : ∀ a o, S.P a → H a = some o → S'.P a ∧ H' a = some o
theorem Lat.refl : Lat H S H S := { fz := fun _ _ f h => ⟨f, h⟩, pp := fun _ _ f h => ⟨f, h⟩, tp := fun _ _ h => h, fr := fun _ _ _ h => h, pr := List.prefix_rfl }
theorem Lat.trans (a : Lat H S H' S') (b : Lat H' S' H2 S2) : Lat H S H2 S2 where
  fz := fun x o f h => by
    obtain ⟨f1, h1⟩ := a.fz x o f h
    exact b.fz x o f1 h1
  pp := fun x o f h => by
    obtain ⟨f1, h1⟩ := a.pp x o f h
    exact b.pp x o f1 h1
  tp := fun x xs h => b.tp _ _ (a.tp x xs h)
  fr := fun x o u h => b.fr _ _ _ (a.fr x o u h)
  pr := a.pr.trans b.pr
theorem Lat.new {p : Addr} {o : HO} (hp : H p = none) : Lat H S (upd H p o) S where
  fz := fun x o f h => ⟨f, by rw [upd_ne (ne_of_none h hp)]; exact h⟩
  pp := fun x o f h => ⟨f, by rw [upd_ne (ne_of_none h hp)]; exact h⟩
  tp := fun x xs h => by rw [upd_ne (ne_of_none h hp)]; exact h
  fr := fun x o u h => by rw [upd_ne (ne_of_none h hp)]; exact h
  pr := List.prefix_rfl
theorem LatR.rd_t {a : Addr} {vs : List V} (l : LatR H S H' S') (h : SqT K H a vs) : SqT K H' a vs := by
  rcases h with (h | ⟨o, h⟩) | h
  · exact .inl (.inl (l.tp _ _ h))
  · exact .inl (.inr ⟨o, l.fr _ _ _ h⟩)
  · exact .inr h
theorem LatR.rd_f {a : Addr} {vs : List V} (l : LatR H S H' S') (h : FzL K H a vs) : FzL K H' a vs := by
  rcases h with ⟨o, h⟩ | h
  · exact .inl ⟨o, l.fr _ _ _ h⟩
  · exact .inr h
theorem LatR.ix {i : Nat} {a : Addr} (l : LatR H S H' S') (h : S.ρ[i]? = some a) : S'.ρ[i]? = some a := by
  obtain ⟨t, e⟩ := l.pr
  rw [← e, List.getElem?_append_left (List.getElem?_eq_some_iff.mp h).1]
  exact h
mutual
theorem Rep.monoR (l : LatR H S H' S') : ∀ {d : D} {v : V}, Rep K G H S d v → Rep K G H' S' d v
  | .non, _, h => by simpa [Rep] using h
  | .bl _, _, h => by simpa [Rep] using h
  | .int _, _, h => by simpa [Rep] using h
  | .str _, _, h => by simpa [Rep] using h
  | .tup ds, _, h => by
    simp only [Rep] at h ⊢
    obtain ⟨a, vs, e, h1, h2⟩ := h
    exact ⟨a, vs, e, l.tp _ _ h1, Reps.monoR l h2⟩
  | .lst ds, _, h => by
    simp only [Rep] at h ⊢
    obtain ⟨a, vs, e, f, h1, h2⟩ := h
    obtain ⟨f', h1'⟩ := l.fz _ _ f h1
    exact ⟨a, vs, e, f', h1', Reps.monoR l h2⟩
  | .scr ds, _, h => by
    simp only [Rep] at h ⊢
    obtain ⟨a, vs, e, h1, h2⟩ := h
    exact ⟨a, vs, e, l.rd_f h1, Reps.monoR l h2⟩
  | .ins c ds, _, h => by
    simp only [Rep] at h ⊢
    obtain ⟨a, dx, vs, e, f, h1, h2⟩ := h
    obtain ⟨f', h1'⟩ := l.fz _ _ f h1
    exact ⟨a, dx, vs, e, f', h1', Reps.monoR l h2⟩
  | .loc i, _, h => by
    simp only [Rep] at h ⊢
    obtain ⟨a, e, h⟩ := h
    exact ⟨a, e, l.ix h⟩
  | .cls _, _, h => by simpa [Rep] using h
theorem Reps.monoR (l : LatR H S H' S') : ∀ {ds : List D} {vs : List V}, Reps K G H S ds vs → Reps K G H' S' ds vs
  | [], _, h => by simpa [Reps] using h
  | d :: ds, _, h => by
    simp only [Reps] at h ⊢
    obtain ⟨v, ws, e, r, t⟩ := h
    exact ⟨v, ws, e, Rep.monoR l r, Reps.monoR l t⟩
end
theorem Rep.mono (l : Lat H S H' S') {d : D} {v : V} (r : Rep K G H S d v) : Rep K G H' S' d v := r.monoR l.toLatR
theorem Reps.mono (l : Lat H S H' S') {d : List D} {v : List V} (r : Reps K G H S d v) : Reps K G H' S' d v := r.monoR l.toLatR
theorem Lat.rd_t {a : Addr} {vs : List V} (l : Lat H S H' S') (h : SqT K H a vs) : SqT K H' a vs := l.toLatR.rd_t h

/-! ### stores -/
variable (K G H S) in
def KRep {κ : Type} : List (κ × D) → List (κ × V) → Prop := Paired fun p q => p.1 = q.1 ∧ Rep K G H S p.2 q.2
variable (K G H S) in
def CRep : Cell → Addr → Prop
  | .list l, a => ∃ vs, H a = some (.lst vs) ∧ Reps K G H S l vs
  | .inst c fs, a => ∃ dx vs, H a = some (.ins (G c) dx ((nms c).zip vs)) ∧ Reps K G H S fs vs ∧ vs.length ≤ (nms c).length
  | .dK kvs, a => ∃ us, H a = some (.dK us) ∧ KRep K G H S kvs us
  | .dT kvs, a => ∃ us, H a = some (.dT us) ∧ KRep K G H S kvs us
  | .lT kvs, a => ∃ us o, H a = some (.frz o (.dT us)) ∧ KRep K G H S kvs us
  | .dead, _ => True
variable (K G H S) in
structure Ws (st : Sto) : Prop where
  len : S.ρ.length = st.length
  nd : S.ρ.Nodup
  rl : ∀ (i : Nat) (a : Addr), S.ρ[i]? = some a → ∃ o, H a = some o
  nf : ∀ (i : Nat) (a : Addr) (c : Cell), S.ρ[i]? = some a → st[i]? = some c → c ≠ .dead → ¬ S.F a
  np : ∀ (i : Nat) (a : Addr), S.ρ[i]? = some a → ¬ S.P a
  dj : ∀ a, S.F a → ¬ S.P a
  pf : ∀ a, S.P a → ∃ o, H a = some o
  cr : ∀ (i : Nat) (a : Addr) (c : Cell), S.ρ[i]? = some a → st[i]? = some c → CRep K G H S c a
  fr : ∀ a, S.F a → ∃ o, H a = some o
theorem KRep.mono {κ : Type} {ds : List (κ × D)} {vs : List (κ × V)} (l : LatR H S H' S') (h : KRep K G H S ds vs) : KRep K G H' S' ds vs :=
  Paired.mapP h fun _ _ r => ⟨r.1, r.2.monoR l⟩
/-- a cell whose own object stands -/
theorem CRep.monoR {c : Cell} {a : Addr} (l : LatR H S H' S') (e : ∀ o, H a = some o → H' a = some o) (h : CRep K G H S c a) : CRep K G H' S' c a := by
  cases c with
  | list ds =>
    obtain ⟨vs, h1, h2⟩ := h
    exact ⟨vs, e _ h1, h2.monoR l⟩
  | inst c fs =>
    obtain ⟨dx, vs, h1, h2, h3⟩ := h
    exact ⟨dx, vs, e _ h1, h2.monoR l, h3⟩
  | dK kvs =>
    obtain ⟨us, h1, h2⟩ := h
    exact ⟨us, e _ h1, h2.mono l⟩
  | dT kvs =>
    obtain ⟨us, h1, h2⟩ := h
    exact ⟨us, e _ h1, h2.mono l⟩
  | lT kvs =>
    obtain ⟨us, o, h1, h2⟩ := h
    exact ⟨us, o, e _ h1, h2.mono l⟩
  | dead => trivial
theorem CRep.mono {c : Cell} {a : Addr} (l : Lat H S H' S') (e : ∀ o, H a = some o → H' a = some o) (h : CRep K G H S c a) : CRep K G H' S' c a := h.monoR l.toLatR e
theorem Ws.cell {st : Sto} (w : Ws K G H S st) {i : Nat} {c : Cell} (h : st[i]? = some c) : ∃ a, S.ρ[i]? = some a ∧ CRep K G H S c a := by
  have hi : i < S.ρ.length := by
    rw [w.len]
    exact (List.getElem?_eq_some_iff.mp h).1
  exact ⟨S.ρ[i], List.getElem?_eq_getElem hi, w.cr i _ c (List.getElem?_eq_getElem hi) h⟩
/-- a new object that is no cell: a tuple, or anything -/
theorem Ws.new {st : Sto} {p : Addr} {o : HO} (w : Ws K G H S st) (hp : H p = none) : Ws K G (upd H p o) S st where
  len := w.len
  nd := w.nd
  rl := fun i a h => by
    obtain ⟨u, e⟩ := w.rl i a h
    exact ⟨u, by rw [upd_ne (ne_of_none e hp)]; exact e⟩
  nf := w.nf
  np := w.np
  dj := w.dj
  pf := fun a f => by
    obtain ⟨u, e⟩ := w.pf a f
    exact ⟨u, by rw [upd_ne (ne_of_none e hp)]; exact e⟩
  cr := fun i a c h1 h2 => (w.cr i a c h1 h2).mono (Lat.new hp) fun u e => by
    rw [upd_ne (ne_of_none e hp)]
    exact e
  fr := fun a f => by
    obtain ⟨u, e⟩ := w.fr a f
    exact ⟨u, by rw [upd_ne (ne_of_none e hp)]; exact e⟩
def Vw.frz (S : Vw) (p : Addr) : Vw := { S with F := fun a => S.F a ∨ a = p }
def Vw.add (S : Vw) (p : Addr) : Vw := { S with ρ := S.ρ ++ [p] }
/-- a new object that stays as it is -/
theorem Lat.newF {p : Addr} {o : HO} (hp : H p = none) : Lat H S (upd H p o) (S.frz p) where
  fz := fun x o f h => ⟨.inl f, by rw [upd_ne (ne_of_none h hp)]; exact h⟩
  pp := fun x o f h => ⟨f, by rw [upd_ne (ne_of_none h hp)]; exact h⟩
  tp := fun x xs h => by rw [upd_ne (ne_of_none h hp)]; exact h
  fr := fun x o u h => by rw [upd_ne (ne_of_none h hp)]; exact h
  pr := List.prefix_rfl
theorem Ws.newF {st : Sto} {p : Addr} {o : HO} (w : Ws K G H S st) (hp : H p = none) : Ws K G (upd H p o) (S.frz p) st where
  len := w.len
  nd := w.nd
  rl := (w.new hp).rl
  nf := fun i a c h1 h2 h3 => by
    rintro (f | f)
    · exact w.nf i a c h1 h2 h3 f
    · obtain ⟨u, e⟩ := w.rl i a h1
      rw [f, hp] at e
      cases e
  np := w.np
  dj := fun a f pa => by
    rcases f with f | f
    · exact w.dj a f pa
    · obtain ⟨u, e⟩ := w.pf a pa
      rw [f, hp] at e
      cases e
  pf := (w.new hp).pf
  cr := fun i a c h1 h2 => (w.cr i a c h1 h2).mono (Lat.newF hp) fun u e => by
    rw [upd_ne (ne_of_none e hp)]
    exact e
  fr := fun a f => by
    rcases f with f | f
    · exact (w.new hp).fr a f
    · subst f
      exact ⟨o, upd_same⟩
/-- a new cell -/
theorem Lat.newC {p : Addr} {o : HO} (hp : H p = none) : Lat H S (upd H p o) (S.add p) where
  fz := fun x o f h => ⟨f, by rw [upd_ne (ne_of_none h hp)]; exact h⟩
  pp := fun x o f h => ⟨f, by rw [upd_ne (ne_of_none h hp)]; exact h⟩
  tp := fun x xs h => by rw [upd_ne (ne_of_none h hp)]; exact h
  fr := fun x o u h => by rw [upd_ne (ne_of_none h hp)]; exact h
  pr := List.prefix_append _ _
theorem get_add {α : Type} {l : List α} {x y : α} {i : Nat} (h : (l ++ [x])[i]? = some y) : l[i]? = some y ∨ (i = l.length ∧ y = x) := by
  by_cases hi : i < l.length
  · rw [List.getElem?_append_left hi] at h
    exact .inl h
  · rw [List.getElem?_append_right (by omega)] at h
    cases e : i - l.length with
    | zero =>
      rw [e] at h
      simp at h
      exact .inr ⟨by omega, h.symm⟩
    | succ n =>
      rw [e] at h
      simp at h
theorem Ws.newC {st : Sto} {p : Addr} {o : HO} {c : Cell} (w : Ws K G H S st) (hp : H p = none) (hc : CRep K G (upd H p o) (S.add p) c p) : Ws K G (upd H p o) (S.add p) (st ++ [c]) where
  len := by
    show (S.ρ ++ [p]).length = _
    simp [w.len]
  nd := by
    show (S.ρ ++ [p]).Nodup
    refine List.nodup_append.mpr ⟨w.nd, by simp, fun a ha b hb e => ?_⟩
    simp at hb
    subst hb
    subst e
    obtain ⟨i, hi⟩ := List.mem_iff_getElem?.mp ha
    obtain ⟨u, e⟩ := w.rl i _ hi
    rw [hp] at e
    cases e
  rl := fun i a h => by
    rcases get_add h with h | ⟨_, h⟩
    · exact (w.new hp).rl i a h
    · rw [h]
      exact ⟨o, upd_same⟩
  nf := fun i a d h1 h2 h3 f => by
    rcases get_add h1 with h1 | ⟨h1, e⟩
    · rcases get_add h2 with h2 | ⟨h2, _⟩
      · exact w.nf i a d h1 h2 h3 f
      · have := (List.getElem?_eq_some_iff.mp h1).1
        rw [w.len] at this
        omega
    · subst e
      obtain ⟨u, e⟩ := w.fr _ f
      rw [hp] at e
      cases e
  np := fun i a h pa => by
    rcases get_add h with h | ⟨_, h⟩
    · exact w.np i a h pa
    · obtain ⟨u, e⟩ := w.pf a pa
      rw [h, hp] at e
      cases e
  dj := w.dj
  pf := (w.new hp).pf
  cr := fun i a d h1 h2 => by
    rcases get_add h1 with h1 | ⟨h1, e⟩
    · rcases get_add h2 with h2 | ⟨h2, _⟩
      · exact (w.cr i a d h1 h2).mono (Lat.newC hp) fun u e => by
          rw [upd_ne (ne_of_none e hp)]
          exact e
      · have := (List.getElem?_eq_some_iff.mp h1).1
        rw [w.len] at this
        omega
    · rcases get_add h2 with h2 | ⟨_, h2⟩
      · have := (List.getElem?_eq_some_iff.mp h2).1
        rw [← w.len] at this
        omega
      · rw [e, h2]
        exact hc
  fr := fun a f => (w.new hp).fr a f
theorem Vw.add_ix {S : Vw} {p : Addr} {st : Sto} (w : Ws K G H S st) : (S.add p).ρ[st.length]? = some p := by
  show (S.ρ ++ [p])[st.length]? = some p
  rw [← w.len]
  simp
/-- a cell is written -/
theorem Ws.write {st : Sto} {i : Nat} {a : Addr} {c c' : Cell} {o : HO} (w : Ws K G H S st) (h : st[i]? = some c) (ha : S.ρ[i]? = some a) (hc : c ≠ .dead) (hn : (∀ xs, H a ≠ some (.tup xs)) ∧ ∀ o u, H a ≠ some (.frz o u))
    (hc' : CRep K G (upd H a o) S c' a) : Lat H S (upd H a o) S ∧ Ws K G (upd H a o) S (st.set i c') := by
  have nf := w.nf i a c ha h hc
  have l : Lat H S (upd H a o) S := {
    fz := fun x u f e => by
      have hx : x ≠ a := fun q => nf (q ▸ f)
      exact ⟨f, by rw [upd_ne hx]; exact e⟩
    pp := fun x u f e => by
      have hx : x ≠ a := fun q => w.np i a ha (q ▸ f)
      exact ⟨f, by rw [upd_ne hx]; exact e⟩
    tp := fun x xs e => by
      have hx : x ≠ a := fun q => hn.1 xs (q ▸ e)
      rw [upd_ne hx]
      exact e
    fr := fun x u v e => by
      have hx : x ≠ a := fun q => hn.2 u v (q ▸ e)
      rw [upd_ne hx]
      exact e
    pr := List.prefix_rfl }
  refine ⟨l, ⟨by rw [List.length_set]; exact w.len, w.nd, fun j b hj => ?_, fun j b d hj hd nd => ?_, w.np, w.dj, fun b f => ?_, fun j b d hj hd => ?_, fun b f => ?_⟩⟩
  · by_cases e : b = a
    · rw [e]
      exact ⟨o, upd_same⟩
    · rw [upd_ne e]
      exact w.rl j b hj
  · by_cases e : j = i
    · subst e
      rw [hj] at ha
      rw [Option.some.inj ha]
      exact nf
    · rw [List.getElem?_set_ne (fun q => e q.symm)] at hd
      exact w.nf j b d hj hd nd
  · obtain ⟨u, q⟩ := w.pf b f
    have hb : b ≠ a := fun z => w.np i a ha (z ▸ f)
    exact ⟨u, by rw [upd_ne hb]; exact q⟩
  · by_cases e : j = i
    · subst e
      rw [hj] at ha
      have eb := Option.some.inj ha
      subst eb
      rw [List.getElem?_set_self (List.getElem?_eq_some_iff.mp h).1] at hd
      rw [← Option.some.inj hd]
      exact hc'
    · rw [List.getElem?_set_ne (fun q => e q.symm)] at hd
      have hb : b ≠ a := by
        intro q
        subst q
        have h1 := List.getElem?_eq_some_iff.mp hj
        have h2 := List.getElem?_eq_some_iff.mp ha
        exact e (List.getElem_inj (h₀ := h1.1) (h₁ := h2.1) w.nd |>.mp (h1.2.trans h2.2.symm))
      exact (w.cr j b d hj hd).mono l fun u q => by
        rw [upd_ne hb]
        exact q
  · by_cases e : b = a
    · rw [e]
      exact ⟨o, upd_same⟩
    · rw [upd_ne e]
      exact w.fr b f

/-! ### the frame's names -/
variable (K G H S) in
structure ERep (σ : L2.St) (env : En) : Prop where
  len : σ.length = env.length
  at_ : ∀ (i : Nat) (d : D), env[i]? = some (some d) → ∃ v, σ[i]? = some (some v) ∧ Rep K G H S d v
theorem ERep.monoR {σ : L2.St} {env : En} (l : LatR H S H' S') (h : ERep K G H S σ env) : ERep K G H' S' σ env :=
  ⟨h.len, fun i d e => by
    obtain ⟨v, h1, h2⟩ := h.at_ i d e
    exact ⟨v, h1, h2.monoR l⟩⟩
theorem ERep.mono {σ : L2.St} {env : En} (l : Lat H S H' S') (h : ERep K G H S σ env) : ERep K G H' S' σ env := h.monoR l.toLatR
theorem ERep.set {σ : L2.St} {env : En} {i : Nat} {d : D} {v : V} (h : ERep K G H S σ env) (r : Rep K G H S d v) : ERep K G H S (σ.set i (some v)) (env.set i (some d)) :=
  ⟨by simp [h.len], fun j e hj => by
    by_cases q : j = i
    · subst q
      have hl : j < env.length := by
        have := (List.getElem?_eq_some_iff.mp hj).1
        simpa using this
      rw [List.getElem?_set_self hl] at hj
      have e1 : d = e := by simpa using hj
      rw [← e1]
      exact ⟨v, by rw [List.getElem?_set_self (by rw [h.len]; exact hl)], r⟩
    · rw [List.getElem?_set_ne (fun z => q z.symm)] at hj
      rw [List.getElem?_set_ne (fun z => q z.symm)]
      exact h.at_ j e hj⟩
theorem ERep.unset {σ : L2.St} {env : En} {i : Nat} (h : ERep K G H S σ env) : ERep K G H S (σ.set i none) (env.set i none) :=
  ⟨by simp [h.len], fun j e hj => by
    by_cases q : j = i
    · subst q
      have hl : j < env.length := by
        have := (List.getElem?_eq_some_iff.mp hj).1
        simpa using this
      rw [List.getElem?_set_self hl] at hj
      cases hj
    · rw [List.getElem?_set_ne (fun z => q z.symm)] at hj
      rw [List.getElem?_set_ne (fun z => q z.symm)]
      exact h.at_ j e hj⟩
end
end Wt

/-! Core 2: the readings of denotations; names, constants, operators, comparisons, tests. -/
namespace Wt
open PySem PySem.Spec PyProof.Rows L2
section
variable (K : PySem.W.Frag) (G : Nat → Addr)
structure Sm (S : Vw) (σ : L2.St) (H : Hp) (env : En) (st : Sto) : Prop where
  ws : Ws K G H S st
  er : ERep K G H S σ env
/-- what is wanted behind r -/
def Post (W : WX) (σ : L2.St) (S : Vw) (H : Hp) {α : Type} (r : Rs α) (k : Vw → Hp → α → Sto → Prop) : Prop :=
  match r with
  | .ok a st => ∀ S' H', Lat H S H' S' → Ws K G H' S' st → k S' H' a st
  | .exc c st => ∀ S' H', Lat H S H' S' → Ws K G H' S' st → W (.ref (G c)) none σ H'
  | .bad => False
abbrev Den := En → Sto → Rs D
abbrev DenL := En → Sto → Rs (List D)
abbrev DenB := En → Sto → Rs Bool
abbrev DenS := En → Sto → Fl
/-- the readings: of an expression, of one that gives a new list, of a test, of arguments -/
def tD (W : WX) (A : Den) : TE := fun σ H Q => ∃ S env st, Sm K G S σ H env st ∧ Post K G W σ S H (A env st) fun S' H' d _ => ∀ v, Rep K G H' S' d v → Q v H'
def tL (W : WX) (A : DenL) : TE := fun σ H Q => ∃ S env st, Sm K G S σ H env st ∧ Post K G W σ S H (A env st) fun S' H' l _ => ∀ vs p, Reps K G H' S' l vs → H' p = none → Q (.ref p) (upd H' p (.lst vs))
def tT (W : WX) (A : DenB) : TT := fun σ H Q => ∃ S env st, Sm K G S σ H env st ∧ Post K G W σ S H (A env st) fun S' H' b _ => Q b H'
def tA (W : WX) (A : DenL) : TA := fun σ H Q => ∃ S env st, Sm K G S σ H env st ∧ Post K G W σ S H (A env st) fun S' H' l _ => ∀ vs, Reps K G H' S' l vs → Q vs H'
end
abbrev W0 : WX := fun _ _ _ _ => False
theorem PE.imp {X : Cx} {e : Expr} {t t' : TE} (h : PE X e t) (i : ∀ σ H Q, t' σ H Q → t σ H Q) : PE X e t' := ⟨fun pins s σ H Q I q => h.run pins s σ H Q I (i σ H Q q)⟩
theorem PT.imp {X : Cx} {e : Expr} {t t' : TT} (h : PT X e t) (i : ∀ σ H Q, t' σ H Q → t σ H Q) : PT X e t' := ⟨fun pins s σ H Q I q => h.run pins s σ H Q I (i σ H Q q)⟩
theorem PW.imp {X : Cx} {e : Expr} {t t' : TT} (h : PW X e t) (i : ∀ σ H Q, t' σ H Q → t σ H Q) : PW X e t' := ⟨fun w pins s σ H Q I q => h.run w pins s σ H Q I (i σ H Q q)⟩
theorem PA.imp {X : Cx} {e : List Expr} {t t' : TA} (h : PA X e t) (i : ∀ σ H Q, t' σ H Q → t σ H Q) : PA X e t' := ⟨fun p pins s σ H Q I q => h.run p pins s σ H Q I (i σ H Q q)⟩
theorem PS.imp {X : Cx} {e : Stmt} {t t' : TS} (h : PS X e t) (i : ∀ D σ H, t' D σ H → t D σ H) : PS X e t' := ⟨fun pins s σ H D I q => h.run pins s σ H D I (i D σ H q)⟩
theorem PSs.imp {X : Cx} {e : List Stmt} {t t' : TS} (h : PSs X e t) (i : ∀ D σ H, t' D σ H → t D σ H) : PSs X e t' := ⟨fun pins s σ H D I q => h.run pins s σ H D I (i D σ H q)⟩
/-- the judgements -/
abbrev ED (X : Cx) (G : Nat → Addr) (W : WX) (A : Den) (e : Expr) : Prop := PE X e (tD X.K G W A)
abbrev EL (X : Cx) (G : Nat → Addr) (W : WX) (A : DenL) (e : Expr) : Prop := PE X e (tL X.K G W A)
abbrev EB (X : Cx) (G : Nat → Addr) (W : WX) (A : DenB) (e : Expr) : Prop := PT X e (tT X.K G W A)
abbrev EW (X : Cx) (G : Nat → Addr) (W : WX) (A : DenB) (e : Expr) : Prop := PW X e (tT X.K G W A)
abbrev EA (X : Cx) (G : Nat → Addr) (W : WX) (A : DenL) (es : List Expr) : Prop := PA X es (tA X.K G W A)

section
variable {K : PySem.W.Frag} {G : Nat → Addr} {H H' : Hp} {S S' : Vw} {σ : L2.St} {env : En} {st : Sto} {W : WX} {α β : Type}
theorem Sm.later (m : Sm K G S σ H env st) {st' : Sto} (l : Lat H S H' S') (w : Ws K G H' S' st') : Sm K G S' σ H' env st' := ⟨w, m.er.mono l⟩
theorem Post.later {r : Rs α} {k k' : Vw → Hp → α → Sto → Prop} (h : Post K G W σ S H r k) (l : Lat H S H' S') (i : ∀ S2 H2 a s, Lat H' S' H2 S2 → Ws K G H2 S2 s → k S2 H2 a s → k' S2 H2 a s) : Post K G W σ S' H' r k' := by
  cases r with
  | ok a s => exact fun S2 H2 l2 w2 => i S2 H2 a s l2 w2 (h S2 H2 (l.trans l2) w2)
  | exc c s => exact fun S2 H2 l2 w2 => h S2 H2 (l.trans l2) w2
  | bad => exact h
theorem Post.imp {r : Rs α} {k k' : Vw → Hp → α → Sto → Prop} (h : Post K G W σ S H r k) (i : ∀ S2 H2 a s, Lat H S H2 S2 → Ws K G H2 S2 s → k S2 H2 a s → k' S2 H2 a s) : Post K G W σ S H r k' := h.later .refl i
def Rs.bind (r : Rs α) (f : α → Sto → Rs β) : Rs β := match r with
  | .ok a st => f a st
  | .exc c st => .exc c st
  | .bad => .bad
/-- an operation that lets nothing out -/
def noX (r : Rs α) : Rs α := match r with
  | .exc _ _ => .bad
  | r => r
theorem Post.bind {r : Rs α} {f : α → Sto → Rs β} {k : Vw → Hp → β → Sto → Prop} (h : Post K G W σ S H (r.bind f) k) : Post K G W σ S H r fun S' H' a s => Post K G W σ S' H' (f a s) k := by
  cases r with
  | ok a s =>
    intro S' H' l w
    exact Post.later (r := f a s) h l fun _ _ _ _ _ _ q => q
  | exc c s => exact h
  | bad => exact h
theorem Post.noX {r : Rs α} {k : Vw → Hp → α → Sto → Prop} (h : Post K G W σ S H (noX r) k) : Post K G W0 σ S H r k := by
  cases r with
  | ok a s => exact h
  | exc c s => exact False.elim h
  | bad => exact h
theorem Post.ok {a : α} {s : Sto} {k : Vw → Hp → α → Sto → Prop} (h : Post K G W σ S H (.ok a s) k) (w : Ws K G H S s) : k S H a s := h S H .refl w
end

/-! ### names, constants -/
def dVar (i : Nat) : Den := fun env st => match env[i]? with
  | some (some d) => .ok d st
  | _ => .bad
def dC (d : D) : Den := fun _ st => .ok d st
section
variable {X : Cx} {G : Nat → Addr} {W : WX} {pos : Pos}
theorem ed_of_var {i : Nat} {e : Expr} (h : PE X e (tVar i)) : ED X G W (dVar i) e := PE.imp h fun σ H Q ⟨S, env, st, m, q⟩ => by
  unfold dVar at q
  cases e : env[i]? with
  | none => rw [e] at q; exact q.elim
  | some o =>
    rw [e] at q
    cases o with
    | none => exact q.elim
    | some d =>
      obtain ⟨v, h1, h2⟩ := m.er.at_ i d e
      exact ⟨v, h1, q.ok m.ws v h2⟩
theorem ed_var (i : Nat) {x : Str} (hN : X.N[i]? = some x := by rfl) (hv : Vis X.env.scope x := by first | exact Or.inl rfl | exact Or.inr (Or.inl rfl) | exact Or.inr (Or.inr rfl)) (hd : (x == ("__debug__" : Str)) = false := by decide)
    (hcd : (x == ("__classdict__" : Str)) = false := by decide) : ED X G W (dVar i) (.Name x pos) := ed_of_var (pv i hN hv hd hcd)
theorem ed_of_c {d : D} {v : V} {e : Expr} (h : PE X e (tC v)) (r : ∀ H S, Rep X.K G H S d v) : ED X G W (dC d) e := PE.imp h fun σ H Q ⟨S, env, st, m, q⟩ => Post.ok q m.ws v (r H S)
theorem ed_int {i : Int} {j : Nat} : ED X G W (dC (.int i)) (.Constant (.int i) j pos) := ed_of_c pe_int fun _ _ => by simp [Rep]
theorem ed_bl {b : Bool} {j : Nat} : ED X G W (dC (.bl b)) (.Constant (.bool b) j pos) := ed_of_c pe_bl fun _ _ => by simp [Rep]
theorem ed_non {j : Nat} : ED X G W (dC .non) (.Constant .none j pos) := ed_of_c pe_non fun _ _ => by simp [Rep]
theorem ed_str {x : Str} {j : Nat} : ED X G W (dC (.str x)) (.Constant (.str x) j pos) := ed_of_c pe_str fun _ _ => by simp [Rep]
/-- a module's number -/
theorem ed_gint {x : Str} {i : Int} {t : Tok} (hg : Gl X x) (hm : X.mg x = some (.int i t)) (hd : (x == ("__debug__" : Str)) = false := by decide) : ED X G W (dC (.int i)) (.Name x pos) :=
  ed_of_c (pe_glob (v := .int i) hg hm ⟨t, rfl⟩ hd) fun _ _ => by simp [Rep]
end

/-! ### readings off stores -/
/-- a list's items -/
def getL (st : Sto) : D → Option (List D)
  | .lst l => some l
  | .scr l => some l
  | .loc i => match st[i]? with
    | some (.list l) => some l
    | _ => none
  | _ => none
/-- .. of a list that is known as a list of ours -/
def getM (st : Sto) : D → Option (List D)
  | .lst l => some l
  | .loc i => match st[i]? with
    | some (.list l) => some l
    | _ => none
  | _ => none
section
variable {K : PySem.W.Frag} {G : Nat → Addr} {H : Hp} {S : Vw} {st : Sto}
theorem getM_at {d : D} {v : V} {l : List D} (w : Ws K G H S st) (r : Rep K G H S d v) (e : getM st d = some l) : ∃ a vs, v = .ref a ∧ H a = some (.lst vs) ∧ Reps K G H S l vs := by
  cases d <;> simp [getM] at e
  · subst e
    simp only [Rep] at r
    obtain ⟨a, vs, e, _, h1, h2⟩ := r
    exact ⟨a, vs, e, h1, h2⟩
  · rename_i i
    simp only [Rep] at r
    obtain ⟨a, ev, hi⟩ := r
    split at e
    · rename_i l' hl
      simp at e
      subst e
      obtain ⟨vs, h1, h2⟩ := w.cr i a _ hi hl
      exact ⟨a, vs, ev, h1, h2⟩
    · cases e
theorem getL_at {d : D} {v : V} {l : List D} (w : Ws K G H S st) (r : Rep K G H S d v) (e : getL st d = some l) : ∃ a vs, v = .ref a ∧ SqL K H a vs ∧ Reps K G H S l vs := by
  cases d with
  | scr m =>
    simp [getL] at e
    subst e
    simp only [Rep] at r
    obtain ⟨a, vs, e, h1, h2⟩ := r
    exact ⟨a, vs, e, h1.sq, h2⟩
  | _ =>
    obtain ⟨a, vs, e1, h1, h2⟩ := getM_at (l := l) w r (by first | exact e | cases e)
    exact ⟨a, vs, e1, SqL.of h1, h2⟩
end
/-- a list's or a tuple's items -/
def getS (st : Sto) : D → Option (List D)
  | .tup l => some l
  | d => getL st d
theorem getS_at {K : PySem.W.Frag} {G : Nat → Addr} {H : Hp} {S : Vw} {st : Sto} {d : D} {v : V} {l : List D} (w : Ws K G H S st) (r : Rep K G H S d v) (e : getS st d = some l) : ∃ a vs, v = .ref a ∧ (SqL K H a vs ∨ SqT K H a vs) ∧ Reps K G H S l vs := by
  cases d with
  | tup m =>
    simp [getS] at e
    subst e
    simp only [Rep] at r
    obtain ⟨a, vs, e, h1, h2⟩ := r
    exact ⟨a, vs, e, .inr (.inl (.inl h1)), h2⟩
  | _ =>
    obtain ⟨a, vs, e1, h1, h2⟩ := getL_at (l := l) w r (by first | exact e | cases e)
    exact ⟨a, vs, e1, .inl h1, h2⟩

/-! ### as data that is compared -/
mutual
def D.py : D → PyData
  | .non => .none
  | .bl b => .bool b
  | .int i => .int i
  | .str x => .str x
  | .tup l => .tuple (D.pys l)
  | .lst l => .list (D.pys l)
  | .scr l => .list (D.pys l)
  | _ => .dict []
def D.pys : List D → List PyData
  | [] => []
  | x :: xs => x.py :: D.pys xs
end
mutual
def D.plain : D → Bool
  | .non => true
  | .bl _ => true
  | .int _ => true
  | .str _ => true
  | .tup l => D.plains l
  | .lst l => D.plains l
  | .scr l => D.plains l
  | _ => false
def D.plains : List D → Bool
  | [] => true
  | x :: xs => x.plain && D.plains xs
end
section
variable {K : PySem.W.Frag} {G : Nat → Addr} {H : Hp} {S : Vw}
mutual
theorem Rep.dp : ∀ {d : D} {v : V}, d.plain = true → Rep K G H S d v → Dp K H v d.py
  | .non, _, _, r => by
    simp only [Rep] at r
    subst r
    simpa [D.py] using Dp.non
  | .bl b, _, _, r => by
    simp only [Rep] at r
    subst r
    simpa [D.py] using Dp.bl b
  | .int i, _, _, r => by
    simp only [Rep] at r
    subst r
    simpa [D.py] using Dp.int i
  | .str x, _, _, r => by
    simp only [Rep] at r
    subst r
    simpa [D.py] using Dp.str x
  | .tup l, _, p, r => by
    simp only [Rep] at r
    simp only [D.plain] at p
    obtain ⟨a, vs, rfl, h1, h2⟩ := r
    simpa [D.py] using Dp.tup (.inl (.inl h1)) (Reps.dp p h2)
  | .lst l, _, p, r => by
    simp only [Rep] at r
    simp only [D.plain] at p
    obtain ⟨a, vs, rfl, _, h1, h2⟩ := r
    simpa [D.py] using Dp.lst (SqL.of h1) (Reps.dp p h2)
  | .scr l, _, p, r => by
    simp only [Rep] at r
    simp only [D.plain] at p
    obtain ⟨a, vs, rfl, h1, h2⟩ := r
    simpa [D.py] using Dp.lst h1.sq (Reps.dp p h2)
  | .ins _ _, _, p, _ => by simp [D.plain] at p
  | .loc _, _, p, _ => by simp [D.plain] at p
  | .cls _, _, p, _ => by simp [D.plain] at p
theorem Reps.dp : ∀ {ds : List D} {vs : List V}, D.plains ds = true → Reps K G H S ds vs → DpAll K H vs (D.pys ds)
  | [], _, _, r => by
    rw [r.of_nil]
    simpa [D.pys] using DpAll.nil
  | d :: ds, _, p, r => by
    simp only [D.plains, Bool.and_eq_true] at p
    obtain ⟨v, ws, rfl, h1, h2⟩ := r.of_cons
    simpa [D.pys] using DpAll.cons (Rep.dp p.1 h1) (Reps.dp p.2 h2)
end
end
/-- what a value is as data: a cell's list by its items -/
def getD' (st : Sto) : D → D
  | .loc i => match st[i]? with
    | some (.list l) => .lst l
    | _ => .loc i
  | d => d
def D.okEq (d : D) : Bool := d.plain && SeqAt.shaped d.py
theorem getD_dp {K : PySem.W.Frag} {G : Nat → Addr} {H : Hp} {S : Vw} {st : Sto} {d : D} {v : V} (w : Ws K G H S st) (r : Rep K G H S d v) (p : (getD' st d).okEq = true) : Dp K H v (getD' st d).py ∧ SeqAt.shaped (getD' st d).py = true := by
  unfold D.okEq at p
  rw [Bool.and_eq_true] at p
  refine ⟨?_, p.2⟩
  have p1 := p.1
  cases d with
  | loc i =>
    simp only [Rep] at r
    obtain ⟨a, ev, hi⟩ := r
    cases e : st[i]? with
    | none => simp only [getD', e] at p1; simp [D.plain] at p1
    | some c =>
      cases c with
      | list l =>
        simp only [getD', e] at p1 ⊢
        obtain ⟨vs, h1, h2⟩ := w.cr i a _ hi e
        subst ev
        simp only [D.plain] at p1
        simpa [D.py] using Dp.lst (SqL.of h1) (Reps.dp p1 h2)
      | _ => simp only [getD', e] at p1; simp [D.plain] at p1
  | _ => exact r.dp p1

/-! ### two-place operations -/
section
variable (K : PySem.W.Frag) (G : Nat → Addr)
/-- f is covered by the rule r -/
def OpC (r : R2) (f : D → D → Sto → Rs D) : Prop := ∀ (S : Vw) (H : Hp) (st : Sto) (σ : L2.St) (dx dy : D) (x y : V) (Q : VK), Ws K G H S st → Rep K G H S dx x → Rep K G H S dy y →
  Post K G W0 σ S H (f dx dy st) (fun S' H' d _ => ∀ v, Rep K G H' S' d v → Q v H') → r x y H Q
def UnC (r : V → Hp → VK → Prop) (f : D → Sto → Rs D) : Prop := ∀ (S : Vw) (H : Hp) (st : Sto) (σ : L2.St) (dx : D) (x : V) (Q : VK), Ws K G H S st → Rep K G H S dx x →
  Post K G W0 σ S H (f dx st) (fun S' H' d _ => ∀ v, Rep K G H' S' d v → Q v H') → r x H Q
def CaC (r : List V → Hp → VK → Prop) (f : List D → Sto → Rs D) : Prop := ∀ (S : Vw) (H : Hp) (st : Sto) (σ : L2.St) (ds : List D) (xs : List V) (Q : VK), Ws K G H S st → Reps K G H S ds xs →
  Post K G W0 σ S H (f ds st) (fun S' H' d _ => ∀ v, Rep K G H' S' d v → Q v H') → r xs H Q
end
def dOp (f : D → D → Sto → Rs D) (A B : Den) : Den := fun env st => (A env st).bind fun x s => (B env s).bind fun y s => noX (f x y s)
def dUn (f : D → Sto → Rs D) (A : Den) : Den := fun env st => (A env st).bind fun x s => noX (f x s)
section
variable {X : Cx} {G : Nat → Addr} {W : WX} {pos : Pos} {A B : Den} {a b : Expr}
theorem tOp_of {r : R2} {f : D → D → Sto → Rs D} (hc : OpC X.K G r f) (σ : L2.St) (H : Hp) (Q : VK) (h : tD X.K G W (dOp f A B) σ H Q) : tOp r (tD X.K G W A) (tD X.K G W B) σ H Q := by
  obtain ⟨S, env, st, m, q⟩ := h
  refine ⟨S, env, st, m, Post.imp (Post.bind q) fun S1 H1 x s1 l1 w1 q v rv => ⟨S1, env, s1, m.later l1 w1, Post.imp (Post.bind q) fun S2 H2 y s2 l2 w2 q u ru => ?_⟩⟩
  exact hc S2 H2 s2 σ x y v u Q w2 (rv.mono l2) ru (Post.noX q)
theorem ed_op {op : Operator} {r : R2} {f : D → D → Sto → Rs D} (hc : OpC X.K G r f) (ho : OpR X (binaryOp op) r) (ha : ED X G W A a) (hb : ED X G W B b) : ED X G W (dOp f A B) (.BinOp a op b pos) :=
  PE.imp (pe_op ho ha hb) (tOp_of hc)
theorem ed_cmp {op : CmpOp} {r : R2} {f : D → D → Sto → Rs D} (hc : OpC X.K G r f) (ho : OpR X (compareOp op) r) (ha : ED X G W A a) (hb : ED X G W B b) (hm : behindInMarks op b = false) : ED X G W (dOp f A B) (.Compare a [op] [b] pos) :=
  PE.imp (pe_cmpR ho ha hb hm) (tOp_of hc)
theorem ed_un {op : UnaryOp} {r : V → Hp → VK → Prop} {f : D → Sto → Rs D} (hc : UnC X.K G r f) (ho : UnR X (unaryOp op) r) (ha : ED X G W A a) : ED X G W (dUn f A) (.UnaryOp op a pos) :=
  PE.imp (pe_un ho ha) fun σ H Q ⟨S, env, st, m, q⟩ => ⟨S, env, st, m, Post.imp (Post.bind q) fun S1 H1 x s1 l1 w1 q v rv => hc S1 H1 s1 σ x v Q w1 rv (Post.noX q)⟩
end
/-- the values of ints -/
theorem rep_int {K : PySem.W.Frag} {G : Nat → Addr} {H : Hp} {S : Vw} {i : Int} {v : V} (r : Rep K G H S (.int i) v) : v = .int i := by simpa [Rep] using r
theorem rep_bl {K : PySem.W.Frag} {G : Nat → Addr} {H : Hp} {S : Vw} {i : Bool} {v : V} (r : Rep K G H S (.bl i) v) : v = .bl i := by simpa [Rep] using r
theorem rep_non {K : PySem.W.Frag} {G : Nat → Addr} {H : Hp} {S : Vw} {v : V} (r : Rep K G H S .non v) : v = .non := by simpa [Rep] using r
theorem rep_str {K : PySem.W.Frag} {G : Nat → Addr} {H : Hp} {S : Vw} {i : Str} {v : V} (r : Rep K G H S (.str i) v) : v = .str i := by simpa [Rep] using r
theorem rep_tup {K : PySem.W.Frag} {G : Nat → Addr} {H : Hp} {S : Vw} {l : List D} {v : V} (r : Rep K G H S (.tup l) v) : ∃ a vs, v = .ref a ∧ SqT K H a vs ∧ Reps K G H S l vs := by
  simp only [Rep] at r
  obtain ⟨a, vs, e, h, q⟩ := r
  exact ⟨a, vs, e, .inl (.inl h), q⟩
theorem mk_int {K : PySem.W.Frag} {G : Nat → Addr} {H : Hp} {S : Vw} {i : Int} : Rep K G H S (.int i) (.int i) := by simp [Rep]
theorem mk_bl {K : PySem.W.Frag} {G : Nat → Addr} {H : Hp} {S : Vw} {i : Bool} : Rep K G H S (.bl i) (.bl i) := by simp [Rep]
theorem mk_non {K : PySem.W.Frag} {G : Nat → Addr} {H : Hp} {S : Vw} : Rep K G H S .non .non := by simp [Rep]
theorem mk_str {K : PySem.W.Frag} {G : Nat → Addr} {H : Hp} {S : Vw} {i : Str} : Rep K G H S (.str i) (.str i) := by simp [Rep]
/-- a new tuple, a new list that stays: what is wanted holds of it -/
theorem new_tup {K : PySem.W.Frag} {G : Nat → Addr} {H : Hp} {S : Vw} {st : Sto} {σ : L2.St} {W : WX} {l : List D} {vs : List V} {p : Addr} {Q : VK} (w : Ws K G H S st) (r : Reps K G H S l vs) (hp : H p = none)
    (q : Post K G W σ S H (.ok (.tup l) st) (fun S' H' d _ => ∀ v, Rep K G H' S' d v → Q v H')) : Q (.ref p) (upd H p (.tup vs)) :=
  q S _ (Lat.new hp) (w.new hp) _ (by
    simp only [Rep]
    exact ⟨p, vs, rfl, upd_same, r.mono (Lat.new hp)⟩)
theorem new_lst {K : PySem.W.Frag} {G : Nat → Addr} {H : Hp} {S : Vw} {st : Sto} {σ : L2.St} {W : WX} {l : List D} {vs : List V} {p : Addr} {Q : VK} (w : Ws K G H S st) (r : Reps K G H S l vs) (hp : H p = none)
    (q : Post K G W σ S H (.ok (.lst l) st) (fun S' H' d _ => ∀ v, Rep K G H' S' d v → Q v H')) : Q (.ref p) (upd H p (.lst vs)) :=
  q (S.frz p) _ (Lat.newF hp) (w.newF hp) _ (by
    simp only [Rep]
    exact ⟨p, vs, rfl, .inr rfl, upd_same, r.mono (Lat.newF hp)⟩)
theorem new_cel {K : PySem.W.Frag} {G : Nat → Addr} {H : Hp} {S : Vw} {st : Sto} {σ : L2.St} {W : WX} {l : List D} {vs : List V} {p : Addr} {Q : VK} (w : Ws K G H S st) (r : Reps K G H S l vs) (hp : H p = none)
    (q : Post K G W σ S H (.ok (.loc st.length) (st ++ [.list l])) (fun S' H' d _ => ∀ v, Rep K G H' S' d v → Q v H')) : Q (.ref p) (upd H p (.lst vs)) :=
  q (S.add p) _ (Lat.newC hp) (w.newC hp ⟨vs, upd_same, r.mono (Lat.newC hp)⟩) _ (by
    simp only [Rep]
    exact ⟨p, rfl, Vw.add_ix w⟩)

/-! ### arithmetic -/
def MulOk (i j : Int) : Bool := decide (i.natAbs.log2 + j.natAbs.log2 < 100000000)
theorem MulOk.ok {i j : Int} (h : MulOk i j = true) : IntMulOk i j := by
  have b : ∀ x : Int, Builtin.Int.intBits x ≤ x.natAbs.log2 + 1 := fun x => by
    unfold Builtin.Int.intBits
    split <;> omega
  have h1 := b i
  have h2 := b j
  have h3 : i.natAbs.log2 + j.natAbs.log2 < 100000000 := of_decide_eq_true h
  have e : bitsLine = 134217728 := by decide
  unfold IntMulOk
  intro z
  rw [Bool.and_eq_true] at z
  have z2 := z.2
  unfold Builtin.Int.intTooBig at z2
  have z3 := of_decide_eq_true z2
  rw [e] at z3
  omega
def szOk (n : Nat) : Bool := Nat.ble n 16777216
theorem szOk.ok {n : Nat} (h : szOk n = true) : n ≤ sizeLine := by
  rw [sizeLine_eq]
  exact Nat.le_of_ble_eq_true h
theorem szOk_of {n : Nat} (h : n ≤ 16777216) : szOk n = true := Nat.ble_eq_true_of_le h
def fAdd : D → D → Sto → Rs D
  | .int i, .int j, st => .ok (.int (i + j)) st
  | .tup l, .tup m, st => if !l.isEmpty && !m.isEmpty && szOk (l.length + m.length) then .ok (.tup (l ++ m)) st else .bad
  | x, y, st => match getM st x, getM st y with
    | some l, some m => if szOk (l.length + m.length) then .ok (.lst (l ++ m)) st else .bad
    | _, _ => .bad
def rAdd3 (K : PySem.W.Frag) : R2 := fun x y H Q => (∃ i j, x = .int i ∧ y = .int j ∧ Q (.int (i + j)) H) ∨ rCatT K x y H Q ∨ rCat x y H Q
theorem op_add3 {X : Cx} : OpR X (binaryOp .Add) (rAdd3 X.K) := OpR.or op_add (OpR.or op_catT op_cat)
theorem cat_lists {K : PySem.W.Frag} {G : Nat → Addr} {S : Vw} {H : Hp} {st : Sto} {σ : L2.St} {dx dy : D} {x y : V} {Q : VK} (w : Ws K G H S st) (rx : Rep K G H S dx x) (ry : Rep K G H S dy y)
    (q : Post K G W0 σ S H (match getM st dx, getM st dy with
      | some l, some m => if szOk (l.length + m.length) then Rs.ok (.lst (l ++ m)) st else .bad
      | _, _ => .bad) fun S' H' d _ => ∀ v, Rep K G H' S' d v → Q v H') : rCat x y H Q := by
  cases e1 : getM st dx with
  | none => rw [e1] at q; exact q.elim
  | some l =>
    rw [e1] at q
    cases e2 : getM st dy with
    | none => rw [e2] at q; exact q.elim
    | some m =>
      rw [e2] at q
      obtain ⟨a, vs, rfl, h1, h2⟩ := getM_at w rx e1
      obtain ⟨b, us, rfl, h3, h4⟩ := getM_at w ry e2
      dsimp only at q
      split at q
      · rename_i hz
        refine ⟨a, b, vs, us, rfl, rfl, h1, h3, ?_, fun p hp => new_lst w (h2.append h4) hp q⟩
        rw [← h2.length, ← h4.length]
        exact szOk.ok hz
      · exact q.elim
theorem opc_add {K : PySem.W.Frag} {G : Nat → Addr} : OpC K G (rAdd3 K) fAdd := by
  intro S H st σ dx dy x y Q w rx ry q
  unfold fAdd at q
  split at q
  · rename_i i j
    exact .inl ⟨i, j, rep_int rx, rep_int ry, Post.ok q w _ mk_int⟩
  · rename_i l m
    split at q
    · rename_i hz
      simp only [Bool.and_eq_true, Bool.not_eq_true', List.isEmpty_eq_false_iff] at hz
      obtain ⟨a, vs, rfl, h1, h2⟩ := rep_tup rx
      obtain ⟨b, us, rfl, h3, h4⟩ := rep_tup ry
      have n1 : vs ≠ [] := fun e => hz.1.1 (List.eq_nil_of_length_eq_zero (by rw [h2.length, e]; rfl))
      have n2 : us ≠ [] := fun e => hz.1.2 (List.eq_nil_of_length_eq_zero (by rw [h4.length, e]; rfl))
      refine .inr (.inl ⟨a, b, vs, us, rfl, rfl, h1, h3, n1, ?_, fun e => absurd e n2, fun _ p hp => new_tup w (h2.append h4) hp q⟩)
      rw [← h2.length, ← h4.length]
      exact szOk.ok hz.2
    · exact q.elim
  · exact .inr (.inr (cat_lists w rx ry q))
def fSub : D → D → Sto → Rs D
  | .int i, .int j, st => .ok (.int (i - j)) st
  | _, _, _ => .bad
theorem opc_sub {K : PySem.W.Frag} {G : Nat → Addr} : OpC K G (rI0 fun i j => .int (i - j)) fSub := by
  intro S H st σ dx dy x y Q w rx ry q
  unfold fSub at q
  split at q
  · exact ⟨_, _, rep_int rx, rep_int ry, Post.ok q w _ mk_int⟩
  · exact q.elim
def fMul : D → D → Sto → Rs D
  | .int i, .int j, st => if MulOk i j then .ok (.int (i * j)) st else .bad
  | x, .int k, st => match getM st x with
    | some l => if decide (-(2 ^ 63) ≤ k) && decide (k < 2 ^ 63) && szOk (l.length * k.toNat) then .ok (.lst (List.replicate k.toNat l).flatten) st else .bad
    | none => .bad
  | _, _, _ => .bad
theorem op_mulB {X : Cx} : OpR X (binaryOp .Mult) (rI (fun i j => MulOk i j = true) fun i j => .int (i * j)) := opI fun _ _ _ _ _ _ _ hc q => mul_int q (MulOk.ok hc)
def rMul2 : R2 := fun x y H Q => rI (fun i j => MulOk i j = true) (fun i j => .int (i * j)) x y H Q ∨ rRep x y H Q
theorem op_mul2 {X : Cx} : OpR X (binaryOp .Mult) rMul2 := OpR.or op_mulB op_rep
theorem Reps.rep {K : PySem.W.Frag} {G : Nat → Addr} {H : Hp} {S : Vw} {l : List D} {vs : List V} (r : Reps K G H S l vs) : ∀ k : Nat, Reps K G H S (List.replicate k l).flatten (List.replicate k vs).flatten
  | 0 => by simpa using Reps.nil
  | k + 1 => by
    rw [List.replicate_succ, List.replicate_succ, List.flatten_cons, List.flatten_cons]
    exact r.append (Reps.rep r k)
theorem opc_mul {K : PySem.W.Frag} {G : Nat → Addr} : OpC K G rMul2 fMul := by
  intro S H st σ dx dy x y Q w rx ry q
  unfold fMul at q
  split at q
  · split at q
    · rename_i hz
      exact .inl ⟨_, _, rep_int rx, rep_int ry, hz, Post.ok q w _ mk_int⟩
    · exact q.elim
  · rename_i k hne
    cases e1 : getM st dx with
    | none => rw [e1] at q; exact q.elim
    | some l =>
      rw [e1] at q
      obtain ⟨a, vs, rfl, h1, h2⟩ := getM_at w rx e1
      dsimp only at q
      split at q
      · rename_i hz
        simp only [Bool.and_eq_true, decide_eq_true_eq] at hz
        refine .inr ⟨a, k, vs, rfl, rep_int ry, h1, hz.1.1, hz.1.2, ?_, fun p hp => new_lst w (Reps.rep h2 _) hp q⟩
        rw [← h2.length]
        exact szOk.ok hz.2
      · exact q.elim
  · exact q.elim
def fDiv : D → D → Sto → Rs D
  | .int i, .int j, st => if decide (0 < j) && decide (j.natAbs.log2 < 9000) then .ok (.int (i / j)) st else .bad
  | _, _, _ => .bad
theorem opc_div {K : PySem.W.Frag} {G : Nat → Addr} : OpC K G (rI CDivW fun i j => .int (i / j)) fDiv := by
  intro S H st σ dx dy x y Q w rx ry q
  unfold fDiv at q
  split at q
  · split at q
    · rename_i hz
      simp only [Bool.and_eq_true, decide_eq_true_eq] at hz
      exact ⟨_, _, rep_int rx, rep_int ry, hz, Post.ok q w _ mk_int⟩
    · exact q.elim
  · exact q.elim
def fMod : D → D → Sto → Rs D
  | .int i, .int j, st => if decide (0 < j) then .ok (.int (i % j)) st else .bad
  | _, _, _ => .bad
theorem opc_mod {K : PySem.W.Frag} {G : Nat → Addr} : OpC K G (rI (fun _ j => 0 < j) fun i j => .int (i % j)) fMod := by
  intro S H st σ dx dy x y Q w rx ry q
  unfold fMod at q
  split at q
  · split at q
    · rename_i hz
      simp only [decide_eq_true_eq] at hz
      exact ⟨_, _, rep_int rx, rep_int ry, hz, Post.ok q w _ mk_int⟩
    · exact q.elim
  · exact q.elim
def fPow : D → D → Sto → Rs D
  | .int i, .int j, st => if decide (0 ≤ j) && decide (j ≤ 1000000) && decide (i.natAbs < 2 ^ 64) then .ok (.int (i ^ j.toNat)) st else .bad
  | _, _, _ => .bad
theorem opc_pow {K : PySem.W.Frag} {G : Nat → Addr} : OpC K G (rI CPow fun i j => .int (i ^ j.toNat)) fPow := by
  intro S H st σ dx dy x y Q w rx ry q
  unfold fPow at q
  split at q
  · split at q
    · rename_i hz
      simp only [Bool.and_eq_true, decide_eq_true_eq] at hz
      exact ⟨_, _, rep_int rx, rep_int ry, ⟨hz.1.1, hz.1.2, hz.2⟩, Post.ok q w _ mk_int⟩
    · exact q.elim
  · exact q.elim
def fNeg : D → Sto → Rs D
  | .int i, st => .ok (.int (-i)) st
  | _, _ => .bad
theorem unc_neg {K : PySem.W.Frag} {G : Nat → Addr} : UnC K G (rU fun i => .int (-i)) fNeg := by
  intro S H st σ dx x Q w rx q
  unfold fNeg at q
  split at q
  · exact ⟨_, rep_int rx, Post.ok q w _ mk_int⟩
  · exact q.elim

/-! ### comparisons -/
def fLt : D → D → Sto → Rs D
  | .int i, .int j, st => .ok (.bl (decide (i < j))) st
  | _, _, _ => .bad
def fLe : D → D → Sto → Rs D
  | .int i, .int j, st => .ok (.bl (decide (i ≤ j))) st
  | _, _, _ => .bad
def fGt : D → D → Sto → Rs D
  | .int i, .int j, st => .ok (.bl (decide (j < i))) st
  | _, _, _ => .bad
def fGe : D → D → Sto → Rs D
  | .int i, .int j, st => .ok (.bl (decide (j ≤ i))) st
  | _, _, _ => .bad
theorem opc_lt {K : PySem.W.Frag} {G : Nat → Addr} : OpC K G (rI0 fun i j => .bl (decide (i < j))) fLt := by
  intro S H st σ dx dy x y Q w rx ry q
  unfold fLt at q
  split at q
  · exact ⟨_, _, rep_int rx, rep_int ry, Post.ok q w _ mk_bl⟩
  · exact q.elim
theorem opc_le {K : PySem.W.Frag} {G : Nat → Addr} : OpC K G (rI0 fun i j => .bl (decide (i ≤ j))) fLe := by
  intro S H st σ dx dy x y Q w rx ry q
  unfold fLe at q
  split at q
  · exact ⟨_, _, rep_int rx, rep_int ry, Post.ok q w _ mk_bl⟩
  · exact q.elim
theorem opc_gt {K : PySem.W.Frag} {G : Nat → Addr} : OpC K G (rI0 fun i j => .bl (decide (j < i))) fGt := by
  intro S H st σ dx dy x y Q w rx ry q
  unfold fGt at q
  split at q
  · exact ⟨_, _, rep_int rx, rep_int ry, Post.ok q w _ mk_bl⟩
  · exact q.elim
theorem opc_ge {K : PySem.W.Frag} {G : Nat → Addr} : OpC K G (rI0 fun i j => .bl (decide (j ≤ i))) fGe := by
  intro S H st σ dx dy x y Q w rx ry q
  unfold fGe at q
  split at q
  · exact ⟨_, _, rep_int rx, rep_int ry, Post.ok q w _ mk_bl⟩
  · exact q.elim
/-- == of data: ints by themselves -/
def eqB (st : Sto) (x y : D) : Option Bool := match x, y with
  | .int i, .int j => some (i == j)
  | x, y => if (getD' st x).okEq && (getD' st y).okEq then some (PyData.eqv (getD' st x).py (getD' st y).py) else none
def fEq (x y : D) (st : Sto) : Rs D := match eqB st x y with
  | some b => .ok (.bl b) st
  | none => .bad
def fNe (x y : D) (st : Sto) : Rs D := match eqB st x y with
  | some b => .ok (.bl (!b)) st
  | none => .bad
theorem eqB_at {K : PySem.W.Frag} {G : Nat → Addr} {H : Hp} {S : Vw} {st : Sto} {dx dy : D} {x y : V} {b : Bool} (w : Ws K G H S st) (rx : Rep K G H S dx x) (ry : Rep K G H S dy y) (e : eqB st dx dy = some b) :
    ∃ p q, Dp K H x p ∧ Dp K H y q ∧ SeqAt.shaped p = true ∧ SeqAt.shaped q = true ∧ b = PyData.eqv p q := by
  unfold eqB at e
  split at e
  · rename_i i j
    rw [rep_int rx, rep_int ry]
    exact ⟨_, _, .int i, .int j, by rfl, by rfl, by rw [← Option.some.inj e]; simp [PyData.eqv]⟩
  · split at e
    · rename_i hz
      rw [Bool.and_eq_true] at hz
      obtain ⟨h1, h2⟩ := getD_dp w rx hz.1
      obtain ⟨h3, h4⟩ := getD_dp w ry hz.2
      exact ⟨_, _, h1, h3, h2, h4, (Option.some.inj e).symm⟩
    · cases e
theorem opc_eq {K : PySem.W.Frag} {G : Nat → Addr} : OpC K G (rEqD K) fEq := by
  intro S H st σ dx dy x y Q w rx ry q
  unfold fEq at q
  cases e : eqB st dx dy with
  | none => rw [e] at q; exact q.elim
  | some b =>
    rw [e] at q
    obtain ⟨p, r, h1, h2, h3, h4, h5⟩ := eqB_at w rx ry e
    exact ⟨p, r, h1, h2, h3, h4, Post.ok q w _ (by rw [h5]; exact mk_bl)⟩
theorem opc_ne {K : PySem.W.Frag} {G : Nat → Addr} : OpC K G (rNeD K) fNe := by
  intro S H st σ dx dy x y Q w rx ry q
  unfold fNe at q
  cases e : eqB st dx dy with
  | none => rw [e] at q; exact q.elim
  | some b =>
    rw [e] at q
    obtain ⟨p, r, h1, h2, h3, h4, h5⟩ := eqB_at w rx ry e
    exact ⟨p, r, h1, h2, h3, h4, Post.ok q w _ (by rw [h5]; exact mk_bl)⟩
/-- x in y, y a list of data or a tuple of flat items -/
def D.flat : D → Bool
  | .non => true
  | .bl _ => true
  | .int _ => true
  | .str _ => true
  | _ => false
def inB (st : Sto) (x y : D) : Option Bool := match y with
  | .tup l => if x.flat && l.all D.flat then some (l.any fun z => PyData.eqv z.py x.py) else none
  | y => if x.okEq && (getD' st y).okEq then (getL st y).map fun l => l.any fun z => PyData.eqv z.py x.py else none
def fIn (x y : D) (st : Sto) : Rs D := match inB st x y with
  | some b => .ok (.bl b) st
  | none => .bad
def fNotIn (x y : D) (st : Sto) : Rs D := match inB st x y with
  | some b => .ok (.bl (!b)) st
  | none => .bad
section
variable {K : PySem.W.Frag} {G : Nat → Addr} {H : Hp} {S : Vw} {st : Sto}
theorem flat_v {d : D} {v : V} (r : Rep K G H S d v) (f : d.flat = true) : flatV v = true := by
  cases d <;> simp [D.flat] at f
  · rw [rep_non r]; rfl
  · rw [rep_bl r]; rfl
  · rw [rep_int r]; rfl
  · rw [rep_str r]; rfl
theorem flat_eq {d e : D} {v u : V} (r : Rep K G H S d v) (f : d.flat = true) (r' : Rep K G H S e u) (f' : e.flat = true) : eqV v u = PyData.eqv d.py e.py := by
  cases d <;> simp [D.flat] at f <;> cases e <;> simp [D.flat] at f' <;> simp only [Rep] at r r' <;> subst r <;> subst r' <;> simp [eqV, D.py, PyData.eqv]
theorem flat_all : ∀ {l : List D} {vs : List V}, Reps K G H S l vs → l.all D.flat = true → vs.all flatV = true
  | [], _, r, _ => by rw [r.of_nil]; rfl
  | d :: ds, _, r, f => by
    obtain ⟨v, ws, rfl, h1, h2⟩ := r.of_cons
    simp only [List.all_cons, Bool.and_eq_true] at f ⊢
    exact ⟨flat_v h1 f.1, flat_all h2 f.2⟩
theorem flat_any {e : D} {u : V} (r' : Rep K G H S e u) (f' : e.flat = true) : ∀ {l : List D} {vs : List V}, Reps K G H S l vs → l.all D.flat = true → inV u vs = l.any fun z => PyData.eqv z.py e.py
  | [], _, r, _ => by rw [r.of_nil]; rfl
  | d :: ds, _, r, f => by
    obtain ⟨v, ws, rfl, h1, h2⟩ := r.of_cons
    simp only [List.all_cons, Bool.and_eq_true] at f
    have ih := flat_any r' f' h2 f.2
    unfold inV at ih ⊢
    rw [List.any_cons, List.any_cons, ih, flat_eq h1 f.1 r' f']
theorem pys_any (e : PyData) : ∀ l : List D, (D.pys l).any (fun z => PyData.eqv z e) = l.any fun z => PyData.eqv z.py e
  | [] => rfl
  | x :: xs => by simp [D.pys, pys_any e xs]
def rIn2 (K : PySem.W.Frag) (neg : Bool) : R2 := fun x y H Q => rIn K neg x y H Q ∨ (∃ d ds, Dp K H x d ∧ Dp K H y (.list ds) ∧ SeqAt.shaped d = true ∧ SeqAt.shaped (.list ds) = true ∧ Q (.bl (if neg then !ds.any fun z => PyData.eqv z d else ds.any fun z => PyData.eqv z d)) H)
theorem inB_at {dx dy : D} {x y : V} {b neg : Bool} {Q : VK} (w : Ws K G H S st) (rx : Rep K G H S dx x) (ry : Rep K G H S dy y) (e : inB st dx dy = some b) (q : Q (.bl (if neg then !b else b)) H) : rIn2 K neg x y H Q := by
  unfold inB at e
  split at e
  · rename_i l
    split at e
    · rename_i hz
      rw [Bool.and_eq_true] at hz
      obtain ⟨a, vs, rfl, h1, h2⟩ := rep_tup ry
      refine .inl ⟨a, vs, rfl, .inr h1, flat_v rx hz.1, flat_all h2 hz.2, ?_⟩
      rw [flat_any rx hz.1 h2 hz.2, Option.some.inj e]
      exact q
    · cases e
  · split at e
    · rename_i hz
      rw [Bool.and_eq_true] at hz
      have hx : dx.okEq = true := hz.1
      unfold D.okEq at hx
      rw [Bool.and_eq_true] at hx
      have d1 := rx.dp hx.1
      obtain ⟨d2, s2⟩ := getD_dp w ry hz.2
      cases el : getL st dy with
      | none => rw [el] at e; cases e
      | some l =>
        rw [el] at e
        have eb : (l.any fun z => PyData.eqv z.py dx.py) = b := by simpa using e
        have ed : (getD' st dy).py = .list (D.pys l) := by
          cases dy <;> simp [getL] at el
          · subst el; simp [getD', D.py]
          · subst el; simp [getD', D.py]
          · rename_i i
            split at el
            · rename_i l' hl
              simp at el
              subst el
              simp [getD', hl, D.py]
            · cases el
        rw [ed] at d2 s2
        refine .inr ⟨_, _, d1, d2, hx.2, s2, ?_⟩
        rw [pys_any, eb]
        exact q
    · cases e
theorem opc_in : OpC K G (rIn2 K false) fIn := by
  intro S H st σ dx dy x y Q w rx ry q
  unfold fIn at q
  cases e : inB st dx dy with
  | none => rw [e] at q; exact q.elim
  | some b =>
    rw [e] at q
    exact inB_at (neg := false) w rx ry e (Post.ok q w _ mk_bl)
theorem opc_notIn : OpC K G (rIn2 K true) fNotIn := by
  intro S H st σ dx dy x y Q w rx ry q
  unfold fNotIn at q
  cases e : inB st dx dy with
  | none => rw [e] at q; exact q.elim
  | some b =>
    rw [e] at q
    exact inB_at (neg := true) w rx ry e (Post.ok q w _ mk_bl)
end
theorem op_in2 {X : Cx} (hu : X.A.units + 65 < cLine) : OpR X (compareOp .In) (rIn2 X.K false) := OpR.or op_in_seq (op_inD hu)
theorem op_notIn2 {X : Cx} (hu : X.A.units + 65 < cLine) : OpR X (compareOp .NotIn) (rIn2 X.K true) := OpR.or op_notIn_seq (op_notInD hu)
end Wt

/-! Core 3: tests, displays, arguments, built-in calls, subscripts, slices. -/
namespace Wt
open PySem PySem.Spec PyProof.Rows L2

/-! ### tests -/
def dTest (A : Den) : DenB := fun env st => (A env st).bind fun d s => match d with
  | .bl b => .ok b s
  | _ => .bad
section
variable {X : Cx} {G : Nat → Addr} {W : WX} {pos : Pos} {A B C : Den} {P R : DenB} {a b c e : Expr} {rest : List Expr}
theorem test_of {t : TE} (i : ∀ σ H Q, tD X.K G W A σ H Q → t σ H Q) (σ : L2.St) (H : Hp) (Q : Bool → Hp → Prop) (h : tT X.K G W (dTest A) σ H Q) : t σ H fun x H' => ∃ k, x = .bl k ∧ Q k H' := by
  obtain ⟨S, env, st, m, q⟩ := h
  refine i σ H _ ⟨S, env, st, m, Post.imp (Post.bind q) fun S1 H1 d s1 l1 w1 q v rv => ?_⟩
  split at q
  · exact ⟨_, rep_bl rv, Post.ok q w1⟩
  · exact q.elim
theorem eb_val (h : ED X G W A e) (he : ∀ whole, isTrue e X.env whole = (do let v ← whole; standAt e.pos; holding [v] (truthy v)) := by intro _; rfl) : EB X G W (dTest A) e :=
  PT.imp (pt_val h he) (test_of fun _ _ _ q => q)
theorem eb_cmp {op : CmpOp} {r : R2} {f : D → D → Sto → Rs D} (hc : OpC X.K G r f) (ho : OpR X (compareOp op) r) (ha : ED X G W A a) (hb : ED X G W B b) (hm : behindInMarks op b = false) : EB X G W (dTest (dOp f A B)) (.Compare a [op] [b] pos) :=
  PT.imp (pt_cmpR ho ha hb hm) (test_of (tOp_of hc))
def dChain (f g : D → D → Sto → Rs D) (A B C : Den) : Den := fun env st => (A env st).bind fun x s => (B env s).bind fun y s => (noX (f x y s)).bind fun z s => match z with
  | .bl true => (C env s).bind fun u s => noX (g y u s)
  | .bl false => .ok (.bl false) s
  | _ => .bad
theorem tChain_of {r r' : R2} {f g : D → D → Sto → Rs D} (hc : OpC X.K G r f) (hc' : OpC X.K G r' g) (σ : L2.St) (H : Hp) (Q : VK) (h : tD X.K G W (dChain f g A B C) σ H Q) : tChain r r' (tD X.K G W A) (tD X.K G W B) (tD X.K G W C) σ H Q := by
  obtain ⟨S, env, st, m, q⟩ := h
  refine ⟨S, env, st, m, Post.imp (Post.bind q) fun S1 H1 x s1 l1 w1 q v rv => ⟨S1, env, s1, m.later l1 w1, Post.imp (Post.bind q) fun S2 H2 y s2 l2 w2 q u ru => ?_⟩⟩
  refine hc S2 H2 s2 σ x y v u _ w2 (rv.mono l2) ru (Post.imp (Post.noX (k := fun S' H' d s' => Post X.K G W σ S' H' (match d with
    | .bl true => (C env s').bind fun u s => noX (g y u s)
    | .bl false => .ok (.bl false) s'
    | _ => .bad) fun S' H' d _ => ∀ v, Rep X.K G H' S' d v → Q v H') (W := W) (by
      cases e : f x y s2 with
      | ok d s3 => rw [e] at q; exact Post.bind (r := .ok d s3) q
      | exc c s3 => rw [e] at q; exact q
      | bad => rw [e] at q; exact q)) fun S3 H3 d s3 l3 w3 q z rz => ?_)
  try dsimp only at q
  split at q
  · refine ⟨true, rep_bl rz, ?_⟩
    rw [if_pos rfl]
    exact ⟨S3, env, s3, ((m.later l1 w1).later l2 w2).later l3 w3, Post.imp (Post.bind q) fun S4 H4 u' s4 l4 w4 q u'' ru' => hc' S4 H4 s4 σ y u' u u'' Q w4 ((ru.mono l3).mono l4) ru' (Post.noX q)⟩
  · refine ⟨false, rep_bl rz, ?_⟩
    rw [if_neg (by decide)]
    exact Post.ok q w3 _ mk_bl
  · exact q.elim
theorem ed_chain {op op' : CmpOp} {r r' : R2} {f g : D → D → Sto → Rs D} (hc : OpC X.K G r f) (hc' : OpC X.K G r' g) (ho : OpR X (compareOp op) r) (ho' : OpR X (compareOp op') r') (ha : ED X G W A a) (hb : ED X G W B b) (hcc : ED X G W C c)
    (hm : lastMarks [op, op'] [b, c] = false := by with_unfolding_all rfl) : ED X G W (dChain f g A B C) (.Compare a [op, op'] [b, c] pos) := PE.imp (pe_chain ho ho' ha hb hcc hm) (tChain_of hc hc')
theorem eb_chain {op op' : CmpOp} {r r' : R2} {f g : D → D → Sto → Rs D} (hc : OpC X.K G r f) (hc' : OpC X.K G r' g) (ho : OpR X (compareOp op) r) (ho' : OpR X (compareOp op') r') (ha : ED X G W A a) (hb : ED X G W B b) (hcc : ED X G W C c)
    (hm : lastMarks [op, op'] [b, c] = false := by with_unfolding_all rfl) : EB X G W (dTest (dChain f g A B C)) (.Compare a [op, op'] [b, c] pos) := PT.imp (pt_chain ho ho' ha hb hcc hm) (test_of (tChain_of hc hc'))
/-! and, or, not -/
def bAnd (P R : DenB) : DenB := fun env st => (P env st).bind fun b s => if b then R env s else .ok false s
def bOr (P R : DenB) : DenB := fun env st => (P env st).bind fun b s => if b then .ok true s else R env s
def bNot (P : DenB) : DenB := fun env st => (P env st).bind fun b s => .ok (!b) s
theorem ew_and1 (h : EB X G W P a) : EW X G W P (.BoolOp .And [a] pos) := pw_and1 h
theorem ew_or1 (h : EB X G W P a) : EW X G W P (.BoolOp .Or [a] pos) := pw_or1 h
theorem eb_w (h : EW X G W P e) : EB X G W P e := h.pt
theorem ew_and (h : EB X G W P a) (h2 : EW X G W R (.BoolOp .And (b :: rest) pos)) : EW X G W (bAnd P R) (.BoolOp .And (a :: b :: rest) pos) :=
  PW.imp (pw_and h h2) fun σ H Q ⟨S, env, st, m, q⟩ => ⟨S, env, st, m, Post.imp (Post.bind q) fun S1 H1 k s1 l1 w1 q => by
    cases k with
    | true =>
      rw [if_pos rfl]
      exact ⟨S1, env, s1, m.later l1 w1, q⟩
    | false =>
      rw [if_neg (by decide)]
      exact Post.ok q w1⟩
theorem ew_or (h : EB X G W P a) (h2 : EW X G W R (.BoolOp .Or (b :: rest) pos)) : EW X G W (bOr P R) (.BoolOp .Or (a :: b :: rest) pos) :=
  PW.imp (pw_or h h2) fun σ H Q ⟨S, env, st, m, q⟩ => ⟨S, env, st, m, Post.imp (Post.bind q) fun S1 H1 k s1 l1 w1 q => by
    cases k with
    | true =>
      rw [if_pos rfl]
      exact Post.ok q w1
    | false =>
      rw [if_neg (by decide)]
      exact ⟨S1, env, s1, m.later l1 w1, q⟩⟩
theorem eb_not (h : EB X G W P a) : EB X G W (bNot P) (.UnaryOp .Not a pos) :=
  PT.imp (pt_not h) fun σ H Q ⟨S, env, st, m, q⟩ => ⟨S, env, st, m, Post.imp (Post.bind q) fun S1 H1 k s1 l1 w1 q => Post.ok q w1⟩
/-! .. as values -/
def dAnd (A B : Den) : Den := fun env st => (A env st).bind fun d s => match d with
  | .bl true => B env s
  | .bl false => .ok (.bl false) s
  | _ => .bad
def dOr (A B : Den) : Den := fun env st => (A env st).bind fun d s => match d with
  | .bl true => .ok (.bl true) s
  | .bl false => B env s
  | _ => .bad
def dNot (A : Den) : Den := fun env st => (A env st).bind fun d s => match d with
  | .bl b => .ok (.bl (!b)) s
  | _ => .bad
theorem ed_one {op : BoolOp} (h : ED X G W A a) : ED X G W A (.BoolOp op [a] pos) := pe_one h
theorem ed_and (h : ED X G W A a) (h2 : ED X G W B (.BoolOp .And (b :: rest) pos)) : ED X G W (dAnd A B) (.BoolOp .And (a :: b :: rest) pos) :=
  PE.imp (pe_and h h2) fun σ H Q ⟨S, env, st, m, q⟩ => ⟨S, env, st, m, Post.imp (Post.bind q) fun S1 H1 d s1 l1 w1 q v rv => by
    try dsimp only at q
    split at q
    · refine ⟨true, rep_bl rv, ?_⟩
      rw [if_pos rfl]
      exact ⟨S1, env, s1, m.later l1 w1, q⟩
    · refine ⟨false, rep_bl rv, ?_⟩
      rw [if_neg (by decide)]
      exact Post.ok q w1 _ mk_bl
    · exact q.elim⟩
theorem ed_or (h : ED X G W A a) (h2 : ED X G W B (.BoolOp .Or (b :: rest) pos)) : ED X G W (dOr A B) (.BoolOp .Or (a :: b :: rest) pos) :=
  PE.imp (pe_or h h2) fun σ H Q ⟨S, env, st, m, q⟩ => ⟨S, env, st, m, Post.imp (Post.bind q) fun S1 H1 d s1 l1 w1 q v rv => by
    try dsimp only at q
    split at q
    · refine ⟨true, rep_bl rv, ?_⟩
      rw [if_pos rfl]
      exact Post.ok q w1 _ mk_bl
    · refine ⟨false, rep_bl rv, ?_⟩
      rw [if_neg (by decide)]
      exact ⟨S1, env, s1, m.later l1 w1, q⟩
    · exact q.elim⟩
theorem ed_not (h : ED X G W A a) : ED X G W (dNot A) (.UnaryOp .Not a pos) :=
  PE.imp (pe_not h) fun σ H Q ⟨S, env, st, m, q⟩ => ⟨S, env, st, m, Post.imp (Post.bind q) fun S1 H1 d s1 l1 w1 q v rv => by
    try dsimp only at q
    split at q
    · exact ⟨_, rep_bl rv, Post.ok q w1 _ mk_bl⟩
    · exact q.elim⟩
def dIf (P : DenB) (A B : Den) : Den := fun env st => (P env st).bind fun b s => if b then A env s else B env s
theorem ed_if (h : EB X G W P c) (ha : ED X G W A a) (hb : ED X G W B b) : ED X G W (dIf P A B) (.IfExp c a b pos) :=
  PE.imp (pe_ifExp h ha hb) fun σ H Q ⟨S, env, st, m, q⟩ => ⟨S, env, st, m, Post.imp (Post.bind q) fun S1 H1 k s1 l1 w1 q => by
    cases k with
    | true =>
      rw [if_pos rfl]
      exact ⟨S1, env, s1, m.later l1 w1, q⟩
    | false =>
      rw [if_neg (by decide)]
      exact ⟨S1, env, s1, m.later l1 w1, q⟩⟩
end
/-! ### is -/
def fIs : D → D → Sto → Rs D
  | .bl a, .bl b, st => .ok (.bl (decide (a = b))) st
  | _, _, _ => .bad
def fIsNot : D → D → Sto → Rs D
  | .bl a, .bl b, st => .ok (.bl (!decide (a = b))) st
  | _, _, _ => .bad
def D.isNon : D → Bool
  | .non => true
  | _ => false
def fIsN (x : D) (y : D) (st : Sto) : Rs D := match y with
  | .non => .ok (.bl x.isNon) st
  | _ => .bad
def fNotN (x : D) (y : D) (st : Sto) : Rs D := match y with
  | .non => .ok (.bl (!x.isNon)) st
  | _ => .bad
section
variable {K : PySem.W.Frag} {G : Nat → Addr}
theorem non_iff {H : Hp} {S : Vw} {d : D} {v : V} (r : Rep K G H S d v) : decide (v = .non) = d.isNon := by
  cases d <;> simp only [Rep] at r
  all_goals first
    | (subst r; simp [D.isNon])
    | (obtain ⟨a, vs, rfl, _⟩ := r; simp [D.isNon])
    | (obtain ⟨a, dx, vs, rfl, _⟩ := r; simp [D.isNon])
    | (obtain ⟨a, rfl, _⟩ := r; simp [D.isNon])
theorem opc_isN : OpC K G (fun x y H Q => y = .non ∧ Q (.bl (decide (x = .non))) H) fIsN := by
  intro S H st σ dx dy x y Q w rx ry q
  unfold fIsN at q
  split at q
  · refine ⟨rep_non ry, ?_⟩
    rw [non_iff rx]
    exact Post.ok q w _ mk_bl
  · exact q.elim
theorem opc_notN : OpC K G (fun x y H Q => y = .non ∧ Q (.bl (!decide (x = .non))) H) fNotN := by
  intro S H st σ dx dy x y Q w rx ry q
  unfold fNotN at q
  split at q
  · refine ⟨rep_non ry, ?_⟩
    rw [non_iff rx]
    exact Post.ok q w _ mk_bl
  · exact q.elim
end

/-! ### arguments, displays -/
def aNil : DenL := fun _ st => .ok [] st
def aCons (A : Den) (As : DenL) : DenL := fun env st => (A env st).bind fun x s => (As env s).bind fun l s => .ok (x :: l) s
def dTup (As : DenL) : Den := fun env st => (As env st).bind fun l s => if szOk l.length then .ok (.tup l) s else .bad
def lLst (As : DenL) : DenL := fun env st => (As env st).bind fun l s => if szOk l.length then .ok l s else .bad
/-- a new list: that stays as it is; that is changed -/
def dDat (A : DenL) : Den := fun env st => (A env st).bind fun l s => .ok (.lst l) s
def dCel (A : DenL) : Den := fun env st => (A env st).bind fun l s => .ok (.loc s.length) (s ++ [.list l])
section
variable {X : Cx} {G : Nat → Addr} {W : WX} {pos : Pos} {A B C : Den} {As Bs : DenL} {P R : DenB} {a b c e : Expr} {es : List Expr}
theorem ea_nil : EA X G W aNil [] := PA.imp pa_nil fun σ H Q ⟨S, env, st, m, q⟩ => Post.ok q m.ws _ Reps.nil
theorem ea_cons (h : ED X G W A e) (t : EA X G W As es) (hs : starEach (e :: es) X.env = (false, eval e X.env) :: starEach es X.env := by rfl) : EA X G W (aCons A As) (e :: es) :=
  PA.imp (pa_cons h t hs) fun σ H Q ⟨S, env, st, m, q⟩ => ⟨S, env, st, m, Post.imp (Post.bind q) fun S1 H1 x s1 l1 w1 q v rv => ⟨S1, env, s1, m.later l1 w1, Post.imp (Post.bind q) fun S2 H2 l s2 l2 w2 q vs rvs =>
    Post.ok q w2 _ (.cons (rv.mono l2) rvs)⟩⟩
theorem ed_tup {k : Nat} (h : EA X G W As es) : ED X G W (dTup As) (.Tuple es k pos) :=
  PE.imp (pe_tup h) fun σ H Q ⟨S, env, st, m, q⟩ => ⟨S, env, st, m, Post.imp (Post.bind q) fun S1 H1 l s1 l1 w1 q vs rvs => by
    split at q
    · rename_i hz
      exact ⟨by rw [← rvs.length]; exact szOk.ok hz, fun p hp => new_tup w1 rvs hp q⟩
    · exact q.elim⟩
theorem el_lst (h : EA X G W As es) : EL X G W (lLst As) (.List es pos) :=
  PE.imp (pe_lst h) fun σ H Q ⟨S, env, st, m, q⟩ => ⟨S, env, st, m, Post.imp (Post.bind q) fun S1 H1 l s1 l1 w1 q vs rvs => by
    split at q
    · rename_i hz
      exact ⟨by rw [← rvs.length]; exact szOk.ok hz, fun p hp => Post.ok q w1 vs p rvs hp⟩
    · exact q.elim⟩
theorem ed_dat (h : EL X G W As e) : ED X G W (dDat As) e :=
  PE.imp h fun σ H Q ⟨S, env, st, m, q⟩ => ⟨S, env, st, m, Post.imp (Post.bind q) fun S1 H1 l s1 l1 w1 q vs p rvs hp => new_lst w1 rvs hp q⟩
theorem ed_cel (h : EL X G W As e) : ED X G W (dCel As) e :=
  PE.imp h fun σ H Q ⟨S, env, st, m, q⟩ => ⟨S, env, st, m, Post.imp (Post.bind q) fun S1 H1 l s1 l1 w1 q vs p rvs hp => new_cel w1 rvs hp q⟩
/-- the sum of two lists as a new list of its own -/
def lCat (A B : Den) : DenL := fun env st => (A env st).bind fun x s => (B env s).bind fun y s => match getM s x, getM s y with
  | some l, some m => if szOk (l.length + m.length) then .ok (l ++ m) s else .bad
  | _, _ => .bad
theorem el_cat (ha : ED X G W A a) (hb : ED X G W B b) : EL X G W (lCat A B) (.BinOp a .Add b pos) :=
  PE.imp (pe_op op_cat ha hb) fun σ H Q ⟨S, env, st, m, q⟩ => ⟨S, env, st, m, Post.imp (Post.bind q) fun S1 H1 x s1 l1 w1 q v rv => ⟨S1, env, s1, m.later l1 w1, Post.imp (Post.bind q) fun S2 H2 y s2 l2 w2 q u ru => by
    cases e1 : getM s2 x with
    | none => rw [e1] at q; exact q.elim
    | some l =>
      rw [e1] at q
      cases e2 : getM s2 y with
      | none => rw [e2] at q; exact q.elim
      | some m =>
        rw [e2] at q
        obtain ⟨a, vs, rfl, h1, h2⟩ := getM_at w2 (rv.mono l2) e1
        obtain ⟨b, us, rfl, h3, h4⟩ := getM_at w2 ru e2
        try dsimp only at q
        split at q
        · rename_i hz
          refine ⟨a, b, vs, us, rfl, rfl, h1, h3, ?_, fun p hp => Post.ok q w2 _ p (h2.append h4) hp⟩
          rw [← h2.length, ← h4.length]
          exact szOk.ok hz
        · exact q.elim⟩⟩
end

/-! ### calls of built-ins -/
def dCall (f : List D → Sto → Rs D) (As : DenL) : Den := fun env st => (As env st).bind fun l s => noX (f l s)
def lCall (f : List D → Sto → Option (List D)) (As : DenL) : DenL := fun env st => (As env st).bind fun l s => match f l s with
  | some m => .ok m s
  | none => .bad
section
variable (K : PySem.W.Frag) (G : Nat → Addr)
/-- a call that gives a new list -/
def ClC (r : List V → Hp → VK → Prop) (f : List D → Sto → Option (List D)) : Prop := ∀ (S : Vw) (H : Hp) (st : Sto) (ds l : List D) (xs : List V) (Q : VK), Ws K G H S st → Reps K G H S ds xs → f ds st = some l →
  (∀ vs p, Reps K G H S l vs → H p = none → Q (.ref p) (upd H p (.lst vs))) → r xs H Q
end
section
variable {X : Cx} {G : Nat → Addr} {W : WX} {p pos : Pos} {As : DenL} {e : Expr} {es : List Expr} {x : Str} {id T : String} {r : List V → Hp → VK → Prop} {f : List D → Sto → Rs D} {g : List D → Sto → Option (List D)}
theorem tCB_of (hc : CaC X.K G r f) (σ : L2.St) (H : Hp) (Q : VK) (h : tD X.K G W (dCall f As) σ H Q) : tCB r (tA X.K G W As) σ H Q := by
  obtain ⟨S, env, st, m, q⟩ := h
  exact ⟨S, env, st, m, Post.imp (Post.bind q) fun S1 H1 l s1 l1 w1 q vs rvs => hc S1 H1 s1 σ l vs Q w1 rvs (Post.noX q)⟩
theorem tCBl_of (hc : ClC X.K G r g) (σ : L2.St) (H : Hp) (Q : VK) (h : tL X.K G W (lCall g As) σ H Q) : tCB r (tA X.K G W As) σ H Q := by
  obtain ⟨S, env, st, m, q⟩ := h
  refine ⟨S, env, st, m, Post.imp (Post.bind q) fun S1 H1 l s1 l1 w1 q vs rvs => ?_⟩
  cases e : g l s1 with
  | none => rw [e] at q; exact q.elim
  | some l' =>
    rw [e] at q
    exact hc S1 H1 s1 l l' vs Q w1 rvs e (Post.ok q w1)
theorem ed_callB (hc : CaC X.K G r f) (hr : CallR X (.builtin id) r) (hg : Gl X x) (hm : X.mg x = none) (hv : bootBuiltins x = some (.builtin id)) (ha : EA X G W As (e :: es)) (hn : x ≠ "__name__" := by decide) (hdb : (x == ("__debug__" : Str)) = false := by decide)
    (he : starEach (e :: es) X.env = (false, eval e X.env) :: starEach es X.env := by rfl) (hpl : (backTo pos (starEach es X.env)).any (·.1) = false := by rfl) : ED X G W (dCall f As) (.Call (.Name x p) (e :: es) [] pos) :=
  PE.imp (pe_callB hr hg hm hv ha hn hdb he hpl) (tCB_of hc)
theorem el_callB (hc : ClC X.K G r g) (hr : CallR X (.builtin id) r) (hg : Gl X x) (hm : X.mg x = none) (hv : bootBuiltins x = some (.builtin id)) (ha : EA X G W As (e :: es)) (hn : x ≠ "__name__" := by decide) (hdb : (x == ("__debug__" : Str)) = false := by decide)
    (he : starEach (e :: es) X.env = (false, eval e X.env) :: starEach es X.env := by rfl) (hpl : (backTo pos (starEach es X.env)).any (·.1) = false := by rfl) : EL X G W (lCall g As) (.Call (.Name x p) (e :: es) [] pos) :=
  PE.imp (pe_callB hr hg hm hv ha hn hdb he hpl) (tCBl_of hc)
theorem el_callTy (hc : ClC X.K G r g) (hr : CallR X (.type T) r) (hg : Gl X x) (hm : X.mg x = none) (hv : bootBuiltins x = some (.type T)) (ha : EA X G W As (e :: es)) (hn : x ≠ "__name__" := by decide) (hdb : (x == ("__debug__" : Str)) = false := by decide)
    (he : starEach (e :: es) X.env = (false, eval e X.env) :: starEach es X.env := by rfl) (hpl : (backTo pos (starEach es X.env)).any (·.1) = false := by rfl) : EL X G W (lCall g As) (.Call (.Name x p) (e :: es) [] pos) :=
  PE.imp (pe_callTy hr hg hm hv ha hn hdb he hpl) (tCBl_of hc)
end
/-! len, abs, min, max, sum, all, any -/
def intsOf : List D → Option (List Int)
  | [] => some []
  | .int i :: r => (intsOf r).map (i :: ·)
  | _ :: _ => none
def blsOf : List D → Option (List Bool)
  | [] => some []
  | .bl i :: r => (blsOf r).map (i :: ·)
  | _ :: _ => none
theorem intsOf_eq : ∀ {l : List D} {ns : List Int}, intsOf l = some ns → l = ns.map D.int
  | [], _, h => by simp [intsOf] at h; subst h; rfl
  | d :: l, ns, h => by
    cases d <;> simp [intsOf] at h
    obtain ⟨m, hm, rfl⟩ := h
    rw [intsOf_eq hm]
    rfl
theorem intsOf_map : ∀ ns : List Int, intsOf (ns.map D.int) = some ns
  | [] => rfl
  | n :: ns => by simp [intsOf, intsOf_map ns]
theorem blsOf_eq : ∀ {l : List D} {ns : List Bool}, blsOf l = some ns → l = ns.map D.bl
  | [], _, h => by simp [blsOf] at h; subst h; rfl
  | d :: l, ns, h => by
    cases d <;> simp [blsOf] at h
    obtain ⟨m, hm, rfl⟩ := h
    rw [blsOf_eq hm]
    rfl
theorem blsOf_map : ∀ ns : List Bool, blsOf (ns.map D.bl) = some ns
  | [] => rfl
  | n :: ns => by simp [blsOf, blsOf_map ns]
def fLen : List D → Sto → Rs D
  | [d], st => match getS st d with
    | some l => .ok (.int (l.length : Int)) st
    | none => .bad
  | _, _ => .bad
def fAbs : List D → Sto → Rs D
  | [.int i], st => .ok (.int (if i < 0 then -i else i)) st
  | _, _ => .bad
def fMin2 : List D → Sto → Rs D
  | [.int i, .int j], st => .ok (.int (if j < i then j else i)) st
  | _, _ => .bad
def fMax2 : List D → Sto → Rs D
  | [.int i, .int j], st => .ok (.int (if j > i then j else i)) st
  | _, _ => .bad
def fSum : List D → Sto → Rs D
  | [d], st => match (getL st d).bind intsOf with
    | some ns => .ok (.int ns.sum) st
    | none => .bad
  | _, _ => .bad
def fAll : List D → Sto → Rs D
  | [d], st => match (getL st d).bind blsOf with
    | some bs => .ok (.bl (bs.all id)) st
    | none => .bad
  | _, _ => .bad
def fAny : List D → Sto → Rs D
  | [d], st => match (getL st d).bind blsOf with
    | some bs => .ok (.bl (bs.any id)) st
    | none => .bad
  | _, _ => .bad
/-- the greatest, the least of a list -/
def gMax : Int → List Int → Int
  | m, [] => m
  | m, x :: r => gMax (if x > m then x else m) r
def gMin : Int → List Int → Int
  | m, [] => m
  | m, x :: r => gMin (if x < m then x else m) r
theorem gMax_spec : ∀ (r : List Int) (m : Int), gMax m r ∈ m :: r ∧ ∀ y ∈ m :: r, y ≤ gMax m r
  | [], m => ⟨by simp [gMax], by simp [gMax]⟩
  | x :: r, m => by
    obtain ⟨h1, h2⟩ := gMax_spec r (if x > m then x else m)
    refine ⟨?_, ?_⟩
    · rw [gMax]
      rcases List.mem_cons.mp h1 with h | h
      · rw [h]
        split
        · simp
        · simp
      · exact List.mem_cons_of_mem _ (List.mem_cons_of_mem _ h)
    · intro y hy
      rw [gMax]
      have h3 := h2 _ (List.mem_cons_self ..)
      rcases List.mem_cons.mp hy with h | h
      · subst h
        split at h3 <;> rename_i hc
        · rw [if_pos hc]; omega
        · rw [if_neg hc]; omega
      · rcases List.mem_cons.mp h with h | h
        · subst h
          split at h3 <;> rename_i hc
          · rw [if_pos hc]; omega
          · rw [if_neg hc]; omega
        · exact h2 _ (List.mem_cons_of_mem _ h)
theorem gMin_spec : ∀ (r : List Int) (m : Int), gMin m r ∈ m :: r ∧ ∀ y ∈ m :: r, gMin m r ≤ y
  | [], m => ⟨by simp [gMin], by simp [gMin]⟩
  | x :: r, m => by
    obtain ⟨h1, h2⟩ := gMin_spec r (if x < m then x else m)
    refine ⟨?_, ?_⟩
    · rw [gMin]
      rcases List.mem_cons.mp h1 with h | h
      · rw [h]
        split
        · simp
        · simp
      · exact List.mem_cons_of_mem _ (List.mem_cons_of_mem _ h)
    · intro y hy
      rw [gMin]
      have h3 := h2 _ (List.mem_cons_self ..)
      rcases List.mem_cons.mp hy with h | h
      · subst h
        split at h3 <;> rename_i hc
        · rw [if_pos hc]; omega
        · rw [if_neg hc]; omega
      · rcases List.mem_cons.mp h with h | h
        · subst h
          split at h3 <;> rename_i hc
          · rw [if_pos hc]; omega
          · rw [if_neg hc]; omega
        · exact h2 _ (List.mem_cons_of_mem _ h)
def fMax1 : List D → Sto → Rs D
  | [d], st => match (getL st d).bind intsOf with
    | some (n :: r) => .ok (.int (gMax n r)) st
    | _ => .bad
  | _, _ => .bad
def fMin1 : List D → Sto → Rs D
  | [d], st => match (getL st d).bind intsOf with
    | some (n :: r) => .ok (.int (gMin n r)) st
    | _ => .bad
  | _, _ => .bad
section
variable {K : PySem.W.Frag} {G : Nat → Addr}
theorem bind_at {α β : Type} {o : Option α} {f : α → Option β} {b : β} (h : o.bind f = some b) : ∃ a, o = some a ∧ f a = some b := by
  cases o with
  | none => cases h
  | some a => exact ⟨a, rfl, h⟩
theorem cac_len : CaC K G (fun xs H Q => ∃ p ys, xs = [.ref p] ∧ (SqL K H p ys ∨ SqT K H p ys) ∧ Q (.int ys.length) H) fLen := by
  intro S H st σ ds xs Q w r q
  unfold fLen at q
  split at q
  · rename_i d
    obtain ⟨v, rfl, rv⟩ := r.one
    cases e : getS st d with
    | none => rw [e] at q; exact q.elim
    | some l =>
      rw [e] at q
      obtain ⟨a, vs, rfl, h1, h2⟩ := getS_at w rv e
      exact ⟨a, vs, rfl, h1, Post.ok q w _ (by rw [h2.length]; exact mk_int)⟩
  · exact q.elim
theorem cac_abs : CaC K G (fun xs H Q => ∃ i, xs = [.int i] ∧ Q (.int (if i < 0 then -i else i)) H) fAbs := by
  intro S H st σ ds xs Q w r q
  unfold fAbs at q
  split at q
  · obtain ⟨v, rfl, rv⟩ := r.one
    exact ⟨_, by rw [rep_int rv], Post.ok q w _ mk_int⟩
  · exact q.elim
theorem cac_min2 : CaC K G (fun xs H Q => ∃ i j, xs = [.int i, .int j] ∧ Q (.int (if j < i then j else i)) H) fMin2 := by
  intro S H st σ ds xs Q w r q
  unfold fMin2 at q
  split at q
  · obtain ⟨v, u, rfl, rv, ru⟩ := r.two
    exact ⟨_, _, by rw [rep_int rv, rep_int ru], Post.ok q w _ mk_int⟩
  · exact q.elim
theorem cac_max2 : CaC K G (fun xs H Q => ∃ i j, xs = [.int i, .int j] ∧ Q (.int (if j > i then j else i)) H) fMax2 := by
  intro S H st σ ds xs Q w r q
  unfold fMax2 at q
  split at q
  · obtain ⟨v, u, rfl, rv, ru⟩ := r.two
    exact ⟨_, _, by rw [rep_int rv, rep_int ru], Post.ok q w _ mk_int⟩
  · exact q.elim
theorem ints_at {H : Hp} {S : Vw} {st : Sto} {d : D} {v : V} {ns : List Int} (w : Ws K G H S st) (rv : Rep K G H S d v) (e : (getL st d).bind intsOf = some ns) : ∃ a, v = .ref a ∧ SqL K H a (ns.map V.int) := by
  obtain ⟨l, e1, e2⟩ := bind_at e
  obtain ⟨a, vs, rfl, h1, h2⟩ := getL_at w rv e1
  rw [intsOf_eq e2] at h2
  rw [h2.ints] at h1
  exact ⟨a, rfl, h1⟩
theorem cac_sum : CaC K G (rSum K) fSum := by
  intro S H st σ ds xs Q w r q
  unfold fSum at q
  split at q
  · rename_i d
    obtain ⟨v, rfl, rv⟩ := r.one
    cases e : (getL st d).bind intsOf with
    | none => rw [e] at q; exact q.elim
    | some ns =>
      rw [e] at q
      obtain ⟨a, rfl, h1⟩ := ints_at w rv e
      exact ⟨a, ns, rfl, h1, Post.ok q w _ mk_int⟩
  · exact q.elim
theorem cac_max1 : CaC K G (rMax K) fMax1 := by
  intro S H st σ ds xs Q w r q
  unfold fMax1 at q
  split at q
  · rename_i d
    obtain ⟨v, rfl, rv⟩ := r.one
    split at q
    · rename_i n r' e
      obtain ⟨a, rfl, h1⟩ := ints_at w rv e
      refine ⟨a, n :: r', rfl, h1, by simp, fun m hm hle => ?_⟩
      obtain ⟨g1, g2⟩ := gMax_spec r' n
      have em : m = gMax n r' := Int.le_antisymm (g2 m hm) (hle _ g1)
      rw [em]
      exact Post.ok q w _ mk_int
    · exact q.elim
  · exact q.elim
theorem cac_min1 : CaC K G (rMin K) fMin1 := by
  intro S H st σ ds xs Q w r q
  unfold fMin1 at q
  split at q
  · rename_i d
    obtain ⟨v, rfl, rv⟩ := r.one
    split at q
    · rename_i n r' e
      obtain ⟨a, rfl, h1⟩ := ints_at w rv e
      refine ⟨a, n :: r', rfl, h1, by simp, fun m hm hle => ?_⟩
      obtain ⟨g1, g2⟩ := gMin_spec r' n
      have em : m = gMin n r' := Int.le_antisymm (hle _ g1) (g2 m hm)
      rw [em]
      exact Post.ok q w _ mk_int
    · exact q.elim
  · exact q.elim
theorem cac_all : CaC K G (rAll K) fAll := by
  intro S H st σ ds xs Q w r q
  unfold fAll at q
  split at q
  · rename_i d
    obtain ⟨v, rfl, rv⟩ := r.one
    cases e : (getL st d).bind blsOf with
    | none => rw [e] at q; exact q.elim
    | some ns =>
      rw [e] at q
      obtain ⟨l, e1, e2⟩ := bind_at e
      obtain ⟨a, vs, rfl, h1, h2⟩ := getL_at w rv e1
      rw [blsOf_eq e2] at h2
      rw [h2.bls] at h1
      exact ⟨a, ns, rfl, h1, Post.ok q w _ mk_bl⟩
  · exact q.elim
theorem cac_any : CaC K G (rAny K) fAny := by
  intro S H st σ ds xs Q w r q
  unfold fAny at q
  split at q
  · rename_i d
    obtain ⟨v, rfl, rv⟩ := r.one
    cases e : (getL st d).bind blsOf with
    | none => rw [e] at q; exact q.elim
    | some ns =>
      rw [e] at q
      obtain ⟨l, e1, e2⟩ := bind_at e
      obtain ⟨a, vs, rfl, h1, h2⟩ := getL_at w rv e1
      rw [blsOf_eq e2] at h2
      rw [h2.bls] at h1
      exact ⟨a, ns, rfl, h1, Post.ok q w _ mk_bl⟩
  · exact q.elim
/-- list(x) -/
def gList : List D → Sto → Option (List D)
  | [d], st => getS st d
  | _, _ => none
theorem clc_list : ClC K G (fun xs H Q => ∃ p ys, xs = [.ref p] ∧ (SqL K H p ys ∨ SqT K H p ys) ∧ ∀ l, H l = none → Q (.ref l) (upd H l (.lst ys))) gList := by
  intro S H st ds l xs Q w r e q
  unfold gList at e
  split at e
  · obtain ⟨v, rfl, rv⟩ := r.one
    obtain ⟨a, vs, rfl, h1, h2⟩ := getS_at w rv e
    exact ⟨a, vs, rfl, h1, fun p hp => q vs p h2 hp⟩
  · cases e
end

/-! ### subscripts -/
def fIx (x i : D) (st : Sto) : Rs D := match getS st x, i with
  | some l, .int k => match atI l k with
    | some d => .ok d st
    | none => .bad
  | _, _ => .bad
def rIx2 (K : PySem.W.Frag) : R2 := fun x y H Q => rIxL K x y H Q ∨ rIxT K x y H Q
section
variable {K : PySem.W.Frag} {G : Nat → Addr} {H : Hp} {S : Vw}
theorem ixN_lt {n : Nat} {i : Int} {j : Nat} (h : ixN n i = some j) : j < n := (ixN_seq h).2.1
theorem Reps.atI {l : List D} {vs : List V} {k : Int} {d : D} (r : Reps K G H S l vs) (e : L2.atI l k = some d) : ∃ v, L2.atI vs k = some v ∧ Rep K G H S d v := by
  unfold L2.atI at e ⊢
  rw [← r.length]
  cases q : ixN l.length k with
  | none => rw [q] at e; cases e
  | some j =>
    rw [q] at e
    exact r.get e
theorem opc_ix : OpC K G (rIx2 K) fIx := by
  intro S H st σ dx dy x y Q w rx ry q
  unfold fIx at q
  split at q
  · rename_i l k e
    split at q
    · rename_i d ed
      obtain ⟨a, vs, rfl, h1, h2⟩ := getS_at w rx e
      obtain ⟨v, h3, h4⟩ := h2.atI ed
      rcases h1 with h1 | h1
      · exact .inl ⟨a, vs, k, v, rfl, rep_int ry, h1, h3, Post.ok q w _ h4⟩
      · exact .inr ⟨a, vs, k, v, rfl, rep_int ry, h1, h3, Post.ok q w _ h4⟩
    · exact q.elim
  · exact q.elim
end
section
variable {X : Cx} {G : Nat → Addr} {W : WX} {pos p2 : Pos} {A B C : Den} {As : DenL} {a b e : Expr} {lo hi : Option Expr}
theorem ed_ix (ha : ED X G W A a) (hb : ED X G W B b) (hs : PlainIx b := by exact fun _ _ => rfl) : ED X G W (dOp fIx A B) (.Subscript a b pos) := PE.imp (pe_ix (IxR.or ix_list ix_tup) ha hb hs) (tOp_of opc_ix)
/-! slices -/
abbrev DenO := En → Sto → Rs (Option Int)
def oNone : DenO := fun _ st => .ok none st
def oSome (A : Den) : DenO := fun env st => (A env st).bind fun d s => match d with
  | .int i => .ok (some i) s
  | _ => .bad
def tO (K : PySem.W.Frag) (G : Nat → Addr) (W : WX) (A : DenO) : TO := fun σ H Q => ∃ S env st, Sm K G S σ H env st ∧ Post K G W σ S H (A env st) fun S' H' o _ => Q o H'
theorem PO.imp {e : Option Expr} {t t' : TO} (h : PO X e t) (i : ∀ σ H Q, t' σ H Q → t σ H Q) : PO X e t' := ⟨fun pins s σ H Q I q => h.run pins s σ H Q I (i σ H Q q)⟩
abbrev EO (X : Cx) (G : Nat → Addr) (W : WX) (A : DenO) (e : Option Expr) : Prop := PO X e (tO X.K G W A)
theorem eo_none : EO X G W oNone none := PO.imp po_none fun σ H Q ⟨S, env, st, m, q⟩ => Post.ok q m.ws
theorem eo_some (h : ED X G W A e) : EO X G W (oSome A) (some e) := PO.imp (po_some h) fun σ H Q ⟨S, env, st, m, q⟩ => ⟨S, env, st, m, Post.imp (Post.bind q) fun S1 H1 d s1 l1 w1 q v rv => by
  split at q
  · exact ⟨_, rep_int rv, Post.ok q w1⟩
  · exact q.elim⟩
def cutD (l : List D) (lo hi : Option Int) : List D := (l.drop (HT.sIx l.length 0 lo)).take (HT.sIx l.length l.length hi - HT.sIx l.length 0 lo)
theorem Reps.cut {K : PySem.W.Frag} {G : Nat → Addr} {H : Hp} {S : Vw} {l : List D} {vs : List V} (r : Reps K G H S l vs) (lo hi : Option Int) : Reps K G H S (cutD l lo hi) (cutV vs lo hi) := by
  unfold cutD cutV
  rw [r.length]
  exact (r.drop _).take _
def fSl (x : D) (lo hi : Option Int) (st : Sto) : Rs D := match x with
  | .tup l => if decide (HT.sIx l.length 0 lo = 0 ∧ HT.sIx l.length l.length hi = l.length) then .bad else .ok (.tup (cutD l lo hi)) st
  | x => match getL st x with
    | some l => .ok (.lst (cutD l lo hi)) st
    | none => .bad
def dSl (A : Den) (L U : DenO) : Den := fun env st => (A env st).bind fun x s => (L env s).bind fun lo s => (U env s).bind fun hi s => fSl x lo hi s
def lSl (A : Den) (L U : DenO) : DenL := fun env st => (A env st).bind fun x s => (L env s).bind fun lo s => (U env s).bind fun hi s => match getL s x with
  | some l => .ok (cutD l lo hi) s
  | none => .bad
variable {L U : DenO}
theorem ed_sl (h : ED X G W A e) (hl : EO X G W L lo) (hh : EO X G W U hi) : ED X G W (dSl A L U) (.Subscript e (.Slice lo hi none p2) pos) :=
  PE.imp (pe_slice (SlR.or sl_list sl_tup) h hl hh) fun σ H Q ⟨S, env, st, m, q⟩ => ⟨S, env, st, m, Post.imp (Post.bind q) fun S1 H1 x s1 l1 w1 q v rv => ⟨S1, env, s1, m.later l1 w1, Post.imp (Post.bind q) fun S2 H2 lo s2 l2 w2 q =>
    ⟨S2, env, s2, (m.later l1 w1).later l2 w2, Post.imp (Post.bind q) fun S3 H3 hi s3 l3 w3 q => by
      have rv' := (rv.mono l2).mono l3
      unfold fSl at q
      split at q
      · rename_i l
        split at q
        · exact q.elim
        · rename_i hn
          obtain ⟨a, vs, rfl, h1, h2⟩ := rep_tup rv'
          refine .inr ⟨a, vs, rfl, h1, ?_, fun p hp => new_tup w3 (h2.cut _ _) hp q⟩
          rw [← h2.length]
          simpa using hn
      · cases el : getL s3 x with
        | none => rw [el] at q; exact q.elim
        | some l =>
          rw [el] at q
          obtain ⟨a, vs, rfl, h1, h2⟩ := getL_at w3 rv' el
          exact .inl ⟨a, vs, rfl, h1, fun p hp => new_lst w3 (h2.cut _ _) hp q⟩⟩⟩⟩
theorem el_sl (h : ED X G W A e) (hl : EO X G W L lo) (hh : EO X G W U hi) : EL X G W (lSl A L U) (.Subscript e (.Slice lo hi none p2) pos) :=
  PE.imp (pe_slice sl_list h hl hh) fun σ H Q ⟨S, env, st, m, q⟩ => ⟨S, env, st, m, Post.imp (Post.bind q) fun S1 H1 x s1 l1 w1 q v rv => ⟨S1, env, s1, m.later l1 w1, Post.imp (Post.bind q) fun S2 H2 lo s2 l2 w2 q =>
    ⟨S2, env, s2, (m.later l1 w1).later l2 w2, Post.imp (Post.bind q) fun S3 H3 hi s3 l3 w3 q => by
      have rv' := (rv.mono l2).mono l3
      cases el : getL s3 x with
      | none => rw [el] at q; exact q.elim
      | some l =>
        rw [el] at q
        obtain ⟨a, vs, rfl, h1, h2⟩ := getL_at w3 rv' el
        exact ⟨a, vs, rfl, h1, fun p hp => Post.ok q w3 _ p (h2.cut _ _) hp⟩⟩⟩⟩
end
end Wt

/-! Core 4: statements, loops, comprehensions, defs and their calls. -/
namespace Wt
open PySem PySem.Spec PyProof.Rows L2
section
variable (K : PySem.W.Frag) (G : Nat → Addr)
def PostS (W : WX) (S : Vw) (H : Hp) (r : Fl) (E : Ends) : Prop :=
  match r with
  | .nx env st => ∀ S' H' σ', Lat H S H' S' → Sm K G S' σ' H' env st → E.nx σ' H'
  | .rt d st => ∀ S' H' v, Lat H S H' S' → Ws K G H' S' st → Rep K G H' S' d v → E.rt v H'
  | .bk env st => ∀ S' H' σ', Lat H S H' S' → Sm K G S' σ' H' env st → E.bk σ' H'
  | .ct env st => ∀ S' H' σ', Lat H S H' S' → Sm K G S' σ' H' env st → E.ct σ' H'
  | .exc c env st => ∀ S' H' σ', Lat H S H' S' → Sm K G S' σ' H' env st → W (.ref (G c)) none σ' H'
  | .bad => False
def tS (W : WX) (B : DenS) : TS := fun E σ H => ∃ S env st, Sm K G S σ H env st ∧ PostS K G W S H (B env st) E
end
abbrev ES (X : Cx) (G : Nat → Addr) (W : WX) (B : DenS) (s : Stmt) : Prop := PS X s (tS X.K G W B)
abbrev ESs (X : Cx) (G : Nat → Addr) (W : WX) (B : DenS) (s : List Stmt) : Prop := PSs X s (tS X.K G W B)
section
variable {K : PySem.W.Frag} {G : Nat → Addr} {H H' : Hp} {S S' : Vw} {σ : L2.St} {env : En} {st : Sto} {W : WX} {α β : Type}
theorem PostS.later {r : Fl} {E : Ends} (h : PostS K G W S H r E) (l : Lat H S H' S') : PostS K G W S' H' r E := by
  cases r with
  | nx e s => exact fun S2 H2 σ2 l2 m => h S2 H2 σ2 (l.trans l2) m
  | rt d s => exact fun S2 H2 v l2 w r => h S2 H2 v (l.trans l2) w r
  | bk e s => exact fun S2 H2 σ2 l2 m => h S2 H2 σ2 (l.trans l2) m
  | ct e s => exact fun S2 H2 σ2 l2 m => h S2 H2 σ2 (l.trans l2) m
  | exc c e s => exact fun S2 H2 σ2 l2 m => h S2 H2 σ2 (l.trans l2) m
  | bad => exact h
/-- a value's statement -/
def Rs.then (env : En) (r : Rs α) (f : α → Sto → Fl) : Fl := match r with
  | .ok a st => f a st
  | .exc c st => .exc c env st
  | .bad => .bad
theorem Post.then {r : Rs α} {f : α → Sto → Fl} {E : Ends} (m : ERep K G H S σ env) (h : PostS K G W S H (r.then env f) E) : Post K G W σ S H r fun S' H' a s => PostS K G W S' H' (f a s) E := by
  cases r with
  | ok a s => exact fun S' H' l w => PostS.later (r := f a s) h l
  | exc c s => exact fun S' H' l w => h S' H' σ l ⟨w, m.mono l⟩
  | bad => exact h
end

/-! ### small statements -/
def sNil : DenS := fun env st => .nx env st
def sSeq (A B : DenS) : DenS := fun env st => match A env st with
  | .nx env st => B env st
  | r => r
def sExpr (A : Den) : DenS := fun env st => (A env st).then env fun _ s => .nx env s
def sRet (A : Den) : DenS := fun env st => (A env st).then env fun d s => .rt d s
def sIf (P : DenB) (A B : DenS) : DenS := fun env st => (P env st).then env fun b s => if b then A env s else B env s
/-- a target: how a value is bound -/
abbrev DenG := D → En → Option En
def gVar (i : Nat) : DenG := fun d env => some (env.set i (some d))
def gVars : List Nat → List D → En → Option En
  | [], [], env => some env
  | i :: is, d :: ds, env => gVars is ds (env.set i (some d))
  | _, _, _ => none
def gTupV (is : List Nat) : DenG := fun d env => match d with
  | .tup ds => gVars is ds env
  | _ => none
def sAsg (g : DenG) (A : Den) : DenS := fun env st => (A env st).then env fun d s => match g d env with
  | some env' => .nx env' s
  | none => .bad
/-- a, b = x, y and a, b, c = x, y, z -/
def sPar (is : List Nat) (As : DenL) : DenS := fun env st => (As env st).then env fun ds s => match gVars is ds env with
  | some env' => .nx env' s
  | none => .bad
section
variable (K : PySem.W.Frag) (G : Nat → Addr)
def tGt (g : DenG) : TG := fun v σ H Q => ∃ S env st d env', Sm K G S σ H env st ∧ Rep K G H S d v ∧ g d env = some env' ∧ ∀ σ', Sm K G S σ' H env' st → Q σ' H
def tGs (is : List Nat) : TGs := fun vs σ H Q => ∃ S env st ds env', Sm K G S σ H env st ∧ Reps K G H S ds vs ∧ gVars is ds env = some env' ∧ ∀ σ', Sm K G S σ' H env' st → Q σ' H
end
theorem PG.imp {X : Cx} {e : Expr} {t t' : TG} (h : PG X e t) (i : ∀ v σ H Q, t' v σ H Q → t v σ H Q) : PG X e t' := ⟨fun pins s σ H v u Q I r q => h.run pins s σ H v u Q I r (i v σ H Q q)⟩
theorem PGs.imp {X : Cx} {e : List Expr} {t t' : TGs} (h : PGs X e t) (i : ∀ v σ H Q, t' v σ H Q → t v σ H Q) : PGs X e t' := ⟨fun pins s σ H v u Q I r q => h.run pins s σ H v u Q I r (i v σ H Q q)⟩
abbrev EG (X : Cx) (G : Nat → Addr) (g : DenG) (e : Expr) : Prop := PG X e (tGt X.K G g)
abbrev EGs (X : Cx) (G : Nat → Addr) (is : List Nat) (e : List Expr) : Prop := PGs X e (tGs X.K G is)
section
variable {X : Cx} {G : Nat → Addr} {W : WX} {pos pos' : Pos} {A B C : Den} {As : DenL} {P : DenB} {S1 S2 : DenS} {a b c e : Expr} {es : List Expr} {s : Stmt} {ss ts : List Stmt} {g : DenG}
theorem ess_nil : ESs X G W sNil [] := PSs.imp pss_nil fun E σ H ⟨S, env, st, m, q⟩ => q S H σ .refl m
theorem ess_cons (h1 : ES X G W S1 s) (h2 : ESs X G W S2 ss) : ESs X G W (sSeq S1 S2) (s :: ss) := PSs.imp (pss_cons h1 h2) fun E σ H ⟨S, env, st, m, q⟩ => ⟨S, env, st, m, by
  unfold sSeq at q
  cases e : S1 env st with
  | nx env' st' =>
    rw [e] at q
    exact fun S' H' σ' l m' => ⟨S', env', st', m', PostS.later q l⟩
  | rt d s => rw [e] at q; exact q
  | bk d s => rw [e] at q; exact q
  | ct d s => rw [e] at q; exact q
  | exc c d s => rw [e] at q; exact q
  | bad => rw [e] at q; exact q⟩
theorem ess_one (h1 : ES X G W S1 s) : ESs X G W S1 [s] := pss_one h1
theorem es_pass : ES X G W sNil (.Pass pos) := PS.imp ps_pass fun E σ H ⟨S, env, st, m, q⟩ => q S H σ .refl m
theorem es_never : ES X G W (fun _ _ => .bad) s := PS.imp ps_never fun E σ H ⟨S, env, st, m, q⟩ => q
theorem es_expr (h : ED X G W A e) (hs : swapsWith e none pos.line X.env = pure false := by rfl) : ES X G W (sExpr A) (.Expr e pos) :=
  PS.imp (ps_expr h hs) fun E σ H ⟨S, env, st, m, q⟩ => ⟨S, env, st, m, Post.imp (Post.then m.er q) fun S1 H1 d s1 l1 w1 q v rv => q S1 H1 σ .refl ⟨w1, m.er.mono l1⟩⟩
theorem es_ret (h : ED X G W A e) : ES X G W (sRet A) (.Return (some e) pos) :=
  PS.imp (ps_ret h) fun E σ H ⟨S, env, st, m, q⟩ => ⟨S, env, st, m, Post.imp (Post.then m.er q) fun S1 H1 d s1 l1 w1 q v rv => q S1 H1 v .refl w1 rv⟩
theorem es_if (h : EB X G W P c) (h1 : ESs X G W S1 ss) (h2 : ESs X G W S2 ts) : ES X G W (sIf P S1 S2) (.If c ss ts pos) :=
  PS.imp (ps_if h h1 h2) fun E σ H ⟨S, env, st, m, q⟩ => ⟨S, env, st, m, Post.imp (Post.then m.er q) fun S' H' k s1 l1 w1 q => by
    cases k with
    | true =>
      rw [if_pos rfl]
      exact ⟨S', env, s1, m.later l1 w1, q⟩
    | false =>
      rw [if_neg (by decide)]
      exact ⟨S', env, s1, m.later l1 w1, q⟩⟩
/-! targets -/
theorem eg_var {i : Nat} {x : Str} (hN : X.N.Nodup) (hi : X.N[i]? = some x := by rfl) (hx : Loc X.env.scope x := by first | exact Or.inl rfl | exact Or.inr rfl)
    (hf : X.fn x = true ∨ X.env.scope.names.lookup x = some .local := by first | exact .inl rfl | exact .inr rfl) : EG X G (gVar i) (.Name x pos) :=
  PG.imp (pg_name hN hi hx hf) fun v σ H Q ⟨S, env, st, d, env', m, r, e, k⟩ => by
    have e' : env.set i (some d) = env' := Option.some.inj e
    subst e'
    exact k _ ⟨m.ws, m.er.set r⟩
theorem egs_nil : EGs X G [] [] := PGs.imp pgs_nil fun vs σ H Q ⟨S, env, st, ds, env', m, r, e, k⟩ => by
  cases ds with
  | nil =>
    have e' : env = env' := Option.some.inj e
    subst e'
    exact ⟨r.of_nil, k _ m⟩
  | cons _ _ => cases e
theorem egs_cons {i : Nat} {is : List Nat} (h : EG X G (gVar i) e) (t : EGs X G is es) (hs : (assignEach (e :: es) X.env).map (·.2) = assign e X.env :: (assignEach es X.env).map (·.2) := by rfl) : EGs X G (i :: is) (e :: es) :=
  PGs.imp (pgs_cons h t hs) fun vs σ H Q ⟨S, env, st, ds, env', m, r, e, k⟩ => by
    cases ds with
    | nil => cases e
    | cons d ds =>
      obtain ⟨v, ws, rfl, r1, r2⟩ := r.of_cons
      exact ⟨v, ws, rfl, S, env, st, d, _, m, r1, rfl, fun σ' m' => ⟨S, _, st, ds, env', m', r2, e, k⟩⟩
theorem gVars_len : ∀ {is : List Nat} {ds : List D} {env env' : En}, gVars is ds env = some env' → ds.length = is.length
  | [], [], _, _, _ => rfl
  | _ :: is, _ :: ds, _, _, h => by simp [gVars_len (is := is) (ds := ds) h]
  | [], _ :: _, _, _, h => by cases h
  | _ :: _, [], _, _, h => by cases h
theorem eg_tup {is : List Nat} {k n : Nat} (hc : X.calm = true) (h : EGs X G is es) (hz : is.length = n := by rfl) (hn : (assignEach es X.env).length = n := by rfl) (hst : (assignEach es X.env).findIdx? (·.1) = none := by rfl) : EG X G (gTupV is) (.Tuple es k pos) :=
  PG.imp (pg_tup hc h hn hst) fun v σ H Q ⟨S, env, st, d, env', m, r, e, k⟩ => by
    unfold gTupV at e
    split at e
    · rename_i ds
      obtain ⟨a, vs, rfl, h1, h2⟩ := rep_tup r
      exact ⟨a, vs, rfl, h1, by rw [← h2.length, gVars_len e, hz], S, env, st, ds, env', m, h2, e, k⟩
    · cases e
theorem asg_of {te : TE} {tg : TG} {E : Ends} {σ : L2.St} {H : Hp} (ia : ∀ σ H Q, tD X.K G W A σ H Q → te σ H Q) (ig : ∀ v σ H Q, tGt X.K G g v σ H Q → tg v σ H Q) (h : tS X.K G W (sAsg g A) E σ H) : tAsg te tg E σ H := by
  obtain ⟨S, env, st, m, q⟩ := h
  refine ia σ H _ ⟨S, env, st, m, Post.imp (Post.then m.er q) fun S1 H1 d s1 l1 w1 q v rv => ig v σ H1 _ ?_⟩
  cases e : g d env with
  | none => rw [e] at q; exact q.elim
  | some env' =>
    rw [e] at q
    exact ⟨S1, env, s1, d, env', m.later l1 w1, rv, e, fun σ' m' => q S1 H1 σ' .refl m'⟩
theorem es_asg {tg : Expr} (he : ED X G W A e) (hg : EG X G g tg) (hs : swapsWithSole [tg] e pos.line X.env = pure false := by rfl) (hw : swappedStores [tg] e X.env = pure none := by rfl)
    (h1 : (assignEach [tg] X.env).map (·.2) = [assign tg X.env] := by rfl) : ES X G W (sAsg g A) (.Assign [tg] e pos) := PS.imp (ps_asg he hg hs hw h1) fun E σ H h => asg_of (fun _ _ _ q => q) (fun _ _ _ _ q => q) h
/-- name = value -/
theorem es_set {i : Nat} {x : Str} (hN : X.N.Nodup) (he : ED X G W A e) (hi : X.N[i]? = some x := by rfl) (hx : Loc X.env.scope x := by first | exact Or.inl rfl | exact Or.inr rfl) (hs : swapsWith e (some (.Name x pos')) pos.line X.env = pure false := by rfl)
    (hf : X.fn x = true ∨ X.env.scope.names.lookup x = some .local := by first | exact .inl rfl | exact .inr rfl) : ES X G W (sAsg (gVar i) A) (.Assign [.Name x pos'] e pos) :=
  PS.imp (ps_set hN hi hx he hs hf) fun E σ H h => asg_of (fun _ _ _ q => q) (fun v σ H Q ⟨S, env, st, d, env', m, r, e, k⟩ => by
    have e' : env.set i (some d) = env' := Option.some.inj e
    subst e'
    exact k _ ⟨m.ws, m.er.set r⟩) h
theorem es_par2 {i j : Nat} {x y : Str} {px py pt : Pos} {kt k2 : Nat} {pt2 : Pos} (hc : X.calm = true) (hN : X.N.Nodup) (ha : EA X G W As [a, b]) (hi : X.N[i]? = some x := by rfl) (hj : X.N[j]? = some y := by rfl) (hij : i ≠ j := by decide)
    (hx : X.env.scope.names.lookup x = some .local := by rfl) (hy : X.env.scope.names.lookup y = some .local := by rfl)
    (hw : swappedStores [.Tuple [.Name x px, .Name y py] kt pt] (.Tuple [a, b] k2 pt2) X.env = pure (some [x, y]) := by rfl)
    (hs : swapsWithSole [.Tuple [.Name x px, .Name y py] kt pt] (.Tuple [a, b] k2 pt2) pos.line X.env = pure false := by rfl) :
    ES X G W (sPar [i, j] As) (.Assign [.Tuple [.Name x px, .Name y py] kt pt] (.Tuple [a, b] k2 pt2) pos) :=
  PS.imp (ps_par hc hN hi hj hij hx hy ha hw hs) fun E σ H ⟨S, env, st, m, q⟩ => ⟨S, env, st, m, Post.imp (Post.then m.er q) fun S1 H1 ds s1 l1 w1 q vs rv => by
    match ds, q, rv with
    | [d1, d2], q, rv =>
      obtain ⟨v, u, rfl, r1, r2⟩ := rv.two
      exact ⟨v, u, rfl, q S1 H1 _ .refl ⟨w1, ((m.er.mono l1).set r1).set r2⟩⟩
    | [], q, _ => exact q.elim
    | [_], q, _ => exact q.elim
    | _ :: _ :: _ :: _, q, _ => exact q.elim⟩
end
theorem Reps.three {K : PySem.W.Frag} {G : Nat → Addr} {H : Hp} {S : Vw} {d e f : D} {vs : List V} (h : Reps K G H S [d, e, f] vs) : ∃ v w u, vs = [v, w, u] ∧ Rep K G H S d v ∧ Rep K G H S e w ∧ Rep K G H S f u := by
  obtain ⟨v, us, rfl, r, q⟩ := h.of_cons
  obtain ⟨w, u, rfl, q2, q3⟩ := q.two
  exact ⟨v, w, u, rfl, r, q2, q3⟩
section
variable {X : Cx} {G : Nat → Addr} {W : WX} {pos pos' : Pos} {A B C : Den} {As : DenL} {P : DenB} {S1 S2 : DenS} {a b c e : Expr} {es : List Expr} {s : Stmt} {ss ts : List Stmt} {g : DenG}
theorem es_par3 {i j l : Nat} {x y z : Str} {px py pz pt : Pos} {kt k2 : Nat} {pt2 : Pos} (hc : X.calm = true) (hN : X.N.Nodup) (ha : EA X G W As [a, b, c]) (hi : X.N[i]? = some x := by rfl) (hj : X.N[j]? = some y := by rfl) (hl : X.N[l]? = some z := by rfl)
    (hij : i ≠ j := by decide) (hil : i ≠ l := by decide) (hjl : j ≠ l := by decide)
    (hx : X.env.scope.names.lookup x = some .local := by rfl) (hy : X.env.scope.names.lookup y = some .local := by rfl) (hz : X.env.scope.names.lookup z = some .local := by rfl)
    (hw : swappedStores [.Tuple [.Name x px, .Name y py, .Name z pz] kt pt] (.Tuple [a, b, c] k2 pt2) X.env = pure (some [x, y, z]) := by rfl)
    (hs : swapsWithSole [.Tuple [.Name x px, .Name y py, .Name z pz] kt pt] (.Tuple [a, b, c] k2 pt2) pos.line X.env = pure false := by rfl) :
    ES X G W (sPar [i, j, l] As) (.Assign [.Tuple [.Name x px, .Name y py, .Name z pz] kt pt] (.Tuple [a, b, c] k2 pt2) pos) :=
  PS.imp (ps_par3 hc hN hi hj hl hij hil hjl hx hy hz ha hw hs) fun E σ H ⟨S, env, st, m, q⟩ => ⟨S, env, st, m, Post.imp (Post.then m.er q) fun S1 H1 ds s1 l1 w1 q vs rv => by
    match ds, q, rv with
    | [d1, d2, d3], q, rv =>
      obtain ⟨v, u, t, rfl, r1, r2, r3⟩ := rv.three
      exact ⟨v, u, t, rfl, q S1 H1 _ .refl ⟨w1, (((m.er.mono l1).set r1).set r2).set r3⟩⟩
    | [], q, _ => exact q.elim
    | [_], q, _ => exact q.elim
    | [_, _], q, _ => exact q.elim
    | _ :: _ :: _ :: _ :: _, q, _ => exact q.elim⟩
end

/-! ### what is walked -/
abbrev Itm := List D × (Sto → Bool)
abbrev DenI := En → Sto → Rs Itm
section
variable (K : PySem.W.Frag) (G : Nat → Addr)
/-- J gives the items of I, from the state S, H on -/
def Wk (J : It) (I : Itm) (S : Vw) (H : Hp) : Prop := ∀ S' H' st (i : Nat), Lat H S H' S' → Ws K G H' S' st → I.2 st = true →
  (∀ d, I.1[i]? = some d → J.go i H' ∧ ∀ x H2, J.yld i H' x H2 → ∃ S2, Lat H' S' H2 S2 ∧ Ws K G H2 S2 st ∧ Rep K G H2 S2 d x) ∧ (I.1.length ≤ i → J.stop i H')
def tI (W : WX) (A : DenI) : TI := fun σ H R => ∃ S env st, Sm K G S σ H env st ∧ Post K G W σ S H (A env st) fun S' H' I _ => ∀ J, Wk K G J I S' H' → R J H'
end
theorem PI.imp {X : Cx} {tg e : Expr} {t t' : TI} (h : PI X tg e t) (i : ∀ σ H R, t' σ H R → t σ H R) : PI X tg e t' := ⟨fun pins s σ H R I q => h.run pins s σ H R I (i σ H R q)⟩
abbrev EI (X : Cx) (G : Nat → Addr) (W : WX) (A : DenI) (tg e : Expr) : Prop := PI X tg e (tI X.K G W A)
/-- whether the list at d is still l -/
def keepL (d : D) (l : List D) : Sto → Bool := fun st => match d with
  | .loc _ => match getL st d with
    | some m => D.beqs l m
    | none => false
  | _ => true
def iLst (A : Den) : DenI := fun env st => (A env st).bind fun d s => match getL s d with
  | some l => .ok (l, keepL d l) s
  | none => .bad
def iTupD (A : Den) : DenI := fun env st => (A env st).bind fun d s => match d with
  | .tup l => .ok (l, fun _ => true) s
  | _ => .bad
def ixFrom : Nat → Nat → List D
  | _, 0 => []
  | i, n + 1 => .int (i : Nat) :: ixFrom (i + 1) n
def rngD (lo : Int) : Nat → List D
  | 0 => []
  | n + 1 => .int lo :: rngD (lo + 1) n
def iRng1D (As : DenL) : DenI := fun env st => (As env st).bind fun l s => match l with
  | [.int j] => if decide (-(2 ^ 62) ≤ j) && decide (j < 2 ^ 62) then .ok (rngD 0 j.toNat, fun _ => true) s else .bad
  | _ => .bad
def iRng2D (As : DenL) : DenI := fun env st => (As env st).bind fun l s => match l with
  | [.int i, .int j] => if decide (-(2 ^ 62) ≤ i) && decide (i < 2 ^ 62) && decide (-(2 ^ 62) ≤ j) && decide (j < 2 ^ 62) then .ok (rngD i (j - i).toNat, fun _ => true) s else .bad
  | _ => .bad
def zipIx : Int → List D → List D
  | _, [] => []
  | i, x :: r => .tup [.int i, x] :: zipIx (i + 1) r
def iEnumD (As : DenL) : DenI := fun env st => (As env st).bind fun l s => match l with
  | [d] => match getL s d with
    | some l => .ok (zipIx 0 l, keepL d l) s
    | none => .bad
  | _ => .bad
def zipD : List D → List D → List D
  | x :: xs, y :: ys => .tup [x, y] :: zipD xs ys
  | _, _ => []
def iZipD (As : DenL) : DenI := fun env st => (As env st).bind fun l s => match l with
  | [d, e] => match getL s d, getL s e with
    | some l, some m => .ok (zipD l m, fun s => keepL d l s && keepL e m s) s
    | _, _ => .bad
  | _ => .bad
theorem rngD_len : ∀ (n : Nat) (lo : Int), (rngD lo n).length = n
  | 0, _ => rfl
  | n + 1, lo => by simp [rngD, rngD_len n]
theorem rngD_get : ∀ (n i : Nat) (lo : Int), i < n → (rngD lo n)[i]? = some (.int (lo + i))
  | 0, _, _, h => absurd h (by omega)
  | n + 1, 0, lo, _ => by simp [rngD]
  | n + 1, i + 1, lo, h => by
    rw [rngD, List.getElem?_cons_succ, rngD_get n i (lo + 1) (by omega)]
    congr 2
    push_cast
    omega
theorem zipIx_len : ∀ (l : List D) (i : Int), (zipIx i l).length = l.length
  | [], _ => rfl
  | x :: r, i => by simp [zipIx, zipIx_len r]
theorem zipIx_get : ∀ (l : List D) (j : Nat) (i : Int), (zipIx i l)[j]? = (l[j]?).map fun d => .tup [.int (i + j), d]
  | [], j, i => by simp [zipIx]
  | x :: r, 0, i => by simp [zipIx]
  | x :: r, j + 1, i => by
    rw [zipIx, List.getElem?_cons_succ, List.getElem?_cons_succ, zipIx_get r j (i + 1)]
    congr 1
    funext d
    congr 3
    push_cast
    omega
theorem zipD_get : ∀ (l m : List D) (j : Nat) (d : D), (zipD l m)[j]? = some d → ∃ x y, l[j]? = some x ∧ m[j]? = some y ∧ d = .tup [x, y]
  | [], _, j, d, h => by simp [zipD] at h
  | _ :: _, [], j, d, h => by simp [zipD] at h
  | x :: xs, y :: ys, 0, d, h => by
    simp [zipD] at h
    exact ⟨x, y, rfl, rfl, h.symm⟩
  | x :: xs, y :: ys, j + 1, d, h => by
    simp [zipD] at h
    simpa using zipD_get xs ys j d h
theorem zipD_len : ∀ (l m : List D), (zipD l m).length = min l.length m.length
  | [], _ => by simp [zipD]
  | _ :: _, [] => by simp [zipD]
  | x :: xs, y :: ys => by simp [zipD, zipD_len xs ys]
section
variable {K : PySem.W.Frag} {G : Nat → Addr} {H : Hp} {S : Vw} {st : Sto}
/-- the list that d stood for stands there later, too -/
theorem keep_at {d : D} {v : V} {l : List D} (r : Rep K G H S d v) (w : Ws K G H S st) (e : getL st d = some l) : ∃ a, v = .ref a ∧ ∀ S' H' st', Lat H S H' S' → Ws K G H' S' st' → keepL d l st' = true → ∃ vs, SqL K H' a vs ∧ Reps K G H' S' l vs := by
  obtain ⟨a, vs, rfl, _, _⟩ := getL_at w r e
  refine ⟨a, rfl, fun S' H' st' l' w' k => ?_⟩
  have r' := r.mono l'
  have e' : getL st' d = some l := by
    cases d with
    | loc i =>
      unfold keepL at k
      dsimp only at k
      cases q : getL st' (.loc i) with
      | none => rw [q] at k; cases k
      | some m =>
        rw [q] at k
        rw [D.beqs_eq _ _ k]
    | lst m => exact e
    | scr m => exact e
    | _ => cases e
  obtain ⟨b, us, eb, h1, h2⟩ := getL_at w' r' e'
  cases eb
  exact ⟨us, h1, h2⟩
theorem wk_list {d : D} {a : Addr} {l : List D} (h : ∀ S' H' st', Lat H S H' S' → Ws K G H' S' st' → keepL d l st' = true → ∃ vs, SqL K H' a vs ∧ Reps K G H' S' l vs) : Wk K G (Itl K a) (l, keepL d l) S H := by
  intro S' H' st' i lt w k
  obtain ⟨vs, h1, h2⟩ := h S' H' st' lt w k
  refine ⟨fun d hd => ?_, fun hl => ⟨vs, h1, by rw [← h2.length]; exact hl⟩⟩
  obtain ⟨v, hv, rv⟩ := h2.get hd
  refine ⟨⟨vs, v, h1, hv⟩, fun x H2 hy => ?_⟩
  obtain ⟨rfl, hx⟩ := hy
  have ex : x = v := Option.some.inj ((hx vs h1).symm.trans hv)
  exact ⟨S', .refl, w, by rw [ex]; exact rv⟩
theorem wk_tup {a : Addr} {l : List D} {vs : List V} (h1 : SqT K H a vs) (h2 : Reps K G H S l vs) : Wk K G (Itt K a) (l, fun _ => true) S H := by
  intro S' H' st' i lt w k
  have h1' := lt.rd_t h1
  refine ⟨fun d hd => ?_, fun hl => ⟨vs, h1', by rw [← h2.length]; exact hl⟩⟩
  obtain ⟨v, hv, rv⟩ := h2.get hd
  refine ⟨⟨vs, v, h1', hv⟩, fun x H2 hy => ?_⟩
  obtain ⟨rfl, hx⟩ := hy
  have ex : x = v := Option.some.inj ((hx vs h1').symm.trans hv)
  exact ⟨S', .refl, w, by rw [ex]; exact rv.mono lt⟩
theorem wk_rng {lo : Int} {n : Nat} : Wk K G (Itr lo n) (rngD lo n, fun _ => true) S H := by
  intro S' H' st' i lt w k
  refine ⟨fun d hd => ?_, fun hl => ?_⟩
  · have hi : i < n := by
      have := (List.getElem?_eq_some_iff.mp hd).1
      dsimp only at this
      rwa [rngD_len] at this
    refine ⟨hi, fun x H2 hy => ?_⟩
    obtain ⟨rfl, rfl⟩ := hy
    dsimp only at hd
    rw [rngD_get n i lo hi] at hd
    rw [← Option.some.inj hd]
    exact ⟨S', .refl, w, mk_int⟩
  · dsimp only at hl
    rwa [rngD_len] at hl
theorem wk_enum {d : D} {a : Addr} {l : List D} (h : ∀ S' H' st', Lat H S H' S' → Ws K G H' S' st' → keepL d l st' = true → ∃ vs, SqL K H' a vs ∧ Reps K G H' S' l vs) : Wk K G (Ite K a) (zipIx 0 l, keepL d l) S H := by
  intro S' H' st' i lt w k
  obtain ⟨vs, h1, h2⟩ := h S' H' st' lt w k
  refine ⟨fun e he => ?_, fun hl => ⟨vs, h1, by rw [← h2.length]; rw [zipIx_len] at hl; exact hl⟩⟩
  dsimp only at he
  rw [zipIx_get] at he
  cases ed : l[i]? with
  | none => rw [ed] at he; cases he
  | some d' =>
    rw [ed] at he
    have ee : D.tup [.int (0 + (i : Int)), d'] = e := Option.some.inj he
    obtain ⟨v, hv, rv⟩ := h2.get ed
    refine ⟨⟨vs, v, h1, hv⟩, fun x H2 hy => ?_⟩
    obtain ⟨T, y, rfl, hT, rfl, hx⟩ := hy
    have ex : y = v := Option.some.inj ((hx vs h1).symm.trans hv)
    refine ⟨S', .new hT, w.new hT, ?_⟩
    rw [← ee]
    simp only [Rep]
    refine ⟨T, _, rfl, upd_same, ?_⟩
    rw [Int.zero_add, ex]
    exact .cons mk_int (.cons (rv.mono (.new hT)) .nil)
theorem wk_zip {d e : D} {a b : Addr} {l m : List D} (h : ∀ S' H' st', Lat H S H' S' → Ws K G H' S' st' → keepL d l st' = true → ∃ vs, SqL K H' a vs ∧ Reps K G H' S' l vs)
    (h' : ∀ S' H' st', Lat H S H' S' → Ws K G H' S' st' → keepL e m st' = true → ∃ vs, SqL K H' b vs ∧ Reps K G H' S' m vs) : Wk K G (Itz K a b) (zipD l m, fun s => keepL d l s && keepL e m s) S H := by
  intro S' H' st' i lt w k
  dsimp only at k
  rw [Bool.and_eq_true] at k
  obtain ⟨vs, h1, h2⟩ := h S' H' st' lt w k.1
  obtain ⟨us, h3, h4⟩ := h' S' H' st' lt w k.2
  refine ⟨fun z hz => ?_, fun hl => ⟨vs, us, h1, h3, ?_⟩⟩
  · obtain ⟨x, y, hx, hy, rfl⟩ := zipD_get l m i z hz
    obtain ⟨v, hv, rv⟩ := h2.get hx
    obtain ⟨u, hu, ru⟩ := h4.get hy
    refine ⟨⟨vs, us, v, u, h1, h3, hv, hu⟩, fun t H2 ht => ?_⟩
    obtain ⟨T, v', u', rfl, hT, rfl, hv', hu'⟩ := ht
    have ev : v' = v := Option.some.inj ((hv' vs h1).symm.trans hv)
    have eu : u' = u := Option.some.inj ((hu' us h3).symm.trans hu)
    refine ⟨S', .new hT, w.new hT, ?_⟩
    simp only [Rep]
    refine ⟨T, _, rfl, upd_same, ?_⟩
    rw [ev, eu]
    exact .cons (rv.mono (.new hT)) (.cons (ru.mono (.new hT)) .nil)
  · dsimp only at hl
    rw [zipD_len] at hl
    rw [← h2.length, ← h4.length]
    omega
end
section
variable {X : Cx} {G : Nat → Addr} {W : WX} {p pos tpos : Pos} {A : Den} {As : DenL} {a b c e e2 tg : Expr} {es elts : List Expr}
theorem ei_list (h : ED X G W A e) : EI X G W (iLst A) tg e := PI.imp (pi_list h) fun σ H R ⟨S, env, st, m, q⟩ => ⟨S, env, st, m, Post.imp (Post.bind q) fun S1 H1 d s1 l1 w1 q v rv => by
  cases el : getL s1 d with
  | none => rw [el] at q; exact q.elim
  | some l =>
    rw [el] at q
    obtain ⟨a, rfl, hk⟩ := keep_at rv w1 el
    obtain ⟨b, vs, eb, h1, h2⟩ := getL_at w1 rv el
    cases eb
    exact ⟨a, rfl, ⟨vs, h1⟩, Post.ok q w1 _ (wk_list hk)⟩⟩
theorem ei_tup (h : ED X G W A e) : EI X G W (iTupD A) tg e := PI.imp (pi_tup h) fun σ H R ⟨S, env, st, m, q⟩ => ⟨S, env, st, m, Post.imp (Post.bind q) fun S1 H1 d s1 l1 w1 q v rv => by
  split at q
  · obtain ⟨a, vs, rfl, h1, h2⟩ := rep_tup rv
    exact ⟨a, rfl, ⟨vs, h1⟩, Post.ok q w1 _ (wk_tup h1 h2)⟩
  · exact q.elim⟩
theorem ei_rng1 (hg : Gl X "range") (hm : X.mg "range" = none) (ha : EA X G W As [a]) (hs : starEach [a] X.env = [(false, eval a X.env)] := by rfl) : EI X G W (iRng1D As) tg (.Call (.Name "range" p) [a] [] pos) :=
  PI.imp (pi_range1 hg hm ha hs) fun σ H R ⟨S, env, st, m, q⟩ => ⟨S, env, st, m, Post.imp (Post.bind q) fun S1 H1 l s1 l1 w1 q vs rv => by
    split at q
    · rename_i j
      split at q
      · rename_i hz
        simp only [Bool.and_eq_true, decide_eq_true_eq] at hz
        obtain ⟨v, rfl, r⟩ := rv.one
        exact ⟨j, by rw [rep_int r], hz.1, hz.2, Post.ok q w1 _ wk_rng⟩
      · exact q.elim
    · exact q.elim⟩
theorem ei_rng2 (hg : Gl X "range") (hm : X.mg "range" = none) (ha : EA X G W As [a, b]) (hs : starEach [a, b] X.env = [(false, eval a X.env), (false, eval b X.env)] := by rfl) (hs2 : starEach [b] X.env = [(false, eval b X.env)] := by rfl) :
    EI X G W (iRng2D As) tg (.Call (.Name "range" p) [a, b] [] pos) :=
  PI.imp (pi_range2 hg hm ha hs hs2) fun σ H R ⟨S, env, st, m, q⟩ => ⟨S, env, st, m, Post.imp (Post.bind q) fun S1 H1 l s1 l1 w1 q vs rv => by
    split at q
    · rename_i i j
      split at q
      · rename_i hz
        simp only [Bool.and_eq_true, decide_eq_true_eq] at hz
        obtain ⟨v, u, rfl, r, r2⟩ := rv.two
        exact ⟨i, j, by rw [rep_int r, rep_int r2], ⟨hz.1.1.1, hz.1.1.2, hz.1.2, hz.2⟩, Post.ok q w1 _ wk_rng⟩
      · exact q.elim
    · exact q.elim⟩
theorem ei_enum {kk : Nat} (hg : Gl X "enumerate") (hm : X.mg "enumerate" = none) (ha : EA X G W As [e]) (hs : starEach [e] X.env = [(false, eval e X.env)] := by rfl) : EI X G W (iEnumD As) (.Tuple elts kk tpos) (.Call (.Name "enumerate" p) [e] [] pos) :=
  PI.imp (pi_enum hg hm ha hs) fun σ H R ⟨S, env, st, m, q⟩ => ⟨S, env, st, m, Post.imp (Post.bind q) fun S1 H1 l s1 l1 w1 q vs rv => by
    split at q
    · rename_i d
      obtain ⟨v, rfl, r⟩ := rv.one
      cases el : getL s1 d with
      | none => rw [el] at q; exact q.elim
      | some l =>
        rw [el] at q
        obtain ⟨a, rfl, hk⟩ := keep_at r w1 el
        obtain ⟨b, vs, eb, h1, h2⟩ := getL_at w1 r el
        cases eb
        exact ⟨a, vs, rfl, h1, Post.ok q w1 _ (wk_enum hk)⟩
    · exact q.elim⟩
theorem ei_zip {kk : Nat} (hg : Gl X "zip") (hm : X.mg "zip" = none) (ha : EA X G W As [e, e2]) (hs : starEach [e, e2] X.env = (false, eval e X.env) :: starEach [e2] X.env := by rfl) (hpl : (backTo pos (starEach [e2] X.env)).any (·.1) = false := by rfl) :
    EI X G W (iZipD As) (.Tuple elts kk tpos) (.Call (.Name "zip" p) [e, e2] [] pos) :=
  PI.imp (pi_zip hg hm ha hs hpl) fun σ H R ⟨S, env, st, m, q⟩ => ⟨S, env, st, m, Post.imp (Post.bind q) fun S1 H1 l s1 l1 w1 q vs rv => by
    split at q
    · rename_i d e
      obtain ⟨v, u, rfl, r, r2⟩ := rv.two
      cases el : getL s1 d with
      | none => rw [el] at q; exact q.elim
      | some l =>
        rw [el] at q
        cases em : getL s1 e with
        | none => rw [em] at q; exact q.elim
        | some m =>
          rw [em] at q
          obtain ⟨a, rfl, hk⟩ := keep_at r w1 el
          obtain ⟨b, rfl, hk'⟩ := keep_at r2 w1 em
          obtain ⟨a', vs, eb, h1, h2⟩ := getL_at w1 r el
          cases eb
          obtain ⟨b', us, eb, h3, h4⟩ := getL_at w1 r2 em
          cases eb
          exact ⟨a, b, vs, us, rfl, h1, h3, Post.ok q w1 _ (wk_zip hk hk')⟩
    · exact q.elim⟩
end

/-! ### for -/
def forIt (keep : Sto → Bool) (g : DenG) (B : DenS) : List D → DenS
  | [], env, st => if keep st then .nx env st else .bad
  | x :: r, env, st => if keep st then (match g x env with
    | some env1 => match B env1 st with
      | .nx e s => forIt keep g B r e s
      | .ct e s => forIt keep g B r e s
      | .bk e s => .nx e s
      | o => o
    | none => .bad) else .bad
def sFor (A : DenI) (g : DenG) (B : DenS) : DenS := fun env st => (A env st).then env fun I s => forIt I.2 g B I.1 env s
section
variable {X : Cx} {G : Nat → Addr} {W : WX} {p pos tpos : Pos} {A : DenI} {g : DenG} {B : DenS} {e tg : Expr} {body : List Stmt}
theorem for_of {J : It} {I : Itm} {E : Ends} {S₀ S : Vw} {H₀ H : Hp} {σ : L2.St} {env : En} {st : Sto} (wk : Wk X.K G J I S₀ H₀) (l0 : Lat H₀ S₀ H S) (m0 : Sm X.K G S σ H env st) (q0 : PostS X.K G W S H (forIt I.2 g B I.1 env st) E) :
    ∃ Wf : Nat → Nat → L2.St → Hp → Prop, (∃ m, Wf 0 m σ H) ∧ ∀ i m σ H, Wf i m σ H →
      (J.stop i H ∧ E.nx σ H) ∨ (J.go i H ∧ ∃ N : L2.St → Hp → Prop, (∀ σ' H', N σ' H' → ∃ m', m' < m ∧ Wf (i + 1) m' σ' H') ∧ ∀ x H', J.yld i H x H' → tGt X.K G g x σ H' fun σ2 H2 => tS X.K G W B { E with nx := N, ct := N, bk := E.nx } σ2 H2) := by
  refine ⟨fun i m σ H => ∃ S env st, Lat H₀ S₀ H S ∧ Sm X.K G S σ H env st ∧ i + m = I.1.length ∧ PostS X.K G W S H (forIt I.2 g B (I.1.drop i) env st) E, ⟨I.1.length, S, env, st, l0, m0, by omega, q0⟩, fun i m σ H ⟨S, env, st, l, sm, em, q⟩ => ?_⟩
  cases m with
  | zero =>
    have e0 : I.1.drop i = [] := List.drop_eq_nil_of_le (by omega)
    rw [e0, forIt] at q
    split at q
    · rename_i hk
      exact .inl ⟨(wk S H st i l sm.ws hk).2 (by omega), q S H σ .refl sm⟩
    · exact q.elim
  | succ m =>
    have hi : i < I.1.length := by omega
    have e0 : I.1.drop i = I.1[i] :: I.1.drop (i + 1) := List.drop_eq_getElem_cons hi
    rw [e0, forIt] at q
    split at q
    · rename_i hk
      obtain ⟨hgo, hy⟩ := (wk S H st i l sm.ws hk).1 _ (List.getElem?_eq_getElem hi)
      refine .inr ⟨hgo, fun σ' H' => ∃ S env st, Lat H₀ S₀ H' S ∧ Sm X.K G S σ' H' env st ∧ PostS X.K G W S H' (forIt I.2 g B (I.1.drop (i + 1)) env st) E, fun σ' H' ⟨S, env, st, l, sm, q⟩ => ⟨m, Nat.lt_succ_self _, S, env, st, l, sm, by omega, q⟩, fun x H' hyl => ?_⟩
      obtain ⟨S2, l2, w2, r2⟩ := hy x H' hyl
      cases eg : g I.1[i] env with
      | none => rw [eg] at q; exact q.elim
      | some env1 =>
        rw [eg] at q
        refine ⟨S2, env, st, _, env1, sm.later l2 w2, r2, eg, fun σ2 sm2 => ⟨S2, env1, st, sm2, ?_⟩⟩
        dsimp only at q
        cases eb : B env1 st with
        | nx e s =>
          rw [eb] at q
          exact fun S3 H3 σ3 l3 sm3 => ⟨S3, e, s, (l.trans l2).trans l3, sm3, PostS.later q (l2.trans l3)⟩
        | ct e s =>
          rw [eb] at q
          exact fun S3 H3 σ3 l3 sm3 => ⟨S3, e, s, (l.trans l2).trans l3, sm3, PostS.later q (l2.trans l3)⟩
        | bk e s =>
          rw [eb] at q
          exact fun S3 H3 σ3 l3 sm3 => q S3 H3 σ3 (l2.trans l3) sm3
        | rt d s =>
          rw [eb] at q
          exact fun S3 H3 v l3 w3 r3 => q S3 H3 v (l2.trans l3) w3 r3
        | exc c e s =>
          rw [eb] at q
          exact fun S3 H3 σ3 l3 sm3 => q S3 H3 σ3 (l2.trans l3) sm3
        | bad => rw [eb] at q; exact q
    · exact q.elim
theorem es_for (hp : PassesOwn (model X.prog X.w) X.A X.env X.xe) (hc : X.calm = true) (hi : EI X G W A tg e) (hg : EG X G g tg) (hb : ESs X G W B body) (hs : ∀ x, foldedSetIterable e X.env x = pure x := by intro _; rfl) :
    ES X G W (sFor A g B) (.For tg e body [] pos) :=
  PS.imp (ps_for hp hc hi hg hb hs) fun E σ H ⟨S, env, st, m, q⟩ => ⟨S, env, st, m, Post.imp (Post.then m.er q) fun S1 H1 I s1 l1 w1 q J wk => for_of wk .refl (m.later l1 w1) q⟩
end

/-! ### list comprehensions -/
def wipeE (env : En) : List Nat → En
  | [] => env
  | v :: vs => (wipeE env vs).set v none
/-- a new list of what the items give -/
def lcIt (keep : Sto → Bool) (vs : List Nat) (g : DenG) (P : DenB) (A : Den) (env : En) : List D → List D → Sto → Rs (List D)
  | [], acc, st => if keep st then .ok acc st else .bad
  | x :: r, acc, st => if keep st then (match g x (wipeE env vs) with
    | some env1 => (noX (P env1 st)).bind fun b s => if b then (noX (A env1 s)).bind fun d s => if szOk (acc.length + 1) then lcIt keep vs g P A env r (acc ++ [d]) s else .bad else lcIt keep vs g P A env r acc s
    | none => .bad) else .bad
def lLc (I : DenI) (vs : List Nat) (g : DenG) (P : DenB) (A : Den) : DenL := fun env st => (I env st).bind fun I s => lcIt I.2 vs g P A env I.1 [] s
def bYes : DenB := fun _ st => .ok true st
/-- a target whose names are the comprehension's own -/
def gOwn (vs : List Nat) : List Nat → Bool
  | is => is.all fun i => vs.contains i
theorem wipe_set {σ : L2.St} {x : Option V} : ∀ {vs : List Nat} {i : Nat}, i ∈ vs → wipe (σ.set i x) vs = wipe σ vs
  | [], _, h => by cases h
  | v :: vs, i, h => by
    by_cases e : i = v
    · subst e
      show (wipe (σ.set i x) vs).set i none = (wipe σ vs).set i none
      by_cases hm : i ∈ vs
      · rw [wipe_set hm]
      · have q : ∀ (vs : List Nat) (σ : L2.St), i ∉ vs → wipe (σ.set i x) vs = (wipe σ vs).set i x := by
          intro vs
          induction vs with
          | nil => intro σ _; rfl
          | cons v vs ih =>
            intro σ hn
            rw [List.mem_cons, not_or] at hn
            show (wipe (σ.set i x) vs).set v none = ((wipe σ vs).set v none).set i x
            rw [ih σ hn.2, List.set_comm _ _ hn.1]
        rw [q vs σ hm, List.set_set]
    · rcases List.mem_cons.mp h with h | h
      · exact absurd h e
      · show (wipe (σ.set i x) vs).set v none = (wipe σ vs).set v none
        rw [wipe_set h]
theorem wipe_wipe {σ : L2.St} {ws : List Nat} : ∀ {vs : List Nat}, (∀ i ∈ vs, i ∈ ws) → wipe (wipe σ vs) ws = wipe σ ws
  | [], _ => rfl
  | v :: vs, h => by
    show wipe ((wipe σ vs).set v none) ws = wipe σ ws
    rw [wipe_set (h v (List.mem_cons_self ..)), wipe_wipe fun i hi => h i (List.mem_cons_of_mem _ hi)]
section
variable {K : PySem.W.Frag} {G : Nat → Addr} {H : Hp} {S : Vw}
theorem ERep.wipe {σ : L2.St} {env : En} (h : ERep K G H S σ env) : ∀ vs : List Nat, ERep K G H S (L2.wipe σ vs) (wipeE env vs)
  | [] => h
  | v :: vs => (ERep.wipe h vs).unset
end
/-- the readings of a target, the comprehension's slots wiped behind it as before -/
def tGw (K : PySem.W.Frag) (G : Nat → Addr) (g : DenG) (vs : List Nat) : TG := fun v σ H Q => ∃ S env st d env', Sm K G S σ H env st ∧ Rep K G H S d v ∧ g d env = some env' ∧ ∀ σ', L2.wipe σ' vs = L2.wipe σ vs → Sm K G S σ' H env' st → Q σ' H
abbrev EGw (X : Cx) (G : Nat → Addr) (g : DenG) (vs : List Nat) (e : Expr) : Prop := PG X e (tGw X.K G g vs)
def tGws (K : PySem.W.Frag) (G : Nat → Addr) (is vs : List Nat) : TGs := fun us σ H Q => ∃ S env st ds env', Sm K G S σ H env st ∧ Reps K G H S ds us ∧ gVars is ds env = some env' ∧ ∀ σ', L2.wipe σ' vs = L2.wipe σ vs → Sm K G S σ' H env' st → Q σ' H
abbrev EGws (X : Cx) (G : Nat → Addr) (is vs : List Nat) (es : List Expr) : Prop := PGs X es (tGws X.K G is vs)
section
variable {X : Cx} {G : Nat → Addr} {W : WX} {pos : Pos} {e : Expr} {es : List Expr}
theorem egw_var {i : Nat} {x : Str} {vs : List Nat} (hN : X.N.Nodup) (hv : i ∈ vs := by decide) (hi : X.N[i]? = some x := by rfl) (hx : Loc X.env.scope x := by first | exact Or.inl rfl | exact Or.inr rfl)
    (hf : X.fn x = true ∨ X.env.scope.names.lookup x = some .local := by first | exact .inl rfl | exact .inr rfl) : EGw X G (gVar i) vs (.Name x pos) :=
  PG.imp (pg_name hN hi hx hf) fun v σ H Q ⟨S, env, st, d, env', m, r, e, k⟩ => by
    have e' : env.set i (some d) = env' := Option.some.inj e
    subst e'
    exact k _ (wipe_set hv) ⟨m.ws, m.er.set r⟩
theorem egws_nil {vs : List Nat} : EGws X G [] vs [] := PGs.imp pgs_nil fun us σ H Q ⟨S, env, st, ds, env', m, r, e, k⟩ => by
  cases ds with
  | nil =>
    have e' : env = env' := Option.some.inj e
    subst e'
    exact ⟨r.of_nil, k _ rfl m⟩
  | cons _ _ => cases e
theorem egws_cons {i : Nat} {is vs : List Nat} (h : EGw X G (gVar i) vs e) (t : EGws X G is vs es) (hs : (assignEach (e :: es) X.env).map (·.2) = assign e X.env :: (assignEach es X.env).map (·.2) := by rfl) : EGws X G (i :: is) vs (e :: es) :=
  PGs.imp (pgs_cons h t hs) fun us σ H Q ⟨S, env, st, ds, env', m, r, e, k⟩ => by
    cases ds with
    | nil => cases e
    | cons d ds =>
      obtain ⟨v, ws, rfl, r1, r2⟩ := r.of_cons
      exact ⟨v, ws, rfl, S, env, st, d, _, m, r1, rfl, fun σ' hw m' => ⟨S, _, st, ds, env', m', r2, e, fun σ2 hw2 m2 => k σ2 (hw2.trans hw) m2⟩⟩
theorem egw_tup {is vs : List Nat} {k n : Nat} (hc : X.calm = true) (h : EGws X G is vs es) (hz : is.length = n := by rfl) (hn : (assignEach es X.env).length = n := by rfl) (hst : (assignEach es X.env).findIdx? (·.1) = none := by rfl) : EGw X G (gTupV is) vs (.Tuple es k pos) :=
  PG.imp (pg_tup hc h hn hst) fun v σ H Q ⟨S, env, st, d, env', m, r, e, k⟩ => by
    unfold gTupV at e
    split at e
    · rename_i ds
      obtain ⟨a, us, rfl, h1, h2⟩ := rep_tup r
      exact ⟨a, us, rfl, h1, by rw [← h2.length, gVars_len e, hz], S, env, st, ds, env', m, h2, e, k⟩
    · cases e
end
/-- ours: nobody else writes there -/
def Vw.own (S : Vw) (p : Addr) : Vw := { S with P := fun a => S.P a ∨ a = p }
def Vw.disown (S : Vw) (p : Addr) : Vw := { S with P := fun a => S.P a ∧ a ≠ p }
section
variable {K : PySem.W.Frag} {G : Nat → Addr} {H H' : Hp} {S S' : Vw} {st : Sto} {p : Addr} {o o' : HO}
/-- p is nobody's -/
structure Lone (S : Vw) (p : Addr) : Prop where
  nF : ¬ S.F p
  nP : ¬ S.P p
  nR : ∀ (i : Nat), S.ρ[i]? ≠ some p
theorem Lone.of (w : Ws K G H S st) (h : H p = none) : Lone S p := by
  refine ⟨fun f => ?_, fun f => ?_, fun i f => ?_⟩
  · obtain ⟨u, e⟩ := w.fr p f
    rw [h] at e
    cases e
  · obtain ⟨u, e⟩ := w.pf p f
    rw [h] at e
    cases e
  · obtain ⟨u, e⟩ := w.rl i p f
    rw [h] at e
    cases e
theorem Lat.own : Lat H S H (S.own p) := { fz := fun _ _ f h => ⟨f, h⟩, pp := fun _ _ f h => ⟨.inl f, h⟩, tp := fun _ _ h => h, fr := fun _ _ _ h => h, pr := List.prefix_rfl }
theorem Ws.own (w : Ws K G H S st) (l : Lone S p) (h : H p = some o) : Ws K G H (S.own p) st where
  len := w.len
  nd := w.nd
  rl := w.rl
  nf := w.nf
  np := fun i a e q => by
    rcases q with q | q
    · exact w.np i a e q
    · exact l.nR i (q ▸ e)
  dj := fun a f q => by
    rcases q with q | q
    · exact w.dj a f q
    · exact l.nF (q ▸ f)
  pf := fun a q => by
    rcases q with q | q
    · exact w.pf a q
    · exact ⟨o, q ▸ h⟩
  cr := fun i a c h1 h2 => (w.cr i a c h1 h2).mono Lat.own fun _ e => e
  fr := w.fr
/-- p, ours, is written, and then nobody's -/
theorem LatR.rewrite (w : Ws K G H S st) (hp : S.P p) {vs : List V} (h : H p = some (.lst vs)) : LatR H S (upd H p o') (S.disown p) where
  fz := fun a u f e => ⟨f, by
    have hn : a ≠ p := fun q => w.dj a f (q ▸ hp)
    rw [upd_ne hn]
    exact e⟩
  tp := fun a xs e => by
    have hn : a ≠ p := fun q => by
      rw [q, h] at e
      cases e
    rw [upd_ne hn]
    exact e
  fr := fun a u v e => by
    have hn : a ≠ p := fun q => by
      rw [q, h] at e
      cases e
    rw [upd_ne hn]
    exact e
  pr := List.prefix_rfl
theorem Ws.rewrite (w : Ws K G H S st) (hp : S.P p) {vs : List V} (h : H p = some (.lst vs)) : Ws K G (upd H p o') (S.disown p) st where
  len := w.len
  nd := w.nd
  rl := fun i a e => by
    obtain ⟨u, q⟩ := w.rl i a e
    have hn : a ≠ p := fun z => w.np i a e (z ▸ hp)
    exact ⟨u, by rw [upd_ne hn]; exact q⟩
  nf := w.nf
  np := fun i a e q => w.np i a e q.1
  dj := fun a f q => w.dj a f q.1
  pf := fun a q => by
    obtain ⟨u, e⟩ := w.pf a q.1
    exact ⟨u, by rw [upd_ne q.2]; exact e⟩
  cr := fun i a c h1 h2 => (w.cr i a c h1 h2).monoR (LatR.rewrite w hp h) fun u e => by
    have hn : a ≠ p := fun z => w.np i a h1 (z ▸ hp)
    rw [upd_ne hn]
    exact e
  fr := fun a f => by
    obtain ⟨u, e⟩ := w.fr a f
    have hn : a ≠ p := fun z => w.dj a f (z ▸ hp)
    exact ⟨u, by rw [upd_ne hn]; exact e⟩
def del (H : Hp) (p : Addr) : Hp := fun a => if a = p then none else H a
theorem del_self : del H p p = none := by simp [del]
theorem del_ne {a : Addr} (h : a ≠ p) : del H p a = H a := by simp [del, h]
theorem upd_id {u : HO} (h : H p = some u) : upd H p u = H := by
  funext a
  by_cases e : a = p
  · rw [e, upd_same, h]
  · rw [upd_ne e]
theorem upd_del {u : HO} (h : H p = some u) : upd (del H p) p u = H := by
  funext a
  by_cases e : a = p
  · rw [e, upd_same, h]
  · rw [upd_ne e, del_ne e]
/-- without what is nobody's -/
theorem Lat.del (l : Lone S p) {vs : List V} (h : H p = some (.lst vs)) : Lat H S (del H p) S where
  fz := fun a u f e => ⟨f, by
    have hn : a ≠ p := fun q => l.nF (q ▸ f)
    rw [del_ne hn]
    exact e⟩
  pp := fun a u f e => ⟨f, by
    have hn : a ≠ p := fun q => l.nP (q ▸ f)
    rw [del_ne hn]
    exact e⟩
  tp := fun a xs e => by
    have hn : a ≠ p := fun q => by
      rw [q, h] at e
      cases e
    rw [del_ne hn]
    exact e
  fr := fun a u v e => by
    have hn : a ≠ p := fun q => by
      rw [q, h] at e
      cases e
    rw [del_ne hn]
    exact e
  pr := List.prefix_rfl
theorem Ws.del (w : Ws K G H S st) (l : Lone S p) {vs : List V} (h : H p = some (.lst vs)) : Ws K G (del H p) S st where
  len := w.len
  nd := w.nd
  rl := fun i a e => by
    obtain ⟨u, q⟩ := w.rl i a e
    have hn : a ≠ p := fun z => l.nR i (z ▸ e)
    exact ⟨u, by rw [del_ne hn]; exact q⟩
  nf := w.nf
  np := w.np
  dj := w.dj
  pf := fun a q => by
    obtain ⟨u, e⟩ := w.pf a q
    have hn : a ≠ p := fun z => l.nP (z ▸ q)
    exact ⟨u, by rw [del_ne hn]; exact e⟩
  cr := fun i a c h1 h2 => (w.cr i a c h1 h2).mono (Lat.del l h) fun u e => by
    have hn : a ≠ p := fun z => l.nR i (z ▸ h1)
    rw [del_ne hn]
    exact e
  fr := fun a f => by
    obtain ⟨u, e⟩ := w.fr a f
    have hn : a ≠ p := fun z => l.nF (z ▸ f)
    exact ⟨u, by rw [del_ne hn]; exact e⟩
end
section
variable {X : Cx} {G : Nat → Addr} {W : WX} {g : DenG} {P : DenB} {A : Den}
theorem lc_of {J : It} {I : Itm} {vs : List Nat} {S1 : Vw} {H1 : Hp} {σ : L2.St} {env : En} {st1 : Sto} {D : Addr} {Q : VK} (wk : Wk X.K G J I S1 H1) (m1 : Sm X.K G S1 σ H1 env st1) (hD : H1 D = none)
    (q1 : Post X.K G W σ S1 H1 (lcIt I.2 vs g P A env I.1 [] st1) fun S' H' l _ => ∀ vs p, Reps X.K G H' S' l vs → H' p = none → Q (.ref p) (upd H' p (.lst vs))) :
    ∃ Wf : Nat → Nat → Hp → Prop, (∃ m, Wf 0 m (upd H1 D (.lst []))) ∧ ∀ i m H, Wf i m H →
      (J.stop i H ∧ Q (.ref D) H) ∨ (J.go i H ∧ ∃ Nx : Hp → Prop, (∀ H', Nx H' → ∃ m', m' < m ∧ Wf (i + 1) m' H') ∧ ∀ x H', J.yld i H x H' → tGw X.K G g vs x (L2.wipe σ vs) H' fun σ2 H2 => L2.wipe σ2 vs = L2.wipe σ vs ∧ tT X.K G W0 P σ2 H2 fun b H3 =>
        if b = true then tD X.K G W0 A σ2 H3 fun y H4 => ∃ acc, H4 D = some (.lst acc) ∧ acc.length < sizeLine ∧ Nx (upd H4 D (.lst (acc ++ [y]))) else Nx H3) := by
  refine ⟨fun i m H => ∃ S st acc us, Lat H1 S1 H S ∧ Ws X.K G H S st ∧ Lone S D ∧ H D = some (.lst us) ∧ Reps X.K G H S acc us ∧ i + m = I.1.length ∧
      Post X.K G W σ S H (lcIt I.2 vs g P A env (I.1.drop i) acc st) fun S' H' l _ => ∀ vs p, Reps X.K G H' S' l vs → H' p = none → Q (.ref p) (upd H' p (.lst vs)),
    ⟨I.1.length, S1, st1, [], [], .new hD, m1.ws.new hD, .of m1.ws hD, upd_same, .nil, by omega, Post.later q1 (.new hD) fun _ _ _ _ _ _ q => q⟩, fun i m H ⟨S, st, acc, us, l, w, lo, hH, ra, em, q⟩ => ?_⟩
  cases m with
  | zero =>
    have e0 : I.1.drop i = [] := List.drop_eq_nil_of_le (by omega)
    rw [e0, lcIt] at q
    split at q
    · rename_i hk
      refine .inl ⟨(wk S H st i l w hk).2 (by omega), ?_⟩
      have z := q S (del H D) (.del lo hH) (w.del lo hH) us D (ra.mono (.del lo hH)) del_self
      rw [upd_del hH] at z
      exact z
    · exact q.elim
  | succ m =>
    have hi : i < I.1.length := by omega
    have e0 : I.1.drop i = I.1[i] :: I.1.drop (i + 1) := List.drop_eq_getElem_cons hi
    rw [e0, lcIt] at q
    split at q
    · rename_i hk
      have lo' : Lat H1 S1 H (S.own D) := l.trans .own
      have wo := w.own lo hH
      obtain ⟨hgo, hy⟩ := (wk (S.own D) H st i lo' wo hk).1 _ (List.getElem?_eq_getElem hi)
      refine .inr ⟨hgo, fun H' => ∃ S st acc us, Lat H1 S1 H' S ∧ Ws X.K G H' S st ∧ Lone S D ∧ H' D = some (.lst us) ∧ Reps X.K G H' S acc us ∧
        Post X.K G W σ S H' (lcIt I.2 vs g P A env (I.1.drop (i + 1)) acc st) fun S' H' l _ => ∀ vs p, Reps X.K G H' S' l vs → H' p = none → Q (.ref p) (upd H' p (.lst vs)), fun H' ⟨S, st, acc, us, a1, a2, a3, a4, a5, a6⟩ => ⟨m, Nat.lt_succ_self _, S, st, acc, us, a1, a2, a3, a4, a5, by omega, a6⟩, fun x H' hyl => ?_⟩
      obtain ⟨S2, l2, w2, r2⟩ := hy x H' hyl
      -- what is known of D behind any later state of ours
      have lH : Lat H S H' S2 := (Lat.own (p := D)).trans l2
      have back : ∀ S3 H3 st3 acc3 (us3 : List V), Lat H' S2 H3 S3 → Ws X.K G H3 S3 st3 → Reps X.K G H3 S3 acc3 us3 → H3 D = some (.lst us) ∧ Lat H S (upd H3 D (.lst us3)) (S3.disown D) ∧ Ws X.K G (upd H3 D (.lst us3)) (S3.disown D) st3 ∧ Lone (S3.disown D) D ∧
          Reps X.K G (upd H3 D (.lst us3)) (S3.disown D) acc3 us3 := by
        intro S3 H3 st3 acc3 us3 l3 w3 r3
        obtain ⟨p3, h3⟩ := (l2.trans l3).pp D _ (.inr rfl) hH
        have lr := LatR.rewrite (o' := .lst us3) w3 p3 h3
        refine ⟨h3, ⟨?_, fun a o f e => ?_⟩, w3.rewrite p3 h3, ⟨fun f => w3.dj D f p3, fun f => f.2 rfl, fun j e => w3.np j D e p3⟩, r3.monoR lr⟩
        · have la := (lH.trans l3).toLatR
          exact ⟨fun a o f e => let ⟨f1, e1⟩ := la.fz a o f e; lr.fz a o f1 e1, fun a xs e => lr.tp _ _ (la.tp _ _ e), fun a o u e => lr.fr _ _ _ (la.fr _ _ _ e), la.pr.trans lr.pr⟩
        · obtain ⟨f3, e3⟩ := (lH.trans l3).pp a o f e
          have hn : a ≠ D := fun z => lo.nP (z ▸ f)
          exact ⟨⟨f3, hn⟩, by rw [upd_ne hn]; exact e3⟩
      cases eg : g I.1[i] (wipeE env vs) with
      | none => rw [eg] at q; exact q.elim
      | some env1 =>
        rw [eg] at q
        dsimp only at q
        have er2 : ERep X.K G H' S2 (L2.wipe σ vs) (wipeE env vs) := (m1.er.mono (l.trans lH)).wipe vs
        refine ⟨S2, wipeE env vs, st, _, env1, ⟨w2, er2⟩, r2, eg, fun σ2 hw sm2 => ⟨hw.trans (wipe_wipe fun _ h => h), S2, env1, st, sm2, ?_⟩⟩
        cases eP : P env1 st with
        | bad => rw [eP] at q; exact q
        | exc c s => rw [eP] at q; exact q.elim
        | ok b s3 =>
          rw [eP] at q
          intro S3 H3 l3 w3
          cases b with
          | false =>
            rw [if_neg (by decide)]
            obtain ⟨b0, b1, b2, b3, b4⟩ := back S3 H3 s3 acc us l3 w3 (ra.mono (lH.trans l3))
            rw [upd_id b0] at b1 b2 b4
            exact ⟨_, s3, acc, us, l.trans b1, b2, b3, b0, b4, Post.later q b1 fun _ _ _ _ _ _ z => z⟩
          | true =>
            rw [if_pos rfl]
            refine ⟨S3, env1, s3, sm2.later l3 w3, ?_⟩
            cases eA : A env1 s3 with
            | bad => simp only [noX, Rs.bind, eA, if_pos] at q; exact q
            | exc c s => simp only [noX, Rs.bind, eA, if_pos] at q; exact q.elim
            | ok d s4 =>
              simp only [noX, Rs.bind, eA, if_pos] at q
              intro S4 H4 l4 w4 v rv
              split at q
              · rename_i hz
                obtain ⟨b0, b1, b2, b3, b4⟩ := back S4 H4 s4 (acc ++ [d]) (us ++ [v]) (l3.trans l4) w4 ((ra.mono (lH.trans (l3.trans l4))).append (.cons rv .nil))
                refine ⟨us, b0, ?_, _, s4, acc ++ [d], us ++ [v], l.trans b1, b2, b3, upd_same, b4, Post.later q b1 fun _ _ _ _ _ _ z => z⟩
                have z := szOk.ok hz
                rw [ra.length] at z
                exact z
              · exact q.elim
    · exact q.elim
theorem tLc_of {wi : TI} {I : DenI} {vs : List Nat} {σ : L2.St} {H : Hp} {Q : VK} (hi : ∀ R, tI X.K G W I σ H R → wi σ H R) (h : tL X.K G W (lLc I vs g P A) σ H Q) : tLc wi (tGw X.K G g vs) (tT X.K G W0 P) (tD X.K G W0 A) vs σ H Q := by
  obtain ⟨S, env, st, m, q⟩ := h
  exact hi _ ⟨S, env, st, m, Post.imp (Post.bind q) fun S1 H1 I s1 l1 w1 q J wk D hD => lc_of wk (m.later l1 w1) hD q⟩
end
section
variable {X : Cx} {G : Nat → Addr} {W : WX} {I : DenI} {g : DenG} {P : DenB} {A : Den} {elt tg iter : Expr} {ifs : List Expr} {scope : Scope} {own : List (Str × Nat)} {pos spos py : Pos} {i : Nat} {y : Str}
abbrev EBs (X : Cx) (G : Nat → Addr) (W : WX) (A : DenB) (es : List Expr) : Prop := PTs X es (tT X.K G W A)
theorem ebs_nil : EBs X G W bYes [] := ⟨fun pins s σ H Q I ⟨S, env, st, m, q⟩ => pts_nil.run pins s σ H Q I (Post.ok q m.ws)⟩
theorem ebs_one {c : Expr} (h : EB X G W P c) : EBs X G W P [c] := pts_one h
theorem el_lc (hc : X.calm = true) (hN : X.N.Nodup) (hi : EI X G W I tg iter) (ok : BlkOk X.N X.env.scope scope own)
    (hg : ∀ (s : Shared) (H : Hp) (C : Addr) (cl : List (Str × Addr)) (fp : List Addr), EGw (X.blk s H scope (compEnvC scope cl C X.env) fp) G g (own.map (·.2)) tg) (ht : ∀ (s : Shared) (H : Hp) (C : Addr) (cl : List (Str × Addr)) (fp : List Addr), EBs (X.blk s H scope (compEnvC scope cl C X.env) fp) G W0 P ifs)
    (he : ∀ (s : Shared) (H : Hp) (C : Addr) (cl : List (Str × Addr)) (fp : List Addr), ED (X.blk s H scope (compEnvC scope cl C X.env) fp) G W0 A elt) (hs : ∀ x, foldedSetIterable iter X.env x = pure x := by intro _; rfl) :
    EL X G W (lLc I (own.map (·.2)) g P A) (.ListComp elt [⟨tg, iter, ifs, 0⟩] scope pos) :=
  PE.imp (pe_lc hc hN hi ok hg ht he hs) fun σ H Q h => tLc_of (fun _ q => q) h
/-- name = [..] of the list as it stays, as one that is changed -/
theorem es_setLc (hc : X.calm = true) (hN : X.N.Nodup) (hyl : X.env.scope.names.lookup y = some .local)
    (hsw : swapsWith (.ListComp elt [⟨tg, iter, ifs, 0⟩] scope pos) (some (.Name y py)) spos.line X.env = pure true) (hi : EI X G W I tg iter) (ok : BlkOk X.N X.env.scope scope own)
    (hg : ∀ (s : Shared) (H : Hp) (C : Addr) (cl : List (Str × Addr)) (fp : List Addr), EGw (X.blk s H scope (compEnvC scope cl C X.env) fp) G g (own.map (·.2)) tg) (ht : ∀ (s : Shared) (H : Hp) (C : Addr) (cl : List (Str × Addr)) (fp : List Addr), EBs (X.blk s H scope (compEnvC scope cl C X.env) fp) G W0 P ifs)
    (he : ∀ (s : Shared) (H : Hp) (C : Addr) (cl : List (Str × Addr)) (fp : List Addr), ED (X.blk s H scope (compEnvC scope cl C X.env) fp) G W0 A elt) (hy : X.N[i]? = some y := by rfl) (hs : ∀ x, foldedSetIterable iter X.env x = pure x := by intro _; rfl) :
    ES X G W (sAsg (gVar i) (dDat (lLc I (own.map (·.2)) g P A))) (.Assign [.Name y py] (.ListComp elt [⟨tg, iter, ifs, 0⟩] scope pos) spos) ∧
    ES X G W (sAsg (gVar i) (dCel (lLc I (own.map (·.2)) g P A))) (.Assign [.Name y py] (.ListComp elt [⟨tg, iter, ifs, 0⟩] scope pos) spos) := by
  have base := ps_setLc (i := i) (py := py) (spos := spos) (pos := pos) (te := tD X.K G W0 A) (tt := tT X.K G W0 P) (g := tGw X.K G g (own.map (·.2))) hc hN hy hyl hsw hi ok hg ht he hs
  have hv : ∀ (v : V) (σ : L2.St) (H : Hp) (Q : L2.St → Hp → Prop), tGt X.K G (gVar i) v σ H Q → gName i v σ H Q := fun v σ H Q ⟨S, env, st, d, env', m, r, e, k⟩ => by
    have e' : env.set i (some d) = env' := Option.some.inj e
    subst e'
    exact k _ ⟨m.ws, m.er.set r⟩
  exact ⟨PS.imp base fun E σ H h => asg_of (fun σ H Q ⟨S, env, st, m, q⟩ => tLc_of (fun _ q => q) ⟨S, env, st, m, Post.imp (Post.bind q) fun S1 H1 l s1 l1 w1 q vs p rvs hp => new_lst w1 rvs hp q⟩) hv h,
    PS.imp base fun E σ H h => asg_of (fun σ H Q ⟨S, env, st, m, q⟩ => tLc_of (fun _ q => q) ⟨S, env, st, m, Post.imp (Post.bind q) fun S1 H1 l s1 l1 w1 q vs p rvs hp => new_cel w1 rvs hp q⟩) hv h⟩
theorem es_setLd (hc : X.calm = true) (hN : X.N.Nodup) (hyl : X.env.scope.names.lookup y = some .local)
    (hsw : swapsWith (.ListComp elt [⟨tg, iter, ifs, 0⟩] scope pos) (some (.Name y py)) spos.line X.env = pure true) (hi : EI X G W I tg iter) (ok : BlkOk X.N X.env.scope scope own)
    (hg : ∀ (s : Shared) (H : Hp) (C : Addr) (cl : List (Str × Addr)) (fp : List Addr), EGw (X.blk s H scope (compEnvC scope cl C X.env) fp) G g (own.map (·.2)) tg) (ht : ∀ (s : Shared) (H : Hp) (C : Addr) (cl : List (Str × Addr)) (fp : List Addr), EBs (X.blk s H scope (compEnvC scope cl C X.env) fp) G W0 P ifs)
    (he : ∀ (s : Shared) (H : Hp) (C : Addr) (cl : List (Str × Addr)) (fp : List Addr), ED (X.blk s H scope (compEnvC scope cl C X.env) fp) G W0 A elt) (hy : X.N[i]? = some y := by rfl) (hs : ∀ x, foldedSetIterable iter X.env x = pure x := by intro _; rfl) :
    ES X G W (sAsg (gVar i) (dDat (lLc I (own.map (·.2)) g P A))) (.Assign [.Name y py] (.ListComp elt [⟨tg, iter, ifs, 0⟩] scope pos) spos) := (es_setLc hc hN hyl hsw hi ok hg ht he hy hs).1
theorem es_setLv (hc : X.calm = true) (hN : X.N.Nodup) (hyl : X.env.scope.names.lookup y = some .local)
    (hsw : swapsWith (.ListComp elt [⟨tg, iter, ifs, 0⟩] scope pos) (some (.Name y py)) spos.line X.env = pure true) (hi : EI X G W I tg iter) (ok : BlkOk X.N X.env.scope scope own)
    (hg : ∀ (s : Shared) (H : Hp) (C : Addr) (cl : List (Str × Addr)) (fp : List Addr), EGw (X.blk s H scope (compEnvC scope cl C X.env) fp) G g (own.map (·.2)) tg) (ht : ∀ (s : Shared) (H : Hp) (C : Addr) (cl : List (Str × Addr)) (fp : List Addr), EBs (X.blk s H scope (compEnvC scope cl C X.env) fp) G W0 P ifs)
    (he : ∀ (s : Shared) (H : Hp) (C : Addr) (cl : List (Str × Addr)) (fp : List Addr), ED (X.blk s H scope (compEnvC scope cl C X.env) fp) G W0 A elt) (hy : X.N[i]? = some y := by rfl) (hs : ∀ x, foldedSetIterable iter X.env x = pure x := by intro _; rfl) :
    ES X G W (sAsg (gVar i) (dCel (lLc I (own.map (·.2)) g P A))) (.Assign [.Name y py] (.ListComp elt [⟨tg, iter, ifs, 0⟩] scope pos) spos) := (es_setLc hc hN hyl hsw hi ok hg ht he hy hs).2
end
end Wt

/-! Core 5: defs, calls, methods, instances, fields, lists changed by methods. -/
namespace Wt
open PySem PySem.Spec PyProof.Rows L2
abbrev DenF := List D → Sto → Rs D
section
variable (K : PySem.W.Frag) (G : Nat → Addr)
def PostF (S : Vw) (H : Hp) (r : Rs D) (Q : VK) (E : XK) : Prop :=
  match r with
  | .ok d st => ∀ S' H' v, Lat H S H' S' → Ws K G H' S' st → Rep K G H' S' d v → Q v H'
  | .exc c st => ∀ S' H', Lat H S H' S' → Ws K G H' S' st → E (.ref (G c)) none H'
  | .bad => False
/-- the promise: what d gives, of n arguments -/
def spD (n : Nat) (d : DenF) : Sp := fun vs H Q E => ∃ S ds st, Ws K G H S st ∧ Reps K G H S ds vs ∧ ds.length = n ∧ PostF K G S H (d ds st) Q E
end
/-- the def at f does d -/
def FD (P : Program) (w : World) (K : PySem.W.Frag) (mg : Str → Option Value) (base : Heap) (G : Nat → Addr) (k : Nat) (f : Addr) (n : Nat) (d : DenF) : Prop :=
  ∃ (fd : FuncData) (ps : List Str), FnOk P w K mg base (L2.CX P w) k f fd ps (spD K G n d) ∧ Binds K fd ps []
theorem FD.mono {P : Program} {w : World} {K : PySem.W.Frag} {mg : Str → Option Value} {base : Heap} {G : Nat → Addr} {j k : Nat} {f : Addr} {n : Nat} {d : DenF} (F : FD P w K mg base G j f n d) (h : j ≤ k) : FD P w K mg base G k f n d :=
  let ⟨fd, ps, F, b⟩ := F; ⟨fd, ps, F.mono h, b⟩
/-- a body run at the arguments: N names in all -/
def run (N : Nat) (B : DenS) : DenF := fun ds st => match B (ds.map some ++ List.replicate (N - ds.length) none) st with
  | .nx _ s => .ok .non s
  | .rt d s => .ok d s
  | .exc c _ s => .exc c s
  | _ => .bad
section
variable {K : PySem.W.Frag} {G : Nat → Addr} {H : Hp} {S : Vw}
theorem ERep.start {ds : List D} {vs : List V} {N : List Str} (r : Reps K G H S ds vs) : ERep K G H S (L2.start N vs) (ds.map some ++ List.replicate (N.length - ds.length) none) := by
  refine ⟨by simp [L2.start, r.length], fun i d hi => ?_⟩
  by_cases h : i < ds.length
  · rw [List.getElem?_append_left (by simpa using h), List.getElem?_map] at hi
    cases e : ds[i]? with
    | none => rw [e] at hi; cases hi
    | some d' =>
      rw [e] at hi
      have ed : d' = d := by simpa using hi
      obtain ⟨v, hv, rv⟩ := r.get e
      refine ⟨v, ?_, ed ▸ rv⟩
      unfold L2.start
      rw [List.getElem?_append_left (by rw [List.length_map, ← r.length]; exact h), List.getElem?_map, hv]
      rfl
  · rw [List.getElem?_append_right (by simpa using h)] at hi
    rw [List.getElem?_replicate] at hi
    split at hi <;> simp at hi
end
section
variable {P : Program} {w : World} {K : PySem.W.Frag} {mg : Str → Option Value} {base : Heap} {G : Nat → Addr}
/-- THE RULE for a def: its body does B -/
theorem fd_of {x qual : Str} {st : Stmt} {f : Addr} {fd : FuncData} {N ps : List Str} {k n nN : Nat} {B : DenS} (F : Fun K x qual st f fd) (Sc : FnScope N ps (defScope st)) (hn : ps.length = n) (hN : N.length = nN) (hb : Binds K fd ps [])
    (hbody : ∀ (cdv : Value) (A : Around) (outer : List Env) (s : Shared) (H : Hp) (E : XK), Room k (A.deeper (envOfC qual (defScope st) s.heap.objs.size f cdv)) →
      ESs (cxOf (L2.CX P w) P w K mg base N qual (defScope st) f cdv A outer s H E) G (fun cls d _ H => E cls d H) B (defBody st)) : FD P w K mg base G (k + 1) f n (run nN B) := by
  subst hN
  refine ⟨fd, ps, F.okX Sc (fun vs H Q E h => ?_) (fun cdv A outer s H vs Q E hr h => ⟨_, hbody cdv A outer s H E hr, ?_⟩), hb⟩
  · obtain ⟨S, ds, st, _, r, hl, _⟩ := h
    rw [← r.length, hl, hn]
  · obtain ⟨S, ds, st, w, r, hl, q⟩ := h
    refine ⟨S, _, st, ⟨w, ERep.start r⟩, ?_⟩
    unfold run at q
    cases e : B (ds.map some ++ List.replicate (N.length - ds.length) none) st with
    | nx env s =>
      rw [e] at q
      exact fun S' H' σ' l m => q S' H' .non l m.ws mk_non
    | rt d s =>
      rw [e] at q
      exact q
    | exc c env s =>
      rw [e] at q
      exact fun S' H' σ' l m => q S' H' l m.ws
    | bk _ _ => rw [e] at q; exact q.elim
    | ct _ _ => rw [e] at q; exact q.elim
    | bad => rw [e] at q; exact q
end
/-- another denotation that gives no less -/
theorem FD.imp {P : Program} {w : World} {K : PySem.W.Frag} {mg : Str → Option Value} {base : Heap} {G : Nat → Addr} {k : Nat} {f : Addr} {n : Nat} {d d' : DenF} (F : FD P w K mg base G k f n d)
    (h : ∀ S H ds st Q E, Ws K G H S st → PostF K G S H (d' ds st) Q E → PostF K G S H (d ds st) Q E) : FD P w K mg base G k f n d' :=
  let ⟨fd, ps, F, b⟩ := F
  ⟨fd, ps, F.imp fun vs H Q E ⟨S, ds, st, w, r, hl, q⟩ => ⟨S, ds, st, w, r, hl, h S H ds st Q E w q⟩, b⟩

/-! ### calls -/
def dFn (n : Nat) (d : DenF) (As : DenL) : Den := fun env st => (As env st).bind fun l s => if Nat.beq l.length n then d l s else .bad
section
variable {X : Cx} {G : Nat → Addr} {W : WX} {k n : Nat} {f : Addr} {d : DenF} {x : Str} {p pos : Pos} {e : Expr} {es : List Expr} {As : DenL}
theorem PostF.of {S : Vw} {H : Hp} {σ : L2.St} {r : Rs D} {Q : VK} (q : Post X.K G W σ S H r fun S' H' d _ => ∀ v, Rep X.K G H' S' d v → Q v H') : PostF X.K G S H r Q (WE W σ) := by
  cases r with
  | ok d st => exact fun S' H' v l w r => q S' H' l w v r
  | exc c st => exact q
  | bad => exact q
theorem ed_call (F : FD X.prog X.w X.K X.mg X.base G k f n d) (hr : Room k X.A) (hm : X.mg x = some (.ref f)) (hk : PySem.W.keepIn X.K (.ref f) = true) (tk : Takes X W) (ha : EA X G W As (e :: es)) (hg : Gl X x := by rfl)
    (hdb : (x == ("__debug__" : Str)) = false := by decide) (he : starEach (e :: es) X.env = (false, eval e X.env) :: starEach es X.env := by rfl) (hpl : (backTo pos (starEach es X.env)).any (·.1) = false := by rfl) :
    ED X G W (dFn n d As) (.Call (.Name x p) (e :: es) [] pos) := by
  obtain ⟨fd, ps, F, hb⟩ := F
  exact PE.imp (pe_callS F hr hg hm hk hb (fun σ => passAt tk σ) ha hdb he hpl) fun σ H Q ⟨S, env, st, m, q⟩ => ⟨S, env, st, m, Post.imp (Post.bind q) fun S1 H1 l s1 l1 w1 q vs rvs => by
    split at q
    · rename_i hz
      exact ⟨S1, l, s1, w1, rvs, Nat.eq_of_beq_eq_true hz, PostF.of q⟩
    · exact q.elim⟩
/-- f() -/
theorem ed_call0 (F : FD X.prog X.w X.K X.mg X.base G k f 0 d) (hr : Room k X.A) (hm : X.mg x = some (.ref f)) (hk : PySem.W.keepIn X.K (.ref f) = true) (tk : Takes X W) (hg : Gl X x := by rfl) (hdb : (x == ("__debug__" : Str)) = false := by decide) :
    ED X G W (dFn 0 d aNil) (.Call (.Name x p) [] [] pos) := by
  obtain ⟨fd, ps, F, hb⟩ := F
  refine ⟨fun pins s σ H Q I ⟨S, env, st, m, q⟩ => ?_⟩
  refine wpAny_Call_Name_kw (ld_glob I hg hm ?_ hdb)
  exact PySem.W.callWith_K0 I.kIn hk (run_fnS (us := []) (vs := []) (E := WE W) F hr hb (passAt tk σ) I .nil ⟨S, [], st, m.ws, .nil, rfl, PostF.of (W := W) q⟩)
end

/-! ### instances -/
/-- the class of a value -/
def clsD (st : Sto) : D → Option Nat
  | .ins c _ => some c
  | .loc i => match st[i]? with
    | some (.inst c _) => some c
    | _ => none
  | _ => none
theorem clsD_at {K : PySem.W.Frag} {G : Nat → Addr} {H : Hp} {S : Vw} {st : Sto} {d : D} {v : V} {c : Nat} (w : Ws K G H S st) (r : Rep K G H S d v) (e : clsD st d = some c) : ∃ a dx vs, v = .ref a ∧ H a = some (.ins (G c) dx ((nms c).zip vs)) := by
  cases d <;> simp [clsD] at e
  · subst e
    simp only [Rep] at r
    obtain ⟨a, dx, vs, e, _, h, _⟩ := r
    exact ⟨a, dx, vs, e, h⟩
  · rename_i i
    simp only [Rep] at r
    obtain ⟨a, ev, hi⟩ := r
    split at e
    · rename_i c' fs hl
      simp at e
      subst e
      obtain ⟨dx, vs, h1, _⟩ := w.cr i a _ hi hl
      exact ⟨a, dx, vs, ev, h1⟩
    · cases e
theorem lookup_zip_none {m : Str} : ∀ {ns : List Str} {vs : List V}, m ∉ ns → (ns.zip vs).lookup m = none
  | [], _, _ => rfl
  | n :: ns, [], _ => rfl
  | n :: ns, v :: vs, h => by
    rw [List.mem_cons, not_or] at h
    rw [List.zip_cons_cons, List.lookup_cons, show (m == n) = false by simpa using h.1]
    exact lookup_zip_none h.2
/-- the methods m: of the class c n arguments, self among them -/
abbrev Mths := Nat → Option (Nat × DenF)
def MD (P : Program) (w : World) (K : PySem.W.Frag) (mg : Str → Option Value) (base : Heap) (G : Nat → Addr) (k : Nat) (m : Str) (ms : Mths) : Prop :=
  ∀ c n d, ms c = some (n, d) → Cls K (G c) ∧ m ∉ nms c ∧ ∃ g, Meth K (G c) m g ∧ FD P w K mg base G k g n d
def dMeth (ms : Mths) (A : Den) (As : DenL) : Den := fun env st => (A env st).bind fun x s => match (clsD s x).bind ms with
  | some (n, d) => (As env s).bind fun l s => if Nat.beq (l.length + 1) n then d (x :: l) s else .bad
  | none => .bad
section
variable {X : Cx} {G : Nat → Addr} {W : WX} {k n : Nat} {f : Addr} {d : DenF} {m : Str} {p pos apos : Pos} {o e : Expr} {es : List Expr} {A : Den} {As : DenL} {ms : Mths}
theorem ed_meth {pl : Sem Bool} (M : MD X.prog X.w X.K X.mg X.base G k m ms) (he : ED X G W A o) (hr : Room k X.A) (tk : Takes X W) (ha : EA X G W As (e :: es)) (hst : starEach (e :: es) X.env = (false, eval e X.env) :: starEach es X.env := by rfl) (hpl : (backTo pos (starEach es X.env)).any (·.1) = false := by rfl)
    (ht : eval (.Call (.Attribute o m apos) (e :: es) [] pos) X.env = (do
      let ov ← eval o X.env
      standAt apos.atName
      let (f, first) ← holding [ov] (getMethod ov m pl)
      callWith pos f first (backTo pos (starEach (e :: es) X.env)) (backToKw pos (keywordEach [] X.env))) := by rfl) :
    ED X G W (dMeth ms A As) (.Call (.Attribute o m apos) (e :: es) [] pos) := by
  refine ⟨fun pins s σ H Q I ⟨S, env, st, sm, q⟩ => ?_⟩
  refine PySem.W.methodCall_KW (pl := pl) (thn (he.run pins s σ H (fun x H1 => ∃ S1 s1 d0, Lat H S H1 S1 ∧ Ws X.K G H1 S1 s1 ∧ Rep X.K G H1 S1 d0 x ∧ Post X.K G W σ S1 H1 (match (clsD s1 d0).bind ms with
    | some (n, d) => (As env s1).bind fun l s => if Nat.beq (l.length + 1) n then d (d0 :: l) s else .bad
    | none => .bad) fun S' H' d _ => ∀ v, Rep X.K G H' S' d v → Q v H') I ⟨S, env, st, sm, Post.imp (Post.bind q) fun S1 H1 x s1 l1 w1 q v rv => ⟨S1, s1, x, l1, w1, rv, q⟩⟩) fun u s1 ⟨x, H1, I1, rx, S1, st1, d0, l1, w1, r0, q⟩ => ?_) ht
  cases ec : (clsD st1 d0).bind ms with
  | none => rw [ec] at q; exact q.elim
  | some nd =>
    obtain ⟨n, d⟩ := nd
    rw [ec] at q
    obtain ⟨c, e1, e2⟩ := bind_at ec
    obtain ⟨hc, hnm, g, hg, fd, ps, F, hb⟩ := M c n d e2
    obtain ⟨a, dx, vs, ex, ea⟩ := clsD_at w1 r0 e1
    subst ex
    obtain rfl : u = Value.ref a := rx
    refine getmeth_ok I1 ea hc hg (lookup_zip_none hnm) ?_
    refine PySem.W.callWith_K (first := [.ref a]) (h₀ := X.base) I.ok.mod.kin hg.kp (thn (ha.run pos pins s1 σ H1 (fun us H2 => ∃ S2 s2 l, Ws X.K G H2 S2 s2 ∧ Reps X.K G H2 S2 l us ∧ Rep X.K G H2 S2 d0 (.ref a) ∧ l.length + 1 = n ∧ Post X.K G W σ S2 H2 (d (d0 :: l) s2) fun S' H' d _ => ∀ v, Rep X.K G H' S' d v → Q v H') I1
      ⟨S1, env, st1, sm.later l1 w1, Post.imp (Post.bind q) fun S2 H2 l s2 l2 w2 q vs rvs => ?_⟩) fun us s2 ⟨vs, H2, I2, r, S2, st2, l, w2, rl, ra, hl, q2⟩ => ⟨I2.kIn, ?_⟩) hst hpl
    · split at q
      · rename_i hz
        exact ⟨S2, s2, l, w2, rvs, r0.mono l2, Nat.eq_of_beq_eq_true hz, q⟩
      · exact q.elim
    · exact run_fnS (us := .ref a :: us) (vs := .ref a :: vs) (E := WE W) F hr hb (passAt tk σ) I2 (.cons rfl r) ⟨S2, d0 :: l, st2, w2, .cons ra rl, by simp [hl], PostF.of q2⟩
/-- o.m() -/
theorem ed_meth0 {pl : Sem Bool} (M : MD X.prog X.w X.K X.mg X.base G k m ms) (he : ED X G W A o) (hr : Room k X.A) (tk : Takes X W)
    (ht : eval (.Call (.Attribute o m apos) [] [] pos) X.env = (do
      let ov ← eval o X.env
      standAt apos.atName
      let (f, first) ← holding [ov] (getMethod ov m pl)
      callWith pos f first (backTo pos (starEach [] X.env)) (backToKw pos (keywordEach [] X.env))) := by rfl) :
    ED X G W (dMeth ms A aNil) (.Call (.Attribute o m apos) [] [] pos) := by
  refine ⟨fun pins s σ H Q I ⟨S, env, st, sm, q⟩ => ?_⟩
  refine PySem.W.methodCall_KW (pl := pl) (thn (he.run pins s σ H (fun x H1 => ∃ S1 s1 d0, Lat H S H1 S1 ∧ Ws X.K G H1 S1 s1 ∧ Rep X.K G H1 S1 d0 x ∧ Post X.K G W σ S1 H1 (match (clsD s1 d0).bind ms with
    | some (n, d) => (aNil env s1).bind fun l s => if Nat.beq (l.length + 1) n then d (d0 :: l) s else .bad
    | none => .bad) fun S' H' d _ => ∀ v, Rep X.K G H' S' d v → Q v H') I ⟨S, env, st, sm, Post.imp (Post.bind q) fun S1 H1 x s1 l1 w1 q v rv => ⟨S1, s1, x, l1, w1, rv, q⟩⟩) fun u s1 ⟨x, H1, I1, rx, S1, st1, d0, l1, w1, r0, q⟩ => ?_) ht
  cases ec : (clsD st1 d0).bind ms with
  | none => rw [ec] at q; exact q.elim
  | some nd =>
    obtain ⟨n, d⟩ := nd
    rw [ec] at q
    obtain ⟨c, e1, e2⟩ := bind_at ec
    obtain ⟨hc, hnm, g, hg, fd, ps, F, hb⟩ := M c n d e2
    obtain ⟨a, dx, vs, ex, ea⟩ := clsD_at w1 r0 e1
    subst ex
    obtain rfl : u = Value.ref a := rx
    refine getmeth_ok I1 ea hc hg (lookup_zip_none hnm) ?_
    have q' : Post X.K G W σ S1 H1 (if Nat.beq (0 + 1) n then d [d0] st1 else .bad) fun S' H' d _ => ∀ v, Rep X.K G H' S' d v → Q v H' := q
    split at q'
    · rename_i hz
      exact PySem.W.callWith_K0 (first := [.ref a]) I1.kIn hg.kp (run_fnS (us := [.ref a]) (vs := [.ref a]) (E := WE W) F hr hb (passAt tk σ) I1 (.cons rfl .nil) ⟨S1, [d0], st1, w1, .cons r0 .nil, Nat.eq_of_beq_eq_true hz, PostF.of q'⟩)
    · exact q'.elim
end
end Wt

/-! Core 6: instances made, fields, lists changed by their methods and by place. -/
namespace Wt
open PySem PySem.Spec PyProof.Rows L2

/-! ### C() of a class without __init__ -/
section
variable {X : Cx} {C : Addr} {pins : List (Addr × Obj)} {σ : L2.St} {H : Hp} {s : Shared} {Q : VK}
structure Mk0 (K : PySem.W.Frag) (C : Addr) : Prop where
  makes : PySem.W.makesIn K C = true
  init : PySem.W.findIn K (.ref C) "__init__" = some (some (.builtin "object.__init__"))
  kp : PySem.W.keepIn K (.ref C) = true
theorem run_make0 (M : Mk0 X.K C) (I : Inv X pins σ H s) (h : ∀ x dx, H x = none → H dx = none → dx ≠ x → Q (.ref x) (upd (upd H dx (.own x)) x (.ins C dx []))) :
    wpAny (model X.prog X.w) X.A (call (.ref C) []) (EP X pins σ Q) X.xe s := by
  have hq := h (s.heap.objs.size + 1) s.heap.objs.size (I.hok.fresh (Nat.le_succ _)) (I.hok.fresh (Nat.le_refl _)) (Nat.ne_of_lt (Nat.lt_succ_self _))
  have I2 := Inv.made (C := C) I
  have z : EP X pins σ Q (.ref (s.heap.objs.size + 1)) { s with heap := (s.heap.push PySem.W.emptyDict).push (PySem.W.instObj C s.heap.objs.size) } := ⟨.ref (s.heap.objs.size + 1), _, I2, rfl, hq⟩
  have KX := I.kIn
  have e2 : ((s.heap.push PySem.W.emptyDict).push (PySem.W.instObj C s.heap.objs.size)).get? (s.heap.objs.size + 1) = some (PySem.W.instObj C s.heap.objs.size) := by
    have := Heap.get?_push_size (s.heap.push PySem.W.emptyDict) (o := PySem.W.instObj C s.heap.objs.size) rfl
    rwa [Heap.size_push] at this
  obtain ⟨hh, g, d, t, os⟩ := s
  dsimp only at e2 KX
  have Y := PySem.W.makes_of (M := model X.prog X.w) KX M.makes
  refine wpAny_call (PySem.W.make_core (R := fun r s' => match r with
    | .ok (.ret v) => EP X pins σ Q v s'
    | .ok _ => False
    | .error e => X.xe e s') Y (PySem.W.looks_findIn KX M.init) (fun self => PySem.W.Looks.of_pure (PySem.W.oi_bind self)) (.inr ⟨rfl, rfl⟩) ?_)
  have t1 : PySem.W.Looks (model X.prog X.w) ((hh.push PySem.W.emptyDict).push (PySem.W.instObj C hh.objs.size)) (typeOf (.ref (hh.objs.size + 1))) (.ref C) := (PySem.W.Looks.ld e2).andThen .now
  have t2 : PySem.W.Looks (model X.prog X.w) ((hh.push PySem.W.emptyDict).push (PySem.W.instObj C hh.objs.size)) (isInstance (.ref (hh.objs.size + 1)) (.type "object")) true := t1.andThen (Y.top.keeps fun b o e => Heap.get?_push_of_some _ (Heap.get?_push_of_some _ e))
  refine codeAny_call_builtin PySem.W.oi_plain PySem.W.entry_oi (@PySem.W.check_slot (model X.prog X.w) _ _ _ "object.__init__" "object" "__init__" (.ref (hh.objs.size + 1)) [] [] _ PySem.W.oi_kind PySem.W.oi_split t2 (PySem.W.oi_args (.ref (hh.objs.size + 1))) ?_)
  rw [PySem.W.oi_run]
  exact wpAny_pure (And.intro rfl z)
end
/-- two new objects, the instance and its own dict -/
theorem Lat.made {H : Hp} {S : Vw} {x dx : Addr} {o u : HO} (hx : H x = none) (hd : H dx = none) (hn : dx ≠ x) : Lat H S (upd (upd H dx o) x u) S := (Lat.new hd).trans (Lat.new (by rw [upd_ne hn.symm]; exact hx))
section
variable {X : Cx} {G : Nat → Addr} {W : WX} {k n c : Nat} {f : Addr} {d : DenF} {x : Str} {p pos : Pos} {e : Expr} {es : List Expr} {As : DenL}
def dMk0 (c : Nat) : Den := fun _ st => .ok (.ins c []) st
theorem ed_make0 (M : Mk0 X.K (G c)) (hm : X.mg x = some (.ref (G c))) (hg : Gl X x := by rfl) (hdb : (x == ("__debug__" : Str)) = false := by decide) : ED X G W (dMk0 c) (.Call (.Name x p) [] [] pos) := by
  refine ⟨fun pins s σ H Q I ⟨S, env, st, m, q⟩ => ?_⟩
  refine wpAny_Call_Name_kw (ld_glob I hg hm ?_ hdb)
  refine PySem.W.callWith_K0 I.kIn M.kp (run_make0 M I fun y dy hy hd hn => ?_)
  have h1 : upd H dy (.own y) y = none := by rw [upd_ne hn.symm]; exact hy
  refine q (S.frz y) _ ((Lat.new hd).trans (Lat.newF h1)) ((m.ws.new hd).newF h1) _ ?_
  simp only [Rep]
  exact ⟨y, dy, [], rfl, .inr rfl, by rw [upd_same]; simp, .nil⟩

end

/-! ### no cell from n on -/
mutual
def D.cap (n : Nat) : D → Bool
  | .tup l => D.caps n l
  | .lst l => D.caps n l
  | .scr l => D.caps n l
  | .ins _ l => D.caps n l
  | .loc i => Nat.blt i n
  | _ => true
def D.caps (n : Nat) : List D → Bool
  | [] => true
  | x :: xs => x.cap n && D.caps n xs
end
section
variable {K : PySem.W.Frag} {G : Nat → Addr} {H H' : Hp} {S S' : Vw} {n : Nat}
structure LatB (n : Nat) (H : Hp) (S : Vw) (H' : Hp) (S' : Vw) : Prop where
  fz : ∀ a o, S.F a → H a = some o → S'.F a ∧ H' a = some o
  tp : ∀ a xs, H a = some (.tup xs) → H' a = some (.tup xs)
  fr : ∀ a o u, H a = some (.frz o u) → H' a = some (.frz o u)
  ix : ∀ (i : Nat) (a : Addr), i < n → S.ρ[i]? = some a → S'.ρ[i]? = some a
theorem blt_of {i n : Nat} (h : Nat.blt i n = true) : i < n := by
  simpa [Nat.blt_eq] using h
mutual
theorem Rep.monoB (l : LatB n H S H' S') : ∀ {d : D} {v : V}, d.cap n = true → Rep K G H S d v → Rep K G H' S' d v
  | .non, _, _, h => by simpa [Rep] using h
  | .bl _, _, _, h => by simpa [Rep] using h
  | .int _, _, _, h => by simpa [Rep] using h
  | .str _, _, _, h => by simpa [Rep] using h
  | .tup ds, _, b, h => by
    simp only [Rep] at h ⊢
    simp only [D.cap] at b
    obtain ⟨a, vs, e, h1, h2⟩ := h
    exact ⟨a, vs, e, l.tp _ _ h1, Reps.monoB l b h2⟩
  | .lst ds, _, b, h => by
    simp only [Rep] at h ⊢
    simp only [D.cap] at b
    obtain ⟨a, vs, e, f, h1, h2⟩ := h
    obtain ⟨f', h1'⟩ := l.fz _ _ f h1
    exact ⟨a, vs, e, f', h1', Reps.monoB l b h2⟩
  | .scr ds, _, b, h => by
    simp only [Rep] at h ⊢
    simp only [D.cap] at b
    obtain ⟨a, vs, e, h1, h2⟩ := h
    refine ⟨a, vs, e, ?_, Reps.monoB l b h2⟩
    rcases h1 with ⟨o, h⟩ | h
    · exact .inl ⟨o, l.fr _ _ _ h⟩
    · exact .inr h
  | .ins c ds, _, b, h => by
    simp only [Rep] at h ⊢
    simp only [D.cap] at b
    obtain ⟨a, dx, vs, e, f, h1, h2⟩ := h
    obtain ⟨f', h1'⟩ := l.fz _ _ f h1
    exact ⟨a, dx, vs, e, f', h1', Reps.monoB l b h2⟩
  | .loc i, _, b, h => by
    simp only [Rep] at h ⊢
    simp only [D.cap] at b
    obtain ⟨a, e, h⟩ := h
    exact ⟨a, e, l.ix _ _ (blt_of b) h⟩
  | .cls _, _, _, h => by simpa [Rep] using h
theorem Reps.monoB (l : LatB n H S H' S') : ∀ {ds : List D} {vs : List V}, D.caps n ds = true → Reps K G H S ds vs → Reps K G H' S' ds vs
  | [], _, _, h => by simpa [Reps] using h
  | d :: ds, _, b, h => by
    simp only [Reps] at h ⊢
    simp only [D.caps, Bool.and_eq_true] at b
    obtain ⟨v, ws, e, r, t⟩ := h
    exact ⟨v, ws, e, Rep.monoB l b.1 r, Reps.monoB l b.2 t⟩
end
mutual
theorem Rep.below : ∀ {d : D} {v : V}, Rep K G H S d v → d.cap S.ρ.length = true
  | .non, _, h => by simp [D.cap]
  | .bl _, _, h => by simp [D.cap]
  | .int _, _, h => by simp [D.cap]
  | .str _, _, h => by simp [D.cap]
  | .tup ds, _, h => by
    simp only [Rep] at h
    simp only [D.cap]
    obtain ⟨a, vs, e, h1, h2⟩ := h
    exact Reps.below h2
  | .lst ds, _, h => by
    simp only [Rep] at h
    simp only [D.cap]
    obtain ⟨a, vs, e, f, h1, h2⟩ := h
    exact Reps.below h2
  | .scr ds, _, h => by
    simp only [Rep] at h
    simp only [D.cap]
    obtain ⟨a, vs, e, h1, h2⟩ := h
    exact Reps.below h2
  | .ins c ds, _, h => by
    simp only [Rep] at h
    simp only [D.cap]
    obtain ⟨a, dx, vs, e, f, h1, h2⟩ := h
    exact Reps.below h2
  | .loc i, _, h => by
    simp only [Rep] at h
    simp only [D.cap, Nat.blt_eq]
    obtain ⟨a, e, h⟩ := h
    exact (List.getElem?_eq_some_iff.mp h).1
  | .cls _, _, h => by simp [D.cap]
theorem Reps.below : ∀ {ds : List D} {vs : List V}, Reps K G H S ds vs → D.caps S.ρ.length ds = true
  | [], _, h => by simp [D.caps]
  | d :: ds, _, h => by
    simp only [Reps] at h
    simp only [D.caps, Bool.and_eq_true]
    obtain ⟨v, ws, e, r, t⟩ := h
    exact ⟨Rep.below r, Reps.below t⟩
end
end
/-! cells alike -/
def keyBeq : Key → Key → Bool
  | .inl a, .inl b => a == b
  | .inr a, .inr b => a == b
  | _, _ => false
theorem keyBeq_eq : ∀ {a b : Key}, keyBeq a b = true → a = b
  | .inl a, .inl b, h => by simp [keyBeq] at h; rw [h]
  | .inr a, .inr b, h => by simp [keyBeq] at h; rw [h]
  | .inl a, .inr b, h => by simp [keyBeq] at h
  | .inr a, .inl b, h => by simp [keyBeq] at h
theorem keyBeq_refl : ∀ a : Key, keyBeq a a = true
  | .inl _ => by simp [keyBeq]
  | .inr _ => by simp [keyBeq]
def keysBeq : List Key → List Key → Bool
  | [], [] => true
  | a :: r, b :: s => keyBeq a b && keysBeq r s
  | _, _ => false
theorem keysBeq_eq : ∀ {a b : List Key}, keysBeq a b = true → a = b
  | [], [], _ => rfl
  | a :: r, b :: s, h => by
    simp only [keysBeq, Bool.and_eq_true] at h
    rw [keyBeq_eq h.1, keysBeq_eq h.2]
  | [], _ :: _, h => by cases h
  | _ :: _, [], h => by cases h
theorem keysBeq_refl : ∀ a : List Key, keysBeq a a = true
  | [] => rfl
  | a :: r => by simp [keysBeq, keyBeq_refl a, keysBeq_refl r]
def kvBeq {κ : Type} (e : κ → κ → Bool) : List (κ × D) → List (κ × D) → Bool
  | [], [] => true
  | (k, d) :: r, (k', d') :: s => e k k' && d.beq d' && kvBeq e r s
  | _, _ => false
theorem kvBeq_eq {κ : Type} {e : κ → κ → Bool} (he : ∀ {a b}, e a b = true → a = b) : ∀ {a b : List (κ × D)}, kvBeq e a b = true → a = b
  | [], [], _ => rfl
  | (k, d) :: r, (k', d') :: s, h => by
    simp only [kvBeq, Bool.and_eq_true] at h
    rw [he h.1.1, D.beq_eq _ _ h.1.2, kvBeq_eq he h.2]
  | [], _ :: _, h => by cases h
  | _ :: _, [], h => by cases h
theorem kvBeq_refl {κ : Type} {e : κ → κ → Bool} (he : ∀ a, e a a = true) : ∀ a : List (κ × D), kvBeq e a a = true
  | [] => rfl
  | (k, d) :: r => by simp [kvBeq, he k, D.beq_refl d, kvBeq_refl he r]
def Cell.beq : Cell → Cell → Bool
  | .list a, .list b => D.beqs a b
  | .inst c a, .inst d b => c == d && D.beqs a b
  | .dK a, .dK b => kvBeq keyBeq a b
  | .dT a, .dT b => kvBeq keysBeq a b
  | .lT a, .lT b => kvBeq keysBeq a b
  | .dead, .dead => true
  | _, _ => false
theorem Cell.beq_refl (c : Cell) : c.beq c = true := by
  cases c <;> simp [Cell.beq, D.beqs_refl, kvBeq_refl keyBeq_refl, kvBeq_refl keysBeq_refl]
theorem Cell.beq_eq {c d : Cell} (h : c.beq d = true) : c = d := by
  cases c <;> cases d <;> simp [Cell.beq] at h
  · rw [D.beqs_eq _ _ h]
  · rw [h.1, D.beqs_eq _ _ h.2]
  · rw [kvBeq_eq keyBeq_eq h]
  · rw [kvBeq_eq keysBeq_eq h]
  · rw [kvBeq_eq keysBeq_eq h]
  · rfl
def stBeq : Sto → Sto → Bool
  | [], [] => true
  | a :: r, b :: s => a.beq b && stBeq r s
  | _, _ => false
theorem stBeq_eq : ∀ {a b : Sto}, stBeq a b = true → a = b
  | [], [], _ => rfl
  | a :: r, b :: s, h => by
    simp only [stBeq, Bool.and_eq_true] at h
    rw [Cell.beq_eq h.1, stBeq_eq h.2]
  | [], _ :: _, h => by cases h
  | _ :: _, [], h => by cases h
theorem stBeq_refl : ∀ a : Sto, stBeq a a = true
  | [] => rfl
  | a :: r => by simp [stBeq, Cell.beq_refl a, stBeq_refl r]

/-! ### what was made within is left behind; a list, an instance made within stays as it is -/
def frzD (n : Nat) (s : Sto) : D → Option D
  | .loc i => if Nat.blt i n then some (.loc i) else match s[i]? with
    | some (.list l) => if D.caps n l then some (.lst l) else none
    | some (.inst c l) => if D.caps n l then some (.ins c l) else none
    | _ => none
  | d => if d.cap n then some d else none
/-- the store st as it was, what was made within forgotten -/
def leave (st : Sto) (r : Rs D) : Rs D := match r with
  | .ok d s => match frzD st.length s d with
    | some d' => if stBeq (s.take st.length) st then .ok d' st else .bad
    | none => .bad
  | .exc c s => if stBeq (s.take st.length) st then .exc c st else .bad
  | .bad => .bad
section
variable {K : PySem.W.Frag} {G : Nat → Addr} {H H' : Hp} {S S' : Vw} {st s : Sto}
def Vw.cut (S : Vw) (n : Nat) : Vw := { S with ρ := S.ρ.take n }
theorem ix_take {S : Vw} {n i : Nat} {a : Addr} (h : i < n) (e : S.ρ[i]? = some a) : (S.cut n).ρ[i]? = some a := by
  show (S.ρ.take n)[i]? = some a
  rw [List.getElem?_take, if_pos h]
  exact e
theorem of_take {S : Vw} {n i : Nat} {a : Addr} (e : (S.cut n).ρ[i]? = some a) : i < n ∧ S.ρ[i]? = some a := by
  have e' : (S.ρ.take n)[i]? = some a := e
  rw [List.getElem?_take] at e'
  split at e'
  · rename_i h
    exact ⟨h, e'⟩
  · cases e'
theorem LatB.cut {n : Nat} : LatB n H S H (S.cut n) := ⟨fun _ _ f h => ⟨f, h⟩, fun _ _ h => h, fun _ _ _ h => h, fun i a h e => ix_take h e⟩
theorem Lat.cut (w : Ws K G H S st) (l : Lat H S H' S') : Lat H S H' (S'.cut st.length) := { fz := l.fz, pp := l.pp, tp := l.tp, fr := l.fr, pr := (by
    obtain ⟨t, e⟩ := l.pr
    refine ⟨[], ?_⟩
    show S.ρ ++ [] = S'.ρ.take st.length
    rw [List.append_nil, ← e, ← w.len, List.take_left' rfl]) }
theorem KRep.monoB {κ : Type} {n : Nat} {ds : List (κ × D)} {vs : List (κ × V)} (l : LatB n H S H' S') : KRep K G H S ds vs → (∀ p ∈ ds, p.2.cap n = true) → KRep K G H' S' ds vs
  | .nil, _ => .nil
  | .cons r t, b => .cons ⟨r.1, r.2.monoB l (b _ (List.mem_cons_self ..))⟩ (KRep.monoB l t fun p hp => b p (List.mem_cons_of_mem _ hp))
theorem KRep.below {κ : Type} : ∀ {ds : List (κ × D)} {vs : List (κ × V)}, KRep K G H S ds vs → ∀ p ∈ ds, p.2.cap S.ρ.length = true
  | _, _, .nil, p, hp => by cases hp
  | _, _, .cons r t, p, hp => by
    rcases List.mem_cons.mp hp with e | hp
    · rw [e]
      exact r.2.below
    · exact KRep.below t p hp
/-- the cells of the entry are as they were -/
theorem Ws.cut (w0 : Ws K G H S st) (l : Lat H S H' S') (w : Ws K G H' S' s) (e : s.take st.length = st) : Ws K G H' (S'.cut st.length) st where
  len := by
    show (S'.ρ.take st.length).length = st.length
    rw [List.length_take, w.len]
    have := congrArg List.length e
    rw [List.length_take] at this
    exact this
  nd := by
    show (S'.ρ.take st.length).Nodup
    exact (List.take_sublist _ _).nodup w.nd
  rl := fun i a h => w.rl i a (of_take h).2
  nf := fun i a c h1 h2 h3 => by
    obtain ⟨hi, h1⟩ := of_take h1
    refine w.nf i a c h1 ?_ h3
    rw [← e, List.getElem?_take, if_pos hi] at h2
    exact h2
  np := fun i a h => w.np i a (of_take h).2
  dj := w.dj
  pf := w.pf
  cr := fun i a c h1 h2 => by
    obtain ⟨hi, h1⟩ := of_take h1
    have hc := h2
    rw [← e, List.getElem?_take, if_pos hi] at hc
    have r1 := w.cr i a c h1 hc
    obtain ⟨b, hb, r0⟩ := w0.cell h2
    have lb : LatB st.length H' S' H' (S'.cut st.length) := .cut
    have eL : S.ρ.length = st.length := w0.len
    cases c with
    | list ds =>
      obtain ⟨vs, h3, h4⟩ := r1
      obtain ⟨_, _, h5⟩ := r0
      exact ⟨vs, h3, h4.monoB lb (eL ▸ h5.below)⟩
    | inst c fs =>
      obtain ⟨dx, vs, h3, h4, h6⟩ := r1
      obtain ⟨_, _, _, h5, _⟩ := r0
      exact ⟨dx, vs, h3, h4.monoB lb (eL ▸ h5.below), h6⟩
    | dK kvs =>
      obtain ⟨us, h3, h4⟩ := r1
      obtain ⟨_, _, h5⟩ := r0
      exact ⟨us, h3, h4.monoB lb (eL ▸ h5.below)⟩
    | dT kvs =>
      obtain ⟨us, h3, h4⟩ := r1
      obtain ⟨_, _, h5⟩ := r0
      exact ⟨us, h3, h4.monoB lb (eL ▸ h5.below)⟩
    | lT kvs =>
      obtain ⟨us, o, h3, h4⟩ := r1
      obtain ⟨_, _, _, h5⟩ := r0
      exact ⟨us, o, h3, h4.monoB lb (eL ▸ h5.below)⟩
    | dead => trivial
  fr := w.fr
/-- a cell made within stays as it is from now on -/
theorem Ws.frzC {i : Nat} {a : Addr} {n : Nat} (w : Ws K G H (S.cut n) st) (w' : Ws K G H S s) (ha : S.ρ[i]? = some a) (hi : n ≤ i) : Ws K G H ((S.cut n).frz a) st where
  len := w.len
  nd := w.nd
  rl := w.rl
  nf := fun j b c h1 h2 h3 f => by
    rcases f with f | f
    · exact w.nf j b c h1 h2 h3 f
    · have h1' : (S.cut n).ρ[j]? = some b := h1
      obtain ⟨hj, h1b⟩ := of_take (S := S) (n := n) h1'
      subst f
      have q1 := List.getElem?_eq_some_iff.mp h1b
      have q2 := List.getElem?_eq_some_iff.mp ha
      have := (List.getElem_inj (h₀ := q1.1) (h₁ := q2.1) w'.nd).mp (q1.2.trans q2.2.symm)
      omega
  np := w.np
  dj := fun b f p => by
    rcases f with f | f
    · exact w.dj b f p
    · exact w'.np i a ha (f ▸ p)
  pf := w.pf
  cr := fun j b c h1 h2 => (w.cr j b c h1 h2).monoR (S' := (S.cut n).frz a) (H' := H) ⟨fun _ _ f h => ⟨.inl f, h⟩, fun _ _ h => h, fun _ _ _ h => h, List.prefix_rfl⟩ fun _ e => e
  fr := fun b f => by
    rcases f with f | f
    · exact w.fr b f
    · obtain ⟨o, e⟩ := w'.rl i a ha
      exact ⟨o, f ▸ e⟩
theorem LatR.frz {a : Addr} : LatR H S H (S.frz a) := ⟨fun _ _ f h => ⟨.inl f, h⟩, fun _ _ h => h, fun _ _ _ h => h, List.prefix_rfl⟩
theorem Lat.frzC {a : Addr} (l : Lat H S H' S') : Lat H S H' (S'.frz a) := { fz := fun x o f h => ⟨.inl (l.fz x o f h).1, (l.fz x o f h).2⟩, pp := l.pp, tp := l.tp, fr := l.fr, pr := l.pr }
/-- THE RULE of leaving -/
theorem leave_post {Q : VK} {E : XK} {r : Rs D} (w0 : Ws K G H S st) (q : PostF K G S H (leave st r) Q E) : PostF K G S H r Q E := by
  cases r with
  | bad => exact q
  | exc c s =>
    intro S' H' l w
    unfold leave at q
    dsimp only at q
    split at q
    · rename_i e
      exact q _ H' (.cut w0 l) (w0.cut l w (stBeq_eq e))
    · exact q.elim
  | ok d s =>
    intro S' H' v l w rv
    unfold leave at q
    dsimp only at q
    cases ef : frzD st.length s d with
    | none => rw [ef] at q; exact q.elim
    | some d' =>
      rw [ef] at q
      dsimp only at q
      split at q
      · rename_i e
        have w1 := w0.cut l w (stBeq_eq e)
        have l1 := Lat.cut w0 l
        have plain : d.cap st.length = true → d' = d → Q v H' := fun hb ed => q _ H' v l1 w1 (by rw [ed]; exact rv.monoB .cut hb)
        cases d with
        | loc i =>
          unfold frzD at ef
          dsimp only at ef
          split at ef
          · rename_i hb
            exact plain hb (Option.some.inj ef).symm
          · rename_i hb
            have hi : st.length ≤ i := by
              rcases Nat.lt_or_ge i st.length with h | h
              · exact absurd (by rw [Nat.blt_eq]; exact h) hb
              · exact h
            simp only [Rep] at rv
            obtain ⟨a, rfl, ha⟩ := rv
            split at ef
            · rename_i l' hl
              split at ef
              · rename_i hb'
                obtain ⟨vs, h1, h2⟩ := w.cr i a _ ha hl
                rw [← Option.some.inj ef] at q
                refine q _ H' _ l1.frzC (w1.frzC w ha hi) ?_
                simp only [Rep]
                exact ⟨a, vs, rfl, .inr rfl, h1, (h2.monoB (S' := S'.cut st.length) .cut hb').monoR LatR.frz⟩
              · cases ef
            · rename_i c l' hl
              split at ef
              · rename_i hb'
                obtain ⟨dx, vs, h1, h2, _⟩ := w.cr i a _ ha hl
                rw [← Option.some.inj ef] at q
                refine q _ H' _ l1.frzC (w1.frzC w ha hi) ?_
                simp only [Rep]
                exact ⟨a, dx, vs, rfl, .inr rfl, h1, (h2.monoB (S' := S'.cut st.length) .cut hb').monoR LatR.frz⟩
              · cases ef
            · cases ef
        | _ =>
          unfold frzD at ef
          dsimp only at ef
          split at ef
          · rename_i hb
            exact plain hb (Option.some.inj ef).symm
          · cases ef
      · exact q.elim
end
/-- a def whose own cells are left behind -/
def pureF (f : DenF) : DenF := fun ds st => leave st (f ds st)
theorem FD.pure {P : Program} {w : World} {K : PySem.W.Frag} {mg : Str → Option Value} {base : Heap} {G : Nat → Addr} {k : Nat} {f : Addr} {n : Nat} {d : DenF} (F : FD P w K mg base G k f n d) : FD P w K mg base G k f n (pureF d) :=
  F.imp fun _ _ _ _ _ _ w q => leave_post w q
/-- an expression whose own cells are left behind -/
def dPure (A : Den) : Den := fun env st => leave st (A env st)
theorem ed_pure {X : Cx} {G : Nat → Addr} {W : WX} {A : Den} {e : Expr} (h : ED X G W A e) : ED X G W (dPure A) e := PE.imp h fun σ H Q ⟨S, env, st, m, q⟩ => ⟨S, env, st, m, by
  have z := leave_post (Q := Q) (E := fun c d H => W c d σ H) m.ws (r := A env st) (by
    unfold dPure at q
    cases e : leave st (A env st) with
    | ok d s => rw [e] at q; exact fun S' H' v l w r => q S' H' l w v r
    | exc c s => rw [e] at q; exact q
    | bad => rw [e] at q; exact q)
  cases e : A env st with
  | ok d s => rw [e] at z; exact fun S' H' l w v r => z S' H' v l w r
  | exc c s => rw [e] at z; exact z
  | bad => rw [e] at z; exact z⟩
end Wt

/-! Core 7: instances made by __init__, fields, lists changed by their methods and by place. -/
namespace Wt
open PySem PySem.Spec PyProof.Rows L2
section
variable {X : Cx} {CX : CXT} {k : Nat} {f C : Addr} {fd : FuncData} {ps : List Str} {sp : Sp} {E : L2.St → XK}
theorem run_makeS {pins : List (Addr × Obj)} {σ : L2.St} {H : Hp} {s : Shared} {Q : VK} {us : List Value} {vs : List V} (M : Mk X.K C f) (F : FnOk X.prog X.w X.K X.mg X.base CX k f fd ps sp) (hr : Room (k + 1) X.A) (hb : Binds X.K fd ps [])
    (hx : PassesAt CX X σ (E σ)) (I : Inv X pins σ H s) (r : Vals vs us)
    (h : ∀ x dx, H x = none → H dx = none → dx ≠ x → sp (.ref x :: vs) (upd (upd H dx (.own x)) x (.ins C dx [])) (fun v H2 => v = .non ∧ Q (.ref x) H2) (E σ)) :
    wpAny (model X.prog X.w) X.A (call (.ref C) us) (EP X pins σ Q) X.xe s := by
  have hq := h (s.heap.objs.size + 1) s.heap.objs.size (I.hok.fresh (Nat.le_succ _)) (I.hok.fresh (Nat.le_refl _)) (Nat.ne_of_lt (Nat.lt_succ_self _))
  have I2 := Inv.made (C := C) I
  have r2 : Vals (V.ref (s.heap.objs.size + 1) :: vs) (Value.ref (s.heap.objs.size + 1) :: us) := .cons rfl r
  have hl : (Value.ref (s.heap.objs.size + 1) :: us ++ []).length = ps.length := by
    have e := r2.length
    rw [F.len _ _ _ _ hq] at e
    rw [List.append_nil]
    exact e.symm
  have b := hb _ (Value.ref (s.heap.objs.size + 1) :: us) I2.kIn hl
  rw [List.append_nil] at b
  refine wpAny_call (make_map (f := f) I.kIn M.makes M.init (beq_iff_eq.mp M.fn) (codeAny_mono (F.run _ X.stack _ _ ⟨Value.ref (s.heap.objs.size + 1) :: us, []⟩ (Value.ref (s.heap.objs.size + 1) :: us) _ _ (E σ) (hr.make C us [])
    (I2.env0.make C us []) b r2 hq) fun r s' hq' => ?_))
  cases r with
  | error e => exact hx pins _ _ e s' I2 hq'
  | ok fl =>
    cases fl with
    | ret u =>
      obtain ⟨v, H', I3, rv, ev, q3⟩ := I2.after hq'
      subst ev
      exact ⟨rv, ⟨V.ref (s.heap.objs.size + 1), H', I3, rfl, q3⟩⟩
    | next => exact False.elim hq'
    | brk => exact False.elim hq'
    | cont => exact False.elim hq'
end
def dMk (c n : Nat) (d : DenF) (As : DenL) : Den := fun env st => (As env st).bind fun l s => if Nat.beq (l.length + 1) n then match d (.loc s.length :: l) (s ++ [.inst c []]) with
  | .ok .non s' => .ok (.loc s.length) s'
  | .exc c s' => .exc c s'
  | _ => .bad else .bad
section
variable {X : Cx} {G : Nat → Addr} {W : WX} {k n c : Nat} {f : Addr} {d : DenF} {x : Str} {p pos : Pos} {e : Expr} {es : List Expr} {As : DenL}
theorem ed_make (M : Mk X.K (G c) f) (F : FD X.prog X.w X.K X.mg X.base G k f n d) (hr : Room (k + 1) X.A) (hm : X.mg x = some (.ref (G c))) (tk : Takes X W) (ha : EA X G W As (e :: es)) (hg : Gl X x := by rfl) (hdb : (x == ("__debug__" : Str)) = false := by decide)
    (he : starEach (e :: es) X.env = (false, eval e X.env) :: starEach es X.env := by rfl) (hpl : (backTo pos (starEach es X.env)).any (·.1) = false := by rfl) :
    ED X G W (dMk c n d As) (.Call (.Name x p) (e :: es) [] pos) := by
  obtain ⟨fd, ps, F, hb⟩ := F
  refine ⟨fun pins s σ H Q I ⟨S, env, st, m, q⟩ => ?_⟩
  refine wpAny_Call_Name_kw (ld_glob I hg hm ?_ hdb)
  refine PySem.W.callWith_K (h₀ := X.base) I.ok.mod.kin M.kp (thn (ha.run pos pins s σ H (fun vs H1 => ∀ x dx, H1 x = none → H1 dx = none → dx ≠ x → spD X.K G n d (.ref x :: vs) (upd (upd H1 dx (.own x)) x (.ins (G c) dx [])) (fun v H2 => v = .non ∧ Q (.ref x) H2) (WE W σ)) I
    ⟨S, env, st, m, Post.imp (Post.bind q) fun S1 H1 l s1 l1 w1 q vs rvs x dx hx hd hn => ?_⟩) fun us s1 ⟨vs, H1, I1, r, q⟩ => ⟨I1.kIn, ?_⟩) he hpl
  · split at q
    · rename_i hz
      have hx' : upd H1 dx (.own x) x = none := by rw [upd_ne hn.symm]; exact hx
      have lat := (Lat.new (S := S1) (o := HO.own x) hd).trans (Lat.newC (o := HO.ins (G c) dx []) hx')
      refine ⟨S1.add x, .loc s1.length :: l, s1 ++ [.inst c []], (w1.new hd).newC (c := .inst c []) hx' ⟨dx, [], by rw [upd_same]; simp, .nil, by simp⟩, .cons ?_ (rvs.mono lat), Nat.eq_of_beq_eq_true hz, ?_⟩
      · simp only [Rep]
        exact ⟨x, rfl, Vw.add_ix w1⟩
      · cases ed : d (.loc s1.length :: l) (s1 ++ [.inst c []]) with
        | bad => rw [ed] at q; exact q.elim
        | exc c' s' => rw [ed] at q; exact fun S' H' l' w' => q S' H' (lat.trans l') w'
        | ok r s' =>
          rw [ed] at q
          cases r with
          | non =>
            refine fun S' H' v l' w' rv => ⟨rep_non rv, q S' H' (lat.trans l') w' _ ?_⟩
            simp only [Rep]
            exact ⟨x, rfl, l'.toLatR.ix (Vw.add_ix w1)⟩
          | _ => exact q.elim
    · exact q.elim
  · exact run_makeS (E := WE W) M F hr hb (passAt tk σ) I1 r q
end

/-- what may be written -/
def isMv : HO → Bool
  | .tup _ => false
  | .frz _ _ => false
  | _ => true
theorem nt_of {H : Hp} {a : Addr} {o : HO} (h : H a = some o) (p : isMv o = true) : (∀ xs, H a ≠ some (.tup xs)) ∧ ∀ o u, H a ≠ some (.frz o u) := by
  constructor
  · intro xs q
    rw [h] at q
    rw [Option.some.inj q] at p
    cases p
  · intro u v q
    rw [h] at q
    rw [Option.some.inj q] at p
    cases p

/-! ### fields -/
def ixOf (f : Str) : List Str → Option Nat
  | [] => none
  | g :: r => if f = g then some 0 else (ixOf f r).map (· + 1)
theorem ixOf_lookup {f : Str} : ∀ {ns : List Str} {vs : List V} {i : Nat} {v : V}, ixOf f ns = some i → vs[i]? = some v → (ns.zip vs).lookup f = some v
  | [], _, _, _, h, _ => by cases h
  | g :: r, [], _, _, _, e => by simp at e
  | g :: r, u :: us, i, v, h, e => by
    unfold ixOf at h
    rw [List.zip_cons_cons, List.lookup_cons]
    split at h
    · rename_i hf
      subst hf
      have hi : 0 = i := Option.some.inj h
      subst hi
      simp at e
      simp [e]
    · rename_i hf
      rw [show (f == g) = false by simpa using hf]
      cases e2 : ixOf f r with
      | none => rw [e2] at h; cases h
      | some j =>
        rw [e2] at h
        have hi : j + 1 = i := by simpa using h
        subst hi
        exact ixOf_lookup e2 (by simpa using e)
theorem ixOf_put {f : Str} {y : V} : ∀ {ns : List Str} {vs : List V} {i : Nat}, ixOf f ns = some i → i ≤ vs.length → putF f y (ns.zip vs) = ns.zip (if i < vs.length then vs.set i y else vs ++ [y])
  | [], _, _, h, _ => by cases h
  | g :: r, [], i, h, hl => by
    have hi : i = 0 := by simpa using hl
    subst hi
    unfold ixOf at h
    split at h
    · rename_i hf
      subst hf
      simp [putF]
    · cases e2 : ixOf f r with
      | none => rw [e2] at h; cases h
      | some j => rw [e2] at h; simp at h
  | g :: r, u :: us, i, h, hl => by
    unfold ixOf at h
    rw [List.zip_cons_cons]
    unfold putF
    split at h
    · rename_i hf
      have hi : 0 = i := Option.some.inj h
      subst hi
      rw [if_pos hf.symm]
      simp
    · rename_i hf
      rw [if_neg (fun q => hf q.symm)]
      cases e2 : ixOf f r with
      | none => rw [e2] at h; cases h
      | some j =>
        rw [e2] at h
        have hi : j + 1 = i := by simpa using h
        subst hi
        rw [ixOf_put e2 (by simpa using hl)]
        by_cases hj : j < us.length
        · rw [if_pos hj, if_pos (by simpa using hj)]
          simp
        · rw [if_neg hj, if_neg (by simpa using hj)]
          simp
theorem ixOf_get {f : Str} : ∀ {ns : List Str} {i : Nat}, ixOf f ns = some i → i < ns.length ∧ f ∈ ns
  | [], _, h => by cases h
  | g :: r, i, h => by
    unfold ixOf at h
    split at h
    · rename_i hf
      have hi : 0 = i := Option.some.inj h
      subst hi
      exact ⟨by simp, by simp [hf]⟩
    · cases e2 : ixOf f r with
      | none => rw [e2] at h; cases h
      | some j =>
        rw [e2] at h
        have hi : j + 1 = i := by simpa using h
        subst hi
        obtain ⟨h1, h2⟩ := ixOf_get e2
        exact ⟨by simpa using h1, List.mem_cons_of_mem _ h2⟩
/-- an instance's class and values -/
def insD (st : Sto) : D → Option (Nat × List D)
  | .ins c fs => some (c, fs)
  | .loc i => match st[i]? with
    | some (.inst c fs) => some (c, fs)
    | _ => none
  | _ => none
/-- the classes with the field f are plain -/
def FldOk (K : PySem.W.Frag) (G : Nat → Addr) (f : Str) : Prop := ∀ c, f ∈ nms c → Cls K (G c) ∧ NoAttr K (G c) f
def dFld (f : Str) (A : Den) : Den := fun env st => (A env st).bind fun d s => match insD s d with
  | some (c, fs) => match (ixOf f (nms c)).bind fun i => fs[i]? with
    | some x => .ok x s
    | none => .bad
  | none => .bad
theorem insD_at {K : PySem.W.Frag} {G : Nat → Addr} {H : Hp} {S : Vw} {st : Sto} {d : D} {v : V} {c : Nat} {fs : List D} (w : Ws K G H S st) (r : Rep K G H S d v) (e : insD st d = some (c, fs)) :
    ∃ a dx vs, v = .ref a ∧ H a = some (.ins (G c) dx ((nms c).zip vs)) ∧ Reps K G H S fs vs := by
  cases d <;> simp [insD] at e
  · obtain ⟨rfl, rfl⟩ := e
    simp only [Rep] at r
    obtain ⟨a, dx, vs, e, _, h, h2⟩ := r
    exact ⟨a, dx, vs, e, h, h2⟩
  · rename_i i
    simp only [Rep] at r
    obtain ⟨a, ev, hi⟩ := r
    split at e
    · rename_i c' fs' hl
      simp at e
      obtain ⟨rfl, rfl⟩ := e
      obtain ⟨dx, vs, h1, h2, _⟩ := w.cr i a _ hi hl
      exact ⟨a, dx, vs, ev, h1, h2⟩
    · cases e
/-- o.f = value: the value first -/
def sFldD (f : Str) (A B : Den) : DenS := fun env st => (B env st).then env fun y s => (A env s).then env fun d s => match d with
  | .loc i => match s[i]? with
    | some (.inst c fs) => match ixOf f (nms c) with
      | some j => if Nat.blt j fs.length then .nx env (s.set i (.inst c (fs.set j y))) else if Nat.beq j fs.length then .nx env (s.set i (.inst c (fs ++ [y]))) else .bad
      | none => .bad
    | _ => .bad
  | _ => .bad
section
variable {X : Cx} {G : Nat → Addr} {W : WX} {f : Str} {pos pos' : Pos} {e o value : Expr} {A B : Den}
theorem ed_fld (ok : FldOk X.K G f) (h : ED X G W A e) (hb : attributeBase e f X.env (eval e X.env) = eval e X.env := by rfl) : ED X G W (dFld f A) (.Attribute e f pos) :=
  PE.imp (pe_fld h hb) fun σ H Q ⟨S, env, st, m, q⟩ => ⟨S, env, st, m, Post.imp (Post.bind q) fun S1 H1 d s1 l1 w1 q v rv => by
    cases e1 : insD s1 d with
    | none => rw [e1] at q; exact q.elim
    | some cf =>
      obtain ⟨c, fs⟩ := cf
      rw [e1] at q
      dsimp only at q
      cases e2 : (ixOf f (nms c)).bind fun i => fs[i]? with
      | none => rw [e2] at q; exact q.elim
      | some y =>
        rw [e2] at q
        obtain ⟨a, dx, vs, rfl, h1, h2⟩ := insD_at w1 rv e1
        obtain ⟨i, e3, e4⟩ := bind_at e2
        obtain ⟨u, hu, ru⟩ := h2.get e4
        obtain ⟨h3, h4⟩ := ok c (ixOf_get e3).2
        exact ⟨a, G c, dx, _, u, rfl, h1, h3, h4, ixOf_lookup e3 hu, Post.ok q w1 _ ru⟩⟩
theorem es_fld (ok : FldOk X.K G f) (ha : ED X G W A o) (hv : ED X G W B value) (hs : swapsWith value (some (.Attribute o f pos')) pos.line X.env = pure false := by rfl) : ES X G W (sFldD f A B) (.Assign [.Attribute o f pos'] value pos) :=
  PS.imp (ps_fld ha hv hs) fun E σ H ⟨S, env, st, m, q⟩ => ⟨S, env, st, m, Post.imp (Post.then m.er q) fun S1 H1 y s1 l1 w1 q v rv => ⟨S1, env, s1, m.later l1 w1, Post.imp (Post.then (m.er.mono l1) q) fun S2 H2 d s2 l2 w2 q u ru => by
    split at q
    · rename_i i
      split at q
      · rename_i c fs hi
        split at q
        · rename_i j hj
          simp only [Rep] at ru
          obtain ⟨a, rfl, ha⟩ := ru
          obtain ⟨dx, vs, h1, h2, h3⟩ := w2.cr i a _ ha hi
          obtain ⟨h4, h5⟩ := ok c (ixOf_get hj).2
          have hlen : ((nms c).zip vs).length < 1000 := by
            have : (nms c).length ≤ 5 := by
              unfold nms
              split <;> simp
            rw [List.length_zip]
            omega
          refine ⟨a, G c, dx, _, rfl, h1, h4, h5, hlen, ?_⟩
          have nt := nt_of h1 rfl
          have ry := rv.mono l2
          have fin : ∀ (fs' : List D) (vs' : List V), putF f v ((nms c).zip vs) = (nms c).zip vs' → Reps X.K G H2 S2 fs' vs' → vs'.length ≤ (nms c).length → PostS X.K G W S2 H2 (.nx env (s2.set i (.inst c fs'))) E → E.nx σ (upd H2 a (.ins (G c) dx (putF f v ((nms c).zip vs)))) := by
            intro fs' vs' e1 r1 hl q
            have lt := (w2.write (o := .ins (G c) dx ((nms c).zip vs')) (c' := .dead) hi ha (by intro z; cases z) nt trivial).1
            obtain ⟨_, w3⟩ := w2.write (o := .ins (G c) dx ((nms c).zip vs')) (c' := .inst c fs') hi ha (by intro z; cases z) nt ⟨dx, vs', upd_same, r1.mono lt, hl⟩
            rw [e1]
            exact q _ _ σ lt ⟨w3, ((m.er.mono l1).mono l2).mono lt⟩
          split at q
          · rename_i hz
            have hz' := blt_of hz
            have hz2 := hz'
            rw [h2.length] at hz2
            refine fin (fs.set j y) (vs.set j v) ?_ (h2.set ry j) (by rw [List.length_set]; exact h3) q
            rw [ixOf_put hj (Nat.le_of_lt hz2), if_pos hz2]
          · rename_i hz
            split at q
            · rename_i hz1
              have hz' := Nat.eq_of_beq_eq_true hz1
              have hz2 := hz'
              rw [h2.length] at hz2
              refine fin (fs ++ [y]) (vs ++ [v]) ?_ (h2.append (.cons ry .nil)) ?_ q
              · rw [ixOf_put hj (Nat.le_of_eq hz2), if_neg (by omega)]
              · have := (ixOf_get hj).1
                rw [List.length_append, List.length_singleton]
                omega
            · exact q.elim
        · exact q.elim
      · exact q.elim
    · exact q.elim⟩⟩
end

/-! ### a list's methods -/
abbrev LmF := Sto → List D → List D → Option (D × List D)
/-- l.m(..): the list is a cell -/
def dLm (f : LmF) (A : Den) (As : DenL) : Den := fun env st => (A env st).bind fun d s => match d with
  | .loc i => match s[i]? with
    | some (.list _) => (As env s).bind fun args s => match s[i]? with
      | some (.list l) => match f s l args with
        | some (r, l') => .ok r (s.set i (.list l'))
        | none => .bad
      | _ => .bad
    | _ => .bad
  | _ => .bad
def LmC (K : PySem.W.Frag) (G : Nat → Addr) (r : V → List V → Hp → VK → Prop) (f : LmF) : Prop := ∀ (S : Vw) (H : Hp) (st : Sto) (a : Addr) (l args l' : List D) (vs us : List V) (d : D) (Q : VK), Ws K G H S st → H a = some (.lst vs) → Reps K G H S l vs → Reps K G H S args us →
  f st l args = some (d, l') → (∀ ws v, Reps K G H S l' ws → Rep K G H S d v → Q v (upd H a (.lst ws))) → r (.ref a) us H Q
section
variable {X : Cx} {G : Nat → Addr} {W : WX} {pos apos cpos : Pos} {e o : Expr} {es : List Expr} {A : Den} {As : DenL} {r : V → List V → Hp → VK → Prop} {f : LmF} {id : String} {name : Str}
theorem lm_end {K : PySem.W.Frag} {H : Hp} {S : Vw} {σ : L2.St} {s : Sto} {i : Nat} {a : Addr} {l args : List D} {us : List V} {Q : VK} (hr : LmC K G r f) (w : Ws K G H S s) (hi : s[i]? = some (.list l)) (ha : S.ρ[i]? = some a) (ra : Reps K G H S args us)
    (q : Post K G W σ S H (match f s l args with
        | some (r, l') => Rs.ok r (s.set i (.list l'))
        | none => .bad) fun S' H' d _ => ∀ v, Rep K G H' S' d v → Q v H') : r (.ref a) us H Q := by
  obtain ⟨vs, h1, h2⟩ := w.cr i a _ ha hi
  cases ef : f s l args with
  | none => rw [ef] at q; exact q.elim
  | some dl =>
    obtain ⟨d, l'⟩ := dl
    rw [ef] at q
    have nt := nt_of h1 rfl
    refine hr S H s a l args l' vs us d Q w h1 h2 ra ef fun ws v rw_ rv => ?_
    have lt := (w.write (o := .lst ws) (c' := .dead) hi ha (by intro z; cases z) nt trivial).1
    obtain ⟨_, w3⟩ := w.write (o := .lst ws) (c' := .list l') hi ha (by intro z; cases z) nt ⟨ws, upd_same, rw_.mono lt⟩
    exact q S _ lt w3 v (rv.mono lt)
theorem ed_lm (hr : LmC X.K G r f) (slot : Slot "list" name id) (hty : typeOf (.builtin id) = pure (.type "method_descriptor")) (hm : MtR X id r) (ho : ED X G W A o) (ha : EA X G W As (e :: es))
    (hbase : attributeBase o name X.env (eval o X.env) = eval o X.env := by rfl)
    (hfew : ((backTo cpos (starEach (e :: es) X.env)).all (fun x => !x.1) && (backToKw cpos (keywordEach [] X.env)).all (fun x => x.1.isSome)
      && decide ((e :: es).length + ([] : List Keyword).length + (if ([] : List Keyword).isEmpty then 0 else 1) < 30)) = true := by rfl)
    (hline : (apos.endLine == cpos.line) = true := by rfl) (hs : starEach (e :: es) X.env = (false, eval e X.env) :: starEach es X.env := by rfl) (hplain : (backTo cpos (starEach es X.env)).any (·.1) = false := by rfl) :
    ED X G W (dLm f A As) (.Call (.Attribute o name apos) (e :: es) [] cpos) :=
  PE.imp (pe_bm PySem.F.plainAttrs_list slot hty hm ho ha hbase hfew hline hs hplain) fun σ H Q ⟨S, env, st, m, q⟩ => ⟨S, env, st, m, Post.imp (Post.bind q) fun S1 H1 d s1 l1 w1 q v rv => by
    split at q
    · rename_i i
      split at q
      · rename_i l0 h0
        simp only [Rep] at rv
        obtain ⟨a, rfl, ha⟩ := rv
        obtain ⟨vs0, h1, _⟩ := w1.cr i a _ ha h0
        refine ⟨.inl ⟨rfl, vs0, SqL.of h1⟩, S1, env, s1, m.later l1 w1, Post.imp (Post.bind q) fun S2 H2 args s2 l2 w2 q us rus => ?_⟩
        split at q
        · rename_i l hl
          exact lm_end (W := W) (σ := σ) hr w2 hl (l2.toLatR.ix ha) rus q
        · exact q.elim
      · exact q.elim
    · exact q.elim⟩
theorem ed_lm0 (hr : LmC X.K G r f) (slot : Slot "list" name id) (hty : typeOf (.builtin id) = pure (.type "method_descriptor")) (hm : MtR X id r) (ho : ED X G W A o)
    (hbase : attributeBase o name X.env (eval o X.env) = eval o X.env := by rfl) (hline : (apos.endLine == cpos.line) = true := by rfl) :
    ED X G W (dLm f A aNil) (.Call (.Attribute o name apos) [] [] cpos) :=
  PE.imp (pe_bm0 PySem.F.plainAttrs_list slot hty hm ho hbase hline) fun σ H Q ⟨S, env, st, m, q⟩ => ⟨S, env, st, m, Post.imp (Post.bind q) fun S1 H1 d s1 l1 w1 q v rv => by
    split at q
    · rename_i i
      split at q
      · rename_i l0 h0
        simp only [Rep] at rv
        obtain ⟨a, rfl, ha⟩ := rv
        obtain ⟨vs0, h1, _⟩ := w1.cr i a _ ha h0
        refine ⟨.inl ⟨rfl, vs0, SqL.of h1⟩, lm_end (W := W) (σ := σ) (args := []) hr w1 h0 ha .nil ?_⟩
        simp only [aNil, Rs.bind, h0] at q
        exact q
      · exact q.elim
    · exact q.elim⟩
end
def mAppend : LmF := fun _ l args => match args with
  | [x] => if szOk (l.length + 1) then some (.non, l ++ [x]) else none
  | _ => none
def mExtend : LmF := fun st l args => match args with
  | [x] => match getM st x with
    | some m => if szOk (l.length + m.length) then some (.non, l ++ m) else none
    | none => none
  | _ => none
def mPop : LmF := fun _ l args => match args with
  | [] => match l[l.length - 1]? with
    | some x => some (x, l.dropLast)
    | none => none
  | _ => none
def mReverse : LmF := fun _ l args => match args with
  | [] => some (.non, l.reverse)
  | _ => none
def mClear : LmF := fun _ _ args => match args with
  | [] => some (.non, [])
  | _ => none
section
variable {K : PySem.W.Frag} {G : Nat → Addr}
theorem lmc_append : LmC K G rAppend mAppend := by
  intro S H st a l args l' vs us d Q w h1 h2 ra e q
  unfold mAppend at e
  split at e
  · split at e
    · rename_i hz
      obtain ⟨v, rfl, rv⟩ := ra.one
      obtain ⟨rfl, rfl⟩ := Prod.mk.inj (Option.some.inj e)
      refine ⟨a, vs, v, rfl, rfl, h1, ?_, q _ _ (h2.append (.cons rv .nil)) mk_non⟩
      have := szOk.ok hz
      rw [h2.length] at this
      exact this
    · cases e
  · cases e
theorem lmc_extend : LmC K G rExtend mExtend := by
  intro S H st a l args l' vs us d Q w h1 h2 ra e q
  unfold mExtend at e
  split at e
  · obtain ⟨v, rfl, rv⟩ := ra.one
    split at e
    · rename_i m em
      split at e
      · rename_i hz
        obtain ⟨rfl, rfl⟩ := Prod.mk.inj (Option.some.inj e)
        obtain ⟨b, zs, rfl, h3, h4⟩ := getM_at w rv em
        refine ⟨a, b, vs, zs, rfl, rfl, h1, h3, ?_, q _ _ (h2.append h4) mk_non⟩
        have := szOk.ok hz
        rw [h2.length, h4.length] at this
        exact this
      · cases e
    · cases e
  · cases e
theorem lmc_pop : LmC K G rPop mPop := by
  intro S H st a l args l' vs us d Q w h1 h2 ra e q
  unfold mPop at e
  split at e
  · split at e
    · rename_i x ex
      obtain ⟨rfl, rfl⟩ := Prod.mk.inj (Option.some.inj e)
      rw [h2.length] at ex
      obtain ⟨v, hv, rv⟩ := h2.get ex
      exact ⟨a, vs, v, rfl, ra.of_nil, h1, hv, q _ _ h2.dropLast rv⟩
    · cases e
  · cases e
theorem lmc_reverse : LmC K G rReverse mReverse := by
  intro S H st a l args l' vs us d Q w h1 h2 ra e q
  unfold mReverse at e
  split at e
  · obtain ⟨rfl, rfl⟩ := Prod.mk.inj (Option.some.inj e)
    exact ⟨a, vs, rfl, ra.of_nil, h1, q _ _ h2.reverse mk_non⟩
  · cases e
theorem lmc_clear : LmC K G rClear mClear := by
  intro S H st a l args l' vs us d Q w h1 h2 ra e q
  unfold mClear at e
  split at e
  · obtain ⟨rfl, rfl⟩ := Prod.mk.inj (Option.some.inj e)
    exact ⟨a, vs, rfl, ra.of_nil, h1, q _ _ .nil mk_non⟩
  · cases e
end
/-- l[i] = value, of a cell: the value, the list, the place -/
def sSetL (A I B : Den) : DenS := fun env st => (B env st).then env fun y s => (A env s).then env fun d s => (I env s).then env fun k s => match d, k with
  | .loc i, .int z => match s[i]? with
    | some (.list l) => match ixN l.length z with
      | some j => .nx env (s.set i (.list (l.set j y)))
      | none => .bad
    | _ => .bad
  | _, _ => .bad
section
variable {X : Cx} {G : Nat → Addr} {W : WX} {pos pos' : Pos} {e o i : Expr} {A B C : Den}
theorem es_setL (ho : ED X G W A o) (hi : ED X G W C i) (he : ED X G W B e) (ha : ∀ v, assign (.Subscript o i pos') X.env v = (do
      let ov ← holding [v] (eval o X.env)
      let iv ← holding [v, ov] (eval i X.env)
      standAt pos'
      holding [v, ov, iv] (setItem ov iv v)
      release [v, ov, iv] []) := by intro _; rfl)
    (hs : swapsWithSole [.Subscript o i pos'] e pos.line X.env = pure false := by rfl) (hw : swappedStores [.Subscript o i pos'] e X.env = pure none := by rfl)
    (h1 : (assignEach [.Subscript o i pos'] X.env).map (·.2) = [assign (.Subscript o i pos') X.env] := by rfl) : ES X G W (sSetL A C B) (.Assign [.Subscript o i pos'] e pos) :=
  PS.imp (ps_asg he (pg_sub ho hi set_list ha) hs hw h1) fun E σ H ⟨S, env, st, m, q⟩ => ⟨S, env, st, m, Post.imp (Post.then m.er q) fun S1 H1 y s1 l1 w1 q v rv => ⟨S1, env, s1, m.later l1 w1, Post.imp (Post.then (m.er.mono l1) q) fun S2 H2 d s2 l2 w2 q u ru =>
    ⟨S2, env, s2, (m.later l1 w1).later l2 w2, Post.imp (Post.then ((m.er.mono l1).mono l2) q) fun S3 H3 k s3 l3 w3 q z rz => by
      cases d with
      | loc i =>
        cases k with
        | int zz =>
          dsimp only at q
          split at q
          · rename_i l hl
            split at q
            · rename_i j hj
              simp only [Rep] at ru
              obtain ⟨a, rfl, ha⟩ := ru
              have ha3 := l3.toLatR.ix ha
              obtain ⟨vs, h1, h2⟩ := w3.cr i a _ ha3 hl
              have rv3 := (rv.mono l2).mono l3
              have nt := nt_of h1 rfl
              have lt := (w3.write (o := .lst (vs.set j v)) (c' := .dead) hl ha3 (by intro z; cases z) nt trivial).1
              obtain ⟨_, w4⟩ := w3.write (o := .lst (vs.set j v)) (c' := .list (l.set j y)) hl ha3 (by intro z; cases z) nt ⟨_, upd_same, (h2.set rv3 j).mono lt⟩
              exact ⟨a, vs, zz, j, rfl, rep_int rz, h1, by rw [← h2.length]; exact hj, q S3 _ σ lt ⟨w4, (((m.er.mono l1).mono l2).mono l3).mono lt⟩⟩
            · exact q.elim
          · exact q.elim
        | _ => exact False.elim q
      | _ => exact False.elim q⟩⟩⟩
end
end Wt

/-! Core 8: sorted, isinstance, len(set(..)), [::-1], raise, try. -/
namespace Wt
open PySem PySem.Spec PyProof.Rows L2

/-! ### sorted -/
section
variable {α : Type} (le : α → α → Bool)
def ins (x : α) : List α → List α
  | [] => [x]
  | y :: r => if le x y then x :: y :: r else y :: ins x r
def isort : List α → List α
  | [] => []
  | x :: r => ins le x (isort r)
variable {le}
theorem ins_app (x : α) : ∀ (l m : List α), (∀ b ∈ l, le x b = false) → (∀ b ∈ m, le x b = true) → ins le x (l ++ m) = l ++ x :: m
  | [], [], _, _ => rfl
  | [], y :: m, _, h => by simp [ins, h y (List.mem_cons_self ..)]
  | y :: l, m, h, h' => by
    rw [List.cons_append, ins, if_neg (by rw [h y (List.mem_cons_self ..)]; decide), ins_app x l m (fun b hb => h b (List.mem_cons_of_mem _ hb)) h']
    rfl
theorem mergeSort_eq (trans : ∀ a b c : α, le a b → le b c → le a c) (total : ∀ a b : α, le a b || le b a) : ∀ l : List α, l.mergeSort le = isort le l
  | [] => by simp [isort]
  | x :: r => by
    obtain ⟨l₁, l₂, h1, h2, h3⟩ := List.mergeSort_cons trans total x r
    have s := List.pairwise_mergeSort trans total (x :: r)
    rw [h1] at s
    rw [isort, ← mergeSort_eq trans total r, h1, h2]
    refine (ins_app x l₁ l₂ (fun b hb => by simpa using h3 b hb) fun b hb => ?_).symm
    have q := (List.pairwise_append.mp s).2.1
    exact List.rel_of_pairwise_cons q hb
theorem isort_map {β : Type} {le' : β → β → Bool} {f : β → α} (h : ∀ x y, le' x y = le (f x) (f y)) : ∀ l : List β, (isort le' l).map f = isort le (l.map f)
  | [] => rfl
  | x :: r => by
    rw [isort, List.map_cons, isort, ← isort_map h r]
    have q : ∀ m : List β, (ins le' x m).map f = ins le (f x) (m.map f) := by
      intro m
      induction m with
      | nil => rfl
      | cons y m ih =>
        rw [ins, List.map_cons, ins, h]
        split
        · simp
        · simp [ih]
    exact q _
theorem ins_perm (x : α) : ∀ l : List α, (ins le x l).Perm (x :: l)
  | [] => .refl _
  | y :: r => by
    rw [ins]
    split
    · exact .refl _
    · exact ((ins_perm x r).cons y).trans (.swap x y r)
theorem isort_perm : ∀ l : List α, (isort le l).Perm l
  | [] => .refl _
  | x :: r => (ins_perm x _).trans ((isort_perm r).cons x)
theorem isort_pairwise (trans : ∀ a b c : α, le a b → le b c → le a c) (total : ∀ a b : α, le a b || le b a) (l : List α) : (isort le l).Pairwise (fun a b => le a b = true) := by
  rw [← mergeSort_eq trans total]
  exact List.pairwise_mergeSort trans total l
end
/-- the order of data -/
def leD (x y : D) : Bool := !PySem.W.dataLt y.py x.py
theorem leD_eq : (fun a b : D => leD a b) = PySem.W.dataLe false D.py := rfl
theorem leD_total (a b : D) : leD a b || leD b a := by
  have h := (PySem.W.sortLe_total (PyProof.Rows.listOrd PyProof.Rows.itemOrd) false fun d : D => PySem.W.keyToks d.py).total a b
  rw [Bool.or_eq_true]
  exact h
theorem leD_trans (a b c : D) (h : leD a b) (h2 : leD b c) : leD a c := (PySem.W.sortLe_total (PyProof.Rows.listOrd PyProof.Rows.itemOrd) false fun d : D => PySem.W.keyToks d.py).trans a b c h h2
/-! of one form -/
mutual
def D.form : D → D → Bool
  | .bl _, .bl _ => true
  | .int _, .int _ => true
  | .str _, .str _ => true
  | .tup l, .tup m => D.forms l m
  | .lst l, .lst m => D.forms l m
  | _, _ => false
def D.forms : List D → List D → Bool
  | [], [] => true
  | x :: xs, y :: ys => x.form y && D.forms xs ys
  | _, _ => false
end
mutual
theorem D.form_alike : ∀ (z x y : D), z.form x = true → z.form y = true → PySem.W.alike x.py y.py = true
  | .bl _, x, y, h, h' => by cases x <;> simp [D.form] at h <;> cases y <;> simp [D.form] at h' <;> simp [D.py, PySem.W.alike]
  | .int _, x, y, h, h' => by cases x <;> simp [D.form] at h <;> cases y <;> simp [D.form] at h' <;> simp [D.py, PySem.W.alike]
  | .str _, x, y, h, h' => by cases x <;> simp [D.form] at h <;> cases y <;> simp [D.form] at h' <;> simp [D.py, PySem.W.alike]
  | .tup l, x, y, h, h' => by
    cases x <;> simp [D.form] at h
    cases y <;> simp [D.form] at h'
    simpa [D.py, PySem.W.alike] using D.forms_alike _ _ _ h h'
  | .lst l, x, y, h, h' => by
    cases x <;> simp [D.form] at h
    cases y <;> simp [D.form] at h'
    simpa [D.py, PySem.W.alike] using D.forms_alike _ _ _ h h'
  | .non, x, y, h, _ => by simp [D.form] at h
  | .scr _, x, y, h, _ => by simp [D.form] at h
  | .ins _ _, x, y, h, _ => by simp [D.form] at h
  | .loc _, x, y, h, _ => by simp [D.form] at h
  | .cls _, x, y, h, _ => by simp [D.form] at h
theorem D.forms_alike : ∀ (z x y : List D), D.forms z x = true → D.forms z y = true → PySem.W.alikeAll (D.pys x) (D.pys y) = true
  | [], x, y, h, h' => by
    cases x <;> simp [D.forms] at h
    cases y <;> simp [D.forms] at h'
    simp [D.pys, PySem.W.alikeAll]
  | z :: zs, x, y, h, h' => by
    cases x <;> simp [D.forms] at h
    cases y <;> simp [D.forms] at h'
    simp [D.pys, PySem.W.alikeAll, D.form_alike _ _ _ h.1 h'.1, D.forms_alike _ _ _ h.2 h'.2]
end
mutual
theorem D.form_plain : ∀ (z x : D), z.form x = true → x.plain = true
  | .bl _, x, h => by cases x <;> simp [D.form] at h <;> simp [D.plain]
  | .int _, x, h => by cases x <;> simp [D.form] at h <;> simp [D.plain]
  | .str _, x, h => by cases x <;> simp [D.form] at h <;> simp [D.plain]
  | .tup l, x, h => by
    cases x <;> simp [D.form] at h
    simpa [D.plain] using D.forms_plain _ _ h
  | .lst l, x, h => by
    cases x <;> simp [D.form] at h
    simpa [D.plain] using D.forms_plain _ _ h
  | .non, x, h => by simp [D.form] at h
  | .scr _, x, h => by simp [D.form] at h
  | .ins _ _, x, h => by simp [D.form] at h
  | .loc _, x, h => by simp [D.form] at h
  | .cls _, x, h => by simp [D.form] at h
theorem D.forms_plain : ∀ (z x : List D), D.forms z x = true → D.plains x = true
  | [], x, h => by
    cases x <;> simp [D.forms] at h
    simp [D.plains]
  | z :: zs, x, h => by
    cases x <;> simp [D.forms] at h
    simp [D.plains, D.form_plain _ _ h.1, D.forms_plain _ _ h.2]
end
/-- a list that can be sorted: all of one form, tuples with an item, or no tuples -/
def sortOk : List D → Bool
  | [] => true
  | x :: r => (match x with
    | .tup [] => false
    | _ => true) && (x :: r).all fun y => x.form y && Nat.ble y.py.depth 60
def gSorted : List D → Sto → Option (List D)
  | [d], st => match getL st d with
    | some l => if sortOk l then some (isort leD l) else none
    | none => none
  | _, _ => none
section
variable {K : PySem.W.Frag}
/-- sorted(xs): bs the items with what they stand for -/
def rSortB (K : PySem.W.Frag) : List V → Hp → VK → Prop := fun vs H Q => ∃ (a : Addr) (bs : List (D × V)), vs = [V.ref a] ∧ SqL K H a (bs.map (·.2)) ∧ (∀ b ∈ bs, Dp K H b.2 b.1.py) ∧ PySem.W.AllAlike (bs.map fun b => b.1.py) ∧ PySem.W.Sortable (bs.map fun b => b.1.py) ∧
  (∀ b ∈ bs, b.1.py.depth ≤ 60) ∧ ∀ p, H p = none → Q (.ref p) (upd H p (.lst ((isort (fun x y : D × V => leD x.1 y.1) bs).map (·.2))))
theorem vals_each : ∀ {bs : List (D × V)} {us : List Value}, Vals (bs.map (·.2)) us → PySem.W.EachIs (fun u (b : D × V) => RelV b.2 u) us bs
  | [], _, h => by cases h; exact .nil
  | b :: bs, _, h => by
    cases h with
    | cons r t => exact .cons r (vals_each t)
theorem each_vals : ∀ {bs : List (D × V)} {us : List Value}, PySem.W.EachIs (fun u (b : D × V) => RelV b.2 u) us bs → Vals (bs.map (·.2)) us
  | _, _, .nil => .nil
  | _, _, .cons r t => .cons r (each_vals t)
theorem each_with {α β : Type} {R R' : α → β → Prop} : ∀ {as : List α} {bs : List β}, PySem.W.EachIs R as bs → (∀ a b, b ∈ bs → R a b → R' a b) → PySem.W.EachIs R' as bs
  | _, _, .nil, _ => .nil
  | _, _, .cons r t, h => .cons (h _ _ (List.mem_cons_self ..) r) (each_with t fun a b hb => h a b (List.mem_cons_of_mem _ hb))
theorem cr_sortB {X : Cx} (hu : X.A.units + 64 < cLine) : CallR X (.builtin "sorted") (rSortB X.K) := by
  intro pins s σ H vs us Q I r h
  obtain ⟨a, bs, rfl, hs, hd, hal, hso, hdp, q⟩ := h
  obtain ⟨its, rv, hl, hz⟩ := I.list hs
  obtain ⟨u, rfl, ru⟩ := vals1 r
  obtain rfl : u = Value.ref a := ru
  have e0 := vals_each rv
  have er : PySem.W.EachIs (fun u (b : D × V) => ∃ as, Reads s.heap u b.1.py as) its bs := each_with e0 fun u b hb r => Dp.reads I _ _ _ (hd b hb) r
  refine PySem.W.sorted_data (R := fun u (b : D × V) => RelV b.2 u) (enc := fun b : D × V => b.1.py) hl.isList e0 er hal hso (by rw [List.length_map] at hz; exact hz) (fun b hb => ?_) fun out ho hR => ?_
  · have := hdp b hb
    omega
  · have em : bs.mergeSort (PySem.W.dataLe false fun b : D × V => b.1.py) = isort (fun x y : D × V => leD x.1 y.1) bs := mergeSort_eq (fun a b c => leD_trans a.1 b.1 c.1) (fun a b => leD_total a.1 b.1) bs
    rw [em] at hR
    obtain ⟨n, hn⟩ := sortedAll_at s.heap its (List.toArray out)
    have hlen : (isort (fun x y : D × V => leD x.1 y.1) bs).length = bs.length := (isort_perm bs).length_eq
    refine ⟨.ref (s.heap.objs.size + 1), _, I.laid (t' := s.toks) (o := .lst ((isort (fun x y : D × V => leD x.1 y.1) bs).map (·.2))) (fun b o e => sortedAll_old e) (Nat.le_succ _) ⟨?_, out, n, each_vals hR, hn⟩, rfl, q _ (I.hok.fresh (Nat.le_succ _))⟩
    rw [List.length_map, hlen]
    rw [List.length_map] at hz
    exact hz
/-- the items with what they stand for -/
theorem pairs_of {G : Nat → Addr} {H : Hp} {S : Vw} : ∀ {l : List D} {vs : List V}, Reps K G H S l vs → ∃ bs : List (D × V), bs.map (·.1) = l ∧ bs.map (·.2) = vs ∧ ∀ b ∈ bs, Rep K G H S b.1 b.2
  | [], _, h => ⟨[], rfl, h.of_nil.symm, by simp⟩
  | d :: l, _, h => by
    obtain ⟨v, ws, rfl, r, t⟩ := h.of_cons
    obtain ⟨bs, h1, h2, h3⟩ := pairs_of t
    refine ⟨(d, v) :: bs, by simp [h1], by simp [h2], fun b hb => ?_⟩
    rcases List.mem_cons.mp hb with e | hb
    · rw [e]
      exact r
    · exact h3 b hb
theorem reps_pairs {G : Nat → Addr} {H : Hp} {S : Vw} : ∀ {bs : List (D × V)}, (∀ b ∈ bs, Rep K G H S b.1 b.2) → Reps K G H S (bs.map (·.1)) (bs.map (·.2))
  | [], _ => .nil
  | b :: bs, h => .cons (h b (List.mem_cons_self ..)) (reps_pairs fun c hc => h c (List.mem_cons_of_mem _ hc))
theorem clc_sorted {G : Nat → Addr} : ClC K G (rSortB K) gSorted := by
  intro S H st ds l xs Q w r e q
  unfold gSorted at e
  split at e
  · rename_i d
    obtain ⟨v, rfl, rv⟩ := r.one
    cases el : getL st d with
    | none => rw [el] at e; cases e
    | some m =>
      rw [el] at e
      dsimp only at e
      split at e
      · rename_i hok
        have el2 : isort leD m = l := Option.some.inj e
        obtain ⟨a, vs, rfl, h1, h2⟩ := getL_at w rv el
        obtain ⟨bs, e1, e2, e3⟩ := pairs_of h2
        have forms : ∀ b ∈ bs, ∃ z ∈ m.head?, z.form b.1 = true ∧ b.1.py.depth ≤ 60 := by
          intro b hb
          have hm : b.1 ∈ m := by rw [← e1]; exact List.mem_map.mpr ⟨b, hb, rfl⟩
          cases m with
          | nil => cases hm
          | cons x r =>
            unfold sortOk at hok
            rw [Bool.and_eq_true] at hok
            have z := List.all_eq_true.mp hok.2 _ hm
            rw [Bool.and_eq_true] at z
            exact ⟨x, rfl, z.1, Nat.le_of_ble_eq_true z.2⟩
        refine ⟨a, bs, rfl, by rw [e2]; exact h1, fun b hb => ?_, ?_, ?_, fun b hb => ?_, fun p hp => ?_⟩
        · obtain ⟨z, _, hz, _⟩ := forms b hb
          exact (e3 b hb).dp (D.form_plain _ _ hz)
        · intro x hx y hy
          obtain ⟨b, hb, rfl⟩ := List.mem_map.mp hx
          obtain ⟨c, hc, rfl⟩ := List.mem_map.mp hy
          obtain ⟨z, hz1, hz, _⟩ := forms b hb
          obtain ⟨z', hz1', hz', _⟩ := forms c hc
          rw [hz1] at hz1'
          cases hz1'
          exact D.form_alike _ _ _ hz hz'
        · cases m with
          | nil =>
            have : bs = [] := List.map_eq_nil_iff.mp e1
            rw [this]
            exact .inl (by simp)
          | cons x r =>
            unfold sortOk at hok
            rw [Bool.and_eq_true] at hok
            cases x with
            | tup xs =>
              cases xs with
              | nil => simp at hok
              | cons x0 xr =>
                refine .inl fun d hd => ?_
                obtain ⟨b, hb, rfl⟩ := List.mem_map.mp hd
                obtain ⟨z, hz1, hz, _⟩ := forms b hb
                cases hz1
                cases eb : b.1 <;> rw [eb] at hz <;> simp [D.form] at hz
                rename_i ys
                cases ys <;> simp [D.forms] at hz
                simp [D.py, D.pys]
            | _ =>
              refine .inr fun d hd => ?_
              obtain ⟨b, hb, rfl⟩ := List.mem_map.mp hd
              obtain ⟨z, hz1, hz, _⟩ := forms b hb
              cases hz1
              cases eb : b.1 <;> rw [eb] at hz <;> simp [D.form] at hz <;> simp [D.py]
        · obtain ⟨_, _, _, hz⟩ := forms b hb
          exact hz
        · refine q _ p ?_ hp
          rw [← el2, ← e1, ← isort_map (le := leD) (le' := fun x y : D × V => leD x.1 y.1) (f := (·.1)) (fun _ _ => rfl)]
          exact reps_pairs fun b hb => e3 b ((isort_perm bs).mem_iff.mp hb)
      · cases e
  · cases e
end

/-! ### [::-1] -/
def lRev (A : Den) : DenL := fun env st => (A env st).bind fun d s => match getL s d with
  | some l => .ok l.reverse s
  | none => .bad
theorem el_rev {X : Cx} {G : Nat → Addr} {W : WX} {A : Den} {e : Expr} {k : Nat} {p1 p2 p3 pos : Pos} (h : ED X G W A e) : EL X G W (lRev A) (.Subscript e (.Slice none none (some (.UnaryOp .USub (.Constant (.int 1) k p1) p2)) p3) pos) :=
  PE.imp (pe_revL h) fun σ H Q ⟨S, env, st, m, q⟩ => ⟨S, env, st, m, Post.imp (Post.bind q) fun S1 H1 d s1 l1 w1 q v rv => by
    cases el : getL s1 d with
    | none => rw [el] at q; exact q.elim
    | some l =>
      rw [el] at q
      obtain ⟨a, vs, rfl, h1, h2⟩ := getL_at w1 rv el
      exact ⟨a, vs, rfl, h1, fun p hp => Post.ok q w1 _ p h2.reverse hp⟩⟩

/-! ### len(set(xs)) of ints -/
def nDist (ns : List Int) : Nat := (ns.foldl step_dedup []).length
def dLenSet (A : Den) : Den := fun env st => (A env st).bind fun d s => match (getL s d).bind intsOf with
  | some ns => if Nat.ble ns.length 4000 then .ok (.int (nDist ns : Nat)) s else .bad
  | none => .bad
theorem firstMet_len (ns : List Int) : PyProof.Rows.firstMet (fun i => ns.getD i 0) ns.length = ns.foldl step_dedup [] := by
  unfold PyProof.Rows.firstMet
  congr 1
  apply List.ext_getElem
  · simp
  · intro i h1 h2
    simp at h1
    simp [h1]
theorem dedup_len : ∀ (ns acc : List Int), (ns.foldl step_dedup acc).length ≤ acc.length + ns.length
  | [], acc => by simp
  | n :: ns, acc => by
    rw [List.foldl_cons]
    have h := dedup_len ns (step_dedup acc n)
    have h2 : (step_dedup acc n).length ≤ acc.length + 1 := by
      unfold step_dedup
      split <;> simp
    simp
    omega
def tLenSetN (K : PySem.W.Frag) (ta : TE) : TE := fun σ H Q => ta σ H fun x H1 => ∃ (l : Addr) (ns : List Int), x = .ref l ∧ SqL K H1 l (ns.map V.int) ∧ ns.length ≤ 4000 ∧ Q (.int (nDist ns : Nat)) H1
theorem pe_lenSetN {X : Cx} {a : Expr} {ta : TE} {p p2 q pos : Pos} (hg : Gl X "len") (hm : X.mg "len" = none) (hg2 : Gl X "set") (hm2 : X.mg "set" = none) (ha : PE X a ta) (hc : X.calm = true := by rfl)
    (na : starEach [a] X.env = (false, eval a X.env) :: starEach [] X.env := by rfl) : PE X (.Call (.Name "len" p) [.Call (.Name "set" p2) [a] [] q] [] pos) (tLenSetN X.K ta) := by
  refine ⟨fun pins s σ H Q I h => ?_⟩
  refine Call_ (ld_blt I hg hm boot_len ?_)
  refine PyProof.Rows.callWith_builtin1 (PyProof.Rows.args_cons ?_ rfl) rfl rfl
  refine Call_ (ld_blt I hg2 hm2 boot_set ?_)
  refine PyProof.Rows.callWith_type1 (PyProof.Rows.args_cons (thn (ha.run pins s σ H _ I h) fun v s1 ⟨x, H1, I1, r1, q1⟩ => PyProof.Rows.args_nil ?_) na) na rfl
  obtain ⟨l, ns, rfl, hq, hl, q1⟩ := q1
  cases r1
  obtain ⟨its, r, pl, hz⟩ := I1.list hq
  have hlen : its.toArray.size = ns.length := by rw [List.size_toArray, ← r.length, List.length_map]
  refine call_set_list (I1.ok.hd hc) pl.isList (by simpa using RZ.intsAre_vals r) (by rw [hlen]; unfold scanBound; omega) fun h' tk hS hk => ?_
  refine PyProof.Rows.args_nil ?_
  rw [hlen, firstMet_len] at hS
  obtain ⟨o, es, ep, t, ho, hex, hd, _, _, _, hf, hn⟩ := hS
  have I2 : Inv X pins σ H1 { s1 with heap := h', toks := tk } := I1.kept fun b o e => hk b o (Heap.lt_size e) e
  have hb : (ns.foldl step_dedup []).length ≤ 4000 := Nat.le_trans (dedup_len ns []) (by simpa using hl)
  exact call_len_set ho hex hd hf (by rw [hn] <;> omega) ⟨.int (nDist ns : Nat), H1, I2.tok _, ⟨_, by rw [hn]; rfl⟩, q1⟩
theorem ed_lenSet {X : Cx} {G : Nat → Addr} {W : WX} {A : Den} {a : Expr} {p p2 q pos : Pos} (hm : X.mg "len" = none) (hm2 : X.mg "set" = none) (ha : ED X G W A a) (hg : Gl X "len" := by rfl) (hg2 : Gl X "set" := by rfl) (hc : X.calm = true := by rfl)
    (na : starEach [a] X.env = (false, eval a X.env) :: starEach [] X.env := by rfl) : ED X G W (dLenSet A) (.Call (.Name "len" p) [.Call (.Name "set" p2) [a] [] q] [] pos) :=
  PE.imp (pe_lenSetN hg hm hg2 hm2 ha hc na) fun σ H Q ⟨S, env, st, m, q⟩ => ⟨S, env, st, m, Post.imp (Post.bind q) fun S1 H1 d s1 l1 w1 q v rv => by
    cases e : (getL s1 d).bind intsOf with
    | none => rw [e] at q; exact q.elim
    | some ns =>
      rw [e] at q
      dsimp only at q
      split at q
      · rename_i hz
        obtain ⟨a, rfl, h1⟩ := ints_at w1 rv e
        exact ⟨a, ns, rfl, h1, Nat.le_of_ble_eq_true hz, Post.ok q w1 _ mk_int⟩
      · exact q.elim⟩

/-! ### isinstance -/
inductive Ty where
  | non | bool | int | str | tup | lst | dct
  deriving DecidableEq
def Ty.name : Ty → String
  | .non => "NoneType" | .bool => "bool" | .int => "int" | .str => "str" | .tup => "tuple" | .lst => "list" | .dct => "dict"
def Ty.sub : Ty → Ty → Bool
  | .bool, .int => true
  | a, b => decide (a = b)
theorem Ty.kit : ∀ a b : Ty, b ≠ .non → kitB a.name b.name = some (a.sub b) := by
  intro a b hb
  cases b <;> first | exact absurd rfl hb | (cases a <;> decide +kernel)
def tyD (st : Sto) : D → Option Ty
  | .non => some .non
  | .bl _ => some .bool
  | .int _ => some .int
  | .str _ => some .str
  | .tup _ => some .tup
  | .lst _ => some .lst
  | .scr _ => some .lst
  | .loc i => match st[i]? with
    | some (.list _) => some .lst
    | some (.dK _) => some .dct
    | some (.dT _) => some .dct
    | _ => none
  | _ => none
theorem tyD_at {K : PySem.W.Frag} {G : Nat → Addr} {H : Hp} {S : Vw} {st : Sto} {d : D} {v : V} {t : Ty} (w : Ws K G H S st) (r : Rep K G H S d v) (e : tyD st d = some t) : TyX K H v (.type t.name) := by
  cases d <;> simp [tyD] at e
  · subst e
    rw [rep_non r]
    exact .base .non
  · subst e
    rw [rep_bl r]
    exact .base (.bl _)
  · subst e
    rw [rep_int r]
    exact .base (.int _)
  · subst e
    rw [rep_str r]
    exact .base (.str _)
  · subst e
    obtain ⟨a, vs, rfl, h, _⟩ := rep_tup r
    rcases h with (h | ⟨o, h⟩) | ⟨o, its, n, h, hc, _⟩
    · exact .base (.tup h)
    · exact .fTuple h
    · exact .kTuple h hc
  · subst e
    simp only [Rep] at r
    obtain ⟨a, vs, rfl, _, h, _⟩ := r
    exact .base (.lst h)
  · subst e
    simp only [Rep] at r
    obtain ⟨a, vs, rfl, h, _⟩ := r
    rcases h with ⟨o, h⟩ | ⟨o, its, n, h, hc, _⟩
    · exact .base (.frz h)
    · exact .kList h hc
  · rename_i i
    simp only [Rep] at r
    obtain ⟨a, rfl, hi⟩ := r
    split at e
    · rename_i l hl
      simp at e
      subst e
      obtain ⟨vs, h, _⟩ := w.cr i a _ hi hl
      exact .base (.lst h)
    · rename_i l hl
      simp at e
      subst e
      obtain ⟨vs, h, _⟩ := w.cr i a _ hi hl
      exact .base (.dK h)
    · rename_i l hl
      simp at e
      subst e
      obtain ⟨vs, h, _⟩ := w.cr i a _ hi hl
      exact .base (.dT h)
    · cases e
def dIsB (t : Ty) (A : Den) : Den := fun env st => (A env st).bind fun d s => match tyD s d with
  | some u => .ok (.bl (u.sub t)) s
  | none => .bad
/-- what the walk asks of a class of instances -/
structure InsOk (K : PySem.W.Frag) (C : Addr) : Prop where
  cls : Cls K C
  ha : PySem.W.findIn K (.ref C) "__class__" = some (some (.builtin "object.__class__"))
  hn : PySem.W.specialIn K (.builtin "object.__class__") "__get__" = some (some (.builtin "getset_descriptor.__get__"))
  htk : PySem.W.takesIn K (.builtin "object.__class__") = some true
  hm : PySem.W.mroIn K C (.type "object") = some true
/-- which class is below which -/
def subC (c d : Nat) : Bool := Nat.beq c d || (Nat.beq d 6 && Nat.blt c 5)
def dIsC (cs : List Nat) (c : Nat) (A : Den) : Den := fun env st => (A env st).bind fun d s => match clsD s d with
  | some u => if cs.contains u then .ok (.bl (subC u c)) s else .bad
  | none => .bad
section
variable {X : Cx} {G : Nat → Addr} {W : WX} {A : Den} {a : Expr} {p p2 pos : Pos} {x : Str}
theorem ed_isB {t : Ty} (hm : X.mg "isinstance" = none) (ht : t ≠ .non) (hmx : X.mg x = none) (hx : bootBuiltins x = some (.type t.name)) (ha : ED X G W A a) (hg : Gl X "isinstance" := by rfl) (hgx : Gl X x := by rfl) (hxn : x ≠ "__name__" := by decide) (hdb : (x == ("__debug__" : Str)) = false := by decide)
    (he : starEach (a :: [.Name x p2]) X.env = (false, eval a X.env) :: starEach [.Name x p2] X.env := by rfl) (hpl : (backTo pos (starEach [.Name x p2] X.env)).any (·.1) = false := by rfl) (he2 : starEach ([.Name x p2]) X.env = (false, eval (.Name x p2) X.env) :: starEach [] X.env := by rfl) :
    ED X G W (dIsB t A) (.Call (.Name "isinstance" p) [a, .Name x p2] [] pos) :=
  PE.imp (pe_callB call_isi hg hm (by decide +kernel) (pa_cons ha (pa_cons (pe_bltn (v := .ty t.name) hgx hmx hx rfl hxn hdb) pa_nil he2) he) (by decide) (by decide) he hpl) fun σ H Q ⟨S, env, st, m, q⟩ => ⟨S, env, st, m, Post.imp (Post.bind q) fun S1 H1 d s1 l1 w1 q v rv => by
    cases e : tyD s1 d with
    | none => rw [e] at q; exact q.elim
    | some u =>
      rw [e] at q
      exact ⟨v, .ty t.name, _, _, _, rfl, .ty _, tyD_at w1 rv e, kit_ty (Ty.kit u t ht), Post.ok q w1 _ mk_bl⟩⟩
theorem ed_isC {c : Nat} {cs : List Nat} (hm : X.mg "isinstance" = none) (ok : ∀ d ∈ cs, InsOk X.K (G d) ∧ PySem.W.kitOne X.K (.ref (G d)) (.ref (G c)) = some (subC d c)) (hmx : X.mg x = some (.ref (G c))) (ha : ED X G W A a) (hg : Gl X "isinstance" := by rfl) (hgx : Gl X x := by rfl)
    (hdb : (x == ("__debug__" : Str)) = false := by decide)
    (he : starEach (a :: [.Name x p2]) X.env = (false, eval a X.env) :: starEach [.Name x p2] X.env := by rfl) (hpl : (backTo pos (starEach [.Name x p2] X.env)).any (·.1) = false := by rfl) (he2 : starEach ([.Name x p2]) X.env = (false, eval (.Name x p2) X.env) :: starEach [] X.env := by rfl) :
    ED X G W (dIsC cs c A) (.Call (.Name "isinstance" p) [a, .Name x p2] [] pos) :=
  PE.imp (pe_callB call_isi hg hm (by decide +kernel) (pa_cons ha (pa_cons (pe_glob (v := .ref (G c)) hgx hmx rfl hdb) pa_nil he2) he) (by decide) (by decide) he hpl) fun σ H Q ⟨S, env, st, m, q⟩ => ⟨S, env, st, m, Post.imp (Post.bind q) fun S1 H1 d s1 l1 w1 q v rv => by
    cases e : clsD s1 d with
    | none => rw [e] at q; exact q.elim
    | some u =>
      rw [e] at q
      dsimp only at q
      split at q
      · rename_i hz
        obtain ⟨b, dx, vs, rfl, h⟩ := clsD_at w1 rv e
        obtain ⟨o, k⟩ := ok u (by simpa using hz)
        exact ⟨.ref b, .ref (G c), _, _, _, rfl, .own _, .base (.ins h o.cls o.ha o.hn o.htk o.hm), k, Post.ok q w1 _ mk_bl⟩
      · exact q.elim⟩
end

/-! ### raise, try -/
/-- what the walk asks of an own class of errors, without __init__ -/
structure ErrOk (K : PySem.W.Frag) (C : Addr) : Prop where
  ex : PySem.W.excIn K C [.type "ValueError", .type "Exception", .type "BaseException", .type "object"] "ValueError.__new__" = true
  kp : PySem.W.keepIn K (.ref C) = true
  sb : PySem.W.subIn K (.ref C) (.type "BaseException") = some true
  ty : PySem.W.typeIn K (.ref C) = some (.type "type")
def sRaise (c : Nat) : DenS := fun env st => .exc c env st
section
variable {X : Cx} {G : Nat → Addr} {W : WX} {c j : Nat} {x m : Str} {p p2 pos pos2 : Pos}
theorem es_raise (ok : ErrOk X.K (G c)) (hm : X.mg x = some (.ref (G c))) (tk : Takes X W) (hc : X.calm = true := by rfl) (hg : Gl X x := by rfl) (hdb : (x == ("__debug__" : Str)) = false := by decide) :
    ES X G W (sRaise c) (.Raise (some (.Call (.Name x p) [.Constant (.str m) j p2] [] pos)) none pos2) :=
  PS.imp (ps_raise hc tk (pmk_own PySem.F.excBase_ValueError ok.ex hm ok.kp (raises_own ok.sb ok.ty) hg hdb)) fun E σ H ⟨S, env, st, m, q⟩ => q S H σ .refl m
end
/-- errors: which is below which (10 is above all) -/
def subE (c d : Nat) : Bool := Nat.beq c d || Nat.beq d 10
def noXS (r : Fl) : Fl := match r with
  | .exc _ _ _ => .bad
  | r => r
def sTry (es : List Nat) (ec : Nat) (B : DenS) (B2 : Nat → DenS) : DenS := fun env st => match B env st with
  | .exc c e s => if es.contains c then (if subE c ec then noXS (B2 c e s) else .exc c e s) else .bad
  | r => r
theorem PostS.noX {K : PySem.W.Frag} {G : Nat → Addr} {H : Hp} {S : Vw} {W : WX} {r : Fl} {E : Ends} (h : PostS K G W S H (noXS r) E) : PostS K G W0 S H r E := by
  cases r with
  | exc c e s => exact False.elim h
  | _ => exact h
section
variable {X : Cx} {G : Nat → Addr} {W : WX} {ec : Nat} {es : List Nat} {x : Str} {np pos pos' : Pos} {body suite : List Stmt} {b₀ : Stmt} {B B2 : DenS}
theorem es_try (hs : X.stack = X.env :: X.outer) (hf : X.env.frame = some X.env.locals) (hmx : X.mg x = some (.ref (G ec))) (tk : Takes X W) (ok : ∀ c ∈ es, PySem.W.exmOne X.K (.ref (G c)) (.ref (G ec)) = some (subE c ec))
    (hb : ∀ (W : WX) (pn : List (Addr × Obj)) (xe : Value → Shared → Prop), Takes (X.tr pn xe) W → PassesOwn (model X.prog X.w) X.A X.env xe → ESs (X.tr pn xe) G W B body)
    (hsu : ∀ (a : Addr) (oe : Obj) (pn : List (Addr × Obj)), ESs (X.suite a ((a, oe) :: pn)) G W0 B2 (b₀ :: suite)) (hgx : Gl X x := by rfl) (hdb : (x == ("__debug__" : Str)) = false := by decide) :
    ES X G W (sTry es ec B fun _ => B2) (.Try body [.ExceptHandler (some (.Name x np)) none (b₀ :: suite) pos'] [] [] pos) :=
  PS.imp (ps_try_only (tb := fun W => tS X.K G W B) (ts := fun _ _ _ => tS X.K G W0 B2) hs hf ⟨hgx, hdb, .inl hmx⟩ tk hb fun a oe cls d pn _ _ => hsu a oe pn) fun E σ H ⟨S, env, st, m, q⟩ => ⟨S, env, st, m, by
    unfold sTry at q
    cases e : B env st with
    | exc c e' s =>
      rw [e] at q
      dsimp only at q
      split at q
      · rename_i hz
        intro S' H' σ' l m'
        refine ⟨subE c ec, ok c (by simpa using hz), fun hs a ha => ?_, fun hs => ?_⟩
        · rw [hs, if_pos rfl] at q
          exact ⟨S', e', s, m', PostS.later (PostS.noX q) l⟩
        · rw [hs, if_neg (by decide)] at q
          exact q S' H' σ' l m'
      · exact q.elim
    | nx e' s => rw [e] at q; exact q
    | rt d s => rw [e] at q; exact q
    | bk e' s => rw [e] at q; exact q
    | ct e' s => rw [e] at q; exact q
    | bad => rw [e] at q; exact q⟩
end
end Wt

/-! Core 9: a law's defs put together, and the law's end. -/
namespace Wt
open PySem PySem.Spec PyProof.Rows L2
section
variable {P : Program} {w : World} {K : PySem.W.Frag} {mg : Str → Option Value} {base : Heap} {G : Nat → Addr}
/-- as fd_of, the def's own data told -/
theorem fn_den {x qual : Str} {st : Stmt} {f : Addr} {fd : FuncData} {N ps : List Str} {k n nN : Nat} {B : DenS} (F : Fun K x qual st f fd) (Sc : FnScope N ps (defScope st)) (hn : ps.length = n) (hN : N.length = nN)
    (hbody : ∀ (cdv : Value) (A : Around) (outer : List Env) (s : Shared) (H : Hp) (E : XK), Room k (A.deeper (envOfC qual (defScope st) s.heap.objs.size f cdv)) →
      ESs (cxOf (L2.CX P w) P w K mg base N qual (defScope st) f cdv A outer s H E) G (fun cls d _ H => E cls d H) B (defBody st)) : FnOk P w K mg base (L2.CX P w) (k + 1) f fd ps (spD K G n (run nN B)) := by
  subst hN
  refine F.okX Sc (fun vs H Q E h => ?_) (fun cdv A outer s H vs Q E hr h => ⟨_, hbody cdv A outer s H E hr, ?_⟩)
  · obtain ⟨S, ds, st, _, r, hl, _⟩ := h
    rw [← r.length, hl, hn]
  · obtain ⟨S, ds, st, w, r, hl, q⟩ := h
    refine ⟨S, _, st, ⟨w, ERep.start r⟩, ?_⟩
    unfold run at q
    cases e : B (ds.map some ++ List.replicate (N.length - ds.length) none) st with
    | nx env s =>
      rw [e] at q
      exact fun S' H' σ' l m => q S' H' .non l m.ws mk_non
    | rt d s =>
      rw [e] at q
      exact q
    | exc c env s =>
      rw [e] at q
      exact fun S' H' σ' l m => q S' H' l m.ws
    | bk _ _ => rw [e] at q; exact q.elim
    | ct _ _ => rw [e] at q; exact q.elim
    | bad => rw [e] at q; exact q
end
section
variable (P : Program) (w : World) (K : PySem.W.Frag) (mg : Str → Option Value) (base : Heap) (G : Nat → Addr)
/-- the module's def x does d -/
def Cal (x : Str) (k n : Nat) (d : DenF) : Prop := ∃ a, FD P w K mg base G k a n d ∧ mg x = some (.ref a) ∧ PySem.W.keepIn K (.ref a) = true
/-- the class x, its __init__ does d -/
def Mkr (x : Str) (c k n : Nat) (d : DenF) : Prop := ∃ f, Mk K (G c) f ∧ FD P w K mg base G k f n d ∧ mg x = some (.ref (G c))
def Mkr0 (x : Str) (c : Nat) : Prop := Mk0 K (G c) ∧ mg x = some (.ref (G c))
def Isi (cs : List Nat) (x : Str) (c : Nat) : Prop := (∀ d ∈ cs, InsOk K (G d) ∧ PySem.W.kitOne K (.ref (G d)) (.ref (G c)) = some (subC d c)) ∧ mg x = some (.ref (G c))
def Err (x : Str) (c : Nat) : Prop := ErrOk K (G c) ∧ mg x = some (.ref (G c))
end
section
variable {X : Cx} {G : Nat → Addr} {W : WX} {k n c : Nat} {d : DenF} {x m : Str} {p pos pos2 p2 : Pos} {a e : Expr} {es : List Expr} {As : DenL} {A : Den} {j : Nat}
theorem ed_cal (C : Cal X.prog X.w X.K X.mg X.base G x k n d) (hr : Room k X.A) (tk : Takes X W) (ha : EA X G W As (e :: es)) (hg : Gl X x := by rfl) (hdb : (x == ("__debug__" : Str)) = false := by decide)
    (he : starEach (e :: es) X.env = (false, eval e X.env) :: starEach es X.env := by rfl) (hpl : (backTo pos (starEach es X.env)).any (·.1) = false := by rfl) : ED X G W (dFn n d As) (.Call (.Name x p) (e :: es) [] pos) :=
  let ⟨_, F, hm, hk⟩ := C
  ed_call F hr hm hk tk ha hg hdb he hpl
theorem ed_cal0 (C : Cal X.prog X.w X.K X.mg X.base G x k 0 d) (hr : Room k X.A) (tk : Takes X W) (hg : Gl X x := by rfl) (hdb : (x == ("__debug__" : Str)) = false := by decide) : ED X G W (dFn 0 d aNil) (.Call (.Name x p) [] [] pos) :=
  let ⟨_, F, hm, hk⟩ := C
  ed_call0 F hr hm hk tk hg hdb
theorem ed_mkr (C : Mkr X.prog X.w X.K X.mg X.base G x c k n d) (hr : Room (k + 1) X.A) (tk : Takes X W) (ha : EA X G W As (e :: es)) (hg : Gl X x := by rfl) (hdb : (x == ("__debug__" : Str)) = false := by decide)
    (he : starEach (e :: es) X.env = (false, eval e X.env) :: starEach es X.env := by rfl) (hpl : (backTo pos (starEach es X.env)).any (·.1) = false := by rfl) : ED X G W (dMk c n d As) (.Call (.Name x p) (e :: es) [] pos) :=
  let ⟨_, M, F, hm⟩ := C
  ed_make M F hr hm tk ha hg hdb he hpl
theorem ed_mkr0 (C : Mkr0 X.K X.mg G x c) (hg : Gl X x := by rfl) (hdb : (x == ("__debug__" : Str)) = false := by decide) : ED X G W (dMk0 c) (.Call (.Name x p) [] [] pos) := ed_make0 C.1 C.2 hg hdb
theorem ed_isi {cs : List Nat} (C : Isi X.K X.mg G cs x c) (hm : X.mg "isinstance" = none) (ha : ED X G W A a) (hg : Gl X "isinstance" := by rfl) (hgx : Gl X x := by rfl)
    (hdb : (x == ("__debug__" : Str)) = false := by decide)
    (he : starEach (a :: [.Name x p2]) X.env = (false, eval a X.env) :: starEach [.Name x p2] X.env := by rfl) (hpl : (backTo pos (starEach [.Name x p2] X.env)).any (·.1) = false := by rfl) (he2 : starEach ([.Name x p2]) X.env = (false, eval (.Name x p2) X.env) :: starEach [] X.env := by rfl) :
    ED X G W (dIsC cs c A) (.Call (.Name "isinstance" p) [a, .Name x p2] [] pos) := ed_isC hm C.1 C.2 ha hg hgx hdb he hpl he2
theorem es_err (C : Err X.K X.mg G x c) (tk : Takes X W) (hc : X.calm = true := by rfl) (hg : Gl X x := by rfl) (hdb : (x == ("__debug__" : Str)) = false := by decide) :
    ES X G W (sRaise c) (.Raise (some (.Call (.Name x p) [.Constant (.str m) j p2] [] pos)) none pos2) := es_raise C.1 C.2 tk hc hg hdb
theorem ed_gnum {i : Int} (hm : ∃ t, X.mg x = some (.int i t)) (hg : Gl X x := by rfl) (hd : (x == ("__debug__" : Str)) = false := by decide) : ED X G W (dC (.int i)) (.Name x pos) :=
  let ⟨_, hm⟩ := hm
  ed_gint hg hm hd
/-- a module's tuple of texts -/
def TupIn (K : PySem.W.Frag) (mg : Str → Option Value) (x : Str) (l : List Str) : Prop := ∃ (a : Addr) (o : Obj) (its : Array Value) (n : Nat), mg x = some (.ref a) ∧ K.lookup a = some o ∧ o.cls = .type "tuple" ∧ o.data = .seq its n ∧ its.size ≤ sizeLine ∧ Vals (l.map V.str) its.toList
theorem Reps.of_strs {K : PySem.W.Frag} {H : Hp} {S : Vw} : ∀ {ns : List Str}, Reps K G H S (ns.map D.str) (ns.map V.str)
  | [] => .nil
  | n :: ns => .cons (by simp [Rep]) Reps.of_strs
theorem tOpG {l : List Str} {a : Addr} {neg : Bool} {A : Den} {f : D → D → Sto → Rs D} (hf : f = if neg then fNotIn else fIn) (hm : ∃ (o : Obj) (its : Array Value) (n : Nat), X.K.lookup a = some o ∧ o.cls = .type "tuple" ∧ o.data = .seq its n ∧ its.size ≤ sizeLine ∧ Vals (l.map V.str) its.toList) (σ : L2.St) (H : Hp) (Q : VK)
    (h : tD X.K G W (dOp f A (dC (.tup (l.map .str)))) σ H Q) : tOp (rIn X.K neg) (tD X.K G W A) (tC (.ref a)) σ H Q := by
  obtain ⟨S, env, st, m, q⟩ := h
  refine ⟨S, env, st, m, Post.imp (Post.bind q) fun S1 H1 d s1 l1 w1 q v rv => ?_⟩
  have q : Post X.K G W0 σ S1 H1 (f d (.tup (l.map .str)) s1) _ := Post.noX (Post.ok (Post.bind q) w1)
  have key : ∀ b, inB s1 d (.tup (l.map .str)) = some b → Q (.bl (if neg then !b else b)) H1 → rIn X.K neg v (.ref a) H1 Q := fun b e q => by
    unfold inB at e
    simp only at e
    split at e
    · rename_i hz
      rw [Bool.and_eq_true] at hz
      refine ⟨a, l.map V.str, rfl, .inr (.inr hm), flat_v rv hz.1, flat_all (Reps.of_strs (K := X.K) (G := G) (H := H1) (S := S1)) hz.2, ?_⟩
      rw [flat_any rv hz.1 (Reps.of_strs (K := X.K) (G := G) (H := H1) (S := S1)) hz.2, Option.some.inj e]
      exact q
    · cases e
  cases neg with
  | true =>
    rw [hf] at q
    simp only [if_true] at q
    unfold fNotIn at q
    cases e : inB s1 d (.tup (l.map .str)) with
    | none => rw [e] at q; exact q.elim
    | some b => rw [e] at q; exact key b e (Post.ok q w1 _ mk_bl)
  | false =>
    rw [hf] at q
    simp only [Bool.false_eq_true, if_false] at q
    unfold fIn at q
    cases e : inB s1 d (.tup (l.map .str)) with
    | none => rw [e] at q; exact q.elim
    | some b => rw [e] at q; exact key b e (Post.ok q w1 _ mk_bl)
theorem ed_notInG {l : List Str} {A : Den} {e : Expr} {pos2 : Pos} (hm : TupIn X.K X.mg x l) (ha : ED X G W A e) (hb : behindInMarks .NotIn (.Name x pos2) = false) (hg : Gl X x := by rfl) (hd : (x == ("__debug__" : Str)) = false := by decide) : ED X G W (dOp fNotIn A (dC (.tup (l.map .str)))) (.Compare e [.NotIn] [.Name x pos2] pos) := by
  obtain ⟨a, o, its, n, hm, h1⟩ := hm
  exact PE.imp (pe_cmpR op_notIn_seq ha (pe_glob (v := .ref a) hg hm rfl hd) hb) (tOpG (neg := true) rfl ⟨o, its, n, h1⟩)
theorem eb_notInG {l : List Str} {A : Den} {e : Expr} {pos2 : Pos} (hm : TupIn X.K X.mg x l) (ha : ED X G W A e) (hb : behindInMarks .NotIn (.Name x pos2) = false) (hg : Gl X x := by rfl) (hd : (x == ("__debug__" : Str)) = false := by decide) : EB X G W (dTest (dOp fNotIn A (dC (.tup (l.map .str))))) (.Compare e [.NotIn] [.Name x pos2] pos) := by
  obtain ⟨a, o, its, n, hm, h1⟩ := hm
  exact PT.imp (pt_cmpR op_notIn_seq ha (pe_glob (v := .ref a) hg hm rfl hd) hb) (test_of (tOpG (neg := true) rfl ⟨o, its, n, h1⟩))
end
theorem hu65 {k : Nat} {A : Around} (r : Room k A) : A.units + 65 < cLine := by
  have := r.un
  omega
theorem hu64 {k : Nat} {A : Around} (r : Room k A) : A.units + 64 < cLine := r.units

/-! ### the law's end -/
def spLaw (K : PySem.W.Frag) : Sp := fun vs H Q _ => ∃ (a : Addr) (ns : List Int), vs = [.ref a] ∧ ns.length ≤ 63 ∧ (∀ z ∈ ns, Builtin.Int.intBits z ≤ 1048576) ∧ Only H ∧ SqL K H a (ns.map V.int) ∧ ∀ H', Q (.bl true) H'
theorem spLaw_of {K : PySem.W.Frag} {G : Nat → Addr} {d : DenF} (h : ∀ ns : List Int, ns.length ≤ 63 → (∀ z ∈ ns, Builtin.Int.intBits z ≤ 1048576) → ∃ st, d [.scr (ns.map .int)] [] = .ok (.bl true) st) (vs : List V) (H : Hp) (Q : VK) (E : XK) (p : spLaw K vs H Q E) : spD K G 1 d vs H Q E := by
  obtain ⟨a, ns, rfl, hl, hb, ho, hs, q⟩ := p
  obtain ⟨st, e⟩ := h ns hl hb
  refine ⟨⟨fun _ => False, fun _ => False, []⟩, [.scr (ns.map .int)], [], ⟨rfl, .nil, fun i a h => by simp at h, fun i a c h => by simp at h, fun i a h => by simp at h, fun _ f => False.elim f, fun _ f => False.elim f, fun i a c h => by simp at h, fun _ f => False.elim f⟩, .cons ?_ .nil, rfl, ?_⟩
  · simp only [Rep]
    refine ⟨a, _, rfl, ?_, Reps.of_ints⟩
    rcases hs with (h | ⟨o, h⟩) | h
    · rcases ho a with h' | ⟨o, xs, h'⟩
      · rw [h] at h'; cases h'
      · rw [h] at h'; cases h'
    · exact .inl ⟨o, h⟩
    · exact .inr h
  · rw [e]
    intro S' H' v l w r
    rw [rep_bl r]
    exact q H'
theorem noCX {P : Program} (w : World) (H : Hp) (s : Shared) (e : Value) (s' : Shared) (h : L2.CX P w [] H s (fun _ _ _ => False) e s') : False := by
  obtain ⟨a, B, H', cls, d, _, _, _, _, _, _, _, q⟩ := h
  exact q
/-! what the top has written, by its words -/
def DefIn (K : PySem.W.Frag) (x qual : Str) (st : Stmt) (f : Addr) : Prop := ∃ (oc : Value) (od : Option Addr) (kV dc pm : Value) (an : Option Addr) (cd ct : Value) (sl : Array (Option Value)),
  K.lookup f = some ⟨oc, od, .func (PySem.W.fnOf x qual (defArgs st) (defBody st) (defScope st) .none kV dc pm an cd ct), sl⟩ ∧ PySem.W.codeIn K cd qual = true ∧ PySem.W.keepIn K (.ref f) = true
theorem DefIn.fn {K : PySem.W.Frag} {x qual : Str} {st : Stmt} {f : Addr} (h : DefIn K x qual st f) : ∃ fd, Fun K x qual st f fd ∧ ∃ (kV dc pm : Value) (an : Option Addr) (cd ct : Value), fd = PySem.W.fnOf x qual (defArgs st) (defBody st) (defScope st) .none kV dc pm an cd ct := by
  obtain ⟨oc, od, kV, dc, pm, an, cd, ct, sl, h1, h2, h3⟩ := h
  exact ⟨_, fun_mk h1 h2 h3, kV, dc, pm, an, cd, ct, rfl⟩
end Wt
namespace Wt
open PySem PySem.Spec PyProof.Rows L2
theorem opc_is {K : PySem.W.Frag} {G : Nat → Addr} : OpC K G rIsB fIs := by
  intro S H st σ dx dy x y Q w rx ry q
  unfold fIs at q
  split at q
  · exact ⟨_, _, rep_bl rx, rep_bl ry, Post.ok q w _ mk_bl⟩
  · exact q.elim
theorem opc_isNot {K : PySem.W.Frag} {G : Nat → Addr} : OpC K G rNotB fIsNot := by
  intro S H st σ dx dy x y Q w rx ry q
  unfold fIsNot at q
  split at q
  · exact ⟨_, _, rep_bl rx, rep_bl ry, Post.ok q w _ mk_bl⟩
  · exact q.elim
theorem law_pack {K : PySem.W.Frag} {x q : Str} {st : Stmt} {f : Addr} {fd : FuncData} {A B : FuncData → Prop} (_ : Fun K x q st f fd) (h1 : A fd) (h2 : B fd) : ∃ fd, A fd ∧ B fd := ⟨fd, h1, h2⟩
end Wt

/-! Core 10: dicts with tuples as keys. -/
namespace Wt
open PySem PySem.Spec PyProof.Rows L2
def keysD : List D → Option (List Key)
  | [] => some []
  | .int i :: r => (keysD r).map (.inl i :: ·)
  | .str x :: r => (keysD r).map (.inr x :: ·)
  | _ :: _ => none
def tupKey : D → Option (List Key)
  | .tup l => keysD l
  | _ => none
def keyToD : Key → D
  | .inl i => .int i
  | .inr x => .str x
theorem keysD_eq : ∀ {l : List D} {ks : List Key}, keysD l = some ks → l = ks.map keyToD
  | [], ks, h => by cases h; rfl
  | .int i :: r, ks, h => by
    obtain ⟨t, ht, rfl⟩ := Option.map_eq_some_iff.mp h
    rw [keysD_eq ht]
    rfl
  | .str i :: r, ks, h => by
    obtain ⟨t, ht, rfl⟩ := Option.map_eq_some_iff.mp h
    rw [keysD_eq ht]
    rfl
  | .non :: _, _, h => by cases h
  | .bl _ :: _, _, h => by cases h
  | .tup _ :: _, _, h => by cases h
  | .lst _ :: _, _, h => by cases h
  | .scr _ :: _, _, h => by cases h
  | .ins _ _ :: _, _, h => by cases h
  | .loc _ :: _, _, h => by cases h
  | .cls _ :: _, _, h => by cases h
section
variable {K : PySem.W.Frag} {G : Nat → Addr} {H : Hp} {S : Vw}
theorem rep_key (k : Key) {v : V} (r : Rep K G H S (keyToD k) v) : v = kV k := by
  cases k with
  | inl i => exact rep_int r
  | inr x => exact rep_str r
theorem mk_key (k : Key) : Rep K G H S (keyToD k) (kV k) := by
  cases k with
  | inl i => exact mk_int
  | inr x => exact mk_str
theorem reps_keys : ∀ {ks : List Key} {vs : List V}, Reps K G H S (ks.map keyToD) vs → vs = ks.map kV
  | [], _, h => h.of_nil
  | k :: r, vs, h => by
    obtain ⟨v, ws, rfl, h1, h2⟩ := h.of_cons
    rw [rep_key k h1, reps_keys h2]
    rfl
theorem mk_keys : ∀ (ks : List Key), Reps K G H S (ks.map keyToD) (ks.map kV)
  | [] => .nil
  | k :: r => .cons (mk_key k) (mk_keys r)
theorem key_at {d : D} {v : V} {ks : List Key} (r : Rep K G H S d v) (e : tupKey d = some ks) : ∃ b, v = .ref b ∧ H b = some (.tup (ks.map kV)) := by
  cases d with
  | tup l =>
    have e' := keysD_eq e
    subst e'
    simp only [Rep] at r
    obtain ⟨a, vs, rfl, h1, h2⟩ := r
    exact ⟨a, rfl, reps_keys h2 ▸ h1⟩
  | _ => cases e
end
def valD (kvs : List (List Key × D)) (k : List Key) : Option D := (kvs.find? fun kv => decide (kv.1 = k)).map (·.2)
def putD (kvs : List (List Key × D)) (k : List Key) (d : D) : List (List Key × D) :=
  if (kvs.any fun kv => decide (kv.1 = k)) = true then kvs.map (fun kv => if kv.1 = k then (kv.1, d) else kv) else kvs ++ [(k, d)]
def getT (st : Sto) : D → Option (List (List Key × D))
  | .loc i => match st[i]? with
    | some (.dT kvs) => some kvs
    | some (.lT kvs) => some kvs
    | _ => none
  | _ => none
section
variable {K : PySem.W.Frag} {G : Nat → Addr} {H : Hp} {S : Vw}
theorem KRep.val {kvs : List (List Key × D)} {us : List (List Key × V)} {k : List Key} (h : KRep K G H S kvs us) : (∀ d, valD kvs k = some d → ∃ v, valV us k = some v ∧ Rep K G H S d v) ∧ (valD kvs k = none → valV us k = none) := by
  unfold KRep at h
  induction h with
  | nil => exact ⟨fun d e => (nomatch e), fun _ => rfl⟩
  | @cons p q ps qs h t ih =>
    obtain ⟨h1, h2⟩ := h
    unfold valD valV at *
    rw [List.find?_cons, List.find?_cons]
    by_cases e : p.1 = k
    · rw [decide_eq_true e, decide_eq_true (h1 ▸ e)]
      refine ⟨fun d ed => ?_, fun ed => (nomatch ed)⟩
      cases ed
      exact ⟨_, rfl, h2⟩
    · rw [decide_eq_false e, decide_eq_false (fun z => e (h1.trans z))]
      exact ih
theorem KRep.any {kvs : List (List Key × D)} {us : List (List Key × V)} {k : List Key} (h : KRep K G H S kvs us) : (kvs.any fun kv => decide (kv.1 = k)) = us.any fun kv => decide (kv.1 = k) := by
  unfold KRep at h
  induction h with
  | nil => rfl
  | @cons p q ps qs h t ih => rw [List.any_cons, List.any_cons, ih, h.1]
theorem KRep.put {kvs : List (List Key × D)} {us : List (List Key × V)} {k : List Key} {d : D} {v : V} (h : KRep K G H S kvs us) (r : Rep K G H S d v) : KRep K G H S (putD kvs k d) (putK us k v) := by
  unfold putD putK
  rw [h.any]
  split
  · rename_i hz
    clear hz
    unfold KRep at h ⊢
    induction h with
    | nil => exact .nil
    | @cons p q ps qs h t ih =>
      rw [List.map_cons, List.map_cons]
      refine .cons ?_ ih
      by_cases e : p.1 = k
      · rw [if_pos e, if_pos (h.1 ▸ e)]
        exact ⟨h.1, r⟩
      · rw [if_neg e, if_neg (fun z => e (h.1.trans z))]
        exact h
  · rename_i hz
    clear hz
    unfold KRep at h ⊢
    induction h with
    | nil => exact .cons ⟨rfl, r⟩ .nil
    | @cons p q ps qs h t ih => exact .cons h ih
theorem KRep.len {κ : Type} {kvs : List (κ × D)} {us : List (κ × V)} (h : KRep K G H S kvs us) : kvs.length = us.length := by
  unfold KRep at h
  induction h with
  | nil => rfl
  | cons _ _ ih => rw [List.length_cons, List.length_cons, ih]
theorem getT_at {d : D} {v : V} {st : Sto} {kvs : List (List Key × D)} (w : Ws K G H S st) (r : Rep K G H S d v) (e : getT st d = some kvs) : ∃ a us, v = .ref a ∧ Rd H a (.dT us) ∧ KRep K G H S kvs us := by
  cases d with
  | loc i =>
    simp only [Rep] at r
    obtain ⟨a, rfl, hi⟩ := r
    simp only [getT] at e
    cases hk : st[i]? with
    | none => rw [hk] at e; cases e
    | some c =>
      rw [hk] at e
      cases c with
      | dT k =>
        cases e
        obtain ⟨us, h1, h2⟩ := w.cr _ a _ hi hk
        exact ⟨a, us, rfl, .inl h1, h2⟩
      | lT k =>
        cases e
        obtain ⟨us, o, h1, h2⟩ := w.cr _ a _ hi hk
        exact ⟨a, us, rfl, .inr ⟨o, h1⟩, h2⟩
      | _ => cases e
  | _ => cases e
end
/-- d[k] -/
def dGetT (A B : Den) : Den := fun env st => (A env st).bind fun x s => (B env s).bind fun y s => match getT s x, tupKey y with
  | some kvs, some k => match valD kvs k with
    | some d => .ok d s
    | none => .bad
  | _, _ => .bad
/-- d.get(k, x) -/
def dGetT2 (A B C : Den) : Den := fun env st => (A env st).bind fun x s => match getT s x with
  | some _ => (B env s).bind fun y s => (C env s).bind fun z s => match getT s x, tupKey y with
    | some kvs, some k => .ok ((valD kvs k).getD z) s
    | _, _ => .bad
  | none => .bad
/-- d[k] = v: the value, the dict, the key -/
def sPutT (A I B : Den) : DenS := fun env st => (B env st).then env fun y s => (A env s).then env fun d s => (I env s).then env fun k s => match d, tupKey k with
  | .loc i, some ks => match s[i]? with
    | some (.dT kvs) => if szOk (kvs.length + 1) then .nx env (s.set i (.dT (putD kvs ks y))) else .bad
    | _ => .bad
  | _, _ => .bad
/-- {} -/
def dNewT : Den := fun _ st => .ok (.loc st.length) (st ++ [.dT []])
section
variable {X : Cx} {G : Nat → Addr} {W : WX} {pos pos' apos cpos : Pos} {e f o i : Expr} {A B C : Den}
theorem ed_getT (ho : ED X G W A o) (hi : ED X G W B i) (hu : X.A.units + 65 < cLine) (hs : NoSl i := by exact fun _ _ => rfl) : ED X G W (dGetT A B) (.Subscript o i pos) :=
  PE.imp (pe_dget (by omega) ho hi hs) fun σ H Q ⟨S, env, st, m, q⟩ => ⟨S, env, st, m, Post.imp (Post.bind q) fun S1 H1 x s1 l1 w1 q v rv => ⟨S1, env, s1, m.later l1 w1, Post.imp (Post.bind q) fun S2 H2 y s2 l2 w2 q u ru => by
    cases e1 : getT s2 x with
    | none => rw [e1] at q; exact q.elim
    | some kvs =>
      cases e2 : tupKey y with
      | none => rw [e1, e2] at q; exact q.elim
      | some k =>
        rw [e1, e2] at q
        dsimp only at q
        cases e3 : valD kvs k with
        | none => rw [e3] at q; exact q.elim
        | some d =>
          rw [e3] at q
          obtain ⟨a, us, rfl, h1, h2⟩ := getT_at w2 (rv.mono l2) e1
          obtain ⟨b, rfl, h3⟩ := key_at ru e2
          obtain ⟨w, h4, h5⟩ := (h2.val (k := k)).1 d e3
          exact ⟨a, w, rfl, .inr ⟨us, k, b, h1, rfl, h3, h4.symm⟩, Post.ok q w2 w h5⟩⟩⟩
theorem ed_getT2 (ho : ED X G W A o) (he : ED X G W B e) (hf : ED X G W C f) (hu : X.A.units + 65 < cLine) (m : M2 X o "get" apos e f cpos := by exact ⟨rfl, rfl, rfl, rfl⟩) : ED X G W (dGetT2 A B C) (.Call (.Attribute o "get" apos) [e, f] [] cpos) :=
  PE.imp (pe_dget2 (by omega) ho he hf m) fun σ H Q ⟨S, env, st, m, q⟩ => ⟨S, env, st, m, Post.imp (Post.bind q) fun S1 H1 x s1 l1 w1 q v rv => by
    cases e0 : getT s1 x with
    | none => rw [e0] at q; exact q.elim
    | some kvs0 =>
      rw [e0] at q
      dsimp only at q
      obtain ⟨a, us0, rfl, h0, h00⟩ := getT_at w1 rv e0
      refine ⟨a, rfl, .inr ⟨us0, h0⟩, S1, env, s1, m.later l1 w1, Post.imp (Post.bind q) fun S2 H2 y s2 l2 w2 q u ru => ⟨S2, env, s2, (m.later l1 w1).later l2 w2, Post.imp (Post.bind q) fun S3 H3 z s3 l3 w3 q t rt => ?_⟩⟩
      cases e1 : getT s3 x with
      | none => rw [e1] at q; exact q.elim
      | some kvs =>
        cases e2 : tupKey y with
        | none => rw [e1, e2] at q; exact q.elim
        | some k =>
          rw [e1, e2] at q
          dsimp only at q
          obtain ⟨a', us, ea, h1, h2⟩ := getT_at w3 ((rv.mono l2).mono l3) e1
          cases ea
          obtain ⟨b, rfl, h3⟩ := key_at (ru.mono l3) e2
          refine ⟨valV us k, .inr ⟨us, k, b, h1, rfl, h3, rfl⟩, ?_⟩
          refine Post.ok q w3 _ ?_
          cases e3 : valD kvs k with
          | none => rw [(h2.val (k := k)).2 e3]; exact rt
          | some d =>
            obtain ⟨w, h4, h5⟩ := (h2.val (k := k)).1 d e3
            rw [h4]
            exact h5⟩
theorem ed_newT : ED X G W dNewT (.Dict [] [] pos) := PE.imp pe_dnewT fun σ H Q ⟨S, env, st, m, q⟩ p hp => by
  have r : Rep X.K G (upd H p (.dT [])) (S.add p) (.loc st.length) (.ref p) := by
    simp only [Rep]
    exact ⟨p, rfl, Vw.add_ix m.ws⟩
  exact q (S.add p) _ (Lat.newC hp) (m.ws.newC hp ⟨[], upd_same, .nil⟩) _ r
theorem es_putT (ho : ED X G W A o) (hi : ED X G W B i) (hv : ED X G W C e) (hu : X.A.units + 65 < cLine) (hs : swapsWith e (some (.Subscript o i pos')) pos.line X.env = pure false := by rfl) : ES X G W (sPutT A B C) (.Assign [.Subscript o i pos'] e pos) :=
  PS.imp (ps_dput (by omega) ho hi hv hs) fun E σ H ⟨S, env, st, m, q⟩ => ⟨S, env, st, m, Post.imp (Post.then m.er q) fun S1 H1 y s1 l1 w1 q v rv => ⟨S1, env, s1, m.later l1 w1, Post.imp (Post.then (m.er.mono l1) q) fun S2 H2 d s2 l2 w2 q u ru =>
    ⟨S2, env, s2, (m.later l1 w1).later l2 w2, Post.imp (Post.then ((m.er.mono l1).mono l2) q) fun S3 H3 k s3 l3 w3 q z rz => by
      cases d with
      | loc i =>
        cases ek : tupKey k with
        | none => simp only [ek] at q; exact q.elim
        | some ks =>
          simp only [ek] at q
          cases ec : s3[i]? with
          | none => simp only [ec] at q; exact q.elim
          | some c =>
            cases c with
            | dT kvs =>
              simp only [ec] at q
              split at q
              · rename_i hz
                simp only [Rep] at ru
                obtain ⟨a, rfl, ha⟩ := ru
                have ha3 := l3.toLatR.ix ha
                obtain ⟨us, h1, h2⟩ := w3.cr i a _ ha3 ec
                obtain ⟨b, rfl, h3⟩ := key_at rz ek
                have rv3 := (rv.mono l2).mono l3
                have nt := nt_of h1 rfl
                have lt := (w3.write (o := .dT (putK us ks v)) (c' := .dead) ec ha3 (by intro z; cases z) nt trivial).1
                obtain ⟨_, w4⟩ := w3.write (o := .dT (putK us ks v)) (c' := .dT (putD kvs ks y)) ec ha3 (by intro z; cases z) nt ⟨_, upd_same, (h2.put rv3).mono lt.toLatR⟩
                have hl := szOk.ok hz
                rw [h2.len] at hl
                exact ⟨a, _, rfl, .inr ⟨us, ks, b, h1, rfl, h3, by omega, rfl⟩, q S3 _ σ lt ⟨w4, (((m.er.mono l1).mono l2).mono l3).mono lt⟩⟩
              · exact q.elim
            | _ => simp only [ec] at q; exact q.elim
      | _ => cases ek : tupKey k <;> simp only [ek] at q <;> exact q.elim⟩⟩⟩
end
end Wt

/-! Core 11: a new list over a dict's keys: the dict is locked while it is walked. -/
namespace Wt
open PySem PySem.Spec PyProof.Rows L2
/-- what a datum leans on stays -/
structure LatV (H : Hp) (S : Vw) (H' : Hp) (S' : Vw) : Prop where
  fz : ∀ a o, S.F a → H a = some o → S'.F a ∧ H' a = some o
  tp : ∀ a xs, H a = some (.tup xs) → H' a = some (.tup xs)
  fr : ∀ a o xs, H a = some (.frz o (.lst xs)) → H' a = some (.frz o (.lst xs))
  ix : ∀ (i : Nat) (a : Addr), S.ρ[i]? = some a → S'.ρ[i]? = some a
section
variable {K : PySem.W.Frag} {G : Nat → Addr} {H H' : Hp} {S S' : Vw}
theorem LatV.rd_f {a : Addr} {vs : List V} (l : LatV H S H' S') (h : FzL K H a vs) : FzL K H' a vs := by
  rcases h with ⟨o, h⟩ | h
  · exact .inl ⟨o, l.fr _ _ _ h⟩
  · exact .inr h
mutual
theorem Rep.monoV (l : LatV H S H' S') : ∀ {d : D} {v : V}, Rep K G H S d v → Rep K G H' S' d v
  | .non, _, h => by simpa [Rep] using h
  | .bl _, _, h => by simpa [Rep] using h
  | .int _, _, h => by simpa [Rep] using h
  | .str _, _, h => by simpa [Rep] using h
  | .tup ds, _, h => by
    simp only [Rep] at h ⊢
    obtain ⟨a, vs, e, h1, h2⟩ := h
    exact ⟨a, vs, e, l.tp _ _ h1, Reps.monoV l h2⟩
  | .lst ds, _, h => by
    simp only [Rep] at h ⊢
    obtain ⟨a, vs, e, f, h1, h2⟩ := h
    obtain ⟨f', h1'⟩ := l.fz _ _ f h1
    exact ⟨a, vs, e, f', h1', Reps.monoV l h2⟩
  | .scr ds, _, h => by
    simp only [Rep] at h ⊢
    obtain ⟨a, vs, e, h1, h2⟩ := h
    exact ⟨a, vs, e, l.rd_f h1, Reps.monoV l h2⟩
  | .ins c ds, _, h => by
    simp only [Rep] at h ⊢
    obtain ⟨a, dx, vs, e, f, h1, h2⟩ := h
    obtain ⟨f', h1'⟩ := l.fz _ _ f h1
    exact ⟨a, dx, vs, e, f', h1', Reps.monoV l h2⟩
  | .loc i, _, h => by
    simp only [Rep] at h ⊢
    obtain ⟨a, e, h⟩ := h
    exact ⟨a, e, l.ix _ _ h⟩
  | .cls _, _, h => by simpa [Rep] using h
theorem Reps.monoV (l : LatV H S H' S') : ∀ {ds : List D} {vs : List V}, Reps K G H S ds vs → Reps K G H' S' ds vs
  | [], _, h => by simpa [Reps] using h
  | d :: ds, vs, h => by
    simp only [Reps] at h ⊢
    obtain ⟨v, ws, e, h1, h2⟩ := h
    exact ⟨v, ws, e, Rep.monoV l h1, Reps.monoV l h2⟩
end
theorem KRep.monoV {κ : Type} {ds : List (κ × D)} {vs : List (κ × V)} (l : LatV H S H' S') (h : KRep K G H S ds vs) : KRep K G H' S' ds vs :=
  Paired.mapP h fun _ _ r => ⟨r.1, r.2.monoV l⟩
theorem CRep.monoV {c : Cell} {a : Addr} (l : LatV H S H' S') (e : ∀ o, H a = some o → H' a = some o) (h : CRep K G H S c a) : CRep K G H' S' c a := by
  cases c with
  | list ds =>
    obtain ⟨vs, h1, h2⟩ := h
    exact ⟨vs, e _ h1, h2.monoV l⟩
  | inst c fs =>
    obtain ⟨dx, vs, h1, h2, h3⟩ := h
    exact ⟨dx, vs, e _ h1, h2.monoV l, h3⟩
  | dK kvs =>
    obtain ⟨us, h1, h2⟩ := h
    exact ⟨us, e _ h1, h2.monoV l⟩
  | dT kvs =>
    obtain ⟨us, h1, h2⟩ := h
    exact ⟨us, e _ h1, h2.monoV l⟩
  | lT kvs =>
    obtain ⟨us, o, h1, h2⟩ := h
    exact ⟨us, o, e _ h1, h2.monoV l⟩
  | dead => trivial
/-- the dict's lock goes -/
theorem Ws.unlock {st : Sto} {i : Nat} {a : Addr} {kvs kvs' : List (List Key × D)} {us : List (List Key × V)} {od : Obj} (w : Ws K G H S st) (h : st[i]? = some (.lT kvs')) (ha : S.ρ[i]? = some a) (hH : H a = some (.frz od (.dT us))) (hk : KRep K G H S kvs us) :
    LatV H S (upd H a (.dT us)) S ∧ Ws K G (upd H a (.dT us)) S (st.set i (.dT kvs)) := by
  have nf := w.nf i a _ ha h (by intro z; cases z)
  have l : LatV H S (upd H a (.dT us)) S := {
    fz := fun x u f e => by
      have hx : x ≠ a := fun q => nf (q ▸ f)
      exact ⟨f, by rw [upd_ne hx]; exact e⟩
    tp := fun x xs e => by
      have hx : x ≠ a := fun q => by rw [q, hH] at e; cases e
      rw [upd_ne hx]
      exact e
    fr := fun x u v e => by
      have hx : x ≠ a := fun q => by rw [q, hH] at e; cases e
      rw [upd_ne hx]
      exact e
    ix := fun _ _ e => e }
  refine ⟨l, ⟨by rw [List.length_set]; exact w.len, w.nd, fun j b hj => ?_, fun j b d hj hd nd => ?_, w.np, w.dj, fun b f => ?_, fun j b d hj hd => ?_, fun b f => ?_⟩⟩
  · by_cases e : b = a
    · rw [e]
      exact ⟨_, upd_same⟩
    · rw [upd_ne e]
      exact w.rl j b hj
  · by_cases e : j = i
    · subst e
      rw [hj] at ha
      rw [Option.some.inj ha]
      exact nf
    · rw [List.getElem?_set_ne (fun q => e q.symm)] at hd
      exact w.nf j b d hj hd nd
  · obtain ⟨u, q⟩ := w.pf b f
    have hb : b ≠ a := fun z => w.np i a ha (z ▸ f)
    exact ⟨u, by rw [upd_ne hb]; exact q⟩
  · by_cases e : j = i
    · subst e
      rw [hj] at ha
      have eb := Option.some.inj ha
      subst eb
      rw [List.getElem?_set_self (List.getElem?_eq_some_iff.mp h).1] at hd
      rw [← Option.some.inj hd]
      exact ⟨us, upd_same, hk.monoV l⟩
    · rw [List.getElem?_set_ne (fun q => e q.symm)] at hd
      have hb : b ≠ a := by
        intro q
        subst q
        have h1 := List.getElem?_eq_some_iff.mp hj
        have h2 := List.getElem?_eq_some_iff.mp ha
        exact e (List.getElem_inj (h₀ := h1.1) (h₁ := h2.1) w.nd |>.mp (h1.2.trans h2.2.symm))
      exact (w.cr j b d hj hd).monoV l fun u q => by
        rw [upd_ne hb]
        exact q
  · by_cases e : b = a
    · rw [e]
      exact ⟨_, upd_same⟩
    · rw [upd_ne e]
      exact w.fr b f
end
theorem upd_two {H : Hp} {a b : Addr} {o u : HO} (h : a ≠ b) : upd (upd H a o) b u = upd (upd H b u) a o := by
  funext x
  by_cases h1 : x = a
  · subst h1
    rw [upd_ne h, upd_same, upd_same]
  · rw [upd_ne h1]
    by_cases h2 : x = b
    · subst h2
      rw [upd_same, upd_same]
    · rw [upd_ne h2, upd_ne h2, upd_ne h1]
def keyTup (k : List Key) : D := .tup (k.map keyToD)
/-- [.. for key in d], d a name -/
def lLcT (i : Nat) (vs : List Nat) (g : DenG) (P : DenB) (A : Den) : DenL := fun env st => match env[i]? with
  | some (some (.loc n)) => match st[n]? with
    | some (.dT kvs) => (noX (lcIt (fun _ => true) vs g P A env (kvs.map fun p => keyTup p.1) [] (st.set n (.lT kvs)))).bind fun l s => match s[n]? with
      | some (.lT _) => .ok l (s.set n (.dT kvs))
      | _ => .bad
    | _ => .bad
  | _ => .bad
section
variable {X : Cx} {G : Nat → Addr} {W : WX} {g : DenG} {P : DenB} {A : Den} {elt tg iter : Expr} {ifs : List Expr} {scope : Scope} {own : List (Str × Nat)} {pos p2 : Pos}
theorem wk_keysT {K : PySem.W.Frag} {S : Vw} {H : Hp} {d : Addr} {o : Obj} {us : List (List Key × V)} {kvs : List (List Key × D)} (h : H d = some (.frz o (.dT us))) (hk : kvs.map (·.1) = us.map (·.1)) :
    Wk K G (Itkt d o us) (kvs.map fun p => keyTup p.1, fun _ => true) S H := by
  have hl : kvs.length = us.length := by have := congrArg List.length hk; simpa using this
  intro S' H' st' i lt w k
  have h' := lt.fr _ _ _ h
  refine ⟨fun d hd => ?_, fun hle => ⟨h', by simpa [hl] using hle⟩⟩
  have hd' : (kvs.map fun p => keyTup p.1)[i]? = some d := hd
  rw [List.getElem?_map] at hd'
  obtain ⟨p, hp, rfl⟩ := Option.map_eq_some_iff.mp hd'
  have hi : i < us.length := by
    have := (List.getElem?_eq_some_iff.mp hp).1
    omega
  refine ⟨⟨h', hi⟩, fun x H2 hy => ?_⟩
  obtain ⟨rfl, k, v, q, h1, rfl, h2⟩ := hy
  have ek : p.1 = k := by
    have e1 : (kvs.map (·.1))[i]? = some p.1 := by rw [List.getElem?_map, hp]; rfl
    rw [hk, List.getElem?_map, h1] at e1
    exact (Option.some.inj e1).symm
  refine ⟨S', .refl, w, ?_⟩
  subst ek
  unfold keyTup
  simp only [Rep]
  exact ⟨q, _, rfl, h2, mk_keys _⟩
theorem KRep.fst {K : PySem.W.Frag} {κ : Type} {H : Hp} {S : Vw} {kvs : List (κ × D)} {us : List (κ × V)} (h : KRep K G H S kvs us) : kvs.map (·.1) = us.map (·.1) := by
  unfold KRep at h
  induction h with
  | nil => rfl
  | cons h _ ih => rw [List.map_cons, List.map_cons, h.1, ih]
theorem el_lcT (i : Nat) (hc : X.calm = true) (hN : X.N.Nodup) (hi : PE X iter (tVar i)) (ok : BlkOk X.N X.env.scope scope own)
    (hg : ∀ (s : Shared) (H : Hp) (C : Addr) (cl : List (Str × Addr)) (fp : List Addr), EGw (X.blk s H scope (compEnvC scope cl C X.env) fp) G g (own.map (·.2)) tg) (ht : ∀ (s : Shared) (H : Hp) (C : Addr) (cl : List (Str × Addr)) (fp : List Addr), EBs (X.blk s H scope (compEnvC scope cl C X.env) fp) G W0 P ifs)
    (he : ∀ (s : Shared) (H : Hp) (C : Addr) (cl : List (Str × Addr)) (fp : List Addr), ED (X.blk s H scope (compEnvC scope cl C X.env) fp) G W0 A elt) (hs : ∀ x, foldedSetIterable iter X.env x = pure x := by intro _; rfl) :
    EL X G W (lLcT i (own.map (·.2)) g P A) (.ListComp elt [⟨tg, iter, ifs, 0⟩] scope pos) :=
  PE.imp (pe_lock (pe_lc (g := tGw X.K G g (own.map (·.2))) (tt := tT X.K G W0 P) (te := tD X.K G W0 A) hc hN (pi_keys hi) ok hg ht he hs)) fun σ H Q ⟨S, env, st, m, q⟩ => by
    unfold lLcT at q
    cases e1 : env[i]? with
    | none => rw [e1] at q; exact q.elim
    | some o1 =>
    cases o1 with
    | none => rw [e1] at q; exact q.elim
    | some d =>
    cases d with
    | loc n =>
      rw [e1] at q
      dsimp only at q
      cases e2 : st[n]? with
      | none => rw [e2] at q; exact q.elim
      | some c =>
      cases c with
      | dT kvs =>
        rw [e2] at q
        dsimp only at q
        obtain ⟨v, hv, rv⟩ := m.er.at_ i _ e1
        simp only [Rep] at rv
        obtain ⟨a, rfl, ha⟩ := rv
        obtain ⟨us, h1, h2⟩ := m.ws.cr n a _ ha e2
        have nt := nt_of h1 rfl
        have nF : ¬ S.F a := m.ws.nf n a _ ha e2 (by intro z; cases z)
        have nP : ¬ S.P a := m.ws.np n a ha
        refine ⟨a, _, h1, trivial, fun od => ⟨_, hv, a, od, rfl, .inr ⟨us, upd_same, fun D hD => ?_⟩⟩⟩
        obtain ⟨l1, -⟩ := m.ws.write (o := .frz od (.dT us)) (c' := .dead) e2 ha (by intro z; cases z) nt trivial
        obtain ⟨-, w1⟩ := m.ws.write (o := .frz od (.dT us)) (c' := .lT kvs) e2 ha (by intro z; cases z) nt ⟨us, od, upd_same, h2.mono l1.toLatR⟩
        refine lc_of (W := W) (g := g) (P := P) (A := A) (env := env) (vs := own.map (·.2)) (Q := fun v H' => H' a = some (.frz od (.dT us)) ∧ Q v (upd H' a (.dT us))) (I := (kvs.map fun p => keyTup p.1, fun _ => true)) (wk_keysT upd_same h2.fst) ⟨w1, m.er.mono l1⟩ hD ?_
        have q0 : Post X.K G W0 σ S H _ _ := Post.noX (Post.bind q)
        cases er : lcIt (fun _ => true) (own.map (·.2)) g P A env (kvs.map fun p => keyTup p.1) [] (st.set n (.lT kvs)) with
        | bad => rw [er] at q; exact q.elim
        | exc c s => rw [er] at q; exact q.elim
        | ok l s =>
          rw [er] at q
          simp only [noX, Rs.bind] at q
          intro S' H' l2 w2 vs p rvs hp
          have hp2 : H' a = some (.frz od (.dT us)) := l2.fr _ _ _ upd_same
          have hpa : p ≠ a := fun z => by rw [z, hp2] at hp; cases hp
          refine ⟨by rw [upd_ne (Ne.symm hpa)]; exact hp2, ?_⟩
          cases es : s[n]? with
          | none => rw [es] at q; exact q.elim
          | some c =>
          cases c with
          | lT kvs' =>
            rw [es] at q
            dsimp only at q
            have ha' := l2.toLatR.ix ha
            have hk' : KRep X.K G H' S' kvs us := (h2.mono l1.toLatR).mono l2.toLatR
            obtain ⟨lv, w3⟩ := w2.unlock es ha' hp2 hk'
            have l12 := l1.trans l2
            have lL : Lat H S (upd H' a (.dT us)) S' := {
              fz := fun x u f e => by
                have hx : x ≠ a := fun z => nF (z ▸ f)
                obtain ⟨f2, e3⟩ := l12.fz x u f e
                exact ⟨f2, by rw [upd_ne hx]; exact e3⟩
              pp := fun x u f e => by
                have hx : x ≠ a := fun z => nP (z ▸ f)
                obtain ⟨f2, e3⟩ := l12.pp x u f e
                exact ⟨f2, by rw [upd_ne hx]; exact e3⟩
              tp := fun x xs e => by
                have hx : x ≠ a := fun z => by rw [z, h1] at e; cases e
                rw [upd_ne hx]
                exact l12.tp _ _ e
              fr := fun x u v e => by
                have hx : x ≠ a := fun z => by rw [z, h1] at e; cases e
                rw [upd_ne hx]
                exact l12.fr _ _ _ e
              pr := l12.pr }
            have z := q S' _ lL w3 vs p (rvs.monoV lv) (by rw [upd_ne hpa]; exact hp)
            rw [upd_two hpa]
            exact z
          | _ => rw [es] at q; exact q.elim
      | _ => rw [e2] at q; exact q.elim
    | _ => rw [e1] at q; exact q.elim
end
end Wt

/-! Core 12: range with a step. -/
namespace Wt
open PySem PySem.Spec PyProof.Rows L2
def stepD (lo c : Int) : Nat → List D
  | 0 => []
  | n + 1 => .int lo :: stepD (lo + c) c n
theorem stepD_len (c : Int) : ∀ (n : Nat) (lo : Int), (stepD lo c n).length = n
  | 0, _ => rfl
  | n + 1, lo => by rw [stepD, List.length_cons, stepD_len c n]
theorem stepD_get (c : Int) : ∀ (n i : Nat) (lo : Int), i < n → (stepD lo c n)[i]? = some (.int (lo + (i : Nat) * c))
  | 0, _, _, h => absurd h (Nat.not_lt_zero _)
  | n + 1, 0, lo, _ => by simp [stepD]
  | n + 1, i + 1, lo, h => by
    rw [stepD, List.getElem?_cons_succ, stepD_get c n i (lo + c) (by omega)]
    congr 2
    rw [Int.natCast_succ, Int.add_mul]
    omega
def iRng3D (As : DenL) : DenI := fun env st => (As env st).bind fun l s => match l with
  | [.int i, .int j, .int c] => if decide (c ≠ 0) && decide (c.natAbs < 1073741824) && Builtin.Range.small i j c && decide (Builtin.Range.rangeSize i j c = ((Builtin.Range.rangeSize i j c).toNat : Int)) then .ok (stepD i c (Builtin.Range.rangeSize i j c).toNat, fun _ => true) s else .bad
  | _ => .bad
theorem wk_rngC {K : PySem.W.Frag} {G : Nat → Addr} {S : Vw} {H : Hp} {lo c : Int} {n : Nat} : Wk K G (Itc lo c n) (stepD lo c n, fun _ => true) S H := by
  intro S' H' st' i lt w k
  refine ⟨fun d hd => ?_, fun hl => ?_⟩
  · have hi : i < n := by
      have := (List.getElem?_eq_some_iff.mp hd).1
      dsimp only at this
      rwa [stepD_len] at this
    refine ⟨hi, fun x H2 hy => ?_⟩
    obtain ⟨rfl, rfl⟩ := hy
    dsimp only at hd
    rw [stepD_get c n i lo hi] at hd
    rw [← Option.some.inj hd]
    exact ⟨S', .refl, w, mk_int⟩
  · dsimp only at hl
    rwa [stepD_len] at hl
section
variable {X : Cx} {G : Nat → Addr} {W : WX} {As : DenL} {tg a b c : Expr} {p pos : Pos}
theorem ei_rng3 (hg : Gl X "range") (hm : X.mg "range" = none) (ha : EA X G W As [a, b, c])
    (hs : starEach [a, b, c] X.env = (false, eval a X.env) :: starEach [b, c] X.env := by rfl) (hpl : (backTo pos (starEach [b, c] X.env)).any (·.1) = false := by rfl) :
    EI X G W (iRng3D As) tg (.Call (.Name "range" p) [a, b, c] [] pos) :=
  PI.imp (pi_range3 hg hm ha hs hpl) fun σ H R ⟨S, env, st, m, q⟩ => ⟨S, env, st, m, Post.imp (Post.bind q) fun S1 H1 l s1 l1 w1 q vs rv => by
    split at q
    · rename_i i j c
      split at q
      · rename_i hz
        simp only [Bool.and_eq_true, decide_eq_true_eq] at hz
        obtain ⟨v, u, t, rfl, r, r2, r3⟩ := rv.three
        exact ⟨i, j, c, _, by rw [rep_int r, rep_int r2, rep_int r3], ⟨hz.1.1.1, hz.1.1.2, hz.1.2, hz.2⟩, Post.ok q w1 _ wk_rngC⟩
      · exact q.elim
    · exact q.elim⟩
end
theorem pe_vi {X : Cx} (i : Nat) {x : Str} {pos : Pos} (hN : X.N[i]? = some x := by rfl) (hv : Vis X.env.scope x := by first | exact Or.inl rfl | exact Or.inr (Or.inl rfl) | exact Or.inr (Or.inr rfl)) (hd : (x == ("__debug__" : Str)) = false := by decide)
    (hcd : (x == ("__classdict__" : Str)) = false := by decide) : PE X (.Name x pos) (tVar i) := pv i hN hv hd hcd
end Wt

namespace Wt
open PySem PySem.Spec PyProof.Rows L2
/-! ## what the denotations give: rows for simp -/
/-! what is done with a value, named -/
def getV (o : Option (Option D)) (st : Sto) : Rs D := match o with | some (some d) => .ok d st | _ => .bad
def optB {α β : Type} (o : Option α) (f : α → Rs β) : Rs β := match o with | some a => f a | none => .bad
def tstK (d : D) (s : Sto) : Rs Bool := match d with | .bl b => .ok b s | _ => .bad
def chK (g : D → D → Sto → Rs D) (C : Den) (env : En) (y z : D) (s : Sto) : Rs D := match z with
  | .bl true => (C env s).bind fun u s => noX (g y u s)
  | .bl false => .ok (.bl false) s
  | _ => .bad
def andK (B : Den) (env : En) (d : D) (s : Sto) : Rs D := match d with | .bl true => B env s | .bl false => .ok (.bl false) s | _ => .bad
def orK (B : Den) (env : En) (d : D) (s : Sto) : Rs D := match d with | .bl true => .ok (.bl true) s | .bl false => B env s | _ => .bad
def notK (d : D) (s : Sto) : Rs D := match d with | .bl b => .ok (.bl (!b)) s | _ => .bad
def intK (d : D) (s : Sto) : Rs (Option Int) := match d with | .int i => .ok (some i) s | _ => .bad
def mkK (n : Nat) (r : Rs D) : Rs D := match r with | .ok .non s' => .ok (.loc n) s' | .exc c s' => .exc c s' | _ => .bad
def lstAt (o : Option Cell) : Option (List D) := match o with | some (.list l) => some l | _ => none
def insAt (o : Option Cell) : Option (Nat × List D) := match o with | some (.inst c l) => some (c, l) | _ => none
def tyAt (o : Option Cell) : Option Ty := match o with | some (.list _) => some .lst | some (.dK _) => some .dct | some (.dT _) => some .dct | _ => none
def lmK (f : LmF) (As : DenL) (env : En) (d : D) (s : Sto) : Rs D := match d with
  | .loc i => optB (lstAt s[i]?) fun _ => (As env s).bind fun args s => optB (lstAt s[i]?) fun l => optB (f s l args) fun q => .ok q.1 (s.set i (.list q.2))
  | _ => .bad
def seqK (r : Fl) (f : DenS) : Fl := match r with | .nx env st => f env st | r => r
def asgK (o : Option En) (s : Sto) : Fl := match o with | some env' => .nx env' s | none => .bad
def runK (r : Fl) : Rs D := match r with | .nx _ s => .ok .non s | .rt d s => .ok d s | .exc c _ s => .exc c s | _ => .bad
def fldK (f : Str) (y : D) (env : En) (d : D) (s : Sto) : Fl := match d with
  | .loc i => match insAt s[i]? with
    | some (c, fs) => match ixOf f (nms c) with
      | some j => if Nat.blt j fs.length then .nx env (s.set i (.inst c (fs.set j y))) else if Nat.beq j fs.length then .nx env (s.set i (.inst c (fs ++ [y]))) else .bad
      | none => .bad
    | none => .bad
  | _ => .bad
def allB (l : List Bool) : Bool := l.all id
def anyB (l : List Bool) : Bool := l.any id
def setK (y : D) (env : En) (d k : D) (s : Sto) : Fl := match d, k with
  | .loc i, .int z => match lstAt s[i]? with
    | some l => match ixN l.length z with
      | some j => .nx env (s.set i (.list (l.set j y)))
      | none => .bad
    | none => .bad
  | _, _ => .bad
def tupK (d : D) (s : Sto) : Rs Itm := match d with | .tup l => .ok (l, fun _ => true) s | _ => .bad
def rng1K (l : List D) (s : Sto) : Rs Itm := match l with
  | [.int j] => if decide (-(2 ^ 62) ≤ j) && decide (j < 2 ^ 62) then .ok (rngD 0 j.toNat, fun _ => true) s else .bad
  | _ => .bad
def rng2K (l : List D) (s : Sto) : Rs Itm := match l with
  | [.int i, .int j] => if decide (-(2 ^ 62) ≤ i) && decide (i < 2 ^ 62) && decide (-(2 ^ 62) ≤ j) && decide (j < 2 ^ 62) then .ok (rngD i (j - i).toNat, fun _ => true) s else .bad
  | _ => .bad
def enumK (l : List D) (s : Sto) : Rs Itm := match l with
  | [d] => match getL s d with | some l => .ok (zipIx 0 l, keepL d l) s | none => .bad
  | _ => .bad
def zipK (l : List D) (s : Sto) : Rs Itm := match l with
  | [d, e] => match getL s d, getL s e with
    | some l, some m => .ok (zipD l m, fun s => keepL d l s && keepL e m s) s
    | _, _ => .bad
  | _ => .bad
section
variable {α β : Type} {env : En} {st s : Sto}
@[simp] theorem getV_some (d : D) : getV (some (some d)) st = .ok d st := (rfl)
@[simp] theorem optB_some (a : α) (f : α → Rs β) : optB (some a) f = f a := (rfl)
@[simp] theorem tstK_bl (b : Bool) : tstK (.bl b) s = .ok b s := (rfl)
@[simp] theorem chK_bl (g : D → D → Sto → Rs D) (C : Den) (y : D) (b : Bool) : chK g C env y (.bl b) s = if b then (C env s).bind fun u s => noX (g y u s) else .ok (.bl false) s := by cases b <;> rfl
@[simp] theorem andK_bl (B : Den) (b : Bool) : andK B env (.bl b) s = if b then B env s else .ok (.bl false) s := by cases b <;> rfl
@[simp] theorem orK_bl (B : Den) (b : Bool) : orK B env (.bl b) s = if b then .ok (.bl true) s else B env s := by cases b <;> rfl
@[simp] theorem notK_bl (b : Bool) : notK (.bl b) s = .ok (.bl (!b)) s := (rfl)
@[simp] theorem intK_int (i : Int) : intK (.int i) s = .ok (some i) s := (rfl)
@[simp] theorem mkK_ok (n : Nat) : mkK n (.ok .non s) = .ok (.loc n) s := (rfl)
@[simp] theorem mkK_exc (n c : Nat) : mkK n (.exc c s) = .exc c s := (rfl)
@[simp] theorem lstAt_list (l : List D) : lstAt (some (.list l)) = some l := (rfl)
@[simp] theorem insAt_inst (c : Nat) (l : List D) : insAt (some (.inst c l)) = some (c, l) := (rfl)
@[simp] theorem tyAt_list (l : List D) : tyAt (some (.list l)) = some .lst := (rfl)
@[simp] theorem lmK_loc (f : LmF) (As : DenL) (i : Nat) : lmK f As env (.loc i) s = optB (lstAt s[i]?) fun _ => (As env s).bind fun args s => optB (lstAt s[i]?) fun l => optB (f s l args) fun q => .ok q.1 (s.set i (.list q.2)) := (rfl)
@[simp] theorem seqK_nx (f : DenS) : seqK (.nx env s) f = f env s := (rfl)
@[simp] theorem seqK_rt (f : DenS) (d : D) : seqK (.rt d s) f = .rt d s := (rfl)
@[simp] theorem seqK_exc (f : DenS) (c : Nat) : seqK (.exc c env s) f = .exc c env s := (rfl)
@[simp] theorem seqK_bk (f : DenS) : seqK (.bk env s) f = .bk env s := (rfl)
@[simp] theorem seqK_ct (f : DenS) : seqK (.ct env s) f = .ct env s := (rfl)
@[simp] theorem asgK_some : asgK (some env) s = .nx env s := (rfl)
@[simp] theorem runK_nx : runK (.nx env s) = .ok .non s := (rfl)
@[simp] theorem runK_rt (d : D) : runK (.rt d s) = .ok d s := (rfl)
@[simp] theorem runK_exc (c : Nat) : runK (.exc c env s) = .exc c s := (rfl)
@[simp] theorem tupK_tup (l : List D) : tupK (.tup l) s = .ok (l, fun _ => true) s := (rfl)
@[simp] theorem rng1K_int (j : Int) : rng1K [.int j] s = if decide (-4611686018427387904 ≤ j) && decide (j < 4611686018427387904) then .ok (rngD 0 j.toNat, fun _ => true) s else .bad := (rfl)
@[simp] theorem rng2K_int (i j : Int) : rng2K [.int i, .int j] s = if decide (-4611686018427387904 ≤ i) && decide (i < 4611686018427387904) && decide (-4611686018427387904 ≤ j) && decide (j < 4611686018427387904) then .ok (rngD i (j - i).toNat, fun _ => true) s else .bad := (rfl)
def itmOf (s : Sto) (o : Option (List D)) (f : List D → Itm) : Rs Itm := match o with | some l => .ok (f l) s | none => .bad
@[simp] theorem itmOf_some (l : List D) (f : List D → Itm) : itmOf s (some l) f = .ok (f l) s := (rfl)
@[simp] theorem enumK_ap (d : D) : enumK [d] s = itmOf s (getL s d) fun l => (zipIx 0 l, keepL d l) := by cases h : getL s d <;> simp [enumK, itmOf, h]
@[simp] theorem zipK_ap (d e : D) : zipK [d, e] s = match getL s d, getL s e with
    | some l, some m => (.ok (zipD l m, fun s => keepL d l s && keepL e m s) s : Rs Itm)
    | _, _ => .bad := (rfl)
@[simp] theorem fldK_loc (f : Str) (y : D) (i : Nat) : fldK f y env (.loc i) s = match insAt s[i]? with
    | some (c, fs) => match ixOf f (nms c) with
      | some j => if Nat.blt j fs.length then .nx env (s.set i (.inst c (fs.set j y))) else if Nat.beq j fs.length then .nx env (s.set i (.inst c (fs ++ [y]))) else .bad
      | none => .bad
    | none => .bad := (rfl)
@[simp] theorem setK_loc (y : D) (i : Nat) (z : Int) : setK y env (.loc i) (.int z) s = match lstAt s[i]? with
    | some l => match ixN l.length z with
      | some j => .nx env (s.set i (.list (l.set j y)))
      | none => .bad
    | none => .bad := (rfl)
end
section
variable {α β : Type} {env : En} {st s : Sto} {A B C : Den} {As : DenL} {P R : DenB} {S1 S2 : DenS} {f g : D → D → Sto → Rs D}
@[simp] theorem bind_ok (a : α) (f : α → Sto → Rs β) : (Rs.ok a st).bind f = f a st := (rfl)
@[simp] theorem bind_exc (c : Nat) (f : α → Sto → Rs β) : (Rs.exc c st : Rs α).bind f = .exc c st := (rfl)
@[simp] theorem noX_ok (a : α) : noX (Rs.ok a st) = .ok a st := (rfl)
@[simp] theorem then_ok (a : α) (f : α → Sto → Fl) : (Rs.ok a st).then env f = f a st := (rfl)
@[simp] theorem then_exc (c : Nat) (f : α → Sto → Fl) : (Rs.exc c st : Rs α).then env f = .exc c env st := (rfl)
@[simp] theorem dVar_ap (i : Nat) : dVar i env st = getV env[i]? st := (rfl)
@[simp] theorem dC_ap (d : D) : dC d env st = .ok d st := (rfl)
@[simp] theorem dOp_ap : dOp f A B env st = (A env st).bind fun x s => (B env s).bind fun y s => noX (f x y s) := (rfl)
@[simp] theorem dUn_ap (f : D → Sto → Rs D) : dUn f A env st = (A env st).bind fun x s => noX (f x s) := (rfl)
@[simp] theorem dTest_ap : dTest A env st = (A env st).bind fun d s => tstK d s := (rfl)
@[simp] theorem dChain_ap : dChain f g A B C env st = (A env st).bind fun x s => (B env s).bind fun y s => (noX (f x y s)).bind fun z s => chK g C env y z s := (rfl)
@[simp] theorem bAnd_ap : bAnd P R env st = (P env st).bind fun b s => if b then R env s else .ok false s := (rfl)
@[simp] theorem bOr_ap : bOr P R env st = (P env st).bind fun b s => if b then .ok true s else R env s := (rfl)
@[simp] theorem bNot_ap : bNot P env st = (P env st).bind fun b s => .ok (!b) s := (rfl)
@[simp] theorem dAnd_ap : dAnd A B env st = (A env st).bind fun d s => andK B env d s := (rfl)
@[simp] theorem dOr_ap : dOr A B env st = (A env st).bind fun d s => orK B env d s := (rfl)
@[simp] theorem dNot_ap : dNot A env st = (A env st).bind fun d s => notK d s := (rfl)
@[simp] theorem dIf_ap : dIf P A B env st = (P env st).bind fun b s => if b then A env s else B env s := (rfl)
@[simp] theorem aNil_ap : aNil env st = .ok [] st := (rfl)
@[simp] theorem aCons_ap : aCons A As env st = (A env st).bind fun x s => (As env s).bind fun l s => .ok (x :: l) s := (rfl)
@[simp] theorem dTup_ap : dTup As env st = (As env st).bind fun l s => if szOk l.length then .ok (.tup l) s else .bad := (rfl)
@[simp] theorem lLst_ap : lLst As env st = (As env st).bind fun l s => if szOk l.length then .ok l s else .bad := (rfl)
@[simp] theorem dDat_ap : dDat As env st = (As env st).bind fun l s => .ok (.lst l) s := (rfl)
@[simp] theorem dCel_ap : dCel As env st = (As env st).bind fun l s => .ok (.loc s.length) (s ++ [.list l]) := (rfl)
@[simp] theorem lCat_ap : lCat A B env st = (A env st).bind fun x s => (B env s).bind fun y s => optB (getM s x) fun l => optB (getM s y) fun m => if szOk (l.length + m.length) then .ok (l ++ m) s else .bad := by
  unfold lCat optB
  congr
  funext x s
  congr
  funext y s
  cases getM s x <;> cases getM s y <;> rfl
@[simp] theorem dCall_ap (f : List D → Sto → Rs D) : dCall f As env st = (As env st).bind fun l s => noX (f l s) := (rfl)
@[simp] theorem lCall_ap (f : List D → Sto → Option (List D)) : lCall f As env st = (As env st).bind fun l s => optB (f l s) fun m => .ok m s := by
  unfold lCall optB
  congr
  funext l s
  cases f l s <;> rfl
@[simp] theorem oNone_ap : oNone env st = .ok none st := (rfl)
@[simp] theorem oSome_ap : oSome A env st = (A env st).bind fun d s => intK d s := (rfl)
@[simp] theorem dSl_ap (L U : DenO) : dSl A L U env st = (A env st).bind fun x s => (L env s).bind fun lo s => (U env s).bind fun hi s => fSl x lo hi s := (rfl)
@[simp] theorem lSl_ap (L U : DenO) : lSl A L U env st = (A env st).bind fun x s => (L env s).bind fun lo s => (U env s).bind fun hi s => optB (getL s x) fun l => .ok (cutD l lo hi) s := by
  unfold lSl optB
  congr
  funext x s
  congr
  funext lo s
  congr
  funext hi s
  cases getL s x <;> rfl
@[simp] theorem lRev_ap : lRev A env st = (A env st).bind fun d s => optB (getL s d) fun l => .ok l.reverse s := by
  unfold lRev optB
  congr
  funext d s
  cases getL s d <;> rfl
@[simp] theorem dLenSet_ap : dLenSet A env st = (A env st).bind fun d s => optB ((getL s d).bind intsOf) fun ns => if Nat.ble ns.length 4000 then .ok (.int (nDist ns : Nat)) s else .bad := by
  unfold dLenSet optB
  congr
  funext d s
  cases (getL s d).bind intsOf <;> rfl
@[simp] theorem dIsB_ap (t : Ty) : dIsB t A env st = (A env st).bind fun d s => optB (tyD s d) fun u => .ok (.bl (u.sub t)) s := by
  unfold dIsB optB
  congr
  funext d s
  cases tyD s d <;> rfl
@[simp] theorem dIsC_ap (cs : List Nat) (c : Nat) : dIsC cs c A env st = (A env st).bind fun d s => optB (clsD s d) fun u => if cs.contains u then .ok (.bl (subC u c)) s else .bad := by
  unfold dIsC optB
  congr
  funext d s
  cases clsD s d <;> rfl
@[simp] theorem dFn_ap (n : Nat) (d : DenF) : dFn n d As env st = (As env st).bind fun l s => if Nat.beq l.length n then d l s else .bad := (rfl)
@[simp] theorem dMeth_ap (ms : Mths) : dMeth ms A As env st = (A env st).bind fun x s => optB ((clsD s x).bind ms) fun q => (As env s).bind fun l s => if Nat.beq (l.length + 1) q.1 then q.2 (x :: l) s else .bad := by
  unfold dMeth optB
  congr
  funext x s
  cases (clsD s x).bind ms <;> rfl
@[simp] theorem dMk0_ap (c : Nat) : dMk0 c env st = .ok (.ins c []) st := (rfl)
@[simp] theorem dMk_ap (c n : Nat) (d : DenF) : dMk c n d As env st = (As env st).bind fun l s => if Nat.beq (l.length + 1) n then mkK s.length (d (.loc s.length :: l) (s ++ [.inst c []])) else .bad := (rfl)
@[simp] theorem dFld_ap (f : Str) : dFld f A env st = (A env st).bind fun d s => optB (insD s d) fun q => optB ((ixOf f (nms q.1)).bind fun i => q.2[i]?) fun x => .ok x s := by
  unfold dFld optB
  congr
  funext d s
  cases insD s d with
  | none => rfl
  | some q =>
    obtain ⟨c, fs⟩ := q
    cases h2 : (ixOf f (nms c)).bind fun i => fs[i]? <;> simp [h2]
@[simp] theorem dLm_ap (f : LmF) : dLm f A As env st = (A env st).bind fun d s => lmK f As env d s := by
  unfold dLm
  congr
  funext d s
  unfold lmK
  cases d with
  | loc i =>
    cases h : s[i]? with
    | none => simp [h, lstAt, optB]
    | some c =>
      cases c with
      | list l =>
        simp only [h, lstAt_list, optB_some]
        congr
        funext args s2
        cases h2 : s2[i]? with
        | none => simp [lstAt, optB]
        | some c => cases c with
          | list m =>
            simp only [lstAt_list, optB_some]
            cases f s2 m args <;> rfl
          | _ => simp [lstAt, optB]
      | _ => simp [h, lstAt, optB]
  | _ => rfl
@[simp] theorem sNil_ap : sNil env st = .nx env st := (rfl)
@[simp] theorem sSeq_ap : sSeq S1 S2 env st = seqK (S1 env st) S2 := (rfl)
@[simp] theorem sExpr_ap : sExpr A env st = (A env st).then env fun _ s => .nx env s := (rfl)
@[simp] theorem sRet_ap : sRet A env st = (A env st).then env fun d s => .rt d s := (rfl)
@[simp] theorem sIf_ap : sIf P S1 S2 env st = (P env st).then env fun b s => if b then S1 env s else S2 env s := (rfl)
@[simp] theorem gVar_ap (i : Nat) (d : D) : gVar i d env = some (env.set i (some d)) := (rfl)
@[simp] theorem gVars_nil : gVars [] [] env = some env := (rfl)
@[simp] theorem gVars_cons (i : Nat) (is : List Nat) (d : D) (ds : List D) : gVars (i :: is) (d :: ds) env = gVars is ds (env.set i (some d)) := (rfl)
@[simp] theorem gTupV_ap (is : List Nat) (ds : List D) : gTupV is (.tup ds) env = gVars is ds env := (rfl)
@[simp] theorem sAsg_ap (g : DenG) : sAsg g A env st = (A env st).then env fun d s => asgK (g d env) s := (rfl)
@[simp] theorem sPar_ap (is : List Nat) : sPar is As env st = (As env st).then env fun ds s => asgK (gVars is ds env) s := (rfl)
@[simp] theorem sFldD_ap (f : Str) : sFldD f A B env st = (B env st).then env fun y s => (A env s).then env fun d s => fldK f y env d s := by
  unfold sFldD
  congr
  funext y s
  congr
  funext d s
  unfold fldK
  cases d with
  | loc i => cases h : s[i]? with
    | none => simp [h, insAt]
    | some c => cases c with
      | inst c fs => (simp only [h, insAt_inst]) <;> (cases ixOf f (nms c) <;> rfl)
      | _ => simp [h, insAt]
  | _ => rfl
@[simp] theorem sSetL_ap (I : Den) : sSetL A I B env st = (B env st).then env fun y s => (A env s).then env fun d s => (I env s).then env fun k s => setK y env d k s := by
  unfold sSetL
  congr
  funext y s
  congr
  funext d s
  congr
  funext k s
  unfold setK
  cases d with
  | loc i => cases k with
    | int z => cases h : s[i]? with
      | none => simp [h, lstAt]
      | some c => cases c with
        | list l => (simp only [h, lstAt_list]) <;> (cases ixN l.length z <;> rfl)
        | _ => simp [h, lstAt]
    | _ => rfl
  | _ => rfl
@[simp] theorem sRaise_ap (c : Nat) : sRaise c env st = .exc c env st := (rfl)
@[simp] theorem sFor_ap (I : DenI) (g : DenG) : sFor I g S1 env st = (I env st).then env fun I s => forIt I.2 g S1 I.1 env s := (rfl)
@[simp] theorem lLc_ap (I : DenI) (vs : List Nat) (g : DenG) : lLc I vs g P A env st = (I env st).bind fun I s => lcIt I.2 vs g P A env I.1 [] s := (rfl)
@[simp] theorem bYes_ap : bYes env st = .ok true st := (rfl)
@[simp] theorem iLst_ap : iLst A env st = (A env st).bind fun d s => itmOf s (getL s d) fun l => (l, keepL d l) := by
  unfold iLst itmOf
  congr
@[simp] theorem iTupD_ap : iTupD A env st = (A env st).bind fun d s => tupK d s := (rfl)
@[simp] theorem iRng1D_ap : iRng1D As env st = (As env st).bind fun l s => rng1K l s := (rfl)
@[simp] theorem iRng2D_ap : iRng2D As env st = (As env st).bind fun l s => rng2K l s := (rfl)
@[simp] theorem iEnumD_ap : iEnumD As env st = (As env st).bind fun l s => enumK l s := (rfl)
@[simp] theorem iZipD_ap : iZipD As env st = (As env st).bind fun l s => zipK l s := (rfl)
theorem run_ap (n : Nat) (B : DenS) (ds : List D) : run n B ds st = runK (B (ds.map some ++ List.replicate (n - ds.length) none) st) := (rfl)
theorem pureF_ap (f : DenF) (ds : List D) : pureF f ds st = leave st (f ds st) := (rfl)
@[simp] theorem dPure_ap : dPure A env st = leave st (A env st) := (rfl)
end
section
variable {st : Sto} (i j : Int) (l m : List D) (a b : Bool) (x y : Str)
@[simp] theorem fAdd_int : fAdd (.int i) (.int j) st = .ok (.int (i + j)) st := (rfl)
@[simp] theorem fAdd_tup : fAdd (.tup l) (.tup m) st = if !l.isEmpty && !m.isEmpty && szOk (l.length + m.length) then .ok (.tup (l ++ m)) st else .bad := (rfl)
@[simp] theorem fAdd_lst : fAdd (.lst l) (.lst m) st = if szOk (l.length + m.length) then .ok (.lst (l ++ m)) st else .bad := (rfl)
theorem fAdd_loc (n : Nat) : fAdd (.loc n) (.lst m) st = optB (lstAt st[n]?) fun l => if szOk (l.length + m.length) then .ok (.lst (l ++ m)) st else .bad := by
  cases h : st[n]? with
  | none => simp [fAdd, getM, h, optB, lstAt]
  | some c => cases c <;> simp [fAdd, getM, h, optB, lstAt]
@[simp] theorem fSub_int : fSub (.int i) (.int j) st = .ok (.int (i - j)) st := (rfl)
@[simp] theorem fMul_int : fMul (.int i) (.int j) st = if MulOk i j then .ok (.int (i * j)) st else .bad := (rfl)
@[simp] theorem fMul_lst : fMul (.lst l) (.int j) st = if decide (-9223372036854775808 ≤ j) && decide (j < 9223372036854775808) && szOk (l.length * j.toNat) then .ok (.lst (List.replicate j.toNat l).flatten) st else .bad := (rfl)
theorem fDiv_int : fDiv (.int i) (.int j) st = if decide (0 < j) && decide (j.natAbs.log2 < 9000) then .ok (.int (i / j)) st else .bad := (rfl)
@[simp] theorem fMod_int : fMod (.int i) (.int j) st = if decide (0 < j) then .ok (.int (i % j)) st else .bad := (rfl)
@[simp] theorem fPow_int : fPow (.int i) (.int j) st = if decide (0 ≤ j) && decide (j ≤ 1000000) && decide (i.natAbs < 18446744073709551616) then .ok (.int (i ^ j.toNat)) st else .bad := (rfl)
@[simp] theorem fNeg_int : fNeg (.int i) st = .ok (.int (-i)) st := (rfl)
@[simp] theorem fLt_int : fLt (.int i) (.int j) st = .ok (.bl (decide (i < j))) st := (rfl)
@[simp] theorem fLe_int : fLe (.int i) (.int j) st = .ok (.bl (decide (i ≤ j))) st := (rfl)
@[simp] theorem fGt_int : fGt (.int i) (.int j) st = .ok (.bl (decide (j < i))) st := (rfl)
@[simp] theorem fGe_int : fGe (.int i) (.int j) st = .ok (.bl (decide (j ≤ i))) st := (rfl)
@[simp] theorem fEq_int : fEq (.int i) (.int j) st = .ok (.bl (decide (i = j))) st := by
  show (Rs.ok (D.bl (i == j)) st : Rs D) = _
  rw [show (i == j) = decide (i = j) from rfl]
@[simp] theorem fNe_int : fNe (.int i) (.int j) st = .ok (.bl (!decide (i = j))) st := by
  show (Rs.ok (D.bl (!(i == j))) st : Rs D) = _
  rw [show (i == j) = decide (i = j) from rfl]
@[simp] theorem fIs_bl : fIs (.bl a) (.bl b) st = .ok (.bl (decide (a = b))) st := (rfl)
@[simp] theorem fIsNot_bl : fIsNot (.bl a) (.bl b) st = .ok (.bl (!decide (a = b))) st := (rfl)
@[simp] theorem fIsN_ap (d : D) : fIsN d .non st = .ok (.bl d.isNon) st := (rfl)
@[simp] theorem fNotN_ap (d : D) : fNotN d .non st = .ok (.bl (!d.isNon)) st := (rfl)
@[simp] theorem fLen_ap (d : D) : fLen [d] st = optB (getS st d) fun l => .ok (.int (l.length : Int)) st := by cases h : getS st d <;> simp [fLen, optB, h]
@[simp] theorem fAbs_ap : fAbs [.int i] st = .ok (.int (if i < 0 then -i else i)) st := (rfl)
@[simp] theorem fMin2_ap : fMin2 [.int i, .int j] st = .ok (.int (if j < i then j else i)) st := (rfl)
@[simp] theorem fMax2_ap : fMax2 [.int i, .int j] st = .ok (.int (if j > i then j else i)) st := (rfl)
@[simp] theorem fSum_ap (d : D) : fSum [d] st = optB ((getL st d).bind intsOf) fun ns => .ok (.int ns.sum) st := by cases h : (getL st d).bind intsOf <;> simp [fSum, optB, h]
@[simp] theorem fAll_ap (d : D) : fAll [d] st = optB ((getL st d).bind blsOf) fun bs => .ok (.bl (allB bs)) st := by cases h : (getL st d).bind blsOf <;> simp [fAll, optB, h, allB]
@[simp] theorem fAny_ap (d : D) : fAny [d] st = optB ((getL st d).bind blsOf) fun bs => .ok (.bl (anyB bs)) st := by cases h : (getL st d).bind blsOf <;> simp [fAny, optB, h, anyB]
@[simp] theorem gList_ap (d : D) : gList [d] st = getS st d := (rfl)
@[simp] theorem fIx_ap (d : D) : fIx d (.int j) st = optB (getS st d) fun l => optB (atI l j) fun d => .ok d st := by
  cases h : getS st d with
  | none => simp [fIx, optB, h]
  | some l => cases h2 : atI l j <;> simp [fIx, optB, h, h2]
def srtK (o : Option (List D)) : Option (List D) := match o with | some l => if sortOk l then some (isort leD l) else none | none => none
theorem srtK_some {l : List D} (h : sortOk l = true) : srtK (some l) = some (isort leD l) := if_pos h
@[simp] theorem gSorted_ap (d : D) : gSorted [d] st = srtK (getL st d) := by cases h : getL st d <;> simp [gSorted, srtK, h]
@[simp] theorem getL_lst : getL st (.lst l) = some l := (rfl)
@[simp] theorem getL_scr : getL st (.scr l) = some l := (rfl)
@[simp] theorem getL_loc (n : Nat) : getL st (.loc n) = lstAt st[n]? := (rfl)
@[simp] theorem getM_lst : getM st (.lst l) = some l := (rfl)
@[simp] theorem getM_loc (n : Nat) : getM st (.loc n) = lstAt st[n]? := (rfl)
@[simp] theorem getS_tup : getS st (.tup l) = some l := (rfl)
@[simp] theorem getS_lst : getS st (.lst l) = some l := (rfl)
@[simp] theorem getS_scr : getS st (.scr l) = some l := (rfl)
@[simp] theorem getS_loc (n : Nat) : getS st (.loc n) = lstAt st[n]? := (rfl)
@[simp] theorem fSl_lst (lo hi : Option Int) : fSl (.lst l) lo hi st = .ok (.lst (cutD l lo hi)) st := (rfl)
@[simp] theorem fSl_scr (lo hi : Option Int) : fSl (.scr l) lo hi st = .ok (.lst (cutD l lo hi)) st := (rfl)
@[simp] theorem fSl_loc (n : Nat) (lo hi : Option Int) : fSl (.loc n) lo hi st = optB (lstAt st[n]?) fun l => .ok (.lst (cutD l lo hi)) st := by
  show (match getL st (.loc n) with | some l => _ | none => _) = _
  rw [getL_loc]
  cases lstAt st[n]? <;> rfl
@[simp] theorem insD_ins (c : Nat) : insD st (.ins c l) = some (c, l) := (rfl)
@[simp] theorem insD_loc (n : Nat) : insD st (.loc n) = insAt st[n]? := (rfl)
@[simp] theorem clsD_ins (c : Nat) : clsD st (.ins c l) = some c := (rfl)
@[simp] theorem clsD_loc (n : Nat) : clsD st (.loc n) = (insAt st[n]?).map (·.1) := by
  unfold clsD insAt
  cases h : st[n]? with
  | none => simp [h]
  | some c => cases c <;> simp [h]
@[simp] theorem keepL_lst : keepL (.lst l) m = fun _ => true := (rfl)
@[simp] theorem keepL_scr : keepL (.scr l) m = fun _ => true := (rfl)
theorem keepL_loc (n : Nat) : keepL (.loc n) l st = match getL st (.loc n) with | some m => D.beqs l m | none => false := (rfl)
@[simp] theorem tyD_non : tyD st .non = some .non := (rfl)
@[simp] theorem tyD_bl : tyD st (.bl a) = some .bool := (rfl)
@[simp] theorem tyD_int : tyD st (.int i) = some .int := (rfl)
@[simp] theorem tyD_str : tyD st (.str x) = some .str := (rfl)
@[simp] theorem tyD_tup : tyD st (.tup l) = some .tup := (rfl)
@[simp] theorem tyD_lst : tyD st (.lst l) = some .lst := (rfl)
@[simp] theorem tyD_scr : tyD st (.scr l) = some .lst := (rfl)
@[simp] theorem tyD_loc (n : Nat) : tyD st (.loc n) = tyAt st[n]? := (rfl)
@[simp] theorem mAppend_ap (d : D) : mAppend st l [d] = if szOk (l.length + 1) then some (.non, l ++ [d]) else none := (rfl)
def extK (l : List D) (o : Option (List D)) : Option (D × List D) := match o with | some m => if szOk (l.length + m.length) then some (.non, l ++ m) else none | none => none
@[simp] theorem extK_some : extK l (some m) = if szOk (l.length + m.length) then some (.non, l ++ m) else none := (rfl)
@[simp] theorem mExtend_ap (d : D) : mExtend st l [d] = extK l (getM st d) := by cases h : getM st d <;> simp [mExtend, extK, h]
end
/-! ### the same -/
@[simp] theorem stB_refl (s : Sto) : stBeq s s = true := stBeq_refl s
@[simp] theorem dB_refl (l : List D) : D.beqs l l = true := D.beqs_refl l
@[simp] theorem caps_nil (n : Nat) : D.caps n [] = true := (rfl)
@[simp] theorem caps_cons (n : Nat) (x : D) (l : List D) : D.caps n (x :: l) = (x.cap n && D.caps n l) := (rfl)
@[simp] theorem cap_non (n : Nat) : D.cap n .non = true := (rfl)
@[simp] theorem cap_bl (n : Nat) (b : Bool) : D.cap n (.bl b) = true := (rfl)
@[simp] theorem cap_int (n : Nat) (b : Int) : D.cap n (.int b) = true := (rfl)
@[simp] theorem cap_str (n : Nat) (b : Str) : D.cap n (.str b) = true := (rfl)
@[simp] theorem cap_tup (n : Nat) (l : List D) : D.cap n (.tup l) = D.caps n l := (rfl)
@[simp] theorem cap_lst (n : Nat) (l : List D) : D.cap n (.lst l) = D.caps n l := (rfl)
@[simp] theorem cap_ins (n c : Nat) (l : List D) : D.cap n (.ins c l) = D.caps n l := (rfl)
theorem caps_map {α : Type} {e : α → D} {n : Nat} : ∀ {l : List α}, (∀ x ∈ l, (e x).cap n = true) → D.caps n (l.map e) = true
  | [], _ => rfl
  | x :: r, h => by
    rw [List.map_cons, caps_cons, h x (List.mem_cons_self ..), caps_map fun y hy => h y (List.mem_cons_of_mem _ hy)]
    rfl
@[simp] theorem caps_ints (n : Nat) (l : List Int) : D.caps n (l.map .int) = true := caps_map fun _ _ => rfl
/-! leaving a def: an own list, a value of no cell -/
theorem leave_ok {d : D} {st s : Sto} (hc : d.cap st.length = true) (hn : ∀ i, d ≠ .loc i) : leave st (.ok d (st ++ s)) = .ok d st := by
  have hf : frzD st.length (st ++ s) d = some d := by
    cases d <;> first | exact (absurd rfl (hn _)) | (simp only [frzD, hc, if_true])
  show (match frzD st.length (st ++ s) d with | some d' => _ | none => _) = _
  rw [hf]
  simp
theorem leave_ok0 {d : D} {st : Sto} (hc : d.cap st.length = true) (hn : ∀ i, d ≠ .loc i) : leave st (.ok d st) = .ok d st := by
  have h := leave_ok (s := []) hc hn
  rwa [List.append_nil] at h
theorem leave_list {n : Nat} {st s : Sto} {l : List D} (hn : st.length ≤ n) (h : (st ++ s)[n]? = some (.list l)) (hc : D.caps st.length l = true) : leave st (.ok (.loc n) (st ++ s)) = .ok (.lst l) st := by
  have hf : frzD st.length (st ++ s) (.loc n) = some (.lst l) := by
    show (if Nat.blt n st.length then _ else _) = _
    rw [if_neg (by rw [Nat.blt_eq]; omega), h]
    show (if _ then _ else _) = _
    rw [if_pos hc]
  show (match frzD st.length (st ++ s) (.loc n) with | some d' => _ | none => _) = _
  rw [hf]
  simp
@[simp] theorem leave_bl (b : Bool) (st s : Sto) : leave st (.ok (.bl b) (st ++ s)) = .ok (.bl b) st := leave_ok rfl nofun
@[simp] theorem leave_int (b : Int) (st s : Sto) : leave st (.ok (.int b) (st ++ s)) = .ok (.int b) st := leave_ok rfl nofun
@[simp] theorem leave_non (st s : Sto) : leave st (.ok .non (st ++ s)) = .ok .non st := leave_ok rfl nofun
@[simp] theorem leave_str (b : Str) (st s : Sto) : leave st (.ok (.str b) (st ++ s)) = .ok (.str b) st := leave_ok rfl nofun
@[simp] theorem leave_bl0 (b : Bool) (st : Sto) : leave st (.ok (.bl b) st) = .ok (.bl b) st := leave_ok0 rfl nofun
@[simp] theorem leave_int0 (b : Int) (st : Sto) : leave st (.ok (.int b) st) = .ok (.int b) st := leave_ok0 rfl nofun
@[simp] theorem leave_non0 (st : Sto) : leave st (.ok .non st) = .ok .non st := leave_ok0 rfl nofun
@[simp] theorem leave_str0 (b : Str) (st : Sto) : leave st (.ok (.str b) st) = .ok (.str b) st := leave_ok0 rfl nofun
/-! ### numbers, sizes -/
@[simp] theorem szOk_iff {n : Nat} : szOk n = true ↔ n ≤ 16777216 := ⟨fun h => Nat.le_of_ble_eq_true h, szOk_of⟩
theorem log2_lt {n a : Nat} (h : n < 2 ^ a) (ha : 0 < a) : n.log2 < a := by
  by_cases h0 : n = 0
  · subst h0
    exact ha
  · exact (Nat.log2_lt h0).mpr h
theorem mulOk_of {i j : Int} (a b : Nat) (hi : i.natAbs < 2 ^ a) (hj : j.natAbs < 2 ^ b) (h : a + b ≤ 100000000) (ha : 0 < a := by decide) (hb : 0 < b := by decide) : MulOk i j = true := by
  have h1 := log2_lt hi ha
  have h2 := log2_lt hj hb
  exact decide_eq_true (by omega)
@[simp] theorem intsOf_ints : ∀ l : List Int, intsOf (l.map D.int) = some l
  | [] => rfl
  | x :: r => by
    show (intsOf (r.map D.int)).map (x :: ·) = _
    rw [intsOf_ints r]
    rfl
@[simp] theorem blsOf_bls : ∀ l : List Bool, blsOf (l.map D.bl) = some l
  | [] => rfl
  | x :: r => by
    show (blsOf (r.map D.bl)).map (x :: ·) = _
    rw [blsOf_bls r]
    rfl
/-! ### a comprehension -/
theorem lc_go {α : Type} {keep : Sto → Bool} {vs : List Nat} {g : DenG} {P : DenB} {A : Den} {env : En} {st : Sto} {enc : α → D} (p : α → Bool) (f : α → D) (hk : keep st = true) : ∀ (xs : List α) (acc : List D),
    (∀ x ∈ xs, ∃ e1, g (enc x) (wipeE env vs) = some e1 ∧ P e1 st = .ok (p x) st ∧ (p x = true → A e1 st = .ok (f x) st)) → acc.length + xs.length ≤ 16777216 →
    lcIt keep vs g P A env (xs.map enc) acc st = .ok (acc ++ (xs.filter p).map f) st
  | [], acc, _, _ => by
    show (if keep st then _ else _) = _
    rw [if_pos hk]
    simp
  | x :: r, acc, h, hl => by
    obtain ⟨e1, h1, h2, h3⟩ := h x (List.mem_cons_self ..)
    show (if keep st then _ else _) = _
    rw [if_pos hk, h1]
    show (noX (P e1 st)).bind _ = _
    rw [h2]
    simp only [noX_ok, bind_ok]
    have hr : ∀ y ∈ r, _ := fun y hy => h y (List.mem_cons_of_mem _ hy)
    rw [List.length_cons] at hl
    cases hp : p x with
    | true =>
      rw [if_pos rfl, h3 hp]
      simp only [noX_ok, bind_ok]
      rw [if_pos (szOk_of (by omega)), lc_go p f hk r (acc ++ [f x]) hr (by rw [List.length_append, List.length_singleton]; omega)]
      simp [List.filter_cons, hp]
    | false =>
      rw [if_neg Bool.false_ne_true, lc_go p f hk r acc hr (by omega)]
      simp [List.filter_cons, hp]
theorem lc_map {α : Type} {keep : Sto → Bool} {vs : List Nat} {g : DenG} {A : Den} {env : En} {st : Sto} {enc : α → D} (f : α → D) (xs : List α)
    (h : ∀ x ∈ xs, ∃ e1, g (enc x) (wipeE env vs) = some e1 ∧ A e1 st = .ok (f x) st) (hl : xs.length ≤ 16777216) (hk : keep st = true) :
    lcIt keep vs g bYes A env (xs.map enc) [] st = .ok (xs.map f) st := by
  rw [lc_go (fun _ => true) f hk xs [] (fun x hx => by obtain ⟨e1, h1, h2⟩ := h x hx; exact ⟨e1, h1, rfl, fun _ => h2⟩) (by simpa using hl)]
  rw [List.filter_eq_self.mpr fun _ _ => rfl]
  rfl
theorem lc_filter {α : Type} {keep : Sto → Bool} {vs : List Nat} {g : DenG} {P : DenB} {A : Den} {env : En} {st : Sto} {enc : α → D} (p : α → Bool) (f : α → D) (xs : List α)
    (h : ∀ x ∈ xs, ∃ e1, g (enc x) (wipeE env vs) = some e1 ∧ P e1 st = .ok (p x) st ∧ (p x = true → A e1 st = .ok (f x) st)) (hl : xs.length ≤ 16777216) (hk : keep st = true) :
    lcIt keep vs g P A env (xs.map enc) [] st = .ok ((xs.filter p).map f) st := by
  rw [lc_go p f hk xs [] h (by simpa using hl)]
  simp
end Wt

namespace Wt
open PySem PySem.Spec PyProof.Rows L2
/-! ## sorting -/
section
variable {α β : Type} {le : α → α → Bool}
theorem insPerm (x : α) : ∀ l : List α, (ins le x l).Perm (x :: l)
  | [] => List.Perm.refl _
  | y :: r => by
    unfold ins
    by_cases h : le x y = true
    · rw [if_pos h]
    · rw [if_neg h]
      exact ((insPerm x r).cons y).trans (List.Perm.swap x y r)
theorem isortPerm : ∀ l : List α, (isort le l).Perm l
  | [] => List.Perm.refl _
  | x :: r => (insPerm x _).trans ((isortPerm r).cons x)
theorem isort_mem {l : List α} {x : α} : x ∈ isort le l ↔ x ∈ l := (isortPerm l).mem_iff
theorem isort_length (l : List α) : (isort le l).length = l.length := (isortPerm l).length_eq
theorem ins_map {leb : β → β → Bool} {f : α → β} (h : ∀ x y, leb (f x) (f y) = le x y) (x : α) : ∀ l : List α, ins leb (f x) (l.map f) = (ins le x l).map f
  | [] => rfl
  | y :: r => by
    show (if leb (f x) (f y) = true then _ else _) = List.map f (if le x y = true then _ else _)
    rw [h]
    by_cases e : le x y = true
    · rw [if_pos e, if_pos e]
      rfl
    · rw [if_neg e, if_neg e, ins_map h x r]
      rfl
theorem isortMap {leb : β → β → Bool} {f : α → β} (h : ∀ x y, leb (f x) (f y) = le x y) : ∀ l : List α, isort leb (l.map f) = (isort le l).map f
  | [] => rfl
  | x :: r => by
    show ins leb (f x) (isort leb (r.map f)) = _
    rw [isortMap h r, ins_map h]
    rfl
structure TotPre (le : α → α → Bool) : Prop where
  tot : ∀ x y, le x y = true ∨ le y x = true
  tr : ∀ x y z, le x y = true → le y z = true → le x z = true
def Srd (le : α → α → Bool) (l : List α) : Prop := l.Pairwise fun x y => le x y = true
theorem ins_srd (O : TotPre le) (x : α) : ∀ l : List α, Srd le l → Srd le (ins le x l)
  | [], _ => List.pairwise_singleton _ _
  | y :: r, h => by
    obtain ⟨h1, h2⟩ := List.pairwise_cons.mp h
    unfold ins
    by_cases e : le x y = true
    · rw [if_pos e]
      exact List.pairwise_cons.mpr ⟨fun z hz => by
        rcases List.mem_cons.mp hz with rfl | hz
        · exact e
        · exact O.tr _ _ _ e (h1 z hz), h⟩
    · rw [if_neg e]
      exact List.pairwise_cons.mpr ⟨fun z hz => by
        rcases List.mem_cons.mp ((insPerm x r).mem_iff.mp hz) with rfl | hz
        · exact (O.tot _ _).resolve_left e
        · exact h1 z hz, ins_srd O x r h2⟩
theorem isort_srd (O : TotPre le) : ∀ l : List α, Srd le (isort le l)
  | [] => List.Pairwise.nil
  | x :: r => ins_srd O x _ (isort_srd O r)
theorem srd_uniq (ha : ∀ x y, le x y = true → le y x = true → x = y) : ∀ {l m : List α}, l.Perm m → Srd le l → Srd le m → l = m := fun p h1 h2 =>
  List.Perm.eq_of_pairwise (fun x y _ _ a b => ha x y a b) h1 h2 p
theorem isort_eq (O : TotPre le) (ha : ∀ x y, le x y = true → le y x = true → x = y) {l m : List α} (p : l.Perm m) : isort le l = isort le m :=
  srd_uniq ha (((isortPerm l).trans p).trans (isortPerm m).symm) (isort_srd O l) (isort_srd O m)
theorem isort_srd_self : ∀ {l : List α}, Srd le l → isort le l = l
  | [], _ => rfl
  | x :: r, h => by
    obtain ⟨h1, h2⟩ := List.pairwise_cons.mp h
    show ins le x (isort le r) = _
    rw [isort_srd_self h2]
    cases r with
    | nil => rfl
    | cons y r => exact if_pos (h1 y (List.mem_cons_self ..))
theorem ins_filter (O : TotPre le) (p : α → Bool) (x : α) : ∀ l : List α, Srd le l → (ins le x l).filter p = if p x then ins le x (l.filter p) else l.filter p
  | [], _ => by cases h : p x <;> simp [ins, h]
  | y :: r, hs => by
    obtain ⟨h1, h2⟩ := List.pairwise_cons.mp hs
    have ih := ins_filter O p x r h2
    by_cases e : le x y = true
    · have hle : ∀ m : List α, (∀ z ∈ m, le x z = true) → ins le x m = x :: m := fun m hm => by
        cases m with
        | nil => rfl
        | cons z m => exact if_pos (hm z (List.mem_cons_self ..))
      rw [hle (y :: r) (fun z hz => by
        rcases List.mem_cons.mp hz with rfl | hz
        · exact e
        · exact O.tr _ _ _ e (h1 z hz))]
      rw [hle ((y :: r).filter p) (fun z hz => by
        rcases List.mem_cons.mp (List.mem_filter.mp hz).1 with rfl | hz
        · exact e
        · exact O.tr _ _ _ e (h1 z hz))]
      rw [List.filter_cons]
    · rw [show ins le x (y :: r) = y :: ins le x r from if_neg e, List.filter_cons, ih, List.filter_cons]
      cases hx : p x <;> cases hy : p y
      · simp
      · simp
      · simp
      · simp only [if_true]
        exact (if_neg e).symm
theorem isort_filter (O : TotPre le) (p : α → Bool) : ∀ l : List α, isort le (l.filter p) = (isort le l).filter p
  | [] => rfl
  | x :: r => by
    show _ = (ins le x (isort le r)).filter p
    rw [ins_filter O p x _ (isort_srd O r), ← isort_filter O p r, List.filter_cons]
    cases p x <;> rfl
/-- in a sorted row, what a downward closed question picks stands in front -/
theorem srd_take {p : α → Bool} (hp : ∀ x y, le x y = true → p y = true → p x = true) : ∀ {l : List α}, Srd le l → l.filter p = l.takeWhile p
  | [], _ => rfl
  | x :: r, h => by
    obtain ⟨h1, h2⟩ := List.pairwise_cons.mp h
    rw [List.filter_cons, List.takeWhile_cons]
    cases e : p x with
    | true => simp [srd_take hp h2]
    | false =>
      simp only [Bool.false_eq_true, if_false]
      refine List.filter_eq_nil_iff.mpr fun y hy hy' => ?_
      rw [hp x y (h1 y hy) hy'] at e
      cases e
end
theorem leD_pre : TotPre leD where
  tot x y := by
    unfold leD
    cases h : PySem.W.dataLt y.py x.py with
    | false => exact .inl rfl
    | true =>
      refine .inr ?_
      cases h2 : PySem.W.dataLt x.py y.py with
      | false => rfl
      | true => exact absurd (PyProof.Rows.lex_trans _ _ _ h h2) (by rw [PyProof.Rows.lex_irrefl]; decide)
  tr x y z h1 h2 := by
    unfold leD at *
    cases h : PySem.W.dataLt z.py x.py with
    | false => rfl
    | true =>
      rcases PyProof.Rows.lex_negTrans _ (PySem.W.keyToks y.py) _ h with e | e
      · rw [show PySem.W.dataLt z.py y.py = true from e] at h2
        cases h2
      · rw [show PySem.W.dataLt y.py x.py = true from e] at h1
        cases h1
theorem leD_toks {x y : D} (h1 : leD x y = true) (h2 : leD y x = true) : PySem.W.keyToks x.py = PySem.W.keyToks y.py := by
  unfold leD at *
  refine PyProof.Rows.lex_total (O := PyProof.Rows.itemOrd) _ _ ?_ ?_
  · cases h : PyProof.Rows.lexLt PyProof.Rows.itemOrd (PySem.W.keyToks x.py) (PySem.W.keyToks y.py) with
    | false => rfl
    | true => rw [show PySem.W.dataLt x.py y.py = true from h] at h2; cases h2
  · cases h : PyProof.Rows.lexLt PyProof.Rows.itemOrd (PySem.W.keyToks y.py) (PySem.W.keyToks x.py) with
    | false => rfl
    | true => rw [show PySem.W.dataLt y.py x.py = true from h] at h1; cases h1
theorem leD_int (i j : Int) : leD (.int i) (.int j) = decide (i ≤ j) := by
  show (!PySem.W.dataLt (.int j) (.int i)) = _
  rw [PySem.W.dataLt_int]
  by_cases h : i ≤ j
  · rw [decide_eq_true h, decide_eq_false (by omega)]
    rfl
  · rw [decide_eq_false h, decide_eq_true (by omega)]
    rfl
theorem sortOk_map {α : Type} {e : α → D} {xs : List α} (hf : ∀ x y, (e x).form (e y) = true) (hd : ∀ x, (e x).py.depth ≤ 60) (hn : ∀ x, e x ≠ .tup []) : sortOk (xs.map e) = true := by
  cases xs with
  | nil => rfl
  | cons x r =>
    show ((match e x with | .tup [] => false | _ => true) && _) = true
    rw [Bool.and_eq_true]
    refine ⟨?_, List.all_eq_true.mpr fun y hy => ?_⟩
    · split
      · exact absurd (by assumption) (hn x)
      · rfl
    · obtain ⟨z, _, rfl⟩ := List.mem_map.mp (show y ∈ (x :: r).map e from hy)
      rw [hf, Nat.ble_eq_true_of_le (hd z)]
      rfl
theorem sortOk_ints (l : List Int) : sortOk (l.map .int) = true := sortOk_map (fun _ _ => rfl) (fun _ => by simp [D.py, PyData.depth]) nofun
theorem intsO : TotPre fun i j : Int => decide (i ≤ j) := ⟨fun x y => by simp only [decide_eq_true_eq]; omega, fun x y z => by simp only [decide_eq_true_eq]; omega⟩
theorem isort_ints (l : List Int) : isort leD (l.map .int) = (isort (fun i j : Int => decide (i ≤ j)) l).map .int := isortMap leD_int l
end Wt

namespace Wt
open PySem PySem.Spec PyProof.Rows L2
/-- under 2 ^ a either way -/
def Bd (a : Nat) (x : Int) : Prop := x.natAbs < 2 ^ a
theorem Bd.mono {a b : Nat} {x : Int} (h : Bd a x) (hab : a ≤ b) : Bd b x := Nat.lt_of_lt_of_le h (Nat.pow_le_pow_right (by decide) hab)
theorem Bd.add {a b : Nat} {x y : Int} (hx : Bd a x) (hy : Bd b y) : Bd (max a b + 1) (x + y) := by
  have h1 := hx.mono (Nat.le_max_left a b)
  have h2 := hy.mono (Nat.le_max_right a b)
  unfold Bd at *
  rw [Nat.pow_succ]
  omega
theorem Bd.mul {a b : Nat} {x y : Int} (hx : Bd a x) (hy : Bd b y) : Bd (a + b) (x * y) := by
  unfold Bd at *
  rw [Int.natAbs_mul, Nat.pow_add]
  exact Nat.mul_lt_mul_of_lt_of_le hx (Nat.le_of_lt hy) (Nat.two_pow_pos _)
theorem Bd.neg {a : Nat} {x : Int} (hx : Bd a x) : Bd a (-x) := by
  unfold Bd at *
  rwa [Int.natAbs_neg]
theorem Bd.sub {a b : Nat} {x y : Int} (hx : Bd a x) (hy : Bd b y) : Bd (max a b + 1) (x - y) := hx.add hy.neg
theorem Bd.of {a : Nat} {x : Int} (h : x.natAbs < 2 ^ a) : Bd a x := h
theorem Bd.mulOk {a b : Nat} {x y : Int} (hx : Bd a x) (hy : Bd b y) (h : a + b ≤ 100000000) (ha : 0 < a := by decide) (hb : 0 < b := by decide) : MulOk x y = true := mulOk_of a b hx hy h ha hb
theorem Bd.sum {a : Nat} : ∀ {l : List Int}, (∀ x ∈ l, Bd a x) → Bd (a + l.length) l.sum
  | [], _ => Nat.two_pow_pos _
  | x :: r, h => by
    have h1 := h x (List.mem_cons_self ..)
    have h2 := Bd.sum fun y hy => h y (List.mem_cons_of_mem _ hy)
    refine ((h1.mono (Nat.le_add_right a r.length)).add h2).mono ?_
    rw [List.length_cons]
    omega
theorem Bd.bits {z : Int} {n : Nat} (h : Builtin.Int.intBits z ≤ n) : Bd n z := by
  unfold Bd
  unfold Builtin.Int.intBits at h
  by_cases h0 : z.natAbs = 0
  · rw [h0]; exact Nat.two_pow_pos _
  · refine Nat.lt_of_lt_of_le (Nat.lt_log2_self (n := z.natAbs)) (Nat.pow_le_pow_right (by decide) ?_)
    have hz : z ≠ 0 := fun e => h0 (by rw [e]; rfl)
    simpa [hz] using h
theorem emod_bd {x m : Int} {a : Nat} (hm : 0 < m) (h : m ≤ 2 ^ a) : Bd a (x % m) := by
  have h1 := Int.emod_nonneg x (by omega : m ≠ 0)
  have h2 := Int.emod_lt_of_pos x hm
  unfold Bd
  have h3 : x % m < ((2 ^ a : Nat) : Int) := by
    rw [Int.natCast_pow]
    exact Int.lt_of_lt_of_le h2 h
  omega
/-- the script's numbers, or five -/
def cells (ns : List Int) : List Int := if ns ≠ [] then ns.take 63 else [5]
theorem cells_ne (ns : List Int) : 0 < (cells ns).length := by
  unfold cells
  split
  · rw [List.length_take]
    have := List.length_pos_iff.mpr ‹ns ≠ []›
    omega
  · decide
theorem cells_le (ns : List Int) : (cells ns).length ≤ 63 := by
  unfold cells
  split
  · rw [List.length_take]; omega
  · decide
theorem cells_bd {ns : List Int} {n : Nat} (hn : 3 ≤ n) (h : ∀ z ∈ ns, Bd n z) : ∀ z ∈ cells ns, Bd n z := fun z hz => by
  unfold cells at hz
  split at hz
  · exact h z (List.mem_of_mem_take hz)
  · rw [List.mem_singleton.mp hz]
    exact Bd.mono (a := 3) (by unfold Bd; decide) hn
theorem cutD_take (l : List D) (k : Nat) : cutD l none (some (k : Int)) = l.take k := by
  unfold cutD
  rw [HT.sIx_nat, HT.sIx_none, Nat.sub_zero, List.drop_zero, ← List.take_take, List.take_length]
theorem cutD_drop (l : List D) (k : Nat) : cutD l (some (k : Int)) none = l.drop k := by
  unfold cutD
  rw [HT.sIx_nat, HT.sIx_none]
  by_cases h : k ≤ l.length
  · rw [Nat.min_eq_left h, List.take_of_length_le (by rw [List.length_drop]; omega)]
  · rw [Nat.min_eq_right (by omega), List.drop_eq_nil_of_le (Nat.le_refl _), List.drop_eq_nil_of_le (by omega), List.take_nil]
theorem atI_of {l : List D} {k : Int} {d : D} (h0 : 0 ≤ k) (h : l[k.toNat]? = some d) : atI l k = some d := by
  have hl : k.toNat < l.length := (List.getElem?_eq_some_iff.mp h).1
  unfold atI ixN
  rw [if_pos h0, if_pos (by omega)]
  exact h
theorem atI_nat {l : List D} {k : Nat} {d : D} (h : l[k]? = some d) : atI l (k : Int) = some d := atI_of (Int.natCast_nonneg k) (by rwa [Int.toNat_natCast])
theorem atI_map {α : Type} {e : α → D} {l : List α} {k : Int} (h0 : 0 ≤ k) (h1 : k < l.length) : ∃ x, l[k.toNat]? = some x ∧ x ∈ l ∧ atI (l.map e) k = some (e x) := by
  have hk : k.toNat < l.length := by omega
  refine ⟨l[k.toNat], List.getElem?_eq_getElem hk, List.getElem_mem hk, atI_of h0 ?_⟩
  rw [List.getElem?_map, List.getElem?_eq_getElem hk]
  rfl
end Wt

namespace Wt
open PySem PySem.Spec PyProof.Rows L2
/-- the data e gives are told apart by == as the things themselves -/
structure EqOn {α : Type} (S : α → Prop) (e : α → D) (n : Nat) : Prop where
  pl : ∀ x, S x → (e x).plain = true
  cl : ∀ x, S x → (e x).py.canLay0 = true
  dp : ∀ x, S x → (e x).py.depth ≤ n
  eq : ∀ x y, S x → S y → (PyData.eqv (e x).py (e y).py = true ↔ x = y)
theorem EqOn.int : EqOn (fun _ : Int => True) D.int 0 := ⟨fun _ _ => rfl, fun _ _ => by simp [D.py, PyData.canLay0], fun _ _ => by simp [D.py, PyData.depth], fun x y _ _ => by simp [D.py, PyData.eqv]⟩
theorem EqOn.bl : EqOn (fun _ : Bool => True) D.bl 0 := ⟨fun _ _ => rfl, fun _ _ => by simp [D.py, PyData.canLay0], fun _ _ => by simp [D.py, PyData.depth], fun x y _ _ => by simp [D.py, PyData.eqv]⟩
theorem EqOn.str : EqOn (fun x : Str => PyData.strOk x = true) D.str 0 := ⟨fun _ _ => rfl, fun _ h => by simpa [D.py, PyData.canLay0] using h, fun _ _ => by simp [D.py, PyData.depth], fun x y _ _ => by simp [D.py, PyData.eqv]⟩
section
variable {α β γ δ : Type} {S : α → Prop} {T : β → Prop} {U : γ → Prop} {Z : δ → Prop} {e : α → D} {f : β → D} {g : γ → D} {h : δ → D} {n m k p : Nat}
theorem EqOn.pls (E : EqOn S e n) : ∀ l : List α, (∀ x ∈ l, S x) → D.plains (l.map e) = true
  | [], _ => rfl
  | x :: r, h => by
    show ((e x).plain && D.plains (r.map e)) = true
    rw [E.pl x (h x (List.mem_cons_self ..)), E.pls r fun y hy => h y (List.mem_cons_of_mem _ hy)]
    rfl
theorem EqOn.cls (E : EqOn S e n) : ∀ l : List α, (∀ x ∈ l, S x) → PyData.canLayAll0 (D.pys (l.map e)) = true
  | [], _ => by simp [D.pys, PyData.canLayAll0]
  | x :: r, h => by
    simp only [List.map_cons, D.pys, PyData.canLayAll0]
    rw [E.cl x (h x (List.mem_cons_self ..)), E.cls r fun y hy => h y (List.mem_cons_of_mem _ hy)]
    rfl
theorem EqOn.dps (E : EqOn S e n) : ∀ l : List α, (∀ x ∈ l, S x) → PyData.depthAll (D.pys (l.map e)) ≤ n
  | [], _ => by simp [D.pys, PyData.depthAll]
  | x :: r, h => by
    simp only [List.map_cons, D.pys, PyData.depthAll]
    exact Nat.max_le.mpr ⟨E.dp x (h x (List.mem_cons_self ..)), E.dps r fun y hy => h y (List.mem_cons_of_mem _ hy)⟩
theorem EqOn.eqs (E : EqOn S e n) : ∀ l m : List α, (∀ x ∈ l, S x) → (∀ x ∈ m, S x) → (PyData.eqvAll (D.pys (l.map e)) (D.pys (m.map e)) = true ↔ l = m)
  | [], [], _, _ => by simp [D.pys, PyData.eqvAll]
  | [], y :: m, _, _ => by simp [D.pys, PyData.eqvAll]
  | x :: l, [], _, _ => by simp [D.pys, PyData.eqvAll]
  | x :: l, y :: m, h1, h2 => by
    simp only [List.map_cons, D.pys, PyData.eqvAll, Bool.and_eq_true, List.cons.injEq]
    rw [E.eq x y (h1 x (List.mem_cons_self ..)) (h2 y (List.mem_cons_self ..)), E.eqs l m (fun z hz => h1 z (List.mem_cons_of_mem _ hz)) fun z hz => h2 z (List.mem_cons_of_mem _ hz)]
theorem EqOn.lst (E : EqOn S e n) : EqOn (fun l : List α => ∀ x ∈ l, S x) (fun l => D.lst (l.map e)) (n + 1) where
  pl l hl := E.pls l hl
  cl l hl := by simp only [D.py, PyData.canLay0]; exact E.cls l hl
  dp l hl := by simp only [D.py, PyData.depth]; have := E.dps l hl; omega
  eq l m h1 h2 := by simp only [D.py, PyData.eqv]; exact E.eqs l m h1 h2
theorem EqOn.tupL (E : EqOn S e n) : EqOn (fun l : List α => ∀ x ∈ l, S x) (fun l => D.tup (l.map e)) (n + 1) where
  pl l hl := E.pls l hl
  cl l hl := by simp only [D.py, PyData.canLay0]; exact E.cls l hl
  dp l hl := by simp only [D.py, PyData.depth]; have := E.dps l hl; omega
  eq l m h1 h2 := by simp only [D.py, PyData.eqv]; exact E.eqs l m h1 h2
theorem EqOn.tup2 (E : EqOn S e n) (F : EqOn T f n) : EqOn (fun q : α × β => S q.1 ∧ T q.2) (fun q => D.tup [e q.1, f q.2]) (n + 1) where
  pl q hq := by simp [D.plain, D.plains, E.pl _ hq.1, F.pl _ hq.2]
  cl q hq := by simp [D.py, D.pys, PyData.canLay0, PyData.canLayAll0, E.cl _ hq.1, F.cl _ hq.2]
  dp q hq := by
    simp only [D.py, D.pys, PyData.depth, PyData.depthAll]
    have := E.dp _ hq.1
    have := F.dp _ hq.2
    omega
  eq q r h1 h2 := by
    simp only [D.py, D.pys, PyData.eqv, PyData.eqvAll, Bool.and_eq_true, Bool.and_true]
    rw [E.eq _ _ h1.1 h2.1, F.eq _ _ h1.2 h2.2, Prod.ext_iff]
theorem EqOn.tup3 (E : EqOn S e n) (F : EqOn T f n) (G : EqOn U g n) : EqOn (fun q : α × β × γ => S q.1 ∧ T q.2.1 ∧ U q.2.2) (fun q => D.tup [e q.1, f q.2.1, g q.2.2]) (n + 1) where
  pl q hq := by simp [D.plain, D.plains, E.pl _ hq.1, F.pl _ hq.2.1, G.pl _ hq.2.2]
  cl q hq := by simp [D.py, D.pys, PyData.canLay0, PyData.canLayAll0, E.cl _ hq.1, F.cl _ hq.2.1, G.cl _ hq.2.2]
  dp q hq := by
    simp only [D.py, D.pys, PyData.depth, PyData.depthAll]
    have := E.dp _ hq.1
    have := F.dp _ hq.2.1
    have := G.dp _ hq.2.2
    omega
  eq q r h1 h2 := by
    simp only [D.py, D.pys, PyData.eqv, PyData.eqvAll, Bool.and_eq_true, Bool.and_true]
    rw [E.eq _ _ h1.1 h2.1, F.eq _ _ h1.2.1 h2.2.1, G.eq _ _ h1.2.2 h2.2.2, Prod.ext_iff, Prod.ext_iff]
theorem EqOn.tup4 (E : EqOn S e n) (F : EqOn T f n) (G : EqOn U g n) (H : EqOn Z h n) : EqOn (fun q : α × β × γ × δ => S q.1 ∧ T q.2.1 ∧ U q.2.2.1 ∧ Z q.2.2.2) (fun q => D.tup [e q.1, f q.2.1, g q.2.2.1, h q.2.2.2]) (n + 1) where
  pl q hq := by simp [D.plain, D.plains, E.pl _ hq.1, F.pl _ hq.2.1, G.pl _ hq.2.2.1, H.pl _ hq.2.2.2]
  cl q hq := by simp [D.py, D.pys, PyData.canLay0, PyData.canLayAll0, E.cl _ hq.1, F.cl _ hq.2.1, G.cl _ hq.2.2.1, H.cl _ hq.2.2.2]
  dp q hq := by
    simp only [D.py, D.pys, PyData.depth, PyData.depthAll]
    have := E.dp _ hq.1
    have := F.dp _ hq.2.1
    have := G.dp _ hq.2.2.1
    have := H.dp _ hq.2.2.2
    omega
  eq q r h1 h2 := by
    simp only [D.py, D.pys, PyData.eqv, PyData.eqvAll, Bool.and_eq_true, Bool.and_true]
    rw [E.eq _ _ h1.1 h2.1, F.eq _ _ h1.2.1 h2.2.1, G.eq _ _ h1.2.2.1 h2.2.2.1, H.eq _ _ h1.2.2.2 h2.2.2.2, Prod.ext_iff, Prod.ext_iff, Prod.ext_iff]
theorem EqOn.ok (E : EqOn S e n) (hn : n ≤ 60) {x : α} (hx : S x) : (e x).okEq = true := by
  unfold D.okEq SeqAt.shaped
  rw [E.pl x hx, E.cl x hx, decide_eq_true (Nat.le_trans (E.dp x hx) (by omega))]
  rfl
theorem eqB_of {st : Sto} {a b : D} (ha : (getD' st a).okEq = true) (hb : (getD' st b).okEq = true) : eqB st a b = some (PyData.eqv (getD' st a).py (getD' st b).py) := by
  unfold eqB
  split
  · simp [getD', D.py, PyData.eqv]
  · rw [ha, hb]
    rfl
theorem EqOn.eqB [DecidableEq α] (E : EqOn S e n) {st : Sto} {a b : D} {x y : α} (ha : getD' st a = e x) (hb : getD' st b = e y) (hx : S x) (hy : S y) (hn : n ≤ 60 := by decide) : eqB st a b = some (decide (x = y)) := by
  rw [eqB_of (by rw [ha]; exact E.ok hn hx) (by rw [hb]; exact E.ok hn hy), ha, hb]
  congr 1
  by_cases h : x = y
  · rw [decide_eq_true h]
    exact (E.eq x y hx hy).mpr h
  · rw [decide_eq_false h]
    cases e' : PyData.eqv (e x).py (e y).py with
    | false => rfl
    | true => exact absurd ((E.eq x y hx hy).mp e') h
theorem EqOn.fEq [DecidableEq α] (E : EqOn S e n) {st : Sto} {a b : D} {x y : α} (ha : getD' st a = e x) (hb : getD' st b = e y) (hx : S x) (hy : S y) (hn : n ≤ 60 := by decide) : fEq a b st = .ok (.bl (decide (x = y))) st := by
  unfold Wt.fEq
  rw [E.eqB ha hb hx hy hn]
theorem EqOn.fNe [DecidableEq α] (E : EqOn S e n) {st : Sto} {a b : D} {x y : α} (ha : getD' st a = e x) (hb : getD' st b = e y) (hx : S x) (hy : S y) (hn : n ≤ 60 := by decide) : fNe a b st = .ok (.bl (!decide (x = y))) st := by
  unfold Wt.fNe
  rw [E.eqB ha hb hx hy hn]
end
section
variable {st : Sto} (l m : List D) (d : D)
@[simp] theorem fEq_scr : fEq (.scr l) d st = fEq (.lst l) d st := (rfl)
@[simp] theorem fNe_scr : fNe (.scr l) d st = fNe (.lst l) d st := (rfl)
theorem fEq_loc {n : Nat} (h : st[n]? = some (.list l)) : fEq (.loc n) d st = fEq (.lst l) d st := by
  unfold fEq eqB
  simp [getD', h]
theorem fNe_loc {n : Nat} (h : st[n]? = some (.list l)) : fNe (.loc n) d st = fNe (.lst l) d st := by
  unfold fNe eqB
  simp [getD', h]
end
abbrev lints (l : List Int) : D := .lst (l.map .int)
theorem EqInts : EqOn (fun l : List Int => ∀ x ∈ l, True) lints 1 := EqOn.int.lst
@[simp] theorem fEq_ints (l m : List Int) (st : Sto) : fEq (.lst (l.map .int)) (.lst (m.map .int)) st = .ok (.bl (decide (l = m))) st := EqInts.fEq (x := l) (y := m) rfl rfl (fun _ _ => trivial) (fun _ _ => trivial)
@[simp] theorem fNe_ints (l m : List Int) (st : Sto) : fNe (.lst (l.map .int)) (.lst (m.map .int)) st = .ok (.bl (!decide (l = m))) st := EqInts.fNe (x := l) (y := m) rfl rfl (fun _ _ => trivial) (fun _ _ => trivial)
@[simp] theorem fNe_nil (l : List Int) (st : Sto) : fNe (.lst (l.map .int)) (.lst []) st = .ok (.bl (!decide (l = []))) st := fNe_ints l [] st
@[simp] theorem fEq_nil (l : List Int) (st : Sto) : fEq (.lst (l.map .int)) (.lst []) st = .ok (.bl (decide (l = []))) st := fEq_ints l [] st
theorem EqPair : EqOn (fun _ : Int × Int => True ∧ True) (fun q => D.tup [.int q.1, .int q.2]) 1 := EqOn.int.tup2 EqOn.int
/-! ### lists of rows -/
theorem rng_map : ∀ (n : Nat) (lo : Int), rngD lo n = (List.range n).map fun k : Nat => D.int (lo + k)
  | 0, _ => rfl
  | n + 1, lo => by
    show D.int lo :: rngD (lo + 1) n = _
    rw [rng_map n (lo + 1), List.range_succ_eq_map, List.map_cons, List.map_map]
    congr 1
    · simp
    · exact List.map_congr_left fun k _ => by show D.int _ = D.int _; congr 1; show lo + 1 + (k : Int) = lo + ((k + 1 : Nat) : Int); omega
theorem rng0_map (n : Nat) : rngD 0 n = (List.range n).map fun k : Nat => D.int (k : Int) := by
  rw [rng_map]
  exact List.map_congr_left fun k _ => by rw [Int.zero_add]
theorem zipIx_map : ∀ (l : List D) (i : Int), zipIx i l = (l.zip (List.range l.length)).map fun q : D × Nat => D.tup [.int (i + q.2), q.1]
  | [], _ => rfl
  | x :: r, i => by
    show D.tup [.int i, x] :: zipIx (i + 1) r = _
    rw [zipIx_map r (i + 1), List.length_cons, List.range_succ_eq_map, List.zip_cons_cons, List.map_cons, List.zip_map_right, List.map_map]
    congr 1
    · simp
    · exact List.map_congr_left fun q _ => by
        show D.tup [.int _, _] = D.tup [.int _, _]
        congr 3
        show i + 1 + (q.2 : Int) = i + ((q.2 + 1 : Nat) : Int)
        omega
end Wt

namespace Wt
open PySem PySem.Spec PyProof.Rows L2
/-- a loop that goes through -/
theorem for_fold {α σ : Type} {keep : Sto → Bool} {g : DenG} {B : DenS} {enc : α → D} (Re : σ → En) (Rt : σ → Sto) (step : σ → α → σ) (Inv : σ → Prop) (hk : ∀ s, Inv s → keep (Rt s) = true) : ∀ (xs : List α) (s : σ), Inv s →
    (∀ s, Inv s → ∀ x ∈ xs, ∃ e1, g (enc x) (Re s) = some e1 ∧ B e1 (Rt s) = .nx (Re (step s x)) (Rt (step s x)) ∧ Inv (step s x)) →
    forIt keep g B (xs.map enc) (Re s) (Rt s) = .nx (Re (xs.foldl step s)) (Rt (xs.foldl step s)) ∧ Inv (xs.foldl step s)
  | [], s, hi, _ => by
    refine ⟨?_, hi⟩
    show (if keep _ then _ else _) = _
    rw [if_pos (hk s hi)]
    rfl
  | x :: r, s, hi, h => by
    obtain ⟨e1, h1, h2, h3⟩ := h s hi x (List.mem_cons_self ..)
    obtain ⟨q1, q2⟩ := for_fold Re Rt step Inv hk r (step s x) h3 fun s hs y hy => h s hs y (List.mem_cons_of_mem _ hy)
    refine ⟨?_, q2⟩
    show (if keep _ then _ else _) = _
    rw [if_pos (hk s hi), h1]
    show (match B e1 (Rt s) with | .nx e s => _ | .ct e s => _ | .bk e s => _ | o => o) = _
    rw [h2]
    exact q1
/-- a loop that gathers into one own list -/
theorem for_app {α : Type} {keep : Sto → Bool} {g : DenG} {B : DenS} {enc : α → D} {f : α → D} {n : Nat} {st sr : Sto} (E : Option D → En) (xs : List α)
    (h : ∀ x ∈ xs, ∀ v acc, acc.length ≤ n + xs.length → ∃ e1 v', g (enc x) (E v) = some e1 ∧ B e1 (st ++ .list acc :: sr) = .nx (E v') (st ++ .list (acc ++ [f x]) :: sr))
    (hk : ∀ acc, keep (st ++ .list acc :: sr) = true) (v : Option D) (acc : List D) (hn : acc.length ≤ n) :
    ∃ v', forIt keep g B (xs.map enc) (E v) (st ++ .list acc :: sr) = .nx (E v') (st ++ .list (acc ++ xs.map f) :: sr) := by
  induction xs generalizing v acc n with
  | nil =>
    refine ⟨v, ?_⟩
    show (if keep _ then _ else _) = _
    rw [if_pos (hk acc), List.map_nil, List.append_nil]
  | cons x r ih =>
    obtain ⟨e1, v1, h1, h2⟩ := h x (List.mem_cons_self ..) v acc (by omega)
    obtain ⟨v', h'⟩ := ih (n := n + 1) (fun y hy v acc ha => h y (List.mem_cons_of_mem _ hy) v acc (by rw [List.length_cons]; omega)) v1 (acc ++ [f x]) (by rw [List.length_append, List.length_singleton]; omega)
    refine ⟨v', ?_⟩
    show (if keep _ then _ else _) = _
    rw [if_pos (hk acc), h1]
    show (match B e1 _ with | .nx e s => _ | .ct e s => _ | .bk e s => _ | o => o) = _
    rw [h2]
    show forIt keep g B (r.map enc) (E v1) _ = _
    rw [h', List.map_cons, List.append_assoc]
    rfl
theorem atI_int {l : List Int} {k : Int} (h0 : 0 ≤ k) (h1 : k < l.length) : atI (l.map D.int) k = some (.int (l.getD k.toNat 0)) := by
  refine atI_of h0 ?_
  have hk : k.toNat < l.length := by omega
  rw [List.getElem?_map, List.getElem?_eq_getElem hk, List.getD_eq_getElem?_getD, List.getElem?_eq_getElem hk]
  rfl
theorem log2_small {x : Int} (h : x.natAbs < 2 ^ 200) : x.natAbs.log2 < 9000 := log2_lt (a := 9000) (Nat.lt_of_lt_of_le h (Nat.pow_le_pow_right (by decide) (by omega))) (by omega)
@[simp] theorem fDiv_ok {i j : Int} {st : Sto} (h0 : 0 < j) (h1 : j < 1000000000000000000000000000000000000000000000000000) : fDiv (.int i) (.int j) st = .ok (.int (i / j)) st := by
  rw [fDiv_int, decide_eq_true h0, decide_eq_true (log2_small (by omega))]
  rfl
def absI (x : Int) : Int := if x < 0 then -x else x
@[simp] theorem absI_of (x : Int) : (if x < 0 then -x else x) = absI x := (rfl)
theorem absI_nonneg (x : Int) : 0 ≤ absI x := by unfold absI; split <;> omega
/-- the law's numbers -/
def numL (c a w : Int) : Int :=
  if 10 ^ 18 ≤ c then c / (1 + a % 7) else
    let b := ((c + 977 * a) * 48271 + w) % 2147483647
    b * (c + 31 * a + 7) * (b + c + 5) * (b * b + 11) / (1009 + a)
def at0 (l : List Int) (k : Int) : Int := l.getD k.toNat 0
theorem atI_at0 {l : List Int} {k : Int} (h0 : 0 ≤ k) (h1 : k < l.length) : atI (l.map D.int) k = some (.int (at0 l k)) := atI_int h0 h1
theorem at0_mem {l : List Int} {k : Int} (h0 : 0 ≤ k) (h1 : k < l.length) : at0 l k ∈ l := by
  have hk : k.toNat < l.length := by omega
  unfold at0
  rw [List.getD_eq_getElem?_getD, List.getElem?_eq_getElem hk]
  exact List.getElem_mem _
section
variable {s r : Sto} {a b c x : Cell}
@[simp] theorem get_at0 : (s ++ a :: r)[s.length]? = some a := by rw [List.getElem?_append_right (Nat.le_refl _), Nat.sub_self]; rfl
@[simp] theorem get_at1 : (s ++ a :: b :: r)[s.length + 1]? = some b := by rw [List.getElem?_append_right (Nat.le_succ _), show s.length + 1 - s.length = 1 by omega]; rfl
@[simp] theorem get_at2 : (s ++ a :: b :: c :: r)[s.length + 2]? = some c := by rw [List.getElem?_append_right (by omega), show s.length + 2 - s.length = 2 by omega]; rfl
@[simp] theorem set_at0 : (s ++ a :: r).set s.length x = s ++ x :: r := by rw [List.set_append_right _ _ (Nat.le_refl _), Nat.sub_self]; rfl
@[simp] theorem set_at1 : (s ++ a :: b :: r).set (s.length + 1) x = s ++ a :: x :: r := by rw [List.set_append_right _ _ (Nat.le_succ _), show s.length + 1 - s.length = 1 by omega]; rfl
@[simp] theorem set_at2 : (s ++ a :: b :: c :: r).set (s.length + 2) x = s ++ a :: b :: x :: r := by rw [List.set_append_right _ _ (by omega), show s.length + 2 - s.length = 2 by omega]; rfl
theorem get_old {n : Nat} (h : s[n]? = some a) : (s ++ r)[n]? = some a := by
  rw [List.getElem?_append_left (List.getElem?_eq_some_iff.mp h).1, h]
end
@[simp] theorem fNe_nil0 (st : Sto) : fNe (.lst []) (.lst []) st = .ok (.bl false) st := fNe_ints [] [] st
@[simp] theorem fEq_nil0 (st : Sto) : fEq (.lst []) (.lst []) st = .ok (.bl true) st := fEq_ints [] [] st
/-- d is a list -/
structure IsL (st : Sto) (d : D) (l : List D) : Prop where
  g : getL st d = some l
theorem IsL.gs {st : Sto} {d : D} {l : List D} (h : IsL st d l) : getS st d = some l := by
  have := h.g
  cases d <;> simp_all [getS, getL]
theorem IsL.ty {st : Sto} {d : D} {l : List D} (h : IsL st d l) : tyD st d = some .lst := by
  have := h.g
  cases d with
  | loc n =>
    simp only [getL_loc] at this
    simp only [tyD_loc]
    cases e : st[n]? with
    | none => rw [e] at this; cases this
    | some c => cases c <;> simp_all [lstAt, tyAt]
  | _ => simp_all [tyD, getL]
theorem IsL.kp {st : Sto} {d : D} {l : List D} (h : IsL st d l) : keepL d l st = true := by
  have := h.g
  cases d with
  | loc n => rw [keepL_loc, this]; exact D.beqs_refl l
  | _ => rfl
theorem IsL.loc {st : Sto} {n : Nat} {l : List D} (h : st[n]? = some (.list l)) : IsL st (.loc n) l := ⟨by rw [getL_loc, h]; rfl⟩
theorem IsL.lst {st : Sto} {l : List D} : IsL st (.lst l) l := ⟨rfl⟩
theorem IsL.scr {st : Sto} {l : List D} : IsL st (.scr l) l := ⟨rfl⟩
theorem lc_ints {α : Type} {keep : Sto → Bool} {vs : List Nat} {g : DenG} {A : Den} {env : En} {st : Sto} {enc : α → D} (f : α → Int) (xs : List α)
    (h : ∀ x ∈ xs, ∃ e1, g (enc x) (wipeE env vs) = some e1 ∧ A e1 st = .ok (.int (f x)) st) (hl : xs.length ≤ 16777216) (hk : keep st = true) :
    lcIt keep vs g bYes A env (xs.map enc) [] st = .ok ((xs.map f).map .int) st := by
  rw [lc_map (fun x => D.int (f x)) xs h hl hk, List.map_map]; rfl
theorem lc_bls {α : Type} {keep : Sto → Bool} {vs : List Nat} {g : DenG} {A : Den} {env : En} {st : Sto} {enc : α → D} (f : α → Bool) (xs : List α)
    (h : ∀ x ∈ xs, ∃ e1, g (enc x) (wipeE env vs) = some e1 ∧ A e1 st = .ok (.bl (f x)) st) (hl : xs.length ≤ 16777216) (hk : keep st = true) :
    lcIt keep vs g bYes A env (xs.map enc) [] st = .ok ((xs.map f).map .bl) st := by
  rw [lc_map (fun x => D.bl (f x)) xs h hl hk, List.map_map]; rfl
@[simp] theorem ix_command : ixOf "command" (nms 1) = some 0 := (rfl)
@[simp] theorem ix_place : ixOf "place" (nms 2) = some 0 := (rfl)
@[simp] theorem ix_pairs : ixOf "pairs" (nms 2) = some 1 := by decide +kernel
@[simp] theorem ix_line : ixOf "line" (nms 4) = some 0 := (rfl)
@[simp] theorem ix_length : ixOf "length" (nms 5) = some 0 := (rfl)
@[simp] theorem ix_known : ixOf "known" (nms 5) = some 1 := by decide +kernel
@[simp] theorem ix_letters : ixOf "letters" (nms 5) = some 2 := by decide +kernel
@[simp] theorem ix_now : ixOf "now" (nms 5) = some 3 := by decide +kernel
@[simp] theorem ix_lines : ixOf "lines" (nms 5) = some 4 := by decide +kernel
def bodyK (k : DenS) (r : Fl) : Fl := match r with | .nx e s => k e s | .ct e s => k e s | .bk e s => .nx e s | o => o
def entK (o : Option En) (f : En → Fl) : Fl := match o with | some e => f e | none => .bad
section
variable {keep : Sto → Bool} {g : DenG} {B : DenS} {env : En} {st : Sto} {x : D} {r : List D}
theorem forIt_nil (hk : keep st = true) : forIt keep g B [] env st = .nx env st := if_pos hk
theorem forIt_cons (hk : keep st = true) : forIt keep g B (x :: r) env st = entK (g x env) fun e1 => bodyK (forIt keep g B r) (B e1 st) := by
  show (if keep st then _ else _) = _
  rw [if_pos hk]
  cases g x env with
  | none => rfl
  | some e => show (match B e st with | .nx e s => _ | .ct e s => _ | .bk e s => _ | o => o) = bodyK _ (B e st); cases B e st <;> rfl
@[simp] theorem entK_some (e : En) (f : En → Fl) : entK (some e) f = f e := (rfl)
@[simp] theorem bodyK_nx (k : DenS) : bodyK k (.nx env st) = k env st := (rfl)
@[simp] theorem bodyK_ct (k : DenS) : bodyK k (.ct env st) = k env st := (rfl)
@[simp] theorem bodyK_bk (k : DenS) : bodyK k (.bk env st) = .nx env st := (rfl)
@[simp] theorem bodyK_rt (k : DenS) (d : D) : bodyK k (.rt d st) = .rt d st := (rfl)
@[simp] theorem bodyK_exc (k : DenS) (c : Nat) : bodyK k (.exc c env st) = .exc c env st := (rfl)
end
theorem allB_map {α : Type} (l : List α) (f : α → Bool) : allB (l.map f) = l.all f := by unfold allB; rw [List.all_map]; rfl
theorem anyB_map {α : Type} (l : List α) (f : α → Bool) : anyB (l.map f) = l.any f := by unfold anyB; rw [List.any_map]; rfl
theorem anyB_not {α : Type} (l : List α) (f : α → Bool) : anyB (l.map fun x => !f x) = !l.all f := by
  rw [anyB_map]
  induction l with
  | nil => rfl
  | cons x r ih => rw [List.any_cons, List.all_cons, ih]; cases f x <;> rfl
theorem allB_true {α : Type} {l : List α} {f : α → Bool} (h : ∀ x ∈ l, f x = true) : allB (l.map f) = true := by rw [allB_map]; exact List.all_eq_true.mpr h
@[simp] theorem allB_one {α : Type} (l : List α) : allB (l.map fun _ => true) = true := allB_true fun _ _ => rfl
theorem IsL.app {st r : Sto} {d : D} {l : List D} (h : IsL st d l) : IsL (st ++ r) d l := by
  have hg := h.g
  refine ⟨?_⟩
  cases d with
  | loc n =>
    rw [getL_loc] at hg ⊢
    cases e : st[n]? with
    | none => rw [e] at hg; cases hg
    | some c => rw [get_old e, ← e]; exact hg
  | _ => exact hg
theorem insD_app {st r : Sto} {d : D} {q : Nat × List D} (h : insD st d = some q) : insD (st ++ r) d = some q := by
  cases d with
  | loc n =>
    rw [insD_loc] at h ⊢
    cases e : st[n]? with
    | none => rw [e] at h; cases h
    | some c => rw [get_old e, ← e]; exact h
  | _ => exact h
/-- a loop that changes its own names alone -/
theorem for_pass {α : Type} {keep : Sto → Bool} {g : DenG} {B : DenS} {enc : α → D} {st : Sto} (E : Option D → En) (hk : keep st = true) : ∀ (xs : List α), (∀ x ∈ xs, ∀ v, ∃ e1 v', g (enc x) (E v) = some e1 ∧ B e1 st = .nx (E v') st) →
    ∀ v, ∃ v', forIt keep g B (xs.map enc) (E v) st = .nx (E v') st
  | [], _, v => ⟨v, forIt_nil hk⟩
  | x :: r, h, v => by
    obtain ⟨e1, v1, h1, h2⟩ := h x (List.mem_cons_self ..) v
    obtain ⟨v', h3⟩ := for_pass E hk r (fun y hy => h y (List.mem_cons_of_mem _ hy)) v1
    exact ⟨v', by rw [List.map_cons, forIt_cons hk, h1, entK_some, h2, bodyK_nx, h3]⟩
@[simp] theorem subC_eq (c d : Nat) : subC c d = (decide (c = d) || (decide (d = 6) && decide (c < 5))) := by
  have h1 : ∀ a b : Nat, Nat.beq a b = decide (a = b) := fun a b => by
    by_cases h : a = b
    · subst h; simp
    · rw [decide_eq_false h]; cases e : Nat.beq a b with
      | false => rfl
      | true => exact absurd (Nat.eq_of_beq_eq_true e) h
  have h2 : ∀ a b : Nat, Nat.blt a b = decide (a < b) := fun a b => by
    by_cases h : a < b
    · rw [decide_eq_true h]; simpa using h
    · rw [decide_eq_false h]; cases e : Nat.blt a b with
      | false => rfl
      | true => exact absurd (by simpa using e) h
  unfold subC
  rw [h1, h1, h2]
end Wt

namespace Wt
open PySem PySem.Spec PyProof.Rows L2
/-! ## places, pairs, least jumps: plain -/
def dist (pl : List Int) (p : Int) : Int := (pl.map fun x => absI (x - p)).sum
theorem sum_app (l m : List Int) : (l ++ m).sum = l.sum + m.sum := by
  induction l with
  | nil => simp
  | cons x r ih => simp only [List.cons_append, List.sum_cons, ih]; omega
theorem sum_perm {l m : List Int} (p : l.Perm m) : l.sum = m.sum := by
  induction p with
  | nil => rfl
  | cons x _ ih => simp only [List.sum_cons, ih]
  | swap x y l => simp only [List.sum_cons]; omega
  | trans _ _ h1 h2 => exact h1.trans h2
theorem sum_le {α : Type} {l : List α} {f g : α → Int} (h : ∀ x ∈ l, f x ≤ g x) : (l.map f).sum ≤ (l.map g).sum := by
  induction l with
  | nil => exact Int.le_refl _
  | cons x r ih =>
    simp only [List.map_cons, List.sum_cons]
    have := h x (List.mem_cons_self ..)
    have := ih fun y hy => h y (List.mem_cons_of_mem _ hy)
    omega
theorem dist_perm {l m : List Int} (p : l.Perm m) (s : Int) : dist l s = dist m s := sum_perm (p.map _)
/-- a row's sum, from both ends at once -/
theorem sum_fold : ∀ (n : Nat) (f : Nat → Int), ((List.range n).map f).sum = ((List.range (n / 2)).map fun i => f i + f (n - 1 - i)).sum + if n % 2 = 1 then f (n / 2) else 0
  | 0, _ => rfl
  | 1, f => by simp
  | n + 2, f => by
    have ih := sum_fold n fun i => f (i + 1)
    have h1 : List.range (n + 2) = 0 :: ((List.range n).map (· + 1) ++ [n + 1]) := by
      rw [List.range_succ, List.range_succ_eq_map]
      rfl
    have h2 : (n + 2) / 2 = n / 2 + 1 := by omega
    have h3 : (n + 2) % 2 = n % 2 := by omega
    rw [h1, h2, h3, List.range_succ_eq_map]
    simp only [List.map_cons, List.map_append, List.map_map, List.map_nil, List.sum_cons, sum_app, List.sum_nil, Function.comp_def]
    rw [ih]
    have h4 : ((List.range (n / 2)).map fun i => f (i + 1) + f (n - 1 - i + 1)).sum = ((List.range (n / 2)).map fun i => f (i.succ) + f (n + 2 - 1 - i.succ)).sum := by
      congr 1
      refine List.map_congr_left fun i hi => ?_
      have := List.mem_range.mp hi
      congr 2
      omega
    rw [h4]
    show f 0 + (_ + _ + (f (n + 1) + 0)) = f 0 + f (n + 2 - 1 - 0) + _ + _
    rw [show n + 2 - 1 - 0 = n + 1 by omega]
    split <;> omega
theorem map_range {α : Type} (l : List α) (d : α) : l = (List.range l.length).map fun i => l.getD i d := by
  refine List.ext_getElem? fun i => ?_
  rw [List.getElem?_map]
  by_cases h : i < l.length
  · rw [List.getElem?_range h, List.getElem?_eq_getElem h]
    show _ = some (l.getD i d)
    rw [List.getD_eq_getElem?_getD, List.getElem?_eq_getElem h]
    rfl
  · rw [List.getElem?_eq_none (by omega), List.getElem?_eq_none (by rw [List.length_range]; omega)]
    rfl
/-- what the pairs of a row are apart, outermost first -/
def apart (l : List Int) : Int := ((List.range (l.length / 2)).map fun i => absI (l.getD i 0 - l.getD (l.length - 1 - i) 0)).sum
theorem absI_add (a b s : Int) : absI (a - b) ≤ absI (a - s) + absI (b - s) := by unfold absI; split <;> split <;> split <;> omega
theorem absI_mid {a b s : Int} (h1 : a ≤ s) (h2 : s ≤ b) : absI (a - s) + absI (b - s) = absI (a - b) := by unfold absI; split <;> split <;> split <;> omega
theorem dist_range (l : List Int) (s : Int) : dist l s = ((List.range l.length).map fun i => absI (l.getD i 0 - s)).sum := by
  unfold dist
  conv => lhs; rw [map_range l 0]
  rw [List.map_map]
  rfl
theorem dist_ge (l : List Int) (s : Int) : apart l ≤ dist l s := by
  rw [dist_range, sum_fold]
  have h := sum_le (l := List.range (l.length / 2)) (f := fun i => absI (l.getD i 0 - l.getD (l.length - 1 - i) 0)) (g := fun i => absI (l.getD i 0 - s) + absI (l.getD (l.length - 1 - i) 0 - s)) fun i _ => absI_add _ _ _
  unfold apart
  have := absI_nonneg (l.getD (l.length / 2) 0 - s)
  split <;> omega
abbrev leI (i j : Int) : Bool := decide (i ≤ j)
theorem srd_get {l : List Int} (h : Srd leI l) {i j : Nat} (hij : i ≤ j) (hj : j < l.length) : l.getD i 0 ≤ l.getD j 0 := by
  rw [List.getD_eq_getElem?_getD, List.getD_eq_getElem?_getD, List.getElem?_eq_getElem (by omega), List.getElem?_eq_getElem hj]
  show l[i] ≤ l[j]
  by_cases e : i = j
  · subst e; exact Int.le_refl _
  · exact of_decide_eq_true (List.pairwise_iff_getElem.mp h i j (by omega) hj (by omega))
theorem dist_mid {l : List Int} (h : Srd leI l) : dist l (l.getD (l.length / 2) 0) = apart l := by
  rw [dist_range, sum_fold]
  unfold apart
  have h1 : ((List.range (l.length / 2)).map fun i => absI (l.getD i 0 - l.getD (l.length / 2) 0) + absI (l.getD (l.length - 1 - i) 0 - l.getD (l.length / 2) 0)) = (List.range (l.length / 2)).map fun i => absI (l.getD i 0 - l.getD (l.length - 1 - i) 0) :=
    List.map_congr_left fun i hi => by
      have := List.mem_range.mp hi
      exact absI_mid (srd_get h (by omega) (by omega)) (srd_get h (by omega) (by omega))
  rw [h1, Int.sub_self]
  show _ + (if _ then absI 0 else 0) = _
  have : absI 0 = 0 := rfl
  rw [this]
  split <;> omega
/-! ### numbers and their places, sorted -/
abbrev leP (p q : Int × Int) : Bool := decide (p.1 < q.1 ∨ (p.1 = q.1 ∧ p.2 ≤ q.2))
theorem lePO : TotPre leP := ⟨fun x y => by simp only [decide_eq_true_eq]; omega, fun x y z => by simp only [decide_eq_true_eq]; omega⟩
abbrev pairD (q : Int × Int) : D := .tup [.int q.1, .int q.2]
theorem leD_pair (p q : Int × Int) : leD (pairD p) (pairD q) = leP p q := by
  show (!PySem.W.dataLt (.tuple [.int q.1, .int q.2]) (.tuple [.int p.1, .int p.2])) = _
  rw [PySem.W.dataLt_tuple]
  have hi : ∀ (a b : Int) (r t : List PyData), PyProof.Rows.lexLt PyProof.Rows.itemOrd (PySem.W.keyToksAll (.int a :: r)) (PySem.W.keyToksAll (.int b :: t)) = if a = b then PyProof.Rows.lexLt PyProof.Rows.itemOrd (PySem.W.keyToksAll r) (PySem.W.keyToksAll t) else decide (a < b) := fun a b r t => by
    by_cases e : a = b
    · subst e
      rw [if_pos rfl]
      exact PySem.W.dataLt_all_yes (by simp [PySem.W.alike]) (by simp [PyData.eqv])
    · rw [if_neg e, ← PySem.W.dataLt_int]
      exact PySem.W.dataLt_all_no (by simp [PySem.W.alike]) (by simp [PyData.eqv, e])
  rw [hi, hi]
  have hn : PyProof.Rows.lexLt PyProof.Rows.itemOrd (PySem.W.keyToksAll []) (PySem.W.keyToksAll []) = false := PyProof.Rows.lex_irrefl _
  rw [hn]
  by_cases h1 : q.1 = p.1
  · rw [if_pos h1]
    by_cases h2 : q.2 = p.2
    · rw [if_pos h2]
      exact (decide_eq_true (by omega)).symm
    · rw [if_neg h2]
      by_cases h3 : q.2 < p.2
      · rw [decide_eq_true h3]; exact (decide_eq_false (by omega)).symm
      · rw [decide_eq_false h3]; exact (decide_eq_true (by omega)).symm
  · rw [if_neg h1]
    by_cases h3 : q.1 < p.1
    · rw [decide_eq_true h3]; exact (decide_eq_false (by omega)).symm
    · rw [decide_eq_false h3]; exact (decide_eq_true (by omega)).symm
def atsL (pl : List Int) : List (Int × Int) := (List.range pl.length).map fun i : Nat => (pl.getD i 0, (i : Int))
theorem zipIx_ints (pl : List Int) : zipIx 0 (pl.map D.int) = (atsL pl).map fun q => D.tup [.int q.2, .int q.1] := by
  rw [zipIx_map, atsL, List.map_map, List.length_map]
  refine List.ext_getElem? fun i => ?_
  rw [List.getElem?_map, List.getElem?_map]
  by_cases h : i < pl.length
  · have hz : ((pl.map D.int).zip (List.range pl.length))[i]? = some (D.int (pl.getD i 0), i) := List.getElem?_zip_eq_some.mpr ⟨by
      rw [List.getElem?_map, List.getElem?_eq_getElem h, List.getD_eq_getElem?_getD, List.getElem?_eq_getElem h]; rfl, List.getElem?_range h⟩
    rw [List.getElem?_range h, hz]
    simp
  · rw [List.getElem?_eq_none (by rw [List.length_zip, List.length_map, List.length_range]; omega), List.getElem?_eq_none (by rw [List.length_range]; omega)]
    rfl
def lineL (pl : List Int) : List (Int × Int) := isort leP (atsL pl)
theorem line_len (pl : List Int) : (lineL pl).length = pl.length := by rw [lineL, isort_length, atsL, List.length_map, List.length_range]
theorem ats_fst (pl : List Int) : (atsL pl).map Prod.fst = pl := by
  rw [atsL, List.map_map]
  exact (map_range pl 0).symm
theorem line_fst (pl : List Int) : (lineL pl).map Prod.fst = isort leI pl := by
  refine srd_uniq (le := leI) (fun x y h1 h2 => by have := of_decide_eq_true h1; have := of_decide_eq_true h2; omega) ?_ ?_ (isort_srd intsO pl)
  · exact (((isortPerm (le := leP) (atsL pl)).map Prod.fst).trans (by rw [ats_fst])).trans (isortPerm pl).symm
  · exact List.pairwise_map.mpr ((isort_srd lePO (atsL pl)).imp fun h => by
      have := of_decide_eq_true h
      exact decide_eq_true (by omega))
theorem line_mem {pl : List Int} {q : Int × Int} (h : q ∈ lineL pl) : 0 ≤ q.2 ∧ q.2 < pl.length ∧ pl.getD q.2.toNat 0 = q.1 := by
  obtain ⟨i, hi, rfl⟩ := List.mem_map.mp ((isortPerm (atsL pl)).mem_iff.mp h)
  have := List.mem_range.mp hi
  refine ⟨Int.natCast_nonneg _, by show (i : Int) < _; omega, ?_⟩
  show pl.getD (i : Int).toNat 0 = pl.getD i 0
  rw [Int.toNat_natCast]
theorem line_nodup (pl : List Int) : ((lineL pl).map Prod.snd).Nodup := by
  refine ((isortPerm (le := leP) (atsL pl)).map Prod.snd).nodup_iff.mpr ?_
  rw [atsL, List.map_map]
  exact List.pairwise_map.mpr (List.nodup_range.imp fun {a b} h e => h (by have e' : (a : Int) = (b : Int) := e; omega))
/-- the pairs that meet gives -/
def prsL (pl : List Int) : List (Int × Int) := (List.range (pl.length / 2)).map fun i => (((lineL pl).getD i (0, 0)).2, ((lineL pl).getD (pl.length - 1 - i) (0, 0)).2)
def midL (pl : List Int) : Int := (isort leI pl).getD (pl.length / 2) 0
def metL (prs : List (Int × Int)) : List Int := prs.flatMap fun q => [q.1, q.2]
def pairsApart (pl : List Int) (prs : List (Int × Int)) : Int := (prs.map fun q => absI (pl.getD q.1.toNat 0 - pl.getD q.2.toNat 0)).sum
def meetsF (pl : List Int) (p : Int) (prs : List (Int × Int)) : Bool :=
  decide ((metL prs).Nodup) && (metL prs).all (fun x => decide (0 ≤ x) && decide (x < pl.length)) && decide (dist pl p = pairsApart pl prs)
theorem line_at (pl : List Int) {i : Nat} (h : i < pl.length) : (lineL pl).getD i (0, 0) ∈ lineL pl := by
  rw [List.getD_eq_getElem?_getD, List.getElem?_eq_getElem (by rw [line_len]; exact h)]
  exact List.getElem_mem _
theorem line_at_fst (pl : List Int) {i : Nat} (h : i < pl.length) : pl.getD ((lineL pl).getD i (0, 0)).2.toNat 0 = (isort leI pl).getD i 0 := by
  rw [(line_mem (line_at pl h)).2.2, ← line_fst, List.getD_eq_getElem?_getD, List.getD_eq_getElem?_getD, List.getElem?_map, List.getElem?_eq_getElem (by rw [line_len]; exact h)]
  rfl
theorem prs_apart (pl : List Int) : pairsApart pl (prsL pl) = apart (isort leI pl) := by
  unfold pairsApart prsL apart
  rw [List.map_map, isort_length]
  congr 1
  refine List.map_congr_left fun i hi => ?_
  have := List.mem_range.mp hi
  show absI (pl.getD ((lineL pl).getD i (0, 0)).2.toNat 0 - pl.getD ((lineL pl).getD (pl.length - 1 - i) (0, 0)).2.toNat 0) = _
  rw [line_at_fst pl (by omega), line_at_fst pl (by omega)]
theorem line_inj {pl : List Int} {i j : Nat} (hi : i < pl.length) (hj : j < pl.length) (h : ((lineL pl).getD i (0, 0)).2 = ((lineL pl).getD j (0, 0)).2) : i = j := by
  have hn := line_nodup pl
  have e1 : ((lineL pl).map Prod.snd)[i]? = some ((lineL pl).getD i (0, 0)).2 := by
    rw [List.getElem?_map, List.getD_eq_getElem?_getD, List.getElem?_eq_getElem (by rw [line_len]; exact hi)]; rfl
  have e2 : ((lineL pl).map Prod.snd)[j]? = some ((lineL pl).getD j (0, 0)).2 := by
    rw [List.getElem?_map, List.getD_eq_getElem?_getD, List.getElem?_eq_getElem (by rw [line_len]; exact hj)]; rfl
  exact (List.getElem?_inj (by rw [List.length_map, line_len]; exact hi) hn).mp (by rw [e1, e2, h])
theorem prs_nodup (pl : List Int) : (metL (prsL pl)).Nodup := by
  unfold metL prsL
  rw [List.flatMap_map]
  refine List.pairwise_flatMap.mpr ⟨fun i hi => ?_, ?_⟩
  · have := List.mem_range.mp hi
    refine List.pairwise_cons.mpr ⟨fun y hy => ?_, List.pairwise_singleton _ _⟩
    rw [List.mem_singleton.mp hy]
    exact fun e => absurd (line_inj (by omega) (by omega) e) (by omega)
  · refine (List.pairwise_lt_range (n := pl.length / 2)).imp_of_mem fun {i j} hi hj hij x hx y hy => ?_
    have := List.mem_range.mp hi
    have := List.mem_range.mp hj
    rcases List.mem_cons.mp hx with rfl | hx <;> rcases List.mem_cons.mp hy with rfl | hy
    · exact fun e => absurd (line_inj (by omega) (by omega) e) (by omega)
    · rw [List.mem_singleton.mp hy]
      exact fun e => absurd (line_inj (by omega) (by omega) e) (by omega)
    · rw [List.mem_singleton.mp hx]
      exact fun e => absurd (line_inj (by omega) (by omega) e) (by omega)
    · rw [List.mem_singleton.mp hx, List.mem_singleton.mp hy]
      exact fun e => absurd (line_inj (by omega) (by omega) e) (by omega)
theorem prs_in (pl : List Int) : ∀ x ∈ metL (prsL pl), 0 ≤ x ∧ x < pl.length := fun x hx => by
  obtain ⟨q, hq, hx⟩ := List.mem_flatMap.mp hx
  obtain ⟨i, hi, rfl⟩ := List.mem_map.mp hq
  have := List.mem_range.mp hi
  rcases List.mem_cons.mp hx with rfl | hx
  · have h := line_mem (line_at pl (i := i) (by omega)); exact ⟨h.1, h.2.1⟩
  · rw [List.mem_singleton.mp hx]
    have h := line_mem (line_at pl (i := pl.length - 1 - i) (by omega)); exact ⟨h.1, h.2.1⟩
theorem meets_true (pl : List Int) : meetsF pl (midL pl) (prsL pl) = true := by
  unfold meetsF
  rw [decide_eq_true (prs_nodup pl), List.all_eq_true.mpr fun x hx => by rw [decide_eq_true (prs_in pl x hx).1, decide_eq_true (prs_in pl x hx).2]; rfl]
  refine decide_eq_true ?_
  rw [prs_apart, ← dist_mid (isort_srd intsO pl), isort_length, dist_perm (isortPerm pl)]
  rfl
theorem meets_more (pl : List Int) (p : Int) (prs : List (Int × Int)) : meetsF pl p (prs ++ [(0, 0)]) = false := by
  have h : ¬ (metL (prs ++ [(0, 0)])).Nodup := by
    unfold metL
    rw [List.flatMap_append]
    intro h
    have h2 := (List.nodup_append.mp h).2.1
    exact absurd h2 (by decide)
  unfold meetsF
  rw [decide_eq_false h]
  rfl
theorem least_eq (pl : List Int) : dist (isort leI pl) (midL pl) = dist pl (midL pl) := dist_perm (isortPerm pl) _
theorem least_le (pl : List Int) (s : Int) : dist pl (midL pl) ≤ dist pl s := by
  have h := dist_ge (isort leI pl) s
  rw [dist_perm (isortPerm pl)] at h
  rw [← dist_perm (isortPerm (le := leI) pl), midL, ← isort_length (le := leI) pl, dist_mid (isort_srd intsO pl)]
  exact h
/-! ### numbers told apart -/
theorem ossStep (ks : List Int) (a : Int) : step_dedup ks a = if a ∈ ks then ks else ks ++ [a] := by
  unfold step_dedup
  simp
theorem nDist_nodup {l : List Int} : nDist l = l.length ↔ l.Nodup := by
  unfold nDist
  suffices h : ∀ (l ks : List Int), ks.Nodup → ((l.foldl step_dedup ks).length ≤ ks.length + l.length) ∧ ((l.foldl step_dedup ks).length = ks.length + l.length ↔ (ks ++ l).Nodup) by
    have := (h l [] List.nodup_nil).2
    simpa using this
  intro l
  induction l with
  | nil => intro ks hk; simp [hk]
  | cons x r ih =>
    intro ks hk
    rw [List.foldl_cons, ossStep]
    by_cases hx : x ∈ ks
    · rw [if_pos hx]
      obtain ⟨h1, h2⟩ := ih ks hk
      refine ⟨by rw [List.length_cons]; omega, ⟨fun e => ?_, fun e => ?_⟩⟩
      · rw [List.length_cons] at e; omega
      · exact absurd rfl ((List.nodup_append.mp e).2.2 x hx x (List.mem_cons_self ..))
    · rw [if_neg hx]
      have hk2 : (ks ++ [x]).Nodup := List.nodup_append.mpr ⟨hk, List.pairwise_singleton _ _, fun a ha b hb e => hx (by rw [← List.mem_singleton.mp hb, ← e]; exact ha)⟩
      obtain ⟨h1, h2⟩ := ih (ks ++ [x]) hk2
      rw [List.length_append, List.length_singleton] at h1 h2
      rw [List.append_assoc] at h2
      refine ⟨by rw [List.length_cons]; omega, ?_⟩
      rw [List.length_cons, ← Nat.add_assoc, Nat.add_right_comm, h2]
      exact Iff.rfl
end Wt

namespace Wt
open PySem PySem.Spec PyProof.Rows L2
def tabAt (o : Option Cell) : Option (List (List Key × D)) := match o with | some (.dT t) => some t | some (.lT t) => some t | _ => none
def getK (kvs : List (List Key × D)) (k : List Key) (s : Sto) : Rs D := match valD kvs k with | some d => .ok d s | none => .bad
def putK' (env : En) (y d : D) (k : Option (List Key)) (s : Sto) : Fl := match d, k with
  | .loc i, some ks => match s[i]? with
    | some (.dT kvs) => if szOk (kvs.length + 1) then .nx env (s.set i (.dT (putD kvs ks y))) else .bad
    | _ => .bad
  | _, _ => .bad
def rng3K (l : List D) (s : Sto) : Rs Itm := match l with
  | [.int i, .int j, .int c] => if decide (c ≠ 0) && decide (c.natAbs < 1073741824) && Builtin.Range.small i j c && decide (Builtin.Range.rangeSize i j c = ((Builtin.Range.rangeSize i j c).toNat : Int)) then .ok (stepD i c (Builtin.Range.rangeSize i j c).toNat, fun _ => true) s else .bad
  | _ => .bad
def lctK (vs : List Nat) (g : DenG) (P : DenB) (A : Den) (env : En) (n : Nat) (st : Sto) (o : Option Cell) : Rs (List D) := match o with
  | some (.dT kvs) => (noX (lcIt (fun _ => true) vs g P A env (kvs.map fun p => keyTup p.1) [] (st.set n (.lT kvs)))).bind fun l s => match s[n]? with
      | some (.lT _) => .ok l (s.set n (.dT kvs))
      | _ => .bad
  | _ => .bad
section
variable {env : En} {st s : Sto} {A B C : Den} {As : DenL}
@[simp] theorem tabAt_dT (t : List (List Key × D)) : tabAt (some (.dT t)) = some t := (rfl)
@[simp] theorem tabAt_lT (t : List (List Key × D)) : tabAt (some (.lT t)) = some t := (rfl)
@[simp] theorem getT_loc (n : Nat) : getT st (.loc n) = tabAt st[n]? := by
  unfold getT tabAt
  cases h : st[n]? with
  | none => simp [h]
  | some c => cases c <;> simp [h]
@[simp] theorem dGetT_ap : dGetT A B env st = (A env st).bind fun x s => (B env s).bind fun y s => optB (getT s x) fun kvs => optB (tupKey y) fun k => getK kvs k s := by
  unfold dGetT optB getK
  congr
  funext x s
  congr
  funext y s
  cases getT s x <;> cases tupKey y <;> rfl
@[simp] theorem dGetT2_ap : dGetT2 A B C env st = (A env st).bind fun x s => optB (getT s x) fun _ => (B env s).bind fun y s => (C env s).bind fun z s => optB (getT s x) fun kvs => optB (tupKey y) fun k => .ok ((valD kvs k).getD z) s := by
  unfold dGetT2 optB
  congr
  funext x s
  cases getT s x with
  | none => rfl
  | some k0 =>
    show Rs.bind _ _ = Rs.bind _ _
    congr
    funext y s
    congr
    funext z s
    cases getT s x <;> cases tupKey y <;> rfl
@[simp] theorem sPutT_ap (I : Den) : sPutT A I B env st = (B env st).then env fun y s => (A env s).then env fun d s => (I env s).then env fun k s => putK' env y d (tupKey k) s := by
  unfold sPutT
  (congr) <;> (funext y s; (congr) <;> (funext d s; (congr) <;> (funext k s; unfold putK'; cases d <;> cases tupKey k <;> rfl)))
@[simp] theorem dNewT_ap : dNewT env st = .ok (.loc st.length) (st ++ [.dT []]) := (rfl)
theorem putK_loc {n : Nat} {ks : List Key} {y : D} {t : List (List Key × D)} (h : s[n]? = some (.dT t)) (hl : t.length ≤ 16777215) : putK' env y (.loc n) (some ks) s = .nx env (s.set n (.dT (putD t ks y))) := by
  have hz : szOk (t.length + 1) = true := szOk_of (by omega)
  simp only [putK', h, hz, if_true]
@[simp] theorem iRng3D_ap : iRng3D As env st = (As env st).bind fun l s => rng3K l s := (rfl)
@[simp] theorem tupKey_ii (i j : Int) : tupKey (.tup [.int i, .int j]) = some [.inl i, .inl j] := (rfl)
theorem lLcT_at {i n : Nat} {vs : List Nat} {g : DenG} {P : DenB} {A : Den} (h : env[i]? = some (some (.loc n))) : lLcT i vs g P A env st = lctK vs g P A env n st st[n]? := by
  cases h2 : st[n]? with
  | none => simp [lLcT, lctK, h, h2]
  | some c => cases c <;> simp [lLcT, lctK, h, h2] <;> rfl
theorem lctK_of {n : Nat} {vs : List Nat} {g : DenG} {P : DenB} {A : Den} {kvs : List (List Key × D)} {l : List D} (hn : n < st.length) (h : lcIt (fun _ => true) vs g P A env (kvs.map fun p => keyTup p.1) [] (st.set n (.lT kvs)) = .ok l (st.set n (.lT kvs))) :
    lctK vs g P A env n st (some (.dT kvs)) = .ok l (st.set n (.dT kvs)) := by
  show (noX _).bind _ = _
  rw [h]
  show (match (st.set n (.lT kvs))[n]? with | some (.lT _) => _ | _ => _) = _
  rw [List.getElem?_set_self hn]
  simp
end
end Wt

namespace Wt
open PySem PySem.Spec PyProof.Rows L2
/-! ## commands -/
abbrev Cmd := Int × Int × Str × Int
abbrev cmdD (c : Cmd) : D := .tup [.int c.1, .int c.2.1, .str c.2.2.1, .int c.2.2.2]
abbrev leC (x y : Cmd) : Bool := leD (cmdD x) (cmdD y)
theorem leCO : TotPre leC := ⟨fun x y => leD_pre.tot _ _, fun x y z => leD_pre.tr _ _ _⟩
theorem lex_int (a b : Int) (r t : List PyData) : PyProof.Rows.lexLt PyProof.Rows.itemOrd (PySem.W.keyToksAll (.int a :: r)) (PySem.W.keyToksAll (.int b :: t)) = if a = b then PyProof.Rows.lexLt PyProof.Rows.itemOrd (PySem.W.keyToksAll r) (PySem.W.keyToksAll t) else decide (a < b) := by
  by_cases e : a = b
  · subst e
    rw [if_pos rfl]
    exact PySem.W.dataLt_all_yes (by simp [PySem.W.alike]) (by simp [PyData.eqv])
  · rw [if_neg e, ← PySem.W.dataLt_int]
    exact PySem.W.dataLt_all_no (by simp [PySem.W.alike]) (by simp [PyData.eqv, e])
theorem leC_tick {x y : Cmd} (h : leC x y = true) : x.1 ≤ y.1 := by
  unfold leC leD at h
  have h' : PySem.W.dataLt (cmdD y).py (cmdD x).py = false := by
    cases e : PySem.W.dataLt (cmdD y).py (cmdD x).py with
    | false => rfl
    | true => rw [e] at h; cases h
  rw [show (cmdD y).py = .tuple [.int y.1, .int y.2.1, .str y.2.2.1, .int y.2.2.2] from by simp [D.py, D.pys], show (cmdD x).py = .tuple [.int x.1, .int x.2.1, .str x.2.2.1, .int x.2.2.2] from by simp [D.py, D.pys], PySem.W.dataLt_tuple, lex_int] at h'
  by_cases e : y.1 = x.1
  · omega
  · rw [if_neg e] at h'
    have := of_decide_eq_false h'
    omega
theorem toks_int {a b : Int} {r t : List PyData} (h : PySem.W.keyToksAll (.int a :: r) = PySem.W.keyToksAll (.int b :: t)) : a = b ∧ PySem.W.keyToksAll r = PySem.W.keyToksAll t := by
  rw [PySem.W.toks_all_cons, PySem.W.toks_all_cons] at h
  simp only [PySem.W.keyToks, List.cons_append, List.nil_append, List.cons.injEq, true_and, Sum.inl.injEq] at h
  exact h
theorem toks_str {a b : Str} {r t : List PyData} (h : PySem.W.keyToksAll (.str a :: r) = PySem.W.keyToksAll (.str b :: t)) : a = b ∧ PySem.W.keyToksAll r = PySem.W.keyToksAll t := by
  rw [PySem.W.toks_all_cons, PySem.W.toks_all_cons] at h
  simp only [PySem.W.keyToks, List.cons_append, List.nil_append, List.cons.injEq, true_and, Sum.inr.injEq] at h
  exact ⟨PySem.W.str_of_cps h.1, h.2⟩
theorem leC_anti (x y : Cmd) (h1 : leC x y = true) (h2 : leC y x = true) : x = y := by
  have h := leD_toks h1 h2
  simp only [D.py, D.pys, PySem.W.keyToks] at h
  obtain ⟨e1, h⟩ := toks_int h
  obtain ⟨e2, h⟩ := toks_int h
  obtain ⟨e3, h⟩ := toks_str h
  obtain ⟨e4, _⟩ := toks_int h
  exact Prod.ext e1 (Prod.ext e2 (Prod.ext e3 e4))
theorem sortOk_cmds (l : List Cmd) : sortOk (l.map cmdD) = true := sortOk_map (fun _ _ => rfl) (fun _ => by simp [D.py, D.pys, PyData.depth, PyData.depthAll]) nofun
theorem isort_cmds (l : List Cmd) : isort leD (l.map cmdD) = (isort leC l).map cmdD := isortMap (fun _ _ => rfl) l
theorem EqCmd : EqOn (fun c : Cmd => True ∧ True ∧ PyData.strOk c.2.2.1 = true ∧ True) cmdD 1 := EqOn.int.tup4 EqOn.int EqOn.str EqOn.int
def okC (c : Cmd) : Prop := PyData.strOk c.2.2.1 = true
/-! ### where a film stands -/
abbrev kMove : Str := "move"
abbrev kGo : Str := "go"
abbrev kHold : Str := "hold"
def minL (a b : Int) : Int := if b < a then b else a
@[simp] theorem minL_of (a b : Int) : (if b < a then b else a) = minL a b := (rfl)
def stepC (L : Int) (s : Int × Bool × Int) (c : Cmd) : Int × Bool × Int :=
  if c.2.2.1 = kMove then (c.2.2.2, s.2.1, c.1) else (if s.2.1 then minL L (s.1 + c.1 - s.2.2) else s.1, decide (c.2.2.1 = kGo), c.1)
def endC (L t : Int) (s : Int × Bool × Int) : Int × Bool := (if s.2.1 then minL L (s.1 + t - s.2.2) else s.1, s.2.1)
def runC (L : Int) (cs : List Cmd) : Int × Bool × Int := cs.foldl (stepC L) (0, false, 0)
def standL (L : Int) (cs : List Cmd) (t : Int) : Int × Bool := endC L t (runC L ((isort leC cs).takeWhile fun c => decide (c.1 ≤ t)))
theorem stand_filter (cs : List Cmd) (t : Int) : isort leC (cs.filter fun c => decide (c.1 ≤ t)) = (isort leC cs).takeWhile fun c => decide (c.1 ≤ t) := by
  rw [isort_filter leCO]
  exact srd_take (fun x y h hy => by
    have := leC_tick h
    have := of_decide_eq_true hy
    exact decide_eq_true (by omega)) (isort_srd leCO cs)
theorem stand_perm (L : Int) {cs ds : List Cmd} (h : cs.Perm ds) (t : Int) : standL L cs t = standL L ds t := by
  unfold standL
  rw [isort_eq leCO leC_anti h]
/-! ### a table of commands -/
abbrev Row := (Int × Int) × (Str × Int)
def putC (t : List Row) (r : Row) : List Row := if (t.any fun p => decide (p.1 = r.1)) = true then t.map (fun p => if p.1 = r.1 then (p.1, r.2) else p) else t ++ [r]
def rowK (k : Int × Int) : List Key := [.inl k.1, .inl k.2]
def rowD (r : Row) : List Key × D := (rowK r.1, .tup [.str r.2.1, .int r.2.2])
def rowC (r : Row) : Cmd := (r.1.1, r.1.2, r.2.1, r.2.2)
theorem rowK_inj (a b : Int × Int) : rowK a = rowK b ↔ a = b := by
  unfold rowK
  rw [Prod.ext_iff]
  simp
theorem put_rows (t : List Row) (r : Row) : putD (t.map rowD) (rowK r.1) (rowD r).2 = (putC t r).map rowD := by
  have h : ((t.map rowD).any fun kv => decide (kv.1 = rowK r.1)) = t.any fun p => decide (p.1 = r.1) := by
    rw [List.any_map]
    congr 1
    funext p
    show decide (rowK p.1 = rowK r.1) = _
    rw [decide_eq_decide]
    exact rowK_inj _ _
  unfold putD putC
  rw [h]
  split
  · rw [List.map_map, List.map_map]
    refine List.map_congr_left fun p _ => ?_
    show (if rowK p.1 = rowK r.1 then _ else _) = rowD (if p.1 = r.1 then _ else _)
    by_cases e : p.1 = r.1
    · rw [if_pos e, if_pos ((rowK_inj _ _).mpr e)]
      rfl
    · rw [if_neg e, if_neg fun z => e ((rowK_inj _ _).mp z)]
  · rw [List.map_append]
    rfl
theorem put_keys (t : List Row) (r : Row) (h : (t.map (·.1)).Nodup) : ((putC t r).map (·.1)).Nodup := by
  unfold putC
  split
  · rw [List.map_map]
    have : (t.map ((fun x : Row => x.1) ∘ fun p => if p.1 = r.1 then (p.1, r.2) else p)) = t.map (·.1) := List.map_congr_left fun p _ => by
      show (if p.1 = r.1 then (p.1, r.2) else p).1 = p.1
      split <;> rfl
    rw [this]
    exact h
  · rename_i hz
    rw [List.map_append]
    refine List.nodup_append.mpr ⟨h, List.pairwise_singleton _ _, fun a ha b hb e => hz ?_⟩
    obtain ⟨p, hp, rfl⟩ := List.mem_map.mp ha
    have hb' : b = r.1 := by simpa using hb
    exact List.any_eq_true.mpr ⟨p, hp, decide_eq_true (by rw [e, hb'])⟩
theorem put_len (t : List Row) (r : Row) : (putC t r).length ≤ t.length + 1 := by
  unfold putC
  split
  · rw [List.length_map]; omega
  · rw [List.length_append]; exact Nat.le_refl _
theorem put_mem {t : List Row} {r p : Row} (h : p ∈ putC t r) : p ∈ t ∨ p = r := by
  unfold putC at h
  split at h
  · obtain ⟨q, hq, rfl⟩ := List.mem_map.mp h
    by_cases e : q.1 = r.1
    · rw [if_pos e]; exact .inr (Prod.ext e rfl)
    · rw [if_neg e]; exact .inl hq
  · rcases List.mem_append.mp h with h | h
    · exact .inl h
    · exact .inr (List.mem_singleton.mp h)
theorem val_rows : ∀ {t : List Row} {r : Row}, (t.map (·.1)).Nodup → r ∈ t → valD (t.map rowD) (rowK r.1) = some (.tup [.str r.2.1, .int r.2.2])
  | p :: t, r, hn, hr => by
    rw [List.map_cons] at hn
    obtain ⟨h1, h2⟩ := List.pairwise_cons.mp hn
    unfold valD
    rw [List.map_cons, List.find?_cons]
    rcases List.mem_cons.mp hr with rfl | hr
    · rw [show decide ((rowD r).1 = rowK r.1) = true from decide_eq_true rfl]
      rfl
    · have hne : ¬ rowK p.1 = rowK r.1 := fun e => h1 r.1 (List.mem_map.mpr ⟨r, hr, rfl⟩) ((rowK_inj _ _).mp e)
      rw [show decide ((rowD p).1 = rowK r.1) = false from decide_eq_false hne]
      exact val_rows h2 hr
def tabL (f : Nat → Row) (n : Nat) : List Row := (List.range n).foldl (fun t i => putC t (f i)) []
theorem tab_succ (f : Nat → Row) (n : Nat) : tabL f (n + 1) = putC (tabL f n) (f n) := by
  unfold tabL
  rw [List.range_succ, List.foldl_append]
  rfl
theorem tab_keys (f : Nat → Row) : ∀ n, ((tabL f n).map (·.1)).Nodup
  | 0 => List.nodup_nil
  | n + 1 => by rw [tab_succ]; exact put_keys _ _ (tab_keys f n)
theorem tab_len (f : Nat → Row) : ∀ n, (tabL f n).length ≤ n
  | 0 => Nat.le_refl _
  | n + 1 => by
    rw [tab_succ]
    have := put_len (tabL f n) (f n)
    have := tab_len f n
    omega
theorem tab_mem (f : Nat → Row) : ∀ n, ∀ p ∈ tabL f n, ∃ i, i < n ∧ p = f i
  | 0, p, h => (nomatch h)
  | n + 1, p, h => by
    rw [tab_succ] at h
    rcases put_mem h with h | h
    · obtain ⟨i, hi, e⟩ := tab_mem f n p h
      exact ⟨i, by omega, e⟩
    · exact ⟨n, by omega, h⟩
end Wt

namespace Wt
open PySem PySem.Spec PyProof.Rows L2
section
variable {α : Type} {S : α → Prop} {e : α → D} {n : Nat}
theorem EqOn.anyD [DecidableEq α] (E : EqOn S e n) {x : α} (hx : S x) : ∀ l : List α, (∀ z ∈ l, S z) → ((l.map e).any fun z => PyData.eqv z.py (e x).py) = decide (x ∈ l)
  | [], _ => rfl
  | y :: l, h => by
    have h1 := h y (List.mem_cons_self ..)
    rw [List.map_cons, List.any_cons, EqOn.anyD E hx l fun z hz => h z (List.mem_cons_of_mem _ hz)]
    by_cases hxy : y = x
    · subst hxy
      rw [(E.eq y y h1 h1).mpr rfl]
      simp
    · have : PyData.eqv (e y).py (e x).py = false := by
        cases e' : PyData.eqv (e y).py (e x).py with
        | false => rfl
        | true => exact absurd ((E.eq y x h1 hx).mp e') hxy
      rw [this, Bool.false_or, decide_eq_decide]
      simp [Ne.symm hxy]
theorem EqOn.inB [DecidableEq α] (E : EqOn S e n) {st : Sto} {y : D} {l : List α} {x : α} [Decidable (x ∈ l)] (hy : IsL st y (l.map e)) (hx : S x) (hl : ∀ z ∈ l, S z) (hn : n ≤ 59 := by decide) : inB st (e x) y = some (decide (x ∈ l)) := by
  have o1 : (e x).okEq = true := E.ok (by omega) hx
  have o2 : (D.lst (l.map e)).okEq = true := E.lst.ok (by omega) hl
  have hg := hy.g
  have key : (getD' st y).okEq = true ∧ ∀ m, y ≠ .tup m := by
    cases y with
    | lst m =>
      cases (Option.some.inj hg)
      exact ⟨o2, nofun⟩
    | scr m =>
      cases (Option.some.inj hg)
      exact ⟨o2, nofun⟩
    | loc k =>
      rw [getL_loc] at hg
      cases h : st[k]? with
      | none => rw [h] at hg; cases hg
      | some c =>
        rw [h] at hg
        cases c with
        | list m =>
          have hg' : some m = some (l.map e) := hg
          cases (Option.some.inj hg')
          refine ⟨?_, nofun⟩
          simp only [getD', h]
          exact o2
        | _ => exact absurd hg (by simp [lstAt])
    | _ => cases hg
  unfold Wt.inB
  split
  · exact absurd rfl (key.2 _)
  · rw [o1, key.1, hg]
    show some ((l.map e).any fun z => PyData.eqv z.py (e x).py) = _
    rw [E.anyD hx l hl]
    exact congrArg some (decide_eq_decide.mpr Iff.rfl)
theorem EqOn.fIn [DecidableEq α] (E : EqOn S e n) {st : Sto} {y : D} {l : List α} {x : α} [Decidable (x ∈ l)] (hy : IsL st y (l.map e)) (hx : S x) (hl : ∀ z ∈ l, S z) (hn : n ≤ 59 := by decide) : fIn (e x) y st = .ok (.bl (decide (x ∈ l))) st := by
  unfold Wt.fIn
  rw [E.inB hy hx hl hn]
theorem EqOn.fNotIn [DecidableEq α] (E : EqOn S e n) {st : Sto} {y : D} {l : List α} {x : α} [Decidable (x ∈ l)] (hy : IsL st y (l.map e)) (hx : S x) (hl : ∀ z ∈ l, S z) (hn : n ≤ 59 := by decide) : fNotIn (e x) y st = .ok (.bl (!decide (x ∈ l))) st := by
  unfold Wt.fNotIn
  rw [E.inB hy hx hl hn]
end
theorem leave_inst {n c : Nat} {st s : Sto} {l : List D} (hn : st.length ≤ n) (h : (st ++ s)[n]? = some (.inst c l)) (hc : D.caps st.length l = true) : leave st (.ok (.loc n) (st ++ s)) = .ok (.ins c l) st := by
  have hf : frzD st.length (st ++ s) (.loc n) = some (.ins c l) := by
    show (if Nat.blt n st.length then _ else _) = _
    rw [if_neg (by rw [Nat.blt_eq]; omega), h]
    show (if _ then _ else _) = _
    rw [if_pos hc]
  show (match frzD st.length (st ++ s) (.loc n) with | some d' => _ | none => _) = _
  rw [hf]
  simp
@[simp] theorem fEq_bl (a b : Bool) (st : Sto) : fEq (.bl a) (.bl b) st = .ok (.bl (decide (a = b))) st := EqOn.bl.fEq (x := a) (y := b) rfl rfl trivial trivial
@[simp] theorem fNe_bl (a b : Bool) (st : Sto) : fNe (.bl a) (.bl b) st = .ok (.bl (!decide (a = b))) st := EqOn.bl.fNe (x := a) (y := b) rfl rfl trivial trivial
theorem okC_eq {c : Cmd} (h : okC c) : True ∧ True ∧ PyData.strOk c.2.2.1 = true ∧ True := ⟨trivial, trivial, h, trivial⟩
theorem fIn_cmd {st : Sto} {y : D} {l : List Cmd} {c : Cmd} (hy : IsL st y (l.map cmdD)) (hc : okC c) (hl : ∀ z ∈ l, okC z) : fIn (cmdD c) y st = .ok (.bl (decide (c ∈ l))) st := EqCmd.fIn hy (okC_eq hc) fun z hz => okC_eq (hl z hz)
theorem fNe_cmd {st : Sto} {c d : Cmd} (hc : okC c) (hd : okC d) : fNe (cmdD c) (cmdD d) st = .ok (.bl (!decide (c = d))) st := EqCmd.fNe (x := c) (y := d) rfl rfl (okC_eq hc) (okC_eq hd)
theorem fEq_cmd {st : Sto} {c d : Cmd} (hc : okC c) (hd : okC d) : fEq (cmdD c) (cmdD d) st = .ok (.bl (decide (c = d))) st := EqCmd.fEq (x := c) (y := d) rfl rfl (okC_eq hc) (okC_eq hd)
theorem at_c0 (a b c d : D) : atI [a, b, c, d] 0 = some a := (rfl)
theorem at_c1 (a b c d : D) : atI [a, b, c, d] 1 = some b := (rfl)
theorem at_c2 (a b c d : D) : atI [a, b, c, d] 2 = some c := (rfl)
theorem at_c3 (a b c d : D) : atI [a, b, c, d] 3 = some d := (rfl)
theorem at_p0 (a b : D) : atI [a, b] 0 = some a := (rfl)
theorem at_p1 (a b : D) : atI [a, b] 1 = some b := (rfl)
theorem fMax1_ints (n : Int) (r : List Int) (st : Sto) : fMax1 [.lst ((n :: r).map D.int)] st = .ok (.int (gMax n r)) st := by
  have h : (getL st (.lst ((n :: r).map D.int))).bind intsOf = some (n :: r) := intsOf_map (n :: r)
  simp only [fMax1, h]
end Wt

namespace Wt
open PySem PySem.Spec PyProof.Rows L2
/-! ## more of where a film stands -/
/-- a command of a film of that length -/
structure Vc (L : Int) (c : Cmd) : Prop where
  t0 : 0 ≤ c.1
  h0 : 0 ≤ c.2.1
  h4 : c.2.1 < 4
  k : c.2.2.1 = kHold ∨ c.2.2.1 = kGo ∨ c.2.2.1 = kMove
  p0 : 0 ≤ c.2.2.2
  p1 : if c.2.2.1 = kMove then c.2.2.2 ≤ L else c.2.2.2 = 0
theorem step_le {L : Int} {s : Int × Bool × Int} {c : Cmd} (hc : Vc L c) (h : s.1 ≤ L) : (stepC L s c).1 ≤ L := by
  unfold stepC
  have := hc.p1
  by_cases hm : c.2.2.1 = kMove
  · rw [if_pos hm] at this ⊢
    exact this
  · rw [if_neg hm]
    show (if s.2.1 then minL L (s.1 + c.1 - s.2.2) else s.1) ≤ L
    split
    · unfold minL; split <;> omega
    · exact h
theorem step_twice {L : Int} {s : Int × Bool × Int} {c : Cmd} (hc : Vc L c) (h : s.1 ≤ L) : stepC L (stepC L s c) c = stepC L s c := by
  have h1 := step_le hc h
  unfold stepC at *
  by_cases hm : c.2.2.1 = kMove
  · rw [if_pos hm, if_pos hm]
  · rw [if_neg hm] at h1
    rw [if_neg hm, if_neg hm]
    have hz : (if s.2.1 then minL L (s.1 + c.1 - s.2.2) else s.1) ≤ L := h1
    generalize (if s.2.1 then minL L (s.1 + c.1 - s.2.2) else s.1) = p at *
    refine Prod.ext ?_ rfl
    show (if decide (c.2.2.1 = kGo) = true then minL L (p + c.1 - c.1) else p) = p
    split
    · unfold minL; split <;> omega
    · rfl
/-- one more time the same command, in a sorted row -/
theorem ins_again (c : Cmd) : ∀ {l : List Cmd}, Srd leC l → c ∈ l → ∃ A B, l = A ++ c :: B ∧ ins leC c l = A ++ c :: c :: B
  | x :: r, hs, hc => by
    obtain ⟨h1, h2⟩ := List.pairwise_cons.mp hs
    by_cases e : leC c x = true
    · have hx : x = c := by
        rcases List.mem_cons.mp hc with rfl | hc
        · rfl
        · exact leC_anti _ _ (h1 c hc) e
      subst hx
      exact ⟨[], r, rfl, if_pos e⟩
    · have hcr : c ∈ r := by
        rcases List.mem_cons.mp hc with rfl | hc
        · exact absurd ((leCO.tot c c).elim id id) e
        · exact hc
      obtain ⟨A, B, e1, e2⟩ := ins_again c h2 hcr
      refine ⟨x :: A, B, by rw [e1]; rfl, ?_⟩
      show (if leC c x = true then _ else _) = _
      rw [if_neg e, e2]
      rfl
theorem fold_le {L : Int} : ∀ (l : List Cmd) (s : Int × Bool × Int), (∀ c ∈ l, Vc L c) → s.1 ≤ L → (l.foldl (stepC L) s).1 ≤ L
  | [], _, _, h => h
  | c :: r, s, hv, h => fold_le r (stepC L s c) (fun x hx => hv x (List.mem_cons_of_mem _ hx)) (step_le (hv c (List.mem_cons_self ..)) h)
theorem stand_again {L : Int} {cs : List Cmd} (hL : 0 ≤ L) (hv : ∀ c ∈ cs, Vc L c) {c : Cmd} (hc : c ∈ cs) (t : Int) : standL L (c :: cs) t = standL L cs t := by
  obtain ⟨A, B, e1, e2⟩ := ins_again c (isort_srd leCO cs) (isort_mem.mpr hc)
  unfold standL
  rw [show isort leC (c :: cs) = A ++ c :: c :: B from e2, e1]
  have hA : ∀ x ∈ A, Vc L x := fun x hx => hv x (isort_mem.mp (by rw [e1]; exact List.mem_append_left _ hx))
  congr 1
  unfold runC
  rw [List.takeWhile_append, List.takeWhile_append]
  by_cases hall : (List.takeWhile (fun c => decide (c.1 ≤ t)) A).length = A.length
  · rw [if_pos hall, if_pos hall, List.foldl_append, List.foldl_append]
    have hle := fold_le A (0, false, 0) hA hL
    generalize A.foldl (stepC L) (0, false, 0) = s at *
    by_cases ht : c.1 ≤ t
    · rw [List.takeWhile_cons, if_pos (decide_eq_true ht), List.takeWhile_cons, if_pos (decide_eq_true ht), List.foldl_cons, List.foldl_cons, List.foldl_cons, step_twice (hv c hc) hle]
    · rw [List.takeWhile_cons, if_neg (by simpa using ht), List.takeWhile_cons, if_neg (by simpa using ht)]
  · rw [if_neg hall, if_neg hall]
theorem stand_twice {L : Int} {cs : List Cmd} (hL : 0 ≤ L) (hv : ∀ c ∈ cs, Vc L c) (t : Int) : ∀ ds : List Cmd, (∀ c ∈ ds, c ∈ cs) → standL L (ds ++ cs) t = standL L cs t
  | [], _ => rfl
  | d :: ds, h => by
    have hd := h d (List.mem_cons_self ..)
    rw [List.cons_append, stand_again hL (fun c hc => by
      rcases List.mem_append.mp hc with hc | hc
      · exact hv c (h c (List.mem_cons_of_mem _ hc))
      · exact hv c hc) (List.mem_append_right _ hd), stand_twice hL hv t ds fun c hc => h c (List.mem_cons_of_mem _ hc)]
end Wt

namespace Wt
open PySem PySem.Spec PyProof.Rows L2
theorem stepD_map (c : Int) : ∀ (n : Nat) (lo : Int), stepD lo c n = (List.range n).map fun i : Nat => D.int (lo + (i : Int) * c)
  | 0, _ => rfl
  | n + 1, lo => by
    rw [stepD, stepD_map c n, List.range_succ_eq_map, List.map_cons, List.map_map]
    congr 1
    · simp
    · exact List.map_congr_left fun i _ => by
        show D.int _ = D.int _
        congr 1
        show lo + c + (i : Int) * c = lo + ((i + 1 : Nat) : Int) * c
        rw [Int.natCast_succ, Int.add_mul]
        omega
theorem rng3_ok {lo hi c : Int} (h0 : 0 ≤ lo) (h1 : lo ≤ 1000000) (h2 : 0 ≤ hi) (h3 : hi ≤ 1000000) (c0 : 1 ≤ c) (c1 : c ≤ 1000000) (s : Sto) :
    ∃ n : Nat, rng3K [.int lo, .int hi, .int c] s = .ok ((List.range n).map (fun i : Nat => D.int (lo + (i : Int) * c)), fun _ => true) s ∧ n ≤ 1000000 ∧ ∀ i : Nat, i < n → lo + (i : Int) * c < hi := by
  have hp : c > 0 := by omega
  have hs : Builtin.Range.rangeSize lo hi c = if lo < hi then (hi - lo - 1) / c + 1 else 0 := if_pos hp
  have hd : lo < hi → 0 ≤ (hi - lo - 1) / c ∧ (hi - lo - 1) / c ≤ hi - lo - 1 := fun h => ⟨Int.ediv_nonneg (by omega) (by omega), Int.ediv_le_self _ (by omega)⟩
  have hm : lo < hi → (hi - lo - 1) / c * c ≤ hi - lo - 1 := fun h => Int.ediv_mul_le _ (by omega)
  have h5 : Builtin.Range.rangeSize lo hi c = ((Builtin.Range.rangeSize lo hi c).toNat : Int) := by
    rw [hs]
    split
    · have := hd ‹_›; omega
    · rfl
  have hsm : Builtin.Range.small lo hi c = true := by
    unfold Builtin.Range.small
    rw [hs]
    simp only [Builtin.Range.rangeFitsLong, Bool.and_eq_true, Bool.or_eq_true, decide_eq_true_eq, beq_iff_eq, hp, if_true]
    by_cases h : lo < hi
    · have := hd h
      have := hm h
      simp only [h, if_true]
      omega
    · simp only [h, if_false]
      omega
  refine ⟨(Builtin.Range.rangeSize lo hi c).toNat, ?_, ?_, fun i hi' => ?_⟩
  · have hc : decide (c ≠ 0) = true := decide_eq_true (by omega)
    have hc2 : decide (c.natAbs < 1073741824) = true := decide_eq_true (by omega)
    show (if _ then _ else _) = _
    rw [hc, hc2, hsm, decide_eq_true h5, if_pos (show (true && true && true && true) = true from rfl), stepD_map]
  · rw [hs]
    split
    · have := hd ‹_›; omega
    · decide
  · rw [hs] at hi'
    by_cases h : lo < hi
    · rw [if_pos h] at hi'
      have h6 := hd h
      have h7 := hm h
      have h8 : (i : Int) ≤ (hi - lo - 1) / c := by omega
      have h9 : (i : Int) * c ≤ (hi - lo - 1) / c * c := Int.mul_le_mul_of_nonneg_right h8 (by omega)
      omega
    · rw [if_neg h] at hi'
      exact absurd hi' (Nat.not_lt_zero _)
end Wt

namespace Wt
open PySem PySem.Spec PyProof.Rows L2
/-! ## loops by an invariant of the items left -/
def Nx (r : Fl) (P : En → Sto → Prop) : Prop := match r with | .nx e s => P e s | _ => False
@[simp] theorem Nx_nx {e : En} {s : Sto} {P : En → Sto → Prop} : Nx (.nx e s) P = P e s := (rfl)
theorem Nx.ex {r : Fl} {P : En → Sto → Prop} (h : Nx r P) : ∃ e s, r = .nx e s ∧ P e s := by
  cases r with
  | nx e s => exact ⟨e, s, rfl, h⟩
  | _ => exact False.elim h
theorem Nx.imp {r : Fl} {P Q : En → Sto → Prop} (h : Nx r P) (i : ∀ e s, P e s → Q e s) : Nx r Q := by
  cases r with
  | nx e s => exact i e s h
  | _ => exact False.elim h
theorem Nx.seq {r : Fl} {P Q : En → Sto → Prop} {B : DenS} (h : Nx r P) (i : ∀ e s, P e s → Nx (B e s) Q) : Nx (seqK r B) Q := by
  cases r with
  | nx e s => exact i e s h
  | _ => exact False.elim h
theorem for_nx {α : Type} {keep : Sto → Bool} {g : DenG} {B : DenS} {enc : α → D} (I : List α → En → Sto → Prop) (hk : ∀ r e s, I r e s → keep s = true)
    (h : ∀ x r e s, I (x :: r) e s → Nx (entK (g (enc x) e) fun e1 => B e1 s) (I r)) : ∀ (xs : List α) (e : En) (s : Sto), I xs e s → Nx (forIt keep g B (xs.map enc) e s) (I [])
  | [], e, s, hi => by
    rw [List.map_nil, forIt_nil (hk _ _ _ hi)]
    exact hi
  | x :: r, e, s, hi => by
    have h1 := h x r e s hi
    rw [List.map_cons, forIt_cons (hk _ _ _ hi)]
    cases e1 : g (enc x) e with
    | none => rw [e1] at h1; exact False.elim h1
    | some e2 =>
      rw [e1] at h1
      obtain ⟨e3, s3, h2, h3⟩ := h1.ex
      show Nx (bodyK _ (B e2 s)) _
      rw [show B e2 s = .nx e3 s3 from h2]
      exact for_nx I hk h r e3 s3 h3
/-- a loop whose items are of one kind and whose invariant stays -/
theorem for_all {α : Type} {keep : Sto → Bool} {g : DenG} {B : DenS} {enc : α → D} (I : En → Sto → Prop) (S : α → Prop) (hk : ∀ e s, I e s → keep s = true)
    (h : ∀ x e s, S x → I e s → Nx (entK (g (enc x) e) fun e1 => B e1 s) I) (xs : List α) (e : En) (s : Sto) (hS : ∀ x ∈ xs, S x) (hi : I e s) : Nx (forIt keep g B (xs.map enc) e s) I :=
  (for_nx (fun r e s => (∀ x ∈ r, S x) ∧ I e s) (fun _ e s q => hk e s q.2) (fun x r e s q => (h x e s (q.1 x (List.mem_cons_self ..)) q.2).imp fun e' s' i => ⟨fun y hy => q.1 y (List.mem_cons_of_mem _ hy), i⟩) xs e s ⟨hS, hi⟩).imp fun _ _ q => q.2
/-- where one stands, told -/
abbrev standD (q : Int × Bool) : D := .tup [.int q.1, .bl q.2]
theorem EqStand : EqOn (fun _ : Int × Bool => True ∧ True) standD 1 := EqOn.int.tup2 EqOn.bl
@[simp] theorem fNe_stand (a c : Int) (b d : Bool) (st : Sto) : fNe (.tup [.int a, .bl b]) (.tup [.int c, .bl d]) st = .ok (.bl (!decide ((a, b) = (c, d)))) st := EqStand.fNe (x := (a, b)) (y := (c, d)) rfl rfl ⟨trivial, trivial⟩ ⟨trivial, trivial⟩
@[simp] theorem fEq_stand (a c : Int) (b d : Bool) (st : Sto) : fEq (.tup [.int a, .bl b]) (.tup [.int c, .bl d]) st = .ok (.bl (decide ((a, b) = (c, d)))) st := EqStand.fEq (x := (a, b)) (y := (c, d)) rfl rfl ⟨trivial, trivial⟩ ⟨trivial, trivial⟩
theorem EqCmds : EqOn (fun l : List Cmd => ∀ x ∈ l, True ∧ True ∧ PyData.strOk x.2.2.1 = true ∧ True) (fun l => D.lst (l.map cmdD)) 2 := EqCmd.lst
theorem okCs {l : List Cmd} (h : ∀ c ∈ l, okC c) : ∀ x ∈ l, True ∧ True ∧ PyData.strOk x.2.2.1 = true ∧ True := fun x hx => okC_eq (h x hx)
theorem getD_of {st : Sto} {d : D} {l : List D} (h : IsL st d l) : getD' st d = .lst l ∨ getD' st d = .scr l := by
  have hg := h.g
  cases d with
  | lst m => cases Option.some.inj hg; exact .inl rfl
  | scr m => cases Option.some.inj hg; exact .inr rfl
  | loc n =>
    rw [getL_loc] at hg
    cases e : st[n]? with
    | none => rw [e] at hg; cases hg
    | some c =>
      cases c with
      | list m =>
        rw [e] at hg
        cases Option.some.inj hg
        left
        simp [getD', e]
      | _ => rw [e] at hg; cases hg
  | _ => cases hg
theorem eqB_L {st : Sto} {d e : D} {l m : List D} (hd : IsL st d l) (he : IsL st e m) : eqB st d e = eqB st (.lst l) (.lst m) := by
  have h1 : ∀ {x : D} {l : List D}, getD' st x = .lst l ∨ getD' st x = .scr l → (getD' st x).okEq = (D.lst l).okEq ∧ (getD' st x).py = (D.lst l).py := by
    intro x l h
    rcases h with h | h <;> rw [h] <;> exact ⟨rfl, rfl⟩
  obtain ⟨o1, p1⟩ := h1 (getD_of hd)
  obtain ⟨o2, p2⟩ := h1 (getD_of he)
  have key : ∀ (x y : D), (∀ i j, ¬ (x = .int i ∧ y = .int j)) → eqB st x y = if (getD' st x).okEq && (getD' st y).okEq then some (PyData.eqv (getD' st x).py (getD' st y).py) else none := by
    intro x y hn
    unfold eqB
    split
    · exact absurd ⟨rfl, rfl⟩ (hn _ _)
    · rfl
  have hg1 := hd.g
  rw [key d e (fun i j ⟨z, _⟩ => by rw [z] at hg1; cases hg1), key (.lst l) (.lst m) (fun i j ⟨z, _⟩ => by cases z), o1, o2, p1, p2]
  rfl
theorem fNe_L {st : Sto} {d e : D} {l m : List D} (hd : IsL st d l) (he : IsL st e m) : fNe d e st = fNe (.lst l) (.lst m) st := by
  unfold fNe
  rw [eqB_L hd he]
theorem fEq_L {st : Sto} {d e : D} {l m : List D} (hd : IsL st d l) (he : IsL st e m) : fEq d e st = fEq (.lst l) (.lst m) st := by
  unfold fEq
  rw [eqB_L hd he]
theorem fNe_cmds {st : Sto} {d e : D} {l m : List Cmd} (hd : IsL st d (l.map cmdD)) (he : IsL st e (m.map cmdD)) (h1 : ∀ c ∈ l, okC c) (h2 : ∀ c ∈ m, okC c) : fNe d e st = .ok (.bl (!decide (l = m))) st := by
  rw [fNe_L hd he]
  exact EqCmds.fNe (x := l) (y := m) rfl rfl (okCs h1) (okCs h2)
theorem fEq_cmds {st : Sto} {d e : D} {l m : List Cmd} (hd : IsL st d (l.map cmdD)) (he : IsL st e (m.map cmdD)) (h1 : ∀ c ∈ l, okC c) (h2 : ∀ c ∈ m, okC c) : fEq d e st = .ok (.bl (decide (l = m))) st := by
  rw [fEq_L hd he]
  exact EqCmds.fEq (x := l) (y := m) rfl rfl (okCs h1) (okCs h2)
theorem fNe_bls (l m : List Bool) (st : Sto) : fNe (.lst (l.map .bl)) (.lst (m.map .bl)) st = .ok (.bl (!decide (l = m))) st := EqOn.bl.lst.fNe (x := l) (y := m) rfl rfl (fun _ _ => trivial) (fun _ _ => trivial)
theorem fEq_bls (l m : List Bool) (st : Sto) : fEq (.lst (l.map .bl)) (.lst (m.map .bl)) st = .ok (.bl (decide (l = m))) st := EqOn.bl.lst.fEq (x := l) (y := m) rfl rfl (fun _ _ => trivial) (fun _ _ => trivial)
end Wt

/-! Core 13: sets of tuples whose members are keys of any one kind; sorted(set(xs)), len(set(xs)). -/
namespace Wt
open PySem PySem.Spec PyProof.Rows L2
section
variable {P : Program} {w : World} {κ : Type} [DecidableEq κ] (kd : PySem.KeyKind P w κ)
abbrev Tp (h : Heap) (k : List κ) (a : Addr) : Prop := IsTupleKey kd h k a
abbrev hsh (k : List κ) : Int := tupleKeyHash kd k
/-- the members are told apart without a class statement -/
def Qt : Prop := ∀ (k : κ) (v : Value) (n : Nat), kd.is k v = true → ofAClassStatement n v = pure false ∧ ∃ b, hashByValue n v = pure b
def rws (L : List (Addr × List κ)) : List (Int × Value) := L.map fun z => (hsh kd z.2, Value.ref z.1)
variable {kd} {A : Around} {E : Value → Shared → Prop} {s : Shared}
theorem mem_is : ∀ {k : List κ} {vs : List Value}, ItemsAre kd k vs → ∀ v ∈ vs, ∃ x, kd.is x v = true
  | _, _, .nil => nofun
  | _, _, .cons h t => fun v hv => (List.mem_cons.mp hv).elim (fun e => ⟨_, e ▸ h⟩) (mem_is t v)
theorem cls_tp (q : Qt kd) {k : List κ} {b : Addr} {Q : Bool → Shared → Prop} (hk : Tp kd s.heap k b) (hQ : Q false s) : wpAny (model P w) A (ofAClassStatement 8 (.ref b)) Q E s := by
  have ty := hk.typeIs
  obtain ⟨o, its, n, ho, _, hd, hi⟩ := hk
  unfold ofAClassStatement
  refine wpAny_bind (wpAny_typeOf ty ?_)
  dsimp only
  have e0 : (("tuple" : String) == "tuple") = true := by decide
  simp only [e0, if_true, Bool.not_true, Bool.false_eq_true, if_false]
  try refine wpAny_bind (wpAny_pure ?_)
  try simp only [Bool.not_true, Bool.false_eq_true, if_false]
  show wpAny _ _ (seqItems? (.ref b) >>= _) _ _ s
  refine wpAny_bind (wpAny_seqItems ho hd ?_)
  dsimp only
  refine wpAny_bind (?_ : wpAny _ _ (forIn its _ _) _ _ s)
  rw [← Array.forIn_toList]
  refine wpAny_forIn_list _ (fun l r t => r.1 = none ∧ t = s ∧ ∀ v ∈ l, ∃ x, kd.is x v = true) _ ?_ ?_ _ _ ⟨rfl, rfl, mem_is hi⟩
  · rintro v l r t ⟨hr, rfl, al⟩
    obtain ⟨x, hx⟩ := al v (List.mem_cons_self ..)
    rw [(q x v _ hx).1]
    refine wpAny_bind (wpAny_pure ?_)
    simp only [Bool.false_eq_true, if_false]
    exact wpAny_pure ⟨rfl, rfl, fun u hu => al u (List.mem_cons_of_mem _ hu)⟩
  · rintro ⟨r1, r2⟩ t ⟨hr, rfl, _⟩
    dsimp only at hr
    subst hr
    exact wpAny_pure hQ
theorem hbv_tp (q : Qt kd) {k : List κ} {b : Addr} {Q : Bool → Shared → Prop} (hk : Tp kd s.heap k b) (hQ : ∀ z, Q z s) : wpAny (model P w) A (hashByValue 8 (.ref b)) Q E s := by
  have ty := hk.typeIs
  obtain ⟨o, its, n, ho, _, hd, hi⟩ := hk
  unfold hashByValue
  refine wpAny_bind (wpAny_specialOf ty F.slot_tuple_hash.lookup ?_)
  show wpAny _ _ (seqItems? (.ref b) >>= _) _ _ s
  refine wpAny_bind (wpAny_seqItems ho hd ?_)
  refine wpAny_bind (?_ : wpAny _ _ (forIn its _ _) _ _ s)
  rw [← Array.forIn_toList]
  refine wpAny_forIn_list _ (fun l r t => t = s ∧ ∀ v ∈ l, ∃ x, kd.is x v = true) _ ?_ ?_ _ _ ⟨rfl, mem_is hi⟩
  · rintro v l r t ⟨rfl, al⟩
    obtain ⟨x, hx⟩ := al v (List.mem_cons_self ..)
    obtain ⟨z, hz⟩ := (q x v _ hx).2
    rw [hz]
    refine wpAny_bind (wpAny_pure ?_)
    cases z
    · simp only [Bool.not_false, if_true]
      exact wpAny_pure (wpAny_pure (hQ _))
    · simp only [Bool.not_true, Bool.false_eq_true, if_false]
      exact wpAny_pure ⟨rfl, fun u hu => al u (List.mem_cons_of_mem _ hu)⟩
  · rintro ⟨r1, r2⟩ t ⟨rfl, _⟩
    cases r1 with
    | none => exact wpAny_pure (hQ _)
    | some z => exact wpAny_pure (hQ _)
/-- a search shows nothing -/
theorem seen_tp (q : Qt kd) {k : List κ} {b : Addr} {Q : Bool → Shared → Prop} (hk : Tp kd s.heap k b) {ys : List Value} (hy : ∀ y ∈ ys, ∃ k' c, y = Value.ref c ∧ Tp kd s.heap k' c) (hQ : Q false s) :
    wpAny (model P w) A (searchCouldBeSeen (.ref b) ys) Q E s := by
  unfold searchCouldBeSeen
  refine wpAny_bind (wpAny_forIn_list _ (fun l r t => r.1 = none ∧ t = s ∧ ∀ y ∈ l, ∃ k' c, y = Value.ref c ∧ Tp kd s.heap k' c) _ ?_ ?_ _ _ ⟨rfl, rfl, hy⟩)
  · rintro v l r t ⟨hr, rfl, al⟩
    obtain ⟨k', c, rfl, hc⟩ := al v (List.mem_cons_self ..)
    have al' : ∀ y ∈ l, ∃ k' c, y = Value.ref c ∧ Tp kd t.heap k' c := fun u hu => al u (List.mem_cons_of_mem _ hu)
    dsimp only
    by_cases hv : (b == c || (carriedByValue (.ref b) && carriedByValue (.ref c))) = true
    · exact wp_if_pos hv (wpAny_pure ⟨rfl, rfl, al'⟩)
    · refine wp_if_neg hv (wpAny_bind (wpAny_eqIsQuiet_tuple hk ?_))
      simp only [Bool.not_true, Bool.false_eq_true, if_false]
      refine wpAny_bind (wpAny_eqIsQuiet_tuple hc ?_)
      simp only [Bool.not_true, Bool.false_eq_true, if_false]
      refine wpAny_bind (cls_tp q hk ?_)
      simp only [Bool.false_eq_true, if_false]
      refine wpAny_bind (cls_tp q hc ?_)
      simp only [Bool.false_eq_true, if_false]
      exact wpAny_pure ⟨rfl, rfl, al'⟩
  · rintro ⟨r1, r2⟩ t ⟨hr, rfl, _⟩
    dsimp only at hr
    subst hr
    exact wpAny_pure hQ

/-! ### the set -/
variable (kd) in
structure Sg (h : Heap) (a : Addr) (L : List (Addr × List κ)) (es : Array (Int × Value)) (ep : Nat) (t : SetTable) : Prop where
  ob : ∃ o, h.get? a = some o ∧ o.ExactSet ∧ o.data = .set es ep t
  rw : es.toList = rws kd L
  tab : TabOk t (L.map fun z => hsh kd z.2)
  nd : (L.map (·.2)).Nodup
  tp : ∀ z ∈ L, Tp kd h z.2 z.1
  ld : w.params.followText "set-order" = true ∨ t.led = true
  rm : L.length * 5 < t.mask * 3
  fw : L.length < 64
variable {a : Addr} {L : List (Addr × List κ)} {es : Array (Int × Value)} {ep : Nat} {t : SetTable}
theorem rws_len {L : List (Addr × List κ)} {es : Array (Int × Value)} (h : es.toList = rws kd L) : es.size = L.length := by
  have := congrArg List.length h
  rwa [Array.length_toList, rws, List.length_map] at this
theorem Sg.sz (R : Sg kd s.heap a L es ep t) : es.size = L.length := rws_len R.rw
theorem Sg.fit (R : Sg kd s.heap a L es ep t) : t.fits es.size = true := by
  have a1 := R.tab.sz
  have a2 := R.sz
  have a3 := R.rm
  rw [List.length_map] at a1
  unfold SetTable.fits SetTable.fill
  rw [R.tab.dm, Bool.and_eq_true, beq_iff_eq, decide_eq_true_eq]
  show t.place.size = es.size ∧ t.place.size + 0 ≤ t.mask
  exact ⟨by omega, by omega⟩
theorem rws_at {L : List (Addr × List κ)} {es : Array (Int × Value)} (h : es.toList = rws kd L) {i : Nat} {z : Addr × List κ} (hz : L[i]? = some z) : es[i]? = some (hsh kd z.2, Value.ref z.1) := by
  rw [← Array.getElem?_toList, h, rws, List.getElem?_map, hz]
  rfl
theorem Sg.gw (R : Sg kd s.heap a L es ep t) : ¬ t.gaveWay = true := by
  unfold SetTable.gaveWay
  rw [mask_odd R.tab.mok]
  decide
/-- the c-th stop on the way of k -/
abbrev stop (kd : PySem.KeyKind P w κ) (t : SetTable) (k : List κ) (c : Nat) : SetTable.Probe := nth t.mask (runAt t.mask (SetTable.bits (hsh kd k) % (t.mask + 1)) (SetTable.bits (hsh kd k))) c
abbrev wy (kd : PySem.KeyKind P w κ) (t : SetTable) (k : List κ) (c : Nat) : Nat := way t.mask (hsh kd k) c
theorem stop_dm (kd : PySem.KeyKind P w κ) (t : SetTable) (k : List κ) (c : Nat) : (stop kd t k c).dummy = none := by
  suffices h : ∀ (n : Nat) (p : SetTable.Probe), p.dummy = none → (nth t.mask p n).dummy = none from h c _ rfl
  intro n
  induction n with
  | zero => exact fun p h => h
  | succ n ih => exact fun p h => ih (adv t.mask p) (by unfold adv; split <;> exact h)
theorem srch_from (q : Qt kd) (R : Sg kd s.heap a L es ep t) {x : Addr} {k : List κ} (hx : Tp kd s.heap k x) (hu : A.units < cLine) {K : Nat} (hf1 : K < 10 * SetTable.turns t.mask) (hK : wy kd t k K ∉ t.place.toList) (hb : ∀ c, c < K → wy kd t k c ∈ t.place.toList)
    {Q : SetFound → Shared → Prop} (yes : k ∈ L.map (·.2) → Q (.there none) s) (no : k ∉ L.map (·.2) → Q (.free (wy kd t k K) false) s) : ∀ (f c : Nat) (st : Option SetTable.Probe), st.getD (t.probeStart (hsh kd k)) = stop kd t k c → c ≤ K → K - c < f →
      (∀ (i : Nat) z, L[i]? = some z → z.2 = k → ∃ c', c ≤ c' ∧ c' < K ∧ t.place.toList[i]? = some (wy kd t k c')) → wpAny (model P w) A (setSearchFrom a (.ref x) (hsh kd k) true f st) Q E s
  | 0, c, _, _, _, hf, _ => absurd hf (by omega)
  | f + 1, c, st, hst, hc, hf, hre => by
    obtain ⟨o, ho, hex, hd⟩ := R.ob
    rw [setSearchFrom_succ]
    refine wpAny_bind (wpAny_setState_of ho hd R.fit ?_)
    dsimp only
    refine wp_if_neg R.gw ?_
    try refine wpAny_bind (wpAny_pure ?_)
    have sh : ∀ z, nth t.mask (stop kd t k c) z = stop kd t k (c + z) := fun z => (nth_add t.mask c _ z).symm
    have ej : ∀ z, (nth t.mask (stop kd t k c) z).j = wy kd t k (c + z) := fun z => congrArg SetTable.Probe.j (sh z)
    have spec := go_spec t R.tab.ris R.tab.dm (fun i => (es[i]?.map (·.1)).getD 0) (hsh kd k) (10 * SetTable.turns t.mask) (K - c) (stop kd t k c) (stop_dm kd t k c) (by omega)
      (fun z hz => by rw [ej]; exact hb (c + z) (by omega)) (by rw [ej, show c + (K - c) = K by omega]; exact hK)
    have ha : ∀ (i : Nat) z, L[i]? = some z → (fun i => (es[i]?.map (·.1)).getD 0) i = hsh kd z.2 := fun i z hz => by
      show (es[i]?.map (·.1)).getD 0 = _
      rw [rws_at R.rw hz]
      rfl
    rcases spec with ⟨z, i, hz, hi, hh, hno, hpr⟩ | ⟨hno, hpr⟩
    · have hpr' : t.probe (fun i => (es[i]?.map (·.1)).getD 0) (hsh kd k) (st.getD (t.probeStart (hsh kd k))) = some (.candidate (wy kd t k (c + z)) i (stop kd t k (c + (z + 1)))) := by
        rw [hst, ← ej, ← sh]
        exact hpr
      rw [hpr']
      dsimp only
      rw [ej] at hi
      have hil : i < L.length := by
        have b1 : i < t.place.toList.length := (List.getElem?_eq_some_iff.mp hi).1
        have b2 := R.tab.sz
        rw [List.length_map] at b2
        rw [Array.length_toList] at b1
        omega
      have hp : L[i]? = some L[i] := List.getElem?_eq_getElem hil
      generalize hpe : L[i] = y at hp
      have hm : y ∈ L := List.mem_of_getElem? hp
      have rest : wpAny (model P w) A (searchRest a (.ref x) (hsh kd k) true f es t (wy kd t k (c + z)) i (stop kd t k (c + (z + 1)))) Q E s := by
        unfold searchRest
        rw [rws_at R.rw hp]
        dsimp only
        refine wpAny_bind (wpAny_holding (wpAny_eqBool_tuple hu (R.tp y hm) hx (wpAny_bind (wpAny_setState_of ho hd R.fit ?_))))
        dsimp only
        by_cases hkk : y.2 = k
        · exact wp_if_pos (by simp [hkk]) (wpAny_pure (yes (List.mem_map.mpr ⟨y, hm, hkk⟩)))
        · refine wp_if_neg (by simp [hkk]) ?_
          try refine wpAny_bind (wpAny_pure ?_)
          rw [sameMem]
          dsimp only
          have hsl : t.slot (wy kd t k (c + z)) = .live i := slot_live R.tab.ris hi
          simp only [if_true, hsl, rws_at R.rw hp]
          refine wpAny_bind (wpAny_isSame_ref_self (wpAny_bind (wpAny_pure ?_)))
          simp only [if_true]
          refine wp_if_neg (by simp [hkk]) (srch_from q R hx hu hf1 hK hb yes no f (c + (z + 1)) _ rfl (by omega) (by omega) fun i0 y0 h0 hk0 => ?_)
          obtain ⟨c', b1, b2, b3⟩ := hre i0 y0 h0 hk0
          refine ⟨c', ?_, b2, b3⟩
          by_cases l1 : c' < c + z
          · exact absurd ((ha i0 y0 h0).trans (congrArg (hsh kd) hk0)) (hno (c' - c) i0 (by omega) (by rw [ej, show c + (c' - c) = c' by omega]; exact b3))
          · by_cases l2 : c' = c + z
            · rw [l2] at b3
              have s0 := slot_live R.tab.ris b3
              rw [hsl] at s0
              injection s0 with s0
              rw [← s0, hp] at h0
              exact absurd ((congrArg Prod.snd (Option.some.inj h0)).trans hk0) hkk
            · omega
      by_cases hl : t.led = true
      · refine wp_if_neg (by simp [hl]) ?_
        try refine wpAny_bind (wpAny_pure ?_)
        exact rest
      · refine wp_if_pos (by simp [hl]) (wpAny_bind (seen_tp q hx (fun y hy => ?_) ?_))
        · obtain ⟨e, he, ee⟩ := List.mem_map.mp hy
          have he1 : e ∈ es ∧ e.1 = hsh kd k := by simpa using he
          have he2 : e ∈ es.toList := by simpa using he1.1
          rw [R.rw] at he2
          obtain ⟨p2, hp2, e2⟩ := List.mem_map.mp he2
          exact ⟨p2.2, p2.1, by rw [← ee, ← e2], R.tp p2 hp2⟩
        · refine wp_if_neg (by decide) ?_
          try refine wpAny_bind (wpAny_pure ?_)
          exact rest
    · have hpr' : t.probe (fun i => (es[i]?.map (·.1)).getD 0) (hsh kd k) (st.getD (t.probeStart (hsh kd k))) = some (.empty (wy kd t k K) none) := by
        have e2 : wy kd t k K = (nth t.mask (stop kd t k c) (K - c)).j := by rw [ej, show c + (K - c) = K by omega]
        rw [hst, e2]
        exact hpr
      rw [hpr']
      dsimp only
      refine wpAny_pure (no fun hm => ?_)
      obtain ⟨p0, h0, hk0⟩ := List.mem_map.mp hm
      obtain ⟨i0, hi0, e0⟩ := List.getElem_of_mem h0
      have h00 : L[i0]? = some p0 := by rw [List.getElem?_eq_getElem hi0, e0]
      obtain ⟨c', b1, b2, b3⟩ := hre i0 p0 h00 hk0
      exact hno (c' - c) i0 (by omega) (by rw [ej, show c + (c' - c) = c' by omega]; exact b3) ((ha i0 p0 h00).trans (congrArg (hsh kd) hk0))
theorem srch_at (q : Qt kd) (R : Sg kd s.heap a L es ep t) {x : Addr} {k : List κ} (hx : Tp kd s.heap k x) (hu : A.units < cLine) {Q : SetFound → Shared → Prop} (yes : k ∈ L.map (·.2) → Q (.there none) s)
    (no : ∀ K, k ∉ L.map (·.2) → wy kd t k K ∉ t.place.toList → (∀ c, c < K → wy kd t k c ∈ t.place.toList) → Q (.free (wy kd t k K) false) s) : wpAny (model P w) A (setSearch a (.ref x) (hsh kd k) true) Q E s := by
  have hroom := R.rm
  obtain ⟨K, hf, hK, hb⟩ := R.tab.first (by rw [List.length_map]; omega) (hsh kd k)
  have hbig : K < 100000 := by
    have : 10 * SetTable.turns t.mask ≤ 1420 := by
      unfold SetTable.turns
      rcases R.tab.mok with e | e | e <;> omega
    omega
  unfold setSearch
  refine srch_from q R hx hu hf hK hb yes (fun hn => no K hn hK hb) 100000 0 none rfl (Nat.zero_le _) (by omega) fun i z hz hk => ?_
  have hi : (L.map fun z => hsh kd z.2)[i]? = some (hsh kd k) := by rw [List.getElem?_map, hz, ← hk]; rfl
  have hil : i < t.place.toList.length := by
    have b1 : i < L.length := (List.getElem?_eq_some_iff.mp hz).1
    have b2 := R.tab.sz
    rw [List.length_map] at b2
    rw [Array.length_toList]
    omega
  have hj := List.getElem?_eq_getElem hil
  obtain ⟨c, hc, e⟩ := R.tab.before hK hi hj
  exact ⟨c, Nat.zero_le _, hc, by rw [hj]; exact congrArg some e.symm⟩
/-- a tuple isn't the set -/
theorem tp_same {h h' : Heap} {k : List κ} {a b : Addr} {o : Obj} {es : Array (Int × Value)} {ep : Nat} {t : SetTable} (hb : Tp kd h k b) (ho : h.get? a = some o) (hd : o.data = .set es ep t) (hs : Heap.SameBut a h h') : Tp kd h' k b := by
  obtain ⟨u, its, n, hu, hc, hd', hi⟩ := hb
  refine ⟨u, its, n, (hs.2 b ?_).trans hu, hc, hd', hi⟩
  rintro rfl
  rw [Option.some.inj (hu.symm.trans ho), hd] at hd'
  cases hd'
theorem rws_order (L : List (Addr × List κ)) (es : Array (Int × Value)) (order : Array Nat) (hr : es.toList = rws kd L) (hp : order.toList.Perm (List.range L.length)) :
    ∃ M, (order.filterMap (es[·]?)).toList = rws kd M ∧ M.Perm L ∧ (M.map fun z => hsh kd z.2) = order.toList.map fun i => (es.map (·.1)).getD i 0 := by
  have hsz := rws_len hr
  have ent : ∀ i (h : i < L.length), es[i]? = some (hsh kd (L[i]).2, Value.ref (L[i]).1) := fun i h => rws_at hr (List.getElem?_eq_getElem h)
  have key : ∀ l : List Nat, (∀ i ∈ l, i < L.length) → ∃ M : List (Addr × List κ), l.filterMap (fun i => es[i]?) = rws kd M ∧ M = l.filterMap (fun i => L[i]?) ∧ (M.map fun z => hsh kd z.2) = l.map fun i => (es.map (·.1)).getD i 0 := by
    intro l
    induction l with
    | nil => exact fun _ => ⟨[], rfl, rfl, rfl⟩
    | cons i l ih =>
      intro hl
      have hi := hl i (List.mem_cons_self ..)
      obtain ⟨M, e1, e2, e3⟩ := ih fun j hj => hl j (List.mem_cons_of_mem _ hj)
      have e5 : (es.map (·.1))[i]? = some (hsh kd (L[i]).2) := by rw [Array.getElem?_map, ent i hi]; rfl
      exact ⟨L[i] :: M, by rw [List.filterMap_cons_some (ent i hi), e1]; rfl, by rw [List.filterMap_cons_some (List.getElem?_eq_getElem hi), e2], by rw [List.map_cons, List.map_cons, e3]; simp [Array.getD_eq_getD_getElem?, e5]⟩
  obtain ⟨M, e1, e2, e3⟩ := key order.toList fun i hi => List.mem_range.mp (hp.mem_iff.mp hi)
  refine ⟨M, by first | (rw [Array.toList_filterMap]; exact e1) | simpa using e1, ?_, e3⟩
  have h1 : M.Perm ((List.range L.length).filterMap fun i => L[i]?) := e2 ▸ hp.filterMap _
  have key2 : ∀ n, n ≤ L.length → (List.range n).filterMap (fun i => L[i]?) = L.take n := by
    intro n
    induction n with
    | zero => exact fun _ => rfl
    | succ n ih =>
      intro hn
      rw [List.range_succ, List.filterMap_append, ih (Nat.le_of_lt hn), List.take_succ, List.getElem?_eq_getElem hn, List.filterMap_cons_some (List.getElem?_eq_getElem hn)]
      rfl
  rwa [key2 L.length (Nat.le_refl _), List.take_length] at h1
theorem relay_tp {o : Obj} (ho : s.heap.get? a = some o) (hex : o.ExactSet) (hd : o.data = .set es ep t) (hr : es.toList = rws kd L) (hsz : t.place.size = es.size) (hdm : t.dummies = #[]) (hfl : es.size ≤ t.mask) (nd : (L.map (·.2)).Nodup) (tp : ∀ z ∈ L, Tp kd s.heap z.2 z.1)
    (ld : w.params.followText "set-order" = true ∨ t.led = true) (fw : L.length < 64) {wd M : Nat} (hw : SetTable.sizeAbove wd - 1 = M) (hM : MaskOk M) (hw2 : SetTable.sizeAbove wd ≤ 128) (hn : L.length * 5 < M * 3) {Q : Unit → Shared → Prop}
    (hQ : ∀ h' L' es' ep' t', Heap.SameBut a s.heap h' → Sg kd h' a L' es' ep' t' → L'.Perm L → Q () { s with heap := h' }) : wpAny (model P w) A (setRelay a wd) Q E s := by
  have hsl := rws_len hr
  have hfit : t.fits es.size = true := by
    unfold SetTable.fits SetTable.fill
    rw [hdm, Bool.and_eq_true, beq_iff_eq, decide_eq_true_eq]
    exact ⟨hsz, by show t.place.size + 0 ≤ t.mask; omega⟩
  obtain ⟨t', order, e, hp, T, em, el, ep', ed⟩ := relaid_ok t (hs := es.map (·.1)) (wanted := wd) hw hM (by rw [Array.size_map, hsl]; omega)
  rw [Array.size_map, hsl] at hp
  obtain ⟨N, r1, r2, r3⟩ := rws_order L es order hr hp
  rw [← r3] at T
  have hs2 : (order.filterMap (es[·]?)).size = es.size := by rw [rws_len r1, r2.length_eq, hsl]
  rw [setRelay_eq]
  refine wpAny_bind (wpAny_setState_of ho hd hfit ?_)
  dsimp only
  refine wp_if_neg (by rw [sizeLine_eq]; omega) ?_
  try refine wpAny_bind (wpAny_pure ?_)
  rw [e]
  dsimp only
  refine wpAny_bind (wp_if_neg (by rw [hs2]; simp) ?_)
  try refine wpAny_bind (wpAny_pure ?_)
  refine wpAny_pure ?_
  dsimp only
  have sb : Heap.SameBut a s.heap (s.heap.update a (Obj.putSet (order.filterMap (es[·]?)) t')) := Heap.SameBut.update ..
  refine wpAny_storeSet_of ho hd (hQ _ N (order.filterMap (es[·]?)) (ep + 1) t' sb ⟨⟨_, store_at ho hd, ⟨hex.1, hex.2.1, hex.2.2⟩, rfl⟩, r1, T, (r2.map (·.2)).nodup_iff.mpr nd, fun z hz => tp_same (tp z (r2.mem_iff.mp hz)) ho hd sb, by rw [el]; exact ld, by rw [r2.length_eq, em]; exact hn, by rw [r2.length_eq]; exact fw⟩ r2) (by rw [hs2, hsl, sizeLine_eq]; omega)
theorem add_tp (q : Qt kd) (R : Sg kd s.heap a L es ep t) {x : Addr} {k : List κ} (hx : Tp kd s.heap k x) (hu : A.units < cLine) (fw : L.length + 1 < 64) {Q : Bool → Shared → Prop}
    (hQ : ∀ b h' L' es' ep' t', Heap.SameBut a s.heap h' → Sg kd h' a L' es' ep' t' → (k ∈ L.map (·.2) → L' = L) → (k ∉ L.map (·.2) → L'.Perm ((x, k) :: L)) → Q b { s with heap := h' }) : wpAny (model P w) A (setAddHashed a (.ref x) (hsh kd k)) Q E s := by
  obtain ⟨o, ho, hex, hd⟩ := R.ob
  have hsl := R.sz
  have hroom := R.rm
  unfold setAddHashed
  refine wpAny_holding ?_
  rw [show (100000 : Nat) = 99999 + 1 from rfl, setAddHashedIn_succ]
  refine wpAny_bind (wpAny_setState_of ho hd R.fit ?_)
  dsimp only
  refine wp_if_neg (by simp [byScan, Value.scannable]) ?_
  try refine wpAny_bind (wpAny_pure ?_)
  refine wpAny_bind (srch_at q R hx hu (fun hm => ?_) fun K hm hK hb => ?_)
  · dsimp only
    exact wpAny_pure (hQ false s.heap L es ep t (Heap.SameBut.refl a s.heap) R (fun _ => rfl) fun z => absurd hm z)
  · dsimp only
    refine wpAny_bind (wpAny_setState_of ho hd R.fit ?_)
    dsimp only
    obtain ⟨q1, q2, q3, q4, q5, q6, q7, q8, q9⟩ := R.tab.put hK hb
    generalize hpt : t.put (wy kd t k K) = pt at q1 q3 q4 q5 q6 q7 q8 q9 ⊢
    obtain ⟨t0, p⟩ := pt
    dsimp only at q1 q3 q4 q5 q6 q7 q8 q9 ⊢
    subst q1
    suffices rest : ∀ t1 : SetTable, (t1 = t0 ∨ t1 = { t0 with plain := false }) → wpAny (model P w) A (do
        storeSet a (SetTable.insertAt es (SetTable.below t.place (wy kd t k K)) (hsh kd k, Value.ref x)) t1
        if !false && t1.tooFull then setRelay a (SetTable.grown (es.size + 1))
        return true) Q E s by
      by_cases hp1 : t0.plain = true
      · first
          | exact wpAny_bind (wp_if_pos hp1 (hbv_tp q hx fun z => by cases z; exact rest _ (.inr rfl); exact rest _ (.inl rfl)))
          | exact wp_if_pos hp1 (wpAny_bind (hbv_tp q hx fun z => by cases z; exact rest _ (.inr rfl); exact rest _ (.inl rfl)))
      · first
          | exact wpAny_bind (wp_if_neg hp1 (wpAny_pure (rest _ (.inl rfl))))
          | exact wp_if_neg hp1 (wpAny_bind (wpAny_pure (rest _ (.inl rfl))))
    intro t1 ht1
    have u3 : ∀ l, TabOk t0 l → TabOk t1 l := fun l h => by
      rcases ht1 with rfl | rfl
      · exact h
      · exact ⟨h.ris, h.dm, h.sz, h.mok, h.bd, h.reach⟩
    replace q3 := u3 _ q3
    replace q4 : t1.mask = t.mask := by rcases ht1 with rfl | rfl <;> exact q4
    replace q5 : t1.led = t.led := by rcases ht1 with rfl | rfl <;> exact q5
    have u9 : t1.fill = t0.fill := by rcases ht1 with rfl | rfl <;> rfl
    rw [← u9] at q9
    clear q6 q7 q8 ht1
    have hin : (SetTable.insertAt es (SetTable.below t.place (wy kd t k K)) (hsh kd k, Value.ref x)).toList = rws kd (L.take (SetTable.below t.place (wy kd t k K)) ++ (x, k) :: L.drop (SetTable.below t.place (wy kd t k K))) := by
      rw [SetTable.toList_insertAt, R.rw]
      simp [rws, List.map_take, List.map_drop]
    generalize hpp : SetTable.below t.place (wy kd t k K) = p at q2 q3 hin ⊢
    have pm := put_perm L p (x, k)
    have hlen : (L.take p ++ (x, k) :: L.drop p).length = L.length + 1 := pm.length_eq
    have hhs : (L.take p ++ (x, k) :: L.drop p).map (fun z => hsh kd z.2) = (L.map fun z => hsh kd z.2).take p ++ hsh kd k :: (L.map fun z => hsh kd z.2).drop p := by
      rw [List.map_append, List.map_cons, List.map_take, List.map_drop]
    rw [← hhs] at q3
    have nd1 : ((L.take p ++ (x, k) :: L.drop p).map (·.2)).Nodup := (pm.map (·.2)).nodup_iff.mpr (List.nodup_cons.mpr ⟨hm, R.nd⟩)
    have hes := rws_len hin
    rw [hlen] at hes
    generalize SetTable.insertAt es p (hsh kd k, Value.ref x) = es1 at hin hes ⊢
    generalize L.take p ++ (x, k) :: L.drop p = L1 at pm hlen q3 nd1 hin
    refine wpAny_bind (wpAny_storeSet_of ho hd ?_ (by rw [hes, sizeLine_eq]; omega))
    have sb : Heap.SameBut a s.heap (s.heap.update a (Obj.putSet es1 t1)) := Heap.SameBut.update ..
    have ho1 := store_at (es' := es1) (t' := t1) ho hd
    generalize s.heap.update a (Obj.putSet es1 t1) = h1 at sb ho1 ⊢
    have tp1 : ∀ z ∈ L1, Tp kd h1 z.2 z.1 := fun z hz => (List.mem_cons.mp (pm.mem_iff.mp hz)).elim (fun e => by rw [e]; exact tp_same hx ho hd sb) fun hz => tp_same (R.tp z hz) ho hd sb
    have ld1 : w.params.followText "set-order" = true ∨ t1.led = true := by rw [q5]; exact R.ld
    by_cases hf : t1.tooFull = true
    · first | refine wpAny_bind (wp_if_pos (by simp [hf]) ?_) | refine wp_if_pos (by simp [hf]) (wpAny_bind ?_)
      have hfull : (L.length + 1) * 5 ≥ t1.mask * 3 := by
        have h := hf
        unfold SetTable.tooFull at h
        rwa [decide_eq_true_eq, q9, List.length_map] at h
      rw [hsl]
      have hsz1 : t1.place.size = es1.size := by
        have h := q3.sz
        rw [List.length_map, hlen] at h
        rw [h, hes]
      have two : (t.mask = 7 ∧ L.length = 4) ∨ (t.mask = 31 ∧ L.length = 18) := by
        rw [q4] at hfull
        rcases R.tab.mok with e | e | e <;> rw [e] at hfull hroom
        · exact .inl ⟨e, by omega⟩
        · exact .inr ⟨e, by omega⟩
        · omega
      have go : ∀ M, SetTable.sizeAbove (SetTable.grown (L.length + 1)) - 1 = M → MaskOk M → SetTable.sizeAbove (SetTable.grown (L.length + 1)) ≤ 128 → (L.length + 1) * 5 < M * 3 →
          wpAny (model P w) A (setRelay a (SetTable.grown (L.length + 1))) (fun _ s' => wpAny (model P w) A (pure true) Q E s') E { s with heap := h1 } := fun M g1 g2 g3 g4 =>
        relay_tp (s := { s with heap := h1 }) ho1 ⟨hex.1, hex.2.1, hex.2.2⟩ rfl hin hsz1 q3.dm (by rw [hes, q4]; omega) nd1 tp1 ld1 (by rw [hlen]; exact fw) g1 g2 g3 (by rw [hlen]; exact g4)
          fun h2 L2 es2 ep2 t2 sb2 R2 pm2 => wpAny_pure (hQ true h2 L2 es2 ep2 t2 (sb.trans sb2) R2 (fun z => absurd z hm) fun _ => pm2.trans pm)
      rcases two with ⟨_, e2⟩ | ⟨_, e2⟩
      · exact go 31 (by rw [e2, size_20]) (.inr (.inl rfl)) (by rw [e2, size_20]; decide) (by omega)
      · exact go 127 (by rw [e2, size_76]) (.inr (.inr rfl)) (by rw [e2, size_76]; decide) (by omega)
    · have h := hf
      unfold SetTable.tooFull at h
      rw [decide_eq_true_eq, q9, List.length_map] at h
      first | refine wp_if_neg (by simp [hf]) ?_ | refine wpAny_bind (wp_if_neg (by simp [hf]) (wpAny_pure ?_))
      exact wpAny_pure (hQ true h1 L1 es1 (ep + 1) t1 sb ⟨⟨_, ho1, ⟨hex.1, hex.2.1, hex.2.2⟩, rfl⟩, hin, q3, nd1, tp1, ld1, by rw [hlen]; omega, by rw [hlen]; exact fw⟩ (fun z => absurd z hm) fun _ => pm)
end
theorem perm_unmap {α β : Type} {f : α → β} : ∀ {l : List β} {m : List α}, l.Perm (m.map f) → ∃ bs : List α, bs.Perm m ∧ bs.map f = l
  | [], m, h => by
    have := h.length_eq
    rw [List.length_map] at this
    exact ⟨[], by rw [List.eq_nil_of_length_eq_zero this.symm], rfl⟩
  | x :: l, m, h => by
    obtain ⟨y, hy, e⟩ := List.mem_map.mp (h.mem_iff.mp (List.mem_cons_self ..))
    obtain ⟨u, v, rfl⟩ := List.append_of_mem hy
    have h2 : l.Perm ((u ++ v).map f) := by
      have h3 : (x :: l).Perm (x :: (u ++ v).map f) := by
        refine h.trans ?_
        rw [List.map_append, List.map_append, List.map_cons, e]
        exact List.perm_middle
      exact (List.perm_cons _).mp h3
    obtain ⟨bs, p, e2⟩ := perm_unmap h2
    exact ⟨y :: bs, (p.cons y).trans List.perm_middle.symm, by rw [List.map_cons, e, e2]⟩
/-! ### a set from a list -/
section
variable {κ : Type} [DecidableEq κ]
structure Gt (ks : List (Addr × List κ)) (i : Nat) (L : List (Addr × List κ)) : Prop where
  sub : ∀ z ∈ L, z ∈ ks.take i
  all : ∀ z ∈ ks.take i, z.2 ∈ L.map (·.2)
  len : L.length ≤ i
theorem Gt.zero (ks : List (Addr × List κ)) : Gt ks 0 [] := ⟨nofun, nofun, Nat.le_refl _⟩
theorem take_suc {α : Type} {l : List α} {i : Nat} {x : α} (h : l[i]? = some x) : l.take (i + 1) = l.take i ++ [x] := by
  rw [List.take_succ, h]
  rfl
theorem Gt.old {ks L : List (Addr × List κ)} {i : Nat} {x : Addr × List κ} (g : Gt ks i L) (h : ks[i]? = some x) (hm : x.2 ∈ L.map (·.2)) : Gt ks (i + 1) L := by
  refine ⟨fun z hz => ?_, fun z hz => ?_, Nat.le_succ_of_le g.len⟩ <;> rw [take_suc h] at *
  · exact List.mem_append_left _ (g.sub z hz)
  · exact (List.mem_append.mp hz).elim (g.all z) fun e => by rw [List.mem_singleton.mp e]; exact hm
theorem Gt.new {ks L M : List (Addr × List κ)} {i : Nat} {x : Addr × List κ} (g : Gt ks i L) (h : ks[i]? = some x) (pm : M.Perm (x :: L)) : Gt ks (i + 1) M := by
  refine ⟨fun z hz => ?_, fun z hz => ?_, by rw [pm.length_eq]; exact Nat.succ_le_succ g.len⟩
  · rw [take_suc h]
    exact (List.mem_cons.mp (pm.mem_iff.mp hz)).elim (fun e => List.mem_append_right _ (List.mem_singleton.mpr e)) fun e => List.mem_append_left _ (g.sub z e)
  · rw [take_suc h] at hz
    rw [(pm.map (·.2)).mem_iff, List.map_cons]
    exact (List.mem_append.mp hz).elim (fun e => List.mem_cons_of_mem _ (g.all z e)) fun e => by rw [List.mem_singleton.mp e]; exact List.mem_cons_self ..
variable {P : Program} {w : World} {kd : PySem.KeyKind P w κ} {A : Around} {E : Value → Shared → Prop} {s : Shared}
theorem tp_keep {h h' : Heap} {k : List κ} {b : Addr} (x : Tp kd h k b) (hk : ∀ c o, h.get? c = some o → h'.get? c = some o) : Tp kd h' k b := by
  obtain ⟨o, its, n, ho, r⟩ := x
  exact ⟨o, its, n, hk b o ho, r⟩
theorem Sg.keep {h h' : Heap} {a : Addr} {L : List (Addr × List κ)} {es : Array (Int × Value)} {ep : Nat} {t : SetTable} (R : Sg kd h a L es ep t) (ha : ∀ o, h.get? a = some o → h'.get? a = some o) (ht : ∀ z ∈ L, Tp kd h' z.2 z.1) : Sg kd h' a L es ep t := by
  obtain ⟨o, ho, r⟩ := R.ob
  exact { R with ob := ⟨o, ha o ho, r⟩, tp := ht }
abbrev newSet (w : World) : Obj := { cls := .type "set", dict := none, data := .set #[] 0 (.fresh 0 0 (!w.params.followText "set-order")) }
theorem sg_new {h : Heap} {a : Addr} (ho : h.get? a = some (newSet w)) : Sg kd h a [] #[] 0 (.fresh 0 0 (!w.params.followText "set-order")) where
  ob := ⟨_, ho, ⟨rfl, rfl, rfl⟩, rfl⟩
  rw := rfl
  tab := ⟨List.Pairwise.nil, rfl, rfl, .inl rfl, nofun, fun i h j hi => by simp at hi⟩
  nd := List.nodup_nil
  tp := nofun
  ld := by
    show _ ∨ (!w.params.followText "set-order") = true
    cases w.params.followText "set-order" <;> simp
  rm := show 0 * 5 < 7 * 3 by decide
  fw := show 0 < 64 by decide
theorem upd_tps (q : Qt kd) {I : Addr} {fp wr : List Addr} {G : Array GenState → Array GenState → Prop} {n : Nat} {Pv : Nat → Value → Prop} {St : Nat → Shared → Prop} {R : Result → Shared → Prop} (W : WalksS P w A.in1 I fp wr G n Pv St) (S : Addr) (hSf : S ∉ fp)
    (ks : List (Addr × List κ)) (hn : n = ks.length) (hfew : ks.length < 64) (hval : ∀ i v, Pv i v → ∃ z, ks[i]? = some z ∧ v = .ref z.1) (h0 : Heap) (hk : ∀ z ∈ ks, Tp kd h0 z.2 z.1) (hS0 : h0.get? S = none) (hw0 : ∀ b ∈ wr, h0.get? b = none) (hu : A.in1.units < cLine) :
    ∀ (m i : Nat) (s : Shared), n - i = m → i ≤ n → St i s → (∀ b o, h0.get? b = some o → s.heap.get? b = some o) → (∃ L es ep t, Sg kd s.heap S L es ep t ∧ Gt ks i L) →
      (∀ s' L es ep t, Moved (S :: wr) G s s' → Sg kd s'.heap S L es ep t → Gt ks n L → (∀ b o, h0.get? b = some o → s'.heap.get? b = some o) → R (.ok (.ret .none)) s') →
      codeAny (model P w) A (.builtin "set.update.loop" ⟨[.ref S, .ref I], []⟩) R s := by
  have hSw : S ∉ wr := fun h => hSf (W.sub _ h)
  have hsub : ∀ b ∈ wr, b ∈ S :: wr := fun b hb => List.mem_cons_of_mem _ hb
  have kp : ∀ {s s' : Shared}, Moved wr G s s' → (∀ b o, h0.get? b = some o → s.heap.get? b = some o) → ∀ b o, h0.get? b = some o → s'.heap.get? b = some o := fun hm hkp b o e =>
    hm.heap b o (fun hb => by rw [hw0 b hb] at e; cases e) (hkp b o e)
  intro m
  induction m with
  | zero =>
    intro i s hm0 hi hst hkp ⟨L, es, ep, t, hS, g⟩ hR
    obtain rfl : i = n := by omega
    refine codeAny_builtin F.entry_set_update_loop ?_
    rw [Around.under_plainId F.plain_set_update_loop _]
    show wpAny _ A.in1 (pyNext (.ref I) >>= _) _ _ s
    refine wpAny_bind (W.done s _ _ hst fun s' hm => (?_ : wpAny _ A.in1 (ret Value.none) _ _ s'))
    have hkp' := kp hm hkp
    exact wpAny_pure (hR s' L es ep t (hm.mono hsub) (hS.keep (fun o e => hm.heap S o hSw e) fun z hz => tp_keep (hk z (List.mem_of_mem_take (g.sub z hz))) hkp') g hkp')
  | succ m ih =>
    intro i s hm0 hi hst hkp ⟨L, es, ep, t, hS, g⟩ hR
    have hlt : i < n := by omega
    refine codeAny_builtin F.entry_set_update_loop ?_
    rw [Around.under_plainId F.plain_set_update_loop _]
    show wpAny _ A.in1 (pyNext (.ref I) >>= _) _ _ s
    refine wpAny_bind (W.item i s _ _ hlt hst fun v s' hP hst' hm => ?_)
    obtain ⟨p, hp, rfl⟩ := hval i v hP
    have hkp' := kp hm hkp
    have hS' : Sg kd s'.heap S L es ep t := hS.keep (fun o e => hm.heap S o hSw e) fun z hz => tp_keep (hk z (List.mem_of_mem_take (g.sub z hz))) hkp'
    have hx : Tp kd s'.heap p.2 p.1 := tp_keep (hk p (List.mem_of_getElem? hp)) hkp'
    show wpAny _ A.in1 (holding [Value.ref p.1] (setAdd S (.ref p.1)) >>= _) _ _ s'
    refine wpAny_bind (wpAny_holding ?_)
    unfold setAdd
    refine wpAny_holding (wpAny_bind (wpAny_pyHash_tuple hu hx ?_))
    refine add_tp q (s := { s' with toks := s'.toks + (p.2.length + 1) }) hS' hx hu (by have := g.len; omega) fun b h' L' es' ep' t' hsb hS2 c1 c2 => ?_
    have g' : Gt ks (i + 1) L' := by
      by_cases c : p.2 ∈ L.map (·.2)
      · rw [c1 c]; exact g.old hp c
      · exact g.new hp (c2 c)
    have hkp2 : ∀ b o, h0.get? b = some o → h'.get? b = some o := fun b o e => (hsb.2 b (fun z => by rw [z, hS0] at e; cases e)).trans (hkp' b o e)
    refine wpAny_pure ⟨plainId_quiet F.plain_set_update_loop _, ih (i + 1) _ (by omega) hlt (W.frame _ s' _ _ hst' (Nat.le_add_right _ _) fun b hb o e => ?_) hkp2 ⟨L', es', ep', t', hS2, g'⟩ fun s2 L2 es2 ep2 t2 hm2 hS3 g2 hkp3 => ?_⟩
    · rw [hsb.2 b (fun h : b = S => hSf (h ▸ hb))]; exact e
    · refine hR s2 L2 es2 ep2 t2 (Moved.trans W.gtrans ((hm.mono hsub).then_heap (Nat.le_add_right _ _) fun b o hb e => ?_) hm2) hS3 g2 hkp3
      rw [hsb.2 b (fun h : b = S => hb (h ▸ List.mem_cons_self ..))]; exact e
set_option maxHeartbeats 8000000 in
theorem call_tps (q : Qt kd) {l : Addr} {its : Array Value} (ks : List (Addr × List κ)) {Q : Value → Shared → Prop} (hh : A.handled = none) (hl : s.heap.IsList l its) (hit : its.toList = ks.map fun z => Value.ref z.1) (hk : ∀ z ∈ ks, Tp kd s.heap z.2 z.1) (hfew : ks.length < 64) (hu : A.units + 3 < cLine)
    (hQ : ∀ (h' : Heap) (tk : Nat) L es ep t, Sg kd h' s.heap.objs.size L es ep t → Gt ks ks.length L → (∀ b o, s.heap.get? b = some o → h'.get? b = some o) → Q (.ref s.heap.objs.size) { s with heap := h', toks := tk }) : wpAny (model P w) A (call (.type "set") [.ref l]) Q E s := by
  have isz : its.size = ks.length := by
    have z := congrArg List.length hit
    rwa [Array.length_toList, List.length_map] at z
  obtain ⟨c, tl, hmro⟩ := F.called_set.mro
  have hmade := F.called_set.made
  have hsb := F.called_set.sub
  refine wpAny_call (codeAny_of_tree (?_ : wpAny _ _ (callAny (.type "set") _) _ _ _))
  refine wpAny_pure ⟨Code.quiet_builtin _ (by decide +kernel), codeAny_builtin F.entry_type_call ?_⟩
  rw [Around.under_plain (weight_type_call_type "set" [.ref l] []) rfl]
  have n1 := F.called_set.notType
  have n2 := F.called_set.canCreate
  have n3 := F.typeCall_set_1 (.ref l)
  repeat (any_goals (first | assumption | wp_step))
  refine codeAny_mono (code_set_led1 (.ref l) (E := E) (Q₁ := fun obj s₁ => obj = .ref s.heap.objs.size ∧ s₁ = { s with heap := s.heap.push (newSet w) }) ⟨rfl, rfl⟩) fun r s₁ hr => ?_
  cases r with
  | error e => exact hr
  | ok fl =>
    cases fl with
    | ret obj =>
      obtain ⟨rfl, rfl⟩ := hr
      have hS : (s.heap.push (newSet w)).get? s.heap.objs.size = some (newSet w) := Heap.get?_push_size _ rfl
      have hT : Shared.TypeIs { s with heap := s.heap.push (newSet w) } (.ref s.heap.objs.size) "set" := ⟨_, hS, rfl⟩
      have hli := F.called_set.init.lookup
      have hbi := F.called_set.init.bind (.ref s.heap.objs.size)
      repeat (any_goals (first | assumption | wp_step))
      refine codeAny_mono (codeAny_call_builtin (R := wants (fun r s₂ => r = .none ∧ ∃ h' tk L es ep t, s₂ = { s with heap := h', toks := tk } ∧ Sg kd h' s.heap.objs.size L es ep t ∧ Gt ks ks.length L ∧
          (∀ b o, s.heap.get? b = some o → h'.get? b = some o)) E) F.called_set.init.plain F.entry_set_init (check_set_init_1 hT ?_)) fun r₂ s₂ hr₂ => ?_
      · obtain ⟨ol, hol, hcl, nl, hdl⟩ := hl
        obtain ⟨ocls, odict, odata, oslots⟩ := ol
        dsimp only at hcl hdl
        subst hcl hdl
        have hol' : (s.heap.push (newSet w)).get? l = some { cls := .type "list", dict := odict, data := .seq its nl, slots := oslots } := Heap.get?_push_of_some _ hol
        have k1 := F.sub_list_set
        have k2 := F.sub_list_frozenset
        have k3 : (Value.type "list" == Value.type "dict") = false := by decide
        have hl1 : (s.heap.push (newSet w)).IsList l its := ⟨_, hol', rfl, nl, rfl⟩
        unfold Builtin.«set.__init__» noKeywords Builtin.Frozenset.updateFrom
        generalize hPI : pyIter = PI
        wp_walk
        subst hPI
        refine wpAny_pyIter_list hl1 (wpAny_bind (wpAny_runValue ?_))
        have hlS : l < s.heap.objs.size := Heap.lt_size hol
        have h3 : A.in1.in1.in1.handled = none := by simp [hh]
        have hneI : l ≠ (s.heap.push (newSet w)).objs.size := by rw [Heap.size_push]; exact Nat.ne_of_lt (Nat.lt_succ_of_lt hlS)
        have hSf : s.heap.objs.size ∉ [(s.heap.push (newSet w)).objs.size, l] := by
          rw [Heap.size_push]; simp only [List.mem_cons, List.not_mem_nil, or_false, not_or]
          exact And.intro (Nat.ne_of_lt (Nat.lt_succ_self _)) (Nat.ne_of_gt hlS)
        have hval : ∀ (i : Nat) (v : Value), its[i]? = some v → ∃ z, ks[i]? = some z ∧ v = .ref z.1 := fun i v hv => by
          have z : its.toList[i]? = some v := by rw [Array.getElem?_toList]; exact hv
          rw [hit, List.getElem?_map] at z
          cases e : ks[i]? with
          | none => rw [e] at z; cases z
          | some p => rw [e] at z; exact ⟨p, rfl, (Option.some.inj z).symm⟩
        have fresh : ∀ b, s.heap.objs.size ≤ b → s.heap.get? b = none := fun b hb => by
          cases e : s.heap.get? b with
          | none => rfl
          | some o => exact absurd (Nat.lt_of_lt_of_le (Heap.lt_size e) hb) (Nat.lt_irrefl _)
        refine upd_tps q ((Walks.list h3 _ l hneI its).toS) s.heap.objs.size hSf ks isz hfew hval s.heap hk (fresh _ (Nat.le_refl _)) (fun b hb => fresh b (by rw [List.mem_singleton.mp hb, Heap.size_push]; exact Nat.le_succ _)) hu (its.size - 0) 0 _ (by omega) (Nat.zero_le _)
          ⟨⟨_, Heap.get?_push_size _ rfl, rfl, rfl⟩, (hl1.push _)⟩ (fun b o e => Heap.get?_push_of_some _ (Heap.get?_push_of_some _ e)) ⟨[], #[], 0, _, sg_new (Heap.get?_push_of_some _ hS), Gt.zero ks⟩ fun s' L es ep t hm hS' g' hkp => ?_
        obtain ⟨h', g2, d', tk', os'⟩ := s'
        have eg : g2 = s.gens := hm.gens
        have ed : d' = s.drawn := hm.drawn
        have eo : os' = s.os := hm.os
        subst eg ed eo
        rw [isz] at g'
        show wpAny _ _ _ _ _ _
        refine wpAny_pure (?_ : wpAny _ _ (ret Value.none) _ _ _)
        exact wpAny_pure ⟨rfl, h', tk', L, es, ep, t, rfl, hS', g', hkp⟩
      · cases r₂ with
        | error e => exact hr₂
        | ok fl₂ =>
          cases fl₂ with
          | ret r =>
            obtain ⟨rfl, h', tk, L, es, ep, t, rfl, hS', g', hk'⟩ := hr₂
            repeat (any_goals (first | assumption | wp_step))
            exact hQ _ _ _ _ _ _ hS' g' hk'
          | _ => exact hr₂.elim
    | _ => exact hr.elim
end
end Wt

/-! Core 14: sorted(set(xs)), xs a list of tuples of ints and texts. -/
namespace Wt
open PySem PySem.Spec PyProof.Rows L2
def dupK {α : Type} [DecidableEq α] : List α → List α
  | [] => []
  | x :: r => if x ∈ dupK r then dupK r else x :: dupK r
theorem dupK_mem {α : Type} [DecidableEq α] : ∀ {l : List α} {x : α}, x ∈ dupK l ↔ x ∈ l
  | [], _ => Iff.rfl
  | y :: r, x => by
    unfold dupK
    split
    · rename_i h
      rw [dupK_mem, List.mem_cons]
      exact ⟨.inr, fun h' => h'.elim (fun e => e ▸ dupK_mem.mp h) id⟩
    · rw [List.mem_cons, List.mem_cons, dupK_mem]
theorem dupK_nd {α : Type} [DecidableEq α] : ∀ l : List α, (dupK l).Nodup
  | [] => List.nodup_nil
  | y :: r => by
    unfold dupK
    split
    · exact dupK_nd r
    · exact List.nodup_cons.mpr ⟨by assumption, dupK_nd r⟩
theorem dupK_map {α β : Type} [DecidableEq α] [DecidableEq β] {f : α → β} (hf : ∀ a b, f a = f b → a = b) : ∀ l : List α, dupK (l.map f) = (dupK l).map f
  | [] => rfl
  | x :: r => by
    have h : f x ∈ (dupK r).map f ↔ x ∈ dupK r := ⟨fun h => by
      obtain ⟨y, hy, e⟩ := List.mem_map.mp h
      exact hf _ _ e ▸ hy, fun h => List.mem_map.mpr ⟨x, h, rfl⟩⟩
    rw [List.map_cons]
    unfold dupK
    rw [dupK_map hf r]
    by_cases e : x ∈ dupK r
    · rw [if_pos (h.mpr e), if_pos e]
    · rw [if_neg (fun z => e (h.mp z)), if_neg e, List.map_cons]
/-! ### keys in order -/
abbrev leK (a b : List Key) : Bool := leD (keyTup a) (keyTup b)
theorem leKO : TotPre leK := ⟨fun _ _ => leD_pre.tot _ _, fun _ _ _ => leD_pre.tr _ _ _⟩
theorem toks_keys : ∀ (a b : List Key), PySem.W.keyToksAll (D.pys (a.map keyToD)) = PySem.W.keyToksAll (D.pys (b.map keyToD)) → a = b
  | [], [], _ => rfl
  | [], y :: b, h => by simp [D.pys, PySem.W.keyToksAll] at h
  | x :: a, [], h => by simp [D.pys, PySem.W.keyToksAll] at h
  | x :: a, y :: b, h => by
    simp only [List.map_cons, D.pys] at h
    rw [PySem.W.toks_all_cons, PySem.W.toks_all_cons] at h
    cases x <;> cases y <;> simp only [keyToD, D.py, PySem.W.keyToks, List.cons_append, List.nil_append, List.cons.injEq, true_and, Sum.inl.injEq, Sum.inr.injEq, reduceCtorEq, false_and] at h
    · rw [h.1, toks_keys a b h.2]
    · rw [PySem.W.str_of_cps h.1, toks_keys a b h.2]
theorem leK_anti (a b : List Key) (h1 : leK a b = true) (h2 : leK b a = true) : a = b := by
  have h := leD_toks h1 h2
  simp only [keyTup, D.py, PySem.W.keyToks] at h
  exact toks_keys a b h
/-! ### the kind of ints and texts -/
section
variable {P : Program} {w : World} {A : Around} {E : Value → Shared → Prop} {s : Shared}
theorem qt_mix : Qt (mixKind P w) := fun k v n h => by
  rcases keyIs_shape h with ⟨i, t, rfl, rfl⟩ | ⟨x, t, rfl, rfl⟩ <;> cases n <;> exact ⟨rfl, _, rfl⟩
theorem rd_items {h : Heap} : ∀ {k : List Key} {vs : List Value}, ItemsAre (mixKind P w) k vs → ReadsAll h vs (D.pys (k.map keyToD)) []
  | _, _, .nil => by simpa [D.pys] using ReadsAll.nil
  | _, _, @ItemsAre.cons _ _ _ _ _ k0 v ks vs hi t => by
    have ih := rd_items (h := h) t
    rcases keyIs_shape hi with ⟨i, tk, rfl, rfl⟩ | ⟨x, tk, rfl, rfl⟩ <;> simp only [List.map_cons, D.pys, keyToD, D.py]
    · exact ReadsAll.cons (.int _ _) ih
    · exact ReadsAll.cons (.str _ _) ih
theorem rd_tp {h : Heap} {k : List Key} {b : Addr} (x : Tp (mixKind P w) h k b) : Reads h (.ref b) (keyTup k).py [] := by
  obtain ⟨o, its, n, ho, hc, hd, hi⟩ := x
  simp only [keyTup, D.py]
  exact .tuple ho hc hd (rd_items hi)
theorem each_refs : ∀ (L : List (Addr × List Key)), PySem.W.EachIs (fun v (z : Addr × List Key) => v = Value.ref z.1) (L.map fun z => Value.ref z.1) L
  | [] => .nil
  | z :: L => .cons rfl (each_refs L)
theorem refs_each : ∀ {out : List Value} {L : List (Addr × List Key)}, PySem.W.EachIs (fun v (z : Addr × List Key) => v = Value.ref z.1) out L → out = L.map fun z => Value.ref z.1
  | _, _, .nil => rfl
  | _, _, .cons h t => by rw [h, refs_each t]; rfl
theorem sorted_tps {a : Addr} {L : List (Addr × List Key)} {es : Array (Int × Value)} {ep : Nat} {t : SetTable} {Q : Value → Shared → Prop} (R : Sg (mixKind P w) s.heap a L es ep t) (hh : A.handled = none) (hu : A.units + 65 < cLine)
    (hal : PySem.W.AllAlike (L.map fun z => (keyTup z.2).py)) (hso : PySem.W.Sortable (L.map fun z => (keyTup z.2).py)) (hdp : ∀ z ∈ L, (keyTup z.2).py.depth ≤ 60)
    (hQ : ∀ s' p (out : Array Value) (c : Nat) (M : List (Addr × List Key)), (∀ b o, s.heap.get? b = some o → s'.heap.get? b = some o) → s'.gens = s.gens → s'.os = s.os → s.heap.objs.size ≤ p →
      s'.heap.get? p = some (seqObj "list" out c) → out.toList = M.map (fun z => Value.ref z.1) → M.Perm L → Srd leK (M.map (·.2)) → Q (.ref p) s') : wpAny (model P w) A (call (.builtin "sorted") [.ref a]) Q E s := by
  obtain ⟨o, ho, hex, hd⟩ := R.ob
  have hsz := R.sz
  have hfew := R.fw
  refine Calls.call_function_entry kind_sorted plain_sorted entry_sorted (args_sorted1 _) ?_
  unfold Builtin.«sorted»
  refine wpAny_bind (m := checkCount "sorted" 1 1 _) (wpAny_pure (wpAny_bind ?_))
  refine collect_set (A := A.in1) hh ⟨o, ho, hex.1, hd⟩ R.fit (by unfold scanBound; omega) R.tab.ris R.ld fun s1 vs k1 hz g1 o1 pm => ?_
  have hes : es.toList.map (·.2) = L.map fun z => Value.ref z.1 := by
    rw [R.rw, rws, List.map_map]
    rfl
  rw [hes] at pm
  obtain ⟨bs, pb, rfl⟩ := perm_unmap pm
  have hbl : bs.length < 64 := by rw [pb.length_eq]; exact hfew
  have hvl : (bs.map fun z => Value.ref z.1).length < 64 := by rw [List.length_map]; exact hbl
  refine wpAny_bind (wpAny_newList ?_ (by rw [sizeLine_eq]; omega))
  have hoL : (s1.heap.push (seqObj "list" (bs.map fun z => Value.ref z.1).toArray 0)).get? s1.heap.objs.size = some (seqObj "list" (bs.map fun z => Value.ref z.1).toArray 0) := Heap.get?_push_size _ rfl
  have er : PySem.W.EachIs (fun v (z : Addr × List Key) => ∃ as, Reads (s1.heap.push (seqObj "list" (bs.map fun z => Value.ref z.1).toArray 0)) v (keyTup z.2).py as ∧ s1.heap.objs.size ∉ as) (bs.map fun z => Value.ref z.1) bs :=
    each_with (each_refs bs) fun v z hz' e => ⟨[], by
      rw [e]
      exact rd_tp (P := P) (w := w) (tp_keep (R.tp z (pb.mem_iff.mp hz')) fun b u e => Heap.get?_push_of_some _ (k1 b u e)), List.not_mem_nil⟩
  have hal' : PySem.W.AllAlike (bs.map fun z => (keyTup z.2).py) := fun x hx y hy => hal x ((pb.map _).mem_iff.mp hx) y ((pb.map _).mem_iff.mp hy)
  have hso' : PySem.W.Sortable (bs.map fun z => (keyTup z.2).py) := hso.imp (fun h x hx => h x ((pb.map _).mem_iff.mp hx)) fun h x hx => h x ((pb.map _).mem_iff.mp hx)
  refine wpAny_bind (wpAny_holding (PySem.W.list_sort_data (s := { s1 with heap := s1.heap.push (seqObj "list" (bs.map fun z => Value.ref z.1).toArray 0) }) (R := fun v (z : Addr × List Key) => v = Value.ref z.1) (enc := fun z : Addr × List Key => (keyTup z.2).py) hoL (each_refs bs) er hal' hso' (by rw [sizeLine_eq]; omega) (fun z hz' => by
    have := hdp z (pb.mem_iff.mp hz')
    show A.units + 1 + 1 + _ < cLine
    omega) fun out ho' hR => ?_))
  have em : bs.mergeSort (PySem.W.dataLe false fun z : Addr × List Key => (keyTup z.2).py) = isort (fun x y : Addr × List Key => leK x.2 y.2) bs := mergeSort_eq (le := fun x y : Addr × List Key => leK x.2 y.2) (fun a b c => leD_trans (keyTup a.2) (keyTup b.2) (keyTup c.2)) (fun a b => leD_total (keyTup a.2) (keyTup b.2)) bs
  rw [em] at hR
  obtain ⟨c, hc⟩ := sortedHeap_at (vs := bs.map fun z => Value.ref z.1) (out := List.toArray out) hoL
  refine wpAny_pure ⟨_, rfl, hQ _ s1.heap.objs.size (List.toArray out) c (isort (fun x y : Addr × List Key => leK x.2 y.2) bs) (fun b u e => ?_) g1 o1 hz hc (refs_each hR) ((isortPerm bs).trans pb) ?_⟩
  · have q := k1 b u e
    have hlt := Heap.lt_size q
    show (sortedHeap _ _ _ _).get? b = some u
    rw [sortedHeap_old (Nat.ne_of_lt hlt) (by rw [size_push']; exact Nat.lt_succ_of_lt hlt)]
    exact Heap.get?_push_of_some _ q
  · rw [← isortMap (le := fun x y : Addr × List Key => leK x.2 y.2) (leb := leK) (f := fun z : Addr × List Key => z.2) (fun _ _ => rfl)]
    exact isort_srd leKO _
end
/-! ### the rule -/
def tSortSetK (K : PySem.W.Frag) (ta : TE) : TE := fun σ H Q => ta σ H fun x H1 => ∃ (l : Addr) (ks : List (Addr × List Key)), x = .ref l ∧ SqL K H1 l (ks.map fun z => V.ref z.1) ∧ (∀ z ∈ ks, H1 z.1 = some (.tup (z.2.map kV))) ∧ ks.length < 64 ∧
  sortOk (ks.map fun z => keyTup z.2) = true ∧ ∀ (M : List (Addr × List Key)) p, M.map (·.2) = isort leK (dupK (ks.map (·.2))) → (∀ z ∈ M, z ∈ ks) → H1 p = none → Q (.ref p) (upd H1 p (.lst (M.map fun z => V.ref z.1)))
theorem sortOk_of {α : Type} {e : α → D} {l : List α} (h : sortOk (l.map e) = true) {L : List α} (hs : ∀ z ∈ L, z ∈ l) : PySem.W.AllAlike (L.map fun z => (e z).py) ∧ PySem.W.Sortable (L.map fun z => (e z).py) ∧ ∀ z ∈ L, (e z).py.depth ≤ 60 := by
  cases l with
  | nil =>
    have : L = [] := List.eq_nil_iff_forall_not_mem.mpr fun z hz => by cases hs z hz
    subst this
    exact ⟨nofun, .inl nofun, nofun⟩
  | cons x r =>
    rw [List.map_cons] at h
    unfold sortOk at h
    rw [Bool.and_eq_true] at h
    have fm : ∀ z ∈ L, (e x).form (e z) = true ∧ (e z).py.depth ≤ 60 := fun z hz => by
      have := List.all_eq_true.mp h.2 (e z) (by rw [← List.map_cons]; exact List.mem_map.mpr ⟨z, hs z hz, rfl⟩)
      rw [Bool.and_eq_true] at this
      exact ⟨this.1, Nat.le_of_ble_eq_true this.2⟩
    refine ⟨fun a ha b hb => ?_, ?_, fun z hz => (fm z hz).2⟩
    · obtain ⟨z, hz, rfl⟩ := List.mem_map.mp ha
      obtain ⟨y, hy, rfl⟩ := List.mem_map.mp hb
      exact D.form_alike _ _ _ (fm z hz).1 (fm y hy).1
    · cases ex : e x with
      | tup xs =>
        rw [ex] at h
        cases xs with
        | nil => simp at h
        | cons x0 xr =>
          refine .inl fun d hd => ?_
          obtain ⟨z, hz, rfl⟩ := List.mem_map.mp hd
          have hf := (fm z hz).1
          rw [ex] at hf
          cases eb : e z <;> rw [eb] at hf <;> simp [D.form] at hf
          rename_i ys
          cases ys <;> simp [D.forms] at hf
          simp [eb, D.py, D.pys]
      | _ =>
        refine .inr fun d hd => ?_
        obtain ⟨z, hz, rfl⟩ := List.mem_map.mp hd
        have hf := (fm z hz).1
        rw [ex] at hf
        cases eb : e z <;> rw [eb] at hf <;> simp [D.form] at hf <;> simp [eb, D.py]
theorem srd_dup {M : List (Addr × List Key)} {l : List (List Key)} (hn : (M.map (·.2)).Nodup) (hm : ∀ k, k ∈ M.map (·.2) ↔ k ∈ l) (hs : Srd leK (M.map (·.2))) : M.map (·.2) = isort leK (dupK l) := by
  have p : (M.map (·.2)).Perm (dupK l) := (List.perm_ext_iff_of_nodup hn (dupK_nd l)).mpr fun k => by rw [hm, dupK_mem]
  rw [← isort_srd_self hs]
  exact isort_eq leKO leK_anti p
theorem refs_of_vals_k : ∀ {ks : List (Addr × List Key)} {us : List Value}, Vals (ks.map fun z => V.ref z.1) us → us = ks.map fun z => Value.ref z.1
  | [], _, .nil => rfl
  | z :: ks, _, .cons r t => by
    cases r
    rw [refs_of_vals_k t]
    rfl
theorem vals_of_refs_k : ∀ (ks : List (Addr × List Key)), Vals (ks.map fun z => V.ref z.1) (ks.map fun z => Value.ref z.1)
  | [] => .nil
  | _ :: ks => .cons rfl (vals_of_refs_k ks)
theorem pe_sortSetK {X : Cx} {a : Expr} {ta : TE} {p p2 q pos : Pos} (hg : Gl X "sorted") (hm : X.mg "sorted" = none) (hg2 : Gl X "set") (hm2 : X.mg "set" = none) (ha : PE X a ta) (hu : X.A.units + 65 < cLine) (hc : X.calm = true := by rfl)
    (na : starEach [a] X.env = (false, eval a X.env) :: starEach [] X.env := by rfl) : PE X (.Call (.Name "sorted" p) [.Call (.Name "set" p2) [a] [] q] [] pos) (tSortSetK X.K ta) := by
  refine ⟨fun pins s σ H Q I h => ?_⟩
  refine Call_ (ld_blt I hg hm (by rfl) ?_)
  refine PyProof.Rows.callWith_builtin1 (PyProof.Rows.args_cons ?_ rfl) rfl rfl
  refine Call_ (ld_blt I hg2 hm2 boot_set ?_)
  refine PyProof.Rows.callWith_type1 (PyProof.Rows.args_cons (thn (ha.run pins s σ H _ I h) fun v s1 ⟨x, H1, I1, r1, q1⟩ => PyProof.Rows.args_nil ?_) na) na rfl
  obtain ⟨l, ks, rfl, hl, hk, hf, ho, q1⟩ := q1
  cases r1
  obtain ⟨its, rv, pl, hz⟩ := I1.list hl
  have hd := I1.ok.hd hc
  refine call_tps (P := X.prog) (w := X.w) (kd := mixKind X.prog X.w) qt_mix ks hd pl.isList (by simpa using refs_of_vals_k rv) (fun z hz => key_of I1.hok (hk z hz)) hf (by omega) fun h' tk L es ep t R g kp => ?_
  refine PyProof.Rows.args_nil ?_
  have I2 : Inv X pins σ H1 { s1 with heap := h', toks := tk } := I1.kept fun b o e => kp b o e
  have sub : ∀ z ∈ L, z ∈ ks := fun z hz => List.mem_of_mem_take (g.sub z hz)
  obtain ⟨o1, o2, o3⟩ := sortOk_of ho sub
  refine sorted_tps (s := { s1 with heap := h', toks := tk }) R hd hu o1 o2 o3 fun s' p out c M k ge oe hp hget hout pm ps => ?_
  have hfew : M.length < 64 := by rw [pm.length_eq]; exact R.fw
  have hlen : (M.map fun z => V.ref z.1).length ≤ sizeLine := by rw [List.length_map, sizeLine_eq]; omega
  have hn : H1 p = none := I2.hok.fresh hp
  have hv : Vals (M.map fun z => V.ref z.1) out.toList := by rw [hout]; exact vals_of_refs_k M
  have J : Inv X pins σ (upd H1 p (.lst (M.map fun z => V.ref z.1))) { ({ s1 with heap := h', toks := tk } : Shared) with heap := s'.heap, gens := s'.gens, drawn := s'.drawn, toks := s'.toks } :=
    I2.call (ch := []) (Un.laid k hp hn) (I2.hok.laid k hp ⟨hlen, out.toList, c, hv, hget⟩) (by rw [ge]; exact I2.bare) (fun _ z => nomatch z)
  have e : s' = { s1 with heap := s'.heap, gens := s'.gens, drawn := s'.drawn, toks := s'.toks } := by
    cases s'
    cases s1
    cases oe
    rfl
  rw [e]
  refine ⟨.ref p, _, J, rfl, q1 M p (srd_dup ((pm.map (·.2)).nodup_iff.mpr R.nd) (fun x => ?_) ps) (fun z hz => sub z (pm.mem_iff.mp hz)) hn⟩
  rw [(pm.map (·.2)).mem_iff]
  refine ⟨fun hx => ?_, fun hx => ?_⟩
  · obtain ⟨z, hz, e⟩ := List.mem_map.mp hx
    exact List.mem_map.mpr ⟨z, sub z hz, e⟩
  · obtain ⟨z, hz, rfl⟩ := List.mem_map.mp hx
    exact g.all z (by rw [List.take_length]; exact hz)
/-! ### the denotation -/
def keyLs : List D → Option (List (List Key))
  | [] => some []
  | d :: r => match tupKey d, keyLs r with
    | some k, some ks => some (k :: ks)
    | _, _ => none
def lSortSet (A : Den) : DenL := fun env st => (A env st).bind fun d s => match (getL s d).bind keyLs with
  | some ks => if Nat.blt ks.length 64 && sortOk (ks.map keyTup) then .ok ((isort leK (dupK ks)).map keyTup) s else .bad
  | none => .bad
theorem keys_at {K : PySem.W.Frag} {G : Nat → Addr} {H : Hp} {S : Vw} : ∀ {l : List D} {vs : List V} {ks : List (List Key)}, Reps K G H S l vs → keyLs l = some ks → ∃ zs : List (Addr × List Key), zs.map (·.2) = ks ∧ vs = zs.map (fun z => V.ref z.1) ∧ ∀ z ∈ zs, H z.1 = some (.tup (z.2.map kV))
  | [], vs, ks, r, e => by
    cases e
    exact ⟨[], rfl, r.of_nil, nofun⟩
  | d :: l, vs, ks, r, e => by
    obtain ⟨v, ws, rfl, rd, rl⟩ := r.of_cons
    unfold keyLs at e
    cases h1 : tupKey d with
    | none => rw [h1] at e; cases e
    | some k =>
      cases h2 : keyLs l with
      | none => rw [h1, h2] at e; cases e
      | some ks' =>
        rw [h1, h2] at e
        cases e
        obtain ⟨b, rfl, hb⟩ := key_at rd h1
        obtain ⟨zs, e1, e2, e3⟩ := keys_at rl h2
        exact ⟨(b, k) :: zs, by rw [List.map_cons, e1], by rw [e2]; rfl, fun z hz => (List.mem_cons.mp hz).elim (fun e => by rw [e]; exact hb) (e3 z)⟩
theorem rep_keyTup {K : PySem.W.Frag} {G : Nat → Addr} {H : Hp} {S : Vw} {b : Addr} {k : List Key} (h : H b = some (.tup (k.map kV))) : Rep K G H S (keyTup k) (.ref b) := by
  simp only [keyTup, Rep]
  exact ⟨b, _, rfl, h, mk_keys k⟩
theorem reps_keyTup {K : PySem.W.Frag} {G : Nat → Addr} {H : Hp} {S : Vw} : ∀ {M : List (Addr × List Key)}, (∀ z ∈ M, H z.1 = some (.tup (z.2.map kV))) → Reps K G H S ((M.map (·.2)).map keyTup) (M.map fun z => V.ref z.1)
  | [], _ => .nil
  | z :: M, h => .cons (rep_keyTup (h z (List.mem_cons_self ..))) (reps_keyTup fun y hy => h y (List.mem_cons_of_mem _ hy))
theorem el_sortSet {X : Cx} {G : Nat → Addr} {W : WX} {A : Den} {a : Expr} {p p2 q pos : Pos} (hm : X.mg "sorted" = none) (hm2 : X.mg "set" = none) (ha : ED X G W A a) (hu : X.A.units + 65 < cLine) (hg : Gl X "sorted" := by rfl) (hg2 : Gl X "set" := by rfl) (hc : X.calm = true := by rfl)
    (na : starEach [a] X.env = (false, eval a X.env) :: starEach [] X.env := by rfl) : EL X G W (lSortSet A) (.Call (.Name "sorted" p) [.Call (.Name "set" p2) [a] [] q] [] pos) :=
  PE.imp (pe_sortSetK hg hm hg2 hm2 ha hu hc na) fun σ H Q ⟨S, env, st, m, q⟩ => ⟨S, env, st, m, Post.imp (Post.bind q) fun S1 H1 d s1 l1 w1 q v rv => by
    cases el : getL s1 d with
    | none => rw [el] at q; exact q.elim
    | some l =>
      cases ek : keyLs l with
      | none => rw [el, Option.bind_some, ek] at q; exact q.elim
      | some ks =>
        rw [el, Option.bind_some, ek] at q
        dsimp only at q
        split at q
        · rename_i hz
          rw [Bool.and_eq_true] at hz
          obtain ⟨a, vs, rfl, h1, h2⟩ := getL_at w1 rv el
          obtain ⟨zs, e1, rfl, e3⟩ := keys_at h2 ek
          refine ⟨a, zs, rfl, h1, e3, ?_, ?_, fun M p hM hs hp => ?_⟩
          · have := blt_of hz.1
            rwa [← e1, List.length_map] at this
          · rw [← e1, List.map_map] at hz
            exact hz.2
          · refine Post.ok q w1 _ p ?_ hp
            rw [← e1, ← hM]
            exact reps_keyTup fun z hz => e3 z (hs z hz)
        · exact q.elim⟩
@[simp] theorem lSortSet_ap {A : Den} {env : En} {st : Sto} : lSortSet A env st = (A env st).bind fun d s => optB ((getL s d).bind keyLs) fun ks => if Nat.blt ks.length 64 && sortOk (ks.map keyTup) then .ok ((isort leK (dupK ks)).map keyTup) s else .bad := by
  unfold lSortSet optB
  congr
  funext d s
  cases (getL s d).bind keyLs <;> rfl
end Wt

/-! Core 15: dicts with keys that are ints and texts. -/
namespace Wt
open PySem PySem.Spec PyProof.Rows L2
def keyOfD : D → Option Key
  | .int i => some (.inl i)
  | .str x => some (.inr x)
  | _ => none
def valS (kvs : List (Key × D)) (k : Key) : Option D := (kvs.find? fun kv => decide (kv.1 = k)).map (·.2)
def putS (kvs : List (Key × D)) (k : Key) (d : D) : List (Key × D) :=
  if (kvs.any fun kv => decide (kv.1 = k)) = true then kvs.map (fun kv => if kv.1 = k then (kv.1, d) else kv) else kvs ++ [(k, d)]
def mrgS (kvs : List (Key × D)) : List (Key × D) := kvs.foldl (fun acc kv => putS acc kv.1 kv.2) []
def getS' (st : Sto) : D → Option (List (Key × D))
  | .loc i => match st[i]? with
    | some (.dK kvs) => some kvs
    | _ => none
  | _ => none
section
variable {K : PySem.W.Frag} {G : Nat → Addr} {H : Hp} {S : Vw}
theorem keyOfD_at {d : D} {v : V} {k : Key} (r : Rep K G H S d v) (e : keyOfD d = some k) : v = kV k := by
  cases d <;> simp only [keyOfD, Option.some.injEq, reduceCtorEq] at e
  · subst e; exact rep_int r
  · subst e; exact rep_str r
theorem KRep.valS {kvs : List (Key × D)} {us : List (Key × V)} {k : Key} (h : KRep K G H S kvs us) : (∀ d, valS kvs k = some d → ∃ v, valV us k = some v ∧ Rep K G H S d v) ∧ (Wt.valS kvs k = none → valV us k = none) := by
  unfold KRep at h
  induction h with
  | nil => exact ⟨fun d e => (nomatch e), fun _ => rfl⟩
  | @cons p q ps qs h t ih =>
    obtain ⟨h1, h2⟩ := h
    unfold Wt.valS valV at *
    rw [List.find?_cons, List.find?_cons]
    by_cases e : p.1 = k
    · rw [decide_eq_true e, decide_eq_true (h1 ▸ e)]
      exact ⟨fun d ed => by cases ed; exact ⟨_, rfl, h2⟩, nofun⟩
    · rw [decide_eq_false e, decide_eq_false (fun z => e (h1.trans z))]
      exact ih
theorem KRep.anyS {kvs : List (Key × D)} {us : List (Key × V)} {k : Key} (h : KRep K G H S kvs us) : (kvs.any fun kv => decide (kv.1 = k)) = us.any fun kv => decide (kv.1 = k) := by
  unfold KRep at h
  induction h with
  | nil => rfl
  | @cons p q ps qs h t ih => rw [List.any_cons, List.any_cons, ih, h.1]
theorem KRep.putS {kvs : List (Key × D)} {us : List (Key × V)} {k : Key} {d : D} {v : V} (h : KRep K G H S kvs us) (r : Rep K G H S d v) : KRep K G H S (putS kvs k d) (putK us k v) := by
  unfold Wt.putS putK
  rw [h.anyS]
  unfold KRep at h ⊢
  split
  · rename_i hz
    clear hz
    induction h with
    | nil => exact .nil
    | @cons p q ps qs h t ih =>
      rw [List.map_cons, List.map_cons]
      refine .cons ?_ ih
      by_cases e : p.1 = k
      · rw [if_pos e, if_pos (h.1 ▸ e)]
        exact ⟨h.1, r⟩
      · rw [if_neg e, if_neg (fun z => e (h.1.trans z))]
        exact h
  · rename_i hz
    clear hz
    induction h with
    | nil => exact .cons ⟨rfl, r⟩ .nil
    | @cons p q ps qs h t ih => exact .cons h ih
theorem KRep.mrg : ∀ {more : List (Key × D)} {rs : List (Key × V)} {kvs : List (Key × D)} {us : List (Key × V)}, KRep K G H S more rs → KRep K G H S kvs us → KRep K G H S (more.foldl (fun acc kv => Wt.putS acc kv.1 kv.2) kvs) (mergeK us rs) := by
  intro more rs kvs us h
  unfold KRep at h
  induction h generalizing kvs us with
  | nil => exact id
  | @cons p q ps qs h t ih =>
    intro z
    have z' := z.putS (k := p.1) h.2
    exact ih (us := putK us q.1 q.2) (by rw [← h.1]; exact z')
theorem getS'_at {d : D} {v : V} {st : Sto} {kvs : List (Key × D)} (w : Ws K G H S st) (r : Rep K G H S d v) (e : getS' st d = some kvs) : ∃ a us, v = .ref a ∧ H a = some (.dK us) ∧ KRep K G H S kvs us := by
  cases d with
  | loc i =>
    simp only [Rep] at r
    obtain ⟨a, rfl, hi⟩ := r
    simp only [getS'] at e
    cases hk : st[i]? with
    | none => rw [hk] at e; cases e
    | some c =>
      rw [hk] at e
      cases c with
      | dK k =>
        cases e
        obtain ⟨us, h1, h2⟩ := w.cr _ a _ hi hk
        exact ⟨a, us, rfl, h1, h2⟩
      | _ => cases e
  | _ => cases e
end
def dGetS (A B : Den) : Den := fun env st => (A env st).bind fun x s => (B env s).bind fun y s => match getS' s x, keyOfD y with
  | some kvs, some k => match valS kvs k with
    | some d => .ok d s
    | none => .bad
  | _, _ => .bad
def dGetS2 (A B C : Den) : Den := fun env st => (A env st).bind fun x s => match getS' s x with
  | some _ => (B env s).bind fun y s => (C env s).bind fun z s => match getS' s x, keyOfD y with
    | some kvs, some k => .ok ((valS kvs k).getD z) s
    | _, _ => .bad
  | none => .bad
def sPutS (A I B : Den) : DenS := fun env st => (B env st).then env fun y s => (A env s).then env fun d s => (I env s).then env fun k s => match d, keyOfD k with
  | .loc i, some ks => match s[i]? with
    | some (.dK kvs) => if szOk (kvs.length + 1) then .nx env (s.set i (.dK (putS kvs ks y))) else .bad
    | _ => .bad
  | _, _ => .bad
/-- {"a": x, ..}: the new dict stands empty while the values are made -/
def dDisp (ks : List Str) (As : DenL) : Den := fun env st => (As env (st ++ [.dK []])).bind fun l s => match s[st.length]? with
  | some (.dK []) => if Nat.beq l.length ks.length && Nat.ble l.length 15 then .ok (.loc st.length) (s.set st.length (.dK (mrgS ((ks.map Sum.inr).zip l)))) else .bad
  | _ => .bad
section
variable {X : Cx} {G : Nat → Addr} {W : WX} {pos pos' apos cpos : Pos} {e f o i : Expr} {A B C : Den}
theorem ed_getS (ho : ED X G W A o) (hi : ED X G W B i) (hu : X.A.units + 65 < cLine) (hs : NoSl i := by exact fun _ _ => rfl) : ED X G W (dGetS A B) (.Subscript o i pos) :=
  PE.imp (pe_dget (by omega) ho hi hs) fun σ H Q ⟨S, env, st, m, q⟩ => ⟨S, env, st, m, Post.imp (Post.bind q) fun S1 H1 x s1 l1 w1 q v rv => ⟨S1, env, s1, m.later l1 w1, Post.imp (Post.bind q) fun S2 H2 y s2 l2 w2 q u ru => by
    cases e1 : getS' s2 x with
    | none => rw [e1] at q; exact q.elim
    | some kvs =>
      cases e2 : keyOfD y with
      | none => rw [e1, e2] at q; exact q.elim
      | some k =>
        rw [e1, e2] at q
        dsimp only at q
        cases e3 : valS kvs k with
        | none => rw [e3] at q; exact q.elim
        | some d =>
          rw [e3] at q
          obtain ⟨a, us, rfl, h1, h2⟩ := getS'_at w2 (rv.mono l2) e1
          obtain rfl := keyOfD_at ru e2
          obtain ⟨w, h4, h5⟩ := (h2.valS (k := k)).1 d e3
          exact ⟨a, w, rfl, by rw [← h4]; exact DGet.k h1, Post.ok q w2 w h5⟩⟩⟩
theorem ed_getS2 (ho : ED X G W A o) (he : ED X G W B e) (hf : ED X G W C f) (hu : X.A.units + 65 < cLine) (m : M2 X o "get" apos e f cpos := by exact ⟨rfl, rfl, rfl, rfl⟩) : ED X G W (dGetS2 A B C) (.Call (.Attribute o "get" apos) [e, f] [] cpos) :=
  PE.imp (pe_dget2 (by omega) ho he hf m) fun σ H Q ⟨S, env, st, m, q⟩ => ⟨S, env, st, m, Post.imp (Post.bind q) fun S1 H1 x s1 l1 w1 q v rv => by
    cases e0 : getS' s1 x with
    | none => rw [e0] at q; exact q.elim
    | some kvs0 =>
      rw [e0] at q
      dsimp only at q
      obtain ⟨a, us0, rfl, h0, h00⟩ := getS'_at w1 rv e0
      refine ⟨a, rfl, .inl ⟨us0, .inl h0⟩, S1, env, s1, m.later l1 w1, Post.imp (Post.bind q) fun S2 H2 y s2 l2 w2 q u ru => ⟨S2, env, s2, (m.later l1 w1).later l2 w2, Post.imp (Post.bind q) fun S3 H3 z s3 l3 w3 q t rt => ?_⟩⟩
      cases e1 : getS' s3 x with
      | none => rw [e1] at q; exact q.elim
      | some kvs =>
        cases e2 : keyOfD y with
        | none => rw [e1, e2] at q; exact q.elim
        | some k =>
          rw [e1, e2] at q
          dsimp only at q
          obtain ⟨a', us, ea, h1, h2⟩ := getS'_at w3 ((rv.mono l2).mono l3) e1
          cases ea
          obtain rfl := keyOfD_at (ru.mono l3) e2
          refine ⟨valV us k, DGet.k h1, Post.ok q w3 _ ?_⟩
          cases e3 : valS kvs k with
          | none => rw [(h2.valS (k := k)).2 e3]; exact rt
          | some d =>
            obtain ⟨w, h4, h5⟩ := (h2.valS (k := k)).1 d e3
            rw [h4]
            exact h5⟩
theorem es_putS (ho : ED X G W A o) (hi : ED X G W B i) (hv : ED X G W C e) (hu : X.A.units + 65 < cLine) (hs : swapsWith e (some (.Subscript o i pos')) pos.line X.env = pure false := by rfl) : ES X G W (sPutS A B C) (.Assign [.Subscript o i pos'] e pos) :=
  PS.imp (ps_dput (by omega) ho hi hv hs) fun E σ H ⟨S, env, st, m, q⟩ => ⟨S, env, st, m, Post.imp (Post.then m.er q) fun S1 H1 y s1 l1 w1 q v rv => ⟨S1, env, s1, m.later l1 w1, Post.imp (Post.then (m.er.mono l1) q) fun S2 H2 d s2 l2 w2 q u ru =>
    ⟨S2, env, s2, (m.later l1 w1).later l2 w2, Post.imp (Post.then ((m.er.mono l1).mono l2) q) fun S3 H3 k s3 l3 w3 q z rz => by
      cases d with
      | loc i =>
        cases ek : keyOfD k with
        | none => simp only [ek] at q; exact q.elim
        | some ks =>
          simp only [ek] at q
          cases ec : s3[i]? with
          | none => simp only [ec] at q; exact q.elim
          | some c =>
            cases c with
            | dK kvs =>
              simp only [ec] at q
              split at q
              · rename_i hz
                simp only [Rep] at ru
                obtain ⟨a, rfl, ha⟩ := ru
                have ha3 := l3.toLatR.ix ha
                obtain ⟨us, h1, h2⟩ := w3.cr i a _ ha3 ec
                obtain rfl := keyOfD_at rz ek
                have rv3 := (rv.mono l2).mono l3
                have nt := nt_of h1 rfl
                have lt := (w3.write (o := .dK (putK us ks v)) (c' := .dead) ec ha3 (by intro z; cases z) nt trivial).1
                obtain ⟨_, w4⟩ := w3.write (o := .dK (putK us ks v)) (c' := .dK (putS kvs ks y)) ec ha3 (by intro z; cases z) nt ⟨_, upd_same, (h2.putS rv3).mono lt.toLatR⟩
                have hl := szOk.ok hz
                rw [h2.len] at hl
                exact ⟨a, _, rfl, DPut.k h1 (by omega), q S3 _ σ lt ⟨w4, (((m.er.mono l1).mono l2).mono l3).mono lt⟩⟩
              · exact q.elim
            | _ => simp only [ec] at q; exact q.elim
      | _ => cases ek : keyOfD k <;> simp only [ek] at q <;> exact q.elim⟩⟩⟩
end
/-! ### a display -/
/-- the pairs' rules: keys are written texts -/
def EPs (X : Cx) (G : Nat → Addr) (W : WX) (ks : List Str) (As : DenL) (keys : List (Option Expr)) (values : List Expr) : Prop :=
  ∃ trs : List (TE × TE), (∀ pos, PPs X pos keys values trs) ∧ ∀ (S : Vw) (σ : L2.St) (H : Hp) (env : En) (st : Sto) (k : List (V × V) → Hp → Prop), Sm X.K G S σ H env st →
    (Post X.K G W σ S H (As env st) fun S' H' l _ => ∀ vs, Reps X.K G H' S' l vs → k ((ks.map V.str).zip vs) H') → tPairs trs σ H k
section
variable {X : Cx} {G : Nat → Addr} {W : WX} {pos : Pos}
theorem eps_nil : EPs X G W [] aNil [] [] := ⟨[], fun _ => pps_nil, fun S σ H env st k m q => Post.ok q m.ws [] Reps.nil⟩
theorem eps_cons {x : Str} {j : Nat} {p : Pos} {ks : List Str} {A : Den} {As : DenL} {e : Expr} {keys : List (Option Expr)} {values : List Expr} (h : ED X G W A e) (t : EPs X G W ks As keys values) : EPs X G W (x :: ks) (aCons A As) (some (.Constant (.str x) j p) :: keys) (e :: values) := by
  obtain ⟨trs, h1, h2⟩ := t
  refine ⟨(tC (.str x), tD X.K G W A) :: trs, fun pos => pps_cons pe_str h (h1 pos), fun S σ H env st k m q => ?_⟩
  show tD X.K G W A σ H _
  refine ⟨S, env, st, m, Post.imp (Post.bind q) fun S1 H1 d s1 l1 w1 q v rv => ?_⟩
  refine h2 S1 σ H1 env s1 _ (m.later l1 w1) (Post.imp (Post.bind q) fun S2 H2 l s2 l2 w2 q vs rvs => ?_)
  exact Post.ok q w2 (v :: vs) (.cons (rv.mono l2) rvs)
theorem zip_keys : ∀ (ks : List Str) (vs : List V), (ks.map V.str).zip vs = ((ks.map (Sum.inr : Str → Key)).zip vs).map fun kv => (kV kv.1, kv.2)
  | [], _ => rfl
  | _ :: _, [] => rfl
  | k :: ks, v :: vs => by
    simp only [List.map_cons, List.zip_cons_cons]
    rw [zip_keys ks vs]
    rfl
theorem zip_rep {K : PySem.W.Frag} {H : Hp} {S : Vw} : ∀ {ks : List Key} {l : List D} {vs : List V}, Reps K G H S l vs → KRep K G H S (ks.zip l) (ks.zip vs)
  | [], _, _, _ => .nil
  | _ :: _, [], _, r => by rw [r.of_nil]; exact .nil
  | k :: ks, d :: l, _, r => by
    obtain ⟨v, ws, rfl, h1, h2⟩ := r.of_cons
    exact .cons ⟨rfl, h1⟩ (zip_rep h2)
theorem ed_disp {ks : List Str} {As : DenL} {keys : List (Option Expr)} {values : List Expr} (h : EPs X G W ks As keys values) (hall : keys.all (·.isSome) = true := by rfl) (hl : keys.length = values.length := by rfl) (h0 : keys ≠ [] := by simp)
    (h15 : keys.length ≤ 15 := by decide) : ED X G W (dDisp ks As) (.Dict keys values pos) := by
  obtain ⟨trs, h1, h2⟩ := h
  refine PE.imp (pe_disp (h1 pos) hall hl h0 h15) fun σ H Q ⟨S, env, st, m, q⟩ p hp => ?_
  have w1 : Ws X.K G (upd H p (.dK [])) (S.add p) (st ++ [.dK []]) := m.ws.newC hp ⟨[], upd_same, .nil⟩
  have l1 : Lat H S (upd H p (.dK [])) (S.add p) := Lat.newC hp
  refine h2 (S.add p) σ _ env (st ++ [.dK []]) _ (m.later l1 w1) (Post.later (Post.bind q) l1 fun S2 H2 l s l2 w2 q vs rvs => ?_)
  have hix := l2.toLatR.ix (Vw.add_ix m.ws (p := p))
  cases ec : s[st.length]? with
  | none => rw [ec] at q; exact q.elim
  | some c =>
    cases c with
    | dK kk =>
      cases kk with
      | nil =>
        rw [ec] at q
        dsimp only at q
        split at q
        · rename_i hz
          rw [Bool.and_eq_true] at hz
          obtain ⟨us, g1, g2⟩ := w2.cr _ p _ hix ec
          obtain rfl : us = [] := by cases g2; rfl
          have nt := nt_of g1 rfl
          have hk : KRep X.K G H2 S2 (mrgS ((ks.map Sum.inr).zip l)) (mergeK [] ((ks.map Sum.inr).zip vs)) := (zip_rep (ks := ks.map Sum.inr) rvs).mrg .nil
          have lt := (w2.write (o := .dK (mergeK [] ((ks.map Sum.inr).zip vs))) (c' := .dead) ec hix (by intro z; cases z) nt trivial).1
          obtain ⟨_, w4⟩ := w2.write (o := .dK (mergeK [] ((ks.map Sum.inr).zip vs))) (c' := .dK (mrgS ((ks.map Sum.inr).zip l))) ec hix (by intro z; cases z) nt ⟨_, upd_same, hk.mono lt.toLatR⟩
          have hb := Nat.le_of_ble_eq_true hz.2
          refine ⟨g1, (ks.map Sum.inr).zip vs, zip_keys ks vs, ?_, ?_⟩
          · rw [List.length_zip, ← rvs.length]
            omega
          · refine q S2 _ lt w4 _ ?_
            simp only [Rep]
            exact ⟨p, rfl, hix⟩
        · exact q.elim
      | cons _ _ => rw [ec] at q; exact q.elim
    | _ => rw [ec] at q; exact q.elim
end
end Wt

/-! Core 16: try .. except X as n; what the caught error is. -/
namespace Wt
open PySem PySem.Spec PyProof.Rows L2
/-! ### another table of classes, alike below 90 -/
mutual
def D.nc : D → Bool
  | .ins c fs => Nat.blt c 90 && D.ncs fs
  | .cls c => Nat.blt c 90
  | .tup l => D.ncs l
  | .lst l => D.ncs l
  | .scr l => D.ncs l
  | _ => true
def D.ncs : List D → Bool
  | [] => true
  | x :: xs => x.nc && D.ncs xs
end
def Cell.nc : Cell → Bool
  | .list l => D.ncs l
  | .inst c fs => Nat.blt c 90 && D.ncs fs
  | .dK kvs => kvs.all fun kv => kv.2.nc
  | .dT kvs => kvs.all fun kv => kv.2.nc
  | .lT kvs => kvs.all fun kv => kv.2.nc
  | .dead => true
def enC (e : En) : Bool := e.all fun o => match o with | some d => d.nc | none => true
def stC (s : Sto) : Bool := s.all Cell.nc
def AlikeG (G G' : Nat → Addr) : Prop := ∀ n, n < 90 → G' n = G n
theorem AlikeG.symm {G G' : Nat → Addr} (h : AlikeG G G') : AlikeG G' G := fun n hn => (h n hn).symm
section
variable {K : PySem.W.Frag} {G G' : Nat → Addr} {H : Hp} {S : Vw} (g : AlikeG G G')
include g
mutual
theorem Rep.swap : ∀ {d : D} {v : V}, d.nc = true → Rep K G H S d v → Rep K G' H S d v
  | .non, _, _, h => by simpa [Rep] using h
  | .bl _, _, _, h => by simpa [Rep] using h
  | .int _, _, _, h => by simpa [Rep] using h
  | .str _, _, _, h => by simpa [Rep] using h
  | .tup ds, _, n, h => by
    simp only [D.nc] at n
    simp only [Rep] at h ⊢
    obtain ⟨a, vs, e, h1, h2⟩ := h
    exact ⟨a, vs, e, h1, Reps.swap n h2⟩
  | .lst ds, _, n, h => by
    simp only [D.nc] at n
    simp only [Rep] at h ⊢
    obtain ⟨a, vs, e, f, h1, h2⟩ := h
    exact ⟨a, vs, e, f, h1, Reps.swap n h2⟩
  | .scr ds, _, n, h => by
    simp only [D.nc] at n
    simp only [Rep] at h ⊢
    obtain ⟨a, vs, e, h1, h2⟩ := h
    exact ⟨a, vs, e, h1, Reps.swap n h2⟩
  | .ins c ds, _, n, h => by
    simp only [D.nc, Bool.and_eq_true] at n
    simp only [Rep] at h ⊢
    obtain ⟨a, dx, vs, e, f, h1, h2⟩ := h
    exact ⟨a, dx, vs, e, f, by rw [g c (blt_of n.1)]; exact h1, Reps.swap n.2 h2⟩
  | .loc i, _, _, h => by simpa [Rep] using h
  | .cls c, _, n, h => by
    simp only [D.nc] at n
    simp only [Rep] at h ⊢
    rw [g c (blt_of n)]
    exact h
theorem Reps.swap : ∀ {ds : List D} {vs : List V}, D.ncs ds = true → Reps K G H S ds vs → Reps K G' H S ds vs
  | [], _, _, h => by simpa [Reps] using h
  | d :: ds, _, n, h => by
    simp only [D.ncs, Bool.and_eq_true] at n
    simp only [Reps] at h ⊢
    obtain ⟨v, ws, e, r, t⟩ := h
    exact ⟨v, ws, e, Rep.swap n.1 r, Reps.swap n.2 t⟩
end
theorem KRep.swap {κ : Type} : ∀ {ds : List (κ × D)} {vs : List (κ × V)}, (ds.all fun kv => kv.2.nc) = true → KRep K G H S ds vs → KRep K G' H S ds vs
  | _, _, _, .nil => .nil
  | _, _, n, .cons h t => by
    rw [List.all_cons, Bool.and_eq_true] at n
    exact .cons ⟨h.1, Rep.swap g n.1 h.2⟩ (KRep.swap n.2 t)
theorem CRep.swap {c : Cell} {a : Addr} (n : c.nc = true) (h : CRep K G H S c a) : CRep K G' H S c a := by
  cases c with
  | list ds =>
    obtain ⟨vs, h1, h2⟩ := h
    exact ⟨vs, h1, Reps.swap g n h2⟩
  | inst c fs =>
    simp only [Cell.nc, Bool.and_eq_true] at n
    obtain ⟨dx, vs, h1, h2, h3⟩ := h
    exact ⟨dx, vs, by rw [g c (blt_of n.1)]; exact h1, Reps.swap g n.2 h2, h3⟩
  | dK kvs =>
    obtain ⟨us, h1, h2⟩ := h
    exact ⟨us, h1, KRep.swap g n h2⟩
  | dT kvs =>
    obtain ⟨us, h1, h2⟩ := h
    exact ⟨us, h1, KRep.swap g n h2⟩
  | lT kvs =>
    obtain ⟨us, o, h1, h2⟩ := h
    exact ⟨us, o, h1, KRep.swap g n h2⟩
  | dead => trivial
theorem Ws.swap {st : Sto} (n : stC st = true) (w : Ws K G H S st) : Ws K G' H S st :=
  ⟨w.len, w.nd, w.rl, w.nf, w.np, w.dj, w.pf, fun i a c h1 h2 => (w.cr i a c h1 h2).swap g (List.all_eq_true.mp n c (List.mem_of_getElem? h2)), w.fr⟩
theorem ERep.swap {σ : L2.St} {env : En} (n : enC env = true) (e : ERep K G H S σ env) : ERep K G' H S σ env :=
  ⟨e.len, fun i d h => by
    obtain ⟨v, h1, h2⟩ := e.at_ i d h
    exact ⟨v, h1, h2.swap g (List.all_eq_true.mp n (some d) (List.mem_of_getElem? h))⟩⟩
theorem Sm.swap {σ : L2.St} {env : En} {st : Sto} (n : enC env = true) (n2 : stC st = true) (m : Sm K G S σ H env st) : Sm K G' S σ H env st := ⟨m.ws.swap g n2, m.er.swap g n⟩
end
/-- the caught error stands as the class 99 -/
def Gat (G : Nat → Addr) (a : Addr) : Nat → Addr := fun n => if n = 99 then a else G n
theorem gat_alike (G : Nat → Addr) (a : Addr) : AlikeG G (Gat G a) := fun n hn => if_neg (by omega)
theorem gat_99 (G : Nat → Addr) (a : Addr) : Gat G a 99 = a := if_pos rfl
def asOut (i : Nat) (r : Fl) : Fl := match r with
  | .nx e s => if enC (e.set i none) && stC s then .nx (e.set i none) s else .bad
  | .rt d s => if d.nc && stC s then .rt d s else .bad
  | _ => .bad
def sTryAs (es : List Nat) (ec i : Nat) (B : DenS) (B2 : Nat → DenS) : DenS := fun env st => match B env st with
  | .exc c e s => if es.contains c then (if subE c ec then (if enC e && stC s then asOut i (B2 c (e.set i (some (.cls 99))) s) else .bad) else .exc c e s) else .bad
  | r => r
section
variable {X : Cx} {G : Nat → Addr} {W : WX} {ec i : Nat} {es : List Nat} {x n : Str} {np pos pos' : Pos} {body suite : List Stmt} {b₀ : Stmt} {B : DenS} {B2 : Nat → DenS}
theorem es_tryAs (hs : X.stack = X.env :: X.outer) (hf : X.env.frame = some X.env.locals) (hN : X.N.Nodup) (hmx : X.mg x = some (.ref (G ec))) (tk : Takes X W) (ok : ∀ c ∈ es, PySem.W.exmOne X.K (.ref (G c)) (.ref (G ec)) = some (subE c ec))
    (hb : ∀ (W : WX) (pn : List (Addr × Obj)) (xe : Value → Shared → Prop), Takes (X.tr pn xe) W → PassesOwn (model X.prog X.w) X.A X.env xe → ESs (X.tr pn xe) G W B body)
    (hsu : ∀ (a : Addr) (oe : Obj) (pn : List (Addr × Obj)) (c : Nat), c ∈ es → Zc (.ref (G c)) none oe → (∃ vs, oe.data = .fields vs) → ESs (X.suite a ((a, oe) :: pn)) (Gat G a) W0 (B2 c) (b₀ :: suite))
    (hi : X.N[i]? = some n := by rfl) (hln : X.env.kindOf n = some .local := by rfl) (hgx : Gl X x := by rfl) (hdb : (x == ("__debug__" : Str)) = false := by decide) :
    ES X G W (sTryAs es ec i B B2) (.Try body [.ExceptHandler (some (.Name x np)) (some n) (b₀ :: suite) pos'] [] [] pos) :=
  PS.imp (ps_try_as (i := i) (tb := fun W => tS X.K G W B) (ts := fun a cls d E σ H => d = none ∧ ∃ c, c ∈ es ∧ cls = .ref (G c) ∧ tS X.K (Gat G a) W0 (B2 c) E σ H) hs hf hN hi hln ⟨hgx, hdb, .inl hmx⟩ tk hb
    fun a oe cls d pn hz hf => ⟨fun pins s σ H E I ⟨hd, c, hc, e, q⟩ => (hsu a oe pn c hc (by rw [← e, ← hd]; exact hz) hf).run pins s σ H E I q⟩) fun E σ H ⟨S, env, st, m, q⟩ => ⟨S, env, st, m, by
    unfold sTryAs at q
    cases e : B env st with
    | exc c e' s =>
      rw [e] at q
      dsimp only at q
      split at q
      · rename_i hz
        have hc : c ∈ es := by simpa using hz
        intro S' H' σ' l m'
        refine ⟨subE c ec, ok c hc, fun hs a ha => ⟨rfl, c, hc, rfl, ?_⟩, fun hs => ?_⟩
        · rw [hs, if_pos rfl] at q
          split at q
          · rename_i hn
            rw [Bool.and_eq_true] at hn
            have m2 := m'.swap (gat_alike G a) hn.1 hn.2
            refine ⟨S', e'.set i (some (.cls 99)), s, ⟨m2.ws, m2.er.set (by simp only [Rep]; rw [gat_99])⟩, ?_⟩
            have q' := PostS.later q l
            cases eb : B2 c (e'.set i (some (.cls 99))) s with
            | nx e2 s2 =>
              rw [eb] at q'
              unfold asOut at q'
              dsimp only at q'
              split at q'
              · rename_i hn2
                rw [Bool.and_eq_true] at hn2
                intro S3 H3 σ3 l3 m3
                exact q' S3 H3 _ l3 (Sm.swap (gat_alike G a).symm hn2.1 hn2.2 ⟨m3.ws, m3.er.unset⟩)
              · exact q'.elim
            | rt d s2 =>
              rw [eb] at q'
              unfold asOut at q'
              dsimp only at q'
              split at q'
              · rename_i hn2
                rw [Bool.and_eq_true] at hn2
                intro S3 H3 v l3 w3 r3
                exact q' S3 H3 v l3 (w3.swap (gat_alike G a).symm hn2.2) (r3.swap (gat_alike G a).symm hn2.1)
              · exact q'.elim
            | bk e2 s2 => rw [eb] at q'; exact q'.elim
            | ct e2 s2 => rw [eb] at q'; exact q'.elim
            | exc c2 e2 s2 => rw [eb] at q'; exact q'.elim
            | bad => rw [eb] at q'; exact q'.elim
          · exact q.elim
        · rw [hs, if_neg (by decide)] at q
          exact q S' H' σ' l m'
      · exact q.elim
    | nx e' s => rw [e] at q; exact q
    | rt d s => rw [e] at q; exact q
    | bk e' s => rw [e] at q; exact q
    | ct e' s => rw [e] at q; exact q
    | bad => rw [e] at q; exact q⟩
end
/-! ### isinstance of the caught error -/
/-- what the walk asks of a class of errors for that -/
def EExc (K : PySem.W.Frag) (G : Nat → Addr) (es : List Nat) : Prop := ∀ c ∈ es, ExcC K (G c)
/-- .. and of the class that is asked for -/
def EIs (K : PySem.W.Frag) (mg : Str → Option Value) (G : Nat → Addr) (es : List Nat) (x : Str) (k : Nat) : Prop := (∀ c ∈ es, PySem.W.kitOne K (.ref (G c)) (.ref (G k)) = some (subE c k)) ∧ mg x = some (.ref (G k))
def EIsV (K : PySem.W.Frag) (G : Nat → Addr) (es : List Nat) : Prop := ∀ c ∈ es, PySem.W.kitOne K (.ref (G c)) (.type "ValueError") = some true
def dErrIs (b : Bool) (A : Den) : Den := fun env st => (A env st).bind fun d s => match d with
  | .cls c => if Nat.beq c 99 then .ok (.bl b) s else .bad
  | _ => .bad
section
variable {X : Cx} {G : Nat → Addr} {W : WX} {A : Den} {a : Expr} {p p2 pos : Pos} {x : Str} {ea : Addr} {oe : Obj} {pn : List (Addr × Obj)} {c k : Nat} {es : List Nat}
theorem err_end {cv : Value} {v' : V} {b : Bool} (hcv : ∀ u, RelV v' u → u = cv) (hk : PySem.W.kitOne X.K (.ref (G c)) cv = some b) {σ : L2.St} {H : Hp} {Q : VK} {S : Vw} {env : En} {st : Sto} (m : Sm X.K (Gat G ea) S σ H env st) (q : Post X.K (Gat G ea) W σ S H (dErrIs b A env st) fun S' H' d _ => ∀ v, Rep X.K (Gat G ea) H' S' d v → Q v H') :
    tD X.K (Gat G ea) W A σ H fun x1 H1 => rIsE X.K (G c) ea [x1, v'] H1 Q := ⟨S, env, st, m, Post.imp (Post.bind q) fun S1 H1 d s1 l1 w1 q v rv => by
  cases d with
  | cls c' =>
    dsimp only at q
    split at q
    · rename_i hz
      obtain rfl : c' = 99 := Nat.eq_of_beq_eq_true hz
      simp only [Rep] at rv
      rw [gat_99] at rv
      subst rv
      exact ⟨v', cv, b, rfl, hcv, hk, Post.ok q w1 _ mk_bl⟩
    · exact q.elim
  | _ => exact q.elim⟩
theorem ed_errIs (C : EExc X.K G es) (I : EIs X.K X.mg G es x k) (hc : c ∈ es) (hz : Zc (.ref (G c)) none oe) (hf : ∃ vs, oe.data = .fields vs) (hm : X.mg "isinstance" = none) (ha : ED (X.suite ea ((ea, oe) :: pn)) (Gat G ea) W A a) (hg : Gl (X.suite ea ((ea, oe) :: pn)) "isinstance" := by rfl) (hgx : Gl (X.suite ea ((ea, oe) :: pn)) x := by rfl)
    (hdb : (x == ("__debug__" : Str)) = false := by decide)
    (he : starEach (a :: [.Name x p2]) X.env = (false, eval a X.env) :: starEach [.Name x p2] X.env := by rfl) (hpl : (backTo pos (starEach [.Name x p2] X.env)).any (·.1) = false := by rfl) (he2 : starEach ([.Name x p2]) X.env = (false, eval (.Name x p2) X.env) :: starEach [] X.env := by rfl) :
    ED (X.suite ea ((ea, oe) :: pn)) (Gat G ea) W (dErrIs (subE c k) A) (.Call (.Name "isinstance" p) [a, .Name x p2] [] pos) :=
  PE.imp (pe_callB (X := X.suite ea ((ea, oe) :: pn)) (call_isE (C c hc) hz hf) hg hm (by decide +kernel) (pa_cons ha (pa_cons (pe_glob (v := .ref (G k)) hgx I.2 rfl hdb) pa_nil he2) he) (by decide) (by decide) he hpl) fun σ H Q ⟨S, env, st, m, q⟩ =>
    err_end (v' := .ref (G k)) (cv := .ref (G k)) (fun u r => r) (I.1 c hc) m q
theorem ed_errIsV (C : EExc X.K G es) (I : EIsV X.K G es) (hc : c ∈ es) (hz : Zc (.ref (G c)) none oe) (hf : ∃ vs, oe.data = .fields vs) (hm : X.mg "isinstance" = none) (hmv : X.mg "ValueError" = none) (ha : ED (X.suite ea ((ea, oe) :: pn)) (Gat G ea) W A a) (hg : Gl (X.suite ea ((ea, oe) :: pn)) "isinstance" := by rfl) (hgx : Gl (X.suite ea ((ea, oe) :: pn)) "ValueError" := by rfl)
    (he : starEach (a :: [.Name "ValueError" p2]) X.env = (false, eval a X.env) :: starEach [.Name "ValueError" p2] X.env := by rfl) (hpl : (backTo pos (starEach [.Name "ValueError" p2] X.env)).any (·.1) = false := by rfl) (he2 : starEach ([.Name "ValueError" p2]) X.env = (false, eval (.Name "ValueError" p2) X.env) :: starEach [] X.env := by rfl) :
    ED (X.suite ea ((ea, oe) :: pn)) (Gat G ea) W (dErrIs true A) (.Call (.Name "isinstance" p) [a, .Name "ValueError" p2] [] pos) :=
  PE.imp (pe_callB (X := X.suite ea ((ea, oe) :: pn)) (call_isE (C c hc) hz hf) hg hm (by decide +kernel) (pa_cons ha (pa_cons (pe_bltn (v := .ty "ValueError") hgx hmv (by decide +kernel) rfl (by decide) (by decide)) pa_nil he2) he) (by decide) (by decide) he hpl) fun σ H Q ⟨S, env, st, m, q⟩ =>
    err_end (v' := .ty "ValueError") (cv := .type "ValueError") (fun u r => r) (I c hc) m q
end
/-- what an except clause asks of its class -/
def Tryf (K : PySem.W.Frag) (mg : Str → Option Value) (G : Nat → Addr) (es : List Nat) (x : Str) (ec : Nat) : Prop := (∀ c ∈ es, PySem.W.exmOne K (.ref (G c)) (.ref (G ec)) = some (subE c ec)) ∧ mg x = some (.ref (G ec))
section
variable {X : Cx} {G : Nat → Addr} {W : WX} {ec i : Nat} {es : List Nat} {x n : Str} {np pos pos' : Pos} {body suite : List Stmt} {b₀ : Stmt} {B B3 : DenS} {B2 : Nat → DenS}
theorem es_trf (T : Tryf X.K X.mg G es x ec) (tk : Takes X W)
    (hb : ∀ (W : WX) (pn : List (Addr × Obj)) (xe : Value → Shared → Prop), Takes (X.tr pn xe) W → PassesOwn (model X.prog X.w) X.A X.env xe → ESs (X.tr pn xe) G W B body)
    (hsu : ∀ (a : Addr) (oe : Obj) (pn : List (Addr × Obj)), ESs (X.suite a ((a, oe) :: pn)) G W0 B3 (b₀ :: suite)) (hs : X.stack = X.env :: X.outer := by rfl) (hf : X.env.frame = some X.env.locals := by rfl) (hgx : Gl X x := by rfl) (hdb : (x == ("__debug__" : Str)) = false := by decide) :
    ES X G W (sTry es ec B fun _ => B3) (.Try body [.ExceptHandler (some (.Name x np)) none (b₀ :: suite) pos'] [] [] pos) := es_try hs hf T.2 tk T.1 hb hsu hgx hdb
theorem es_trfAs (hN : X.N.Nodup) (T : Tryf X.K X.mg G es x ec) (tk : Takes X W)
    (hb : ∀ (W : WX) (pn : List (Addr × Obj)) (xe : Value → Shared → Prop), Takes (X.tr pn xe) W → PassesOwn (model X.prog X.w) X.A X.env xe → ESs (X.tr pn xe) G W B body)
    (hsu : ∀ (a : Addr) (oe : Obj) (pn : List (Addr × Obj)) (c : Nat), c ∈ es → Zc (.ref (G c)) none oe → (∃ vs, oe.data = .fields vs) → ESs (X.suite a ((a, oe) :: pn)) (Gat G a) W0 (B2 c) (b₀ :: suite))
    (hs : X.stack = X.env :: X.outer := by rfl) (hf : X.env.frame = some X.env.locals := by rfl) (hi : X.N[i]? = some n := by rfl) (hln : X.env.kindOf n = some .local := by rfl) (hgx : Gl X x := by rfl) (hdb : (x == ("__debug__" : Str)) = false := by decide) :
    ES X G W (sTryAs es ec i B B2) (.Try body [.ExceptHandler (some (.Name x np)) (some n) (b₀ :: suite) pos'] [] [] pos) := es_tryAs hs hf hN T.2 tk T.1 hb hsu hi hln hgx hdb
end
end Wt

/-! Core 17: sorted(set(xs)), xs a list of ints. -/
namespace Wt
open PySem PySem.Spec PyProof.Rows L2
section
variable {P : Program} {w : World} {A : Around} {E : Value → Shared → Prop} {s : Shared}
set_option maxHeartbeats 8000000 in
theorem call_set_li {l : Addr} {its : Array Value} (ns : List Int) {Q : Value → Shared → Prop} (hh : A.handled = none) (hl : s.heap.IsList l its) (hit : IntsAre its.toList ns) (hfew : ns.length + 1 < scanBound)
    (hQ : ∀ (h' : Heap) (tk c : Nat), SetR w h' s.heap.objs.size (fun j => decide (j ∈ ns)) c → c ≤ ns.length → (∀ b o, s.heap.get? b = some o → h'.get? b = some o) → Q (.ref s.heap.objs.size) { s with heap := h', toks := tk }) : wpAny (model P w) A (call (.type "set") [.ref l]) Q E s := by
  have isz : its.size = ns.length := by
    have z := IntsAre.length hit
    rwa [Array.length_toList] at z
  obtain ⟨c, tl, hmro⟩ := F.called_set.mro
  have hmade := F.called_set.made
  have hsb := F.called_set.sub
  refine wpAny_call (codeAny_of_tree (?_ : wpAny _ _ (callAny (.type "set") _) _ _ _))
  refine wpAny_pure ⟨Code.quiet_builtin _ (by decide +kernel), codeAny_builtin F.entry_type_call ?_⟩
  rw [Around.under_plain (weight_type_call_type "set" [.ref l] []) rfl]
  have n1 := F.called_set.notType
  have n2 := F.called_set.canCreate
  have n3 := F.typeCall_set_1 (.ref l)
  repeat (any_goals (first | assumption | wp_step))
  refine codeAny_mono (code_set_led1 (.ref l) (E := E) (Q₁ := fun obj s₁ => obj = .ref s.heap.objs.size ∧ s₁ = { s with heap := s.heap.push (newSet w) }) ⟨rfl, rfl⟩) fun r s₁ hr => ?_
  cases r with
  | error e => exact hr
  | ok fl =>
    cases fl with
    | ret obj =>
      obtain ⟨rfl, rfl⟩ := hr
      have hS : (s.heap.push (newSet w)).get? s.heap.objs.size = some (newSet w) := Heap.get?_push_size _ rfl
      have hT : Shared.TypeIs { s with heap := s.heap.push (newSet w) } (.ref s.heap.objs.size) "set" := ⟨_, hS, rfl⟩
      have hli := F.called_set.init.lookup
      have hbi := F.called_set.init.bind (.ref s.heap.objs.size)
      repeat (any_goals (first | assumption | wp_step))
      refine codeAny_mono (codeAny_call_builtin (R := wants (fun r s₂ => r = .none ∧ ∃ h' tk c, s₂ = { s with heap := h', toks := tk } ∧ SetR w h' s.heap.objs.size (fun j => decide (j ∈ ns)) c ∧ c ≤ ns.length ∧
          (∀ b o, s.heap.get? b = some o → h'.get? b = some o)) E) F.called_set.init.plain F.entry_set_init (check_set_init_1 hT ?_)) fun r₂ s₂ hr₂ => ?_
      · obtain ⟨ol, hol, hcl, nl, hdl⟩ := hl
        obtain ⟨ocls, odict, odata, oslots⟩ := ol
        dsimp only at hcl hdl
        subst hcl hdl
        have hol' : (s.heap.push (newSet w)).get? l = some { cls := .type "list", dict := odict, data := .seq its nl, slots := oslots } := Heap.get?_push_of_some _ hol
        have k1 := F.sub_list_set
        have k2 := F.sub_list_frozenset
        have k3 : (Value.type "list" == Value.type "dict") = false := by decide
        have hl1 : (s.heap.push (newSet w)).IsList l its := ⟨_, hol', rfl, nl, rfl⟩
        unfold Builtin.«set.__init__» noKeywords Builtin.Frozenset.updateFrom
        generalize hPI : pyIter = PI
        wp_walk
        subst hPI
        refine wpAny_pyIter_list hl1 (wpAny_bind (wpAny_runValue ?_))
        have hlS : l < s.heap.objs.size := Heap.lt_size hol
        have h3 : A.in1.in1.in1.handled = none := by simp [hh]
        have hneI : l ≠ (s.heap.push (newSet w)).objs.size := by rw [Heap.size_push]; exact Nat.ne_of_lt (Nat.lt_succ_of_lt hlS)
        have hSf : s.heap.objs.size ∉ [(s.heap.push (newSet w)).objs.size, l] := by
          rw [Heap.size_push]; simp only [List.mem_cons, List.not_mem_nil, or_false, not_or]
          exact And.intro (Nat.ne_of_lt (Nat.lt_succ_self _)) (Nat.ne_of_gt hlS)
        have hval : ∀ (i : Nat) (v : Value), its[i]? = some v → ∃ k t, ns[i]? = some k ∧ v = .int k t := fun i v hv => by
          have hi : i < ns.length := by rw [← isz]; exact (Array.getElem?_eq_some_iff.mp hv).1
          obtain ⟨t, e⟩ := PyProof.Rows.IntsAre.int_at hit i v (by rw [Array.getElem?_toList, hv])
          exact ⟨ns[i], t, List.getElem?_eq_getElem hi, by rw [e, List.getD_eq_getElem?_getD, List.getElem?_eq_getElem hi]; rfl⟩
        refine set_update_ints ((Walks.list h3 _ l hneI its).toS) s.heap.objs.size hSf ns isz hfew hval (its.size - 0) 0 _ (by omega) (Nat.zero_le _)
          ⟨⟨_, Heap.get?_push_size _ rfl, rfl, rfl⟩, (hl1.push _)⟩ ⟨0, Nat.le_refl 0, setR_new_at (Heap.get?_push_of_some _ hS)⟩ fun s' c' hm hc' hS' => ?_
        obtain ⟨h', g2, d', tk', os'⟩ := s'
        have eg : g2 = s.gens := hm.gens
        have ed : d' = s.drawn := hm.drawn
        have eo : os' = s.os := hm.os
        subst eg ed eo
        rw [isz] at hc'
        show wpAny _ _ _ _ _ _
        refine wpAny_pure (?_ : wpAny _ _ (ret Value.none) _ _ _)
        refine wpAny_pure ⟨rfl, h', tk', c', rfl, hS', hc', fun b o e => ?_⟩
        have n1 : b < s.heap.objs.size := Heap.lt_size e
        refine hm.heap b o ?_ (Heap.get?_push_of_some _ (Heap.get?_push_of_some _ e))
        rw [Heap.size_push]
        simp only [List.mem_cons, List.not_mem_nil, or_false, not_or]
        exact And.intro (Nat.ne_of_lt n1) (Nat.ne_of_lt (Nat.lt_succ_of_lt n1))
      · cases r₂ with
        | error e => exact hr₂
        | ok fl₂ =>
          cases fl₂ with
          | ret r =>
            obtain ⟨rfl, h', tk, c', rfl, hS', g', hk'⟩ := hr₂
            repeat (any_goals (first | assumption | wp_step))
            exact hQ _ _ _ hS' g' hk'
          | _ => exact hr₂.elim
    | _ => exact hr.elim
end
/-! ### the rule -/
abbrev leZ (i j : Int) : Bool := decide (i ≤ j)
theorem leZO : TotPre leZ := intsO
def tSortSetI (K : PySem.W.Frag) (ta : TE) : TE := fun σ H Q => ta σ H fun x H1 => ∃ (l : Addr) (ns : List Int), x = .ref l ∧ SqL K H1 l (ns.map V.int) ∧ ns.length < 64 ∧ ∀ p, H1 p = none → Q (.ref p) (upd H1 p (.lst ((isort leZ (dupK ns)).map V.int)))
theorem lt_srd : ∀ {l : List Int}, l.Pairwise (· < ·) → Srd leZ l ∧ l.Nodup := fun h => ⟨h.imp fun h => decide_eq_true (Int.le_of_lt h), h.imp fun h e => by omega⟩
theorem ints_dup {ns l : List Int} (h : ns.Pairwise (· < ·)) (hm : ∀ k, k ∈ ns ↔ decide (k ∈ l) = true) : ns = isort leZ (dupK l) := by
  obtain ⟨h1, h2⟩ := lt_srd h
  have p : ns.Perm (dupK l) := (List.perm_ext_iff_of_nodup h2 (dupK_nd l)).mpr fun k => by rw [hm, dupK_mem, decide_eq_true_eq]
  rw [← isort_srd_self h1]
  exact isort_eq leZO (fun x y a b => by have := of_decide_eq_true a; have := of_decide_eq_true b; omega) p
theorem pe_sortSetI {X : Cx} {a : Expr} {ta : TE} {p p2 q pos : Pos} (hg : Gl X "sorted") (hm : X.mg "sorted" = none) (hg2 : Gl X "set") (hm2 : X.mg "set" = none) (ha : PE X a ta) (hc : X.calm = true := by rfl)
    (na : starEach [a] X.env = (false, eval a X.env) :: starEach [] X.env := by rfl) : PE X (.Call (.Name "sorted" p) [.Call (.Name "set" p2) [a] [] q] [] pos) (tSortSetI X.K ta) := by
  refine ⟨fun pins s σ H Q I h => ?_⟩
  refine Call_ (ld_blt I hg hm (by rfl) ?_)
  refine PyProof.Rows.callWith_builtin1 (PyProof.Rows.args_cons ?_ rfl) rfl rfl
  refine Call_ (ld_blt I hg2 hm2 boot_set ?_)
  refine PyProof.Rows.callWith_type1 (PyProof.Rows.args_cons (thn (ha.run pins s σ H _ I h) fun v s1 ⟨x, H1, I1, r1, q1⟩ => PyProof.Rows.args_nil ?_) na) na rfl
  obtain ⟨l, ns, rfl, hl, hf, q1⟩ := q1
  cases r1
  obtain ⟨its, rv, pl, hz⟩ := I1.list hl
  have hd := I1.ok.hd hc
  refine call_set_li (P := X.prog) (w := X.w) ns hd pl.isList (by simpa using rv.ints) (by unfold scanBound; omega) fun h' tk c hS hcl kp => ?_
  refine PyProof.Rows.args_nil ?_
  have I2 : Inv X pins σ H1 { s1 with heap := h', toks := tk } := I1.kept fun b o e => kp b o e
  refine sorted_set (s := { s1 with heap := h', toks := tk }) hS hd (by omega) fun s' p out c M k ge oe hp hget hi hpw hmem hlen => ?_
  have hn : H1 p = none := I2.hok.fresh hp
  obtain rfl := ints_dup hpw hmem
  have hv : Vals ((isort leZ (dupK ns)).map V.int) out.toList := by
    revert hi
    generalize isort leZ (dupK ns) = m
    generalize out.toList = us
    intro hi
    induction hi with
    | nil => exact .nil
    | cons k t _ ih => exact .cons ⟨t, rfl⟩ ih
  have hlz : ((isort leZ (dupK ns)).map V.int).length ≤ sizeLine := by rw [List.length_map, sizeLine_eq]; omega
  have J : Inv X pins σ (upd H1 p (.lst ((isort leZ (dupK ns)).map V.int))) { ({ s1 with heap := h', toks := tk } : Shared) with heap := s'.heap, gens := s'.gens, drawn := s'.drawn, toks := s'.toks } :=
    I2.call (ch := []) (Un.laid k hp hn) (I2.hok.laid k hp ⟨hlz, out.toList, c, hv, hget⟩) (by rw [ge]; exact I2.bare) (fun _ z => nomatch z)
  have e : s' = { s1 with heap := s'.heap, gens := s'.gens, drawn := s'.drawn, toks := s'.toks } := by
    cases s'
    cases s1
    cases oe
    rfl
  rw [e]
  exact ⟨.ref p, _, J, rfl, q1 p hn⟩
def lSortSetI (A : Den) : DenL := fun env st => (A env st).bind fun d s => match (getL s d).bind intsOf with
  | some ns => if Nat.blt ns.length 64 then .ok ((isort leZ (dupK ns)).map .int) s else .bad
  | none => .bad
theorem el_sortSetI {X : Cx} {G : Nat → Addr} {W : WX} {A : Den} {a : Expr} {p p2 q pos : Pos} (hm : X.mg "sorted" = none) (hm2 : X.mg "set" = none) (ha : ED X G W A a) (hg : Gl X "sorted" := by rfl) (hg2 : Gl X "set" := by rfl) (hc : X.calm = true := by rfl)
    (na : starEach [a] X.env = (false, eval a X.env) :: starEach [] X.env := by rfl) : EL X G W (lSortSetI A) (.Call (.Name "sorted" p) [.Call (.Name "set" p2) [a] [] q] [] pos) :=
  PE.imp (pe_sortSetI hg hm hg2 hm2 ha hc na) fun σ H Q ⟨S, env, st, m, q⟩ => ⟨S, env, st, m, Post.imp (Post.bind q) fun S1 H1 d s1 l1 w1 q v rv => by
    cases e : (getL s1 d).bind intsOf with
    | none => rw [e] at q; exact q.elim
    | some ns =>
      rw [e] at q
      dsimp only at q
      split at q
      · rename_i hz
        obtain ⟨a, rfl, h1⟩ := ints_at w1 rv e
        exact ⟨a, ns, rfl, h1, blt_of hz, fun p hp => Post.ok q w1 _ p Reps.of_ints hp⟩
      · exact q.elim⟩
@[simp] theorem lSortSetI_ap {A : Den} {env : En} {st : Sto} : lSortSetI A env st = (A env st).bind fun d s => optB ((getL s d).bind intsOf) fun ns => if Nat.blt ns.length 64 then .ok ((isort leZ (dupK ns)).map .int) s else .bad := by
  unfold lSortSetI optB
  congr
  funext d s
  cases (getL s d).bind intsOf <;> rfl
end Wt

namespace Wt
open PySem PySem.Spec PyProof.Rows L2
/-- while, at most n turns -/
def whIt (P : DenB) (B : DenS) : Nat → DenS
  | 0, _, _ => .bad
  | n + 1, env, st => (P env st).then env fun b s => if b then (match B env s with
    | .nx e s => whIt P B n e s
    | .ct e s => whIt P B n e s
    | .bk e s => .nx e s
    | o => o) else .nx env s
def sWhile (P : DenB) (B : DenS) : DenS := whIt P B 1000
section
variable {X : Cx} {G : Nat → Addr} {W : WX} {pos : Pos} {P : DenB} {B : DenS} {c : Expr} {body : List Stmt}
theorem es_while (hp : PassesOwn (model X.prog X.w) X.A X.env X.xe) (h : EB X G W P c) (hb : ESs X G W B body) : ES X G W (sWhile P B) (.While c body [] pos) :=
  PS.imp (ps_while hp h hb) fun E σ H ⟨S, env, st, m, q⟩ => ⟨fun n σ H => ∃ S env st, Sm X.K G S σ H env st ∧ PostS X.K G W S H (whIt P B n env st) E, ⟨1000, S, env, st, m, q⟩, fun n σ H ⟨S, env, st, m, q⟩ => by
    cases n with
    | zero => exact q.elim
    | succ n =>
      rw [whIt] at q
      refine ⟨S, env, st, m, Post.imp (Post.then m.er q) fun S' H' k s1 l1 w1 q => ?_⟩
      cases k with
      | false =>
        rw [if_neg (by decide)] at q ⊢
        exact q S' H' σ .refl (m.later l1 w1)
      | true =>
        rw [if_pos rfl] at q ⊢
        refine ⟨fun σ H => ∃ S env st, Sm X.K G S σ H env st ∧ PostS X.K G W S H (whIt P B n env st) E, fun σ' H' h => ⟨n, Nat.lt_succ_self _, h⟩, S', env, s1, m.later l1 w1, ?_⟩
        cases eb : B env s1 with
        | nx e s =>
          rw [eb] at q
          exact fun S3 H3 σ3 l3 sm3 => ⟨S3, e, s, sm3, PostS.later q l3⟩
        | ct e s =>
          rw [eb] at q
          exact fun S3 H3 σ3 l3 sm3 => ⟨S3, e, s, sm3, PostS.later q l3⟩
        | bk e s =>
          rw [eb] at q
          exact fun S3 H3 σ3 l3 sm3 => q S3 H3 σ3 l3 sm3
        | rt d s =>
          rw [eb] at q
          exact fun S3 H3 v l3 w3 r3 => q S3 H3 v l3 w3 r3
        | exc c e s =>
          rw [eb] at q
          exact fun S3 H3 σ3 l3 sm3 => q S3 H3 σ3 l3 sm3
        | bad => rw [eb] at q; exact q⟩
end

/-- list(range(n)) -/
def lRg1 (A : Den) : DenL := fun env st => (A env st).bind fun d s => match d with
  | .int j => if decide (0 ≤ j) && decide (j ≤ 16777216) then .ok (((List.range j.toNat).map fun i : Nat => (i : Int)).map .int) s else .bad
  | _ => .bad
theorem el_rg1 {X : Cx} {G : Nat → Addr} {W : WX} {A : Den} {a : Expr} {p p2 q pos : Pos} (hm : X.mg "list" = none) (hm2 : X.mg "range" = none) (ha : ED X G W A a) (hg : Gl X "list" := by rfl) (hg2 : Gl X "range" := by rfl) (hc : X.calm = true := by rfl)
    (na : starEach [a] X.env = (false, eval a X.env) :: starEach [] X.env := by rfl) (na2 : starEach [.Call (.Name "range" p2) [a] [] q] X.env = (false, eval (.Call (.Name "range" p2) [a] [] q) X.env) :: starEach [] X.env := by rfl) : EL X G W (lRg1 A) (.Call (.Name "list" p) [.Call (.Name "range" p2) [a] [] q] [] pos) :=
  PE.imp (pe_listRg hc hg hm (prg_1 hg2 hm2 ha na) na2) fun σ H Q ⟨S, env, st, m, q⟩ => ⟨S, env, st, m, Post.imp (Post.bind q) fun S1 H1 d s1 l1 w1 q v rv => by
    split at q
    · rename_i j
      split at q
      · rename_i hz
        simp only [Bool.and_eq_true, decide_eq_true_eq] at hz
        refine ⟨j, rep_int rv, RgOk.of_le (by decide) hz.2 (by decide) hz.1, fun p hp => ?_⟩
        have e : rgV 0 j = ((List.range j.toNat).map fun i : Nat => (i : Int)).map V.int := by
          rw [rgV, Int.sub_zero, List.map_map]
          exact List.map_congr_left fun i _ => by rw [Int.zero_add]; rfl
        rw [e]
        exact Post.ok q w1 _ p Reps.of_ints hp
      · exact q.elim
    · exact q.elim⟩
@[simp] theorem lRg1_ap {A : Den} {env : En} {st : Sto} {j : Int} {s : Sto} (h : A env st = .ok (.int j) s) (h0 : 0 ≤ j) (h1 : j ≤ 16777216) : lRg1 A env st = .ok (((List.range j.toNat).map fun i : Nat => (i : Int)).map .int) s := by
  unfold lRg1
  rw [h]
  show (if decide (0 ≤ j) && decide (j ≤ 16777216) then _ else _) = _
  rw [decide_eq_true h0, decide_eq_true h1]
  rfl
end Wt

namespace Wt
open PySem PySem.Spec PyProof.Rows L2
/-! ## two who know commands, plain -/
/-- behind all commands of ticks to t -/
def runT (L : Int) (cs : List Cmd) (t : Int) : Int × Bool × Int := runC L ((isort leC cs).takeWhile fun c => decide (c.1 ≤ t))
theorem stand_run (L : Int) (cs : List Cmd) (t : Int) : standL L cs t = endC L t (runT L cs t) := rfl
theorem runT_perm {L : Int} {cs ds : List Cmd} (h : cs.Perm ds) (t : Int) : runT L cs t = runT L ds t := by unfold runT; rw [isort_eq leCO leC_anti h]
theorem run_again {L : Int} {cs : List Cmd} (hL : 0 ≤ L) (hv : ∀ c ∈ cs, Vc L c) {c : Cmd} (hc : c ∈ cs) (t : Int) : runT L (c :: cs) t = runT L cs t := by
  obtain ⟨A, B, e1, e2⟩ := ins_again c (isort_srd leCO cs) (isort_mem.mpr hc)
  unfold runT
  rw [show isort leC (c :: cs) = A ++ c :: c :: B from e2, e1]
  have hA : ∀ x ∈ A, Vc L x := fun x hx => hv x (isort_mem.mp (by rw [e1]; exact List.mem_append_left _ hx))
  unfold runC
  rw [List.takeWhile_append, List.takeWhile_append]
  by_cases hall : (List.takeWhile (fun c => decide (c.1 ≤ t)) A).length = A.length
  · rw [if_pos hall, if_pos hall, List.foldl_append, List.foldl_append]
    have hle := fold_le A (0, false, 0) hA hL
    generalize A.foldl (stepC L) (0, false, 0) = s at *
    by_cases ht : c.1 ≤ t
    · rw [List.takeWhile_cons, if_pos (decide_eq_true ht), List.takeWhile_cons, if_pos (decide_eq_true ht), List.foldl_cons, List.foldl_cons, List.foldl_cons, step_twice (hv c hc) hle]
    · rw [List.takeWhile_cons, if_neg (by simpa using ht), List.takeWhile_cons, if_neg (by simpa using ht)]
  · rw [if_neg hall, if_neg hall]
theorem run_twice {L : Int} {cs : List Cmd} (hL : 0 ≤ L) (hv : ∀ c ∈ cs, Vc L c) (t : Int) : ∀ ds : List Cmd, (∀ c ∈ ds, c ∈ cs) → runT L (ds ++ cs) t = runT L cs t
  | [], _ => rfl
  | d :: ds, h => by
    rw [List.cons_append, run_again hL (fun c hc => (List.mem_append.mp hc).elim (fun hc => hv c (h c (List.mem_cons_of_mem _ hc))) (hv c)) (List.mem_append_right _ (h d (List.mem_cons_self ..))), run_twice hL hv t ds fun c hc => h c (List.mem_cons_of_mem _ hc)]
theorem tw_tw {α : Type} {p q : α → Bool} (h : ∀ c, p c = true → q c = true) : ∀ l : List α, (l.takeWhile q).takeWhile p = l.takeWhile p
  | [] => rfl
  | x :: r => by
    rw [List.takeWhile_cons (p := q), List.takeWhile_cons (p := p)]
    by_cases hp : p x = true
    · rw [if_pos (h x hp), if_pos hp, List.takeWhile_cons, if_pos hp, tw_tw h r]
    · rw [if_neg hp]
      split
      · rw [List.takeWhile_cons, if_neg hp]
      · rfl
theorem run_cut (L : Int) (cs : List Cmd) (t : Int) : runT L (cs.filter fun c => decide (c.1 ≤ t)) t = runT L cs t := by
  unfold runT
  rw [stand_filter]
  rw [tw_tw fun _ h => h]
/-- who know the same up to t -/
theorem run_same {L : Int} (hL : 0 ≤ L) {cs ds : List Cmd} (h1 : ∀ c ∈ cs, Vc L c) (h2 : ∀ c ∈ ds, Vc L c) {t : Int} (h : ∀ c : Cmd, c.1 ≤ t → (c ∈ cs ↔ c ∈ ds)) : runT L cs t = runT L ds t := by
  rw [← run_cut L cs, ← run_cut L ds]
  have a1 : ∀ c ∈ cs.filter (fun c => decide (c.1 ≤ t)), c ∈ ds.filter (fun c => decide (c.1 ≤ t)) := fun c hc => by
    obtain ⟨m, e⟩ := List.mem_filter.mp hc
    exact List.mem_filter.mpr ⟨(h c (of_decide_eq_true e)).mp m, e⟩
  have a2 : ∀ c ∈ ds.filter (fun c => decide (c.1 ≤ t)), c ∈ cs.filter (fun c => decide (c.1 ≤ t)) := fun c hc => by
    obtain ⟨m, e⟩ := List.mem_filter.mp hc
    exact List.mem_filter.mpr ⟨(h c (of_decide_eq_true e)).mpr m, e⟩
  have b1 := run_twice hL (fun c hc => h2 c (List.mem_filter.mp hc).1) t _ a1
  have b2 := run_twice hL (fun c hc => h1 c (List.mem_filter.mp hc).1) t _ a2
  rw [← b1, ← b2]
  exact runT_perm List.perm_append_comm t
theorem stand_same {L : Int} (hL : 0 ≤ L) {cs ds : List Cmd} (h1 : ∀ c ∈ cs, Vc L c) (h2 : ∀ c ∈ ds, Vc L c) {t : Int} (h : ∀ c : Cmd, c.1 ≤ t → (c ∈ cs ↔ c ∈ ds)) : standL L cs t = standL L ds t := by
  rw [stand_run, stand_run, run_same hL h1 h2 h]
/-! ### what just one knows -/
def unL (one other : List Cmd) (t : Int) : List Cmd := (one.filter fun c => !decide (c ∈ other) && decide (c.1 ≤ t)) ++ other.filter fun c => !decide (c ∈ one) && decide (c.1 ≤ t)
def unS (one other : List Cmd) (t : Int) : List Cmd := isort leC (dupK (unL one other t))
theorem un_mem {one other : List Cmd} {t : Int} {c : Cmd} : c ∈ unL one other t ↔ ((c ∈ one ∧ c ∉ other) ∨ (c ∈ other ∧ c ∉ one)) ∧ c.1 ≤ t := by
  unfold unL
  simp only [List.mem_append, List.mem_filter, Bool.and_eq_true, Bool.not_eq_true', decide_eq_false_iff_not, decide_eq_true_eq]
  exact ⟨fun h => h.elim (fun ⟨a, b, c⟩ => ⟨.inl ⟨a, b⟩, c⟩) fun ⟨a, b, c⟩ => ⟨.inr ⟨a, b⟩, c⟩, fun ⟨h, c⟩ => h.elim (fun ⟨a, b⟩ => .inl ⟨a, b, c⟩) fun ⟨a, b⟩ => .inr ⟨a, b, c⟩⟩
theorem uns_mem {one other : List Cmd} {t : Int} {c : Cmd} : c ∈ unS one other t ↔ c ∈ unL one other t := isort_mem.trans dupK_mem
theorem uns_nil {one other : List Cmd} {t : Int} : unS one other t = [] ↔ unL one other t = [] := by
  rw [List.eq_nil_iff_forall_not_mem, List.eq_nil_iff_forall_not_mem]
  exact forall_congr' fun c => not_congr uns_mem
theorem un_same {one other : List Cmd} {t : Int} (h : unL one other t = []) (c : Cmd) (hc : c.1 ≤ t) : c ∈ one ↔ c ∈ other := by
  have := List.eq_nil_iff_forall_not_mem.mp h c
  rw [un_mem] at this
  by_cases h1 : c ∈ one <;> by_cases h2 : c ∈ other <;> simp_all
/-- the first tick of what just one knows, -1 if there is none -/
def firT (one other : List Cmd) (t : Int) : Int := match unS one other t with | [] => -1 | c :: _ => c.1
def atT (one other : List Cmd) (t : Int) : Int := match unS one other t with | [] => 0 | c :: _ => t - c.1
theorem fir_cases (one other : List Cmd) (t : Int) : (unL one other t = [] ∧ firT one other t = -1 ∧ atT one other t = 0) ∨ ∃ c r, unS one other t = c :: r ∧ c ∈ unL one other t ∧ (∀ d ∈ unL one other t, c.1 ≤ d.1) ∧ firT one other t = c.1 ∧ atT one other t = t - c.1 := by
  unfold firT atT
  cases h : unS one other t with
  | nil => exact .inl ⟨uns_nil.mp h, rfl, rfl⟩
  | cons c r =>
    refine .inr ⟨c, r, rfl, uns_mem.mp (by rw [h]; exact List.mem_cons_self ..), fun d hd => ?_, rfl, rfl⟩
    have hs := isort_srd leCO (dupK (unL one other t))
    have h' : isort leC (dupK (unL one other t)) = c :: r := h
    rw [h'] at hs
    have hd' := uns_mem.mpr hd
    rw [h] at hd'
    rcases List.mem_cons.mp hd' with rfl | hd'
    · exact Int.le_refl _
    · exact leC_tick ((List.pairwise_cons.mp hs).1 d hd')
theorem fir_uniq {one other : List Cmd} {t : Int} {m : Int} (h1 : ∃ c ∈ unL one other t, c.1 = m) (h2 : ∀ c ∈ unL one other t, m ≤ c.1) : firT one other t = m := by
  rcases fir_cases one other t with ⟨e, _⟩ | ⟨c, r, _, hc, hm, e, _⟩
  · obtain ⟨c, hc, _⟩ := h1
    rw [e] at hc
    cases hc
  · obtain ⟨d, hd, rfl⟩ := h1
    have := hm d hd
    have := h2 c hc
    omega
theorem un_comm_mem {one other : List Cmd} {t : Int} {c : Cmd} : c ∈ unL one other t ↔ c ∈ unL other one t := by
  rw [un_mem, un_mem]
  constructor <;> rintro ⟨h | h, e⟩ <;> first | exact ⟨.inr h, e⟩ | exact ⟨.inl h, e⟩
theorem at_comm (one other : List Cmd) (t : Int) : atT one other t = atT other one t := by
  rcases fir_cases one other t with ⟨e, _, e2⟩ | ⟨c, r, _, hc, hm, e, e2⟩
  · have : unL other one t = [] := List.eq_nil_iff_forall_not_mem.mpr fun c hc => by
      have := un_comm_mem.mpr hc
      rw [e] at this
      cases this
    rcases fir_cases other one t with ⟨_, _, e3⟩ | ⟨c, r, _, hc, _⟩
    · rw [e2, e3]
    · rw [this] at hc; cases hc
  · have h := fir_uniq (one := other) (other := one) (t := t) ⟨c, un_comm_mem.mp hc, rfl⟩ fun d hd => hm d (un_comm_mem.mpr hd)
    rcases fir_cases other one t with ⟨e4, _⟩ | ⟨d, r', _, hd, _, e5, e6⟩
    · have := un_comm_mem.mp hc
      rw [e4] at this
      cases this
    · rw [e2, e6]
      omega
theorem at_self (one : List Cmd) (t : Int) : atT one one t = 0 := by
  rcases fir_cases one one t with ⟨_, _, e⟩ | ⟨c, r, _, hc, _⟩
  · exact e
  · have := (un_mem.mp hc).1
    rcases this with ⟨a, b⟩ | ⟨a, b⟩ <;> exact absurd a b
/-- up to the first unlike tick they stand alike -/
theorem fir_before {L : Int} (hL : 0 ≤ L) {one other : List Cmd} (h1 : ∀ c ∈ one, Vc L c) (h2 : ∀ c ∈ other, Vc L c) {t f : Int} (hf : f ≤ t + 1) (h : ∀ c ∈ unL one other t, f ≤ c.1) : runT L one (f - 1) = runT L other (f - 1) :=
  run_same hL h1 h2 fun c hc => by
    by_cases m1 : c ∈ one <;> by_cases m2 : c ∈ other
    · exact ⟨fun _ => m2, fun _ => m1⟩
    · have := h c (un_mem.mpr ⟨.inl ⟨m1, m2⟩, by omega⟩); omega
    · have := h c (un_mem.mpr ⟨.inr ⟨m2, m1⟩, by omega⟩); omega
    · exact ⟨fun z => absurd z m1, fun z => absurd z m2⟩
/-! ### no further apart, where neither is moved -/
theorem end_le {L : Int} {s : Int × Bool × Int} {u t : Int} (hs : s.1 ≤ L) (hu : s.2.2 ≤ u) (ht : u ≤ t) : (endC L u s).1 ≤ (endC L t s).1 ∧ (endC L t s).1 ≤ (endC L u s).1 + (t - u) := by
  unfold endC minL
  cases s.2.1 <;> simp only [if_true, Bool.false_eq_true, if_false]
  · omega
  · split <;> split <;> omega
theorem fold_apart {L t : Int} : ∀ (r : List Cmd) (s : Int × Bool × Int) (u : Int), s.1 ≤ L → s.2.2 ≤ u → u ≤ t → (r.Pairwise fun a b => a.1 ≤ b.1) → (∀ c ∈ r, u ≤ c.1 ∧ c.1 ≤ t ∧ c.2.2.1 ≠ kMove) →
    (endC L u s).1 ≤ (endC L t (r.foldl (stepC L) s)).1 ∧ (endC L t (r.foldl (stepC L) s)).1 ≤ (endC L u s).1 + (t - u)
  | [], s, u, h1, h2, h3, _, _ => end_le h1 h2 h3
  | c :: r, s, u, h1, h2, h3, hp, hc => by
    obtain ⟨c1, c2, c3⟩ := hc c (List.mem_cons_self ..)
    obtain ⟨p1, p2⟩ := List.pairwise_cons.mp hp
    have hst : stepC L s c = ((endC L c.1 s).1, decide (c.2.2.1 = kGo), c.1) := by
      unfold stepC endC
      rw [if_neg c3]
    have hle : (endC L c.1 s).1 ≤ L := by
      unfold endC minL
      cases s.2.1 <;> simp only [if_true, Bool.false_eq_true, if_false]
      · exact h1
      · split <;> omega
    have he := end_le h1 h2 c1
    have hself : (endC L c.1 (stepC L s c)).1 = (endC L c.1 s).1 := by
      rw [hst]
      generalize (endC L c.1 s).1 = p at *
      unfold endC minL
      show (if decide (c.2.2.1 = kGo) = true then if p + c.1 - c.1 < L then p + c.1 - c.1 else L else p) = p
      split
      · split <;> omega
      · rfl
    have ih := fold_apart (L := L) (t := t) r (stepC L s c) c.1 (by rw [hst]; exact hle) (by rw [hst]; exact Int.le_refl _) c2 p2 fun d hd => ⟨p1 d hd, (hc d (List.mem_cons_of_mem _ hd)).2⟩
    rw [hself] at ih
    rw [List.foldl_cons]
    omega
theorem run_last {L : Int} : ∀ (r : List Cmd) (s : Int × Bool × Int) (u : Int), s.2.2 ≤ u → (∀ c ∈ r, c.1 ≤ u) → (r.foldl (stepC L) s).2.2 ≤ u
  | [], _, _, h, _ => h
  | c :: r, s, u, h, hc => by
    refine run_last r (stepC L s c) u ?_ fun d hd => hc d (List.mem_cons_of_mem _ hd)
    have := hc c (List.mem_cons_self ..)
    unfold stepC
    split <;> exact this
theorem srd_drop {u : Int} : ∀ {l : List Cmd}, Srd leC l → ∀ c ∈ l.dropWhile (fun c => decide (c.1 ≤ u)), u < c.1
  | [], _, c, h => by cases h
  | x :: r, hs, c, h => by
    obtain ⟨h1, h2⟩ := List.pairwise_cons.mp hs
    rw [List.dropWhile_cons] at h
    by_cases hx : x.1 ≤ u
    · rw [if_pos (decide_eq_true hx)] at h
      exact srd_drop h2 c h
    · rw [if_neg (by simpa using hx)] at h
      rcases List.mem_cons.mp h with rfl | h
      · omega
      · have := leC_tick (h1 c h); omega
theorem stand_span {L : Int} (hL : 0 ≤ L) {cs : List Cmd} (hv : ∀ c ∈ cs, Vc L c ∧ c.2.2.1 ≠ kMove) {f t : Int} (h0 : 0 ≤ f) (hf : f ≤ t) : (endC L f (runT L cs (f - 1))).1 ≤ (standL L cs t).1 ∧ (standL L cs t).1 ≤ (endC L f (runT L cs (f - 1))).1 + (t - f) := by
  have hs := isort_srd leCO cs
  obtain ⟨l, hl⟩ : ∃ l, l = (isort leC cs).takeWhile fun c => decide (c.1 ≤ t) := ⟨_, rfl⟩
  have hls : Srd leC l := by rw [hl]; exact hs.sublist (List.takeWhile_sublist _)
  have hlm : ∀ c ∈ l, Vc L c ∧ c.2.2.1 ≠ kMove ∧ c.1 ≤ t := fun c hc => by
    rw [hl] at hc
    have m := hv c (isort_mem.mp ((List.takeWhile_sublist _).subset hc))
    have := List.all_eq_true.mp (List.all_takeWhile (l := isort leC cs) (p := fun c => decide (c.1 ≤ t))) c hc
    exact ⟨m.1, m.2, of_decide_eq_true this⟩
  have e1 : (isort leC cs).takeWhile (fun c => decide (c.1 ≤ f - 1)) = l.takeWhile fun c => decide (c.1 ≤ f - 1) := by
    rw [hl, tw_tw fun c h => decide_eq_true (by have := of_decide_eq_true h; omega)]
  have e2 : l = (l.takeWhile fun c => decide (c.1 ≤ f - 1)) ++ l.dropWhile fun c => decide (c.1 ≤ f - 1) := List.takeWhile_append_dropWhile.symm
  have e3 : standL L cs t = endC L t (((l.dropWhile fun c => decide (c.1 ≤ f - 1))).foldl (stepC L) (runT L cs (f - 1))) := by
    rw [stand_run]
    unfold runT
    rw [← hl, e1]
    conv => lhs; rw [e2]
    unfold runC
    rw [List.foldl_append]
  rw [e3]
  have htw : ∀ c ∈ l.takeWhile (fun c => decide (c.1 ≤ f - 1)), c ∈ l ∧ c.1 ≤ f - 1 := fun c hc => ⟨(List.takeWhile_sublist _).subset hc, of_decide_eq_true (List.all_eq_true.mp List.all_takeWhile c hc)⟩
  refine fold_apart _ _ f ?_ ?_ hf ?_ fun c hc => ?_
  · unfold runT runC
    rw [e1]
    exact fold_le _ _ (fun c hc => (hlm c (htw c hc).1).1) hL
  · unfold runT runC
    rw [e1]
    exact run_last _ _ _ h0 fun c hc => by have := (htw c hc).2; omega
  · exact (hls.sublist (List.dropWhile_sublist _)).imp fun h => leC_tick h
  · have m := hlm c ((List.dropWhile_sublist _).subset hc)
    have := srd_drop hls c hc
    exact ⟨by omega, m.2.2, m.2.1⟩
theorem at_bound {L : Int} (hL : 0 ≤ L) {one other : List Cmd} (h1 : ∀ c ∈ one, Vc L c ∧ c.2.2.1 ≠ kMove) (h2 : ∀ c ∈ other, Vc L c ∧ c.2.2.1 ≠ kMove) {t : Int} : absI ((standL L one t).1 - (standL L other t).1) ≤ atT one other t := by
  rcases fir_cases one other t with ⟨e, _, e2⟩ | ⟨c, r, _, hc, hm, _, e2⟩
  · rw [e2, stand_same hL (fun c hc => (h1 c hc).1) (fun c hc => (h2 c hc).1) fun c hc => un_same e c hc, Int.sub_self]
    decide
  · have hct := (un_mem.mp hc).2
    have h0 : 0 ≤ c.1 := by
      rcases (un_mem.mp hc).1 with ⟨a, _⟩ | ⟨a, _⟩
      · exact (h1 c a).1.t0
      · exact (h2 c a).1.t0
    have b1 := stand_span hL h1 h0 hct
    have b2 := stand_span hL h2 h0 hct
    rw [fir_before hL (fun c hc => (h1 c hc).1) (fun c hc => (h2 c hc).1) (by omega) hm] at b1
    rw [e2]
    unfold absI
    split <;> omega
/-! ### as data -/
def keyK (c : Cmd) : List Key := [.inl c.1, .inl c.2.1, .inr c.2.2.1, .inl c.2.2.2]
theorem keyK_tup (c : Cmd) : keyTup (keyK c) = cmdD c := rfl
theorem keyK_inj (a b : Cmd) (h : keyK a = keyK b) : a = b := by
  unfold keyK at h
  simp only [List.cons.injEq, Sum.inl.injEq, Sum.inr.injEq, and_true] at h
  exact Prod.ext h.1 (Prod.ext h.2.1 (Prod.ext h.2.2.1 h.2.2.2))
theorem keyLs_cmds : ∀ l : List Cmd, keyLs (l.map cmdD) = some (l.map keyK)
  | [] => rfl
  | c :: l => by
    rw [List.map_cons, List.map_cons]
    show (match tupKey (cmdD c), keyLs (l.map cmdD) with | some k, some ks => some (k :: ks) | _, _ => none) = _
    rw [keyLs_cmds l]
    rfl
theorem sortSet_cmds {A : Den} {env : En} {st : Sto} {l : List Cmd} (hA : A env st = .ok (.lst (l.map cmdD)) st) (hl : l.length < 64) : lSortSet A env st = .ok ((isort leC (dupK l)).map cmdD) st := by
  have h1 : Nat.blt (l.map keyK).length 64 = true := by rw [Nat.blt_eq, List.length_map]; exact hl
  have h2 : ((l.map keyK).map keyTup) = l.map cmdD := by rw [List.map_map]; rfl
  have h3 : (isort leK (dupK (l.map keyK))).map keyTup = (isort leC (dupK l)).map cmdD := by
    rw [dupK_map keyK_inj, isortMap (le := leC) (leb := leK) (f := keyK) (fun _ _ => rfl), List.map_map]
    rfl
  simp only [lSortSet_ap, hA, bind_ok, getL_lst, Option.bind_some, keyLs_cmds, optB_some, h1, h2, h3, sortOk_cmds, Bool.and_true, if_true]
end Wt

namespace Wt.Lk10
open PySem PySem.Spec PyProof.Rows L2 Wt
def B_is_whole : DenS :=
 (sRet (dAnd (dIsB .int (dVar 0)) (dNot (dIsB .bool (dVar 0)))))
def d_is_whole : DenF := pureF (run 1 B_is_whole)
def B_asked_length : DenS :=
 (sIf (bOr (bNot (dTest (dFn 1 d_is_whole (aCons (dVar 0) aNil)))) (bNot (dTest (dChain fLe fLe (dC (.int 1)) (dVar 0) (dC (.int 1000000000))))))
 (sRaise 11)
 sNil)
def d_asked_length : DenF := pureF (run 1 B_asked_length)
def L_is_command_1 : DenL :=
 (lLc (iTupD (dTup (aCons (dVar 2) (aCons (dVar 3) (aCons (dVar 5) aNil))))) [6] (gVar 6) bYes (dFn 1 d_is_whole (aCons (dVar 6) aNil)))
def X_is_command_1 : Den :=
 (dIf (dTest (dOp fEq (dVar 4) (dC (.str "move")))) (dChain fLe fLe (dC (.int 0)) (dVar 5) (dVar 0)) (dOp fEq (dVar 5) (dC (.int 0))))
def B_is_command : DenS :=
 (sSeq (sIf (bOr (bNot (dTest (dIsB .tup (dVar 1)))) (bOr (dTest (dOp fNe (dCall fLen (aCons (dVar 1) aNil)) (dC (.int 4)))) (bOr (bNot (dTest (dIsB .str (dOp fIx (dVar 1) (dC (.int 2)))))) (dTest (dOp fNotIn (dOp fIx (dVar 1) (dC (.int 2))) (dC (.tup ((["hold", "go", "move"] : List Str).map .str))))))))
 (sRet (dC (.bl false)))
 sNil)
 (sSeq (sAsg (gTupV [2, 3, 4, 5]) (dVar 1))
 (sSeq (sIf (bOr (bNot (dTest (dCall fAll (aCons (dDat L_is_command_1) aNil)))) (bOr (dTest (dOp fLt (dVar 2) (dC (.int 0)))) (bNot (dTest (dChain fLe fLt (dC (.int 0)) (dVar 3) (dC (.int 4)))))))
 (sRet (dC (.bl false)))
 sNil)
 (sRet X_is_command_1))))
def d_is_command : DenF := pureF (run 7 B_is_command)
def L_asked_commands_1 : DenL :=
 (lLc (iLst (dVar 1)) [3] (gVar 3) bYes (dFn 2 d_is_command (aCons (dVar 0) (aCons (dVar 3) aNil))))
def F_asked_commands_1 : DenS :=
 (sSeq (sIf (dTest (dOp fNe (dGetT2 (dVar 2) (dSl (dVar 3) oNone (oSome (dC (.int 2)))) (dVar 3)) (dVar 3)))
 (sRaise 12)
 sNil)
 (sPutT (dVar 2) (dSl (dVar 3) oNone (oSome (dC (.int 2)))) (dVar 3)))
def B_asked_commands : DenS :=
 (sSeq (sIf (bOr (bNot (dTest (dIsB .lst (dVar 1)))) (dTest (dOp fGt (dCall fLen (aCons (dVar 1) aNil)) (dC (.int 300)))))
 (sRaise 12)
 sNil)
 (sSeq (sIf (bNot (dTest (dCall fAll (aCons (dDat L_asked_commands_1) aNil))))
 (sRaise 12)
 sNil)
 (sSeq (sAsg (gVar 2) dNewT)
 (sFor (iLst (dVar 1)) (gVar 3)
 F_asked_commands_1))))
def d_asked_commands : DenF := pureF (run 4 B_asked_commands)
def B_asked_tick : DenS :=
 (sIf (bOr (bNot (dTest (dFn 1 d_is_whole (aCons (dVar 0) aNil)))) (dTest (dOp fLt (dVar 0) (dC (.int 0)))))
 (sRaise 13)
 sNil)
def d_asked_tick : DenF := pureF (run 1 B_asked_tick)
def L_stand_of_1 : DenL :=
 (lLc (iLst (dVar 1)) [10] (gVar 10) (dTest (dOp fLe (dOp fIx (dVar 10) (dC (.int 0))) (dVar 2))) (dVar 10))
def F_stand_of_1 : DenS :=
 (sSeq (sIf (dTest (dVar 4))
 (sAsg (gVar 3) (dCall fMin2 (aCons (dVar 0) (aCons (dOp fSub (dOp fAdd (dVar 3) (dVar 6)) (dVar 5)) aNil))))
 sNil)
 (sSeq (sAsg (gVar 5) (dVar 6))
 (sIf (dTest (dOp fEq (dVar 8) (dC (.str "move"))))
 (sAsg (gVar 3) (dVar 9))
 (sAsg (gVar 4) (dOp fEq (dVar 8) (dC (.str "go")))))))
def B_stand_of : DenS :=
 (sSeq (sAsg (gTupV [3, 4, 5]) (dTup (aCons (dC (.int 0)) (aCons (dC (.bl false)) (aCons (dC (.int 0)) aNil)))))
 (sSeq (sFor (iLst (dDat (lCall gSorted (aCons (dDat L_stand_of_1) aNil)))) (gTupV [6, 7, 8, 9])
 F_stand_of_1)
 (sSeq (sIf (dTest (dVar 4))
 (sAsg (gVar 3) (dCall fMin2 (aCons (dVar 0) (aCons (dOp fSub (dOp fAdd (dVar 3) (dVar 2)) (dVar 5)) aNil))))
 sNil)
 (sRet (dTup (aCons (dVar 3) (aCons (dVar 4) aNil)))))))
def d_stand_of : DenF := pureF (run 11 B_stand_of)
def B_stand : DenS :=
 (sSeq (sExpr (dFn 1 d_asked_length (aCons (dVar 0) aNil)))
 (sSeq (sExpr (dFn 2 d_asked_commands (aCons (dVar 0) (aCons (dVar 1) aNil))))
 (sSeq (sExpr (dFn 1 d_asked_tick (aCons (dVar 2) aNil)))
 (sRet (dFn 3 d_stand_of (aCons (dVar 0) (aCons (dVar 1) (aCons (dVar 2) aNil))))))))
def d_stand : DenF := pureF (run 3 B_stand)
def L_unlike_1 : DenL :=
 (lLc (iLst (dVar 0)) [4] (gVar 4) (bAnd (dTest (dOp fNotIn (dVar 4) (dVar 1))) (dTest (dOp fLe (dOp fIx (dVar 4) (dC (.int 0))) (dVar 2)))) (dVar 4))
def L_unlike_2 : DenL :=
 (lLc (iLst (dVar 1)) [5] (gVar 5) (bAnd (dTest (dOp fNotIn (dVar 5) (dVar 0))) (dTest (dOp fLe (dOp fIx (dVar 5) (dC (.int 0))) (dVar 2)))) (dVar 5))
def B_unlike : DenS :=
 (sSeq (sAsg (gVar 3) (dDat L_unlike_1))
 (sRet (dDat (lSortSet (dOp fAdd (dVar 3) (dDat L_unlike_2))))))
def d_unlike : DenF := pureF (run 6 B_unlike)
def B_asked_two : DenS :=
 (sSeq (sExpr (dFn 1 d_asked_length (aCons (dVar 0) aNil)))
 (sSeq (sExpr (dFn 2 d_asked_commands (aCons (dVar 0) (aCons (dVar 1) aNil))))
 (sSeq (sExpr (dFn 2 d_asked_commands (aCons (dVar 0) (aCons (dVar 2) aNil))))
 (sExpr (dFn 1 d_asked_tick (aCons (dVar 3) aNil))))))
def d_asked_two : DenF := pureF (run 4 B_asked_two)
def X_at_most_1 : Den :=
 (dIf (dTest (dOp fNe (dVar 4) (dDat (lLst aNil)))) (dOp fSub (dVar 3) (dOp fIx (dOp fIx (dVar 4) (dC (.int 0))) (dC (.int 0)))) (dC (.int 0)))
def B_at_most : DenS :=
 (sSeq (sExpr (dFn 4 d_asked_two (aCons (dVar 0) (aCons (dVar 1) (aCons (dVar 2) (aCons (dVar 3) aNil))))))
 (sSeq (sAsg (gVar 4) (dFn 3 d_unlike (aCons (dVar 1) (aCons (dVar 2) (aCons (dVar 3) aNil)))))
 (sRet X_at_most_1)))
def d_at_most : DenF := pureF (run 5 B_at_most)
def B_Together_shows : DenS :=
 (sRet (dOp fEq (dOp fIx (dFn 3 d_stand_of (aCons (dVar 1) (aCons (dVar 2) (aCons (dVar 4) aNil)))) (dC (.int 0))) (dOp fIx (dFn 3 d_stand_of (aCons (dVar 1) (aCons (dVar 3) (aCons (dVar 4) aNil)))) (dC (.int 0)))))
def d_Together_shows : DenF := pureF (run 5 B_Together_shows)
def B_Apart_init : DenS :=
 (sFldD "command" (dVar 0) (dVar 1))
def d_Apart_init : DenF := run 2 B_Apart_init
def B_Apart_shows : DenS :=
 (sSeq (sIf (dTest (dOp fEq (dOp fIx (dFn 3 d_stand_of (aCons (dVar 1) (aCons (dVar 2) (aCons (dVar 4) aNil)))) (dC (.int 0))) (dOp fIx (dFn 3 d_stand_of (aCons (dVar 1) (aCons (dVar 3) (aCons (dVar 4) aNil)))) (dC (.int 0)))))
 (sRet (dC (.bl false)))
 sNil)
 (sRet (dAnd (dOp fNe (dOp fIn (dFld "command" (dVar 0)) (dVar 2)) (dOp fIn (dFld "command" (dVar 0)) (dVar 3))) (dOp fLe (dOp fIx (dFld "command" (dVar 0)) (dC (.int 0))) (dVar 4)))))
def d_Apart_shows : DenF := pureF (run 5 B_Apart_shows)
def B_Meet_init : DenS :=
 (sSeq (sFldD "place" (dVar 0) (dVar 1))
 (sFldD "pairs" (dVar 0) (dCel (lCall gList (aCons (dVar 2) aNil)))))
def d_Meet_init : DenF := run 3 B_Meet_init
def F_Meet_shows_1 : DenS :=
 (sExpr (dLm mExtend (dVar 2) (aCons (dDat (lLst (aCons (dVar 3) (aCons (dVar 4) aNil)))) aNil)))
def L_Meet_shows_1 : DenL :=
 (lLc (iLst (dVar 2)) [3] (gVar 3) bYes (dChain fLe fLt (dC (.int 0)) (dVar 3) (dCall fLen (aCons (dVar 1) aNil))))
def L_Meet_shows_2 : DenL :=
 (lLc (iLst (dFld "pairs" (dVar 0))) [3, 4] (gTupV [3, 4]) bYes (dCall fAbs (aCons (dOp fSub (dOp fIx (dVar 1) (dVar 3)) (dOp fIx (dVar 1) (dVar 4))) aNil)))
def L_Meet_shows_3 : DenL :=
 (lLc (iLst (dVar 1)) [3] (gVar 3) bYes (dCall fAbs (aCons (dOp fSub (dVar 3) (dFld "place" (dVar 0))) aNil)))
def B_Meet_shows : DenS :=
 (sSeq (sAsg (gVar 2) (dCel (lLst aNil)))
 (sSeq (sFor (iLst (dFld "pairs" (dVar 0))) (gTupV [3, 4])
 F_Meet_shows_1)
 (sSeq (sIf (bOr (dTest (dOp fNe (dLenSet (dVar 2)) (dCall fLen (aCons (dVar 2) aNil)))) (bNot (dTest (dCall fAll (aCons (dDat L_Meet_shows_1) aNil)))))
 (sRet (dC (.bl false)))
 sNil)
 (sSeq (sAsg (gVar 5) (dCall fSum (aCons (dDat L_Meet_shows_2) aNil)))
 (sRet (dOp fEq (dCall fSum (aCons (dDat L_Meet_shows_3) aNil)) (dVar 5)))))))
def d_Meet_shows : DenF := pureF (run 6 B_Meet_shows)
def B_judged : DenS :=
 (sSeq (sExpr (dFn 4 d_asked_two (aCons (dVar 0) (aCons (dVar 1) (aCons (dVar 2) (aCons (dVar 3) aNil))))))
 (sSeq (sIf (dTest (dOp fEq (dOp fIx (dFn 3 d_stand_of (aCons (dVar 0) (aCons (dVar 1) (aCons (dVar 3) aNil)))) (dC (.int 0))) (dOp fIx (dFn 3 d_stand_of (aCons (dVar 0) (aCons (dVar 2) (aCons (dVar 3) aNil)))) (dC (.int 0)))))
 (sRet (dMk0 0))
 sNil)
 (sRet (dPure (dMk 1 2 d_Apart_init (aCons (dOp fIx (dFn 3 d_unlike (aCons (dVar 1) (aCons (dVar 2) (aCons (dVar 3) aNil)))) (dC (.int 0))) aNil))))))
def d_judged : DenF := pureF (run 4 B_judged)
def L_asked_places_1 : DenL :=
 (lLc (iLst (dVar 0)) [1] (gVar 1) bYes (dAnd (dFn 1 d_is_whole (aCons (dVar 1) aNil)) (dChain fLe fLe (dC (.int 0)) (dVar 1) (dC (.int 1000000000)))))
def B_asked_places : DenS :=
 (sSeq (sIf (bOr (bNot (dTest (dIsB .lst (dVar 0)))) (bNot (dTest (dChain fLe fLe (dC (.int 1)) (dCall fLen (aCons (dVar 0) aNil)) (dC (.int 40))))))
 (sRaise 14)
 sNil)
 (sIf (bNot (dTest (dCall fAll (aCons (dDat L_asked_places_1) aNil))))
 (sRaise 14)
 sNil))
def d_asked_places : DenF := pureF (run 2 B_asked_places)
def L_meet_1 : DenL :=
 (lLc (iEnumD (aCons (dVar 0) aNil)) [4, 5] (gTupV [4, 5]) bYes (dTup (aCons (dVar 5) (aCons (dVar 4) aNil))))
def L_meet_2 : DenL :=
 (lLc (iRng1D (aCons (dOp fDiv (dVar 2) (dC (.int 2))) aNil)) [4] (gVar 4) bYes (dTup (aCons (dOp fIx (dOp fIx (dVar 1) (dVar 4)) (dC (.int 1))) (aCons (dOp fIx (dOp fIx (dVar 1) (dOp fSub (dOp fSub (dVar 2) (dC (.int 1))) (dVar 4))) (dC (.int 1))) aNil))))
def B_meet : DenS :=
 (sSeq (sExpr (dFn 1 d_asked_places (aCons (dVar 0) aNil)))
 (sSeq (sAsg (gVar 1) (dDat (lCall gSorted (aCons (dDat L_meet_1) aNil))))
 (sSeq (sAsg (gVar 2) (dCall fLen (aCons (dVar 1) aNil)))
 (sSeq (sAsg (gVar 3) (dDat L_meet_2))
 (sRet (dMk 2 3 d_Meet_init (aCons (dOp fIx (dOp fIx (dVar 1) (dOp fDiv (dVar 2) (dC (.int 2)))) (dC (.int 0))) (aCons (dVar 3) aNil))))))))
def d_meet : DenF := run 6 B_meet
def L_least_jumps_1 : DenL :=
 (lLc (iLst (dVar 1)) [2] (gVar 2) bYes (dCall fAbs (aCons (dOp fSub (dVar 2) (dOp fIx (dVar 1) (dOp fDiv (dCall fLen (aCons (dVar 1) aNil)) (dC (.int 2))))) aNil)))
def B_least_jumps : DenS :=
 (sSeq (sExpr (dFn 1 d_asked_places (aCons (dVar 0) aNil)))
 (sSeq (sAsg (gVar 1) (dDat (lCall gSorted (aCons (dVar 0) aNil))))
 (sRet (dCall fSum (aCons (dDat L_least_jumps_1) aNil)))))
def d_least_jumps : DenF := pureF (run 3 B_least_jumps)
def L_Room_init_1 : DenL :=
 (lLc (iRng1D (aCons (dVar 2) aNil)) [3] (gVar 3) bYes (dCel (lLst aNil)))
def B_Room_init : DenS :=
 (sSeq (sExpr (dFn 1 d_asked_length (aCons (dVar 1) aNil)))
 (sSeq (sIf (bOr (bNot (dTest (dFn 1 d_is_whole (aCons (dVar 2) aNil)))) (bNot (dTest (dChain fLe fLe (dC (.int 1)) (dVar 2) (dC (.int 4))))))
 (sRaise 15)
 sNil)
 (sSeq (sFldD "length" (dVar 0) (dVar 1))
 (sSeq (sFldD "known" (dVar 0) (dDat L_Room_init_1))
 (sSeq (sFldD "letters" (dVar 0) (dCel (lLst aNil)))
 (sSeq (sFldD "now" (dVar 0) (dC (.int 0)))
 (sFldD "lines" (dVar 0) (dCel (lLst aNil)))))))))
def d_Room_init : DenF := run 4 B_Room_init
def B_Room_asked_watcher : DenS :=
 (sIf (bOr (bNot (dTest (dFn 1 d_is_whole (aCons (dVar 1) aNil)))) (bNot (dTest (dChain fLe fLt (dC (.int 0)) (dVar 1) (dCall fLen (aCons (dFld "known" (dVar 0)) aNil))))))
 (sRaise 15)
 sNil)
def d_Room_asked_watcher : DenF := pureF (run 2 B_Room_asked_watcher)
def ms_asked_watcher : Mths
  | 5 => some (2, d_Room_asked_watcher)
  | _ => none
def X_Room_order_1 : Den :=
 (dIf (dTest (dOp fEq (dVar 2) (dC (.str "move")))) (dFld "length" (dVar 0)) (dC (.int 0)))
def L_Room_order_1 : DenL :=
 (lLc (iLst (dFld "letters" (dVar 0))) [4] (gVar 4) bYes (dSl (dVar 4) oNone (oSome (dC (.int 2)))))
def B_Room_order : DenS :=
 (sSeq (sExpr (dMeth ms_asked_watcher (dVar 0) (aCons (dVar 1) aNil)))
 (sSeq (sIf (bOr (bNot (dTest (dIsB .str (dVar 2)))) (dTest (dOp fNotIn (dVar 2) (dC (.tup ((["hold", "go", "move"] : List Str).map .str))))))
 (sRaise 16)
 sNil)
 (sSeq (sIf (bOr (bNot (dTest (dFn 1 d_is_whole (aCons (dVar 3) aNil)))) (bNot (dTest (dChain fLe fLe (dC (.int 0)) (dVar 3) X_Room_order_1))))
 (sRaise 17)
 sNil)
 (sSeq (sIf (bOr (dTest (dOp fIn (dTup (aCons (dFld "now" (dVar 0)) (aCons (dVar 1) aNil))) (dDat L_Room_order_1))) (dTest (dOp fGe (dCall fLen (aCons (dFld "letters" (dVar 0)) aNil)) (dC (.int 300)))))
 (sRaise 20)
 sNil)
 (sSeq (sExpr (dLm mAppend (dFld "letters" (dVar 0)) (aCons (dTup (aCons (dFld "now" (dVar 0)) (aCons (dVar 1) (aCons (dVar 2) (aCons (dVar 3) aNil))))) aNil)))
 (sSeq (sExpr (dLm mAppend (dOp fIx (dFld "known" (dVar 0)) (dVar 1)) (aCons (dOp fIx (dFld "letters" (dVar 0)) (dUn fNeg (dC (.int 1)))) aNil)))
 (sSeq (sExpr (dLm mAppend (dFld "lines" (dVar 0)) (aCons (dTup (aCons (dC (.str "order")) (aCons (dVar 1) (aCons (dVar 2) (aCons (dVar 3) aNil))))) aNil)))
 (sRet (dOp fSub (dCall fLen (aCons (dFld "letters" (dVar 0)) aNil)) (dC (.int 1)))))))))))
def d_Room_order : DenF := run 5 B_Room_order
def B_Room_bring : DenS :=
 (sSeq (sIf (bOr (bNot (dTest (dFn 1 d_is_whole (aCons (dVar 1) aNil)))) (bNot (dTest (dChain fLe fLt (dC (.int 0)) (dVar 1) (dCall fLen (aCons (dFld "letters" (dVar 0)) aNil))))))
 (sRaise 18)
 sNil)
 (sSeq (sExpr (dMeth ms_asked_watcher (dVar 0) (aCons (dVar 2) aNil)))
 (sSeq (sAsg (gVar 3) (dOp fNotIn (dOp fIx (dFld "letters" (dVar 0)) (dVar 1)) (dOp fIx (dFld "known" (dVar 0)) (dVar 2))))
 (sSeq (sIf (dTest (dVar 3))
 (sExpr (dLm mAppend (dOp fIx (dFld "known" (dVar 0)) (dVar 2)) (aCons (dOp fIx (dFld "letters" (dVar 0)) (dVar 1)) aNil)))
 sNil)
 (sSeq (sExpr (dLm mAppend (dFld "lines" (dVar 0)) (aCons (dTup (aCons (dC (.str "bring")) (aCons (dVar 1) (aCons (dVar 2) aNil)))) aNil)))
 (sRet (dVar 3)))))))
def d_Room_bring : DenF := run 4 B_Room_bring
def B_Room_tick : DenS :=
 (sSeq (sIf (bOr (bNot (dTest (dFn 1 d_is_whole (aCons (dVar 1) aNil)))) (dTest (dOp fLt (dVar 1) (dC (.int 1)))))
 (sRaise 13)
 sNil)
 (sSeq (sFldD "now" (dVar 0) (dOp fAdd (dFld "now" (dVar 0)) (dVar 1)))
 (sSeq (sExpr (dLm mAppend (dFld "lines" (dVar 0)) (aCons (dTup (aCons (dC (.str "tick")) (aCons (dVar 1) aNil))) aNil)))
 (sRet (dFld "now" (dVar 0))))))
def d_Room_tick : DenF := run 2 B_Room_tick
def B_Room_stands : DenS :=
 (sSeq (sExpr (dMeth ms_asked_watcher (dVar 0) (aCons (dVar 1) aNil)))
 (sRet (dFn 3 d_stand_of (aCons (dFld "length" (dVar 0)) (aCons (dOp fIx (dFld "known" (dVar 0)) (dVar 1)) (aCons (dFld "now" (dVar 0)) aNil))))))
def d_Room_stands : DenF := pureF (run 2 B_Room_stands)
def B_Room_knows : DenS :=
 (sSeq (sExpr (dMeth ms_asked_watcher (dVar 0) (aCons (dVar 1) aNil)))
 (sRet (dCel (lCall gSorted (aCons (dOp fIx (dFld "known" (dVar 0)) (dVar 1)) aNil)))))
def d_Room_knows : DenF := run 2 B_Room_knows
def L_Room_at_rest_1 : DenL :=
 (lLc (iLst (dFld "known" (dVar 0))) [1] (gVar 1) bYes (dOp fEq (dCall fLen (aCons (dVar 1) aNil)) (dCall fLen (aCons (dFld "letters" (dVar 0)) aNil))))
def B_Room_at_rest : DenS :=
 (sRet (dCall fAll (aCons (dDat L_Room_at_rest_1) aNil)))
def d_Room_at_rest : DenF := pureF (run 2 B_Room_at_rest)
def B_Room_tale : DenS :=
 (sRet (dCel (lCall gList (aCons (dFld "lines" (dVar 0)) aNil))))
def d_Room_tale : DenF := run 1 B_Room_tale
def L_is_line_1 : DenL :=
 (lLc (iTupD (dSl (dVar 0) (oSome (dC (.int 1))) oNone)) [2] (gVar 2) bYes (dFn 1 d_is_whole (aCons (dVar 2) aNil)))
def B_is_line : DenS :=
 (sSeq (sIf (bOr (bNot (dTest (dIsB .tup (dVar 0)))) (bOr (dTest (dOp fEq (dVar 0) (dTup aNil))) (bNot (dTest (dIsB .str (dOp fIx (dVar 0) (dC (.int 0))))))))
 (sRet (dC (.bl false)))
 sNil)
 (sSeq (sIf (dTest (dOp fEq (dOp fIx (dVar 0) (dC (.int 0))) (dC (.str "order"))))
 (sRet (dAnd (dOp fEq (dCall fLen (aCons (dVar 0) aNil)) (dC (.int 4))) (dAnd (dFn 1 d_is_whole (aCons (dOp fIx (dVar 0) (dC (.int 1))) aNil)) (dAnd (dIsB .str (dOp fIx (dVar 0) (dC (.int 2)))) (dFn 1 d_is_whole (aCons (dOp fIx (dVar 0) (dC (.int 3))) aNil))))))
 sNil)
 (sSeq (sAsg (gVar 1) (dDisp ["bring", "tick", "seen"] (aCons (dC (.int 3)) (aCons (dC (.int 2)) (aCons (dC (.int 3)) aNil)))))
 (sRet (dAnd (dOp fEq (dGetS2 (dVar 1) (dOp fIx (dVar 0) (dC (.int 0))) (dC (.int 0))) (dCall fLen (aCons (dVar 0) aNil))) (dCall fAll (aCons (dDat L_is_line_1) aNil)))))))
def d_is_line : DenF := pureF (run 3 B_is_line)
def ms_order : Mths
  | 5 => some (4, d_Room_order)
  | _ => none
def ms_bring : Mths
  | 5 => some (3, d_Room_bring)
  | _ => none
def ms_tick : Mths
  | 5 => some (2, d_Room_tick)
  | _ => none
def ms_stands : Mths
  | 5 => some (2, d_Room_stands)
  | _ => none
def B_can_come : DenS :=
 (sTry [11, 12, 13, 14, 15, 16, 17, 18, 19, 20] 10
 (sSeq (sIf (dTest (dOp fEq (dOp fIx (dVar 1) (dC (.int 0))) (dC (.str "order"))))
 (sRet (dOp fGe (dMeth ms_order (dVar 0) (aCons (dOp fIx (dVar 1) (dC (.int 1))) (aCons (dOp fIx (dVar 1) (dC (.int 2))) (aCons (dOp fIx (dVar 1) (dC (.int 3))) aNil)))) (dC (.int 0))))
 sNil)
 (sSeq (sIf (dTest (dOp fEq (dOp fIx (dVar 1) (dC (.int 0))) (dC (.str "bring"))))
 (sRet (dOp fIn (dMeth ms_bring (dVar 0) (aCons (dOp fIx (dVar 1) (dC (.int 1))) (aCons (dOp fIx (dVar 1) (dC (.int 2))) aNil))) (dTup (aCons (dC (.bl true)) (aCons (dC (.bl false)) aNil)))))
 sNil)
 (sSeq (sIf (dTest (dOp fEq (dOp fIx (dVar 1) (dC (.int 0))) (dC (.str "tick"))))
 (sRet (dOp fGt (dMeth ms_tick (dVar 0) (aCons (dOp fIx (dVar 1) (dC (.int 1))) aNil)) (dC (.int 0))))
 sNil)
 (sRet (dOp fEq (dOp fIx (dMeth ms_stands (dVar 0) (aCons (dOp fIx (dVar 1) (dC (.int 1))) aNil)) (dC (.int 0))) (dOp fIx (dVar 1) (dC (.int 2))))))))
 fun _ => (sRet (dC (.bl false))))
def d_can_come : DenF := run 2 B_can_come
def F_first_wrong_1 : DenS :=
 (sIf (bNot (dTest (dFn 2 d_can_come (aCons (dVar 3) (aCons (dVar 5) aNil)))))
 (sRet (dVar 4))
 sNil)
def B_first_wrong : DenS :=
 (sSeq (sAsg (gVar 3) (dMk 5 3 d_Room_init (aCons (dVar 0) (aCons (dVar 1) aNil))))
 (sSeq (sFor (iEnumD (aCons (dVar 2) aNil)) (gTupV [4, 5])
 F_first_wrong_1)
 (sRet (dC .non))))
def d_first_wrong : DenF := pureF (run 6 B_first_wrong)
def B_Right_shows : DenS :=
 (sRet (dOp fIsN (dFn 3 d_first_wrong (aCons (dVar 1) (aCons (dVar 2) (aCons (dVar 3) aNil)))) (dC .non)))
def d_Right_shows : DenF := pureF (run 4 B_Right_shows)
def B_Wrong_init : DenS :=
 (sFldD "line" (dVar 0) (dVar 1))
def d_Wrong_init : DenF := run 2 B_Wrong_init
def B_Wrong_shows : DenS :=
 (sSeq (sAsg (gVar 4) (dFn 3 d_first_wrong (aCons (dVar 1) (aCons (dVar 2) (aCons (dVar 3) aNil)))))
 (sRet (dAnd (dOp fNotN (dVar 4) (dC .non)) (dOp fEq (dFld "line" (dVar 0)) (dVar 4)))))
def d_Wrong_shows : DenF := pureF (run 5 B_Wrong_shows)
def L_tale_judged_1 : DenL :=
 (lLc (iLst (dVar 2)) [4] (gVar 4) bYes (dFn 1 d_is_line (aCons (dVar 4) aNil)))
def X_tale_judged_1 : Den :=
 (dIf (dTest (dOp fIsN (dVar 3) (dC .non))) (dMk0 3) (dPure (dMk 4 2 d_Wrong_init (aCons (dVar 3) aNil))))
def B_tale_judged : DenS :=
 (sSeq (sExpr (dMk 5 3 d_Room_init (aCons (dVar 0) (aCons (dVar 1) aNil))))
 (sSeq (sIf (bOr (bNot (dTest (dIsB .lst (dVar 2)))) (bOr (dTest (dOp fGt (dCall fLen (aCons (dVar 2) aNil)) (dC (.int 60)))) (bNot (dTest (dCall fAll (aCons (dDat L_tale_judged_1) aNil))))))
 (sRaise 19)
 sNil)
 (sSeq (sAsg (gVar 3) (dFn 3 d_first_wrong (aCons (dVar 0) (aCons (dVar 1) (aCons (dVar 2) aNil)))))
 (sRet X_tale_judged_1))))
def d_tale_judged : DenF := pureF (run 5 B_tale_judged)
def B_law_number : DenS :=
 (sSeq (sIf (dTest (dOp fGe (dVar 0) (dOp fPow (dC (.int 10)) (dC (.int 18)))))
 (sRet (dOp fDiv (dVar 0) (dOp fAdd (dC (.int 1)) (dOp fMod (dVar 1) (dC (.int 7))))))
 sNil)
 (sSeq (sAsg (gVar 3) (dOp fMod (dOp fAdd (dOp fMul (dOp fAdd (dVar 0) (dOp fMul (dC (.int 977)) (dVar 1))) (dC (.int 48271))) (dVar 2)) (dC (.int 2147483647))))
 (sSeq (sAsg (gVar 4) (dOp fMul (dVar 3) (dOp fAdd (dOp fAdd (dVar 0) (dOp fMul (dC (.int 31)) (dVar 1))) (dC (.int 7)))))
 (sRet (dOp fDiv (dOp fMul (dOp fMul (dVar 4) (dOp fAdd (dOp fAdd (dVar 3) (dVar 0)) (dC (.int 5)))) (dOp fAdd (dOp fMul (dVar 3) (dVar 3)) (dC (.int 11)))) (dOp fAdd (dC (.int 1009)) (dVar 1)))))))
def d_law_number : DenF := pureF (run 5 B_law_number)
def X_law_commands_1 : Den :=
 (dIf (dTest (dOp fNe (dVar 0) (dDat (lLst aNil)))) (dSl (dVar 0) oNone (oSome (dC (.int 63)))) (dDat (lLst (aCons (dC (.int 5)) aNil))))
def X_law_commands_2 : Den :=
 (dIf (dTest (dOp fEq (dVar 12) (dC (.str "move")))) (dOp fMod (dVar 14) (dOp fAdd (dVar 3) (dC (.int 1)))) (dC (.int 0)))
def F_law_commands_1 : DenS :=
 (sSeq (sAsg (gVar 10) (dOp fAdd (dOp fIx (dVar 5) (dOp fMod (dOp fAdd (dVar 9) (dVar 1)) (dCall fLen (aCons (dVar 5) aNil)))) (dOp fDiv (dVar 9) (dCall fLen (aCons (dVar 5) aNil)))))
 (sSeq (sAsg (gVar 11) (dOp fDiv (dCall fAbs (aCons (dFn 3 d_law_number (aCons (dVar 10) (aCons (dOp fAdd (dVar 9) (dVar 1)) (aCons (dVar 6) aNil)))) aNil)) (dC (.int 3))))
 (sSeq (sAsg (gVar 12) (dOp fIx (dTup (aCons (dC (.str "go")) (aCons (dC (.str "hold")) (aCons (dC (.str "go")) (aCons (dC (.str "move")) aNil))))) (dOp fMod (dVar 11) (dC (.int 4)))))
 (sSeq (sIf (bAnd (dTest (dOp fEq (dVar 12) (dC (.str "move")))) (bNot (dTest (dVar 4))))
 (sAsg (gVar 12) (dC (.str "hold")))
 sNil)
 (sSeq (sPar [13, 14] (aCons (dOp fMod (dOp fDiv (dVar 11) (dC (.int 4))) (dC (.int 4))) (aCons (dOp fDiv (dOp fDiv (dVar 11) (dC (.int 16))) (dVar 8)) aNil)))
 (sSeq (sAsg (gVar 15) X_law_commands_2)
 (sPutT (dVar 7) (dTup (aCons (dOp fMod (dOp fDiv (dVar 11) (dC (.int 16))) (dVar 8)) (aCons (dVar 13) aNil))) (dTup (aCons (dVar 12) (aCons (dVar 15) aNil))))))))))
def L_law_commands_1 : DenL :=
 (lLcT 7 [16] (gVar 16) bYes (dOp fAdd (dVar 16) (dGetT (dVar 7) (dVar 16))))
def B_law_commands : DenS :=
 (sSeq (sAsg (gVar 5) X_law_commands_1)
 (sSeq (sAsg (gTupV [6, 7]) (dTup (aCons (dOp fAdd (dCall fAbs (aCons (dCall fSum (aCons (dVar 5) aNil)) aNil)) (dOp fMul (dC (.int 7)) (dVar 1))) (aCons dNewT aNil))))
 (sSeq (sAsg (gVar 8) (dOp fIx (dTup (aCons (dC (.int 9)) (aCons (dC (.int 60)) (aCons (dOp fPow (dC (.int 10)) (dC (.int 6))) (aCons (dOp fPow (dC (.int 10)) (dC (.int 30))) aNil))))) (dOp fMod (dOp fDiv (dVar 6) (dC (.int 4))) (dC (.int 4)))))
 (sSeq (sFor (iRng1D (aCons (dOp fMod (dOp fDiv (dVar 6) (dC (.int 16))) (dOp fAdd (dVar 2) (dC (.int 1)))) aNil)) (gVar 9)
 F_law_commands_1)
 (sRet (dCel L_law_commands_1))))))
def d_law_commands : DenF := run 17 B_law_commands
def X_law_stand_1 : Den :=
 (dIf (dTest (dVar 4)) (dCall fMin2 (aCons (dVar 0) (aCons (dOp fSub (dOp fAdd (dVar 3) (dVar 2)) (dVar 5)) aNil))) (dVar 3))
def F_law_stand_1 : DenS :=
 (sSeq (sIf (dTest (dOp fGt (dVar 6) (dVar 2)))
 (sRet (dTup (aCons X_law_stand_1 (aCons (dVar 4) aNil))))
 sNil)
 (sSeq (sIf (dTest (dVar 4))
 (sAsg (gVar 3) (dCall fMin2 (aCons (dVar 0) (aCons (dOp fSub (dOp fAdd (dVar 3) (dVar 6)) (dVar 5)) aNil))))
 sNil)
 (sSeq (sAsg (gVar 5) (dVar 6))
 (sIf (dTest (dOp fEq (dVar 8) (dC (.str "move"))))
 (sAsg (gVar 3) (dVar 9))
 (sIf (dTest (dOp fEq (dVar 8) (dC (.str "go"))))
 (sAsg (gVar 4) (dC (.bl true)))
 (sAsg (gVar 4) (dC (.bl false))))))))
def X_law_stand_2 : Den :=
 (dIf (dTest (dVar 4)) (dCall fMin2 (aCons (dVar 0) (aCons (dOp fSub (dOp fAdd (dVar 3) (dVar 2)) (dVar 5)) aNil))) (dVar 3))
def B_law_stand : DenS :=
 (sSeq (sAsg (gTupV [3, 4, 5]) (dTup (aCons (dC (.int 0)) (aCons (dC (.bl false)) (aCons (dC (.int 0)) aNil)))))
 (sSeq (sFor (iLst (dDat (lCall gSorted (aCons (dVar 1) aNil)))) (gTupV [6, 7, 8, 9])
 F_law_stand_1)
 (sRet (dTup (aCons X_law_stand_2 (aCons (dVar 4) aNil))))))
def d_law_stand : DenF := pureF (run 10 B_law_stand)
def B_law_length : DenS :=
 (sSeq (sAsg (gVar 1) (dOp fDiv (dVar 0) (dC (.int 4))))
 (sRet (dOp fIx (dTup (aCons (dOp fAdd (dC (.int 1)) (dOp fMod (dVar 1) (dC (.int 30)))) (aCons (dOp fPow (dC (.int 10)) (dC (.int 9))) (aCons (dOp fAdd (dC (.int 1)) (dOp fMod (dVar 1) (dC (.int 1000)))) (aCons (dC (.int 60)) aNil))))) (dOp fMod (dVar 0) (dC (.int 4))))))
def d_law_length : DenF := pureF (run 2 B_law_length)
def B_law_due : DenS :=
 (sSeq (sIf (dTest (dOp fEq (dOp fIx (dFn 3 d_law_stand (aCons (dVar 0) (aCons (dVar 1) (aCons (dVar 3) aNil)))) (dC (.int 0))) (dOp fIx (dFn 3 d_law_stand (aCons (dVar 0) (aCons (dVar 2) (aCons (dVar 3) aNil)))) (dC (.int 0)))))
 (sRet (dC (.bl false)))
 sNil)
 (sRet (dAnd (dOp fNe (dOp fIn (dVar 4) (dVar 1)) (dOp fIn (dVar 4) (dVar 2))) (dOp fLe (dOp fIx (dVar 4) (dC (.int 0))) (dVar 3)))))
def d_law_due : DenF := pureF (run 5 B_law_due)
def X_law_places_1 : Den :=
 (dIf (dTest (dOp fNe (dVar 0) (dDat (lLst aNil)))) (dSl (dVar 0) oNone (oSome (dC (.int 63)))) (dDat (lLst (aCons (dC (.int 5)) aNil))))
def F_law_places_1 : DenS :=
 (sExpr (dLm mAppend (dVar 5) (aCons (dOp fMod (dOp fDiv (dCall fAbs (aCons (dFn 3 d_law_number (aCons (dOp fIx (dVar 3) (dOp fMod (dOp fAdd (dVar 7) (dVar 1)) (dCall fLen (aCons (dVar 3) aNil)))) (aCons (dOp fAdd (dVar 7) (dVar 1)) (aCons (dVar 4) aNil)))) aNil)) (dC (.int 3))) (dVar 6)) aNil)))
def B_law_places : DenS :=
 (sSeq (sAsg (gVar 3) X_law_places_1)
 (sSeq (sPar [4, 5] (aCons (dOp fAdd (dCall fAbs (aCons (dCall fSum (aCons (dVar 3) aNil)) aNil)) (dOp fMul (dC (.int 7)) (dVar 1))) (aCons (dCel (lLst aNil)) aNil)))
 (sSeq (sAsg (gVar 6) (dOp fIx (dTup (aCons (dC (.int 4)) (aCons (dC (.int 60)) (aCons (dOp fAdd (dOp fPow (dC (.int 10)) (dC (.int 9))) (dC (.int 1))) (aCons (dC (.int 2)) aNil))))) (dOp fMod (dVar 4) (dC (.int 4)))))
 (sSeq (sFor (iRng1D (aCons (dOp fAdd (dC (.int 1)) (dOp fMod (dOp fDiv (dVar 4) (dC (.int 4))) (dVar 2))) aNil)) (gVar 7)
 F_law_places_1)
 (sRet (dVar 5))))))
def d_law_places : DenF := run 8 B_law_places
def F_law_meets_1 : DenS :=
 (sAsg (gVar 3) (dOp fAdd (dVar 3) (dDat (lLst (aCons (dOp fIx (dVar 4) (dC (.int 0))) (aCons (dOp fIx (dVar 4) (dC (.int 1))) aNil))))))
def L_law_meets_1 : DenL :=
 (lLc (iLst (dVar 3)) [6] (gVar 6) bYes (dNot (dChain fLe fLt (dC (.int 0)) (dVar 6) (dCall fLen (aCons (dVar 0) aNil)))))
def L_law_meets_2 : DenL :=
 (lLc (iLst (dVar 0)) [6] (gVar 6) bYes (dCall fAbs (aCons (dOp fSub (dVar 6) (dVar 1)) aNil)))
def L_law_meets_3 : DenL :=
 (lLc (iLst (dVar 2)) [6, 7] (gTupV [6, 7]) bYes (dCall fAbs (aCons (dOp fSub (dOp fIx (dVar 0) (dVar 6)) (dOp fIx (dVar 0) (dVar 7))) aNil)))
def B_law_meets : DenS :=
 (sSeq (sAsg (gVar 3) (dDat (lLst aNil)))
 (sSeq (sFor (iLst (dVar 2)) (gVar 4)
 F_law_meets_1)
 (sSeq (sIf (bOr (dTest (dOp fNe (dCall fLen (aCons (dVar 3) aNil)) (dLenSet (dVar 3)))) (dTest (dCall fAny (aCons (dDat L_law_meets_1) aNil))))
 (sRet (dC (.bl false)))
 sNil)
 (sSeq (sAsg (gVar 5) (dCall fSum (aCons (dDat L_law_meets_2) aNil)))
 (sRet (dOp fEq (dVar 5) (dCall fSum (aCons (dDat L_law_meets_3) aNil))))))))
def d_law_meets : DenF := pureF (run 8 B_law_meets)
def L_law_first_1 : DenL :=
 (lLc (iLst (dVar 0)) [4] (gVar 4) (bAnd (dTest (dOp fNotIn (dVar 4) (dVar 1))) (dTest (dOp fLe (dOp fIx (dVar 4) (dC (.int 0))) (dVar 2)))) (dOp fIx (dVar 4) (dC (.int 0))))
def L_law_first_2 : DenL :=
 (lLc (iLst (dVar 1)) [5] (gVar 5) (bAnd (dTest (dOp fNotIn (dVar 5) (dVar 0))) (dTest (dOp fLe (dOp fIx (dVar 5) (dC (.int 0))) (dVar 2)))) (dOp fIx (dVar 5) (dC (.int 0))))
def X_law_first_1 : Den :=
 (dIf (dTest (dOp fNe (dVar 3) (dDat (lLst aNil)))) (dCall fMin1 (aCons (dVar 3) aNil)) (dUn fNeg (dC (.int 1))))
def B_law_first : DenS :=
 (sSeq (sAsg (gVar 3) (dDat L_law_first_1))
 (sSeq (sAsg (gVar 3) (dOp fAdd (dVar 3) (dDat L_law_first_2)))
 (sRet X_law_first_1)))
def d_law_first : DenF := pureF (run 6 B_law_first)
def B_law_pair_due : DenS :=
 (sSeq (sIf (dTest (dIsC [0, 1, 2, 5, 3, 4] 1 (dVar 4)))
 (sRet (dFn 5 d_law_due (aCons (dVar 0) (aCons (dVar 1) (aCons (dVar 2) (aCons (dVar 3) (aCons (dFld "command" (dVar 4)) aNil)))))))
 sNil)
 (sSeq (sAsg (gVar 5) (dOp fEq (dOp fIx (dFn 3 d_law_stand (aCons (dVar 0) (aCons (dVar 1) (aCons (dVar 3) aNil)))) (dC (.int 0))) (dOp fIx (dFn 3 d_law_stand (aCons (dVar 0) (aCons (dVar 2) (aCons (dVar 3) aNil)))) (dC (.int 0)))))
 (sRet (dAnd (dIsC [0, 1, 2, 5, 3, 4] 0 (dVar 4)) (dVar 5)))))
def d_law_pair_due : DenF := pureF (run 6 B_law_pair_due)
def X_law_right_1 : Den :=
 (dIf (dTest (dOp fLt (dVar 4) (dC (.int 0)))) (dC (.int 0)) (dOp fSub (dVar 3) (dVar 4)))
def B_law_right : DenS :=
 (sSeq (sIf (dTest (dOp fNe (dFn 3 d_stand (aCons (dVar 0) (aCons (dVar 1) (aCons (dVar 3) aNil)))) (dFn 3 d_law_stand (aCons (dVar 0) (aCons (dVar 1) (aCons (dVar 3) aNil))))))
 (sRet (dC (.bl false)))
 sNil)
 (sSeq (sAsg (gVar 4) (dFn 3 d_law_first (aCons (dVar 1) (aCons (dVar 2) (aCons (dVar 3) aNil)))))
 (sSeq (sIf (dTest (dOp fNe (dFn 4 d_at_most (aCons (dVar 0) (aCons (dVar 1) (aCons (dVar 2) (aCons (dVar 3) aNil))))) X_law_right_1))
 (sRet (dC (.bl false)))
 sNil)
 (sRet (dFn 5 d_law_pair_due (aCons (dVar 0) (aCons (dVar 1) (aCons (dVar 2) (aCons (dVar 3) (aCons (dFn 4 d_judged (aCons (dVar 0) (aCons (dVar 1) (aCons (dVar 2) (aCons (dVar 3) aNil))))) aNil))))))))))
def d_law_right : DenF := pureF (run 5 B_law_right)
def L_law_places_right_1 : DenL :=
 (lLc (iLst (dVar 1)) [4] (gVar 4) bYes (dCall fAbs (aCons (dOp fSub (dVar 4) (dOp fIx (dVar 1) (dOp fDiv (dCall fLen (aCons (dVar 1) aNil)) (dC (.int 2))))) aNil)))
def B_law_places_right : DenS :=
 (sSeq (sAsg (gVar 1) (dDat (lCall gSorted (aCons (dVar 0) aNil))))
 (sSeq (sAsg (gVar 2) (dCall fSum (aCons (dDat L_law_places_right_1) aNil)))
 (sSeq (sAsg (gVar 3) (dFn 1 d_meet (aCons (dVar 0) aNil)))
 (sSeq (sIf (bOr (dTest (dOp fNe (dFn 1 d_least_jumps (aCons (dVar 0) aNil)) (dVar 2))) (bOr (bNot (dTest (dIsC [0, 1, 2, 5, 3, 4] 2 (dVar 3)))) (bNot (dTest (dFn 3 d_law_meets (aCons (dVar 0) (aCons (dFld "place" (dVar 3)) (aCons (dFld "pairs" (dVar 3)) aNil))))))))
 (sRet (dC (.bl false)))
 sNil)
 (sSeq (sExpr (dLm mAppend (dFld "pairs" (dVar 3)) (aCons (dTup (aCons (dC (.int 0)) (aCons (dC (.int 0)) aNil))) aNil)))
 (sRet (dOp fEq (dFn 1 d_least_jumps (aCons (dVar 0) aNil)) (dVar 2))))))))
def d_law_places_right : DenF := pureF (run 5 B_law_places_right)
def X_law_changed_1 : Den :=
 (dIf (dTest (dOp fEq (dVar 8) (dC (.str "hold")))) (dC (.str "go")) (dVar 8))
def L_law_changed_1 : DenL :=
 (lLc (iLst (dVar 1)) [11] (gVar 11) bYes (dSl (dVar 11) oNone (oSome (dC (.int 2)))))
def B_law_changed : DenS :=
 (sSeq (sIf (dTest (dOp fNe (dVar 0) (dDat (lLst aNil))))
 (sSeq (sAsg (gVar 5) (dOp fMod (dVar 3) (dCall fLen (aCons (dVar 0) aNil))))
 (sSeq (sAsg (gTupV [6, 7, 8, 9]) (dOp fIx (dVar 0) (dVar 5)))
 (sSeq (sSetL (dVar 0) (dVar 5) (dTup (aCons (dOp fAdd (dOp fPow (dC (.int 10)) (dC (.int 31))) (dVar 4)) (aCons (dVar 7) (aCons X_law_changed_1 (aCons (dVar 9) aNil))))))
 (sExpr (dLm mReverse (dVar 0) aNil)))))
 sNil)
 (sSeq (sIf (dTest (dOp fEq (dVar 4) (dC (.int 0))))
 (sSeq (sPar [10, 5] (aCons (dDat L_law_changed_1) (aCons (dC (.int 0)) aNil)))
 (sSeq (sWhile (dTest (dOp fIn (dTup (aCons (dVar 5) (aCons (dC (.int 3)) aNil))) (dVar 10)))
 (sAsg (gVar 5) (dOp fAdd (dVar 5) (dC (.int 1)))))
 (sExpr (dLm mAppend (dVar 1) (aCons (dTup (aCons (dVar 5) (aCons (dC (.int 3)) (aCons (dC (.str "go")) (aCons (dC (.int 0)) aNil))))) aNil)))))
 (sIf (dTest (dOp fNe (dVar 1) (dDat (lLst aNil))))
 (sExpr (dLm mPop (dVar 1) aNil))
 sNil))
 (sSeq (sSetL (dVar 2) (dOp fMod (dOp fDiv (dVar 3) (dC (.int 5))) (dCall fLen (aCons (dVar 2) aNil))) (dOp fMod (dOp fDiv (dVar 3) (dC (.int 7))) (dC (.int 1000))))
 (sSeq (sExpr (dLm mAppend (dVar 2) (aCons (dVar 4) aNil)))
 (sExpr (dLm mReverse (dVar 2) aNil))))))
def d_law_changed : DenF := run 12 B_law_changed
def ms_knows : Mths
  | 5 => some (2, d_Room_knows)
  | _ => none
def ms_tale : Mths
  | 5 => some (1, d_Room_tale)
  | _ => none
def ms_at_rest : Mths
  | 5 => some (1, d_Room_at_rest)
  | _ => none
def ms_shows : Mths
  | 0 => some (5, d_Together_shows)
  | 1 => some (5, d_Apart_shows)
  | 2 => some (2, d_Meet_shows)
  | 3 => some (4, d_Right_shows)
  | 4 => some (4, d_Wrong_shows)
  | _ => none
def B_law_room_right : DenS :=
 (sSeq (sPar [1, 2] (aCons (dMk 5 3 d_Room_init (aCons (dVar 0) (aCons (dC (.int 2)) aNil))) (aCons (dMk 5 3 d_Room_init (aCons (dVar 0) (aCons (dC (.int 1)) aNil))) aNil)))
 (sSeq (sExpr (dMeth ms_order (dVar 1) (aCons (dC (.int 0)) (aCons (dC (.str "go")) (aCons (dC (.int 0)) aNil)))))
 (sSeq (sExpr (dMeth ms_tick (dVar 1) (aCons (dC (.int 2)) aNil)))
 (sSeq (sExpr (dMeth ms_bring (dVar 1) (aCons (dC (.int 0)) (aCons (dC (.int 1)) aNil))))
 (sSeq (sPar [3, 4] (aCons (dPure (dMeth ms_knows (dVar 1) (aCons (dC (.int 1)) aNil))) (aCons (dMeth ms_tale (dVar 1) aNil) aNil)))
 (sSeq (sIf (bOr (dTest (dOp fNe (dVar 3) (dDat (lLst (aCons (dTup (aCons (dC (.int 0)) (aCons (dC (.int 0)) (aCons (dC (.str "go")) (aCons (dC (.int 0)) aNil))))) aNil))))) (dTest (dOp fNe (dVar 4) (dDat (lLst (aCons (dTup (aCons (dC (.str "order")) (aCons (dC (.int 0)) (aCons (dC (.str "go")) (aCons (dC (.int 0)) aNil))))) (aCons (dTup (aCons (dC (.str "tick")) (aCons (dC (.int 2)) aNil))) (aCons (dTup (aCons (dC (.str "bring")) (aCons (dC (.int 0)) (aCons (dC (.int 1)) aNil)))) aNil))))))))
 (sRet (dC (.bl false)))
 sNil)
 (sSeq (sExpr (dLm mClear (dMeth ms_knows (dVar 1) (aCons (dC (.int 1)) aNil)) aNil))
 (sSeq (sExpr (dLm mAppend (dMeth ms_tale (dVar 1) aNil) (aCons (dTup (aCons (dC (.str "tick")) (aCons (dC (.int 9)) aNil))) aNil)))
 (sSeq (sIf (bOr (dTest (dOp fNe (dMeth ms_knows (dVar 1) (aCons (dC (.int 1)) aNil)) (dVar 3))) (bOr (dTest (dOp fNe (dMeth ms_tale (dVar 1) aNil) (dVar 4))) (bOr (dTest (dOp fNe (dMeth ms_tale (dVar 2) aNil) (dDat (lLst aNil)))) (dTest (dOp fIsNot (dMeth ms_at_rest (dVar 1) aNil) (dC (.bl true)))))))
 (sRet (dC (.bl false)))
 sNil)
 (sSeq (sIf (bNot (dTest (dIsC [0, 1, 2, 5, 3, 4] 3 (dFn 3 d_tale_judged (aCons (dVar 0) (aCons (dC (.int 2)) (aCons (dVar 4) aNil)))))))
 (sRet (dC (.bl false)))
 sNil)
 (sSeq (sSetL (dVar 4) (dC (.int 2)) (dTup (aCons (dC (.str "bring")) (aCons (dC (.int 1)) (aCons (dC (.int 1)) aNil)))))
 (sSeq (sAsg (gVar 5) (dFn 3 d_tale_judged (aCons (dVar 0) (aCons (dC (.int 2)) (aCons (dVar 4) aNil)))))
 (sSeq (sIf (bOr (bNot (dTest (dIsC [0, 1, 2, 5, 3, 4] 4 (dVar 5)))) (bOr (dTest (dOp fNe (dFld "line" (dVar 5)) (dC (.int 2)))) (dTest (dOp fIsNot (dMeth ms_shows (dVar 5) (aCons (dVar 0) (aCons (dC (.int 2)) (aCons (dVar 4) aNil)))) (dC (.bl true))))))
 (sRet (dC (.bl false)))
 sNil)
 (sSeq (sExpr (dLm mPop (dVar 4) aNil))
 (sRet (dAnd (dIsC [0, 1, 2, 5, 3, 4] 3 (dFn 3 d_tale_judged (aCons (dVar 0) (aCons (dC (.int 2)) (aCons (dVar 4) aNil))))) (dOp fIs (dMeth ms_shows (dVar 5) (aCons (dVar 0) (aCons (dC (.int 2)) (aCons (dVar 4) aNil)))) (dC (.bl false)))))))))))))))))))
def d_law_room_right : DenF := pureF (run 6 B_law_room_right)
def F_law_1 : DenS :=
 (sIf (dTest (dOp fNe (dMeth ms_shows (dVar 10) (aCons (dVar 3) (aCons (dVar 12) (aCons (dVar 13) (aCons (dVar 14) aNil))))) (dFn 5 d_law_pair_due (aCons (dVar 3) (aCons (dVar 12) (aCons (dVar 13) (aCons (dVar 14) (aCons (dVar 10) aNil))))))))
 (sRet (dC (.bl false)))
 sNil)
def F_law_2 : DenS :=
 (sIf (dTest (dOp fNe (dMeth ms_shows (dVar 11) (aCons (dVar 15) aNil)) (dFn 3 d_law_meets (aCons (dVar 15) (aCons (dFld "place" (dVar 11)) (aCons (dFld "pairs" (dVar 11)) aNil))))))
 (sRet (dC (.bl false)))
 sNil)
def F_law_3 : DenS :=
 (sSeq (sAsg (gVar 9) (dOp fIx (dTup (aCons (dC (.int 0)) (aCons (dC (.int 5)) (aCons (dC (.int 40)) (aCons (dC (.int 200)) aNil))))) (dOp fMod (dOp fAdd (dVar 1) (dVar 8)) (dC (.int 4)))))
 (sSeq (sIf (bOr (bNot (dTest (dFn 4 d_law_right (aCons (dVar 3) (aCons (dVar 4) (aCons (dVar 5) (aCons (dVar 9) aNil))))))) (bNot (dTest (dFn 1 d_law_places_right (aCons (dVar 7) aNil)))))
 (sRet (dC (.bl false)))
 sNil)
 (sSeq (sPar [10, 11] (aCons (dFn 4 d_judged (aCons (dVar 3) (aCons (dVar 4) (aCons (dVar 5) (aCons (dVar 9) aNil))))) (aCons (dFn 1 d_meet (aCons (dVar 7) aNil)) aNil)))
 (sSeq (sExpr (dFn 5 d_law_changed (aCons (dVar 4) (aCons (dVar 5) (aCons (dVar 7) (aCons (dOp fDiv (dVar 1) (dC (.int 3))) (aCons (dVar 8) aNil)))))))
 (sSeq (sFor (iLst (dDat (lLst (aCons (dTup (aCons (dVar 4) (aCons (dVar 5) (aCons (dVar 9) aNil)))) (aCons (dTup (aCons (dVar 4) (aCons (dVar 5) (aCons (dC (.int 300)) aNil)))) (aCons (dTup (aCons (dVar 6) (aCons (dVar 4) (aCons (dVar 9) aNil)))) (aCons (dTup (aCons (dDat (lLst aNil)) (aCons (dDat (lLst aNil)) (aCons (dC (.int 0)) aNil)))) aNil))))))) (gTupV [12, 13, 14])
 F_law_1)
 (sFor (iLst (dDat (lLst (aCons (dVar 7) (aCons (dSl (dVar 7) oNone (oSome (dC (.int 1)))) (aCons (dDat (lLst (aCons (dC (.int 0)) (aCons (dC (.int 9)) (aCons (dC (.int 9)) aNil))))) aNil)))))) (gVar 15)
 F_law_2))))))
def F_law_4 : DenS :=
 (sSeq (sAsg (gVar 3) (dFn 1 d_law_length (aCons (dVar 1) aNil)))
 (sSeq (sPar [4, 5] (aCons (dFn 5 d_law_commands (aCons (dVar 0) (aCons (dVar 2) (aCons (dC (.int 5)) (aCons (dVar 3) (aCons (dC (.bl true)) aNil)))))) (aCons (dFn 5 d_law_commands (aCons (dVar 0) (aCons (dOp fAdd (dVar 2) (dC (.int 2))) (aCons (dC (.int 5)) (aCons (dVar 3) (aCons (dC (.bl true)) aNil)))))) aNil)))
 (sSeq (sPar [6, 7] (aCons (dFn 5 d_law_commands (aCons (dVar 0) (aCons (dOp fAdd (dVar 2) (dC (.int 4))) (aCons (dC (.int 5)) (aCons (dVar 3) (aCons (dC (.bl true)) aNil)))))) (aCons (dFn 3 d_law_places (aCons (dVar 0) (aCons (dVar 2) (aCons (dC (.int 6)) aNil)))) aNil)))
 (sSeq (sIf (bNot (dTest (dFn 1 d_law_room_right (aCons (dVar 3) aNil))))
 (sRet (dC (.bl false)))
 sNil)
 (sFor (iRng1D (aCons (dC (.int 3)) aNil)) (gVar 8)
 F_law_3)))))
def B_law : DenS :=
 (sSeq (sAsg (gVar 1) (dCall fAbs (aCons (dCall fSum (aCons (dSl (dVar 0) oNone (oSome (dC (.int 63)))) aNil)) aNil)))
 (sSeq (sFor (iLst (dDat (lLst (aCons (dC (.int 0)) (aCons (dC (.int 1)) aNil))))) (gVar 2)
 F_law_4)
 (sRet (dC (.bl true)))))
def d_law : DenF := run 16 B_law
end Wt.Lk10

namespace Wt.Lk10
open PySem PySem.Spec PyProof.Rows L2 Wt
theorem law_number_eq {c a w : Int} {n : Nat} (hn : n ≤ 2000000) (h20 : 20 ≤ n) (hc : Bd n c) (ha : 0 ≤ a) (ha2 : a < 1000000) (st : Sto) : d_law_number [.int c, .int a, .int w] st = .ok (.int (numL c a w)) st := by
  have hm : Bd 31 (((c + 977 * a) * 48271 + w) % 2147483647) := emod_bd (by decide) (by decide)
  have hA : Bd 20 a := by unfold Bd; show a.natAbs < 1048576; omega
  have h1 : MulOk 977 a = true := Bd.mulOk (a := 10) (b := 20) (by unfold Bd; decide) hA (by decide)
  have h2 : MulOk (c + 977 * a) 48271 = true := Bd.mulOk (hc.add ((Bd.of (a := 10) (by decide)).mul hA)) (Bd.of (a := 16) (by decide)) (by omega) (by omega)
  have h3 : MulOk 31 a = true := Bd.mulOk (a := 5) (b := 20) (by unfold Bd; decide) hA (by decide)
  have hb := hc.add ((Bd.of (x := 31) (a := 5) (by decide)).mul hA)
  have hb := hb.add (Bd.of (x := 7) (a := 3) (by decide))
  have h4 := hm.mulOk hb (by omega) (by decide) (by omega)
  have hmore := hm.mul hb
  have hd := (hm.add hc).add (Bd.of (x := 5) (a := 3) (by decide))
  have h5 := hmore.mulOk hd (by omega) (by omega) (by omega)
  have h6 := hm.mulOk hm (by decide)
  have he := (hm.mul hm).add (Bd.of (x := 11) (a := 4) (by decide))
  have h7 := (hmore.mul hd).mulOk he (by omega) (by omega) (by omega)
  by_cases hbig : 1000000000000000000 ≤ c
  · have hp : 0 < 1 + a % 7 := by omega
    have hl : 1 + a % 7 < 1000000000000000000000000000000000000000000000000000 := by omega
    simp [d_law_number, pureF_ap, run_ap, B_law_number, hbig, hp, hl, numL]
  · have hp : 0 < 1009 + a := by omega
    have hl : 1009 + a < 1000000000000000000000000000000000000000000000000000 := by omega
    simp [d_law_number, pureF_ap, run_ap, B_law_number, hbig, hp, hl, h1, h2, h3, h4, h5, h6, h7, numL]
theorem eq_kind {a b : Str} (ha : PyData.strOk a = true) (hb : PyData.strOk b = true) (st : Sto) : fEq (.str a) (.str b) st = .ok (.bl (decide (a = b))) st := EqOn.str.fEq (x := a) (y := b) rfl rfl ha hb
theorem ok_move : PyData.strOk kMove = true := by decide +kernel
theorem ok_go : PyData.strOk kGo = true := by decide +kernel
theorem ok_hold : PyData.strOk kHold = true := by decide +kernel
theorem stand_loop {keep : Sto → Bool} {L t : Int} {d : D} {st : Sto} (hk : keep st = true) : ∀ (r : List Cmd) (s : Int × Bool × Int) (v6 v7 v8 v9 : Option D), (∀ c ∈ r, okC c) →
    ∃ w6 w7 w8 w9, forIt keep (gTupV [6, 7, 8, 9]) F_stand_of_1 (r.map cmdD) [some (.int L), some d, some (.int t), some (.int s.1), some (.bl s.2.1), some (.int s.2.2), v6, v7, v8, v9, none] st =
      .nx [some (.int L), some d, some (.int t), some (.int (r.foldl (stepC L) s).1), some (.bl (r.foldl (stepC L) s).2.1), some (.int (r.foldl (stepC L) s).2.2), w6, w7, w8, w9, none] st
  | [], s, v6, v7, v8, v9, _ => ⟨v6, v7, v8, v9, by simp [forIt_nil hk]⟩
  | c :: r, s, v6, v7, v8, v9, h => by
    have hc : PyData.strOk c.2.2.1 = true := h c (List.mem_cons_self ..)
    obtain ⟨w6, w7, w8, w9, ih⟩ := stand_loop hk r (stepC L s c) (some (.int c.1)) (some (.int c.2.1)) (some (.str c.2.2.1)) (some (.int c.2.2.2)) fun x hx => h x (List.mem_cons_of_mem _ hx)
    refine ⟨w6, w7, w8, w9, ?_⟩
    rw [List.foldl_cons, ← ih, List.map_cons, forIt_cons hk]
    have e1 := eq_kind hc ok_move
    have e2 := eq_kind hc ok_go
    by_cases hm : c.2.2.1 = kMove
    · have e3 : ∀ st, fEq (.str c.2.2.1) (.str kMove) st = .ok (.bl true) st := fun st => by rw [e1, decide_eq_true hm]
      rw [show stepC L s c = (c.2.2.2, s.2.1, c.1) from if_pos hm]
      cases hg : s.2.1 <;> simp [F_stand_of_1, hg, e3]
    · have e3 : ∀ st, fEq (.str c.2.2.1) (.str kMove) st = .ok (.bl false) st := fun st => by rw [e1, decide_eq_false hm]
      rw [show stepC L s c = (if s.2.1 then minL L (s.1 + c.1 - s.2.2) else s.1, decide (c.2.2.1 = kGo), c.1) from if_neg hm]
      cases hg : s.2.1 <;> simp [F_stand_of_1, hg, e3, e2]
theorem stand_of_eq {L t : Int} {cs : List Cmd} {d : D} {st : Sto} (hd : IsL st d (cs.map cmdD)) (hc : ∀ c ∈ cs, okC c) (hl : cs.length ≤ 10000) : d_stand_of [.int L, d, .int t] st = .ok (.tup [.int (standL L cs t).1, .bl (standL L cs t).2]) st := by
  have h1 : ∀ v3 v4 v5 v6 v7 v8 v9, L_stand_of_1 [some (.int L), some d, some (.int t), v3, v4, v5, v6, v7, v8, v9, none] st = .ok ((cs.filter fun c => decide (c.1 ≤ t)).map cmdD) st := fun v3 v4 v5 v6 v7 v8 v9 => by
    have := lc_filter (keep := keepL d (cs.map cmdD)) (vs := [10]) (g := gVar 10) (P := dTest (dOp fLe (dOp fIx (dVar 10) (dC (.int 0))) (dVar 2))) (A := dVar 10) (env := [some (.int L), some d, some (.int t), v3, v4, v5, v6, v7, v8, v9, none]) (st := st) (enc := cmdD) (fun c => decide (c.1 ≤ t)) cmdD cs
      (fun c hx => ⟨_, rfl, by
        have e0 : atI [D.int c.1, D.int c.2.1, D.str c.2.2.1, D.int c.2.2.2] 0 = some (.int c.1) := rfl
        simp [wipeE, e0], fun _ => by simp [wipeE]⟩) (by omega) hd.kp
    simp [L_stand_of_1, hd.g, this]
  obtain ⟨w6, w7, w8, w9, hlo⟩ := stand_loop (L := L) (t := t) (d := d) (st := st) (keep := fun _ => true) rfl (isort leC (cs.filter fun c => decide (c.1 ≤ t))) (0, false, 0) none none none none (fun c hx => hc c (List.mem_filter.mp (isort_mem.mp hx)).1)
  have hz := srtK_some (sortOk_cmds (cs.filter fun c => decide (c.1 ≤ t)))
  have hr : (isort leC (cs.filter fun c => decide (c.1 ≤ t))).foldl (stepC L) (0, false, 0) = runC L ((isort leC cs).takeWhile fun c => decide (c.1 ≤ t)) := by rw [stand_filter]; rfl
  rw [hr] at hlo
  have hres : standL L cs t = endC L t (runC L ((isort leC cs).takeWhile fun c => decide (c.1 ≤ t))) := rfl
  rw [hres]
  generalize runC L ((isort leC cs).takeWhile fun c => decide (c.1 ≤ t)) = s at *
  have hs := isort_cmds (cs.filter fun c => decide (c.1 ≤ t))
  have hle : ∀ (a : Int) (b : Bool), leave st (.ok (.tup [.int a, .bl b]) st) = .ok (.tup [.int a, .bl b]) st := fun a b => leave_ok0 rfl nofun
  cases hg : s.2.1 <;> rw [hg] at hlo <;> simp [d_stand_of, pureF_ap, run_ap, B_stand_of, h1, hz, hs, hlo, endC, hg, hle]
theorem lstand_loop {keep : Sto → Bool} {L t : Int} {d : D} {st : Sto} (hk : keep st = true) : ∀ (r : List Cmd) (s : Int × Bool × Int) (v6 v7 v8 v9 : Option D), (∀ c ∈ r, okC c) →
    (∃ w6 w7 w8 w9, forIt keep (gTupV [6, 7, 8, 9]) F_law_stand_1 (r.map cmdD) [some (.int L), some d, some (.int t), some (.int s.1), some (.bl s.2.1), some (.int s.2.2), v6, v7, v8, v9] st =
      .nx [some (.int L), some d, some (.int t), some (.int (r.foldl (stepC L) s).1), some (.bl (r.foldl (stepC L) s).2.1), some (.int (r.foldl (stepC L) s).2.2), w6, w7, w8, w9] st ∧ r.takeWhile (fun c => decide (c.1 ≤ t)) = r) ∨
    forIt keep (gTupV [6, 7, 8, 9]) F_law_stand_1 (r.map cmdD) [some (.int L), some d, some (.int t), some (.int s.1), some (.bl s.2.1), some (.int s.2.2), v6, v7, v8, v9] st =
      .rt (standD (endC L t ((r.takeWhile fun c => decide (c.1 ≤ t)).foldl (stepC L) s))) st
  | [], s, v6, v7, v8, v9, _ => .inl ⟨v6, v7, v8, v9, by simp [forIt_nil hk], rfl⟩
  | c :: r, s, v6, v7, v8, v9, h => by
    have hc : PyData.strOk c.2.2.1 = true := h c (List.mem_cons_self ..)
    have e1 := eq_kind hc ok_move
    have e2 := eq_kind hc ok_go
    by_cases ht : c.1 ≤ t
    · have ht' : ¬ t < c.1 := by omega
      have key : ∀ X, forIt keep (gTupV [6, 7, 8, 9]) F_law_stand_1 (r.map cmdD) [some (.int L), some d, some (.int t), some (.int (stepC L s c).1), some (.bl (stepC L s c).2.1), some (.int (stepC L s c).2.2), some (.int c.1), some (.int c.2.1), some (.str c.2.2.1), some (.int c.2.2.2)] st = X →
          forIt keep (gTupV [6, 7, 8, 9]) F_law_stand_1 ((c :: r).map cmdD) [some (.int L), some d, some (.int t), some (.int s.1), some (.bl s.2.1), some (.int s.2.2), v6, v7, v8, v9] st = X := fun X hX => by
        rw [← hX, List.map_cons, forIt_cons hk]
        by_cases hm : c.2.2.1 = kMove
        · have e3 : ∀ st, fEq (.str c.2.2.1) (.str kMove) st = .ok (.bl true) st := fun st => by rw [e1, decide_eq_true hm]
          rw [show stepC L s c = (c.2.2.2, s.2.1, c.1) from if_pos hm]
          cases hg : s.2.1 <;> simp [F_law_stand_1, hg, e3, ht']
        · have e3 : ∀ st, fEq (.str c.2.2.1) (.str kMove) st = .ok (.bl false) st := fun st => by rw [e1, decide_eq_false hm]
          rw [show stepC L s c = (if s.2.1 then minL L (s.1 + c.1 - s.2.2) else s.1, decide (c.2.2.1 = kGo), c.1) from if_neg hm]
          by_cases hg2 : c.2.2.1 = kGo
          · have e4 : ∀ st, fEq (.str c.2.2.1) (.str kGo) st = .ok (.bl true) st := fun st => by rw [e2, decide_eq_true hg2]
            rw [decide_eq_true hg2]
            cases hg : s.2.1 <;> simp [F_law_stand_1, hg, e3, e4, ht']
          · have e4 : ∀ st, fEq (.str c.2.2.1) (.str kGo) st = .ok (.bl false) st := fun st => by rw [e2, decide_eq_false hg2]
            rw [decide_eq_false hg2]
            cases hg : s.2.1 <;> simp [F_law_stand_1, hg, e3, e4, ht']
      rw [List.takeWhile_cons, if_pos (decide_eq_true ht), List.foldl_cons, List.foldl_cons]
      rcases lstand_loop (d := d) (t := t) hk r (stepC L s c) (some (.int c.1)) (some (.int c.2.1)) (some (.str c.2.2.1)) (some (.int c.2.2.2)) (fun x hx => h x (List.mem_cons_of_mem _ hx)) with ⟨w6, w7, w8, w9, ih, e⟩ | ih
      · exact .inl ⟨w6, w7, w8, w9, key _ ih, by rw [e]⟩
      · exact .inr (key _ ih)
    · refine .inr ?_
      have ht' : t < c.1 := by omega
      rw [List.takeWhile_cons, if_neg (by simpa using ht), List.foldl_nil, List.map_cons, forIt_cons hk]
      cases hg : s.2.1 <;> simp [F_law_stand_1, X_law_stand_1, hg, ht', endC]
theorem law_stand_eq {L t : Int} {cs : List Cmd} {d : D} {st : Sto} (hd : IsL st d (cs.map cmdD)) (hc : ∀ c ∈ cs, okC c) : d_law_stand [.int L, d, .int t] st = .ok (standD (standL L cs t)) st := by
  have hz := srtK_some (sortOk_cmds cs)
  have hs := isort_cmds cs
  have hle : ∀ (a : Int) (b : Bool), leave st (.ok (.tup [.int a, .bl b]) st) = .ok (.tup [.int a, .bl b]) st := fun a b => leave_ok0 rfl nofun
  have hres : standL L cs t = endC L t (runC L ((isort leC cs).takeWhile fun c => decide (c.1 ≤ t))) := rfl
  rcases lstand_loop (L := L) (t := t) (d := d) (st := st) (keep := fun _ => true) rfl (isort leC cs) (0, false, 0) none none none none (fun c hx => hc c (isort_mem.mp hx)) with ⟨w6, w7, w8, w9, hlo, e⟩ | hlo
  · rw [hres, e]
    have hr : (isort leC cs).foldl (stepC L) (0, false, 0) = runC L (isort leC cs) := rfl
    rw [hr] at hlo
    generalize runC L (isort leC cs) = s at *
    cases hg : s.2.1 <;> rw [hg] at hlo <;> simp [d_law_stand, pureF_ap, run_ap, B_law_stand, hd.g, hz, hs, hlo, X_law_stand_2, endC, hg, hle]
  · have hr : ((isort leC cs).takeWhile fun c => decide (c.1 ≤ t)).foldl (stepC L) (0, false, 0) = runC L ((isort leC cs).takeWhile fun c => decide (c.1 ≤ t)) := rfl
    rw [hr, ← hres] at hlo
    simp [d_law_stand, pureF_ap, run_ap, B_law_stand, hd.g, hz, hs, hlo, hle]
end Wt.Lk10

namespace Wt.Lk10
open PySem PySem.Spec PyProof.Rows L2 Wt
def wholeL (ns : List Int) (by_ : Int) : Int := absI (cells ns).sum + 7 * by_
def kindL (num : Int) : Str := if num % 4 = 0 then kGo else if num % 4 = 1 then kHold else if num % 4 = 2 then kGo else kMove
theorem kind_at (num : Int) : atI [D.str "go", D.str "hold", D.str "go", D.str "move"] (num % 4) = some (.str (kindL num)) := by
  unfold kindL
  have h : num % 4 = 0 ∨ num % 4 = 1 ∨ num % 4 = 2 ∨ num % 4 = 3 := by omega
  rcases h with h | h | h | h <;> rw [h] <;> rfl
theorem kind_ok (num : Int) : PyData.strOk (kindL num) = true := by
  unfold kindL
  split
  · exact ok_go
  · split
    · exact ok_hold
    · split
      · exact ok_go
      · exact ok_move
def wideC (w : Int) : Int := at0 [9, 60, 1000000, 1000000000000000000000000000000] (w / 4 % 4)
theorem wideC_pos (w : Int) : 1 ≤ wideC w ∧ wideC w ≤ 1000000000000000000000000000000 := by
  have h := at0_mem (l := [9, 60, 1000000, 1000000000000000000000000000000]) (k := w / 4 % 4) (by omega) (by show _ < (4 : Int); omega)
  unfold wideC
  generalize at0 [9, 60, 1000000, 1000000000000000000000000000000] (w / 4 % 4) = x at h
  simp only [List.mem_cons, List.not_mem_nil, or_false] at h
  omega
def cellC (ns : List Int) (by_ : Int) (at_ : Nat) : Int := at0 (cells ns) (((at_ : Int) + by_) % (cells ns).length) + (at_ : Int) / (cells ns).length
def numC (ns : List Int) (by_ : Int) (at_ : Nat) : Int := absI (numL (cellC ns by_ at_) (at_ + by_) (wholeL ns by_)) / 3
def kindC (mv : Bool) (num : Int) : Str := if kindL num = kMove ∧ mv = false then kHold else kindL num
def farC (ns : List Int) (by_ : Int) (at_ : Nat) : Int := numC ns by_ at_ / 16 / wideC (wholeL ns by_)
def placeC (L : Int) (k : Str) (far : Int) : Int := if k = kMove then far % (L + 1) else 0
def rowL (ns : List Int) (by_ L : Int) (mv : Bool) (at_ : Nat) : Row :=
  ((numC ns by_ at_ / 16 % wideC (wholeL ns by_), numC ns by_ at_ / 4 % 4), (kindC mv (numC ns by_ at_), placeC L (kindC mv (numC ns by_ at_)) (farC ns by_ at_)))
theorem cmds_step {ns : List Int} (hns : ∀ z ∈ ns, Bd 1048576 z) {by_ most L : Int} {mv : Bool} (hb : 0 ≤ by_) (hb2 : by_ ≤ 100) (hL : 0 ≤ L) {at_ : Nat} (hat : at_ ≤ 1000) {st : Sto} {t : List Row} (ht : t.length ≤ 10000) (v9 v10 v11 v12 v13 v14 v15 : Option D) :
    ∃ w10 w11 w12 w13 w14 w15, F_law_commands_1 [some (.scr (ns.map .int)), some (.int by_), some (.int most), some (.int L), some (.bl mv), some (.lst ((cells ns).map .int)), some (.int (wholeL ns by_)), some (.loc st.length), some (.int (wideC (wholeL ns by_))), some (.int at_), v10, v11, v12, v13, v14, v15, none] (st ++ [.dT (t.map rowD)]) =
      .nx [some (.scr (ns.map .int)), some (.int by_), some (.int most), some (.int L), some (.bl mv), some (.lst ((cells ns).map .int)), some (.int (wholeL ns by_)), some (.loc st.length), some (.int (wideC (wholeL ns by_))), some (.int at_), w10, w11, w12, w13, w14, w15, none] (st ++ [.dT ((putC t (rowL ns by_ L mv at_)).map rowD)]) := by
  have hc := cells_bd (by omega) hns
  have hcl := cells_ne ns
  have hcl2 := cells_le ns
  have h0 := Int.emod_nonneg ((at_ : Int) + by_) (by omega : ((cells ns).length : Int) ≠ 0)
  have h1 := Int.emod_lt_of_pos ((at_ : Int) + by_) (by omega : (0 : Int) < (cells ns).length)
  have hd0 : (0 : Int) ≤ (at_ : Int) / (cells ns).length := Int.ediv_nonneg (by omega) (by omega)
  have hd1 : (at_ : Int) / (cells ns).length ≤ at_ := Int.ediv_le_self _ (by omega)
  have hBd : Bd (max 1048576 10 + 1) (cellC ns by_ at_) := (hc _ (at0_mem h0 h1)).add (by unfold Bd; omega)
  have hn := law_number_eq (c := cellC ns by_ at_) (a := at_ + by_) (w := wholeL ns by_) (n := max 1048576 10 + 1) (by omega) (by omega) hBd (by omega) (by omega)
  have hat' := atI_at0 h0 h1
  have hcell : at0 (cells ns) (((at_ : Int) + by_) % (cells ns).length) + (at_ : Int) / (cells ns).length = cellC ns by_ at_ := rfl
  have hnum : absI (numL (cellC ns by_ at_) (at_ + by_) (wholeL ns by_)) / 3 = numC ns by_ at_ := rfl
  have hfar : numC ns by_ at_ / 16 / wideC (wholeL ns by_) = farC ns by_ at_ := rfl
  have hw := wideC_pos (wholeL ns by_)
  have hw1 : 0 < wideC (wholeL ns by_) := by omega
  have hw2 : wideC (wholeL ns by_) < 1000000000000000000000000000000000000000000000000000 := by omega
  have hlz : ((cells ns).length : Int) < 1000000000000000000000000000000000000000000000000000 := by omega
  have hdv : ∀ s, fDiv (.int at_) (.int ((cells ns).length : Int)) s = .ok (.int ((at_ : Int) / (cells ns).length)) s := fun s => fDiv_ok (by omega) hlz
  have hmd : ∀ s, fMod (.int ((at_ : Int) + by_)) (.int ((cells ns).length : Int)) s = .ok (.int (((at_ : Int) + by_) % (cells ns).length)) s := fun s => by rw [fMod_int, decide_eq_true (by omega)]; rfl
  have hL1 : 0 < L + 1 := by omega
  have hk := kind_at (numC ns by_ at_)
  have e1 := eq_kind (kind_ok (numC ns by_ at_)) ok_move
  have e2 := eq_kind ok_hold ok_move
  have hhm : ¬ kHold = kMove := by decide +kernel
  have e3 : ∀ st, fEq (.str kHold) (.str kMove) st = .ok (.bl false) st := fun st => by rw [e2, decide_eq_false hhm]
  have hput : ∀ (y : D) (env : En), y = (rowD (rowL ns by_ L mv at_)).2 → putK' env y (.loc st.length) (some [.inl (numC ns by_ at_ / 16 % wideC (wholeL ns by_)), .inl (numC ns by_ at_ / 4 % 4)]) (st ++ [.dT (t.map rowD)]) = .nx env (st ++ [.dT ((putC t (rowL ns by_ L mv at_)).map rowD)]) := fun y env hy => by
    rw [putK_loc (t := t.map rowD) get_at0 (by rw [List.length_map]; omega), set_at0, ← put_rows, hy]
    rfl
  by_cases hm : kindL (numC ns by_ at_) = kMove
  · have e4 : ∀ st, fEq (.str (kindL (numC ns by_ at_))) (.str kMove) st = .ok (.bl true) st := fun st => by rw [e1, decide_eq_true hm]
    cases mv with
    | true =>
      have hkc : kindC true (numC ns by_ at_) = kindL (numC ns by_ at_) := if_neg (by simp)
      have hy : D.tup [.str (kindL (numC ns by_ at_)), .int (farC ns by_ at_ % (L + 1))] = (rowD (rowL ns by_ L true at_)).2 := by
        show _ = D.tup [.str (kindC true _), .int (placeC L (kindC true _) _)]
        rw [hkc, placeC, if_pos hm]
      iterate 6 apply Exists.intro
      simp [F_law_commands_1, X_law_commands_2, hat', hdv, hmd, hcell, hn, hnum, hk, e4, hw1, hw2, hfar, hL1, hput _ _ hy]
      exact ⟨rfl, rfl, rfl, rfl, rfl, rfl⟩
    | false =>
      have hkc : kindC false (numC ns by_ at_) = kHold := if_pos ⟨hm, rfl⟩
      have hy : D.tup [.str kHold, .int 0] = (rowD (rowL ns by_ L false at_)).2 := by
        show _ = D.tup [.str (kindC false _), .int (placeC L (kindC false _) _)]
        rw [hkc, placeC, if_neg hhm]
      iterate 6 apply Exists.intro
      simp [F_law_commands_1, X_law_commands_2, hat', hdv, hmd, hcell, hn, hnum, hk, e4, e3, hw1, hw2, hfar, hL1, hput _ _ hy]
      exact ⟨rfl, rfl, rfl, rfl, rfl, rfl⟩
  · have e4 : ∀ st, fEq (.str (kindL (numC ns by_ at_))) (.str kMove) st = .ok (.bl false) st := fun st => by rw [e1, decide_eq_false hm]
    have hkc : kindC mv (numC ns by_ at_) = kindL (numC ns by_ at_) := if_neg (fun h => hm h.1)
    have hy : D.tup [.str (kindL (numC ns by_ at_)), .int 0] = (rowD (rowL ns by_ L mv at_)).2 := by
      show _ = D.tup [.str (kindC mv _), .int (placeC L (kindC mv _) _)]
      rw [hkc, placeC, if_neg hm]
    iterate 6 apply Exists.intro
    simp [F_law_commands_1, X_law_commands_2, hat', hdv, hmd, hcell, hn, hnum, hk, e4, hw1, hw2, hfar, hL1, hput _ _ hy]
    exact ⟨rfl, rfl, rfl, rfl, rfl, rfl⟩
theorem cmds_loop {ns : List Int} (hns : ∀ z ∈ ns, Bd 1048576 z) {by_ most L : Int} {mv : Bool} (hb : 0 ≤ by_) (hb2 : by_ ≤ 100) (hL : 0 ≤ L) {st : Sto} : ∀ (is : List Nat) (t : List Row) (v9 v10 v11 v12 v13 v14 v15 : Option D), (∀ i ∈ is, i ≤ 1000) → t.length + is.length ≤ 10000 →
    ∃ w9 w10 w11 w12 w13 w14 w15, forIt (fun _ => true) (gVar 9) F_law_commands_1 (is.map fun k : Nat => D.int (k : Int)) [some (.scr (ns.map .int)), some (.int by_), some (.int most), some (.int L), some (.bl mv), some (.lst ((cells ns).map .int)), some (.int (wholeL ns by_)), some (.loc st.length), some (.int (wideC (wholeL ns by_))), v9, v10, v11, v12, v13, v14, v15, none] (st ++ [.dT (t.map rowD)]) =
      .nx [some (.scr (ns.map .int)), some (.int by_), some (.int most), some (.int L), some (.bl mv), some (.lst ((cells ns).map .int)), some (.int (wholeL ns by_)), some (.loc st.length), some (.int (wideC (wholeL ns by_))), w9, w10, w11, w12, w13, w14, w15, none] (st ++ [.dT ((is.foldl (fun t i => putC t (rowL ns by_ L mv i)) t).map rowD)])
  | [], t, v9, v10, v11, v12, v13, v14, v15, _, _ => ⟨v9, v10, v11, v12, v13, v14, v15, forIt_nil rfl⟩
  | i :: is, t, v9, v10, v11, v12, v13, v14, v15, hi, hl => by
    rw [List.length_cons] at hl
    obtain ⟨u10, u11, u12, u13, u14, u15, h1⟩ := cmds_step (most := most) (mv := mv) (st := st) hns hb hb2 hL (hi i (List.mem_cons_self ..)) (t := t) (by omega) v9 v10 v11 v12 v13 v14 v15
    obtain ⟨w9, w10, w11, w12, w13, w14, w15, h2⟩ := cmds_loop (most := most) (mv := mv) (st := st) hns hb hb2 hL is (putC t (rowL ns by_ L mv i)) (some (.int i)) u10 u11 u12 u13 u14 u15 (fun j hj => hi j (List.mem_cons_of_mem _ hj)) (by have := put_len t (rowL ns by_ L mv i); omega)
    refine ⟨w9, w10, w11, w12, w13, w14, w15, ?_⟩
    rw [List.foldl_cons, ← h2, List.map_cons, forIt_cons rfl]
    simp [h1]
def tabC (ns : List Int) (by_ most L : Int) (mv : Bool) : List Row := tabL (rowL ns by_ L mv) (wholeL ns by_ / 16 % (most + 1)).toNat
/-- the law's commands -/
def cmdsL (ns : List Int) (by_ most L : Int) (mv : Bool) : List Cmd := (tabC ns by_ most L mv).map rowC
theorem law_commands_eq {ns : List Int} (hns : ∀ z ∈ ns, Bd 1048576 z) {by_ most L : Int} {mv : Bool} (hb : 0 ≤ by_) (hb2 : by_ ≤ 100) (hm : 0 ≤ most) (hm2 : most ≤ 900) (hL : 0 ≤ L) (st : Sto) :
    ∃ T, d_law_commands [.scr (ns.map .int), .int by_, .int most, .int L, .bl mv] st = .ok (.loc (st.length + 1)) (st ++ [.dT T, .list ((cmdsL ns by_ most L mv).map cmdD)]) := by
  have h7 : MulOk 7 by_ = true := Bd.mulOk (a := 3) (b := 7) (by unfold Bd; decide) (by unfold Bd; omega) (by decide)
  have hw0 := wideC_pos (wholeL ns by_)
  have hcnt := Int.emod_nonneg (wholeL ns by_ / 16) (by omega : most + 1 ≠ 0)
  have hcnt2 := Int.emod_lt_of_pos (wholeL ns by_ / 16) (by omega : 0 < most + 1)
  have hix : atI [D.int 9, D.int 60, D.int 1000000, D.int 1000000000000000000000000000000] (wholeL ns by_ / 4 % 4) = some (.int (wideC (wholeL ns by_))) := atI_at0 (l := [9, 60, 1000000, 1000000000000000000000000000000]) (by omega) (by show _ < (4 : Int); omega)
  have hcells : (∀ v, ∀ s, X_law_commands_1 [some (.scr (ns.map .int)), some (.int by_), some (.int most), some (.int L), some (.bl mv), none, none, none, none, none, none, none, none, none, none, none, v] s = .ok (.lst ((cells ns).map .int)) s) := fun v s => by
    unfold cells X_law_commands_1
    by_cases h : ns = []
    · subst h; simp
    · have := cutD_take (ns.map D.int) 63
      simp [h] at this ⊢
      exact this
  obtain ⟨n, hn⟩ : ∃ n, n = (wholeL ns by_ / 16 % (most + 1)).toNat := ⟨_, rfl⟩
  have hn2 : n ≤ 1000 := by omega
  obtain ⟨w9, w10, w11, w12, w13, w14, w15, hloop⟩ := cmds_loop (most := most) (mv := mv) (st := st) hns hb hb2 hL (List.range n) [] none none none none none none none (fun i hi => by have := List.mem_range.mp hi; omega) (by rw [List.length_range]; simp; omega)
  have hr : rngD 0 (wholeL ns by_ / 16 % (most + 1)).toNat = (List.range n).map fun k : Nat => D.int (k : Int) := by rw [hn]; exact rng0_map _
  have htab : (List.range n).foldl (fun t i => putC t (rowL ns by_ L mv i)) [] = tabC ns by_ most L mv := by rw [hn]; rfl
  rw [htab] at hloop
  have hkeys : ((tabC ns by_ most L mv).map (·.1)).Nodup := tab_keys _ _
  have hlen : (tabC ns by_ most L mv).length ≤ n := by rw [hn]; exact tab_len _ _
  obtain ⟨T, hT⟩ : ∃ T, T = tabC ns by_ most L mv := ⟨_, rfl⟩
  rw [← hT] at hloop hkeys hlen
  have hwh : absI (cells ns).sum + 7 * by_ = wholeL ns by_ := rfl
  have hb1 : (-4611686018427387904 : Int) ≤ wholeL ns by_ / 16 % (most + 1) ∧ wholeL ns by_ / 16 % (most + 1) < 4611686018427387904 := by omega
  have hcomp : L_law_commands_1 [some (.scr (ns.map .int)), some (.int by_), some (.int most), some (.int L), some (.bl mv), some (.lst ((cells ns).map .int)), some (.int (wholeL ns by_)), some (.loc st.length), some (.int (wideC (wholeL ns by_))), w9, w10, w11, w12, w13, w14, w15, none] (st ++ [.dT (T.map rowD)]) = .ok ((T.map rowC).map cmdD) (st ++ [.dT (T.map rowD)]) := by
    have hset : (st ++ [Cell.dT (T.map rowD)]).set st.length (.lT (T.map rowD)) = st ++ [.lT (T.map rowD)] := set_at0
    have hset2 : (st ++ [Cell.dT (T.map rowD)]).set st.length (.dT (T.map rowD)) = st ++ [.dT (T.map rowD)] := set_at0
    have := lc_map (keep := fun _ => true) (vs := [16]) (g := gVar 16) (A := (dOp fAdd (dVar 16) (dGetT (dVar 7) (dVar 16)))) (env := [some (.scr (ns.map .int)), some (.int by_), some (.int most), some (.int L), some (.bl mv), some (.lst ((cells ns).map .int)), some (.int (wholeL ns by_)), some (.loc st.length), some (.int (wideC (wholeL ns by_))), w9, w10, w11, w12, w13, w14, w15, none]) (st := st ++ [.lT (T.map rowD)])
      (enc := fun r : Row => keyTup (rowK r.1)) (fun r => cmdD (rowC r)) T (fun r hr => ⟨_, rfl, by
        have hv := val_rows hkeys hr
        have hg : ∀ s, getK (T.map rowD) [.inl r.1.1, .inl r.1.2] s = .ok (.tup [.str r.2.1, .int r.2.2]) s := fun s => by
          unfold getK
          rw [show valD (T.map rowD) [.inl r.1.1, .inl r.1.2] = some (.tup [.str r.2.1, .int r.2.2]) from hv]
        simp [wipeE, keyTup, rowK, keyToD, hg, rowC]⟩) (by omega) rfl
    unfold L_law_commands_1
    rw [lLcT_at (n := st.length) rfl, get_at0, lctK_of (l := (T.map rowC).map cmdD) (by simp) (by rw [hset, List.map_map, List.map_map]; exact this), hset2]
  have hm1 : 0 < most + 1 := by omega
  rw [show cmdsL ns by_ most L mv = T.map rowC from by rw [hT]; rfl]
  simp only [List.map_nil] at hloop
  refine ⟨T.map rowD, ?_⟩
  simp [d_law_commands, run_ap, B_law_commands, hcells, hwh, h7, hix, hm1, hb1, hr, hloop, hcomp, -List.map_map]
def lenL (w : Int) : Int := at0 [1 + w / 4 % 30, 1000000000, 1 + w / 4 % 1000, 60] (w % 4)
theorem len_in (w : Int) : 1 ≤ lenL w ∧ lenL w ≤ 1000000000 := by
  have h := at0_mem (l := [1 + w / 4 % 30, 1000000000, 1 + w / 4 % 1000, 60]) (k := w % 4) (by omega) (by show _ < (4 : Int); omega)
  unfold lenL
  generalize at0 [1 + w / 4 % 30, 1000000000, 1 + w / 4 % 1000, 60] (w % 4) = x at h
  simp only [List.mem_cons, List.not_mem_nil, or_false] at h
  omega
theorem law_length_eq (w : Int) (st : Sto) : d_law_length [.int w] st = .ok (.int (lenL w)) st := by
  have hix : atI [D.int (1 + w / 4 % 30), D.int 1000000000, D.int (1 + w / 4 % 1000), D.int 60] (w % 4) = some (.int (lenL w)) := atI_at0 (l := [1 + w / 4 % 30, 1000000000, 1 + w / 4 % 1000, 60]) (by omega) (by show _ < (4 : Int); omega)
  simp [d_law_length, pureF_ap, run_ap, B_law_length, hix]
theorem kindC_ok (mv : Bool) (num : Int) : PyData.strOk (kindC mv num) = true := by
  unfold kindC
  split
  · exact ok_hold
  · exact kind_ok num
theorem cmds_ok (ns : List Int) (by_ most L : Int) (mv : Bool) : ∀ c ∈ cmdsL ns by_ most L mv, okC c := fun c hc => by
  obtain ⟨r, hr, rfl⟩ := List.mem_map.mp hc
  obtain ⟨i, _, rfl⟩ := tab_mem _ _ r hr
  exact kindC_ok mv _
theorem cmds_len (ns : List Int) (by_ L : Int) (mv : Bool) {most : Int} (hm : 0 ≤ most) : (cmdsL ns by_ most L mv).length ≤ most.toNat := by
  have h1 := tab_len (rowL ns by_ L mv) (wholeL ns by_ / 16 % (most + 1)).toNat
  have := Int.emod_nonneg (wholeL ns by_ / 16) (by omega : most + 1 ≠ 0)
  have := Int.emod_lt_of_pos (wholeL ns by_ / 16) (by omega : 0 < most + 1)
  rw [cmdsL, List.length_map, tabC]
  omega
end Wt.Lk10

namespace Wt.Lk10
open PySem PySem.Spec PyProof.Rows L2 Wt
theorem is_whole_int (x : Int) (st : Sto) : d_is_whole [.int x] st = .ok (.bl true) st := by
  simp [d_is_whole, pureF_ap, run_ap, B_is_whole, Ty.sub]
theorem asked_length_ok {L : Int} (h1 : 1 ≤ L) (h2 : L ≤ 1000000000) (st : Sto) : d_asked_length [.int L] st = .ok .non st := by
  simp [d_asked_length, pureF_ap, run_ap, B_asked_length, is_whole_int, h1, h2]
theorem asked_tick_ok {t : Int} (h : 0 ≤ t) (st : Sto) : d_asked_tick [.int t] st = .ok .non st := by
  have : ¬ t < 0 := by omega
  simp [d_asked_tick, pureF_ap, run_ap, B_asked_tick, is_whole_int, this]
theorem kinds_in {k : Str} (h : k = kHold ∨ k = kGo ∨ k = kMove) (st : Sto) : fNotIn (.str k) (.tup [.str "hold", .str "go", .str "move"]) st = .ok (.bl false) st := by
  have hb : inB st (.str k) (.tup [.str "hold", .str "go", .str "move"]) = some true := by
    rcases h with rfl | rfl | rfl <;> simp [inB, D.flat, D.py, PyData.eqv]
  simp only [fNotIn, hb]
  rfl
theorem is_command_ok {L : Int} {c : Cmd} (h : Vc L c) (st : Sto) : d_is_command [.int L, cmdD c] st = .ok (.bl true) st := by
  have hk := kinds_in h.k st
  have hok : PyData.strOk c.2.2.1 = true := by rcases h.k with e | e | e <;> rw [e] <;> decide +kernel
  have e1 := eq_kind hok ok_move
  have hL : ∀ v6, L_is_command_1 [some (.int L), some (cmdD c), some (.int c.1), some (.int c.2.1), some (.str c.2.2.1), some (.int c.2.2.2), v6] st = .ok (([c.1, c.2.1, c.2.2.2].map fun _ => true).map .bl) st := fun v6 => by
    have := lc_bls (keep := fun _ => true) (vs := [6]) (g := gVar 6) (A := dFn 1 d_is_whole (aCons (dVar 6) aNil)) (env := [some (.int L), some (cmdD c), some (.int c.1), some (.int c.2.1), some (.str c.2.2.1), some (.int c.2.2.2), v6]) (st := st) (enc := D.int) (fun _ => true) [c.1, c.2.1, c.2.2.2]
      (fun x hx => ⟨_, rfl, by simp [wipeE, is_whole_int]⟩) (by show (3 : Nat) ≤ _; decide) rfl
    simp only [List.map_cons, List.map_nil, cmdD] at this
    simp [L_is_command_1, this]
  have hall : blsOf [D.bl true, D.bl true, D.bl true] = some [true, true, true] := rfl
  have hall2 : allB [true, true, true] = true := rfl
  have n0 : ¬ c.1 < 0 := by have := h.t0; omega
  have p0 := h.p0
  have p1 := h.p1
  simp only [List.map_cons, List.map_nil, cmdD] at hL
  by_cases hm : c.2.2.1 = kMove
  · have e3 : ∀ st, fEq (.str c.2.2.1) (.str kMove) st = .ok (.bl true) st := fun st => by rw [e1, decide_eq_true hm]
    rw [if_pos hm] at p1
    simp [d_is_command, pureF_ap, run_ap, B_is_command, X_is_command_1, at_c2, Ty.sub, hk, hL, hall, hall2, n0, h.h0, h.h4, e3, p0, p1]
  · have e3 : ∀ st, fEq (.str c.2.2.1) (.str kMove) st = .ok (.bl false) st := fun st => by rw [e1, decide_eq_false hm]
    rw [if_neg hm] at p1
    have e4 : ∀ st, fEq (.int c.2.2.2) (.int 0) st = .ok (.bl true) st := fun st => by rw [fEq_int, decide_eq_true p1]
    simp only [cmdD]
    simp [d_is_command, pureF_ap, run_ap, B_is_command, X_is_command_1, at_c2, Ty.sub, hk, hL, hall, hall2, n0, h.h0, h.h4, e3, e4, -fEq_int]
end Wt.Lk10

namespace Wt.Lk10
open PySem PySem.Spec PyProof.Rows L2 Wt
theorem valD_put (kvs : List (List Key × D)) (k : List Key) (d : D) (k' : List Key) : valD (putD kvs k d) k' = if k = k' then some d else valD kvs k' := by
  unfold putD
  split
  · rename_i h
    induction kvs with
    | nil => simp at h
    | cons p r ih =>
      unfold valD at *
      rw [List.map_cons, List.find?_cons, List.find?_cons]
      by_cases e : p.1 = k
      · rw [if_pos e]
        by_cases e2 : k = k'
        · rw [if_pos e2, show decide ((p.1, d).1 = k') = true from decide_eq_true (e.trans e2)]
          rfl
        · rw [if_neg e2, show decide ((p.1, d).1 = k') = false from decide_eq_false (fun z => e2 (e.symm.trans z))]
          by_cases hr : (r.any fun kv => decide (kv.1 = k)) = true
          · have := ih hr
            rw [if_neg e2] at this
            exact this
          · have hid : r.map (fun kv => if kv.1 = k then (kv.1, d) else kv) = r := by
              conv => rhs; rw [← List.map_id r]
              refine List.map_congr_left fun q hq => ?_
              rw [if_neg (fun z => hr (List.any_eq_true.mpr ⟨q, hq, decide_eq_true z⟩))]
              rfl
            rw [hid]
      · rw [if_neg e]
        have hr : (r.any fun kv => decide (kv.1 = k)) = true := by
          rw [List.any_cons, decide_eq_false e, Bool.false_or] at h
          exact h
        have ih' := ih hr
        by_cases e3 : p.1 = k'
        · rw [show decide (p.1 = k') = true from decide_eq_true e3, if_neg (fun z => e (e3.trans z.symm))]
        · rw [show decide (p.1 = k') = false from decide_eq_false e3]
          exact ih'
  · rename_i h
    unfold valD
    rw [List.find?_append]
    by_cases e2 : k = k'
    · subst e2
      rw [if_pos rfl, List.find?_eq_none.mpr (fun q hq hz => h (List.any_eq_true.mpr ⟨q, hq, hz⟩))]
      simp
    · rw [if_neg e2, List.find?_cons, show decide ((k, d).1 = k') = false from decide_eq_false e2]
      simp
theorem putD_len (kvs : List (List Key × D)) (k : List Key) (d : D) : (putD kvs k d).length ≤ kvs.length + 1 := by
  unfold putD
  split
  · rw [List.length_map]; omega
  · rw [List.length_append]; exact Nat.le_refl _
def keyC (c : Cmd) : List Key := [.inl c.1, .inl c.2.1]
/-- commands that stand may be asked of -/
structure Vcs (L : Int) (cs : List Cmd) : Prop where
  v : ∀ c ∈ cs, Vc L c
  u : ∀ c ∈ cs, ∀ d ∈ cs, keyC c = keyC d → c = d
  l : cs.length ≤ 300
theorem vc_ok {L : Int} {c : Cmd} (h : Vc L c) : okC c := by
  unfold okC
  rcases h.k with e | e | e <;> rw [e] <;> decide +kernel
theorem sl2 (a b c d : D) (st : Sto) : fSl (.tup [a, b, c, d]) none (some 2) st = .ok (.tup [a, b]) st := (rfl)
theorem asked_loop {L : Int} {d : D} {st : Sto} {cs : List Cmd} (V : Vcs L cs) {keep : Sto → Bool} (hk : ∀ t, keep (st ++ [.dT t]) = true) : ∀ (r : List Cmd) (t : List (List Key × D)) (v : Option D), (∀ c ∈ r, c ∈ cs) → t.length + r.length ≤ 1000 → (∀ c ∈ cs, valD t (keyC c) = none ∨ valD t (keyC c) = some (cmdD c)) →
    ∃ t' v', forIt keep (gVar 3) F_asked_commands_1 (r.map cmdD) [some (.int L), some d, some (.loc st.length), v] (st ++ [.dT t]) = .nx [some (.int L), some d, some (.loc st.length), v'] (st ++ [.dT t'])
  | [], t, v, _, _, _ => ⟨t, v, forIt_nil (hk t)⟩
  | c :: r, t, v, hr, hl, hv => by
    rw [List.length_cons] at hl
    have hc := hr c (List.mem_cons_self ..)
    have hget : (valD t (keyC c)).getD (cmdD c) = cmdD c := by rcases hv c hc with e | e <;> rw [e] <;> rfl
    obtain ⟨t', v', ih⟩ := asked_loop (d := d) V hk r (putD t (keyC c) (cmdD c)) (some (cmdD c)) (fun x hx => hr x (List.mem_cons_of_mem _ hx)) (by have := putD_len t (keyC c) (cmdD c); omega) (fun x hx => by
      rw [valD_put]
      by_cases e : keyC c = keyC x
      · rw [if_pos e, V.u c hc x hx e]; exact .inr rfl
      · rw [if_neg e]; exact hv x hx)
    refine ⟨t', v', ?_⟩
    rw [List.map_cons, forIt_cons (hk t), ← ih]
    have hne := fNe_cmd (st := st ++ [.dT t]) (vc_ok (V.v c hc)) (vc_ok (V.v c hc))
    have hput : ∀ env, putK' env (cmdD c) (.loc st.length) (some (keyC c)) (st ++ [.dT t]) = .nx env (st ++ [.dT (putD t (keyC c) (cmdD c))]) := fun env => by
      rw [putK_loc (t := t) get_at0 (by omega), set_at0]
    simp only [keyC, cmdD] at hget hput hne
    simp [F_asked_commands_1, sl2, hget, hne, hput]
    rfl
theorem asked_ok {L : Int} {cs : List Cmd} (V : Vcs L cs) {d : D} {st : Sto} (hd : IsL st d (cs.map cmdD)) : d_asked_commands [.int L, d] st = .ok .non st := by
  have hl := V.l
  have h1 : ∀ v2 v3, L_asked_commands_1 [some (.int L), some d, v2, v3] st = .ok ((cs.map fun _ => true).map .bl) st := fun v2 v3 => by
    have := lc_bls (keep := keepL d (cs.map cmdD)) (vs := [3]) (g := gVar 3) (A := (dFn 2 d_is_command (aCons (dVar 0) (aCons (dVar 3) aNil)))) (env := [some (.int L), some d, v2, v3]) (st := st) (enc := cmdD) (fun _ => true) cs
      (fun c hc => ⟨_, rfl, by have := is_command_ok (V.v c hc) st; simp only [cmdD] at this; simp [wipeE, this]⟩) (by omega) hd.kp
    simp [L_asked_commands_1, hd.g, this, -List.map_map]
  obtain ⟨t', v', hlo⟩ := asked_loop (d := d) (st := st) V (keep := keepL d (cs.map cmdD)) (fun t => hd.app.kp) cs [] none (fun _ h => h) (by simp; omega) (fun c _ => .inl rfl)
  have hg : ¬ (300 : Int) < (cs.length : Int) := by omega
  have hd1 := (hd.app (r := [.dT []])).g
  simp [d_asked_commands, pureF_ap, run_ap, B_asked_commands, hd.ty, hd.gs, Ty.sub, hg, h1, blsOf_map, hd1, hlo, -List.map_map]
theorem stand_eq {L t : Int} {cs : List Cmd} (h1 : 1 ≤ L) (h2 : L ≤ 1000000000) (V : Vcs L cs) (ht : 0 ≤ t) {d : D} {st : Sto} (hd : IsL st d (cs.map cmdD)) : d_stand [.int L, d, .int t] st = .ok (standD (standL L cs t)) st := by
  have a1 := asked_length_ok h1 h2 st
  have a2 := asked_ok V hd
  have a3 := asked_tick_ok ht st
  have a4 := stand_of_eq (L := L) (t := t) hd (fun c hc => (vc_ok (V.v c hc))) (by have := V.l; omega)
  have hle : ∀ (a : Int) (b : Bool), leave st (.ok (.tup [.int a, .bl b]) st) = .ok (.tup [.int a, .bl b]) st := fun a b => leave_ok0 rfl nofun
  simp [d_stand, pureF_ap, run_ap, B_stand, a1, a2, a3, a4, hle]
theorem fNotIn_cmd {st : Sto} {y : D} {l : List Cmd} {c : Cmd} (hy : IsL st y (l.map cmdD)) (hc : okC c) (hl : ∀ z ∈ l, okC z) : fNotIn (cmdD c) y st = .ok (.bl (!decide (c ∈ l))) st := EqCmd.fNotIn hy (okC_eq hc) fun z hz => okC_eq (hl z hz)
theorem Vcs.sub {L : Int} {cs ds : List Cmd} (V : Vcs L cs) (h : ∀ c ∈ ds, c ∈ cs) (hl : ds.length ≤ 300) : Vcs L ds := ⟨fun c hc => V.v c (h c hc), fun c hc d hd => V.u c (h c hc) d (h d hd), hl⟩
theorem Vcs.ok {L : Int} {cs : List Cmd} (V : Vcs L cs) : ∀ c ∈ cs, okC c := fun c hc => vc_ok (V.v c hc)
theorem keyC_inj {c d : Cmd} (h : keyC c = keyC d) : c.1 = d.1 ∧ c.2.1 = d.2.1 := by
  unfold keyC at h
  simpa using h
theorem unlike_eq {t : Int} {one other : List Cmd} {d e : D} {st : Sto} (hd : IsL st d (one.map cmdD)) (he : IsL st e (other.map cmdD)) (h1 : ∀ c ∈ one, okC c) (h2 : ∀ c ∈ other, okC c) (l1 : one.length ≤ 10000) (l2 : other.length ≤ 10000) (hl : (unL one other t).length < 64) :
    d_unlike [d, e, .int t] st = .ok (.lst ((unS one other t).map cmdD)) st := by
  have c1 : ∀ v3 v4 v5, L_unlike_1 [some d, some e, some (.int t), v3, v4, v5] st = .ok ((one.filter fun c => !decide (c ∈ other) && decide (c.1 ≤ t)).map cmdD) st := fun v3 v4 v5 => by
    have := lc_filter (keep := keepL d (one.map cmdD)) (vs := [4]) (g := gVar 4) (P := (bAnd (dTest (dOp fNotIn (dVar 4) (dVar 1))) (dTest (dOp fLe (dOp fIx (dVar 4) (dC (.int 0))) (dVar 2))))) (A := dVar 4) (env := [some d, some e, some (.int t), v3, v4, v5]) (st := st) (enc := cmdD) (fun c => !decide (c ∈ other) && decide (c.1 ≤ t)) cmdD one
      (fun c hc => ⟨_, rfl, by
        have := fNotIn_cmd he (h1 c hc) h2
        by_cases m : c ∈ other <;> simp only [m, decide_true, decide_false] at this <;> simp [wipeE, at_c0, this, m], fun _ => by simp [wipeE]⟩) (by omega) hd.kp
    simp [L_unlike_1, hd.g, this]
  have c2 : ∀ v3 v4 v5, L_unlike_2 [some d, some e, some (.int t), v3, v4, v5] st = .ok ((other.filter fun c => !decide (c ∈ one) && decide (c.1 ≤ t)).map cmdD) st := fun v3 v4 v5 => by
    have := lc_filter (keep := keepL e (other.map cmdD)) (vs := [5]) (g := gVar 5) (P := (bAnd (dTest (dOp fNotIn (dVar 5) (dVar 0))) (dTest (dOp fLe (dOp fIx (dVar 5) (dC (.int 0))) (dVar 2))))) (A := dVar 5) (env := [some d, some e, some (.int t), v3, v4, v5]) (st := st) (enc := cmdD) (fun c => !decide (c ∈ one) && decide (c.1 ≤ t)) cmdD other
      (fun c hc => ⟨_, rfl, by
        have := fNotIn_cmd hd (h2 c hc) h1
        by_cases m : c ∈ one <;> simp only [m, decide_true, decide_false] at this <;> simp [wipeE, at_c0, this, m], fun _ => by simp [wipeE]⟩) (by omega) he.kp
    simp [L_unlike_2, he.g, this]
  have n1 : (one.filter fun c => !decide (c ∈ other) && decide (c.1 ≤ t)).length ≤ one.length := List.length_filter_le _ _
  have n2 : (other.filter fun c => !decide (c ∈ one) && decide (c.1 ≤ t)).length ≤ other.length := List.length_filter_le _ _
  have hS : ∀ v4 v5, lSortSet (dOp fAdd (dVar 3) (dDat L_unlike_2)) [some d, some e, some (.int t), some (.lst ((one.filter fun c => !decide (c ∈ other) && decide (c.1 ≤ t)).map cmdD)), v4, v5] st = .ok ((unS one other t).map cmdD) st := fun v4 v5 => by
    refine sortSet_cmds ?_ hl
    have hz : szOk (((one.filter fun c => !decide (c ∈ other) && decide (c.1 ≤ t)).map cmdD).length + ((other.filter fun c => !decide (c ∈ one) && decide (c.1 ≤ t)).map cmdD).length) = true := szOk_of (by rw [List.length_map, List.length_map]; omega)
    simp only [dOp_ap, dVar_ap, List.getElem?_cons_succ, List.getElem?_cons_zero, getV_some, bind_ok, dDat_ap, c2, fAdd_lst, hz, if_true, noX_ok, unL, List.map_append]
  have hle := leave_ok0 (d := .lst ((unS one other t).map cmdD)) (st := st) (caps_map fun _ _ => rfl) nofun
  simp [d_unlike, pureF_ap, run_ap, B_unlike, c1, hS, hle, -lSortSet_ap]
theorem asked_two_ok {L t : Int} (h1 : 1 ≤ L) (h2 : L ≤ 1000000000) {one other : List Cmd} (V : Vcs L one) (W : Vcs L other) (ht : 0 ≤ t) {d e : D} {st : Sto} (hd : IsL st d (one.map cmdD)) (he : IsL st e (other.map cmdD)) : d_asked_two [.int L, d, e, .int t] st = .ok .non st := by
  have a1 := asked_length_ok h1 h2 st
  have a2 := asked_ok V hd
  have a3 := asked_ok W he
  have a4 := asked_tick_ok ht st
  simp [d_asked_two, pureF_ap, run_ap, B_asked_two, a1, a2, a3, a4]
def vcB (L : Int) (c : Cmd) : Bool := decide (0 ≤ c.1) && decide (0 ≤ c.2.1) && decide (c.2.1 < 4) && (decide (c.2.2.1 = kHold) || decide (c.2.2.1 = kGo) || decide (c.2.2.1 = kMove)) && decide (0 ≤ c.2.2.2) && if c.2.2.1 = kMove then decide (c.2.2.2 ≤ L) else decide (c.2.2.2 = 0)
def vcsB (L : Int) (cs : List Cmd) : Bool := cs.all (vcB L) && cs.all (fun c => cs.all fun d => !(decide (c.1 = d.1) && decide (c.2.1 = d.2.1)) || decide (c = d)) && decide (cs.length ≤ 300)
theorem vc_of {L : Int} {c : Cmd} (h : vcB L c = true) : Vc L c := by
  unfold vcB at h
  simp only [Bool.and_eq_true, Bool.or_eq_true, decide_eq_true_eq] at h
  obtain ⟨⟨⟨⟨⟨h1, h2⟩, h3⟩, h4⟩, h5⟩, h6⟩ := h
  refine ⟨h1, h2, h3, h4.elim (fun h => h.elim .inl fun e => .inr (.inl e)) fun e => .inr (.inr e), h5, ?_⟩
  by_cases e : c.2.2.1 = kMove
  · rw [if_pos e] at h6 ⊢
    exact of_decide_eq_true h6
  · rw [if_neg e] at h6 ⊢
    exact of_decide_eq_true h6
theorem vcs_of {L : Int} {cs : List Cmd} (h : vcsB L cs = true) : Vcs L cs := by
  unfold vcsB at h
  rw [Bool.and_eq_true, Bool.and_eq_true] at h
  refine ⟨fun c hc => vc_of (List.all_eq_true.mp h.1.1 c hc), fun c hc d hd e => ?_, of_decide_eq_true h.2⟩
  have := List.all_eq_true.mp (List.all_eq_true.mp h.1.2 c hc) d hd
  obtain ⟨e1, e2⟩ := keyC_inj e
  rw [decide_eq_true e1, decide_eq_true e2] at this
  simpa using this
theorem at_most_eq {L t : Int} (h1 : 1 ≤ L) (h2 : L ≤ 1000000000) {one other : List Cmd} (V : Vcs L one) (W : Vcs L other) (ht : 0 ≤ t) {d e : D} {st : Sto} (hd : IsL st d (one.map cmdD)) (he : IsL st e (other.map cmdD)) (hl : (unL one other t).length < 64) :
    d_at_most [.int L, d, e, .int t] st = .ok (.int (atT one other t)) st := by
  have l1 := V.l
  have l2 := W.l
  have a1 := asked_two_ok h1 h2 V W ht hd he
  have a2 := unlike_eq (t := t) hd he V.ok W.ok (by omega) (by omega) hl
  unfold atT
  cases hu : unS one other t with
  | nil =>
    rw [hu] at a2
    simp [d_at_most, pureF_ap, run_ap, B_at_most, X_at_most_1, a1, a2]
  | cons c r =>
    have hok : ∀ x ∈ c :: r, okC x := fun x hx => by
      rw [← hu] at hx
      rcases (un_mem.mp (uns_mem.mp hx)).1 with ⟨m, _⟩ | ⟨m, _⟩
      · exact V.ok x m
      · exact W.ok x m
    have hne := fNe_cmds (st := st) (IsL.lst (l := (c :: r).map cmdD)) (IsL.lst (l := ([] : List Cmd).map cmdD)) hok nofun
    rw [hu] at a2
    have e0 : atI (cmdD c :: r.map cmdD) 0 = some (cmdD c) := atI_nat (k := 0) rfl
    simp only [List.map_cons, List.map_nil, cmdD] at a2 hne e0
    simp [d_at_most, pureF_ap, run_ap, B_at_most, X_at_most_1, a1, a2, hne, e0, at_c0]
theorem at_s0 (q : Int × Bool) : atI [D.int q.1, D.bl q.2] 0 = some (.int q.1) := (rfl)
def apartB (L : Int) (one other : List Cmd) (t : Int) (c : Cmd) : Bool :=
  if (standL L one t).1 = (standL L other t).1 then false else (decide (c ∈ one) != decide (c ∈ other)) && decide (c.1 ≤ t)
theorem bne_dec (a b : Bool) : (!decide (a = b)) = (a != b) := by cases a <;> cases b <;> rfl
section
variable {L t : Int} {one other : List Cmd} {d e : D} {st : Sto}
theorem together_eq (hd : IsL st d (one.map cmdD)) (he : IsL st e (other.map cmdD)) (h1 : ∀ c ∈ one, okC c) (h2 : ∀ c ∈ other, okC c) (l1 : one.length ≤ 10000) (l2 : other.length ≤ 10000) (s : D) :
    d_Together_shows [s, .int L, d, e, .int t] st = .ok (.bl (decide ((standL L one t).1 = (standL L other t).1))) st := by
  have a1 := stand_of_eq (L := L) (t := t) hd h1 l1
  have a2 := stand_of_eq (L := L) (t := t) he h2 l2
  simp [d_Together_shows, pureF_ap, run_ap, B_Together_shows, a1, a2, at_p0]
theorem apart_eq (hd : IsL st d (one.map cmdD)) (he : IsL st e (other.map cmdD)) (h1 : ∀ c ∈ one, okC c) (h2 : ∀ c ∈ other, okC c) (l1 : one.length ≤ 10000) (l2 : other.length ≤ 10000) {c : Cmd} (hc : okC c) :
    d_Apart_shows [.ins 1 [cmdD c], .int L, d, e, .int t] st = .ok (.bl (apartB L one other t c)) st := by
  have a1 := stand_of_eq (L := L) (t := t) hd h1 l1
  have a2 := stand_of_eq (L := L) (t := t) he h2 l2
  have a3 := fIn_cmd hd hc h1
  have a4 := fIn_cmd he hc h2
  unfold apartB
  by_cases hs : (standL L one t).1 = (standL L other t).1
  · simp [d_Apart_shows, pureF_ap, run_ap, B_Apart_shows, a1, a2, at_p0, hs]
  · rw [if_neg hs]
    simp only [cmdD] at a3 a4 ⊢
    by_cases m1 : c ∈ one <;> by_cases m2 : c ∈ other <;> simp [d_Apart_shows, pureF_ap, run_ap, B_Apart_shows, a1, a2, at_p0, hs, a3, a4, at_c0, m1, m2]
theorem law_due_eq (hd : IsL st d (one.map cmdD)) (he : IsL st e (other.map cmdD)) (h1 : ∀ c ∈ one, okC c) (h2 : ∀ c ∈ other, okC c) {c : Cmd} (hc : okC c) :
    d_law_due [.int L, d, e, .int t, cmdD c] st = .ok (.bl (apartB L one other t c)) st := by
  have a1 := law_stand_eq (L := L) (t := t) hd h1
  have a2 := law_stand_eq (L := L) (t := t) he h2
  have a3 := fIn_cmd hd hc h1
  have a4 := fIn_cmd he hc h2
  unfold apartB
  by_cases hs : (standL L one t).1 = (standL L other t).1
  · simp [d_law_due, pureF_ap, run_ap, B_law_due, a1, a2, at_p0, hs]
  · rw [if_neg hs]
    simp only [cmdD] at a3 a4 ⊢
    by_cases m1 : c ∈ one <;> by_cases m2 : c ∈ other <;> simp [d_law_due, pureF_ap, run_ap, B_law_due, a1, a2, at_p0, hs, a3, a4, at_c0, m1, m2]
end
theorem apart_init (c : Cmd) (st : Sto) : d_Apart_init [.loc st.length, cmdD c] (st ++ [.inst 1 []]) = .ok .non (st ++ [.inst 1 [cmdD c]]) := by
  simp [d_Apart_init, run_ap, B_Apart_init]
theorem apart_new (c : Cmd) (st : Sto) : leave st (mkK st.length (d_Apart_init [.loc st.length, cmdD c] (st ++ [.inst 1 []]))) = .ok (.ins 1 [cmdD c]) st := by
  rw [apart_init, mkK_ok]
  exact leave_inst (Nat.le_refl _) get_at0 rfl
/-- what is told of two -/
def judgD (L : Int) (one other : List Cmd) (t : Int) : D := if (standL L one t).1 = (standL L other t).1 then .ins 0 [] else match unS one other t with | c :: _ => .ins 1 [cmdD c] | [] => .ins 0 []
theorem judg_cases {L : Int} (hL : 0 ≤ L) {one other : List Cmd} (h1 : ∀ c ∈ one, Vc L c) (h2 : ∀ c ∈ other, Vc L c) (t : Int) : ((standL L one t).1 = (standL L other t).1 ∧ judgD L one other t = .ins 0 []) ∨ (¬ (standL L one t).1 = (standL L other t).1 ∧ ∃ c r, unS one other t = c :: r ∧ judgD L one other t = .ins 1 [cmdD c] ∧ apartB L one other t c = true ∧ okC c ∧ Vc L c) := by
  unfold judgD apartB
  by_cases hs : (standL L one t).1 = (standL L other t).1
  · exact .inl ⟨hs, if_pos hs⟩
  · refine .inr ⟨hs, ?_⟩
    rw [if_neg hs]
    cases hu : unS one other t with
    | nil => exact absurd (by rw [stand_same hL h1 h2 fun c hc => un_same (uns_nil.mp hu) c hc]) hs
    | cons c r =>
      have hm := un_mem.mp (uns_mem.mp (by rw [hu]; exact List.mem_cons_self ..) : c ∈ unL one other t)
      have hv : Vc L c := by
        rcases hm.1 with ⟨a, _⟩ | ⟨a, _⟩
        · exact h1 c a
        · exact h2 c a
      refine ⟨c, r, rfl, rfl, ?_, vc_ok hv, hv⟩
      rw [if_neg hs, decide_eq_true hm.2]
      rcases hm.1 with ⟨a, b⟩ | ⟨a, b⟩ <;> simp [a, b]
theorem judged_eq {L t : Int} (h1 : 1 ≤ L) (h2 : L ≤ 1000000000) {one other : List Cmd} (V : Vcs L one) (W : Vcs L other) (ht : 0 ≤ t) {d e : D} {st : Sto} (hd : IsL st d (one.map cmdD)) (he : IsL st e (other.map cmdD)) (hl : (unL one other t).length < 64) :
    d_judged [.int L, d, e, .int t] st = .ok (judgD L one other t) st := by
  have l1 := V.l
  have l2 := W.l
  have a1 := asked_two_ok h1 h2 V W ht hd he
  have a2 := unlike_eq (t := t) hd he V.ok W.ok (by omega) (by omega) hl
  have a3 := stand_of_eq (L := L) (t := t) hd V.ok (by omega)
  have a4 := stand_of_eq (L := L) (t := t) he W.ok (by omega)
  have hle : leave st (.ok (.ins 0 []) st) = .ok (.ins 0 []) st := leave_ok0 rfl nofun
  rcases judg_cases (by omega) V.v W.v t with ⟨hs, e⟩ | ⟨hs, c, r, hu, e, _⟩
  · rw [e]
    simp [d_judged, pureF_ap, run_ap, B_judged, a1, a3, a4, at_p0, hs, hle]
  · rw [e]
    rw [hu] at a2
    have e0 : atI (cmdD c :: r.map cmdD) 0 = some (cmdD c) := atI_nat (k := 0) rfl
    have a5 := apart_new c st
    have hle2 : leave st (.ok (.ins 1 [cmdD c]) st) = .ok (.ins 1 [cmdD c]) st := leave_ok0 rfl nofun
    simp only [List.map_cons, cmdD] at a2 e0 a5 hle2
    simp [d_judged, pureF_ap, run_ap, B_judged, a1, a2, a3, a4, at_p0, hs, e0, a5, hle2]
end Wt.Lk10

namespace Wt.Lk10
open PySem PySem.Spec PyProof.Rows L2 Wt
theorem cmds_vc (ns : List Int) {by_ most L : Int} (mv : Bool) (hL : 0 ≤ L) : ∀ c ∈ cmdsL ns by_ most L mv, Vc L c := fun c hc => by
  obtain ⟨r, hr, rfl⟩ := List.mem_map.mp hc
  obtain ⟨i, _, rfl⟩ := tab_mem _ _ r hr
  have hw := wideC_pos (wholeL ns by_)
  have hk : kindC mv (numC ns by_ i) = kHold ∨ kindC mv (numC ns by_ i) = kGo ∨ kindC mv (numC ns by_ i) = kMove := by
    have hl : kindL (numC ns by_ i) = kHold ∨ kindL (numC ns by_ i) = kGo ∨ kindL (numC ns by_ i) = kMove := by
      unfold kindL
      split
      · exact .inr (.inl rfl)
      · split
        · exact .inl rfl
        · split
          · exact .inr (.inl rfl)
          · exact .inr (.inr rfl)
    unfold kindC
    by_cases e : kindL (numC ns by_ i) = kMove ∧ mv = false
    · rw [if_pos e]; exact .inl rfl
    · rw [if_neg e]; exact hl
  refine ⟨Int.emod_nonneg _ (by omega), Int.emod_nonneg _ (by decide), Int.emod_lt_of_pos _ (by decide), hk, ?_, ?_⟩
  · show 0 ≤ placeC L (kindC mv (numC ns by_ i)) (farC ns by_ i)
    unfold placeC
    split
    · exact Int.emod_nonneg _ (by omega)
    · exact Int.le_refl _
  · show if kindC mv (numC ns by_ i) = kMove then placeC L (kindC mv (numC ns by_ i)) (farC ns by_ i) ≤ L else placeC L (kindC mv (numC ns by_ i)) (farC ns by_ i) = 0
    unfold placeC
    by_cases e : kindC mv (numC ns by_ i) = kMove
    · rw [if_pos e, if_pos e]
      have := Int.emod_lt_of_pos (farC ns by_ i) (by omega : 0 < L + 1)
      omega
    · rw [if_neg e, if_neg e]
theorem nodup_inj {α β : Type} {f : α → β} : ∀ {l : List α}, (l.map f).Nodup → ∀ a ∈ l, ∀ b ∈ l, f a = f b → a = b
  | x :: r, h, a, ha, b, hb, e => by
    rw [List.map_cons] at h
    obtain ⟨h1, h2⟩ := List.pairwise_cons.mp h
    rcases List.mem_cons.mp ha with ea | ha
    · rcases List.mem_cons.mp hb with eb | hb
      · rw [ea, eb]
      · exact absurd (ea ▸ e) (h1 _ (List.mem_map.mpr ⟨b, hb, rfl⟩))
    · rcases List.mem_cons.mp hb with eb | hb
      · exact absurd (eb ▸ e).symm (h1 _ (List.mem_map.mpr ⟨a, ha, rfl⟩))
      · exact nodup_inj h2 a ha b hb e
theorem cmds_vcs (ns : List Int) {by_ most L : Int} (mv : Bool) (hL : 0 ≤ L) (hm : 0 ≤ most) (hm2 : most ≤ 300) : Vcs L (cmdsL ns by_ most L mv) := by
  refine ⟨cmds_vc ns mv hL, fun c hc d hd e => ?_, by have := cmds_len ns by_ L mv hm; omega⟩
  obtain ⟨p, hp, rfl⟩ := List.mem_map.mp hc
  obtain ⟨q, hq, rfl⟩ := List.mem_map.mp hd
  have hk : p.1 = q.1 := (rowK_inj _ _).mp e
  rw [nodup_inj (tab_keys (rowL ns by_ L mv) _) p hp q hq hk]
theorem stand_next {L : Int} {cs : List Cmd} {t : Int} (h : ∀ c ∈ cs, c.1 ≠ t + 1) : standL L cs (t + 1) = (if (standL L cs t).2 then minL L ((standL L cs t).1 + 1) else (standL L cs t).1, (standL L cs t).2) := by
  have e : ((isort leC cs).takeWhile fun c => decide (c.1 ≤ t + 1)) = (isort leC cs).takeWhile fun c => decide (c.1 ≤ t) := by
    rw [← stand_filter, ← stand_filter]
    congr 1
    refine List.filter_congr fun c hc => ?_
    have := h c hc
    rw [decide_eq_decide]
    omega
  unfold standL
  rw [e]
  generalize runC L _ = s
  unfold endC
  cases hg : s.2.1
  · simp
  · simp only [if_true]
    refine Prod.ext ?_ rfl
    show minL L (s.1 + (t + 1) - s.2.2) = minL L (minL L (s.1 + t - s.2.2) + 1)
    unfold minL
    split <;> split <;> (try split) <;> omega
def wideL (w : Int) : Int := at0 [4, 60, 1000000001, 2] (w % 4)
theorem wide_pos (w : Int) : 1 ≤ wideL w ∧ wideL w ≤ 1000000001 := by
  have h := at0_mem (l := [4, 60, 1000000001, 2]) (k := w % 4) (by omega) (by show _ < (4 : Int); omega)
  unfold wideL
  generalize at0 [4, 60, 1000000001, 2] (w % 4) = x at h
  simp only [List.mem_cons, List.not_mem_nil, or_false] at h
  omega
def placeL (ns : List Int) (by_ : Int) (at_ : Nat) : Int := absI (numL (at0 (cells ns) (((at_ : Int) + by_) % (cells ns).length)) (at_ + by_) (wholeL ns by_)) / 3 % wideL (wholeL ns by_)
def placesL (ns : List Int) (by_ most : Int) : List Int := (List.range (1 + wholeL ns by_ / 4 % most).toNat).map (placeL ns by_)
theorem places_len (ns : List Int) (by_ : Int) {most : Int} (hm : 0 < most) : 1 ≤ (placesL ns by_ most).length ∧ (placesL ns by_ most).length ≤ most.toNat := by
  have := Int.emod_nonneg (wholeL ns by_ / 4) (by omega : most ≠ 0)
  have := Int.emod_lt_of_pos (wholeL ns by_ / 4) hm
  rw [placesL, List.length_map, List.length_range]
  omega
theorem places_in (ns : List Int) (by_ most : Int) : ∀ x ∈ placesL ns by_ most, 0 ≤ x ∧ x ≤ 1000000000 := fun x hx => by
  obtain ⟨i, _, rfl⟩ := List.mem_map.mp hx
  have h := wide_pos (wholeL ns by_)
  unfold placeL
  generalize absI _ / 3 = y
  have := Int.emod_nonneg y (by omega : wideL (wholeL ns by_) ≠ 0)
  have := Int.emod_lt_of_pos y (by omega : 0 < wideL (wholeL ns by_))
  omega
theorem law_places_eq {ns : List Int} (hns : ∀ z ∈ ns, Bd 1048576 z) {by_ most : Int} (hb : 0 ≤ by_) (hb2 : by_ ≤ 100) (hm : 0 < most) (hm2 : most ≤ 1000) (st : Sto) :
    d_law_places [.scr (ns.map .int), .int by_, .int most] st = .ok (.loc st.length) (st ++ [.list ((placesL ns by_ most).map .int)]) := by
  have hc := cells_bd (by omega) hns
  have hcl := cells_ne ns
  have h7 : MulOk 7 by_ = true := Bd.mulOk (a := 3) (b := 7) (by unfold Bd; decide) (by unfold Bd; omega) (by decide)
  have hw0 := wide_pos (wholeL ns by_)
  have hcnt := Int.emod_nonneg (wholeL ns by_ / 4) (by omega : most ≠ 0)
  have hcnt2 := Int.emod_lt_of_pos (wholeL ns by_ / 4) hm
  have hix : atI [D.int 4, D.int 60, D.int 1000000001, D.int 2] (wholeL ns by_ % 4) = some (.int (wideL (wholeL ns by_))) := atI_at0 (l := [4, 60, 1000000001, 2]) (by omega) (by show _ < (4 : Int); omega)
  have hcells : (∀ s, X_law_places_1 [some (.scr (ns.map .int)), some (.int by_), some (.int most), none, none, none, none, none] s = .ok (.lst ((cells ns).map .int)) s) := fun s => by
    unfold cells X_law_places_1
    by_cases h : ns = []
    · subst h; simp
    · have := cutD_take (ns.map D.int) 63
      simp [h] at this ⊢
      exact this
  obtain ⟨v', hloop⟩ := for_app (n := 0) (st := st) (sr := []) (keep := fun _ => true) (g := gVar 7) (f := fun at_ : Nat => D.int (placeL ns by_ at_))
    (B := F_law_places_1) (enc := fun k : Nat => D.int (k : Int))
    (fun v => [some (.scr (ns.map .int)), some (.int by_), some (.int most), some (.lst ((cells ns).map .int)), some (.int (wholeL ns by_)), some (.loc st.length), some (.int (wideL (wholeL ns by_))), v])
    (List.range (1 + wholeL ns by_ / 4 % most).toNat) (fun x hx v acc ha => by
      have hx := List.mem_range.mp hx
      rw [List.length_range] at ha
      have h0 := Int.emod_nonneg ((x : Int) + by_) (by omega : ((cells ns).length : Int) ≠ 0)
      have h1 := Int.emod_lt_of_pos ((x : Int) + by_) (by omega : (0 : Int) < (cells ns).length)
      have hn := law_number_eq (c := at0 (cells ns) (((x : Int) + by_) % (cells ns).length)) (a := x + by_) (w := wholeL ns by_) (n := 1048576) (by omega) (by omega) (hc _ (at0_mem h0 h1)) (by omega) (by omega)
      have hsz : acc.length ≤ 16777215 := by omega
      have hat := atI_at0 h0 h1
      exact ⟨_, some (.int x), rfl, by simp [F_law_places_1, hat, hn, hcl, hsz, placeL, show 0 < wideL (wholeL ns by_) by omega]⟩) (fun _ => rfl) none [] (Nat.le_refl _)
  have hr := rng0_map (1 + wholeL ns by_ / 4 % most).toNat
  have hb1 : (-4611686018427387904 : Int) ≤ 1 + wholeL ns by_ / 4 % most ∧ 1 + wholeL ns by_ / 4 % most < 4611686018427387904 := by omega
  have hwh : absI (cells ns).sum + 7 * by_ = wholeL ns by_ := rfl
  have hpl : (placesL ns by_ most).map D.int = (List.range (1 + wholeL ns by_ / 4 % most).toNat).map fun at_ : Nat => D.int (placeL ns by_ at_) := List.map_map
  rw [hpl]
  simp only [List.nil_append] at hloop
  simp [d_law_places, run_ap, B_law_places, hcells, hwh, h7, hm, hix, hb1, hr, hloop]
/-- one to forty places from nought to a milliard -/
structure Pls (pl : List Int) : Prop where
  l1 : 1 ≤ pl.length
  l2 : pl.length ≤ 40
  b : ∀ x ∈ pl, 0 ≤ x ∧ x ≤ 1000000000
theorem asked_pl_ok {pl : List Int} (h : Pls pl) {d : D} {st : Sto} (hd : IsL st d (pl.map .int)) : d_asked_places [d] st = .ok .non st := by
  have h1 : L_asked_places_1 [some d, none] st = .ok ((pl.map fun _ => true).map .bl) st := by
    have := lc_bls (keep := keepL d (pl.map .int)) (vs := [1]) (g := gVar 1) (A := (dAnd (dFn 1 d_is_whole (aCons (dVar 1) aNil)) (dChain fLe fLe (dC (.int 0)) (dVar 1) (dC (.int 1000000000))))) (env := [some d, none]) (st := st) (enc := D.int) (fun _ => true) pl
      (fun x hx => ⟨_, rfl, by simp [wipeE, is_whole_int, (h.b x hx).1, (h.b x hx).2]⟩) (by have := h.l2; omega) hd.kp
    simp [L_asked_places_1, hd.g, this]
  have := h.l1
  have := h.l2
  have e1 : (1 : Int) ≤ (pl.length : Int) := by omega
  have e2 : (pl.length : Int) ≤ 40 := by omega
  simp [d_asked_places, pureF_ap, run_ap, B_asked_places, hd.ty, hd.gs, h1, Ty.sub, e1, e2, blsOf_map, -List.map_map]
theorem least_ok {pl : List Int} (h : Pls pl) {d : D} {st : Sto} (hd : IsL st d (pl.map .int)) : d_least_jumps [d] st = .ok (.int (dist pl (midL pl))) st := by
  have hl : (isort leI pl).length = pl.length := isort_length pl
  have := h.l1
  have := h.l2
  have hat : atI ((isort leI pl).map D.int) ((pl.length : Int) / 2) = some (.int (midL pl)) := by
    have := atI_int (l := isort leI pl) (k := (pl.length : Int) / 2) (by omega) (by rw [hl]; omega)
    rw [this]
    rfl
  have h1 : ∀ st, L_least_jumps_1 [some d, some (.lst ((isort leI pl).map .int)), none] st = .ok (((isort leI pl).map fun x => absI (x - midL pl)).map .int) st := fun st => by
    have := lc_ints (keep := fun _ => true) (vs := [2]) (g := gVar 2) (A := (dCall fAbs (aCons (dOp fSub (dVar 2) (dOp fIx (dVar 1) (dOp fDiv (dCall fLen (aCons (dVar 1) aNil)) (dC (.int 2))))) aNil))) (env := [some d, some (.lst ((isort leI pl).map .int)), none]) (st := st) (enc := D.int) (fun x => absI (x - midL pl)) (isort leI pl)
      (fun x hx => ⟨_, rfl, by simp [wipeE, hl, hat]⟩) (by omega) rfl
    simp [L_least_jumps_1, this]
  have hs : isort leD (pl.map .int) = (isort leI pl).map .int := isort_ints pl
  have hd2 : ((isort leI pl).map fun x => absI (x - midL pl)).sum = dist pl (midL pl) := least_eq pl
  simp [d_least_jumps, pureF_ap, run_ap, B_least_jumps, asked_pl_ok h hd, hd.g, srtK_some (sortOk_ints _), hs, h1, intsOf_map, -List.map_map, hd2]
theorem sortOk_pairs (l : List (Int × Int)) : sortOk (l.map pairD) = true := sortOk_map (fun _ _ => rfl) (fun _ => by simp [D.py, D.pys, PyData.depth, PyData.depthAll]) nofun
theorem meet_1 {pl : List Int} (h : Pls pl) {d : D} {st : Sto} (hd : IsL st d (pl.map .int)) : L_meet_1 [some d, none, none, none, none, none] st = .ok ((atsL pl).map pairD) st := by
  have := h.l2
  have := lc_map (keep := keepL d (pl.map .int)) (vs := [4, 5]) (g := gTupV [4, 5]) (A := (dTup (aCons (dVar 5) (aCons (dVar 4) aNil)))) (env := [some d, none, none, none, none, none]) (st := st) (enc := fun q : Int × Int => D.tup [.int q.2, .int q.1]) pairD (atsL pl)
      (fun x hx => ⟨_, rfl, by simp [wipeE]⟩) (by rw [atsL, List.length_map, List.length_range]; omega) hd.kp
  simp [L_meet_1, hd.g, zipIx_ints, this]
theorem line_get (pl : List Int) : ∀ i : Nat, i < pl.length → atI ((lineL pl).map pairD) (i : Int) = some (pairD ((lineL pl).getD i (0, 0))) := fun i hi => atI_nat (by
  have hl := line_len pl
  rw [List.getElem?_map, List.getElem?_eq_getElem (by omega), List.getD_eq_getElem?_getD, List.getElem?_eq_getElem (by omega)]; rfl)
theorem meet_2 {pl : List Int} (h : Pls pl) {d : D} {st : Sto} : L_meet_2 [some d, some (.lst ((lineL pl).map pairD)), some (.int pl.length), none, none, none] st = .ok ((prsL pl).map pairD) st := by
  have := h.l1
  have := h.l2
  have hb : (-4611686018427387904 : Int) ≤ (pl.length : Int) / 2 ∧ (pl.length : Int) / 2 < 4611686018427387904 := by omega
  have hr : rngD 0 ((pl.length : Int) / 2).toNat = (List.range (pl.length / 2)).map fun k : Nat => D.int (k : Int) := by
    rw [show ((pl.length : Int) / 2).toNat = pl.length / 2 by omega]
    exact rng0_map _
  have := lc_map (keep := fun _ => true) (vs := [4]) (g := gVar 4) (A := (dTup (aCons (dOp fIx (dOp fIx (dVar 1) (dVar 4)) (dC (.int 1))) (aCons (dOp fIx (dOp fIx (dVar 1) (dOp fSub (dOp fSub (dVar 2) (dC (.int 1))) (dVar 4))) (dC (.int 1))) aNil)))) (env := [some d, some (.lst ((lineL pl).map pairD)), some (.int pl.length), none, none, none]) (st := st)
      (enc := fun k : Nat => D.int (k : Int)) (fun i => pairD (((lineL pl).getD i (0, 0)).2, ((lineL pl).getD (pl.length - 1 - i) (0, 0)).2)) (List.range (pl.length / 2))
      (fun x hx => ⟨_, rfl, by
        have := List.mem_range.mp hx
        have e1 := line_get pl x (by omega)
        have e2 := line_get pl (pl.length - 1 - x) (by omega)
        rw [show ((pl.length - 1 - x : Nat) : Int) = (pl.length : Int) - 1 - x by omega] at e2
        have e3 : ∀ a b : Int, atI [D.int a, D.int b] 1 = some (.int b) := fun a b => rfl
        simp [wipeE, e1, e2, e3, -List.getD_eq_getElem?_getD]⟩) (by rw [List.length_range]; omega) rfl
  simp only [L_meet_2, lLc_ap, iRng1D_ap, aCons_ap, dOp_ap, dVar_ap, dC_ap, aNil_ap]
  simp [hb, hr, this, prsL, -List.getD_eq_getElem?_getD]
theorem mid_line {pl : List Int} (h : Pls pl) : ((lineL pl).getD (pl.length / 2) (0, 0)).1 = midL pl := by
  have hl := line_len pl
  have := h.l1
  rw [midL, ← line_fst, List.getD_eq_getElem?_getD, List.getD_eq_getElem?_getD, List.getElem?_map, List.getElem?_eq_getElem (by omega)]; rfl
theorem meet_init (st : Sto) (m : Int) (prs : List D) : d_Meet_init [.loc (List.length st), .int m, .lst prs] (st ++ [.inst 2 []]) = .ok .non (st ++ [.inst 2 [.int m, .loc (st.length + 1)], .list prs]) := by
  simp [d_Meet_init, run_ap, B_Meet_init]
theorem meet_ok {pl : List Int} (h : Pls pl) {d : D} {st : Sto} (hd : IsL st d (pl.map .int)) : d_meet [d] st = .ok (.loc st.length) (st ++ [.inst 2 [.int (midL pl), .loc (st.length + 1)], .list ((prsL pl).map pairD)]) := by
  have hl := line_len pl
  have := h.l1
  have := h.l2
  have hs : isort leD ((atsL pl).map pairD) = (lineL pl).map pairD := isortMap leD_pair _
  have hat3 := line_get pl (pl.length / 2) (by omega)
  rw [show ((pl.length / 2 : Nat) : Int) = (pl.length : Int) / 2 by omega] at hat3
  have e0 : ∀ a b : Int, atI [D.int a, D.int b] 0 = some (.int a) := fun a b => rfl
  simp [d_meet, run_ap, B_meet, asked_pl_ok h hd, meet_1 h hd, srtK_some (sortOk_pairs _), hs, hl, meet_2 h, hat3, e0, mid_line h, meet_init, -List.getD_eq_getElem?_getD]
theorem at_pair0 (q : Int × Int) : atI [D.int q.1, D.int q.2] 0 = some (.int q.1) := (rfl)
theorem at_pair1 (q : Int × Int) : atI [D.int q.1, D.int q.2] 1 = some (.int q.2) := (rfl)
theorem met_cons (q : Int × Int) (r : List (Int × Int)) : metL (q :: r) = q.1 :: q.2 :: metL r := (rfl)
theorem met_len (prs : List (Int × Int)) : (metL prs).length = 2 * prs.length := by
  induction prs with
  | nil => rfl
  | cons q r ih => rw [met_cons, List.length_cons, List.length_cons, List.length_cons, ih]; omega
def inR (n : Nat) (x : Int) : Bool := decide (0 ≤ x) && decide (x < (n : Int))
theorem met_mem {prs : List (Int × Int)} {q : Int × Int} (h : q ∈ prs) : q.1 ∈ metL prs ∧ q.2 ∈ metL prs :=
  ⟨List.mem_flatMap.mpr ⟨q, h, by simp⟩, List.mem_flatMap.mpr ⟨q, h, by simp⟩⟩
theorem meets_loop {keep : Sto → Bool} {d e m : D} {st : Sto} (hk : keep st = true) : ∀ (r : List (Int × Int)) (acc : List Int) (v : Option D), acc.length + 2 * r.length ≤ 1000 →
    ∃ v', forIt keep (gVar 4) F_law_meets_1 (r.map pairD) [some d, some m, some e, some (.lst (acc.map .int)), v, none, none, none] st = .nx [some d, some m, some e, some (.lst ((acc ++ metL r).map .int)), v', none, none, none] st
  | [], acc, v, _ => ⟨v, by simp [forIt_nil hk, metL]⟩
  | q :: r, acc, v, h => by
    rw [List.length_cons] at h
    obtain ⟨v', ih⟩ := meets_loop hk r (acc ++ [q.1, q.2]) (some (pairD q)) (by rw [List.length_append]; show _ + 2 + _ ≤ _; omega)
    refine ⟨v', ?_⟩
    have h1 : acc.length ≤ 16777214 := by omega
    rw [List.append_assoc] at ih
    simp only [List.map_append, List.map_cons, List.map_nil] at ih
    rw [met_cons, List.map_cons, forIt_cons hk]
    simp [F_law_meets_1, at_pair0, at_pair1, h1]
    exact ih
/-- what the law asks of pairs -/
theorem meets_ok {pl : List Int} {prs : List (Int × Int)} {m : Int} (hl : pl.length ≤ 100) (hp : prs.length ≤ 100) {d e : D} {st : Sto} (hd : IsL st d (pl.map .int)) (he : IsL st e (prs.map pairD)) :
    d_law_meets [d, .int m, e] st = .ok (.bl (meetsF pl m prs)) st := by
  have hml := met_len prs
  obtain ⟨v', hlo⟩ := meets_loop (d := d) (e := e) (m := .int m) (st := st) (keep := keepL e (prs.map pairD)) he.kp prs [] none (by simp; omega)
  simp only [List.nil_append, List.map_nil] at hlo
  have h1 : ∀ v v6 v7, L_law_meets_1 [some d, some (.int m), some e, some (.lst ((metL prs).map .int)), v, none, v6, v7] st = .ok (((metL prs).map fun x => !inR pl.length x).map .bl) st := fun v v6 v7 => by
    have := lc_bls (keep := fun _ => true) (vs := [6]) (g := gVar 6) (A := (dNot (dChain fLe fLt (dC (.int 0)) (dVar 6) (dCall fLen (aCons (dVar 0) aNil))))) (env := [some d, some (.int m), some e, some (.lst ((metL prs).map .int)), v, none, v6, v7]) (st := st) (enc := D.int) (fun x => !inR pl.length x) (metL prs)
      (fun x hx => ⟨_, rfl, by
        by_cases h0 : 0 ≤ x
        · simp [wipeE, hd.gs, h0, inR]
        · simp [wipeE, hd.gs, h0, inR]⟩) (by omega) rfl
    simp [L_law_meets_1, this, -List.map_map]
  have h2 : ∀ v v6 v7, L_law_meets_2 [some d, some (.int m), some e, some (.lst ((metL prs).map .int)), v, none, v6, v7] st = .ok ((pl.map fun x => absI (x - m)).map .int) st := fun v v6 v7 => by
    have := lc_ints (keep := keepL d (pl.map .int)) (vs := [6]) (g := gVar 6) (A := (dCall fAbs (aCons (dOp fSub (dVar 6) (dVar 1)) aNil))) (env := [some d, some (.int m), some e, some (.lst ((metL prs).map .int)), v, none, v6, v7]) (st := st) (enc := D.int) (fun x => absI (x - m)) pl
      (fun x hx => ⟨_, rfl, by simp [wipeE]⟩) (by omega) hd.kp
    simp [L_law_meets_2, hd.g, this, -List.map_map]
  have h3 : ∀ v v5 v6 v7, (∀ q ∈ prs, (0 ≤ q.1 ∧ q.1 < pl.length) ∧ 0 ≤ q.2 ∧ q.2 < pl.length) → L_law_meets_3 [some d, some (.int m), some e, some (.lst ((metL prs).map .int)), v, v5, v6, v7] st = .ok ((prs.map fun q => absI (pl.getD q.1.toNat 0 - pl.getD q.2.toNat 0)).map .int) st := fun v v5 v6 v7 hin => by
    have := lc_ints (keep := keepL e (prs.map pairD)) (vs := [6, 7]) (g := gTupV [6, 7]) (A := (dCall fAbs (aCons (dOp fSub (dOp fIx (dVar 0) (dVar 6)) (dOp fIx (dVar 0) (dVar 7))) aNil))) (env := [some d, some (.int m), some e, some (.lst ((metL prs).map .int)), v, v5, v6, v7]) (st := st) (enc := pairD) (fun q => absI (pl.getD q.1.toNat 0 - pl.getD q.2.toNat 0)) prs
      (fun q hq => ⟨_, rfl, by
        have a1 := atI_int (hin q hq).1.1 (hin q hq).1.2
        have a2 := atI_int (hin q hq).2.1 (hin q hq).2.2
        simp [wipeE, hd.gs, a1, a2, -List.getD_eq_getElem?_getD]⟩) (by omega) he.kp
    simp [L_law_meets_3, he.g, this, -List.map_map, -List.getD_eq_getElem?_getD]
  have hn : (metL prs).length ≤ 4000 := by omega
  by_cases hnd : (metL prs).Nodup
  · have hnd' := nDist_nodup.mpr hnd
    cases ha : (metL prs).all (inR pl.length) with
    | true =>
      have hin : ∀ q ∈ prs, (0 ≤ q.1 ∧ q.1 < pl.length) ∧ 0 ≤ q.2 ∧ q.2 < pl.length := fun q hq => by
        have ha := List.all_eq_true.mp ha
        have a1 := ha _ (met_mem hq).1
        have a2 := ha _ (met_mem hq).2
        simp only [inR, Bool.and_eq_true, decide_eq_true_eq] at a1 a2
        exact ⟨a1, a2⟩
      have hres : meetsF pl m prs = decide (dist pl m = pairsApart pl prs) := by
        unfold meetsF
        rw [decide_eq_true hnd, show (metL prs).all (fun x => decide (0 ≤ x) && decide (x < pl.length)) = true from ha]
        rfl
      rw [hres]
      simp [d_law_meets, pureF_ap, run_ap, B_law_meets, he.g, hlo, hn, hnd', h1, h2, h3 _ _ _ _ hin, blsOf_map, intsOf_map, anyB_not, ha, -List.map_map, -List.getD_eq_getElem?_getD, dist, pairsApart]
      rfl
    | false =>
      have hres : meetsF pl m prs = false := by
        unfold meetsF
        rw [show (metL prs).all (fun x => decide (0 ≤ x) && decide (x < pl.length)) = false from ha]
        simp
      rw [hres]
      simp [d_law_meets, pureF_ap, run_ap, B_law_meets, he.g, hlo, hn, hnd', h1, blsOf_map, anyB_not, ha, -List.map_map]
  · have hnd' : ¬ nDist (metL prs) = (metL prs).length := fun e => hnd (nDist_nodup.mp e)
    have hnd2 : ¬ ((metL prs).length : Int) = (nDist (metL prs) : Int) := fun e => hnd' (by omega)
    have hres : meetsF pl m prs = false := by
      unfold meetsF
      rw [decide_eq_false hnd]
      rfl
    rw [hres]
    simp [d_law_meets, pureF_ap, run_ap, B_law_meets, he.g, hlo, hn, hnd2]
theorem shows_loop {keep : Sto → Bool} {d e : D} {st : Sto} (hk : ∀ acc, keep (st ++ [.list acc]) = true) : ∀ (r : List (Int × Int)) (acc : List Int) (v w : Option D), acc.length + 2 * r.length ≤ 1000 →
    ∃ v' w', forIt keep (gTupV [3, 4]) F_Meet_shows_1 (r.map pairD) [some d, some e, some (.loc st.length), v, w, none] (st ++ [.list (acc.map .int)]) = .nx [some d, some e, some (.loc st.length), v', w', none] (st ++ [.list ((acc ++ metL r).map .int)])
  | [], acc, v, w, _ => ⟨v, w, by simp [forIt_nil (hk _), metL]⟩
  | q :: r, acc, v, w, h => by
    rw [List.length_cons] at h
    obtain ⟨v', w', ih⟩ := shows_loop hk r (acc ++ [q.1, q.2]) (some (.int q.1)) (some (.int q.2)) (by rw [List.length_append]; show _ + 2 + _ ≤ _; omega)
    refine ⟨v', w', ?_⟩
    have h1 : acc.length ≤ 16777214 := by omega
    rw [List.append_assoc] at ih
    simp only [List.map_append, List.map_cons, List.map_nil] at ih
    rw [met_cons, List.map_cons, forIt_cons (hk _)]
    simp [F_Meet_shows_1, h1]
    exact ih
/-- what Meet shows -/
theorem shows_ok {pl : List Int} {prs : List (Int × Int)} {m : Int} (hl : pl.length ≤ 100) (hp : prs.length ≤ 100) {d s e : D} {st : Sto} (hd : IsL st d (pl.map .int)) (hs : insD st s = some (2, [.int m, e])) (he : IsL st e (prs.map pairD)) :
    d_Meet_shows [s, d] st = .ok (.bl (meetsF pl m prs)) st := by
  have hml := met_len prs
  have hs1 : ∀ r, insD (st ++ r) s = some (2, [.int m, e]) := fun r => insD_app hs
  have he1 : ∀ r, IsL (st ++ r) e (prs.map pairD) := fun r => he.app
  have hd1 : ∀ r, IsL (st ++ r) d (pl.map .int) := fun r => hd.app
  obtain ⟨v', w', hlo⟩ := shows_loop (d := s) (e := d) (st := st) (keep := keepL e (prs.map pairD)) (fun acc => (he1 _).kp) prs [] none none (by simp; omega)
  simp only [List.nil_append, List.map_nil] at hlo
  have h1 : ∀ v w, L_Meet_shows_1 [some s, some d, some (.loc st.length), v, w, none] (st ++ [.list ((metL prs).map .int)]) = .ok (((metL prs).map fun x => inR pl.length x).map .bl) (st ++ [.list ((metL prs).map .int)]) := fun v w => by
    have hL : IsL (st ++ [.list ((metL prs).map D.int)]) (.loc st.length) ((metL prs).map D.int) := IsL.loc (by simp)
    have := lc_bls (keep := keepL (.loc st.length) ((metL prs).map .int)) (vs := [3]) (g := gVar 3) (A := (dChain fLe fLt (dC (.int 0)) (dVar 3) (dCall fLen (aCons (dVar 1) aNil)))) (env := [some s, some d, some (.loc st.length), v, w, none]) (st := st ++ [.list ((metL prs).map .int)]) (enc := D.int) (fun x => inR pl.length x) (metL prs)
      (fun x hx => ⟨_, rfl, by
        by_cases h0 : 0 ≤ x
        · simp [wipeE, (hd1 _).gs, h0, inR]
        · simp [wipeE, (hd1 _).gs, h0, inR]⟩) (by omega) hL.kp
    simp [L_Meet_shows_1, this, -List.map_map]
  have h2 : ∀ v w v5, L_Meet_shows_3 [some s, some d, some (.loc st.length), v, w, v5] (st ++ [.list ((metL prs).map .int)]) = .ok ((pl.map fun x => absI (x - m)).map .int) (st ++ [.list ((metL prs).map .int)]) := fun v w v5 => by
    have := lc_ints (keep := keepL d (pl.map .int)) (vs := [3]) (g := gVar 3) (A := (dCall fAbs (aCons (dOp fSub (dVar 3) (dFld "place" (dVar 0))) aNil))) (env := [some s, some d, some (.loc st.length), v, w, v5]) (st := st ++ [.list ((metL prs).map .int)]) (enc := D.int) (fun x => absI (x - m)) pl
      (fun x hx => ⟨_, rfl, by simp [wipeE, hs1]⟩) (by omega) (hd1 _).kp
    simp [L_Meet_shows_3, (hd1 _).g, this, -List.map_map]
  have h3 : ∀ v w, (∀ q ∈ prs, (0 ≤ q.1 ∧ q.1 < pl.length) ∧ 0 ≤ q.2 ∧ q.2 < pl.length) → L_Meet_shows_2 [some s, some d, some (.loc st.length), v, w, none] (st ++ [.list ((metL prs).map .int)]) = .ok ((prs.map fun q => absI (pl.getD q.1.toNat 0 - pl.getD q.2.toNat 0)).map .int) (st ++ [.list ((metL prs).map .int)]) := fun v w hin => by
    have := lc_ints (keep := keepL e (prs.map pairD)) (vs := [3, 4]) (g := gTupV [3, 4]) (A := (dCall fAbs (aCons (dOp fSub (dOp fIx (dVar 1) (dVar 3)) (dOp fIx (dVar 1) (dVar 4))) aNil))) (env := [some s, some d, some (.loc st.length), v, w, none]) (st := st ++ [.list ((metL prs).map .int)]) (enc := pairD) (fun q => absI (pl.getD q.1.toNat 0 - pl.getD q.2.toNat 0)) prs
      (fun q hq => ⟨_, rfl, by
        have a1 := atI_int (hin q hq).1.1 (hin q hq).1.2
        have a2 := atI_int (hin q hq).2.1 (hin q hq).2.2
        simp [wipeE, (hd1 _).gs, a1, a2, -List.getD_eq_getElem?_getD]⟩) (by omega) (he1 _).kp
    simp [L_Meet_shows_2, hs1, (he1 _).g, this, -List.map_map, -List.getD_eq_getElem?_getD]
  have hn : (metL prs).length ≤ 4000 := by omega
  by_cases hnd : (metL prs).Nodup
  · have hnd' := nDist_nodup.mpr hnd
    cases ha : (metL prs).all (inR pl.length) with
    | true =>
      have hin : ∀ q ∈ prs, (0 ≤ q.1 ∧ q.1 < pl.length) ∧ 0 ≤ q.2 ∧ q.2 < pl.length := fun q hq => by
        have ha := List.all_eq_true.mp ha
        have a1 := ha _ (met_mem hq).1
        have a2 := ha _ (met_mem hq).2
        simp only [inR, Bool.and_eq_true, decide_eq_true_eq] at a1 a2
        exact ⟨a1, a2⟩
      have hres : meetsF pl m prs = decide (dist pl m = pairsApart pl prs) := by
        unfold meetsF
        rw [decide_eq_true hnd, show (metL prs).all (fun x => decide (0 ≤ x) && decide (x < pl.length)) = true from ha]
        rfl
      rw [hres]
      simp [d_Meet_shows, pureF_ap, run_ap, B_Meet_shows, hs1, (he1 _).g, hlo, hn, hnd', h1, h2, h3 _ _ hin, blsOf_map, intsOf_map, allB_map, ha, -List.map_map, -List.getD_eq_getElem?_getD, dist, pairsApart]
      rfl
    | false =>
      have hres : meetsF pl m prs = false := by
        unfold meetsF
        rw [show (metL prs).all (fun x => decide (0 ≤ x) && decide (x < pl.length)) = false from ha]
        simp
      rw [hres]
      simp [d_Meet_shows, pureF_ap, run_ap, B_Meet_shows, hs1, (he1 _).g, hlo, hn, hnd', h1, blsOf_map, allB_map, ha, -List.map_map]
  · have hnd2 : ¬ (nDist (metL prs) : Int) = ((metL prs).length : Int) := fun e => hnd (nDist_nodup.mp (by omega))
    have hres : meetsF pl m prs = false := by
      unfold meetsF
      rw [decide_eq_false hnd]
      rfl
    rw [hres]
    simp [d_Meet_shows, pureF_ap, run_ap, B_Meet_shows, hs1, (he1 _).g, hlo, hn, hnd2]
end Wt.Lk10

namespace Wt.Lk10
open PySem PySem.Spec PyProof.Rows L2 Wt
theorem fMin1_ints (n : Int) (r : List Int) (st : Sto) : fMin1 [.lst ((n :: r).map D.int)] st = .ok (.int (gMin n r)) st := by
  have h : (getL st (.lst ((n :: r).map D.int))).bind intsOf = some (n :: r) := intsOf_map (n :: r)
  simp only [fMin1, h]
theorem law_first_eq {t : Int} {one other : List Cmd} {d e : D} {st : Sto} (hd : IsL st d (one.map cmdD)) (he : IsL st e (other.map cmdD)) (h1 : ∀ c ∈ one, okC c) (h2 : ∀ c ∈ other, okC c) (l1 : one.length ≤ 10000) (l2 : other.length ≤ 10000) :
    d_law_first [d, e, .int t] st = .ok (.int (firT one other t)) st := by
  have c1 : ∀ v3 v4 v5, L_law_first_1 [some d, some e, some (.int t), v3, v4, v5] st = .ok (((one.filter fun c => !decide (c ∈ other) && decide (c.1 ≤ t)).map fun c => c.1).map .int) st := fun v3 v4 v5 => by
    have := lc_filter (keep := keepL d (one.map cmdD)) (vs := [4]) (g := gVar 4) (P := (bAnd (dTest (dOp fNotIn (dVar 4) (dVar 1))) (dTest (dOp fLe (dOp fIx (dVar 4) (dC (.int 0))) (dVar 2))))) (A := dOp fIx (dVar 4) (dC (.int 0))) (env := [some d, some e, some (.int t), v3, v4, v5]) (st := st) (enc := cmdD) (fun c => !decide (c ∈ other) && decide (c.1 ≤ t)) (fun c => D.int c.1) one
      (fun c hc => ⟨_, rfl, by
        have := fNotIn_cmd he (h1 c hc) h2
        by_cases m : c ∈ other <;> simp only [m, decide_true, decide_false] at this <;> simp [wipeE, at_c0, this, m], fun _ => by simp [wipeE, at_c0]⟩) (by omega) hd.kp
    rw [List.map_map]
    simp [L_law_first_1, hd.g, this]
  have c2 : ∀ v3 v4 v5, L_law_first_2 [some d, some e, some (.int t), v3, v4, v5] st = .ok (((other.filter fun c => !decide (c ∈ one) && decide (c.1 ≤ t)).map fun c => c.1).map .int) st := fun v3 v4 v5 => by
    have := lc_filter (keep := keepL e (other.map cmdD)) (vs := [5]) (g := gVar 5) (P := (bAnd (dTest (dOp fNotIn (dVar 5) (dVar 0))) (dTest (dOp fLe (dOp fIx (dVar 5) (dC (.int 0))) (dVar 2))))) (A := dOp fIx (dVar 5) (dC (.int 0))) (env := [some d, some e, some (.int t), v3, v4, v5]) (st := st) (enc := cmdD) (fun c => !decide (c ∈ one) && decide (c.1 ≤ t)) (fun c => D.int c.1) other
      (fun c hc => ⟨_, rfl, by
        have := fNotIn_cmd hd (h2 c hc) h1
        by_cases m : c ∈ one <;> simp only [m, decide_true, decide_false] at this <;> simp [wipeE, at_c0, this, m], fun _ => by simp [wipeE, at_c0]⟩) (by omega) he.kp
    rw [List.map_map]
    simp [L_law_first_2, he.g, this]
  have n1 : (one.filter fun c => !decide (c ∈ other) && decide (c.1 ≤ t)).length ≤ one.length := List.length_filter_le _ _
  have n2 : (other.filter fun c => !decide (c ∈ one) && decide (c.1 ≤ t)).length ≤ other.length := List.length_filter_le _ _
  have hcat : ∀ st, fAdd (.lst (((one.filter fun c => !decide (c ∈ other) && decide (c.1 ≤ t)).map fun c => c.1).map .int)) (.lst (((other.filter fun c => !decide (c ∈ one) && decide (c.1 ≤ t)).map fun c => c.1).map .int)) st = .ok (.lst (((unL one other t).map fun c => c.1).map .int)) st := fun st => by
    rw [fAdd_lst, if_pos (szOk_of (by simp only [List.length_map]; omega))]
    unfold unL
    rw [List.map_append, List.map_append]
  have hmin : ∀ n r, ((unL one other t).map fun c => c.1) = n :: r → gMin n r = firT one other t := fun n r e => by
    obtain ⟨h1, h2⟩ := gMin_spec r n
    rw [← e] at h1 h2
    obtain ⟨c, hc, e2⟩ := List.mem_map.mp h1
    exact (fir_uniq ⟨c, hc, e2⟩ fun d hd => h2 d.1 (List.mem_map.mpr ⟨d, hd, rfl⟩)).symm
  have hnil : unL one other t = [] → firT one other t = -1 := fun e => by
    rcases fir_cases one other t with ⟨_, h, _⟩ | ⟨c, r, _, hc, _⟩
    · exact h
    · rw [e] at hc; cases hc
  cases hu : (unL one other t).map fun c => c.1 with
  | nil =>
    rw [hu] at hcat
    have := hnil (List.map_eq_nil_iff.mp hu)
    simp only [List.map_nil] at hcat
    simp [d_law_first, pureF_ap, run_ap, B_law_first, X_law_first_1, c1, c2, hcat, this, -List.map_map, -fAdd_lst]
  | cons n r =>
    rw [hu] at hcat
    have h2 := fNe_ints (n :: r) [] st
    have h3 := fMin1_ints n r st
    rw [hmin n r hu] at h3
    simp only [List.map_cons, List.map_nil] at hcat h2 h3
    simp [d_law_first, pureF_ap, run_ap, B_law_first, X_law_first_1, c1, c2, hcat, h2, h3, -List.map_map, -fAdd_lst]
/-- an elder answer -/
inductive Ans where
  | tog | apt (c : Cmd)
abbrev Ans.d : Ans → D
  | .tog => .ins 0 []
  | .apt c => .ins 1 [cmdD c]
def Ans.okA : Ans → Prop
  | .tog => True
  | .apt c => okC c
def Ans.says (L : Int) (one other : List Cmd) (t : Int) : Ans → Bool
  | .tog => decide ((standL L one t).1 = (standL L other t).1)
  | .apt c => apartB L one other t c
section
variable {L t : Int} {one other : List Cmd} {d e : D} {st : Sto}
theorem pair_due_eq (hd : IsL st d (one.map cmdD)) (he : IsL st e (other.map cmdD)) (h1 : ∀ c ∈ one, okC c) (h2 : ∀ c ∈ other, okC c) {a : Ans} (ha : a.okA) :
    d_law_pair_due [.int L, d, e, .int t, a.d] st = .ok (.bl (a.says L one other t)) st := by
  have a1 := law_stand_eq (L := L) (t := t) hd h1
  have a2 := law_stand_eq (L := L) (t := t) he h2
  cases a with
  | tog =>
    obtain ⟨b, hb⟩ : ∃ b, b = decide ((standL L one t).1 = (standL L other t).1) := ⟨_, rfl⟩
    show _ = Rs.ok (D.bl (decide ((standL L one t).1 = (standL L other t).1))) st
    rw [← hb]
    simp [d_law_pair_due, pureF_ap, run_ap, B_law_pair_due, a1, a2, at_p0, ← hb]
  | apt c =>
    have := law_due_eq (L := L) (t := t) hd he h1 h2 (c := c) ha
    show _ = Rs.ok (D.bl (apartB L one other t c)) st
    obtain ⟨x, hx⟩ : ∃ x, x = cmdD c := ⟨_, rfl⟩
    simp only [Ans.d]
    rw [← hx] at this ⊢
    simp [d_law_pair_due, pureF_ap, run_ap, B_law_pair_due, this]
theorem ans_shows (hd : IsL st d (one.map cmdD)) (he : IsL st e (other.map cmdD)) (h1 : ∀ c ∈ one, okC c) (h2 : ∀ c ∈ other, okC c) (l1 : one.length ≤ 10000) (l2 : other.length ≤ 10000) {a : Ans} (ha : a.okA) {X A B C E : Den} {env : En} (hX : X env st = .ok a.d st) (hA : A env st = .ok (.int L) st) (hB : B env st = .ok d st) (hC : C env st = .ok e st) (hE : E env st = .ok (.int t) st) :
    dMeth ms_shows X (aCons A (aCons B (aCons C (aCons E aNil)))) env st = .ok (.bl (a.says L one other t)) st := by
  have m0 : ms_shows 0 = some (5, d_Together_shows) := rfl
  have m1 : ms_shows 1 = some (5, d_Apart_shows) := rfl
  cases a with
  | tog =>
    have := together_eq (L := L) (t := t) hd he h1 h2 l1 l2 (.ins 0 [])
    show _ = Rs.ok (D.bl (decide ((standL L one t).1 = (standL L other t).1))) st
    simp only [Ans.d] at hX
    simp [hX, hA, hB, hC, hE, m0, this]
  | apt c =>
    have := apart_eq (L := L) (t := t) hd he h1 h2 l1 l2 (c := c) ha
    show _ = Rs.ok (D.bl (apartB L one other t c)) st
    simp only [Ans.d] at hX
    obtain ⟨x, hx⟩ : ∃ x, x = cmdD c := ⟨_, rfl⟩
    rw [← hx] at hX this
    simp [hX, hA, hB, hC, hE, m1, this]
theorem judg_ans (hL : 0 ≤ L) (h1 : ∀ c ∈ one, Vc L c) (h2 : ∀ c ∈ other, Vc L c) : ∃ a : Ans, judgD L one other t = a.d ∧ a.okA ∧ a.says L one other t = true := by
  rcases judg_cases hL h1 h2 t with ⟨hs, e⟩ | ⟨hs, c, r, hu, e, h, k, _⟩
  · exact ⟨.tog, e, trivial, decide_eq_true hs⟩
  · exact ⟨.apt c, e, k, h⟩
theorem bl_ne (b : Bool) (st : Sto) : fNe (.bl b) (.bl b) st = .ok (.bl false) st := by
  have := EqOn.bl.fNe (st := st) (a := .bl b) (b := .bl b) (x := b) (y := b) rfl rfl trivial trivial
  rw [this, decide_eq_true rfl]
  rfl
theorem law_right_ok (h1 : 1 ≤ L) (h2 : L ≤ 1000000000) (V : Vcs L one) (W : Vcs L other) (ht : 0 ≤ t) (hd : IsL st d (one.map cmdD)) (he : IsL st e (other.map cmdD)) (hl : (unL one other t).length < 64) :
    d_law_right [.int L, d, e, .int t] st = .ok (.bl true) st := by
  have a1 := stand_eq h1 h2 V ht hd
  have a2 := law_stand_eq (L := L) (t := t) hd V.ok
  have a3 := law_first_eq (t := t) hd he V.ok W.ok (by have := V.l; omega) (by have := W.l; omega)
  have a4 := at_most_eq h1 h2 V W ht hd he hl
  have a5 := judged_eq h1 h2 V W ht hd he hl
  obtain ⟨a, ha, hok, hs⟩ := judg_ans (t := t) (by omega) V.v W.v
  have a6 := pair_due_eq (L := L) (t := t) hd he V.ok W.ok hok
  rw [ha] at a5
  rw [hs] at a6
  have hx : atT one other t = if firT one other t < 0 then 0 else t - firT one other t := by
    rcases fir_cases one other t with ⟨_, f, g⟩ | ⟨c, r, hu, hc, _⟩
    · rw [f, g]; rfl
    · have hp : 0 ≤ c.1 := by
        rcases (un_mem.mp hc).1 with ⟨m, _⟩ | ⟨m, _⟩
        · exact (V.v c m).t0
        · exact (W.v c m).t0
      have hf : firT one other t = c.1 := by unfold firT; rw [hu]
      have hg : atT one other t = t - c.1 := by unfold atT; rw [hu]
      rw [hf, hg, if_neg (by omega)]
  obtain ⟨f, hf⟩ : ∃ f, f = firT one other t := ⟨_, rfl⟩
  obtain ⟨q, hq⟩ : ∃ q, q = standL L one t := ⟨_, rfl⟩
  rw [← hf] at a3 hx
  rw [← hq] at a1 a2
  rw [hx] at a4
  generalize a.d = A at a5 a6
  by_cases h0 : f < 0
  · rw [if_pos h0] at a4
    simp [d_law_right, pureF_ap, run_ap, B_law_right, X_law_right_1, a1, a2, a3, a4, a5, a6, h0]
  · rw [if_neg h0] at a4
    simp [d_law_right, pureF_ap, run_ap, B_law_right, X_law_right_1, a1, a2, a3, a4, a5, a6, h0]
end
theorem prs_few {pl : List Int} (h : Pls pl) : (prsL pl).length ≤ 100 := by
  have := h.l2
  rw [prsL, List.length_map, List.length_range]
  omega
theorem places_right_ok {pl : List Int} (h : Pls pl) {d : D} {st : Sto} (hd : IsL st d (pl.map .int)) : d_law_places_right [d] st = .ok (.bl true) st := by
  have hl : (isort leI pl).length = pl.length := isort_length pl
  have := h.l1
  have hl2 := h.l2
  have hat : atI ((isort leI pl).map D.int) ((pl.length : Int) / 2) = some (.int (midL pl)) := by
    have := atI_int (l := isort leI pl) (k := (pl.length : Int) / 2) (by omega) (by rw [hl]; omega)
    rw [this]
    rfl
  have h1 : ∀ st, L_law_places_right_1 [some d, some (.lst ((isort leI pl).map .int)), none, none, none] st = .ok (((isort leI pl).map fun x => absI (x - midL pl)).map .int) st := fun st => by
    have := lc_ints (keep := fun _ => true) (vs := [4]) (g := gVar 4) (A := (dCall fAbs (aCons (dOp fSub (dVar 4) (dOp fIx (dVar 1) (dOp fDiv (dCall fLen (aCons (dVar 1) aNil)) (dC (.int 2))))) aNil))) (env := [some d, some (.lst ((isort leI pl).map .int)), none, none, none]) (st := st) (enc := D.int) (fun x => absI (x - midL pl)) (isort leI pl)
      (fun x hx => ⟨_, rfl, by simp [wipeE, hl, hat]⟩) (by omega) rfl
    simp [L_law_places_right_1, this]
  have hs : isort leD (pl.map .int) = (isort leI pl).map .int := isort_ints pl
  have hd2 : ((isort leI pl).map fun x => absI (x - midL pl)).sum = dist pl (midL pl) := least_eq pl
  have m1 := meet_ok h hd
  obtain ⟨s1, hs1⟩ : ∃ s, s = st ++ [Cell.inst 2 [.int (midL pl), .loc (st.length + 1)], .list ((prsL pl).map pairD)] := ⟨_, rfl⟩
  rw [← hs1] at m1
  have hd1 : IsL s1 d (pl.map .int) := by rw [hs1]; exact hd.app
  have g0 : s1[st.length]? = some (.inst 2 [.int (midL pl), .loc (st.length + 1)]) := by rw [hs1]; simp
  have g1 : s1[st.length + 1]? = some (.list ((prsL pl).map pairD)) := by rw [hs1]; simp
  have m2 := least_ok h hd1
  have m3 := meets_ok (m := midL pl) (by omega) (prs_few h) hd1 (IsL.loc g1)
  rw [meets_true] at m3
  have hps := prs_few h
  have hz : (prsL pl).length ≤ 16777215 := by omega
  obtain ⟨pd, hpd⟩ : ∃ p, p = (prsL pl).map pairD := ⟨_, rfl⟩
  have hzd : pd.length ≤ 16777215 := by rw [hpd, List.length_map]; exact hz
  rw [← hpd] at hs1 g1
  obtain ⟨s2, hs2⟩ : ∃ s, s = s1.set (st.length + 1) (.list (pd ++ [.tup [.int 0, .int 0]])) := ⟨_, rfl⟩
  have e2 : s2 = st ++ [Cell.inst 2 [.int (midL pl), .loc (st.length + 1)], .list (pd ++ [.tup [.int 0, .int 0]])] := by rw [hs2, hs1]; simp
  have hd3 : IsL s2 d (pl.map .int) := by rw [e2]; exact hd.app
  have m4 := least_ok h hd3
  have hlv : ∀ b, leave st (.ok (.bl b) s2) = .ok (.bl b) st := fun b => by rw [e2]; exact leave_bl _ _ _
  simp [d_law_places_right, pureF_ap, run_ap, B_law_places_right, hd.g, srtK_some (sortOk_ints _), hs, h1, intsOf_map, -List.map_map, hd2, m1, m2, g0, m3, g1, hzd, ← hs2, m4, hlv]
end Wt.Lk10

namespace Wt.Lk10
open PySem PySem.Spec PyProof.Rows L2 Wt
/-! ## rooms -/
structure RmS where
  L : Int
  now : Int
  letters : List Cmd
  known : List (List Cmd)
  lines : List D
structure RoomAt (st : Sto) (a : Nat) (kl : List Nat) (le li : Nat) (R : RmS) : Prop where
  ob : st[a]? = some (Cell.inst 5 [.int R.L, .lst (kl.map .loc), .loc le, .int R.now, .loc li])
  lt : st[le]? = some (Cell.list (R.letters.map cmdD))
  ln : st[li]? = some (Cell.list R.lines)
  len : kl.length = R.known.length
  kn : ∀ (i k : Nat) (cs : List Cmd), kl[i]? = some k → R.known[i]? = some cs → st[k]? = some (Cell.list (cs.map cmdD))
  nd : (a :: le :: li :: kl).Nodup
/-- the cells not of F stay -/
def Off (F : List Nat) (st st' : Sto) : Prop := st'.length = st.length ∧ ∀ j, j ∉ F → st'[j]? = st[j]?
theorem Off.refl {F : List Nat} {st : Sto} : Off F st st := ⟨rfl, fun _ _ => rfl⟩
theorem Off.trans {F : List Nat} {s1 s2 s3 : Sto} (h : Off F s1 s2) (g : Off F s2 s3) : Off F s1 s3 := ⟨g.1.trans h.1, fun j hj => (g.2 j hj).trans (h.2 j hj)⟩
theorem Off.set {F : List Nat} {st : Sto} {i : Nat} {c : Cell} (h : i ∈ F) : Off F st (st.set i c) := ⟨List.length_set .., fun j hj => List.getElem?_set_ne fun (e : i = j) => hj (by rw [← e]; exact h)⟩
theorem get_lt {st : Sto} {i : Nat} {c : Cell} (h : st[i]? = some c) : i < st.length := (List.getElem?_eq_some_iff.mp h).1
theorem set_at {st : Sto} {i : Nat} {c d : Cell} (h : st[i]? = some c) : (st.set i d)[i]? = some d := by rw [List.getElem?_set_self (get_lt h)]
theorem set_off {st : Sto} {i j : Nat} {d : Cell} (h : i ≠ j) : (st.set i d)[j]? = st[j]? := List.getElem?_set_ne h
/-- a room's own invariant -/
structure RmS.Ok (R : RmS) : Prop where
  L0 : 1 ≤ R.L
  L1 : R.L ≤ 1000000000
  now0 : 0 ≤ R.now
  ok : ∀ c ∈ R.letters, okC c
  keys : (R.letters.map fun c => (c.1, c.2.1)).Nodup
  knd : ∀ cs ∈ R.known, cs.Nodup
  sub : ∀ cs ∈ R.known, ∀ c ∈ cs, c ∈ R.letters
  len1 : R.letters.length ≤ R.lines.length
  len2 : ∀ cs ∈ R.known, cs.length ≤ R.lines.length
  h1 : R.known.length ≤ 4
  few : R.lines.length ≤ 298
theorem atI_mapS {α : Type} {f : α → D} {l : List α} {i : Int} {x : α} (h0 : 0 ≤ i) (h : l[i.toNat]? = some x) : atI (l.map f) i = some (f x) :=
  atI_of h0 (by rw [List.getElem?_map, h]; rfl)
theorem atI_last {l : List D} {x : D} : atI (l ++ [x]) (-1) = some x := by
  have h : ixN (l ++ [x]).length (-1) = some l.length := by
    unfold ixN
    rw [List.length_append]
    simp
    omega
  unfold atI
  rw [h]
  simp
@[simp] theorem leave_exc (c : Nat) (st s : Sto) : leave st (.exc c (st ++ s)) = .exc c st := by
  show (if stBeq ((st ++ s).take st.length) st then _ else _) = _
  rw [List.take_left', if_pos (stBeq_refl st)]
  rfl
@[simp] theorem leave_exc0 (c : Nat) (st : Sto) : leave st (.exc c st) = .exc c st := by
  have := leave_exc c st []
  rwa [List.append_nil] at this
theorem asked_watcher_ok {st : Sto} {a le li : Nat} {kl : List Nat} {R : RmS} (M : RoomAt st a kl le li R) {w : Int} (h0 : 0 ≤ w) (h1 : w < R.known.length) : d_Room_asked_watcher [.loc a, .int w] st = .ok .non st := by
  have h2 : w < (kl.length : Int) := by rw [M.len]; exact h1
  simp [d_Room_asked_watcher, pureF_ap, run_ap, B_Room_asked_watcher, is_whole_int, M.ob, h0, h2]
theorem asked_watcher_no {st : Sto} {a le li : Nat} {kl : List Nat} {R : RmS} (M : RoomAt st a kl le li R) {w : Int} (h : ¬ (0 ≤ w ∧ w < R.known.length)) : d_Room_asked_watcher [.loc a, .int w] st = .exc 15 st := by
  by_cases h0 : 0 ≤ w
  · have h2 : ¬ w < (kl.length : Int) := by rw [M.len]; exact fun z => h ⟨h0, z⟩
    simp [d_Room_asked_watcher, pureF_ap, run_ap, B_Room_asked_watcher, is_whole_int, M.ob, h0, h2]
  · simp [d_Room_asked_watcher, pureF_ap, run_ap, B_Room_asked_watcher, is_whole_int, M.ob, h0]
theorem ms_aw : ms_asked_watcher 5 = some (2, d_Room_asked_watcher) := rfl
/-! the deeds -/
theorem ok_strs {k : Str} (h : k = kHold ∨ k = kGo ∨ k = kMove) : PyData.strOk k = true := by
  rcases h with rfl | rfl | rfl
  · exact ok_hold
  · exact ok_go
  · exact ok_move
def RmS.put (R : RmS) (w : Nat) (c : Cmd) : List (List Cmd) := R.known.set w ((R.known.getD w []) ++ [c])
def orderR (R : RmS) (w : Int) (k : Str) (p : Int) : RmS := { R with letters := R.letters ++ [(R.now, w, k, p)], known := R.put w.toNat (R.now, w, k, p), lines := R.lines ++ [.tup [.str "order", .int w, .str k, .int p]] }
def bringR (R : RmS) (l w : Int) (c : Cmd) : RmS := { R with known := if c ∈ R.known.getD w.toNat [] then R.known else R.put w.toNat c, lines := R.lines ++ [.tup [.str "bring", .int l, .int w]] }
def tickR (R : RmS) (m : Int) : RmS := { R with now := R.now + m, lines := R.lines ++ [.tup [.str "tick", .int m]] }
theorem put_kn {st s3 : Sto} {a le li : Nat} {kl : List Nat} {R : RmS} (M : RoomAt st a kl le li R) {w kw : Nat} (hkw : kl[w]? = some kw) {cs' : List Cmd} (hoff : ∀ j, j ∈ kl → j ≠ kw → s3[j]? = st[j]?) (hat : s3[kw]? = some (Cell.list (cs'.map cmdD))) :
    ∀ (i k : Nat) (cs : List Cmd), kl[i]? = some k → (R.known.set w cs')[i]? = some cs → s3[k]? = some (Cell.list (cs.map cmdD)) := fun i k cs h1 h2 => by
  have nd := M.nd
  simp only [List.nodup_cons] at nd
  by_cases e : w = i
  · subst e
    rw [hkw] at h1
    cases h1
    have : (R.known.set w cs')[w]? = some cs' := List.getElem?_set_self (by
      have := (List.getElem?_eq_some_iff.mp hkw).1
      rw [M.len] at this
      exact this)
    rw [this] at h2
    cases h2
    exact hat
  · rw [List.getElem?_set_ne e] at h2
    rw [hoff k (List.mem_of_getElem? h1) fun ek => e ((List.getElem?_inj (List.getElem?_eq_some_iff.mp hkw).1 nd.2.2.2).mp (by rw [hkw, h1, ek]))]
    exact M.kn i k cs h1 h2
theorem pairs_L1 {st : Sto} {a le li : Nat} {kl : List Nat} {R : RmS} (M : RoomAt st a kl le li R) (hl : R.letters.length ≤ 10000) (v1 v2 v3 : Option D) :
    L_Room_order_1 [some (.loc a), v1, v2, v3, none] st = .ok ((R.letters.map fun c => (c.1, c.2.1)).map pairD) st := by
  have := lc_map (keep := keepL (.loc le) (R.letters.map cmdD)) (vs := [4]) (g := gVar 4) (A := dSl (dVar 4) oNone (oSome (dC (.int 2)))) (env := [some (.loc a), v1, v2, v3, none]) (st := st) (enc := cmdD) (fun c => pairD (c.1, c.2.1)) R.letters
    (fun c hc => ⟨_, rfl, by simp [wipeE]; rfl⟩) (by omega) (IsL.loc M.lt).kp
  rw [List.map_map]
  simp [L_Room_order_1, M.ob, M.lt, this, -List.map_map]
theorem order_ok {st : Sto} {a le li : Nat} {kl : List Nat} {R : RmS} (M : RoomAt st a kl le li R) (O : R.Ok) {w p : Int} {k : Str} (h0 : 0 ≤ w) (h1 : w < R.known.length) (hk : k = kHold ∨ k = kGo ∨ k = kMove) (p0 : 0 ≤ p) (p1 : p ≤ if k = kMove then R.L else 0)
    (hf : (R.now, w) ∉ R.letters.map fun c => (c.1, c.2.1)) :
    ∃ st', d_Room_order [.loc a, .int w, .str k, .int p] st = .ok (.int R.letters.length) st' ∧ RoomAt st' a kl le li (orderR R w k p) ∧ Off (a :: le :: li :: kl) st st' := by
  have aw := asked_watcher_ok M h0 h1
  have o1 := O.len1
  have o2 := O.few
  have e1 := kinds_in hk st
  have e2 := pairs_L1 M (by omega)
  have e3 := EqPair.fIn (st := st) (x := (R.now, w)) (IsL.lst (l := (R.letters.map fun c => (c.1, c.2.1)).map pairD)) ⟨trivial, trivial⟩ fun _ _ => ⟨trivial, trivial⟩
  rw [decide_eq_false hf] at e3
  obtain ⟨kw, hkw⟩ : ∃ i, kl[w.toNat]? = some i := ⟨_, List.getElem?_eq_getElem (by rw [M.len]; omega)⟩
  obtain ⟨cs, hcs⟩ : ∃ i, R.known[w.toNat]? = some i := ⟨_, List.getElem?_eq_getElem (by omega)⟩
  have hkc := M.kn _ _ _ hkw hcs
  have hat := atI_mapS (f := D.loc) h0 hkw
  have nd := M.nd
  simp only [List.nodup_cons, List.mem_cons, not_or] at nd
  have hkm : kw ∈ kl := List.mem_of_getElem? hkw
  have n1 : le ≠ kw := fun e => nd.2.1.2 (e ▸ hkm)
  have n2 : li ≠ kw := fun e => nd.2.2.1 (e ▸ hkm)
  have n3 : le ≠ li := nd.2.1.1
  have n4 : a ≠ le := nd.1.1
  have n5 : a ≠ li := nd.1.2.1
  have n6 : a ≠ kw := fun e => nd.1.2.2 (e ▸ hkm)
  have hst := ok_strs hk
  have kq := eq_kind hst ok_move st
  have g1 := get_lt M.lt
  have g2 := get_lt M.ln
  have g3 := get_lt hkc
  have hlast : (R.letters.map cmdD ++ [cmdD (R.now, w, k, p)]).length = R.letters.length + 1 := by simp
  have hlat : atI (R.letters.map cmdD ++ [cmdD (R.now, w, k, p)]) (-1) = some (cmdD (R.now, w, k, p)) := atI_last
  obtain ⟨nl, hnl⟩ : ∃ l, l = R.letters.map cmdD ++ [cmdD (R.now, w, k, p)] := ⟨_, rfl⟩
  obtain ⟨s1, hs1⟩ : ∃ s, s = st.set le (.list nl) := ⟨_, rfl⟩
  have a1 : s1[a]? = some (Cell.inst 5 [.int R.L, .lst (kl.map .loc), .loc le, .int R.now, .loc li]) := by rw [hs1, set_off (Ne.symm n4), M.ob]
  have a2 : s1[le]? = some (Cell.list nl) := by rw [hs1, set_at M.lt]
  have a3 : s1[kw]? = some (Cell.list (cs.map cmdD)) := by rw [hs1, set_off n1, hkc]
  have a4 : s1[li]? = some (Cell.list R.lines) := by rw [hs1, set_off n3, M.ln]
  obtain ⟨s2, hs2⟩ : ∃ s, s = s1.set kw (.list (cs.map cmdD ++ [cmdD (R.now, w, k, p)])) := ⟨_, rfl⟩
  have b1 : s2[a]? = some (Cell.inst 5 [.int R.L, .lst (kl.map .loc), .loc le, .int R.now, .loc li]) := by rw [hs2, set_off (Ne.symm n6), a1]
  have b2 : s2[le]? = some (Cell.list nl) := by rw [hs2, set_off (Ne.symm n1), a2]
  have b3 : s2[kw]? = some (Cell.list (cs.map cmdD ++ [cmdD (R.now, w, k, p)])) := by rw [hs2, set_at a3]
  have b4 : s2[li]? = some (Cell.list R.lines) := by rw [hs2, set_off (Ne.symm n2), a4]
  obtain ⟨s3, hs3⟩ : ∃ s, s = s2.set li (.list (R.lines ++ [.tup [.str "order", .int w, .str k, .int p]])) := ⟨_, rfl⟩
  have c1 : s3[a]? = some (Cell.inst 5 [.int R.L, .lst (kl.map .loc), .loc le, .int R.now, .loc li]) := by rw [hs3, set_off (Ne.symm n5), b1]
  have c2 : s3[le]? = some (Cell.list nl) := by rw [hs3, set_off (Ne.symm n3), b2]
  have c3 : s3[kw]? = some (Cell.list (cs.map cmdD ++ [cmdD (R.now, w, k, p)])) := by rw [hs3, set_off n2, b3]
  have c4 : s3[li]? = some (Cell.list (R.lines ++ [.tup [.str "order", .int w, .str k, .int p]])) := by rw [hs3, set_at b4]
  have z1 : ¬ (300 : Int) ≤ (R.letters.length : Int) := by omega
  have z2 : R.lines.length ≤ 16777215 := by omega
  have z3 : cs.length ≤ 16777215 := by
    have := O.len2 cs (List.mem_of_getElem? hcs)
    omega
  have z4 : R.letters.length ≤ 16777215 := by omega
  have y1 : X_Room_order_1 [some (.loc a), some (.int w), some (.str k), some (.int p), none] st = .ok (.int (if k = kMove then R.L else 0)) st := by
    by_cases hm : k = kMove
    · rw [decide_eq_true hm] at kq
      rw [if_pos hm]
      simp [X_Room_order_1, kq, M.ob]
    · rw [decide_eq_false hm] at kq
      rw [if_neg hm]
      simp [X_Room_order_1, kq, M.ob]
  have hrun : d_Room_order [.loc a, .int w, .str k, .int p] st = .ok (.int R.letters.length) s3 := by
    simp only [cmdD] at *
    rw [← hnl] at hlast hlat
    simp [d_Room_order, run_ap, B_Room_order, M.ob, M.lt, ms_aw, aw, Ty.sub, e1, is_whole_int, y1, p0, p1, e2, e3, z1, z2, z3, z4, ← hnl, ← hs1, a1, a2, a3, a4, hat, hlat, hlast, ← hs2, b1, b2, b3, b4, ← hs3, c1, c2, c3, c4, -List.map_map]
  have hcg : R.known.getD w.toNat [] = cs := by rw [List.getD_eq_getElem?_getD, hcs]; rfl
  refine ⟨s3, hrun, ⟨c1, by rw [c2, hnl]; simp [orderR, cmdD], c4, by rw [M.len]; exact (List.length_set ..).symm, ?_, M.nd⟩, ?_⟩
  · refine put_kn M hkw (fun j hj hne => ?_) ?_
    · rw [hs3, set_off (fun (e : li = j) => nd.2.2.1 (by rw [e]; exact hj)), hs2, set_off (Ne.symm hne), hs1, set_off (fun (e : le = j) => nd.2.1.2 (by rw [e]; exact hj))]
    · rw [c3, hcg, List.map_append]
      rfl
  · rw [hs3, hs2, hs1]
    exact ((Off.set (by simp)).trans (Off.set (by simp [hkm]))).trans (Off.set (by simp))
theorem bring_ok {st : Sto} {a le li : Nat} {kl : List Nat} {R : RmS} (M : RoomAt st a kl le li R) (O : R.Ok) {l w : Int} {c : Cmd} (l0 : 0 ≤ l) (hc : R.letters[l.toNat]? = some c) (h0 : 0 ≤ w) (h1 : w < R.known.length) :
    ∃ st', d_Room_bring [.loc a, .int l, .int w] st = .ok (.bl (!decide (c ∈ R.known.getD w.toNat []))) st' ∧ RoomAt st' a kl le li (bringR R l w c) ∧ Off (a :: le :: li :: kl) st st' := by
  have aw := asked_watcher_ok M h0 h1
  have o2 := O.few
  have hl2 : l < (R.letters.length : Int) := by
    have := (List.getElem?_eq_some_iff.mp hc).1
    omega
  obtain ⟨kw, hkw⟩ : ∃ i, kl[w.toNat]? = some i := ⟨_, List.getElem?_eq_getElem (by rw [M.len]; omega)⟩
  obtain ⟨cs, hcs⟩ : ∃ i, R.known[w.toNat]? = some i := ⟨_, List.getElem?_eq_getElem (by omega)⟩
  have hcg : R.known.getD w.toNat [] = cs := by rw [List.getD_eq_getElem?_getD, hcs]; rfl
  have hkc := M.kn _ _ _ hkw hcs
  have hat := atI_mapS (f := D.loc) h0 hkw
  have hlat := atI_mapS (f := cmdD) l0 hc
  have hcl : c ∈ R.letters := List.mem_of_getElem? hc
  have hcm := List.mem_of_getElem? hcs
  have e1 := EqCmd.fNotIn (st := st) (x := c) (IsL.loc hkc) (okC_eq (O.ok c hcl)) fun z hz => okC_eq (O.ok z (O.sub cs hcm z hz))
  have nd := M.nd
  simp only [List.nodup_cons, List.mem_cons, not_or] at nd
  have hkm : kw ∈ kl := List.mem_of_getElem? hkw
  have n1 : le ≠ kw := fun e => nd.2.1.2 (e ▸ hkm)
  have n2 : li ≠ kw := fun e => nd.2.2.1 (e ▸ hkm)
  have n3 : le ≠ li := nd.2.1.1
  have n5 : a ≠ li := nd.1.2.1
  have n6 : a ≠ kw := fun e => nd.1.2.2 (e ▸ hkm)
  have z2 : R.lines.length ≤ 16777215 := by omega
  have z3 : cs.length ≤ 16777215 := by
    have := O.len2 cs hcm
    omega
  rw [hcg]
  by_cases hm : c ∈ cs
  · rw [decide_eq_true hm] at e1 ⊢
    obtain ⟨s3, hs3⟩ : ∃ s, s = st.set li (.list (R.lines ++ [.tup [.str "bring", .int l, .int w]])) := ⟨_, rfl⟩
    have hrun : d_Room_bring [.loc a, .int l, .int w] st = .ok (.bl false) s3 := by
      simp only [cmdD] at *
      simp [d_Room_bring, run_ap, B_Room_bring, M.ob, M.lt, M.ln, ms_aw, aw, is_whole_int, l0, hl2, hat, hlat, e1, z2, ← hs3, -List.map_map]
    refine ⟨s3, hrun, ⟨by rw [hs3, set_off (Ne.symm n5), M.ob]; rfl, by rw [hs3, set_off (Ne.symm n3), M.lt]; rfl, by rw [hs3, set_at M.ln]; rfl, ?_, ?_, M.nd⟩, ?_⟩
    · rw [M.len, bringR, hcg, if_pos hm]
    · intro i k cs' h1 h2
      rw [bringR, hcg, if_pos hm] at h2
      rw [hs3, set_off (fun (e : li = k) => nd.2.2.1 (by rw [e]; exact List.mem_of_getElem? h1)), M.kn i k cs' h1 h2]
    · rw [hs3]
      exact Off.set (by simp)
  · rw [decide_eq_false hm] at e1 ⊢
    obtain ⟨s2, hs2⟩ : ∃ s, s = st.set kw (.list (cs.map cmdD ++ [cmdD c])) := ⟨_, rfl⟩
    have b1 : s2[a]? = some (Cell.inst 5 [.int R.L, .lst (kl.map .loc), .loc le, .int R.now, .loc li]) := by rw [hs2, set_off (Ne.symm n6), M.ob]
    have b2 : s2[le]? = some (Cell.list (R.letters.map cmdD)) := by rw [hs2, set_off (Ne.symm n1), M.lt]
    have b3 : s2[kw]? = some (Cell.list (cs.map cmdD ++ [cmdD c])) := by rw [hs2, set_at hkc]
    have b4 : s2[li]? = some (Cell.list R.lines) := by rw [hs2, set_off (Ne.symm n2), M.ln]
    obtain ⟨s3, hs3⟩ : ∃ s, s = s2.set li (.list (R.lines ++ [.tup [.str "bring", .int l, .int w]])) := ⟨_, rfl⟩
    have hrun : d_Room_bring [.loc a, .int l, .int w] st = .ok (.bl true) s3 := by
      simp only [cmdD] at *
      simp [d_Room_bring, run_ap, B_Room_bring, M.ob, M.lt, M.ln, ms_aw, aw, is_whole_int, l0, hl2, hat, hlat, hkc, e1, z2, z3, ← hs2, b1, b2, b3, b4, ← hs3, -List.map_map]
    refine ⟨s3, hrun, ⟨by rw [hs3, set_off (Ne.symm n5), b1]; rfl, by rw [hs3, set_off (Ne.symm n3), b2]; rfl, by rw [hs3, set_at b4]; rfl, ?_, ?_, M.nd⟩, ?_⟩
    · rw [M.len, bringR, hcg, if_neg hm, RmS.put]
      exact (List.length_set ..).symm
    · rw [bringR, hcg, if_neg hm]
      refine put_kn M hkw (fun j hj hne => ?_) ?_
      · rw [hs3, set_off (fun (e : li = j) => nd.2.2.1 (by rw [e]; exact hj)), hs2, set_off (Ne.symm hne)]
      · rw [hs3, set_off n2, b3, hcg, List.map_append]
        rfl
    · rw [hs3, hs2]
      exact (Off.set (by simp [hkm])).trans (Off.set (by simp))
theorem tick_ok {st : Sto} {a le li : Nat} {kl : List Nat} {R : RmS} (M : RoomAt st a kl le li R) (O : R.Ok) {m : Int} (h : 1 ≤ m) :
    ∃ st', d_Room_tick [.loc a, .int m] st = .ok (.int (R.now + m)) st' ∧ RoomAt st' a kl le li (tickR R m) ∧ Off (a :: le :: li :: kl) st st' := by
  have o2 := O.few
  have nd := M.nd
  simp only [List.nodup_cons, List.mem_cons, not_or] at nd
  have n3 : le ≠ li := nd.2.1.1
  have n4 : a ≠ le := nd.1.1
  have n5 : a ≠ li := nd.1.2.1
  have z2 : R.lines.length ≤ 16777215 := by omega
  have hm : ¬ m < 1 := by omega
  obtain ⟨s2, hs2⟩ : ∃ s, s = st.set a (Cell.inst 5 [.int R.L, .lst (kl.map .loc), .loc le, .int (R.now + m), .loc li]) := ⟨_, rfl⟩
  have b1 : s2[a]? = some (Cell.inst 5 [.int R.L, .lst (kl.map .loc), .loc le, .int (R.now + m), .loc li]) := by rw [hs2, set_at M.ob]
  have b4 : s2[li]? = some (Cell.list R.lines) := by rw [hs2, set_off n5, M.ln]
  obtain ⟨s3, hs3⟩ : ∃ s, s = s2.set li (.list (R.lines ++ [.tup [.str "tick", .int m]])) := ⟨_, rfl⟩
  have c1 : s3[a]? = some (Cell.inst 5 [.int R.L, .lst (kl.map .loc), .loc le, .int (R.now + m), .loc li]) := by rw [hs3, set_off (Ne.symm n5), b1]
  have hrun : d_Room_tick [.loc a, .int m] st = .ok (.int (R.now + m)) s3 := by
    simp [d_Room_tick, run_ap, B_Room_tick, M.ob, M.lt, M.ln, is_whole_int, hm, z2, ← hs2, b1, b4, ← hs3, c1, -List.map_map]
  refine ⟨s3, hrun, ⟨c1, by rw [hs3, set_off (Ne.symm n3), hs2, set_off n4, M.lt]; rfl, by rw [hs3, set_at b4]; rfl, M.len, ?_, M.nd⟩, ?_⟩
  · intro i k cs' h1 h2
    rw [hs3, set_off (fun (e : li = k) => nd.2.2.1 (by rw [e]; exact List.mem_of_getElem? h1)), hs2, set_off (fun (e : a = k) => nd.1.2.2 (by rw [e]; exact List.mem_of_getElem? h1)), M.kn i k cs' h1 h2]
  · rw [hs3, hs2]
    exact (Off.set (by simp)).trans (Off.set (by simp))
theorem stands_ok {st : Sto} {a le li : Nat} {kl : List Nat} {R : RmS} (M : RoomAt st a kl le li R) (O : R.Ok) {w : Int} (h0 : 0 ≤ w) (h1 : w < R.known.length) :
    d_Room_stands [.loc a, .int w] st = .ok (standD (standL R.L (R.known.getD w.toNat []) R.now)) st := by
  have aw := asked_watcher_ok M h0 h1
  have o2 := O.few
  obtain ⟨kw, hkw⟩ : ∃ i, kl[w.toNat]? = some i := ⟨_, List.getElem?_eq_getElem (by rw [M.len]; omega)⟩
  obtain ⟨cs, hcs⟩ : ∃ i, R.known[w.toNat]? = some i := ⟨_, List.getElem?_eq_getElem (by omega)⟩
  have hcg : R.known.getD w.toNat [] = cs := by rw [List.getD_eq_getElem?_getD, hcs]; rfl
  have hkc := M.kn _ _ _ hkw hcs
  have hat := atI_mapS (f := D.loc) h0 hkw
  have hcm := List.mem_of_getElem? hcs
  have hso := stand_of_eq (L := R.L) (t := R.now) (IsL.loc hkc) (fun z hz => O.ok z (O.sub cs hcm z hz)) (by have := O.len2 cs hcm; omega)
  have hle : ∀ (a : Int) (b : Bool), leave st (.ok (.tup [.int a, .bl b]) st) = .ok (.tup [.int a, .bl b]) st := fun a b => leave_ok0 rfl nofun
  rw [hcg]
  simp [d_Room_stands, pureF_ap, run_ap, B_Room_stands, M.ob, ms_aw, aw, hat, hso, hle]
end Wt.Lk10

namespace Wt.Lk10
open PySem PySem.Spec PyProof.Rows L2 Wt
theorem order_busy {st : Sto} {a le li : Nat} {kl : List Nat} {R : RmS} (M : RoomAt st a kl le li R) (O : R.Ok) {w p : Int} {k : Str} (h0 : 0 ≤ w) (h1 : w < R.known.length) (hk : k = kHold ∨ k = kGo ∨ k = kMove) (p0 : 0 ≤ p) (p1 : p ≤ if k = kMove then R.L else 0)
    (hf : (R.now, w) ∈ R.letters.map fun c => (c.1, c.2.1)) : d_Room_order [.loc a, .int w, .str k, .int p] st = .exc 20 st := by
  have aw := asked_watcher_ok M h0 h1
  have o1 := O.len1
  have o2 := O.few
  have e1 := kinds_in hk st
  have e2 := pairs_L1 M (by omega)
  have e3 := EqPair.fIn (st := st) (x := (R.now, w)) (IsL.lst (l := (R.letters.map fun c => (c.1, c.2.1)).map pairD)) ⟨trivial, trivial⟩ fun _ _ => ⟨trivial, trivial⟩
  rw [decide_eq_true hf] at e3
  have hst := ok_strs hk
  have kq := eq_kind hst ok_move st
  have y1 : X_Room_order_1 [some (.loc a), some (.int w), some (.str k), some (.int p), none] st = .ok (.int (if k = kMove then R.L else 0)) st := by
    by_cases hm : k = kMove
    · rw [decide_eq_true hm] at kq
      rw [if_pos hm]
      simp [X_Room_order_1, kq, M.ob]
    · rw [decide_eq_false hm] at kq
      rw [if_neg hm]
      simp [X_Room_order_1, kq, M.ob]
  simp only [cmdD] at *
  simp [d_Room_order, run_ap, B_Room_order, M.ob, M.lt, ms_aw, aw, Ty.sub, e1, is_whole_int, y1, p0, p1, e2, e3, -List.map_map]
theorem bring_no {st : Sto} {a le li : Nat} {kl : List Nat} {R : RmS} (M : RoomAt st a kl le li R) {l w : Int} (h : ¬ (0 ≤ l ∧ l < R.letters.length)) : d_Room_bring [.loc a, .int l, .int w] st = .exc 18 st := by
  by_cases h0 : 0 ≤ l
  · have h2 : ¬ l < (R.letters.length : Int) := fun z => h ⟨h0, z⟩
    simp [d_Room_bring, run_ap, B_Room_bring, M.ob, M.lt, is_whole_int, h0, h2]
  · simp [d_Room_bring, run_ap, B_Room_bring, M.ob, M.lt, is_whole_int, h0]
def RmS.rest (R : RmS) : Bool := R.known.all fun cs => decide (cs.length = R.letters.length)
theorem at_rest_ok {st : Sto} {a le li : Nat} {kl : List Nat} {R : RmS} (M : RoomAt st a kl le li R) (O : R.Ok) : d_Room_at_rest [.loc a] st = .ok (.bl R.rest) st := by
  have hz : (kl.zip R.known).map (fun q => D.loc q.1) = kl.map .loc := by
    rw [show (fun q : Nat × List Cmd => D.loc q.1) = D.loc ∘ Prod.fst from rfl, ← List.map_map, List.map_fst_zip (by rw [M.len]; exact Nat.le_refl _)]
  have hz2 : (kl.zip R.known).map (fun q => decide (q.2.length = R.letters.length)) = R.known.map fun cs => decide (cs.length = R.letters.length) := by
    rw [show (fun q : Nat × List Cmd => decide (q.2.length = R.letters.length)) = (fun cs => decide (cs.length = R.letters.length)) ∘ Prod.snd from rfl, ← List.map_map, List.map_snd_zip (by rw [M.len]; exact Nat.le_refl _)]
  have h1 : ∀ v1, L_Room_at_rest_1 [some (.loc a), v1] st = .ok ((R.known.map fun cs => decide (cs.length = R.letters.length)).map .bl) st := fun v1 => by
    have := lc_bls (keep := fun _ => true) (vs := [1]) (g := gVar 1) (A := (dOp fEq (dCall fLen (aCons (dVar 1) aNil)) (dCall fLen (aCons (dFld "letters" (dVar 0)) aNil)))) (env := [some (.loc a), v1]) (st := st) (enc := fun q : Nat × List Cmd => D.loc q.1) (fun q => decide (q.2.length = R.letters.length)) (kl.zip R.known)
      (fun q hq => ⟨_, rfl, by
        obtain ⟨i, hi⟩ := List.getElem?_of_mem hq
        obtain ⟨q1, q2⟩ := q
        rw [List.getElem?_zip_eq_some] at hi
        have := M.kn i q1 q2 hi.1 hi.2
        simp [wipeE, this, M.ob, M.lt]
        omega⟩) (by
        have := O.h1
        rw [List.length_zip, M.len]
        omega) rfl
    rw [hz, hz2] at this
    simp [L_Room_at_rest_1, M.ob, this, -List.map_map]
  simp [d_Room_at_rest, pureF_ap, run_ap, B_Room_at_rest, h1, blsOf_map, allB_map, RmS.rest, -List.map_map]
theorem knows_ok {st : Sto} {a le li : Nat} {kl : List Nat} {R : RmS} (M : RoomAt st a kl le li R) (O : R.Ok) {w : Int} (h0 : 0 ≤ w) (h1 : w < R.known.length) :
    d_Room_knows [.loc a, .int w] st = .ok (.loc st.length) (st ++ [.list ((isort leC (R.known.getD w.toNat [])).map cmdD)]) := by
  have aw := asked_watcher_ok M h0 h1
  obtain ⟨kw, hkw⟩ : ∃ i, kl[w.toNat]? = some i := ⟨_, List.getElem?_eq_getElem (by rw [M.len]; omega)⟩
  obtain ⟨cs, hcs⟩ : ∃ i, R.known[w.toNat]? = some i := ⟨_, List.getElem?_eq_getElem (by omega)⟩
  have hcg : R.known.getD w.toNat [] = cs := by rw [List.getD_eq_getElem?_getD, hcs]; rfl
  have hkc := M.kn _ _ _ hkw hcs
  have hat := atI_mapS (f := D.loc) h0 hkw
  have hz := srtK_some (sortOk_cmds cs)
  have hs := isort_cmds cs
  rw [hcg]
  simp [d_Room_knows, run_ap, B_Room_knows, M.ob, ms_aw, aw, hat, hkc, hz, hs]
theorem tale_ok {st : Sto} {a le li : Nat} {kl : List Nat} {R : RmS} (M : RoomAt st a kl le li R) : d_Room_tale [.loc a] st = .ok (.loc st.length) (st ++ [.list R.lines]) := by
  simp [d_Room_tale, run_ap, B_Room_tale, M.ob, M.ln]
/-! a new room -/
theorem lc_new {v : Nat} {env : En} : ∀ (xs acc : List D) (st : Sto), acc.length + xs.length ≤ 16777216 → lcIt (fun _ => true) [v] (gVar v) bYes (dCel (lLst aNil)) env xs acc st = .ok (acc ++ (List.range xs.length).map fun i => D.loc (st.length + i)) (st ++ List.replicate xs.length (.list []))
  | [], acc, st, _ => by
    show (if true = true then _ else _) = _
    rw [if_pos rfl]
    simp
  | x :: r, acc, st, h => by
    rw [List.length_cons] at h
    have ih := lc_new (v := v) (env := env) r (acc ++ [.loc st.length]) (st ++ [.list []]) (by rw [List.length_append]; simp; omega)
    show (if true = true then _ else _) = _
    rw [if_pos rfl]
    show ((noX (bYes _ st)).bind fun b s => if b then (noX (dCel (lLst aNil) _ s)).bind fun d s => if szOk (acc.length + 1) then lcIt (fun _ => true) [v] (gVar v) bYes (dCel (lLst aNil)) env r (acc ++ [d]) s else .bad else lcIt (fun _ => true) [v] (gVar v) bYes (dCel (lLst aNil)) env r acc s) = _
    have hz : acc.length + 1 ≤ 16777216 := by omega
    have hz2 : acc.length ≤ 16777215 := by omega
    simp [hz2]
    rw [ih, List.length_append, List.range_succ_eq_map, List.map_cons, List.map_map, List.append_assoc, List.append_assoc]
    simp [List.replicate_succ, Function.comp_def, Nat.add_assoc, Nat.add_comm 1]
/-- the places of a new room's lists -/
def klN (n W : Nat) : List Nat := (List.range W).map fun i => n + i
theorem klN_len (n W : Nat) : (klN n W).length = W := by simp [klN]
theorem klN_mem {n W j : Nat} : j ∈ klN n W ↔ n ≤ j ∧ j < n + W := by
  simp only [klN, List.mem_map, List.mem_range]
  constructor
  · rintro ⟨i, hi, rfl⟩; omega
  · intro h; exact ⟨j - n, by omega, by omega⟩
theorem klN_nd (n W : Nat) : (klN n W).Nodup := List.nodup_range.map (f := fun i => n + i) fun a b h e => h (by omega)
theorem room_new {L : Int} {W : Nat} (h1 : 1 ≤ L) (h2 : L ≤ 1000000000) (w1 : 1 ≤ W) (w4 : W ≤ 4) (st : Sto) :
    mkK st.length (d_Room_init [.loc st.length, .int L, .int W] (st ++ [.inst 5 []])) = .ok (.loc st.length) (st ++ (Cell.inst 5 [.int L, .lst ((klN (st.length + 1) W).map .loc), .loc (st.length + 1 + W), .int 0, .loc (st.length + 2 + W)] :: (List.replicate W (Cell.list []) ++ [.list [], .list []]))) := by
  have e1 := asked_length_ok h1 h2 (st ++ [.inst 5 []])
  have hr : (rngD 0 W).length = W := by rw [rng_map]; simp
  have h3 : ∀ st' v, L_Room_init_1 [some (.loc st.length), some (.int L), some (.int W), v] st' = .ok ((klN st'.length W).map .loc) (st' ++ List.replicate W (.list [])) := fun st' v => by
    have := lc_new (v := 3) (env := [some (.loc st.length), some (.int L), some (.int W), v]) (rngD 0 W) [] st' (by rw [hr]; simp; omega)
    rw [hr] at this
    have hb : (W : Int) < 4611686018427387904 := by omega
    have hb2 : (-4611686018427387904 : Int) ≤ W := by omega
    simp [L_Room_init_1, this, klN, hb, hb2]
  have hw : (1 : Int) ≤ W := by omega
  have hw2 : (W : Int) ≤ 4 := by omega
  simp [d_Room_init, run_ap, B_Room_init, e1, is_whole_int, h3, hw, hw2]
  constructor <;> omega
theorem new_at {L : Int} {W : Nat} (st r : Sto) :
    RoomAt (st ++ (Cell.inst 5 [.int L, .lst ((klN (st.length + 1) W).map .loc), .loc (st.length + 1 + W), .int 0, .loc (st.length + 2 + W)] :: (List.replicate W (Cell.list []) ++ [.list [], .list []])) ++ r) st.length (klN (st.length + 1) W) (st.length + 1 + W) (st.length + 2 + W) ⟨L, 0, [], List.replicate W [], []⟩ := by
  have hl : ∀ (c : Cell), (st ++ (c :: (List.replicate W (Cell.list []) ++ [.list [], .list []])) ++ r) = (st ++ [c]) ++ (List.replicate W (Cell.list []) ++ ([.list [], .list []] ++ r)) := fun c => by simp
  rw [hl]
  have g1 : ∀ (c : Cell), (st ++ [c]).length = st.length + 1 := fun c => by simp
  refine ⟨by simp, ?_, ?_, by rw [klN_len, List.length_replicate], fun i k cs h h2 => ?_, ?_⟩
  · rw [List.getElem?_append_right (by rw [g1]; omega), List.getElem?_append_right (by rw [g1, List.length_replicate]; omega), g1, List.length_replicate, show st.length + 1 + W - (st.length + 1) - W = 0 by omega]
    rfl
  · rw [List.getElem?_append_right (by rw [g1]; omega), List.getElem?_append_right (by rw [g1, List.length_replicate]; omega), g1, List.length_replicate, show st.length + 2 + W - (st.length + 1) - W = 1 by omega]
    rfl
  · have hi := (List.getElem?_eq_some_iff.mp h2).1
    rw [List.length_replicate] at hi
    have hc : cs = [] := (List.mem_replicate.mp (List.mem_of_getElem? h2)).2
    have hk : k = st.length + 1 + i := by
      rw [klN, List.getElem?_map, List.getElem?_range hi] at h
      exact (Option.some.inj h).symm
    subst hc hk
    rw [List.getElem?_append_right (by rw [g1]; omega), List.getElem?_append_left (by rw [g1, List.length_replicate]; omega), g1, show st.length + 1 + i - (st.length + 1) = i by omega, List.getElem?_replicate, if_pos hi]
    rfl
  · simp only [List.nodup_cons, List.mem_cons, not_or, klN_mem]
    refine ⟨⟨?_, ?_, ?_⟩, ⟨?_, ?_⟩, ?_, klN_nd _ _⟩ <;> omega
theorem RoomAt.app {st : Sto} {a le li : Nat} {kl : List Nat} {R : RmS} (M : RoomAt st a kl le li R) (r : Sto) : RoomAt (st ++ r) a kl le li R :=
  ⟨(List.getElem?_append_left (get_lt M.ob)).trans M.ob, (List.getElem?_append_left (get_lt M.lt)).trans M.lt, (List.getElem?_append_left (get_lt M.ln)).trans M.ln, M.len, fun i k cs h1 h2 => (List.getElem?_append_left (get_lt (M.kn i k cs h1 h2))).trans (M.kn i k cs h1 h2), M.nd⟩
theorem RoomAt.off {st st' : Sto} {a le li : Nat} {kl F : List Nat} {R : RmS} (M : RoomAt st a kl le li R) (h : Off F st st') (hd : ∀ j ∈ a :: le :: li :: kl, j ∉ F) : RoomAt st' a kl le li R :=
  ⟨(h.2 a (hd a (by simp))).trans M.ob, (h.2 le (hd le (by simp))).trans M.lt, (h.2 li (hd li (by simp))).trans M.ln, M.len, fun i k cs h1 h2 => (h.2 k (hd k (by simp [List.mem_of_getElem? h1]))).trans (M.kn i k cs h1 h2), M.nd⟩
theorem new_ok {L : Int} {W : Nat} (h1 : 1 ≤ L) (h2 : L ≤ 1000000000) (w4 : W ≤ 4) : (⟨L, 0, [], List.replicate W [], []⟩ : RmS).Ok where
  L0 := h1
  L1 := h2
  now0 := Int.le_refl _
  ok := nofun
  keys := List.nodup_nil
  knd := fun cs h => by rw [(List.mem_replicate.mp h).2]; exact List.nodup_nil
  sub := fun cs h => by rw [(List.mem_replicate.mp h).2]; nofun
  len1 := Nat.le_refl _
  len2 := fun cs h => by rw [(List.mem_replicate.mp h).2]; exact Nat.le_refl _
  h1 := by rw [List.length_replicate]; exact w4
  few := by show 0 ≤ 298; decide
theorem nodup1 {α : Type} (x : α) : [x].Nodup := by simp
theorem mem_put {R : RmS} {w : Nat} {c : Cmd} {cs : List Cmd} (h : cs ∈ R.put w c) : cs ∈ R.known ∨ ∃ k, k ∈ R.known ∧ k = R.known.getD w [] ∧ cs = k ++ [c] := by
  unfold RmS.put at h
  by_cases hw : w < R.known.length
  · rcases List.mem_or_eq_of_mem_set h with h | h
    · exact .inl h
    · exact .inr ⟨R.known.getD w [], by rw [List.getD_eq_getElem?_getD, List.getElem?_eq_getElem hw]; exact List.getElem_mem hw, rfl, h⟩
  · rw [List.set_eq_of_length_le (by omega)] at h
    exact .inl h
theorem RmS.Ok.tick {R : RmS} (O : R.Ok) {m : Int} (hm : 1 ≤ m) (hf : R.lines.length ≤ 297) : (tickR R m).Ok where
  L0 := O.L0
  L1 := O.L1
  now0 := by have := O.now0; show 0 ≤ R.now + m; omega
  ok := O.ok
  keys := O.keys
  knd := O.knd
  sub := O.sub
  len1 := by have := O.len1; show _ ≤ (R.lines ++ [_]).length; rw [List.length_append]; exact Nat.le_succ_of_le this
  len2 := fun cs h => by have := O.len2 cs h; show _ ≤ (R.lines ++ [_]).length; rw [List.length_append]; exact Nat.le_succ_of_le this
  h1 := O.h1
  few := by show (R.lines ++ [_]).length ≤ _; rw [List.length_append]; exact Nat.succ_le_succ hf
theorem RmS.Ok.bring {R : RmS} (O : R.Ok) {l w : Int} {c : Cmd} (hc : c ∈ R.letters) (hf : R.lines.length ≤ 297) : (bringR R l w c).Ok where
  L0 := O.L0
  L1 := O.L1
  now0 := O.now0
  ok := O.ok
  keys := O.keys
  knd := fun cs h => by
    unfold bringR at h
    dsimp only at h
    split at h
    · exact O.knd cs h
    · rename_i hn
      rcases mem_put h with h | ⟨k, hk, ek, rfl⟩
      · exact O.knd cs h
      · rw [← ek] at hn
        exact List.nodup_append.mpr ⟨O.knd k hk, nodup1 _, fun a ha b hb => by
          rw [List.mem_singleton.mp hb]
          exact fun e => hn (e ▸ ha)⟩
  sub := fun cs h c' hc' => by
    unfold bringR at h
    dsimp only at h
    split at h
    · exact O.sub cs h c' hc'
    · rcases mem_put h with h | ⟨k, hk, ek, rfl⟩
      · exact O.sub cs h c' hc'
      · rcases List.mem_append.mp hc' with h | h
        · exact O.sub k hk c' h
        · rw [List.mem_singleton.mp h]; exact hc
  len1 := by have := O.len1; show _ ≤ (R.lines ++ [_]).length; rw [List.length_append]; exact Nat.le_succ_of_le this
  len2 := fun cs h => by
    show _ ≤ (R.lines ++ [_]).length
    rw [List.length_append, List.length_singleton]
    unfold bringR at h
    dsimp only at h
    split at h
    · exact Nat.le_succ_of_le (O.len2 cs h)
    · rcases mem_put h with h | ⟨k, hk, ek, rfl⟩
      · exact Nat.le_succ_of_le (O.len2 cs h)
      · rw [List.length_append, List.length_singleton]
        exact Nat.succ_le_succ (O.len2 k hk)
  h1 := by
    unfold bringR RmS.put
    dsimp only
    split
    · exact O.h1
    · rw [List.length_set]; exact O.h1
  few := by show (R.lines ++ [_]).length ≤ _; rw [List.length_append]; exact Nat.succ_le_succ hf
theorem RmS.Ok.order {R : RmS} (O : R.Ok) {w p : Int} {k : Str} (hk : k = kHold ∨ k = kGo ∨ k = kMove) (hn : (R.now, w) ∉ R.letters.map fun c => (c.1, c.2.1)) (hf : R.lines.length ≤ 297) : (orderR R w k p).Ok where
  L0 := O.L0
  L1 := O.L1
  now0 := O.now0
  ok := fun c h => by
    rcases List.mem_append.mp h with h | h
    · exact O.ok c h
    · rw [List.mem_singleton.mp h]; exact ok_strs hk
  keys := by
    show ((R.letters ++ [_]).map _).Nodup
    rw [List.map_append]
    exact List.nodup_append.mpr ⟨O.keys, nodup1 _, fun a ha b hb => by
      rw [List.mem_singleton.mp hb]
      exact fun e => hn (by have e' : a = (R.now, w) := e; rw [← e']; exact ha)⟩
  knd := fun cs h => by
    rcases mem_put h with h | ⟨k', hk', ek, rfl⟩
    · exact O.knd cs h
    · exact List.nodup_append.mpr ⟨O.knd k' hk', nodup1 _, fun a ha b hb => by
        rw [List.mem_singleton.mp hb]
        exact fun e => hn (List.mem_map.mpr ⟨a, O.sub k' hk' a ha, by rw [e]⟩)⟩
  sub := fun cs h c hc => by
    rcases mem_put h with h | ⟨k', hk', ek, rfl⟩
    · exact List.mem_append_left _ (O.sub cs h c hc)
    · rcases List.mem_append.mp hc with h | h
      · exact List.mem_append_left _ (O.sub k' hk' c h)
      · exact List.mem_append_right _ h
  len1 := by have := O.len1; show (R.letters ++ [_]).length ≤ (R.lines ++ [_]).length; rw [List.length_append, List.length_append]; exact Nat.succ_le_succ this
  len2 := fun cs h => by
    show _ ≤ (R.lines ++ [_]).length
    rw [List.length_append, List.length_singleton]
    rcases mem_put h with h | ⟨k', hk', ek, rfl⟩
    · exact Nat.le_succ_of_le (O.len2 cs h)
    · rw [List.length_append, List.length_singleton]
      exact Nat.succ_le_succ (O.len2 k' hk')
  h1 := by show (R.known.set _ _).length ≤ 4; rw [List.length_set]; exact O.h1
  few := by show (R.lines ++ [_]).length ≤ _; rw [List.length_append]; exact Nat.succ_le_succ hf
/-! ## what the law holds -/
structure HeldAt (st : Sto) (h kn : Nat) (kl : List Nat) (le : Nat) (R : RmS) : Prop where
  ob : st[h]? = some (Cell.dK [(.inr "now", .int R.now), (.inr "letters", .loc le), (.inr "known", .loc kn)])
  ok : st[kn]? = some (Cell.list (kl.map .loc))
  lt : st[le]? = some (Cell.list (R.letters.map cmdD))
  len : kl.length = R.known.length
  ls : ∀ (i k : Nat) (cs : List Cmd), kl[i]? = some k → R.known[i]? = some cs → st[k]? = some (Cell.list (cs.map cmdD))
  nd : (h :: kn :: le :: kl).Nodup
theorem HeldAt.app {st : Sto} {h kn le : Nat} {kl : List Nat} {R : RmS} (M : HeldAt st h kn kl le R) (r : Sto) : HeldAt (st ++ r) h kn kl le R :=
  ⟨(List.getElem?_append_left (get_lt M.ob)).trans M.ob, (List.getElem?_append_left (get_lt M.ok)).trans M.ok, (List.getElem?_append_left (get_lt M.lt)).trans M.lt, M.len, fun i k cs h1 h2 => (List.getElem?_append_left (get_lt (M.ls i k cs h1 h2))).trans (M.ls i k cs h1 h2), M.nd⟩
theorem HeldAt.off {st st' : Sto} {h kn le : Nat} {kl F : List Nat} {R : RmS} (M : HeldAt st h kn kl le R) (o : Off F st st') (hd : ∀ j ∈ h :: kn :: le :: kl, j ∉ F) : HeldAt st' h kn kl le R :=
  ⟨(o.2 h (hd h (by simp))).trans M.ob, (o.2 kn (hd kn (by simp))).trans M.ok, (o.2 le (hd le (by simp))).trans M.lt, M.len, fun i k cs h1 h2 => (o.2 k (hd k (by simp [List.mem_of_getElem? h1]))).trans (M.ls i k cs h1 h2), M.nd⟩
theorem put_kn' {st s3 : Sto} {kl : List Nat} {known : List (List Cmd)} (hlen : kl.length = known.length) (hkn : ∀ (i k : Nat) (cs : List Cmd), kl[i]? = some k → known[i]? = some cs → st[k]? = some (Cell.list (cs.map cmdD))) (nd : kl.Nodup) {w kw : Nat} (hkw : kl[w]? = some kw) {cs' : List Cmd} (hoff : ∀ j, j ∈ kl → j ≠ kw → s3[j]? = st[j]?) (hat : s3[kw]? = some (Cell.list (cs'.map cmdD))) :
    ∀ (i k : Nat) (cs : List Cmd), kl[i]? = some k → (known.set w cs')[i]? = some cs → s3[k]? = some (Cell.list (cs.map cmdD)) := fun i k cs h1 h2 => by
  by_cases e : w = i
  · subst e
    rw [hkw] at h1
    cases h1
    have : (known.set w cs')[w]? = some cs' := List.getElem?_set_self (by
      have := (List.getElem?_eq_some_iff.mp hkw).1
      rw [hlen] at this
      exact this)
    rw [this] at h2
    cases h2
    exact hat
  · rw [List.getElem?_set_ne e] at h2
    rw [hoff k (List.mem_of_getElem? h1) fun ek => e ((List.getElem?_inj (List.getElem?_eq_some_iff.mp hkw).1 nd).mp (by rw [hkw, h1, ek]))]
    exact hkn i k cs h1 h2
@[simp] theorem gs_held {st : Sto} {h kn le : Nat} {kl : List Nat} {R : RmS} (M : HeldAt st h kn kl le R) : getS' st (.loc h) = some [(.inr "now", .int R.now), (.inr "letters", .loc le), (.inr "known", .loc kn)] := by
  simp [getS', M.ob]
theorem get_now {st : Sto} {h kn le : Nat} {kl : List Nat} {R : RmS} (M : HeldAt st h kn kl le R) {A : Den} {env : En} (hA : A env st = .ok (.loc h) st) : dGetS A (dC (.str "now")) env st = .ok (.int R.now) st := by
  unfold dGetS
  rw [hA]
  show (match getS' st (.loc h), keyOfD (.str "now") with | some kvs, some k => _ | _, _ => _) = _
  rw [gs_held M]
  rfl
theorem get_letters {st : Sto} {h kn le : Nat} {kl : List Nat} {R : RmS} (M : HeldAt st h kn kl le R) {A : Den} {env : En} (hA : A env st = .ok (.loc h) st) : dGetS A (dC (.str "letters")) env st = .ok (.loc le) st := by
  unfold dGetS
  rw [hA]
  show (match getS' st (.loc h), keyOfD (.str "letters") with | some kvs, some k => _ | _, _ => _) = _
  rw [gs_held M]
  rfl
theorem get_known {st : Sto} {h kn le : Nat} {kl : List Nat} {R : RmS} (M : HeldAt st h kn kl le R) {A : Den} {env : En} (hA : A env st = .ok (.loc h) st) : dGetS A (dC (.str "known")) env st = .ok (.loc kn) st := by
  unfold dGetS
  rw [hA]
  show (match getS' st (.loc h), keyOfD (.str "known") with | some kvs, some k => _ | _, _ => _) = _
  rw [gs_held M]
  rfl
inductive Deed where
  | order (w : Int) (k : Str) (p : Int) | bring (l w : Int) | tick (m : Int) | seen (w p : Int)
  deriving DecidableEq
abbrev Deed.d : Deed → D
  | .order w k p => .tup [.str "order", .int w, .str k, .int p]
  | .bring l w => .tup [.str "bring", .int l, .int w]
  | .tick m => .tup [.str "tick", .int m]
  | .seen w p => .tup [.str "seen", .int w, .int p]
def letR (R : RmS) (l : Int) : Cmd := R.letters.getD l.toNat (0, 0, kGo, 0)
def knR (R : RmS) (w : Int) : List Cmd := R.known.getD w.toNat []
def canR (R : RmS) : Deed → Prop
  | .order w k p => 0 ≤ w ∧ w < R.known.length ∧ (k = kHold ∨ k = kGo ∨ k = kMove) ∧ 0 ≤ p ∧ (p ≤ if k = kMove then R.L else 0) ∧ (R.now, w) ∉ R.letters.map fun c => (c.1, c.2.1)
  | .bring l w => 0 ≤ l ∧ l < R.letters.length ∧ 0 ≤ w ∧ w < R.known.length
  | .tick m => 1 ≤ m
  | .seen w p => 0 ≤ w ∧ w < R.known.length ∧ (standL R.L (knR R w) R.now).1 = p
def doR (R : RmS) : Deed → RmS
  | .order w k p => orderR R w k p
  | .bring l w => bringR R l w (letR R l)
  | .tick m => tickR R m
  | .seen _ _ => R
def askR (R : RmS) : Deed → D
  | .order _ _ _ => .int R.letters.length
  | .bring l w => .bl (!decide (letR R l ∈ knR R w))
  | .tick m => .int (R.now + m)
  | .seen w _ => standD (standL R.L (knR R w) R.now)
theorem letR_at {R : RmS} {l : Int} (h0 : 0 ≤ l) (h1 : l < R.letters.length) : R.letters[l.toNat]? = some (letR R l) := by
  rw [letR, List.getD_eq_getElem?_getD, List.getElem?_eq_getElem (by omega)]
  rfl
end Wt.Lk10

namespace Wt.Lk10
open PySem PySem.Spec PyProof.Rows L2 Wt
theorem ok_str_order : PyData.strOk "order" = true := by decide +kernel
theorem ok_str_bring : PyData.strOk "bring" = true := by decide +kernel
theorem ok_str_tick : PyData.strOk "tick" = true := by decide +kernel
theorem ok_str_seen : PyData.strOk "seen" = true := by decide +kernel
@[simp] theorem eq_ot (st : Sto) : fEq (.str "order") (.str "tick") st = .ok (.bl false) st := by rw [eq_kind ok_str_order ok_str_tick, decide_eq_false (by decide +kernel)]
@[simp] theorem eq_ob (st : Sto) : fEq (.str "order") (.str "bring") st = .ok (.bl false) st := by rw [eq_kind ok_str_order ok_str_bring, decide_eq_false (by decide +kernel)]
@[simp] theorem eq_oo (st : Sto) : fEq (.str "order") (.str "order") st = .ok (.bl true) st := by rw [eq_kind ok_str_order ok_str_order, decide_eq_true rfl]
@[simp] theorem eq_bo (st : Sto) : fEq (.str "bring") (.str "order") st = .ok (.bl false) st := by rw [eq_kind ok_str_bring ok_str_order, decide_eq_false (by decide +kernel)]
@[simp] theorem eq_bb (st : Sto) : fEq (.str "bring") (.str "bring") st = .ok (.bl true) st := by rw [eq_kind ok_str_bring ok_str_bring, decide_eq_true rfl]
@[simp] theorem eq_bt (st : Sto) : fEq (.str "bring") (.str "tick") st = .ok (.bl false) st := by rw [eq_kind ok_str_bring ok_str_tick, decide_eq_false (by decide +kernel)]
@[simp] theorem eq_tt (st : Sto) : fEq (.str "tick") (.str "tick") st = .ok (.bl true) st := by rw [eq_kind ok_str_tick ok_str_tick, decide_eq_true rfl]
@[simp] theorem eq_to (st : Sto) : fEq (.str "tick") (.str "order") st = .ok (.bl false) st := by rw [eq_kind ok_str_tick ok_str_order, decide_eq_false (by decide +kernel)]
@[simp] theorem eq_tb (st : Sto) : fEq (.str "tick") (.str "bring") st = .ok (.bl false) st := by rw [eq_kind ok_str_tick ok_str_bring, decide_eq_false (by decide +kernel)]
@[simp] theorem eq_os (st : Sto) : fEq (.str "order") (.str "seen") st = .ok (.bl false) st := by rw [eq_kind ok_str_order ok_str_seen, decide_eq_false (by decide +kernel)]
@[simp] theorem eq_so (st : Sto) : fEq (.str "seen") (.str "order") st = .ok (.bl false) st := by rw [eq_kind ok_str_seen ok_str_order, decide_eq_false (by decide +kernel)]
@[simp] theorem eq_sb (st : Sto) : fEq (.str "seen") (.str "bring") st = .ok (.bl false) st := by rw [eq_kind ok_str_seen ok_str_bring, decide_eq_false (by decide +kernel)]
@[simp] theorem eq_st (st : Sto) : fEq (.str "seen") (.str "tick") st = .ok (.bl false) st := by rw [eq_kind ok_str_seen ok_str_tick, decide_eq_false (by decide +kernel)]
@[simp] theorem eq_ss (st : Sto) : fEq (.str "seen") (.str "seen") st = .ok (.bl true) st := by rw [eq_kind ok_str_seen ok_str_seen, decide_eq_true rfl]
@[simp] theorem at4_0 (a b c d : D) : atI [a, b, c, d] 0 = some a := rfl
@[simp] theorem at4_1 (a b c d : D) : atI [a, b, c, d] 1 = some b := rfl
@[simp] theorem at4_2 (a b c d : D) : atI [a, b, c, d] 2 = some c := rfl
@[simp] theorem at4_3 (a b c d : D) : atI [a, b, c, d] 3 = some d := rfl
@[simp] theorem at3_0 (a b c : D) : atI [a, b, c] 0 = some a := rfl
@[simp] theorem at3_1 (a b c : D) : atI [a, b, c] 1 = some b := rfl
@[simp] theorem at3_2 (a b c : D) : atI [a, b, c] 2 = some c := rfl
@[simp] theorem at2_0 (a b : D) : atI [a, b] 0 = some a := rfl
@[simp] theorem at2_1 (a b : D) : atI [a, b] 1 = some b := rfl
theorem put_now {st : Sto} {h kn le : Nat} {kl : List Nat} {R : RmS} (M : HeldAt st h kn kl le R) {A B : Den} {env : En} {n : Int} (hB : B env st = .ok (.int n) st) (hA : A env st = .ok (.loc h) st) :
    sPutS A (dC (.str "now")) B env st = .nx env (st.set h (.dK [(.inr "now", .int n), (.inr "letters", .loc le), (.inr "known", .loc kn)])) := by
  unfold sPutS
  rw [hB]
  show Rs.then env (A env st) _ = _
  rw [hA]
  show (match D.loc h, keyOfD (.str "now") with | .loc i, some ks => _ | _, _ => Fl.bad) = _
  show (match st[h]? with | some (.dK kvs) => _ | _ => Fl.bad) = _
  rw [M.ob]
  rfl
theorem ms_or : ms_order 5 = some (4, d_Room_order) := rfl
theorem ms_br : ms_bring 5 = some (3, d_Room_bring) := rfl
theorem ms_ti : ms_tick 5 = some (2, d_Room_tick) := rfl
theorem ms_st : ms_stands 5 = some (2, d_Room_stands) := rfl
def Deed.live : Deed → Bool
  | .seen _ _ => false
  | _ => true
theorem do_ok {R : RmS} (O : R.Ok) {d : Deed} (hc : canR R d) (hf : R.lines.length ≤ 297) : (doR R d).Ok := by
  cases d with
  | order w k p => exact O.order hc.2.2.1 hc.2.2.2.2.2 hf
  | bring l w => exact O.bring (List.mem_of_getElem? (letR_at hc.1 hc.2.1)) hf
  | tick m => exact O.tick hc hf
  | seen w p => exact O
theorem do_lines {R : RmS} {d : Deed} (hd : d.live = true) : (doR R d).lines = R.lines ++ [d.d] := by
  cases d with
  | seen w p => cases hd
  | _ => rfl
theorem do_L {R : RmS} {d : Deed} : (doR R d).L = R.L := by cases d <;> rfl
theorem do_W {R : RmS} {d : Deed} : (doR R d).known.length = R.known.length := by
  cases d with
  | order w k p => exact List.length_set ..
  | bring l w =>
    show (bringR R l w _).known.length = _
    unfold bringR RmS.put
    dsimp only
    split
    · rfl
    · exact List.length_set ..
  | tick m => rfl
  | seen w p => rfl
/-! ## tales -/
def Deed.sok : Deed → Prop
  | .order _ k _ => PyData.strOk k = true
  | _ => True
theorem EqDeed : EqOn Deed.sok Deed.d 1 where
  pl q _ := by cases q <;> rfl
  cl q h := by
    cases q with
    | order w k p =>
      have h' : PyData.strOk k = true := h
      simp [D.py, D.pys, PyData.canLay0, PyData.canLayAll0, h', ok_str_order]
    | bring l w => simp [D.py, D.pys, PyData.canLay0, PyData.canLayAll0, ok_str_bring]
    | tick m => simp [D.py, D.pys, PyData.canLay0, PyData.canLayAll0, ok_str_tick]
    | seen w p => simp [D.py, D.pys, PyData.canLay0, PyData.canLayAll0, ok_str_seen]
  dp q _ := by cases q <;> simp [D.py, D.pys, PyData.depth, PyData.depthAll]
  eq q r h1 h2 := by
    cases q <;> cases r <;> simp [D.py, D.pys, PyData.eqv, PyData.eqvAll]
    all_goals exact fun h => absurd h (by decide +kernel)
theorem sizes_ok (env : En) (st : Sto) : dDisp ["bring", "tick", "seen"] (aCons (dC (.int 3)) (aCons (dC (.int 2)) (aCons (dC (.int 3)) aNil))) env st = .ok (.loc st.length) (st ++ [.dK [(.inr "bring", .int 3), (.inr "tick", .int 2), (.inr "seen", .int 3)]]) := by
  have h : (aCons (dC (.int 3)) (aCons (dC (.int 2)) (aCons (dC (.int 3)) aNil))) env (st ++ [.dK []]) = .ok [.int 3, .int 2, .int 3] (st ++ [.dK []]) := rfl
  have h2 : (st ++ [Cell.dK []])[st.length]? = some (.dK []) := get_at0
  unfold dDisp
  rw [h]
  show (match (st ++ [Cell.dK []])[st.length]? with | some (.dK []) => _ | _ => _) = _
  rw [h2]
  show Rs.ok (D.loc st.length) ((st ++ [Cell.dK []]).set st.length (.dK (mrgS _))) = _
  rw [List.set_append_right _ _ (Nat.le_refl _), Nat.sub_self]
  rfl
theorem line_ne {st : Sto} {d : Deed} (h : d.sok) : fEq d.d (.tup []) st = .ok (.bl false) st := by
  unfold fEq
  rw [eqB_of (by cases d <;> exact EqDeed.ok (by decide) h) rfl]
  cases d <;> rfl
theorem line_ok {d : Deed} (h : d.sok) (st : Sto) : d_is_line [d.d] st = .ok (.bl true) st := by
  have h0 := fun (s : Sto) => line_ne (st := s) h
  cases d with
  | order w k p => simp [d_is_line, pureF_ap, run_ap, B_is_line, Ty.sub, h0, is_whole_int]
  | bring l w =>
    have h1 : ∀ v1 v2 s, L_is_line_1 [some (.tup [.str "bring", .int l, .int w]), v1, v2] s = .ok ([true, true].map .bl) s := fun v1 v2 s => by
      have := lc_bls (keep := fun _ => true) (vs := [2]) (g := gVar 2) (A := (dFn 1 d_is_whole (aCons (dVar 2) aNil))) (env := [some (.tup [.str "bring", .int l, .int w]), v1, v2]) (st := s) (enc := D.int) (fun _ => true) [l, w] (fun x hx => ⟨_, rfl, by simp [wipeE, is_whole_int]⟩) (by show 2 ≤ _; decide) rfl
      simp only [List.map_cons, List.map_nil] at this ⊢
      have hs : fSl (.tup [.str "bring", .int l, .int w]) (some 1) none s = .ok (.tup [.int l, .int w]) s := rfl
      simp [L_is_line_1, hs, this]
    have h2 : ∀ v2, dGetS2 (dVar 1) (dOp fIx (dVar 0) (dC (.int 0))) (dC (.int 0)) [some (.tup [.str "bring", .int l, .int w]), some (.loc st.length), v2] (st ++ [.dK [(.inr "bring", .int 3), (.inr "tick", .int 2), (.inr "seen", .int 3)]]) = .ok (.int 3) (st ++ [.dK [(.inr "bring", .int 3), (.inr "tick", .int 2), (.inr "seen", .int 3)]]) := fun v2 => by
      have hg : getS' (st ++ [Cell.dK [(.inr "bring", .int 3), (.inr "tick", .int 2), (.inr "seen", .int 3)]]) (.loc st.length) = some [(.inr "bring", .int 3), (.inr "tick", .int 2), (.inr "seen", .int 3)] := by simp [getS', get_at0]
      show (match getS' (st ++ [Cell.dK [(.inr "bring", .int 3), (.inr "tick", .int 2), (.inr "seen", .int 3)]]) (.loc st.length) with | some _ => _ | none => _) = _
      rw [hg]
      show (match getS' (st ++ [Cell.dK [(.inr "bring", .int 3), (.inr "tick", .int 2), (.inr "seen", .int 3)]]) (.loc st.length), keyOfD (.str "bring") with | some kvs, some k => _ | _, _ => _) = _
      rw [hg]
      rfl
    simp [d_is_line, pureF_ap, run_ap, B_is_line, Ty.sub, h0, is_whole_int, sizes_ok, h1, h2, blsOf, allB]
  | tick m =>
    have h1 : ∀ v1 v2 s, L_is_line_1 [some (.tup [.str "tick", .int m]), v1, v2] s = .ok ([true].map .bl) s := fun v1 v2 s => by
      have := lc_bls (keep := fun _ => true) (vs := [2]) (g := gVar 2) (A := (dFn 1 d_is_whole (aCons (dVar 2) aNil))) (env := [some (.tup [.str "tick", .int m]), v1, v2]) (st := s) (enc := D.int) (fun _ => true) [m] (fun x hx => ⟨_, rfl, by simp [wipeE, is_whole_int]⟩) (by show 1 ≤ _; decide) rfl
      simp only [List.map_cons, List.map_nil] at this ⊢
      have hs : fSl (.tup [.str "tick", .int m]) (some 1) none s = .ok (.tup [.int m]) s := rfl
      simp [L_is_line_1, hs, this]
    have h2 : ∀ v2, dGetS2 (dVar 1) (dOp fIx (dVar 0) (dC (.int 0))) (dC (.int 0)) [some (.tup [.str "tick", .int m]), some (.loc st.length), v2] (st ++ [.dK [(.inr "bring", .int 3), (.inr "tick", .int 2), (.inr "seen", .int 3)]]) = .ok (.int 2) (st ++ [.dK [(.inr "bring", .int 3), (.inr "tick", .int 2), (.inr "seen", .int 3)]]) := fun v2 => by
      have hg : getS' (st ++ [Cell.dK [(.inr "bring", .int 3), (.inr "tick", .int 2), (.inr "seen", .int 3)]]) (.loc st.length) = some [(.inr "bring", .int 3), (.inr "tick", .int 2), (.inr "seen", .int 3)] := by simp [getS', get_at0]
      show (match getS' (st ++ [Cell.dK [(.inr "bring", .int 3), (.inr "tick", .int 2), (.inr "seen", .int 3)]]) (.loc st.length) with | some _ => _ | none => _) = _
      rw [hg]
      show (match getS' (st ++ [Cell.dK [(.inr "bring", .int 3), (.inr "tick", .int 2), (.inr "seen", .int 3)]]) (.loc st.length), keyOfD (.str "tick") with | some kvs, some k => _ | _, _ => _) = _
      rw [hg]
      rfl
    simp [d_is_line, pureF_ap, run_ap, B_is_line, Ty.sub, h0, is_whole_int, sizes_ok, h1, h2, blsOf, allB]
  | seen l w =>
    have h1 : ∀ v1 v2 s, L_is_line_1 [some (.tup [.str "seen", .int l, .int w]), v1, v2] s = .ok ([true, true].map .bl) s := fun v1 v2 s => by
      have := lc_bls (keep := fun _ => true) (vs := [2]) (g := gVar 2) (A := (dFn 1 d_is_whole (aCons (dVar 2) aNil))) (env := [some (.tup [.str "seen", .int l, .int w]), v1, v2]) (st := s) (enc := D.int) (fun _ => true) [l, w] (fun x hx => ⟨_, rfl, by simp [wipeE, is_whole_int]⟩) (by show 2 ≤ _; decide) rfl
      simp only [List.map_cons, List.map_nil] at this ⊢
      have hs : fSl (.tup [.str "seen", .int l, .int w]) (some 1) none s = .ok (.tup [.int l, .int w]) s := rfl
      simp [L_is_line_1, hs, this]
    have h2 : ∀ v2, dGetS2 (dVar 1) (dOp fIx (dVar 0) (dC (.int 0))) (dC (.int 0)) [some (.tup [.str "seen", .int l, .int w]), some (.loc st.length), v2] (st ++ [.dK [(.inr "bring", .int 3), (.inr "tick", .int 2), (.inr "seen", .int 3)]]) = .ok (.int 3) (st ++ [.dK [(.inr "bring", .int 3), (.inr "tick", .int 2), (.inr "seen", .int 3)]]) := fun v2 => by
      have hg : getS' (st ++ [Cell.dK [(.inr "bring", .int 3), (.inr "tick", .int 2), (.inr "seen", .int 3)]]) (.loc st.length) = some [(.inr "bring", .int 3), (.inr "tick", .int 2), (.inr "seen", .int 3)] := by simp [getS', get_at0]
      show (match getS' (st ++ [Cell.dK [(.inr "bring", .int 3), (.inr "tick", .int 2), (.inr "seen", .int 3)]]) (.loc st.length) with | some _ => _ | none => _) = _
      rw [hg]
      show (match getS' (st ++ [Cell.dK [(.inr "bring", .int 3), (.inr "tick", .int 2), (.inr "seen", .int 3)]]) (.loc st.length), keyOfD (.str "seen") with | some kvs, some k => _ | _, _ => _) = _
      rw [hg]
      rfl
    simp [d_is_line, pureF_ap, run_ap, B_is_line, Ty.sub, h0, is_whole_int, sizes_ok, h1, h2, blsOf, allB]
end Wt.Lk10

namespace Wt.Lk10
open PySem PySem.Spec PyProof.Rows L2 Wt
theorem try_rt {es : List Nat} {ec : Nat} {B : DenS} {B2 : Nat → DenS} {env : En} {st s : Sto} {x : D} (h : B env st = .rt x s) : sTry es ec B B2 env st = .rt x s := by
  unfold sTry
  rw [h]
theorem fIn_tf (b : Bool) (st : Sto) : fIn (.bl b) (.tup [.bl true, .bl false]) st = .ok (.bl true) st := by cases b <;> rfl
theorem come_ok {st : Sto} {a le li : Nat} {kl : List Nat} {R : RmS} (M : RoomAt st a kl le li R) (O : R.Ok) {d : Deed} (hc : canR R d) :
    ∃ st', d_can_come [.loc a, d.d] st = .ok (.bl true) st' ∧ RoomAt st' a kl le li (doR R d) ∧ Off (a :: le :: li :: kl) st st' := by
  cases d with
  | order w k p =>
    obtain ⟨h0, h1, hk, p0, p1, hf⟩ := hc
    obtain ⟨st', e, q⟩ := order_ok M O h0 h1 hk p0 p1 hf
    refine ⟨st', ?_, q⟩
    have hz : (0 : Int) ≤ (R.letters.length : Nat) := Int.natCast_nonneg _
    simp only [d_can_come, run_ap, B_can_come]
    rw [try_rt (x := .bl true) (s := st')]
    · rfl
    · simp [M.ob, ms_or, e]
  | bring l w =>
    obtain ⟨l0, l1, h0, h1⟩ := hc
    obtain ⟨st', e, q⟩ := bring_ok M O l0 (letR_at l0 l1) h0 h1
    refine ⟨st', ?_, q⟩
    simp only [d_can_come, run_ap, B_can_come]
    rw [try_rt (x := .bl true) (s := st')]
    · rfl
    · simp [M.ob, ms_br, e, fIn_tf]
  | tick m =>
    obtain ⟨st', e, q⟩ := tick_ok M O hc
    refine ⟨st', ?_, q⟩
    have hz : 0 < R.now + m := by
      have := O.now0
      have : 1 ≤ m := hc
      omega
    simp only [d_can_come, run_ap, B_can_come]
    rw [try_rt (x := .bl true) (s := st')]
    · rfl
    · simp [M.ob, ms_ti, e, hz]
  | seen w p =>
    obtain ⟨h0, h1, hp⟩ := hc
    have e := stands_ok M O h0 h1
    have e' : R.known.getD w.toNat [] = knR R w := rfl
    rw [e'] at e
    refine ⟨st, ?_, M, Off.refl⟩
    simp only [d_can_come, run_ap, B_can_come]
    rw [try_rt (x := .bl true) (s := st)]
    · rfl
    · simp [M.ob, ms_st, e, hp]
def runs : RmS → List Deed → Prop
  | _, [] => True
  | R, d :: r => canR R d ∧ runs (doR R d) r
theorem runs_snoc {d : Deed} : ∀ {ds : List Deed} {R : RmS}, runs R (ds ++ [d]) ↔ runs R ds ∧ canR (ds.foldl doR R) d
  | [], R => by simp [runs]
  | x :: r, R => by
    rw [List.cons_append, runs, runs, runs_snoc, List.foldl_cons, and_assoc]
theorem do_few {R : RmS} (d : Deed) : (doR R d).lines.length ≤ R.lines.length + 1 := by
  cases d with
  | seen w p => exact Nat.le_succ _
  | order w k p => show (R.lines ++ [_]).length ≤ _; rw [List.length_append]; exact Nat.le_refl _
  | bring l w => show (R.lines ++ [_]).length ≤ _; rw [List.length_append]; exact Nat.le_refl _
  | tick m => show (R.lines ++ [_]).length ≤ _; rw [List.length_append]; exact Nat.le_refl _
theorem pre_of {st s : Sto} (hl : st.length ≤ s.length) (h : ∀ j, j < st.length → s[j]? = st[j]?) : ∃ r, s = st ++ r := by
  refine ⟨s.drop st.length, List.ext_getElem? fun j => ?_⟩
  by_cases hj : j < st.length
  · rw [List.getElem?_append_left hj, h j hj]
  · rw [List.getElem?_append_right (by omega), List.getElem?_drop]
    congr 1
    omega
theorem first_ok {L : Int} {W : Nat} (h1 : 1 ≤ L) (h2 : L ≤ 1000000000) (w1 : 1 ≤ W) (w4 : W ≤ 4) {ds : List Deed} (hds : ds.length ≤ 200) (hr : runs ⟨L, 0, [], List.replicate W [], []⟩ ds) {d : D} {st : Sto} (hd : IsL st d (ds.map Deed.d)) :
    d_first_wrong [.int L, .int W, d] st = .ok .non st := by
  have e1 := room_new h1 h2 w1 w4 st
  have M0 := new_at (L := L) (W := W) st []
  rw [List.append_nil] at M0
  obtain ⟨sx, hsx⟩ : ∃ sx, sx = (Cell.inst 5 [.int L, .lst ((klN (st.length + 1) W).map .loc), .loc (st.length + 1 + W), .int 0, .loc (st.length + 2 + W)] :: (List.replicate W (Cell.list []) ++ [.list [], .list []])) := ⟨_, rfl⟩
  rw [← hsx] at e1 M0
  have hF : ∀ j ∈ st.length :: (st.length + 1 + W) :: (st.length + 2 + W) :: klN (st.length + 1) W, st.length ≤ j := fun j hj => by
    simp only [List.mem_cons, klN_mem] at hj
    omega
  have pre : ∀ {s : Sto}, Off (st.length :: (st.length + 1 + W) :: (st.length + 2 + W) :: klN (st.length + 1) W) (st ++ sx) s → ∃ r, s = st ++ r := fun {s} o => by
    refine pre_of (by rw [o.1, List.length_append]; exact Nat.le_add_right _ _) fun j hj => ?_
    rw [o.2 j fun h => absurd (hF j h) (by omega), List.getElem?_append_left hj]
  have hz : zipIx 0 (ds.map Deed.d) = (ds.zip (List.range ds.length)).map fun q => D.tup [.int (q.2 : Nat), q.1.d] := by
    rw [zipIx_map, List.length_map, List.zip_map_left, List.map_map]
    refine List.map_congr_left fun q _ => ?_
    simp
  obtain ⟨e, s, hf, ⟨v4, v5, rfl⟩, R', O', M', hr', hn', o'⟩ := (for_nx (keep := keepL d (ds.map Deed.d)) (g := gTupV [4, 5]) (B := F_first_wrong_1) (enc := fun q : Deed × Nat => D.tup [.int (q.2 : Nat), q.1.d])
    (fun r e s => (∃ v4 v5, e = [some (.int L), some (.int W), some d, some (.loc st.length), v4, v5]) ∧ ∃ R' : RmS, R'.Ok ∧ RoomAt s st.length (klN (st.length + 1) W) (st.length + 1 + W) (st.length + 2 + W) R' ∧ runs R' (r.map (·.1)) ∧ R'.lines.length + r.length ≤ 200 ∧ Off (st.length :: (st.length + 1 + W) :: (st.length + 2 + W) :: klN (st.length + 1) W) (st ++ sx) s)
    (fun r e s hi => by
      obtain ⟨_, R', O', M', hr', hn', o'⟩ := hi
      obtain ⟨r, rfl⟩ := pre o'
      exact (IsL.app (r := r) hd).kp)
    (fun q r e s hi => by
      obtain ⟨⟨v4, v5, rfl⟩, R', O', M', hr', hn', o'⟩ := hi
      obtain ⟨c, rest⟩ := hr'
      obtain ⟨s2, e2, M2, o2⟩ := come_ok M' O' c
      rw [List.length_cons] at hn'
      have := do_few (R := R') q.1
      refine Nx.imp (P := fun e s => (∃ v4 v5, e = [some (.int L), some (.int W), some d, some (.loc st.length), v4, v5]) ∧ s = s2) ?_ fun e s h => ⟨h.1, doR R' q.1, do_ok O' c (by omega), by rw [h.2]; exact M2, rest, by omega, by rw [h.2]; exact o'.trans o2⟩
      obtain ⟨dd, hdd⟩ : ∃ z, z = q.1.d := ⟨_, rfl⟩
      rw [← hdd] at e2 ⊢
      simp [F_first_wrong_1, e2]) (ds.zip (List.range ds.length)) [some (.int L), some (.int W), some d, some (.loc st.length), none, none] (st ++ sx) ⟨⟨none, none, rfl⟩, _, new_ok h1 h2 w4, M0, by
        rw [List.map_fst_zip (by rw [List.length_range]; exact Nat.le_refl _)]
        exact hr, by rw [List.length_zip, List.length_range]; show 0 + _ ≤ _; omega, Off.refl⟩).ex
  obtain ⟨r, rfl⟩ := pre o'
  have hg := (IsL.app (r := sx) hd).g
  simp [d_first_wrong, pureF_ap, run_ap, B_first_wrong, e1, hg, hz, hf]
theorem room_ok {L : Int} {W : Nat} (h1 : 1 ≤ L) (h2 : L ≤ 1000000000) (w1 : 1 ≤ W) (w4 : W ≤ 4) (st : Sto) : ∃ sx, mkK st.length (d_Room_init [.loc st.length, .int L, .int W] (st ++ [.inst 5 []])) = .ok (.loc st.length) (st ++ sx) := ⟨_, room_new h1 h2 w1 w4 st⟩
theorem tale_judged_ok {L : Int} {W : Nat} (h1 : 1 ≤ L) (h2 : L ≤ 1000000000) (w1 : 1 ≤ W) (w4 : W ≤ 4) {ds : List Deed} (hds : ds.length ≤ 60) (hs : ∀ d ∈ ds, d.sok) (hr : runs ⟨L, 0, [], List.replicate W [], []⟩ ds) {d : D} {st : Sto} (hd : IsL st d (ds.map Deed.d)) :
    d_tale_judged [.int L, .int W, d] st = .ok (.ins 3 []) st := by
  obtain ⟨sx, e1⟩ := room_ok h1 h2 w1 w4 st
  have hd' := IsL.app (r := sx) hd
  have hf := first_ok h1 h2 w1 w4 (by omega) hr hd'
  have hl : ∀ v3 v4, L_tale_judged_1 [some (.int L), some (.int W), some d, v3, v4] (st ++ sx) = .ok ((ds.map fun _ => true).map .bl) (st ++ sx) := fun v3 v4 => by
    have := lc_bls (keep := keepL d (ds.map Deed.d)) (vs := [4]) (g := gVar 4) (A := (dFn 1 d_is_line (aCons (dVar 4) aNil))) (env := [some (.int L), some (.int W), some d, v3, v4]) (st := st ++ sx) (enc := Deed.d) (fun _ => true) ds (fun x hx => ⟨_, rfl, by
      have := line_ok (hs x hx) (st ++ sx)
      obtain ⟨dd, hdd⟩ : ∃ z, z = x.d := ⟨_, rfl⟩
      rw [← hdd] at this ⊢
      simp [wipeE, this]⟩) (by omega) hd'.kp
    simp [L_tale_judged_1, hd'.g, this, -List.map_map]
  have hall : allB (ds.map fun _ => true) = true := by rw [allB_map]; simp
  have h60 : ¬ (60 : Int) < (ds.length : Int) := by omega
  have hle : leave st (.ok (.ins 3 []) (st ++ sx)) = .ok (.ins 3 []) st := leave_ok rfl nofun
  simp [d_tale_judged, pureF_ap, run_ap, B_tale_judged, e1, hd'.ty, hd'.gs, Ty.sub, h60, hl, blsOf_map, hall, hf, X_tale_judged_1, D.isNon, hle, -List.map_map]
instance decCan (R : RmS) : (d : Deed) → Decidable (canR R d)
  | .order w k p => by unfold canR; infer_instance
  | .bring l w => by unfold canR; infer_instance
  | .tick m => by unfold canR; infer_instance
  | .seen w p => by unfold canR; infer_instance
def kStop : Str := "stop"
theorem ok_stop : PyData.strOk kStop = true := by decide +kernel
/-- a line that one may be asked about -/
def Deed.fit : Deed → Prop
  | .order _ k _ => k = kHold ∨ k = kGo ∨ k = kMove ∨ k = kStop
  | _ => True
theorem Deed.fit.sok {d : Deed} (h : d.fit) : d.sok := by
  cases d with
  | order w k p =>
    rcases h with h | h | h | h
    · exact ok_strs (.inl h)
    · exact ok_strs (.inr (.inl h))
    · exact ok_strs (.inr (.inr h))
    · show PyData.strOk k = true
      rw [h]
      exact ok_stop
  | _ => trivial
theorem stop_no (st : Sto) : fNotIn (.str kStop) (.tup [.str "hold", .str "go", .str "move"]) st = .ok (.bl true) st := rfl
def errs : List Nat := [11, 12, 13, 14, 15, 16, 17, 18, 19, 20]
theorem order_no {st : Sto} {a le li : Nat} {kl : List Nat} {R : RmS} (M : RoomAt st a kl le li R) (O : R.Ok) {w p : Int} {k : Str} (hk : k = kHold ∨ k = kGo ∨ k = kMove ∨ k = kStop) (hno : ¬ canR R (.order w k p)) : ∃ c, (errs.contains c = true ∧ subE c 10 = true) ∧ d_Room_order [.loc a, .int w, .str k, .int p] st = .exc c st := by
  by_cases hw : 0 ≤ w ∧ w < R.known.length
  · by_cases hk2 : k = kHold ∨ k = kGo ∨ k = kMove
    · by_cases hp : 0 ≤ p ∧ p ≤ if k = kMove then R.L else 0
      · refine ⟨20, ⟨rfl, rfl⟩, order_busy M O hw.1 hw.2 hk2 hp.1 hp.2 (Decidable.byContradiction fun hf => hno ⟨hw.1, hw.2, hk2, hp.1, hp.2, hf⟩)⟩
      · refine ⟨17, ⟨rfl, rfl⟩, ?_⟩
        have aw := asked_watcher_ok M hw.1 hw.2
        have e1 := kinds_in hk2 st
        have kq := eq_kind (ok_strs hk2) ok_move st
        have y1 : X_Room_order_1 [some (.loc a), some (.int w), some (.str k), some (.int p), none] st = .ok (.int (if k = kMove then R.L else 0)) st := by
          by_cases hm : k = kMove
          · rw [decide_eq_true hm] at kq
            rw [if_pos hm]
            simp [X_Room_order_1, kq, M.ob]
          · rw [decide_eq_false hm] at kq
            rw [if_neg hm]
            simp [X_Room_order_1, kq, M.ob]
        obtain ⟨mo, hmo⟩ : ∃ z, z = if k = kMove then R.L else 0 := ⟨_, rfl⟩
        rw [← hmo] at y1 hp
        by_cases p0 : 0 ≤ p
        · have p1 : ¬ p ≤ mo := fun z => hp ⟨p0, z⟩
          simp [d_Room_order, run_ap, B_Room_order, M.ob, ms_aw, aw, Ty.sub, e1, is_whole_int, y1, p0, p1]
        · simp [d_Room_order, run_ap, B_Room_order, M.ob, ms_aw, aw, Ty.sub, e1, is_whole_int, y1, p0]
    · refine ⟨16, ⟨rfl, rfl⟩, ?_⟩
      have hs : k = kStop := by
        rcases hk with h | h | h | h
        · exact absurd (.inl h) hk2
        · exact absurd (.inr (.inl h)) hk2
        · exact absurd (.inr (.inr h)) hk2
        · exact h
      subst hs
      have aw := asked_watcher_ok M hw.1 hw.2
      have e1 := stop_no st
      simp [d_Room_order, run_ap, B_Room_order, M.ob, ms_aw, aw, Ty.sub, e1]
  · refine ⟨15, ⟨rfl, rfl⟩, ?_⟩
    have aw := asked_watcher_no M hw
    simp [d_Room_order, run_ap, B_Room_order, M.ob, ms_aw, aw]
theorem bring_no2 {st : Sto} {a le li : Nat} {kl : List Nat} {R : RmS} (M : RoomAt st a kl le li R) {l w : Int} (hno : ¬ canR R (.bring l w)) : ∃ c, (errs.contains c = true ∧ subE c 10 = true) ∧ d_Room_bring [.loc a, .int l, .int w] st = .exc c st := by
  by_cases hl : 0 ≤ l ∧ l < R.letters.length
  · refine ⟨15, ⟨rfl, rfl⟩, ?_⟩
    have aw := asked_watcher_no M (w := w) fun hw => hno ⟨hl.1, hl.2, hw.1, hw.2⟩
    have h0 := hl.1
    have h1 := hl.2
    simp [d_Room_bring, run_ap, B_Room_bring, M.ob, M.lt, ms_aw, aw, is_whole_int, h0, h1]
  · exact ⟨18, ⟨rfl, rfl⟩, bring_no M hl⟩
theorem tick_no {st : Sto} {a le li : Nat} {kl : List Nat} {R : RmS} (M : RoomAt st a kl le li R) {m : Int} (hm : ¬ 1 ≤ m) : d_Room_tick [.loc a, .int m] st = .exc 13 st := by
  have h : m < 1 := by omega
  simp [d_Room_tick, run_ap, B_Room_tick, is_whole_int, h]
theorem stands_no {st : Sto} {a le li : Nat} {kl : List Nat} {R : RmS} (M : RoomAt st a kl le li R) {w : Int} (h : ¬ (0 ≤ w ∧ w < R.known.length)) : d_Room_stands [.loc a, .int w] st = .exc 15 st := by
  have aw := asked_watcher_no M h
  simp [d_Room_stands, pureF_ap, run_ap, B_Room_stands, M.ob, ms_aw, aw]
theorem try_exr {ec c : Nat} {B : DenS} {B2 : Nat → DenS} {env e : En} {st s s2 : Sto} {x : D} (h : B env st = .exc c e s) (h1 : errs.contains c = true ∧ subE c ec = true) (h3 : B2 c e s = .rt x s2) : sTry [11, 12, 13, 14, 15, 16, 17, 18, 19, 20] ec B B2 env st = .rt x s2 := by
  have h1' : ([11, 12, 13, 14, 15, 16, 17, 18, 19, 20] : List Nat).contains c = true := h1.1
  unfold sTry
  rw [h]
  dsimp only
  rw [h1', h1.2, h3]
  rfl
theorem come_no {st : Sto} {a le li : Nat} {kl : List Nat} {R : RmS} (M : RoomAt st a kl le li R) (O : R.Ok) {d : Deed} (hd : d.fit) (hno : ¬ canR R d) : d_can_come [.loc a, d.d] st = .ok (.bl false) st := by
  cases d with
  | order w k p =>
    obtain ⟨c, hc, e⟩ := order_no M O hd hno
    simp only [d_can_come, run_ap, B_can_come]
    rw [try_exr (x := .bl false) (s2 := st) (s := st) (c := c) (e := [some (.loc a), some (Deed.order w k p).d]) ?_ hc (by simp)]
    · rfl
    · simp [M.ob, ms_or, e]
  | bring l w =>
    obtain ⟨c, hc, e⟩ := bring_no2 M hno
    simp only [d_can_come, run_ap, B_can_come]
    rw [try_exr (x := .bl false) (s2 := st) (s := st) (c := c) (e := [some (.loc a), some (Deed.bring l w).d]) ?_ hc (by simp)]
    · rfl
    · simp [M.ob, ms_br, e]
  | tick m =>
    have e := tick_no M hno
    simp only [d_can_come, run_ap, B_can_come]
    rw [try_exr (x := .bl false) (s2 := st) (s := st) (c := 13) (e := [some (.loc a), some (Deed.tick m).d]) ?_ ⟨rfl, rfl⟩ (by simp)]
    · rfl
    · simp [M.ob, ms_ti, e]
  | seen w p =>
    by_cases hw : 0 ≤ w ∧ w < R.known.length
    · have e := stands_ok M O hw.1 hw.2
      have hp : ¬ (standL R.L (R.known.getD w.toNat []) R.now).1 = p := fun z => hno ⟨hw.1, hw.2, z⟩
      simp only [d_can_come, run_ap, B_can_come]
      rw [try_rt (x := .bl false) (s := st)]
      · rfl
      · simp [M.ob, ms_st, e]
        exact hp
    · have e := stands_no M hw
      simp only [d_can_come, run_ap, B_can_come]
      rw [try_exr (x := .bl false) (s2 := st) (s := st) (c := 15) (e := [some (.loc a), some (Deed.seen w p).d]) ?_ ⟨rfl, rfl⟩ (by simp)]
      · rfl
      · simp [M.ob, ms_st, e]
/-- the first line that can't come -/
def firstR : RmS → List Deed → Option Nat
  | _, [] => none
  | R, d :: r => if canR R d then (firstR (doR R d) r).map (· + 1) else some 0
theorem first_runs : ∀ {ds : List Deed} {R : RmS}, firstR R ds = none ↔ runs R ds
  | [], R => by simp [firstR, runs]
  | d :: r, R => by
    unfold firstR runs
    by_cases h : canR R d
    · rw [if_pos h, Option.map_eq_none_iff, first_runs]
      exact ⟨fun q => ⟨h, q⟩, fun q => q.2⟩
    · rw [if_neg h]
      exact ⟨fun q => (by cases q), fun q => absurd q.1 h⟩
end Wt.Lk10

namespace Wt.Lk10
open PySem PySem.Spec PyProof.Rows L2 Wt
abbrev R0of (L : Int) (W : Nat) : RmS := ⟨L, 0, [], List.replicate W [], []⟩
def firstD (o : Option Nat) : D := match o with | some n => .int (n : Nat) | none => .non
theorem first_loop {L : Int} {W : Nat} {d : D} {st sx : Sto} {F kl : List Nat} {le li : Nat} {xs : List D} (hF : st.length :: le :: li :: kl = F) (hd : IsL st d xs) (pre : ∀ {s : Sto}, Off F (st ++ sx) s → ∃ r, s = st ++ r) :
    ∀ (r : List Deed) (i : Nat) (R' : RmS) (s : Sto) (v4 v5 : Option D), R'.Ok → RoomAt s st.length kl le li R' → Off F (st ++ sx) s → R'.lines.length + r.length ≤ 200 → (∀ d ∈ r, d.fit) →
      (firstR R' r = none ∧ ∃ s' w4 w5, forIt (keepL d xs) (gTupV [4, 5]) F_first_wrong_1 (zipIx (i : Nat) (r.map Deed.d)) [some (.int L), some (.int W), some d, some (.loc st.length), v4, v5] s = .nx [some (.int L), some (.int W), some d, some (.loc st.length), w4, w5] s' ∧ Off F (st ++ sx) s') ∨
      ∃ n s', firstR R' r = some n ∧ forIt (keepL d xs) (gTupV [4, 5]) F_first_wrong_1 (zipIx (i : Nat) (r.map Deed.d)) [some (.int L), some (.int W), some d, some (.loc st.length), v4, v5] s = .rt (.int ((i + n : Nat) : Int)) s' ∧ Off F (st ++ sx) s'
  | [], i, R', s, v4, v5, O, M, o, hn, hf => by
    obtain ⟨r, rfl⟩ := pre o
    refine .inl ⟨rfl, _, v4, v5, ?_, o⟩
    show forIt _ _ _ [] _ _ = _
    rw [forIt_nil (IsL.app (r := r) hd).kp]
  | c :: r, i, R', s, v4, v5, O, M, o, hn, hf => by
    rw [List.length_cons] at hn
    have hk : keepL d xs s = true := by
      obtain ⟨r, rfl⟩ := pre o
      exact (IsL.app (r := r) hd).kp
    have hz : zipIx (i : Nat) ((c :: r).map Deed.d) = .tup [.int (i : Nat), c.d] :: zipIx ((i + 1 : Nat) : Int) (r.map Deed.d) := by
      show _ :: zipIx ((i : Int) + 1) _ = _
      rw [show ((i + 1 : Nat) : Int) = (i : Int) + 1 by omega]
    rw [hz]
    by_cases h : canR R' c
    · obtain ⟨s2, e2, M2, o2⟩ := come_ok M O h
      rw [hF] at o2
      have := do_few (R := R') c
      have hb : forIt (keepL d xs) (gTupV [4, 5]) F_first_wrong_1 (.tup [.int (i : Nat), c.d] :: zipIx ((i + 1 : Nat) : Int) (r.map Deed.d)) [some (.int L), some (.int W), some d, some (.loc st.length), v4, v5] s =
          forIt (keepL d xs) (gTupV [4, 5]) F_first_wrong_1 (zipIx ((i + 1 : Nat) : Int) (r.map Deed.d)) [some (.int L), some (.int W), some d, some (.loc st.length), some (.int (i : Nat)), some c.d] s2 := by
        rw [forIt_cons hk]
        obtain ⟨dd, hdd⟩ : ∃ z, z = c.d := ⟨_, rfl⟩
        rw [← hdd] at e2 ⊢
        simp [F_first_wrong_1, e2]
      rw [hb]
      rcases first_loop hF hd pre r (i + 1) (doR R' c) s2 (some (.int (i : Nat))) (some c.d) (do_ok O h (by omega)) M2 (o.trans o2) (by omega) fun x hx => hf x (List.mem_cons_of_mem _ hx) with ⟨q, s', w4, w5, e', o'⟩ | ⟨n, s', q, e', o'⟩
      · exact .inl ⟨by rw [firstR, if_pos h, q]; rfl, s', w4, w5, e', o'⟩
      · exact .inr ⟨n + 1, s', by rw [firstR, if_pos h, q]; rfl, by rw [e', show i + 1 + n = i + (n + 1) by omega], o'⟩
    · have e2 := come_no M O (hf c (List.mem_cons_self ..)) h
      refine .inr ⟨0, s, by rw [firstR, if_neg h], ?_, o⟩
      rw [forIt_cons hk]
      obtain ⟨dd, hdd⟩ : ∃ z, z = c.d := ⟨_, rfl⟩
      rw [← hdd] at e2 ⊢
      simp [F_first_wrong_1, e2]
theorem first_eq {L : Int} {W : Nat} (h1 : 1 ≤ L) (h2 : L ≤ 1000000000) (w1 : 1 ≤ W) (w4 : W ≤ 4) {ds : List Deed} (hds : ds.length ≤ 200) (hf : ∀ d ∈ ds, d.fit) {d : D} {st : Sto} (hd : IsL st d (ds.map Deed.d)) :
    d_first_wrong [.int L, .int W, d] st = .ok (firstD (firstR (R0of L W) ds)) st := by
  have e1 := room_new h1 h2 w1 w4 st
  have M0 := new_at (L := L) (W := W) st []
  rw [List.append_nil] at M0
  obtain ⟨sx, hsx⟩ : ∃ sx, sx = (Cell.inst 5 [.int L, .lst ((klN (st.length + 1) W).map .loc), .loc (st.length + 1 + W), .int 0, .loc (st.length + 2 + W)] :: (List.replicate W (Cell.list []) ++ [.list [], .list []])) := ⟨_, rfl⟩
  rw [← hsx] at e1 M0
  obtain ⟨F, hF⟩ : ∃ F, st.length :: (st.length + 1 + W) :: (st.length + 2 + W) :: klN (st.length + 1) W = F := ⟨_, rfl⟩
  have hF2 : ∀ j ∈ F, st.length ≤ j := fun j hj => by
    rw [← hF] at hj
    simp only [List.mem_cons, klN_mem] at hj
    omega
  have pre : ∀ {s : Sto}, Off F (st ++ sx) s → ∃ r, s = st ++ r := fun {s} o => by
    refine pre_of (by rw [o.1, List.length_append]; exact Nat.le_add_right _ _) fun j hj => ?_
    rw [o.2 j fun h => absurd (hF2 j h) (by omega), List.getElem?_append_left hj]
  have hg := (IsL.app (r := sx) hd).g
  rcases first_loop (L := L) (W := W) hF hd pre ds 0 (R0of L W) (st ++ sx) none none (new_ok h1 h2 w4) M0 Off.refl (by show 0 + _ ≤ _; omega) hf with ⟨q, s', a4, a5, e', o'⟩ | ⟨n, s', q, e', o'⟩
  · obtain ⟨r, rfl⟩ := pre o'
    rw [q]
    have e'' : forIt (keepL d (ds.map Deed.d)) (gTupV [4, 5]) F_first_wrong_1 (zipIx 0 (ds.map Deed.d)) _ _ = _ := e'
    simp [d_first_wrong, pureF_ap, run_ap, B_first_wrong, e1, hg, e'', firstD]
  · obtain ⟨r, rfl⟩ := pre o'
    rw [q]
    rw [Nat.zero_add] at e'
    have e'' : forIt (keepL d (ds.map Deed.d)) (gTupV [4, 5]) F_first_wrong_1 (zipIx 0 (ds.map Deed.d)) _ _ = _ := e'
    simp [d_first_wrong, pureF_ap, run_ap, B_first_wrong, e1, hg, e'', firstD]
theorem tale_judged_eq {L : Int} {W : Nat} (h1 : 1 ≤ L) (h2 : L ≤ 1000000000) (w1 : 1 ≤ W) (w4 : W ≤ 4) {ds : List Deed} (hds : ds.length ≤ 60) (hf : ∀ d ∈ ds, d.fit) {d : D} {st : Sto} (hd : IsL st d (ds.map Deed.d)) :
    d_tale_judged [.int L, .int W, d] st = .ok (match firstR (R0of L W) ds with | some n => .ins 4 [.int (n : Nat)] | none => .ins 3 []) st := by
  obtain ⟨sx, e1⟩ := room_ok h1 h2 w1 w4 st
  have hd' := IsL.app (r := sx) hd
  have hfi := first_eq h1 h2 w1 w4 (by omega) hf hd'
  have hl : ∀ v3 v4, L_tale_judged_1 [some (.int L), some (.int W), some d, v3, v4] (st ++ sx) = .ok ((ds.map fun _ => true).map .bl) (st ++ sx) := fun v3 v4 => by
    have := lc_bls (keep := keepL d (ds.map Deed.d)) (vs := [4]) (g := gVar 4) (A := (dFn 1 d_is_line (aCons (dVar 4) aNil))) (env := [some (.int L), some (.int W), some d, v3, v4]) (st := st ++ sx) (enc := Deed.d) (fun _ => true) ds (fun x hx => ⟨_, rfl, by
      have := line_ok (hf x hx).sok (st ++ sx)
      obtain ⟨dd, hdd⟩ : ∃ z, z = x.d := ⟨_, rfl⟩
      rw [← hdd] at this ⊢
      simp [wipeE, this]⟩) (by omega) hd'.kp
    simp [L_tale_judged_1, hd'.g, this, -List.map_map]
  have hall : allB (ds.map fun _ => true) = true := by rw [allB_map]; simp
  have h60 : ¬ (60 : Int) < (ds.length : Int) := by omega
  cases hq : firstR (R0of L W) ds with
  | none =>
    have hle : leave st (.ok (.ins 3 []) (st ++ sx)) = .ok (.ins 3 []) st := leave_ok rfl nofun
    rw [hq] at hfi
    simp [d_tale_judged, pureF_ap, run_ap, B_tale_judged, e1, hd'.ty, hd'.gs, Ty.sub, h60, hl, blsOf_map, hall, hfi, firstD, X_tale_judged_1, D.isNon, hle, -List.map_map]
  | some n =>
    have hle : leave st (.ok (.ins 4 [.int (n : Nat)]) (st ++ sx)) = .ok (.ins 4 [.int (n : Nat)]) st := leave_ok rfl nofun
    have hmk : ∀ s : Sto, leave s (mkK s.length (d_Wrong_init [.loc s.length, .int (n : Nat)] (s ++ [.inst 4 []]))) = .ok (.ins 4 [.int (n : Nat)]) s := fun s => by
      have h : d_Wrong_init [.loc s.length, .int (n : Nat)] (s ++ [.inst 4 []]) = .ok .non (s ++ [.inst 4 [.int (n : Nat)]]) := by
        simp [d_Wrong_init, run_ap, B_Wrong_init]
      rw [h, mkK_ok]
      exact leave_inst (Nat.le_refl _) get_at0 rfl
    have hmk' := hmk (st ++ sx)
    simp only [List.length_append, List.append_assoc] at hmk'
    rw [hq] at hfi
    simp [d_tale_judged, pureF_ap, run_ap, B_tale_judged, e1, hd'.ty, hd'.gs, Ty.sub, h60, hl, blsOf_map, hall, hfi, firstD, X_tale_judged_1, D.isNon, hmk', hle, -List.map_map]
def firstI (o : Option Nat) : Int := match o with | some n => (n : Nat) | none => -1
theorem right_shows {L : Int} {W : Nat} (h1 : 1 ≤ L) (h2 : L ≤ 1000000000) (w1 : 1 ≤ W) (w4 : W ≤ 4) {ds : List Deed} (hds : ds.length ≤ 200) (hf : ∀ d ∈ ds, d.fit) {d : D} {st : Sto} (hd : IsL st d (ds.map Deed.d)) :
    d_Right_shows [.ins 3 [], .int L, .int W, d] st = .ok (.bl (decide (firstI (firstR (R0of L W) ds) < 0))) st := by
  have e := first_eq h1 h2 w1 w4 hds hf hd
  cases hq : firstR (R0of L W) ds with
  | none =>
    rw [hq] at e
    simp [d_Right_shows, pureF_ap, run_ap, B_Right_shows, e, firstD, firstI, D.isNon]
  | some n =>
    rw [hq] at e
    have hn : ¬ ((n : Nat) : Int) < 0 := by omega
    simp [d_Right_shows, pureF_ap, run_ap, B_Right_shows, e, firstD, firstI, D.isNon, hn]
theorem wrong_shows {L : Int} {W : Nat} (h1 : 1 ≤ L) (h2 : L ≤ 1000000000) (w1 : 1 ≤ W) (w4 : W ≤ 4) {ds : List Deed} (hds : ds.length ≤ 200) (hf : ∀ d ∈ ds, d.fit) (x : Int) {d : D} {st : Sto} (hd : IsL st d (ds.map Deed.d)) :
    d_Wrong_shows [.ins 4 [.int x], .int L, .int W, d] st = .ok (.bl (decide (0 ≤ firstI (firstR (R0of L W) ds) ∧ x = firstI (firstR (R0of L W) ds)))) st := by
  have e := first_eq h1 h2 w1 w4 hds hf hd
  cases hq : firstR (R0of L W) ds with
  | none =>
    rw [hq] at e
    simp [d_Wrong_shows, pureF_ap, run_ap, B_Wrong_shows, e, firstD, firstI, D.isNon]
  | some n =>
    rw [hq] at e
    have hn : (0 : Int) ≤ ((n : Nat) : Int) := by omega
    simp [d_Wrong_shows, pureF_ap, run_ap, B_Wrong_shows, e, firstD, firstI, D.isNon, hn]
/-- the answer that is due -/
def ansD (p : Int) : D := if p < 0 then .ins 3 [] else .ins 4 [.int p]
theorem judged_ans {L : Int} {W : Nat} (h1 : 1 ≤ L) (h2 : L ≤ 1000000000) (w1 : 1 ≤ W) (w4 : W ≤ 4) {ds : List Deed} (hds : ds.length ≤ 60) (hf : ∀ d ∈ ds, d.fit) {d : D} {st : Sto} (hd : IsL st d (ds.map Deed.d)) :
    d_tale_judged [.int L, .int W, d] st = .ok (ansD (firstI (firstR (R0of L W) ds))) st := by
  rw [tale_judged_eq h1 h2 w1 w4 hds hf hd]
  cases hq : firstR (R0of L W) ds with
  | none => rfl
  | some n =>
    have hn : ¬ ((n : Nat) : Int) < 0 := by omega
    show _ = Rs.ok (ansD ((n : Nat) : Int)) st
    rw [ansD, if_neg hn]
end Wt.Lk10

namespace Wt.Lk10
open PySem PySem.Spec PyProof.Rows L2 Wt
theorem ms_kn5 : ms_knows 5 = some (2, d_Room_knows) := rfl
theorem ms_ta5 : ms_tale 5 = some (1, d_Room_tale) := rfl
theorem ms_re5 : ms_at_rest 5 = some (1, d_Room_at_rest) := rfl
section
variable {s : Sto} {a le li : Nat} {kl : List Nat} {R : RmS} {X A B C : Den} {env : En}
theorem RoomAt.cls (M : RoomAt s a kl le li R) : clsD s (.loc a) = some 5 := by simp [M.ob]
theorem m_knows (M : RoomAt s a kl le li R) (O : R.Ok) {w : Int} (h0 : 0 ≤ w) (h1 : w < R.known.length) (hX : X env s = .ok (.loc a) s) (hA : A env s = .ok (.int w) s) :
    dMeth ms_knows X (aCons A aNil) env s = .ok (.loc s.length) (s ++ [.list ((isort leC (R.known.getD w.toNat [])).map cmdD)]) := by
  have e := knows_ok M O h0 h1
  generalize (isort leC (R.known.getD w.toNat [])).map cmdD = l at e ⊢
  simp [hX, M.ob, ms_kn5, hA, e]
theorem m_tale (M : RoomAt s a kl le li R) (hX : X env s = .ok (.loc a) s) :
    dMeth ms_tale X aNil env s = .ok (.loc s.length) (s ++ [.list R.lines]) := by
  have e := tale_ok M
  simp [hX, M.ob, ms_ta5, e]
theorem m_rest (M : RoomAt s a kl le li R) (O : R.Ok) (hX : X env s = .ok (.loc a) s) :
    dMeth ms_at_rest X aNil env s = .ok (.bl R.rest) s := by
  have e := at_rest_ok M O
  simp [hX, M.ob, ms_re5, e]
theorem m_order (M : RoomAt s a kl le li R) (O : R.Ok) {w p : Int} {k : Str} (h0 : 0 ≤ w) (h1 : w < R.known.length) (hk : k = kHold ∨ k = kGo ∨ k = kMove) (p0 : 0 ≤ p) (p1 : p ≤ if k = kMove then R.L else 0)
    (hf : (R.now, w) ∉ R.letters.map fun c => (c.1, c.2.1)) (hX : X env s = .ok (.loc a) s) (hA : A env s = .ok (.int w) s) (hB : B env s = .ok (.str k) s) (hC : C env s = .ok (.int p) s) :
    ∃ s', dMeth ms_order X (aCons A (aCons B (aCons C aNil))) env s = .ok (.int R.letters.length) s' ∧ RoomAt s' a kl le li (orderR R w k p) ∧ Off (a :: le :: li :: kl) s s' := by
  obtain ⟨s', e, h⟩ := order_ok M O h0 h1 hk p0 p1 hf
  exact ⟨s', by simp [hX, M.ob, ms_or, hA, hB, hC, e], h⟩
theorem m_tick (M : RoomAt s a kl le li R) (O : R.Ok) {m : Int} (h : 1 ≤ m) (hX : X env s = .ok (.loc a) s) (hA : A env s = .ok (.int m) s) :
    ∃ s', dMeth ms_tick X (aCons A aNil) env s = .ok (.int (R.now + m)) s' ∧ RoomAt s' a kl le li (tickR R m) ∧ Off (a :: le :: li :: kl) s s' := by
  obtain ⟨s', e, h⟩ := tick_ok M O h
  exact ⟨s', by simp [hX, M.ob, ms_ti, hA, e], h⟩
theorem m_bring (M : RoomAt s a kl le li R) (O : R.Ok) {l w : Int} {c : Cmd} (l0 : 0 ≤ l) (hc : R.letters[l.toNat]? = some c) (h0 : 0 ≤ w) (h1 : w < R.known.length) (hX : X env s = .ok (.loc a) s) (hA : A env s = .ok (.int l) s) (hB : B env s = .ok (.int w) s) :
    ∃ s', dMeth ms_bring X (aCons A (aCons B aNil)) env s = .ok (.bl (!decide (c ∈ R.known.getD w.toNat []))) s' ∧ RoomAt s' a kl le li (bringR R l w c) ∧ Off (a :: le :: li :: kl) s s' := by
  obtain ⟨s', e, h⟩ := bring_ok M O l0 hc h0 h1
  exact ⟨s', by simp [hX, M.ob, ms_br, hA, hB, e], h⟩
end
theorem Rt.sq {A B : DenS} {env : En} {st : Sto} {d : D} {P : Sto → Prop} (h : ∃ e s, A env st = .nx e s ∧ ∃ s', B e s = .rt d s' ∧ P s') : ∃ s', sSeq A B env st = .rt d s' ∧ P s' := by
  obtain ⟨e, s, h1, s', h2, h3⟩ := h
  exact ⟨s', by rw [sSeq_ap, h1]; exact h2, h3⟩
end Wt.Lk10

namespace Wt.Lk10
open PySem PySem.Spec PyProof.Rows L2 Wt
theorem leave_pre {d e : D} {st s : Sto} {r : Sto} (h : ∃ r, s = st ++ r) (hl : ∀ r, leave st (.ok d (st ++ r)) = .ok e st) : leave st (.ok d s) = .ok e st := by
  obtain ⟨r, rfl⟩ := h
  exact hl r
def c0 : Cmd := (0, 0, kGo, 0)
def tale3 : List Deed := [.order 0 kGo 0, .tick 2, .bring 0 1]
def tale3w : List Deed := [.order 0 kGo 0, .tick 2, .bring 1 1]
def tale2 : List Deed := [.order 0 kGo 0, .tick 2]
theorem go_not : ¬ kGo = kMove := by decide +kernel
theorem run3 (L : Int) : firstR (R0of L 2) tale3 = none ∧ firstR (R0of L 2) tale3w = some 2 ∧ firstR (R0of L 2) tale2 = none := by
  refine ⟨?_, ?_, ?_⟩ <;> simp [tale3, tale3w, tale2, firstR, canR, doR, orderR, tickR, bringR, RmS.put, go_not]
theorem fit3 : (∀ d ∈ tale3, d.fit) ∧ (∀ d ∈ tale3w, d.fit) ∧ ∀ d ∈ tale2, d.fit := by
  have h : (Deed.order 0 kGo 0).fit := .inr (.inl rfl)
  refine ⟨?_, ?_, ?_⟩ <;> intro d hd <;> simp only [tale3, tale3w, tale2, List.mem_cons, List.not_mem_nil, or_false] at hd
  · rcases hd with rfl | rfl | rfl <;> first | exact h | trivial
  · rcases hd with rfl | rfl | rfl <;> first | exact h | trivial
  · rcases hd with rfl | rfl <;> first | exact h | trivial
theorem tale_ne {st : Sto} {d e : D} {l m : List Deed} (hd : IsL st d (l.map Deed.d)) (he : IsL st e (m.map Deed.d)) (h1 : ∀ d ∈ l, d.fit) (h2 : ∀ d ∈ m, d.fit) : fNe d e st = .ok (.bl (!decide (l = m))) st := by
  have := EqDeed.lst.fNe (st := st) (a := .lst (l.map Deed.d)) (b := .lst (m.map Deed.d)) (x := l) (y := m) rfl rfl (fun d h => (h1 d h).sok) (fun d h => (h2 d h).sok)
  rw [fNe_L hd he, this]
theorem law_room_ok {L : Int} (h1 : 1 ≤ L) (h2 : L ≤ 1000000000) (st : Sto) : d_law_room_right [.int L] st = .ok (.bl true) st := by
  suffices h : ∃ s', B_law_room_right [some (.int L), none, none, none, none, none] st = .rt (.bl true) s' ∧ ∃ r, s' = st ++ r by
    obtain ⟨s', h, r, rfl⟩ := h
    have h' : B_law_room_right ([D.int L].map some ++ List.replicate (6 - [D.int L].length) none) st = _ := h
    rw [d_law_room_right, pureF_ap, run_ap, h']
    exact leave_bl _ _ _
  unfold B_law_room_right
  -- two rooms
  have n1 := room_new h1 h2 (W := 2) (by decide) (by decide) st
  have M1 := fun r => new_at (L := L) (W := 2) st r
  obtain ⟨x1, hx1⟩ : ∃ x, x = (Cell.inst 5 [.int L, .lst ((klN (st.length + 1) 2).map .loc), .loc (st.length + 1 + 2), .int 0, .loc (st.length + 2 + 2)] :: (List.replicate 2 (Cell.list []) ++ [.list [], .list []])) := ⟨_, rfl⟩
  rw [← hx1] at n1 M1
  have l1 : (st ++ x1).length = st.length + 5 := by rw [hx1]; simp
  obtain ⟨s1, hs1⟩ : ∃ s, s = st ++ x1 := ⟨_, rfl⟩
  rw [← hs1] at n1 M1 l1
  have n2 := room_new h1 h2 (W := 1) (by decide) (by decide) s1
  have M2 := new_at (L := L) (W := 1) s1 []
  obtain ⟨x2, hx2⟩ : ∃ x, x = (Cell.inst 5 [.int L, .lst ((klN (s1.length + 1) 1).map .loc), .loc (s1.length + 1 + 1), .int 0, .loc (s1.length + 2 + 1)] :: (List.replicate 1 (Cell.list []) ++ [.list [], .list []])) := ⟨_, rfl⟩
  rw [← hx2, List.append_nil] at M2
  rw [← hx2] at n2
  have M1 := M1 x2
  obtain ⟨s2, hs2⟩ : ∃ s, s = s1 ++ x2 := ⟨_, rfl⟩
  rw [← hs2] at n2 M1 M2
  have n1 : mkK st.length (d_Room_init [.loc st.length, .int L, .int 2] (st ++ [.inst 5 []])) = .ok (.loc st.length) s1 := n1
  have n2 : mkK s1.length (d_Room_init [.loc s1.length, .int L, .int 1] (s1 ++ [.inst 5 []])) = .ok (.loc s1.length) s2 := n2
  refine Rt.sq ⟨[some (.int L), some (.loc st.length), some (.loc s1.length), none, none, none], s2, by simp [n1, n2], ?_⟩
  have O1 := new_ok h1 h2 (W := 2) (by decide)
  have O2 := new_ok h1 h2 (W := 1) (by decide)
  obtain ⟨s3, e3, M3, o3⟩ := m_order (X := dVar 1) (A := dC (.int 0)) (B := dC (.str "go")) (C := dC (.int 0)) (env := [some (.int L), some (.loc st.length), some (.loc s1.length), none, none, none]) M1 O1 (w := 0) (p := 0) (k := kGo) (by decide) (by simp) (.inr (.inl rfl)) (by decide) (by rw [if_neg go_not]; decide) (by simp) rfl rfl rfl rfl
  have O3 := O1.order (k := kGo) (w := 0) (p := 0) (.inr (.inl rfl)) (by simp) (by show (0 : Nat) ≤ 297; decide)
  refine Rt.sq ⟨[some (.int L), some (.loc st.length), some (.loc s1.length), none, none, none], s3, by rw [sExpr_ap, e3]; rfl, ?_⟩
  obtain ⟨s4, e4, M4, o4⟩ := m_tick (X := dVar 1) (A := dC (.int 2)) (env := [some (.int L), some (.loc st.length), some (.loc s1.length), none, none, none]) M3 O3 (m := 2) (by decide) rfl rfl
  have O4 := O3.tick (m := 2) (by decide) (by show (1 : Nat) ≤ 297; decide)
  refine Rt.sq ⟨[some (.int L), some (.loc st.length), some (.loc s1.length), none, none, none], s4, by rw [sExpr_ap, e4]; rfl, ?_⟩
  obtain ⟨s5, e5, M5, o5⟩ := m_bring (X := dVar 1) (A := dC (.int 0)) (B := dC (.int 1)) (env := [some (.int L), some (.loc st.length), some (.loc s1.length), none, none, none]) M4 O4 (l := 0) (w := 1) (c := c0) (by decide) rfl (by decide) (by show (1 : Int) < ((2 : Nat) : Int); decide) rfl rfl rfl
  have O5 := O4.bring (l := 0) (w := 1) (c := c0) (List.mem_singleton.mpr rfl) (by show (2 : Nat) ≤ 297; decide)
  refine Rt.sq ⟨[some (.int L), some (.loc st.length), some (.loc s1.length), none, none, none], s5, by rw [sExpr_ap, e5]; rfl, ?_⟩
  have hR : bringR (tickR (orderR ⟨L, 0, [], List.replicate 2 [], []⟩ 0 kGo 0) 2) 0 1 c0 = ⟨L, 0 + 2, [c0], [[c0], [c0]], tale3.map Deed.d⟩ := rfl
  rw [hR] at M5 O5
  have off := (o3.trans o4).trans o5
  have M6 := M2.off off (by
    intro j hj hk
    simp only [List.mem_cons, klN_mem] at hj hk
    omega)
  have pre : ∃ r, s5 = st ++ r := pre_of (by rw [off.1, hs2, List.length_append, l1]; omega) fun j hj => by
    rw [off.2 j (by simp only [List.mem_cons, klN_mem]; omega), hs2, hs1, List.append_assoc, List.getElem?_append_left hj]
  clear e3 e4 e5 M1 M2 M3 M4 o3 o4 o5 off O1 O3 O4 n1 n2 hs2 hR hx1 hx2 hs1 l1
  generalize st.length + 1 + 2 = le1 at M5
  generalize st.length + 2 + 2 = li1 at M5
  generalize klN (st.length + 1) 2 = kl1 at M5
  generalize klN (s1.length + 1) 1 = kl2 at M6
  generalize s1.length + 1 + 1 = le2 at M6
  generalize s1.length + 2 + 1 = li2 at M6
  generalize s1.length = a2 at M6 ⊢
  obtain ⟨a1, ha1⟩ : ∃ a, a = st.length := ⟨_, rfl⟩
  rw [← ha1] at M5 ⊢
  obtain ⟨T3, hT3⟩ : ∃ t, t = tale3.map Deed.d := ⟨_, rfl⟩
  rw [← hT3] at M5 O5
  have hc0 : (isort leC [c0]).map cmdD = [cmdD c0] := rfl
  obtain ⟨cd, hcd⟩ : ∃ c, c = cmdD c0 := ⟨_, rfl⟩
  rw [← hcd] at hc0
  -- what is told
  have k1 := fun (env : En) (h : env[1]? = some (some (.loc a1))) (r : Sto) => m_knows (X := dVar 1) (A := dC (.int 1)) (env := env) (M5.app r) O5 (w := 1) (by decide) (by show (1 : Int) < ((2 : Nat) : Int); decide) (by simp [h]) rfl
  have k1 : ∀ (env : En) (h : env[1]? = some (some (.loc a1))) (r : Sto), dMeth ms_knows (dVar 1) (aCons (dC (.int 1)) aNil) env (s5 ++ r) = .ok (.loc (s5 ++ r).length) (s5 ++ r ++ [.list [cd]]) := fun env h r => by
    have := k1 env h r
    rw [show ((⟨L, 0 + 2, [c0], [[c0], [c0]], T3⟩ : RmS).known.getD (1 : Int).toNat []) = [c0] from rfl, hc0] at this
    exact this
  have t1 : ∀ (env : En) (h : env[1]? = some (some (.loc a1))) (r : Sto), dMeth ms_tale (dVar 1) aNil env (s5 ++ r) = .ok (.loc (s5 ++ r).length) (s5 ++ r ++ [.list T3]) := fun env h r => m_tale (X := dVar 1) (env := env) (M5.app r) (by simp [h])
  have t2 : ∀ (env : En) (h : env[2]? = some (some (.loc a2))) (r : Sto), dMeth ms_tale (dVar 2) aNil env (s5 ++ r) = .ok (.loc (s5 ++ r).length) (s5 ++ r ++ [.list []]) := fun env h r => m_tale (X := dVar 2) (env := env) (M6.app r) (by simp [h])
  have r1 : ∀ (env : En) (h : env[1]? = some (some (.loc a1))) (r : Sto), dMeth ms_at_rest (dVar 1) aNil env (s5 ++ r) = .ok (.bl true) (s5 ++ r) := fun env h r => m_rest (X := dVar 1) (env := env) (M5.app r) O5 (by simp [h])
  refine Rt.sq ⟨[some (.int L), some (.loc a1), some (.loc a2), some (.lst [cd]), some (.loc s5.length), none], s5 ++ [.list T3], ?_, ?_⟩
  · have a := k1 [some (.int L), some (.loc a1), some (.loc a2), none, none, none] rfl []
    have b := t1 [some (.int L), some (.loc a1), some (.loc a2), none, none, none] rfl []
    rw [List.append_nil] at a b
    have hl : leave s5 (.ok (.loc s5.length) (s5 ++ [.list [cd]])) = .ok (.lst [cd]) s5 := leave_list (Nat.le_refl _) get_at0 (by rw [hcd]; rfl)
    simp [a, b, hl, -dMeth_ap]
  have ty3 : IsL (s5 ++ [.list T3]) (.loc s5.length) T3 := IsL.loc get_at0
  have ne1 : ∀ r x y, IsL (s5 ++ r) x [cd] → IsL (s5 ++ r) y [cd] → fNe x y (s5 ++ r) = .ok (.bl false) (s5 ++ r) := fun r x y h1 h2 => by
    rw [hcd] at h1 h2
    have := fNe_cmds (st := s5 ++ r) (d := x) (e := y) (l := [c0]) (m := [c0]) h1 h2 (fun c hc => by rw [List.mem_singleton.mp hc]; exact ok_go) (fun c hc => by rw [List.mem_singleton.mp hc]; exact ok_go)
    rw [this, decide_eq_true rfl]; rfl
  have ne2 : ∀ r x y, IsL (s5 ++ r) x T3 → IsL (s5 ++ r) y T3 → fNe x y (s5 ++ r) = .ok (.bl false) (s5 ++ r) := fun r x y h1 h2 => by
    rw [hT3] at h1 h2
    rw [tale_ne h1 h2 fit3.1 fit3.1, decide_eq_true rfl]; rfl
  have ne3 : ∀ r x, IsL (s5 ++ r) x [] → fNe x (.lst []) (s5 ++ r) = .ok (.bl false) (s5 ++ r) := fun r x h => by
    have := tale_ne (l := []) (m := []) h (IsL.lst (st := s5 ++ r) (l := [])) nofun nofun
    rw [decide_eq_true rfl] at this
    exact this
  have lit1 : D.lst [.tup [.int 0, .int 0, .str "go", .int 0]] = .lst [cd] := by rw [hcd]; rfl
  have lit2 : D.lst [.tup [.str "order", .int 0, .str "go", .int 0], .tup [.str "tick", .int 2], .tup [.str "bring", .int 0, .int 1]] = .lst T3 := by rw [hT3]; rfl
  refine Rt.sq ⟨[some (.int L), some (.loc a1), some (.loc a2), some (.lst [cd]), some (.loc s5.length), none], s5 ++ [.list T3], ?_, ?_⟩
  · have a := ne1 [.list T3] (.lst [cd]) (.lst [cd]) IsL.lst IsL.lst
    have b := ne2 [.list T3] (.loc s5.length) (.lst T3) ty3 IsL.lst
    simp [lit1, lit2, a, b]
  refine Rt.sq ⟨[some (.int L), some (.loc a1), some (.loc a2), some (.lst [cd]), some (.loc s5.length), none], s5 ++ [.list T3, .list []], ?_, ?_⟩
  · have a := k1 [some (.int L), some (.loc a1), some (.loc a2), some (.lst [cd]), some (.loc s5.length), none] rfl [.list T3]
    have l1 : (s5 ++ [Cell.list T3]).length = s5.length + 1 := by simp
    rw [l1, List.append_assoc] at a
    simp [a, -dMeth_ap, mClear]
  obtain ⟨Q, hQ⟩ : ∃ q, q = T3 ++ [D.tup [.str "tick", .int 9]] := ⟨_, rfl⟩
  have hTl : T3.length ≤ 16777215 := by rw [hT3]; decide
  refine Rt.sq ⟨[some (.int L), some (.loc a1), some (.loc a2), some (.lst [cd]), some (.loc s5.length), none], s5 ++ [.list T3, .list [], .list Q], ?_, ?_⟩
  · have a := t1 [some (.int L), some (.loc a1), some (.loc a2), some (.lst [cd]), some (.loc s5.length), none] rfl [.list T3, .list []]
    have l1 : (s5 ++ [Cell.list T3, .list []]).length = s5.length + 2 := by simp
    rw [l1, List.append_assoc] at a
    simp [a, -dMeth_ap, hTl, ← hQ]
  obtain ⟨rr, hrr⟩ : ∃ r : Sto, r = [.list [], .list Q, .list [cd], .list T3, .list []] := ⟨_, rfl⟩
  refine Rt.sq ⟨[some (.int L), some (.loc a1), some (.loc a2), some (.lst [cd]), some (.loc s5.length), none], s5 ++ .list T3 :: rr, ?_, ?_⟩
  · have a := k1 [some (.int L), some (.loc a1), some (.loc a2), some (.lst [cd]), some (.loc s5.length), none] rfl [.list T3, .list [], .list Q]
    have b := t1 [some (.int L), some (.loc a1), some (.loc a2), some (.lst [cd]), some (.loc s5.length), none] rfl [.list T3, .list [], .list Q, .list [cd]]
    have c := t2 [some (.int L), some (.loc a1), some (.loc a2), some (.lst [cd]), some (.loc s5.length), none] rfl [.list T3, .list [], .list Q, .list [cd], .list T3]
    have d := r1 [some (.int L), some (.loc a1), some (.loc a2), some (.lst [cd]), some (.loc s5.length), none] rfl [.list T3, .list [], .list Q, .list [cd], .list T3, .list []]
    rw [show (s5 ++ [Cell.list T3, .list [], .list Q]).length = s5.length + 3 by simp, List.append_assoc] at a
    rw [show (s5 ++ [Cell.list T3, .list [], .list Q, .list [cd]]).length = s5.length + 4 by simp, List.append_assoc] at b
    rw [show (s5 ++ [Cell.list T3, .list [], .list Q, .list [cd], .list T3]).length = s5.length + 5 by simp, List.append_assoc] at c
    have e1 := ne1 [.list T3, .list [], .list Q, .list [cd]] (.loc (s5.length + 3)) (.lst [cd]) (IsL.loc (by simp)) IsL.lst
    have e2 := ne2 [.list T3, .list [], .list Q, .list [cd], .list T3] (.loc (s5.length + 4)) (.loc s5.length) (IsL.loc (by simp)) (IsL.loc (by simp))
    have e3 := ne3 [.list T3, .list [], .list Q, .list [cd], .list T3, .list []] (.loc (s5.length + 5)) (IsL.loc (by simp))
    simp only [List.cons_append, List.nil_append] at a b c
    rw [hrr]
    simp [a, b, c, d, e1, e2, e3, -dMeth_ap]
  have j1 := tale_judged_eq h1 h2 (W := 2) (by decide) (by decide) (ds := tale3) (by decide) fit3.1 (d := .loc s5.length) (st := s5 ++ .list T3 :: rr) (IsL.loc (by rw [hT3]; simp))
  rw [(run3 L).1] at j1
  have j1 : d_tale_judged [.int L, .int 2, .loc s5.length] (s5 ++ .list T3 :: rr) = .ok (.ins 3 []) (s5 ++ .list T3 :: rr) := j1
  refine Rt.sq ⟨[some (.int L), some (.loc a1), some (.loc a2), some (.lst [cd]), some (.loc s5.length), none], s5 ++ .list T3 :: rr, by simp [j1], ?_⟩
  obtain ⟨T4, hT4⟩ : ∃ t, t = tale3w.map Deed.d := ⟨_, rfl⟩
  obtain ⟨T5, hT5⟩ : ∃ t, t = tale2.map Deed.d := ⟨_, rfl⟩
  have x4 : T3.set 2 (.tup [.str "bring", .int 1, .int 1]) = T4 := by rw [hT3, hT4]; rfl
  have xi : ixN T3.length 2 = some 2 := by rw [hT3]; rfl
  refine Rt.sq ⟨[some (.int L), some (.loc a1), some (.loc a2), some (.lst [cd]), some (.loc s5.length), none], s5 ++ .list T4 :: rr, by simp [x4, xi], ?_⟩
  have j2 := tale_judged_eq h1 h2 (W := 2) (by decide) (by decide) (ds := tale3w) (by decide) fit3.2.1 (d := .loc s5.length) (st := s5 ++ .list T4 :: rr) (IsL.loc (by rw [hT4]; simp))
  rw [(run3 L).2.1] at j2
  have j2 : d_tale_judged [.int L, .int 2, .loc s5.length] (s5 ++ .list T4 :: rr) = .ok (.ins 4 [.int 2]) (s5 ++ .list T4 :: rr) := j2
  have w2 := wrong_shows h1 h2 (W := 2) (by decide) (by decide) (ds := tale3w) (by decide) fit3.2.1 2 (d := .loc s5.length) (st := s5 ++ .list T4 :: rr) (IsL.loc (by rw [hT4]; simp))
  rw [(run3 L).2.1] at w2
  have w2 : d_Wrong_shows [.ins 4 [.int 2], .int L, .int 2, .loc s5.length] (s5 ++ .list T4 :: rr) = .ok (.bl true) (s5 ++ .list T4 :: rr) := w2
  have ms4 : ms_shows 4 = some (4, d_Wrong_shows) := rfl
  refine Rt.sq ⟨[some (.int L), some (.loc a1), some (.loc a2), some (.lst [cd]), some (.loc s5.length), some (.ins 4 [.int 2])], s5 ++ .list T4 :: rr, by simp [j2], ?_⟩
  refine Rt.sq ⟨[some (.int L), some (.loc a1), some (.loc a2), some (.lst [cd]), some (.loc s5.length), some (.ins 4 [.int 2])], s5 ++ .list T4 :: rr, by simp [w2, ms4], ?_⟩
  have hp : mPop (s5 ++ .list T4 :: rr) T4 [] = some (.tup [.str "bring", .int 1, .int 1], T5) := by rw [hT4, hT5]; rfl
  refine Rt.sq ⟨[some (.int L), some (.loc a1), some (.loc a2), some (.lst [cd]), some (.loc s5.length), some (.ins 4 [.int 2])], s5 ++ .list T5 :: rr, by simp [hp], ?_⟩
  have j3 := tale_judged_eq h1 h2 (W := 2) (by decide) (by decide) (ds := tale2) (by decide) fit3.2.2 (d := .loc s5.length) (st := s5 ++ .list T5 :: rr) (IsL.loc (by rw [hT5]; simp))
  rw [(run3 L).2.2] at j3
  have j3 : d_tale_judged [.int L, .int 2, .loc s5.length] (s5 ++ .list T5 :: rr) = .ok (.ins 3 []) (s5 ++ .list T5 :: rr) := j3
  have w3 := wrong_shows h1 h2 (W := 2) (by decide) (by decide) (ds := tale2) (by decide) fit3.2.2 2 (d := .loc s5.length) (st := s5 ++ .list T5 :: rr) (IsL.loc (by rw [hT5]; simp))
  rw [(run3 L).2.2] at w3
  have w3 : d_Wrong_shows [.ins 4 [.int 2], .int L, .int 2, .loc s5.length] (s5 ++ .list T5 :: rr) = .ok (.bl false) (s5 ++ .list T5 :: rr) := w3
  refine ⟨s5 ++ .list T5 :: rr, by simp [j3, w3, ms4], ?_⟩
  obtain ⟨r, rfl⟩ := pre
  exact ⟨r ++ .list T5 :: rr, List.append_assoc ..⟩
end Wt.Lk10

namespace Wt.Lk10
open PySem PySem.Spec PyProof.Rows L2 Wt
theorem Nx.sq' {A B : DenS} {env : En} {st : Sto} {P Q : En → Sto → Prop} (h : Nx (A env st) Q) (k : ∀ e s, Q e s → Nx (B e s) P) : Nx (sSeq A B env st) P := by
  obtain ⟨e, s, h1, h2⟩ := h.ex
  rw [sSeq_ap, h1]
  exact k e s h2
theorem Nx.of {r : Fl} {e : En} {s : Sto} {P : En → Sto → Prop} (h : r = .nx e s) (p : P e s) : Nx r P := by rw [h]; exact p
theorem Nx.sq {A B : DenS} {env : En} {st : Sto} {P : En → Sto → Prop} (h : ∃ e s, A env st = .nx e s ∧ Nx (B e s) P) : Nx (sSeq A B env st) P := by
  obtain ⟨e, s, h1, h2⟩ := h
  rw [sSeq_ap, h1]
  exact h2
theorem ixN_of {n : Nat} {k : Int} (h0 : 0 ≤ k) (h1 : k < n) : ixN n k = some k.toNat := by
  unfold ixN
  rw [if_pos h0, if_pos h1]
theorem ms_pop (st : Sto) (l : List D) (h : 0 < l.length) : mPop st l [] = some (l[l.length - 1], l.dropLast) := by
  have : l[l.length - 1]? = some l[l.length - 1] := List.getElem?_eq_getElem (by omega)
  simp only [mPop, this]
@[simp] theorem ms_rev (st : Sto) (l : List D) : mReverse st l [] = some (.non, l.reverse) := (rfl)
/-- a command, changed in place -/
def chgC (turn : Int) (c : Cmd) : Cmd := (10000000000000000000000000000000 + turn, c.2.1, if c.2.2.1 = kHold then kGo else c.2.2.1, c.2.2.2)
theorem hold_not : ¬ kHold = kMove := by decide +kernel
theorem chg_vc {L turn : Int} {c : Cmd} (h : Vc L c) (ht : 0 ≤ turn) : Vc L (chgC turn c) := by
  refine ⟨by show (0 : Int) ≤ 10000000000000000000000000000000 + turn; omega, h.h0, h.h4, ?_, h.p0, ?_⟩
  · show (if c.2.2.1 = kHold then kGo else c.2.2.1) = kHold ∨ (if c.2.2.1 = kHold then kGo else c.2.2.1) = kGo ∨ (if c.2.2.1 = kHold then kGo else c.2.2.1) = kMove
    by_cases e : c.2.2.1 = kHold
    · rw [if_pos e]; exact .inr (.inl rfl)
    · rw [if_neg e]; exact h.k
  · have hp := h.p1
    show if (if c.2.2.1 = kHold then kGo else c.2.2.1) = kMove then c.2.2.2 ≤ L else c.2.2.2 = 0
    by_cases e : c.2.2.1 = kHold
    · rw [if_pos e, if_neg go_not]
      rw [e, if_neg hold_not] at hp
      exact hp
    · rw [if_neg e]
      exact hp
/-- what the law's lists keep -/
structure Lst3 (L turn : Int) (one other : List Cmd) (pl : List Int) : Prop where
  v1 : Vcs L one
  v2 : Vcs L other
  t1 : ∀ c ∈ one, c.1 < 10000000000000000000000000000000 + turn
  l1 : one.length ≤ 5
  l2 : (other.length : Int) ≤ 5 + turn
  p : Pls pl
  lp : (pl.length : Int) ≤ 6 + turn
theorem one_chg {L turn : Int} {one : List Cmd} (v : Vcs L one) (ht : 0 ≤ turn) (t1 : ∀ c ∈ one, c.1 < 10000000000000000000000000000000 + turn) (l1 : one.length ≤ 5) {k : Nat} {c : Cmd} (hk : one[k]? = some c) :
    Vcs L (one.set k (chgC turn c)).reverse ∧ (∀ x ∈ (one.set k (chgC turn c)).reverse, x.1 < 10000000000000000000000000000000 + (turn + 1)) ∧ (one.set k (chgC turn c)).reverse.length ≤ 5 := by
  have hm : ∀ d ∈ (one.set k (chgC turn c)).reverse, d ∈ one ∨ d = chgC turn c := fun d hd => by
    rw [List.mem_reverse] at hd
    exact List.mem_or_eq_of_mem_set hd
  have hc := List.mem_of_getElem? hk
  have hx : (chgC turn c).1 = 10000000000000000000000000000000 + turn := rfl
  refine ⟨⟨fun d hd => ?_, fun d hd e he hde => ?_, by rw [List.length_reverse, List.length_set]; omega⟩, fun d hd => ?_, by rw [List.length_reverse, List.length_set]; omega⟩
  · rcases hm d hd with q | rfl
    · exact v.v d q
    · exact chg_vc (v.v c hc) ht
  · have hk := (keyC_inj hde).1
    rcases hm d hd with q | rfl
    · rcases hm e he with r | rfl
      · exact v.u d q e r hde
      · have := t1 d q
        rw [hx] at hk
        omega
    · rcases hm e he with r | rfl
      · have := t1 e r
        rw [hx] at hk
        omega
      · rfl
  · rcases hm d hd with q | rfl
    · have := t1 d q; omega
    · rw [hx]; omega
theorem taken_wh {B : DenS} {P : DenB} {E : Int → En} {s : Sto} {tk : List (Int × Int)} (hP : ∀ k, P (E k) s = .ok (decide ((k, 3) ∈ tk)) s) (hB : ∀ k, B (E k) s = .nx (E (k + 1)) s) :
    ∀ (n : Nat) (k : Int), (tk.filter fun q => decide (k ≤ q.1)).length < n → ∃ k', k ≤ k' ∧ (k', 3) ∉ tk ∧ whIt P B n (E k) s = .nx (E k') s
  | 0, _, h => by omega
  | n + 1, k, h => by
    by_cases hk : (k, 3) ∈ tk
    · have hlt : (tk.filter fun q => decide (k + 1 ≤ q.1)).length < (tk.filter fun q => decide (k ≤ q.1)).length := by
        have h1 : tk.filter (fun q => decide (k + 1 ≤ q.1)) = (tk.filter fun q => decide (k ≤ q.1)).filter fun q => decide (k + 1 ≤ q.1) := by
          rw [List.filter_filter]
          refine List.filter_congr fun q _ => ?_
          by_cases h1 : k + 1 ≤ q.1
          · rw [decide_eq_true h1, decide_eq_true (by omega : k ≤ q.1)]; rfl
          · rw [decide_eq_false h1]; rfl
        rw [h1]
        refine List.length_filter_lt_length_iff_exists.mpr ⟨(k, 3), List.mem_filter.mpr ⟨hk, decide_eq_true (Int.le_refl _)⟩, ?_⟩
        simp
        omega
      obtain ⟨k', h1, h2, h3⟩ := taken_wh hP hB n (k + 1) (by omega)
      refine ⟨k', by omega, h2, ?_⟩
      rw [whIt, hP, decide_eq_true hk]
      show (match B (E k) s with | .nx e s => whIt P B n e s | .ct e s => whIt P B n e s | .bk e s => .nx e s | o => o) = _
      rw [hB]
      exact h3
    · refine ⟨k, Int.le_refl _, hk, ?_⟩
      rw [whIt, hP, decide_eq_false hk]
      rfl
theorem law_changed_ok {L turn wh : Int} {one other : List Cmd} {pl : List Int} (K : Lst3 L turn one other pl) (t0 : 0 ≤ turn) (t2 : turn ≤ 2) (hw : 0 ≤ wh) {a b p : Nat} {s : Sto} (ha : s[a]? = some (.list (one.map cmdD))) (hb : s[b]? = some (.list (other.map cmdD))) (hp : s[p]? = some (.list (pl.map .int))) (ab : a ≠ b) (ap : a ≠ p) (bp : b ≠ p) :
    ∃ s' one' other' pl', d_law_changed [.loc a, .loc b, .loc p, .int wh, .int turn] s = .ok .non s' ∧ Off [a, b, p] s s' ∧ s'[a]? = some (.list (one'.map cmdD)) ∧ s'[b]? = some (.list (other'.map cmdD)) ∧ s'[p]? = some (.list (pl'.map .int)) ∧ Lst3 L (turn + 1) one' other' pl' := by
  suffices h : Nx (B_law_changed [some (.loc a), some (.loc b), some (.loc p), some (.int wh), some (.int turn), none, none, none, none, none, none, none] s) (fun _ s' => ∃ one' other' pl', Off [a, b, p] s s' ∧ s'[a]? = some (.list (one'.map cmdD)) ∧ s'[b]? = some (.list (other'.map cmdD)) ∧ s'[p]? = some (.list (pl'.map .int)) ∧ Lst3 L (turn + 1) one' other' pl') by
    obtain ⟨e, s', h1, one', other', pl', h2⟩ := h.ex
    have h' : B_law_changed ([D.loc a, .loc b, .loc p, .int wh, .int turn].map some ++ List.replicate (12 - [D.loc a, .loc b, .loc p, .int wh, .int turn].length) none) s = _ := h1
    exact ⟨s', one', other', pl', by rw [d_law_changed, run_ap, h']; rfl, h2⟩
  unfold B_law_changed
  refine Nx.sq' (Q := fun e s' => (∃ v5 v6 v7 v8 v9, e = [some (.loc a), some (.loc b), some (.loc p), some (.int wh), some (.int turn), v5, v6, v7, v8, v9, none, none]) ∧ Off [a] s s' ∧ ∃ one', s'[a]? = some (.list (one'.map cmdD)) ∧ Vcs L one' ∧ (∀ c ∈ one', c.1 < 10000000000000000000000000000000 + (turn + 1)) ∧ one'.length ≤ 5) ?_ ?_
  · have hne := fNe_cmds (st := s) (d := .loc a) (e := .lst []) (l := one) (m := []) (IsL.loc ha) IsL.lst K.v1.ok nofun
    by_cases he : one = []
    · subst he
      rw [decide_eq_true rfl] at hne
      simp [hne]
      exact ⟨Off.refl, [], ha, K.v1, nofun, by decide⟩
    · rw [decide_eq_false he] at hne
      have hlen : 0 < one.length := List.length_pos_iff.mpr he
      have hlen' : (0 : Int) < (one.length : Int) := by omega
      obtain ⟨k, hk, hk1⟩ : ∃ k : Nat, (k : Int) = wh % (one.length : Int) ∧ k < one.length := by
        have h0 := Int.emod_nonneg wh (by omega : (one.length : Int) ≠ 0)
        have h1 := Int.emod_lt_of_pos wh hlen'
        exact ⟨(wh % (one.length : Int)).toNat, by omega, by omega⟩
      have hgc : one[k]? = some one[k] := List.getElem?_eq_getElem hk1
      obtain ⟨c, hc⟩ : ∃ c, c = one[k] := ⟨_, rfl⟩
      rw [← hc] at hgc
      have hcm := List.mem_of_getElem? hgc
      have hat : atI (one.map cmdD) (k : Int) = some (cmdD c) := atI_of (by omega) (by rw [Int.toNat_natCast, List.getElem?_map, hgc]; rfl)
      have hok := K.v1.ok c hcm
      have kq := fun st => eq_kind (a := c.2.2.1) (b := kHold) hok ok_hold st
      have hix : ixN (one.map cmdD).length (k : Int) = some k := by rw [List.length_map]; exact ixN_of (by omega) (by omega)
      have hx : ∀ st v5 v6 v7 v9 v10 v11, X_law_changed_1 [some (.loc a), some (.loc b), some (.loc p), some (.int wh), some (.int turn), v5, v6, v7, some (.str c.2.2.1), v9, v10, v11] st = .ok (.str (if c.2.2.1 = kHold then kGo else c.2.2.1)) st := fun st v5 v6 v7 v9 v10 v11 => by
        have := kq st
        by_cases e : c.2.2.1 = kHold
        · rw [decide_eq_true e] at this
          rw [if_pos e]
          simp [X_law_changed_1, this]
        · rw [decide_eq_false e] at this
          rw [if_neg e]
          simp [X_law_changed_1, this]
      obtain ⟨w1, w2, w3⟩ := one_chg K.v1 t0 K.t1 K.l1 hgc
      obtain ⟨one', ho'⟩ : ∃ o, o = (one.set k (chgC turn c)).reverse := ⟨_, rfl⟩
      rw [← ho'] at w1 w2 w3
      have hd : one'.map cmdD = ((one.map cmdD).set k (cmdD (chgC turn c))).reverse := by rw [ho', List.map_reverse, List.map_set]
      have hla : a < s.length := get_lt ha
      obtain ⟨od, hod⟩ : ∃ o, o = one.map cmdD := ⟨_, rfl⟩
      have hol : od.length = one.length := by rw [hod, List.length_map]
      rw [← hod] at ha hat hix hd
      obtain ⟨nd, hnd⟩ : ∃ n, n = D.tup [.int (10000000000000000000000000000000 + turn), .int c.2.1, .str (if c.2.2.1 = kHold then kGo else c.2.2.1), .int c.2.2.2] := ⟨_, rfl⟩
      have hcd : cmdD (chgC turn c) = nd := by rw [hnd]; rfl
      rw [hcd] at hd
      have hfin : (∃ v5 v6 v7 v8 v9, [some (.loc a), some (.loc b), some (.loc p), some (.int wh), some (.int turn), some (.int k), some (.int c.1), some (.int c.2.1), some (.str c.2.2.1), some (.int c.2.2.2), none, none] = [some (D.loc a), some (.loc b), some (.loc p), some (.int wh), some (.int turn), v5, v6, v7, v8, v9, none, none]) ∧ Off [a] s ((s.set a (.list (od.set k nd))).set a (.list (od.set k nd).reverse)) ∧ ∃ one', ((s.set a (.list (od.set k nd))).set a (.list (od.set k nd).reverse))[a]? = some (.list (one'.map cmdD)) ∧ Vcs L one' ∧ (∀ c ∈ one', c.1 < 10000000000000000000000000000000 + (turn + 1)) ∧ one'.length ≤ 5 :=
        ⟨⟨_, _, _, _, _, rfl⟩, (Off.set (by simp)).trans (Off.set (by simp)), one', by rw [← hd]; exact set_at (set_at ha), w1, w2, w3⟩
      have hs2 : (s.set a (.list (od.set k nd)))[a]? = some (.list (od.set k nd)) := set_at ha
      have hlod : 0 < od.length := by omega
      have hlod' : (0 : Int) < (od.length : Int) := by omega
      rw [← hol] at hk
      simp only [cmdD] at hat
      refine Nx.of ?_ hfin
      simp [hne, ha, hlod, hlod', ← hk, hat, hx, ← hnd, hix, hs2]
  rintro e s1 ⟨⟨v5, v6, v7, v8, v9, rfl⟩, o1, one', ha1, w1, w2, w3⟩
  have hb1 : s1[b]? = some (.list (other.map cmdD)) := (o1.2 b (by simp only [List.mem_singleton]; omega)).trans hb
  have hp1 : s1[p]? = some (.list (pl.map .int)) := (o1.2 p (by simp only [List.mem_singleton]; omega)).trans hp
  refine Nx.sq' (Q := fun e s' => (∃ v5 v6 v7 v8 v9 v10, e = [some (.loc a), some (.loc b), some (.loc p), some (.int wh), some (.int turn), v5, v6, v7, v8, v9, v10, none]) ∧ Off [b] s1 s' ∧ ∃ other' : List Cmd, s'[b]? = some (.list (other'.map cmdD)) ∧ Vcs L other' ∧ (other'.length : Int) ≤ 5 + (turn + 1)) ?_ ?_
  · have hl2 := K.l2
    by_cases h0 : turn = 0
    · subst h0
      obtain ⟨tk, htk⟩ : ∃ tk : List (Int × Int), tk = other.map fun c => (c.1, c.2.1) := ⟨_, rfl⟩
      have hL : ∀ w6 w7 w8 w9 w10 w11 w5, L_law_changed_1 [some (.loc a), some (.loc b), some (.loc p), some (.int wh), some (.int 0), w5, w6, w7, w8, w9, w10, w11] s1 = .ok (tk.map pairD) s1 := fun w6 w7 w8 w9 w10 w11 w5 => by
        have := lc_map (keep := keepL (.loc b) (other.map cmdD)) (vs := [11]) (g := gVar 11) (A := (dSl (dVar 11) oNone (oSome (dC (.int 2))))) (env := [some (.loc a), some (.loc b), some (.loc p), some (.int wh), some (.int 0), w5, w6, w7, w8, w9, w10, w11]) (st := s1) (enc := cmdD) (fun c => pairD (c.1, c.2.1)) other
          (fun c hc => ⟨_, rfl, by simp [wipeE, sl2]⟩) (by omega) (IsL.loc hb1).kp
        have h2 : tk.map pairD = other.map fun c => pairD (c.1, c.2.1) := by rw [htk, List.map_map]; rfl
        rw [h2]
        simp [L_law_changed_1, hb1, this]
      obtain ⟨TK, hTK⟩ : ∃ t, t = tk.map pairD := ⟨_, rfl⟩
      obtain ⟨k', k0, k1, k2⟩ := taken_wh (P := (dTest (dOp fIn (dTup (aCons (dVar 5) (aCons (dC (.int 3)) aNil))) (dVar 10)))) (B := (sAsg (gVar 5) (dOp fAdd (dVar 5) (dC (.int 1)))))
        (E := fun k => [some (.loc a), some (.loc b), some (.loc p), some (.int wh), some (.int 0), some (.int k), v6, v7, v8, v9, some (.lst TK), none]) (s := s1) (tk := tk)
        (fun k => by
          have := EqPair.fIn (st := s1) (x := (k, 3)) (IsL.lst (l := tk.map pairD)) ⟨trivial, trivial⟩ fun _ _ => ⟨trivial, trivial⟩
          rw [← hTK] at this
          simp only [] at this
          simp [this]) (fun k => by simp) 1000 0 (by
          have := List.length_filter_le (fun q : Int × Int => decide ((0 : Int) ≤ q.1)) tk
          rw [htk, List.length_map] at this
          rw [htk]
          omega)
      have hdl : other.map cmdD ++ [D.tup [.int k', .int 3, .str "go", .int 0]] = (other ++ [(k', 3, kGo, 0)]).map cmdD := by rw [List.map_append]; rfl
      have hfin : (∃ w5 w6 w7 w8 w9 w10, ([some (.loc a), some (.loc b), some (.loc p), some (.int wh), some (.int 0), some (.int k'), v6, v7, v8, v9, some (.lst TK), none] : En) = [some (.loc a), some (.loc b), some (.loc p), some (.int wh), some (.int 0), w5, w6, w7, w8, w9, w10, none]) ∧ Off [b] s1 (s1.set b (.list (other.map cmdD ++ [D.tup [.int k', .int 3, .str "go", .int 0]]))) ∧ ∃ other' : List Cmd, (s1.set b (.list (other.map cmdD ++ [D.tup [.int k', .int 3, .str "go", .int 0]])))[b]? = some (.list (other'.map cmdD)) ∧ Vcs L other' ∧ (other'.length : Int) ≤ 5 + (0 + 1) := by
        refine ⟨⟨_, _, _, _, _, _, rfl⟩, Off.set (by simp), _, by rw [hdl]; exact set_at hb1, ⟨fun c hc => ?_, fun c hc d hd hk => ?_, ?_⟩, ?_⟩
        · rcases List.mem_append.mp hc with q | q
          · exact K.v2.v c q
          · rw [List.mem_singleton.mp q]
            exact ⟨k0, by show (0 : Int) ≤ 3; decide, by show (3 : Int) < 4; decide, .inr (.inl rfl), Int.le_refl _, by show if kGo = kMove then _ else _; rw [if_neg go_not]⟩
        · have hnk : ∀ x ∈ other, keyC x ≠ keyC (k', 3, kGo, 0) := fun x hx e => k1 (by
            obtain ⟨e1, e2⟩ := keyC_inj e
            rw [htk]
            exact List.mem_map.mpr ⟨x, hx, Prod.ext e1 e2⟩)
          rcases List.mem_append.mp hc with q | q
          · rcases List.mem_append.mp hd with r | r
            · exact K.v2.u c q d r hk
            · rw [List.mem_singleton.mp r] at hk
              exact absurd hk (hnk c q)
          · rcases List.mem_append.mp hd with r | r
            · rw [List.mem_singleton.mp q] at hk
              exact absurd hk.symm (hnk d r)
            · rw [List.mem_singleton.mp q, List.mem_singleton.mp r]
        · rw [List.length_append, List.length_singleton]; omega
        · rw [List.length_append, List.length_singleton]; omega
      refine Nx.of ?_ hfin
      obtain ⟨od, hod⟩ : ∃ o, o = other.map cmdD := ⟨_, rfl⟩
      have hol : od.length ≤ 16777215 := by rw [hod, List.length_map]; omega
      rw [← hTK] at hL
      rw [← hod] at hb1 ⊢
      have k2' : sWhile (dTest (dOp fIn (dTup (aCons (dVar 5) (aCons (dC (.int 3)) aNil))) (dVar 10))) (sAsg (gVar 5) (dOp fAdd (dVar 5) (dC (.int 1)))) [some (.loc a), some (.loc b), some (.loc p), some (.int wh), some (.int 0), some (.int 0), v6, v7, v8, v9, some (.lst TK), none] s1 = _ := k2
      simp [hL, k2', hb1, hol]
    · have hne := fNe_cmds (st := s1) (d := .loc b) (e := .lst []) (l := other) (m := []) (IsL.loc hb1) IsL.lst K.v2.ok nofun
      by_cases he : other = []
      · subst he
        rw [decide_eq_true rfl] at hne
        refine Nx.of (e := [some (.loc a), some (.loc b), some (.loc p), some (.int wh), some (.int turn), v5, v6, v7, v8, v9, none, none]) (s := s1) ?_ ⟨⟨_, _, _, _, _, _, rfl⟩, Off.refl, [], hb1, K.v2, by show ((0 : Nat) : Int) ≤ _; omega⟩
        simp [h0, hne]
      · rw [decide_eq_false he] at hne
        have hlen : 0 < other.length := List.length_pos_iff.mpr he
        have hd : (other.map cmdD).dropLast = (other.dropLast).map cmdD := by rw [List.dropLast_eq_take, List.dropLast_eq_take, List.map_take, List.length_map]
        obtain ⟨od, hod⟩ : ∃ o, o = other.map cmdD := ⟨_, rfl⟩
        have hol : 0 < od.length := by rw [hod, List.length_map]; omega
        rw [← hod] at hb1 hd
        have hpop := fun s => ms_pop s od hol
        refine Nx.of (e := [some (.loc a), some (.loc b), some (.loc p), some (.int wh), some (.int turn), v5, v6, v7, v8, v9, none, none]) (s := s1.set b (.list od.dropLast)) ?_ ⟨⟨_, _, _, _, _, _, rfl⟩, Off.set (by simp), other.dropLast, by rw [← hd]; exact set_at hb1, K.v2.sub (fun c hc => (List.dropLast_sublist _).subset hc) (by rw [List.length_dropLast]; omega), by rw [List.length_dropLast]; omega⟩
        simp [h0, hne, hb1, hpop]
  rintro e s2 ⟨⟨v5, v6, v7, v8, v9, v10, rfl⟩, o2, other', hb2, y1, y2⟩
  have ha2 : s2[a]? = some (.list (one'.map cmdD)) := (o2.2 a (by simp only [List.mem_singleton]; omega)).trans ha1
  have hp2 : s2[p]? = some (.list (pl.map .int)) := (o2.2 p (by simp only [List.mem_singleton]; omega)).trans hp1
  have hpl := K.p.l1
  have hpl2 := K.lp
  have hlen : 0 < pl.length := hpl
  have hlen' : (0 : Int) < (pl.length : Int) := by omega
  obtain ⟨k, hk, hk1⟩ : ∃ k : Nat, (k : Int) = wh / 5 % (pl.length : Int) ∧ k < pl.length := by
    have h0 := Int.emod_nonneg (wh / 5) (by omega : (pl.length : Int) ≠ 0)
    have h1 := Int.emod_lt_of_pos (wh / 5) hlen'
    exact ⟨(wh / 5 % (pl.length : Int)).toNat, by omega, by omega⟩
  obtain ⟨v, hv⟩ : ∃ v, v = wh / 7 % 1000 := ⟨_, rfl⟩
  have hv0 : 0 ≤ v ∧ v < 1000 := by rw [hv]; omega
  have hd : ((pl.set k v ++ [turn]).reverse).map D.int = ((pl.map D.int).set k (D.int v) ++ [D.int turn]).reverse := by rw [List.map_reverse, List.map_append, List.map_set]; rfl
  obtain ⟨pd, hpd⟩ : ∃ o, o = pl.map D.int := ⟨_, rfl⟩
  have hpdl : pd.length = pl.length := by rw [hpd, List.length_map]
  rw [← hpd] at hp2 hd
  have hix : ixN pd.length (k : Int) = some k := by rw [hpdl]; exact ixN_of (by omega) (by omega)
  have g1 : (s2.set p (.list (pd.set k (.int v))))[p]? = some (.list (pd.set k (.int v))) := set_at hp2
  have g2 : ((s2.set p (.list (pd.set k (.int v)))).set p (.list (pd.set k (.int v) ++ [.int turn])))[p]? = some (.list (pd.set k (.int v) ++ [.int turn])) := set_at g1
  have g3 : (s2.set p (.list (pd.set k (.int v) ++ [.int turn])))[p]? = some (.list (pd.set k (.int v) ++ [.int turn])) := set_at hp2
  rw [← hpdl] at hk hlen hlen'
  have hz : pd.length ≤ 16777215 := by omega
  refine Nx.sq ⟨[some (.loc a), some (.loc b), some (.loc p), some (.int wh), some (.int turn), v5, v6, v7, v8, v9, v10, none], s2.set p (.list (pd.set k (.int v))), by simp [hp2, hlen, hlen', ← hk, ← hv, hix], ?_⟩
  refine Nx.sq ⟨[some (.loc a), some (.loc b), some (.loc p), some (.int wh), some (.int turn), v5, v6, v7, v8, v9, v10, none], (s2.set p (.list (pd.set k (.int v)))).set p (.list (pd.set k (.int v) ++ [.int turn])), by simp [g1, hz], ?_⟩
  have o3 : Off [p] s2 (((s2.set p (.list (pd.set k (D.int v)))).set p (.list (pd.set k (D.int v) ++ [D.int turn]))).set p (.list (pd.set k (D.int v) ++ [D.int turn]).reverse)) := ((Off.set (by simp)).trans (Off.set (by simp))).trans (Off.set (by simp))
  have hmn : ∀ {i : Nat} {F G : List Nat} {x y : Sto}, Off F x y → (∀ j ∈ F, j ∈ G) → Off G x y := fun h hs => ⟨h.1, fun j hj => h.2 j fun q => hj (hs j q)⟩
  refine Nx.of (e := [some (.loc a), some (.loc b), some (.loc p), some (.int wh), some (.int turn), v5, v6, v7, v8, v9, v10, none]) (s := ((s2.set p (.list (pd.set k (.int v)))).set p (.list (pd.set k (.int v) ++ [.int turn]))).set p (.list (pd.set k (D.int v) ++ [D.int turn]).reverse)) (by simp [g1, g2, g3]) ⟨one', other', (pl.set k v ++ [turn]).reverse, ((hmn (i := 0) o1 (by simp)).trans (hmn (i := 0) o2 (by simp))).trans (hmn (i := 0) o3 (by simp)), (o3.2 a (by simp only [List.mem_singleton]; omega)).trans ha2, (o3.2 b (by simp only [List.mem_singleton]; omega)).trans hb2, by rw [hd]; exact set_at g2, ?_⟩
  refine ⟨w1, y1, w2, w3, y2, ⟨?_, ?_, fun x hx => ?_⟩, ?_⟩
  · rw [List.length_reverse, List.length_append, List.length_singleton]; omega
  · rw [List.length_reverse, List.length_append, List.length_singleton, List.length_set]; omega
  · rw [List.mem_reverse, List.mem_append] at hx
    rcases hx with q | q
    · rcases List.mem_or_eq_of_mem_set q with r | rfl
      · exact K.p.b x r
      · omega
    · rw [List.mem_singleton.mp q]; omega
  · rw [List.length_reverse, List.length_append, List.length_singleton, List.length_set]; omega
end Wt.Lk10

namespace Wt.Lk10
open PySem PySem.Spec PyProof.Rows L2 Wt
theorem Nx.it {keep : Sto → Bool} {g : DenG} {B : DenS} {x : D} {r : List D} {e e1 : En} {s : Sto} {P Q : En → Sto → Prop} (hk : keep s = true) (hg : g x e = some e1) (h : Nx (B e1 s) Q) (k : ∀ e s, Q e s → Nx (forIt keep g B r e s) P) : Nx (forIt keep g B (x :: r) e s) P := by
  obtain ⟨e2, s2, h1, h2⟩ := h.ex
  rw [forIt_cons hk, hg, entK_some, h1, bodyK_nx]
  exact k _ _ h2
theorem tick_at (w : Int) : ∃ t : Int, atI [D.int 0, D.int 5, D.int 40, D.int 200] (w % 4) = some (.int t) ∧ 0 ≤ t ∧ t ≤ 200 := by
  have h : w % 4 = 0 ∨ w % 4 = 1 ∨ w % 4 = 2 ∨ w % 4 = 3 := by omega
  rcases h with h | h | h | h <;> rw [h]
  · exact ⟨0, rfl, by decide, by decide⟩
  · exact ⟨5, rfl, by decide, by decide⟩
  · exact ⟨40, rfl, by decide, by decide⟩
  · exact ⟨200, rfl, by decide, by decide⟩
theorem un_few {one other : List Cmd} (h : one.length + other.length < 64) (t : Int) : (unL one other t).length < 64 := by
  unfold unL
  rw [List.length_append]
  have a := List.length_filter_le (fun c => !decide (c ∈ other) && decide (c.1 ≤ t)) one
  have b := List.length_filter_le (fun c => !decide (c ∈ one) && decide (c.1 ≤ t)) other
  omega
/-- where the law's lists lie -/
structure At4 (s : Sto) (a b f p : Nat) (one other far : List Cmd) (pl : List Int) : Prop where
  ha : s[a]? = some (.list (one.map cmdD))
  hb : s[b]? = some (.list (other.map cmdD))
  hf : s[f]? = some (.list (far.map cmdD))
  hp : s[p]? = some (.list (pl.map .int))
  ab : a ≠ b
  ap : a ≠ p
  bp : b ≠ p
  fa : f ≠ a
  fb : f ≠ b
  fp : f ≠ p
theorem law_F3 {L wh turn : Int} {one other far : List Cmd} {pl : List Int} (h1 : 1 ≤ L) (h2 : L ≤ 1000000000) (K : Lst3 L turn one other pl) (hfar : Vcs L far) (t0 : 0 ≤ turn) (t2 : turn ≤ 2) (hw : 0 ≤ wh) {a b f p : Nat} {s : Sto} (A : At4 s a b f p one other far pl) (v0 v2 v9 v10 v11 v12 v13 v14 v15 : Option D) :
    Nx (F_law_3 [v0, some (.int wh), v2, some (.int L), some (.loc a), some (.loc b), some (.loc f), some (.loc p), some (.int turn), v9, v10, v11, v12, v13, v14, v15] s) (fun e s' => (∃ v9 v10 v11 v12 v13 v14 v15, e = [v0, some (.int wh), v2, some (.int L), some (.loc a), some (.loc b), some (.loc f), some (.loc p), some (.int turn), v9, v10, v11, v12, v13, v14, v15]) ∧ ∃ one' other' pl', At4 s' a b f p one' other' far pl' ∧ Lst3 L (turn + 1) one' other' pl') := by
  obtain ⟨t, ht, tt0, tt1⟩ := tick_at (wh + turn)
  have l1 := K.l1
  have l2 := K.l2
  have hun := un_few (one := one) (other := other) (by omega) t
  have r1 := law_right_ok h1 h2 K.v1 K.v2 tt0 (IsL.loc A.ha) (IsL.loc A.hb) hun
  have r2 := places_right_ok K.p (IsL.loc A.hp)
  have j1 := judged_eq h1 h2 K.v1 K.v2 tt0 (IsL.loc A.ha) (IsL.loc A.hb) hun
  obtain ⟨an, han, hok, _⟩ := judg_ans (t := t) (by omega) K.v1.v K.v2.v
  rw [han] at j1
  have m1 := meet_ok K.p (IsL.loc A.hp)
  obtain ⟨s1, hs1⟩ : ∃ x, x = s ++ [Cell.inst 2 [.int (midL pl), .loc (s.length + 1)], .list ((prsL pl).map pairD)] := ⟨_, rfl⟩
  rw [← hs1] at m1
  have lt : ∀ {i : Nat} {c : Cell}, s[i]? = some c → s1[i]? = some c := fun h => by rw [hs1]; exact get_old h
  have ga := lt A.ha
  have gb := lt A.hb
  have gf := lt A.hf
  have gp := lt A.hp
  have g0 : s1[s.length]? = some (Cell.inst 2 [.int (midL pl), .loc (s.length + 1)]) := by rw [hs1]; simp
  have g1 : s1[s.length + 1]? = some (Cell.list ((prsL pl).map pairD)) := by rw [hs1]; simp
  have la := get_lt A.ha
  have lb := get_lt A.hb
  have lp := get_lt A.hp
  obtain ⟨s2, one', other', pl', e2, o2, ga2, gb2, gp2, K2⟩ := law_changed_ok K t0 t2 (wh := wh / 3) (Int.ediv_nonneg hw (by omega)) ga gb gp A.ab A.ap A.bp
  have gf2 := (o2.2 f (by simp only [List.mem_cons, List.not_mem_nil, or_false, not_or]; exact ⟨A.fa, A.fb, A.fp⟩)).trans gf
  have g02 := (o2.2 s.length (by simp only [List.mem_cons, List.not_mem_nil, or_false, not_or]; omega)).trans g0
  have g12 := (o2.2 (s.length + 1) (by simp only [List.mem_cons, List.not_mem_nil, or_false, not_or]; omega)).trans g1
  have A2 : At4 s2 a b f p one' other' far pl' := ⟨ga2, gb2, gf2, gp2, A.ab, A.ap, A.bp, A.fa, A.fb, A.fp⟩
  clear ga gb gf gp g0 g1
  obtain ⟨ad, had⟩ : ∃ x, x = an.d := ⟨_, rfl⟩
  rw [← had] at j1
  refine Nx.sq ⟨[v0, some (.int wh), v2, some (.int L), some (.loc a), some (.loc b), some (.loc f), some (.loc p), some (.int turn), some (.int t), v10, v11, v12, v13, v14, v15], s, by simp [ht], ?_⟩
  refine Nx.sq ⟨[v0, some (.int wh), v2, some (.int L), some (.loc a), some (.loc b), some (.loc f), some (.loc p), some (.int turn), some (.int t), v10, v11, v12, v13, v14, v15], s, by simp [r1, r2], ?_⟩
  refine Nx.sq ⟨[v0, some (.int wh), v2, some (.int L), some (.loc a), some (.loc b), some (.loc f), some (.loc p), some (.int turn), some (.int t), some ad, some (.loc s.length), v12, v13, v14, v15], s1, by simp [j1, m1], ?_⟩
  refine Nx.sq ⟨[v0, some (.int wh), v2, some (.int L), some (.loc a), some (.loc b), some (.loc f), some (.loc p), some (.int turn), some (.int t), some ad, some (.loc s.length), v12, v13, v14, v15], s2, by simp [e2], ?_⟩
  have l1' := K2.l1
  have l2' := K2.l2
  have lf := hfar.l
  refine Nx.sq' (Q := fun e s' => (∃ v12 v13 v14, e = [v0, some (.int wh), v2, some (.int L), some (.loc a), some (.loc b), some (.loc f), some (.loc p), some (.int turn), some (.int t), some ad, some (.loc s.length), v12, v13, v14, v15]) ∧ s' = s2) ?_ ?_
  · have := (for_all (keep := fun _ => true) (g := gTupV [12, 13, 14]) (B := F_law_1) (enc := fun q : D × D × Int => D.tup [q.1, q.2.1, .int q.2.2])
      (fun e s' => (∃ v12 v13 v14, e = [v0, some (.int wh), v2, some (.int L), some (.loc a), some (.loc b), some (.loc f), some (.loc p), some (.int turn), some (.int t), some ad, some (.loc s.length), v12, v13, v14, v15]) ∧ s' = s2)
      (fun q => ∃ m1 m2 : List Cmd, IsL s2 q.1 (m1.map cmdD) ∧ IsL s2 q.2.1 (m2.map cmdD) ∧ (∀ c ∈ m1, okC c) ∧ (∀ c ∈ m2, okC c) ∧ m1.length ≤ 10000 ∧ m2.length ≤ 10000)
      (fun _ _ _ => rfl)
      (fun q e s' hq hi => by
        obtain ⟨m1, m2, i1, i2, k1, k2, n1, n2⟩ := hq
        obtain ⟨⟨v12, v13, v14, rfl⟩, rfl⟩ := hi
        have x1 := ans_shows (L := L) (t := q.2.2) i1 i2 k1 k2 n1 n2 hok (X := dVar 10) (A := dVar 3) (B := dVar 12) (C := dVar 13) (E := dVar 14) (env := [v0, some (.int wh), v2, some (.int L), some (.loc a), some (.loc b), some (.loc f), some (.loc p), some (.int turn), some (.int t), some ad, some (.loc s.length), some q.1, some q.2.1, some (.int q.2.2), v15]) (by rw [← had]; rfl) rfl rfl rfl rfl
        have x2 := pair_due_eq (L := L) (t := q.2.2) i1 i2 k1 k2 hok
        rw [← had] at x2
        refine Nx.of (e := [v0, some (.int wh), v2, some (.int L), some (.loc a), some (.loc b), some (.loc f), some (.loc p), some (.int turn), some (.int t), some ad, some (.loc s.length), some q.1, some q.2.1, some (.int q.2.2), v15]) (s := s') ?_ ⟨⟨_, _, _, rfl⟩, rfl⟩
        simp [F_law_1, x1, x2, bl_ne, -dMeth_ap])
      [(.loc a, .loc b, t), (.loc a, .loc b, 300), (.loc f, .loc a, t), (.lst [], .lst [], 0)] [v0, some (.int wh), v2, some (.int L), some (.loc a), some (.loc b), some (.loc f), some (.loc p), some (.int turn), some (.int t), some ad, some (.loc s.length), v12, v13, v14, v15] s2
      (fun q hq => by
        simp only [List.mem_cons, List.not_mem_nil, or_false] at hq
        rcases hq with rfl | rfl | rfl | rfl
        · exact ⟨one', other', IsL.loc A2.ha, IsL.loc A2.hb, K2.v1.ok, K2.v2.ok, by omega, by omega⟩
        · exact ⟨one', other', IsL.loc A2.ha, IsL.loc A2.hb, K2.v1.ok, K2.v2.ok, by omega, by omega⟩
        · exact ⟨far, one', IsL.loc A2.hf, IsL.loc A2.ha, hfar.ok, K2.v1.ok, by omega, by omega⟩
        · exact ⟨[], [], IsL.lst, IsL.lst, nofun, nofun, by decide, by decide⟩) ⟨⟨_, _, _, rfl⟩, rfl⟩)
    obtain ⟨e, s', hf, hP⟩ := this.ex
    refine Nx.of ?_ hP
    have hf' : forIt (fun _ => true) (gTupV [12, 13, 14]) F_law_1 [.tup [.loc a, .loc b, .int t], .tup [.loc a, .loc b, .int 300], .tup [.loc f, .loc a, .int t], .tup [.lst [], .lst [], .int 0]] [v0, some (.int wh), v2, some (.int L), some (.loc a), some (.loc b), some (.loc f), some (.loc p), some (.int turn), some (.int t), some ad, some (.loc s.length), v12, v13, v14, v15] s2 = .nx e s' := hf
    simp [hf']
  rintro e s3 ⟨⟨v12, v13, v14, rfl⟩, rfl⟩
  have hps := prs_few K.p
  have lp2 := K2.p.l2
  have := (for_all (keep := fun _ => true) (g := gVar 15) (B := F_law_2) (enc := fun q : D => q)
      (fun e s' => (∃ v15, e = [v0, some (.int wh), v2, some (.int L), some (.loc a), some (.loc b), some (.loc f), some (.loc p), some (.int turn), some (.int t), some ad, some (.loc s.length), v12, v13, v14, v15]) ∧ s' = s3)
      (fun q => ∃ m : List Int, IsL s3 q (m.map .int) ∧ m.length ≤ 100)
      (fun _ _ _ => rfl)
      (fun q e s' hq hi => by
        obtain ⟨m, i1, n1⟩ := hq
        obtain ⟨⟨v15, rfl⟩, rfl⟩ := hi
        have x1 := shows_ok (m := midL pl) n1 hps i1 (s := .loc s.length) (by rw [insD_loc, g02]; rfl) (IsL.loc g12)
        have x2 := meets_ok (m := midL pl) n1 hps i1 (IsL.loc g12)
        have ms2 : ms_shows 2 = some (2, d_Meet_shows) := rfl
        refine Nx.of (e := [v0, some (.int wh), v2, some (.int L), some (.loc a), some (.loc b), some (.loc f), some (.loc p), some (.int turn), some (.int t), some ad, some (.loc s.length), v12, v13, v14, some q]) (s := s') ?_ ⟨⟨_, rfl⟩, rfl⟩
        simp [F_law_2, g02, x1, x2, ms2, bl_ne])
      [.loc p, .lst ((pl'.take 1).map .int), .lst [.int 0, .int 9, .int 9]] [v0, some (.int wh), v2, some (.int L), some (.loc a), some (.loc b), some (.loc f), some (.loc p), some (.int turn), some (.int t), some ad, some (.loc s.length), v12, v13, v14, v15] s3
      (fun q hq => by
        simp only [List.mem_cons, List.not_mem_nil, or_false] at hq
        rcases hq with rfl | rfl | rfl
        · exact ⟨pl', IsL.loc A2.hp, by omega⟩
        · exact ⟨pl'.take 1, IsL.lst, by rw [List.length_take]; omega⟩
        · exact ⟨[0, 9, 9], IsL.lst, by decide⟩) ⟨⟨_, rfl⟩, rfl⟩)
  obtain ⟨e, s', hf, ⟨⟨w15, rfl⟩, rfl⟩⟩ := this.ex
  rw [List.map_id'] at hf
  refine Nx.of (e := [v0, some (.int wh), v2, some (.int L), some (.loc a), some (.loc b), some (.loc f), some (.loc p), some (.int turn), some (.int t), some ad, some (.loc s.length), v12, v13, v14, w15]) (s := s') ?_ ⟨⟨_, _, _, _, _, _, _, rfl⟩, one', other', pl', A2, K2⟩
  have hcut : cutD (pl'.map D.int) none (some 1) = (pl'.take 1).map D.int := by rw [List.map_take]; exact cutD_take _ 1
  simp [A2.hp, hcut, hf, -List.map_take]
end Wt.Lk10

namespace Wt.Lk10
open PySem PySem.Spec PyProof.Rows L2 Wt
theorem cmds_far (ns : List Int) (by_ most L : Int) (mv : Bool) : ∀ c ∈ cmdsL ns by_ most L mv, c.1 < 10000000000000000000000000000000 + 0 := fun c hc => by
  obtain ⟨r, hr, rfl⟩ := List.mem_map.mp hc
  obtain ⟨i, _, rfl⟩ := tab_mem _ _ r hr
  have hw := wideC_pos (wholeL ns by_)
  show numC ns by_ i / 16 % wideC (wholeL ns by_) < _
  have := Int.emod_lt_of_pos (numC ns by_ i / 16) (by omega : 0 < wideC (wholeL ns by_))
  omega
theorem law_F4 {ns : List Int} (hns : ∀ z ∈ ns, Bd 1048576 z) {wh : Int} (hw : 0 ≤ wh) {bi : Int} (b0 : 0 ≤ bi) (b1 : bi ≤ 1) (s : Sto) (v3 v4 v5 v6 v7 v8 v9 v10 v11 v12 v13 v14 v15 : Option D) :
    Nx (F_law_4 [some (.scr (ns.map .int)), some (.int wh), some (.int bi), v3, v4, v5, v6, v7, v8, v9, v10, v11, v12, v13, v14, v15] s) (fun e s' => ∃ v2 v3 v4 v5 v6 v7 v8 v9 v10 v11 v12 v13 v14 v15, e = [some (.scr (ns.map .int)), some (.int wh), v2, v3, v4, v5, v6, v7, v8, v9, v10, v11, v12, v13, v14, v15]) := by
  obtain ⟨L, hL⟩ : ∃ L, L = lenL wh := ⟨_, rfl⟩
  have hlen := fun s => law_length_eq wh s
  have L1 := (len_in wh).1
  have L2 := (len_in wh).2
  rw [← hL] at L1 L2
  simp only [← hL] at hlen
  obtain ⟨T1, e1⟩ := law_commands_eq hns (by_ := bi) (most := 5) (L := L) (mv := true) b0 (by omega) (by decide) (by decide) (by omega) s
  obtain ⟨one, hone⟩ : ∃ o, o = cmdsL ns bi 5 L true := ⟨_, rfl⟩
  obtain ⟨other, hother⟩ : ∃ o, o = cmdsL ns (bi + 2) 5 L true := ⟨_, rfl⟩
  obtain ⟨far, hfar⟩ : ∃ o, o = cmdsL ns (bi + 4) 5 L true := ⟨_, rfl⟩
  obtain ⟨pl, hpl⟩ : ∃ o, o = placesL ns bi 6 := ⟨_, rfl⟩
  have n1 := cmds_len ns bi L true (most := 5) (by decide)
  have n2 := cmds_len ns (bi + 2) L true (most := 5) (by decide)
  have n4 := places_len ns bi (most := 6) (by decide)
  have n5 := places_in ns bi 6
  have c1 := cmds_vcs ns (by_ := bi) (most := 5) (L := L) true (by omega) (by decide) (by decide)
  have c2 := cmds_vcs ns (by_ := bi + 2) (most := 5) (L := L) true (by omega) (by decide) (by decide)
  have c3 := cmds_vcs ns (by_ := bi + 4) (most := 5) (L := L) true (by omega) (by decide) (by decide)
  have f1 := cmds_far ns bi 5 L true
  obtain ⟨T2, e2⟩ := law_commands_eq hns (by_ := bi + 2) (most := 5) (L := L) (mv := true) (by omega) (by omega) (by decide) (by decide) (by omega) (s ++ [.dT T1, .list (one.map cmdD)])
  obtain ⟨T3, e3⟩ := law_commands_eq hns (by_ := bi + 4) (most := 5) (L := L) (mv := true) (by omega) (by omega) (by decide) (by decide) (by omega) (s ++ [.dT T1, .list (one.map cmdD)] ++ [.dT T2, .list (other.map cmdD)])
  have e4 := law_places_eq hns (by_ := bi) (most := 6) b0 (by omega) (by decide) (by decide) (s ++ [.dT T1, .list (one.map cmdD)] ++ [.dT T2, .list (other.map cmdD)] ++ [.dT T3, .list (far.map cmdD)])
  rw [← hone] at e1 n1 c1 f1
  rw [← hother] at e2 n2 c2
  rw [← hfar] at e3 c3
  rw [← hpl] at e4 n4 n5
  have K0 : Lst3 L 0 one other pl := ⟨c1, c2, f1, n1, by have : other.length ≤ 5 := n2; omega, ⟨n4.1, by have : pl.length ≤ 6 := n4.2; omega, n5⟩, by have : pl.length ≤ 6 := n4.2; omega⟩
  obtain ⟨od, hod⟩ : ∃ o, o = one.map cmdD := ⟨_, rfl⟩
  obtain ⟨td, htd⟩ : ∃ o, o = other.map cmdD := ⟨_, rfl⟩
  obtain ⟨fd, hfd⟩ : ∃ o, o = far.map cmdD := ⟨_, rfl⟩
  obtain ⟨pd, hpd⟩ : ∃ o, o = pl.map D.int := ⟨_, rfl⟩
  rw [← hod] at e1 e2 e3 e4
  rw [← htd] at e2 e3 e4
  rw [← hfd] at e3 e4
  rw [← hpd] at e4
  have l2 : (s ++ [Cell.dT T1, .list od]).length = s.length + 2 := by simp
  have l3 : (s ++ [Cell.dT T1, .list od] ++ [Cell.dT T2, .list td]).length = s.length + 4 := by simp
  have l4 : (s ++ [Cell.dT T1, .list od] ++ [Cell.dT T2, .list td] ++ [Cell.dT T3, .list fd]).length = s.length + 6 := by simp
  rw [l2] at e2
  rw [l3] at e3
  rw [l4] at e4
  obtain ⟨s1, hs1⟩ : ∃ x, x = s ++ [Cell.dT T1, .list od] := ⟨_, rfl⟩
  obtain ⟨s2, hs2⟩ : ∃ x, x = s1 ++ [Cell.dT T2, .list td] := ⟨_, rfl⟩
  obtain ⟨s3, hs3⟩ : ∃ x, x = s2 ++ [Cell.dT T3, .list fd] := ⟨_, rfl⟩
  obtain ⟨s4, hs4⟩ : ∃ x, x = s3 ++ [Cell.list pd] := ⟨_, rfl⟩
  have hs4' : s4 = s ++ [Cell.dT T1, .list od, .dT T2, .list td, .dT T3, .list fd, .list pd] := by rw [hs4, hs3, hs2, hs1]; simp
  have A0 : At4 s4 (s.length + 1) (s.length + 3) (s.length + 5) (s.length + 6) one other far pl := ⟨by rw [hs4', hod]; simp, by rw [hs4', htd]; simp, by rw [hs4', hfd]; simp, by rw [hs4', hpd]; simp, by omega, by omega, by omega, by omega, by omega, by omega⟩
  rw [← hs1] at e1 e2 e3 e4
  rw [← hs2] at e2 e3 e4
  rw [← hs3] at e3 e4
  rw [← hs4] at e4
  clear hs1 hs2 hs3 hs4 hs4' l2 l3 l4 hod htd hfd hpd
  have hroom := law_room_ok L1 L2 s4
  obtain ⟨v0, hv0⟩ : ∃ v, v = D.scr (ns.map D.int) := ⟨_, rfl⟩
  rw [← hv0] at e1 e2 e3 e4 ⊢
  unfold F_law_4
  refine Nx.sq ⟨[some v0, some (.int wh), some (.int bi), some (.int L), v4, v5, v6, v7, v8, v9, v10, v11, v12, v13, v14, v15], s, by simp [hlen], ?_⟩
  refine Nx.sq ⟨[some v0, some (.int wh), some (.int bi), some (.int L), some (.loc (s.length + 1)), some (.loc (s.length + 3)), v6, v7, v8, v9, v10, v11, v12, v13, v14, v15], s2, by simp [e1, e2], ?_⟩
  refine Nx.sq ⟨[some v0, some (.int wh), some (.int bi), some (.int L), some (.loc (s.length + 1)), some (.loc (s.length + 3)), some (.loc (s.length + 5)), some (.loc (s.length + 6)), v8, v9, v10, v11, v12, v13, v14, v15], s4, by simp [e3, e4], ?_⟩
  refine Nx.sq ⟨[some v0, some (.int wh), some (.int bi), some (.int L), some (.loc (s.length + 1)), some (.loc (s.length + 3)), some (.loc (s.length + 5)), some (.loc (s.length + 6)), v8, v9, v10, v11, v12, v13, v14, v15], s4, by simp [hroom], ?_⟩
  generalize s.length + 1 = a at A0 ⊢
  generalize s.length + 3 = b at A0 ⊢
  generalize s.length + 5 = f at A0 ⊢
  generalize s.length + 6 = p at A0 ⊢
  have hrd : rngD 0 3 = [.int 0, .int 1, .int 2] := rfl
  suffices h : Nx (forIt (fun _ => true) (gVar 8) F_law_3 [.int 0, .int 1, .int 2] [some v0, some (.int wh), some (.int bi), some (.int L), some (.loc a), some (.loc b), some (.loc f), some (.loc p), v8, v9, v10, v11, v12, v13, v14, v15] s4) (fun e s' => ∃ v2 v3 v4 v5 v6 v7 v8 v9 v10 v11 v12 v13 v14 v15, e = [some v0, some (.int wh), v2, v3, v4, v5, v6, v7, v8, v9, v10, v11, v12, v13, v14, v15]) by
    obtain ⟨e, s', h1, h2⟩ := h.ex
    refine Nx.of (s := s') ?_ h2
    simp [hrd, h1]
  refine Nx.it rfl rfl (law_F3 (turn := 0) L1 L2 K0 c3 (by decide) (by decide) hw A0 (some v0) (some (.int bi)) v9 v10 v11 v12 v13 v14 v15) ?_
  rintro e s5 ⟨⟨v9, v10, v11, v12, v13, v14, v15, rfl⟩, one1, other1, pl1, A1, K1⟩
  refine Nx.it rfl rfl (law_F3 (turn := 1) L1 L2 K1 c3 (by decide) (by decide) hw A1 (some v0) (some (.int bi)) v9 v10 v11 v12 v13 v14 v15) ?_
  rintro e s6 ⟨⟨v9, v10, v11, v12, v13, v14, v15, rfl⟩, one2, other2, pl2, A2, K2⟩
  refine Nx.it rfl rfl (law_F3 (turn := 2) L1 L2 K2 c3 (by decide) (by decide) hw A2 (some v0) (some (.int bi)) v9 v10 v11 v12 v13 v14 v15) ?_
  rintro e s7 ⟨⟨v9, v10, v11, v12, v13, v14, v15, rfl⟩, one3, other3, pl3, A3, K3⟩
  rw [forIt_nil rfl]
  exact ⟨_, _, _, _, _, _, _, _, _, _, _, _, _, _, rfl⟩
theorem law_true : ∀ ns : List Int, ns.length ≤ 63 → (∀ z ∈ ns, Builtin.Int.intBits z ≤ 1048576) → ∃ st, d_law [.scr (ns.map .int)] [] = .ok (.bl true) st := fun ns hl hb => by
  have hns : ∀ z ∈ ns, Bd 1048576 z := fun z hz => Bd.bits (hb z hz)
  have hcut : cutD (ns.map D.int) none (some 63) = (ns.take 63).map D.int := by rw [List.map_take]; exact cutD_take _ 63
  obtain ⟨wh, hwh⟩ : ∃ w, w = absI (ns.take 63).sum := ⟨_, rfl⟩
  have hw0 : 0 ≤ wh := by rw [hwh]; exact absI_nonneg _
  have h : Nx (forIt (fun _ => true) (gVar 2) F_law_4 [.int 0, .int 1] [some (.scr (ns.map .int)), some (.int wh), none, none, none, none, none, none, none, none, none, none, none, none, none, none] []) (fun _ _ => True) := by
    refine Nx.it rfl rfl (law_F4 hns hw0 (bi := 0) (by decide) (by decide) [] none none none none none none none none none none none none none) ?_
    rintro e s5 ⟨v2, v3, v4, v5, v6, v7, v8, v9, v10, v11, v12, v13, v14, v15, rfl⟩
    refine Nx.it rfl rfl (law_F4 hns hw0 (bi := 1) (by decide) (by decide) s5 v3 v4 v5 v6 v7 v8 v9 v10 v11 v12 v13 v14 v15) ?_
    intro e s6 _
    rw [forIt_nil rfl]
    trivial
  obtain ⟨e, s', hf, _⟩ := h.ex
  refine ⟨s', ?_⟩
  simp [d_law, run_ap, B_law, hcut, ← hwh, hf, -List.map_take]
end Wt.Lk10

namespace Wt.Lk10
open PySem PySem.Spec PyProof.Rows L2 Wt
def topS (i : Nat) : Stmt := PySem.Challenge.pw_watchtogether_k10_whole_anew.main.body.getD i (.Pass ⟨0, 0, 0, 0⟩)
section
variable {P : Program} {w : World} {K : PySem.W.Frag} {mg : Str → Option Value} {base : Heap} {G : Nat → Addr}
abbrev s_is_whole : Stmt := topS 17
abbrev n_is_whole : List Str := ["thing"]
theorem sc_is_whole : FnScope n_is_whole ["thing"] (defScope s_is_whole) := ⟨rfl, rfl, rfl, by decide +kernel, rfl, by decide +kernel, by decide +kernel⟩
theorem ok_is_whole {a : Addr} {fd : FuncData} (F : Fun K "is_whole" "is_whole" s_is_whole a fd) (b : Binds K fd ["thing"] []) (b_bool : mg "bool" = none) (b_int : mg "int" = none) (b_isinstance : mg "isinstance" = none) :
  FD P w K mg base G 1 a 1 d_is_whole := by
  apply FD.pure
  refine fd_of (nN := 1) (B := B_is_whole) F sc_is_whole rfl rfl b ?_
  intro cdv A outer s H E hr
  refine ess_one ?_
  refine es_ret ?_
  refine ed_and ?_ ?_
  refine ed_isB (t := .int) b_isinstance (by decide) b_int (by decide +kernel) ?_
  exact ed_var 0
  refine ed_one ?_
  refine ed_not ?_
  refine ed_isB (t := .bool) b_isinstance (by decide) b_bool (by decide +kernel) ?_
  exact ed_var 0
abbrev s_asked_length : Stmt := topS 18
abbrev n_asked_length : List Str := ["length"]
theorem sc_asked_length : FnScope n_asked_length ["length"] (defScope s_asked_length) := ⟨rfl, rfl, rfl, by decide +kernel, rfl, by decide +kernel, by decide +kernel⟩
theorem ok_asked_length {a : Addr} {fd : FuncData} (F : Fun K "asked_length" "asked_length" s_asked_length a fd) (b : Binds K fd ["length"] []) (c_is_whole : Cal P w K mg base G "is_whole" 1 1 d_is_whole) (e_BadLength : Err K mg G "BadLength" 11) (g_GREATEST : ∃ t, mg "GREATEST" = some (.int 1000000000 t)) :
  FD P w K mg base G 2 a 1 d_asked_length := by
  apply FD.pure
  refine fd_of (nN := 1) (B := B_asked_length) F sc_asked_length rfl rfl b ?_
  intro cdv A outer s H E hr
  refine ess_one ?_
  refine es_if ?_ ?_ ?_
  refine eb_w ?_
  refine ew_or ?_ ?_
  refine eb_not ?_
  refine eb_val ?_
  refine ed_cal c_is_whole (hr.mono (by decide)) (takes_of rfl rfl rfl rfl) ?_
  refine ea_cons ?_ ?_
  exact ed_var 0
  exact ea_nil
  refine ew_or1 ?_
  refine eb_not ?_
  refine eb_chain opc_le opc_le op_le op_le ?_ ?_ ?_
  exact ed_int
  exact ed_var 0
  exact ed_gnum g_GREATEST
  refine ess_one ?_
  exact es_err e_BadLength (takes_of rfl rfl rfl rfl)
  exact ess_nil
abbrev s_is_command : Stmt := topS 19
abbrev n_is_command : List Str := ["length", "thing", "tick", "hand", "kind", "place", "one"]
theorem sc_is_command : FnScope n_is_command ["length", "thing"] (defScope s_is_command) := ⟨rfl, rfl, rfl, by decide +kernel, rfl, by decide +kernel, by decide +kernel⟩
theorem ok_is_command {a : Addr} {fd : FuncData} (F : Fun K "is_command" "is_command" s_is_command a fd) (b : Binds K fd ["length", "thing"] []) (b_all : mg "all" = none) (b_isinstance : mg "isinstance" = none) (b_len : mg "len" = none) (b_str : mg "str" = none) (b_tuple : mg "tuple" = none) (c_is_whole : Cal P w K mg base G "is_whole" 1 1 d_is_whole) (g_HANDS : ∃ t, mg "HANDS" = some (.int 4 t)) (g_KINDS : TupIn K mg "KINDS" ["hold", "go", "move"]) :
  FD P w K mg base G 2 a 2 d_is_command := by
  apply FD.pure
  refine fd_of (nN := 7) (B := B_is_command) F sc_is_command rfl rfl b ?_
  intro cdv A outer s H E hr
  refine ess_cons ?_ ?_
  refine es_if ?_ ?_ ?_
  refine eb_w ?_
  refine ew_or ?_ ?_
  refine eb_not ?_
  refine eb_val ?_
  refine ed_isB (t := .tup) b_isinstance (by decide) b_tuple (by decide +kernel) ?_
  exact ed_var 1
  refine ew_or ?_ ?_
  refine eb_cmp opc_ne (op_neD (hu64 hr)) ?_ ?_ (nomark _)
  refine ed_callB cac_len call_len_seq (by rfl) b_len (by decide +kernel) ?_
  refine ea_cons ?_ ?_
  exact ed_var 1
  exact ea_nil
  exact ed_int
  refine ew_or ?_ ?_
  refine eb_not ?_
  refine eb_val ?_
  refine ed_isB (t := .str) b_isinstance (by decide) b_str (by decide +kernel) ?_
  refine ed_ix ?_ ?_
  exact ed_var 1
  exact ed_int
  refine ew_or1 ?_
  refine eb_notInG g_KINDS ?_ (by with_unfolding_all rfl)
  refine ed_ix ?_ ?_
  exact ed_var 1
  exact ed_int
  refine ess_one ?_
  refine es_ret ?_
  exact ed_bl
  exact ess_nil
  refine ess_cons ?_ ?_
  refine es_asg ?_ ?_
  exact ed_var 1
  refine eg_tup rfl ?_
  refine egs_cons (i := 2) ?_ ?_
  exact eg_var (i := 2) sc_is_command.nd
  refine egs_cons (i := 3) ?_ ?_
  exact eg_var (i := 3) sc_is_command.nd
  refine egs_cons (i := 4) ?_ ?_
  exact eg_var (i := 4) sc_is_command.nd
  refine egs_cons (i := 5) ?_ ?_
  exact eg_var (i := 5) sc_is_command.nd
  exact egs_nil
  refine ess_cons ?_ ?_
  refine es_if ?_ ?_ ?_
  refine eb_w ?_
  refine ew_or ?_ ?_
  refine eb_not ?_
  refine eb_val ?_
  refine ed_callB cac_all (cr_all rfl) (by rfl) b_all (by decide +kernel) ?_
  refine ea_cons ?_ ?_
  refine ed_dat ?_
  refine el_lc (own := [("one" , 6)]) rfl sc_is_command.nd ?_ (blkOk_by (own := [("one" , 6)]) (N := n_is_command) (sc := defScope s_is_command) (by decide +kernel)) ?_ ?_ ?_
  refine ei_tup ?_
  refine ed_tup ?_
  refine ea_cons ?_ ?_
  exact ed_var 2
  refine ea_cons ?_ ?_
  exact ed_var 3
  refine ea_cons ?_ ?_
  exact ed_var 5
  exact ea_nil
  intro _ _ _ _ _
  exact egw_var (i := 6) sc_is_command.nd
  intro _ _ _ _ _
  exact ebs_nil
  intro _ _ _ _ _
  refine ed_cal c_is_whole (hr.mono (by decide)) takes0 ?_
  refine ea_cons ?_ ?_
  exact ed_var 6
  exact ea_nil
  exact ea_nil
  refine ew_or ?_ ?_
  refine eb_cmp opc_lt op_lt ?_ ?_ (nomark _)
  exact ed_var 2
  exact ed_int
  refine ew_or1 ?_
  refine eb_not ?_
  refine eb_chain opc_le opc_lt op_le op_lt ?_ ?_ ?_
  exact ed_int
  exact ed_var 3
  exact ed_gnum g_HANDS
  refine ess_one ?_
  refine es_ret ?_
  exact ed_bl
  exact ess_nil
  refine ess_one ?_
  refine es_ret ?_
  refine ed_if ?_ ?_ ?_
  refine eb_cmp opc_eq (op_eqD (hu64 hr)) ?_ ?_ (nomark _)
  exact ed_var 4
  exact ed_str
  refine ed_chain opc_le opc_le op_le op_le ?_ ?_ ?_
  exact ed_int
  exact ed_var 5
  exact ed_var 0
  refine ed_cmp opc_eq (op_eqD (hu64 hr)) ?_ ?_ (nomark _)
  exact ed_var 5
  exact ed_int
abbrev s_asked_commands : Stmt := topS 20
abbrev n_asked_commands : List Str := ["length", "commands", "known", "one"]
theorem sc_asked_commands : FnScope n_asked_commands ["length", "commands"] (defScope s_asked_commands) := ⟨rfl, rfl, rfl, by decide +kernel, rfl, by decide +kernel, by decide +kernel⟩
theorem ok_asked_commands {a : Addr} {fd : FuncData} (F : Fun K "asked_commands" "asked_commands" s_asked_commands a fd) (b : Binds K fd ["length", "commands"] []) (b_all : mg "all" = none) (b_isinstance : mg "isinstance" = none) (b_len : mg "len" = none) (b_list : mg "list" = none) (c_is_command : Cal P w K mg base G "is_command" 2 2 d_is_command) (e_BadCommands : Err K mg G "BadCommands" 12) (g_MOST_COMMANDS : ∃ t, mg "MOST_COMMANDS" = some (.int 300 t)) :
  FD P w K mg base G 3 a 2 d_asked_commands := by
  apply FD.pure
  refine fd_of (nN := 4) (B := B_asked_commands) F sc_asked_commands rfl rfl b ?_
  intro cdv A outer s H E hr
  refine ess_cons ?_ ?_
  refine es_if ?_ ?_ ?_
  refine eb_w ?_
  refine ew_or ?_ ?_
  refine eb_not ?_
  refine eb_val ?_
  refine ed_isB (t := .lst) b_isinstance (by decide) b_list (by decide +kernel) ?_
  exact ed_var 1
  refine ew_or1 ?_
  refine eb_cmp opc_gt op_gt ?_ ?_ (nomark _)
  refine ed_callB cac_len call_len_seq (by rfl) b_len (by decide +kernel) ?_
  refine ea_cons ?_ ?_
  exact ed_var 1
  exact ea_nil
  exact ed_gnum g_MOST_COMMANDS
  refine ess_one ?_
  exact es_err e_BadCommands (takes_of rfl rfl rfl rfl)
  exact ess_nil
  refine ess_cons ?_ ?_
  refine es_if ?_ ?_ ?_
  refine eb_not ?_
  refine eb_val ?_
  refine ed_callB cac_all (cr_all rfl) (by rfl) b_all (by decide +kernel) ?_
  refine ea_cons ?_ ?_
  refine ed_dat ?_
  refine el_lc (own := [("one" , 3)]) rfl sc_asked_commands.nd ?_ (blkOk_by (own := [("one" , 3)]) (N := n_asked_commands) (sc := defScope s_asked_commands) (by decide +kernel)) ?_ ?_ ?_
  refine ei_list ?_
  exact ed_var 1
  intro _ _ _ _ _
  exact egw_var (i := 3) sc_asked_commands.nd
  intro _ _ _ _ _
  exact ebs_nil
  intro _ _ _ _ _
  refine ed_cal c_is_command (hr.mono (by decide)) takes0 ?_
  refine ea_cons ?_ ?_
  exact ed_var 0
  refine ea_cons ?_ ?_
  exact ed_var 3
  exact ea_nil
  exact ea_nil
  refine ess_one ?_
  exact es_err e_BadCommands (takes_of rfl rfl rfl rfl)
  exact ess_nil
  refine ess_cons ?_ ?_
  refine es_set (i := 2) sc_asked_commands.nd ?_
  exact ed_newT
  refine ess_one ?_
  refine es_for (passes_of rfl) rfl ?_ ?_ ?_
  refine ei_list ?_
  exact ed_var 1
  exact eg_var (i := 3) sc_asked_commands.nd
  refine ess_cons ?_ ?_
  refine es_if ?_ ?_ ?_
  refine eb_cmp opc_ne (op_neD (hu64 hr)) ?_ ?_ (nomark _)
  refine ed_getT2 ?_ ?_ ?_ (hu65 hr)
  exact ed_var 2
  refine ed_sl ?_ ?_ ?_
  exact ed_var 3
  exact eo_none
  refine eo_some ?_
  exact ed_int
  exact ed_var 3
  exact ed_var 3
  refine ess_one ?_
  exact es_err e_BadCommands (takes_of rfl rfl rfl rfl)
  exact ess_nil
  refine ess_one ?_
  refine es_putT ?_ ?_ ?_ (hu65 hr)
  exact ed_var 2
  refine ed_sl ?_ ?_ ?_
  exact ed_var 3
  exact eo_none
  refine eo_some ?_
  exact ed_int
  exact ed_var 3
abbrev s_asked_tick : Stmt := topS 21
abbrev n_asked_tick : List Str := ["tick"]
theorem sc_asked_tick : FnScope n_asked_tick ["tick"] (defScope s_asked_tick) := ⟨rfl, rfl, rfl, by decide +kernel, rfl, by decide +kernel, by decide +kernel⟩
theorem ok_asked_tick {a : Addr} {fd : FuncData} (F : Fun K "asked_tick" "asked_tick" s_asked_tick a fd) (b : Binds K fd ["tick"] []) (c_is_whole : Cal P w K mg base G "is_whole" 1 1 d_is_whole) (e_BadTick : Err K mg G "BadTick" 13) :
  FD P w K mg base G 2 a 1 d_asked_tick := by
  apply FD.pure
  refine fd_of (nN := 1) (B := B_asked_tick) F sc_asked_tick rfl rfl b ?_
  intro cdv A outer s H E hr
  refine ess_one ?_
  refine es_if ?_ ?_ ?_
  refine eb_w ?_
  refine ew_or ?_ ?_
  refine eb_not ?_
  refine eb_val ?_
  refine ed_cal c_is_whole (hr.mono (by decide)) (takes_of rfl rfl rfl rfl) ?_
  refine ea_cons ?_ ?_
  exact ed_var 0
  exact ea_nil
  refine ew_or1 ?_
  refine eb_cmp opc_lt op_lt ?_ ?_ (nomark _)
  exact ed_var 0
  exact ed_int
  refine ess_one ?_
  exact es_err e_BadTick (takes_of rfl rfl rfl rfl)
  exact ess_nil
abbrev s_stand_of : Stmt := topS 22
abbrev n_stand_of : List Str := ["length", "commands", "tick", "place", "going", "last", "when", "hand", "kind", "spot", "one"]
theorem sc_stand_of : FnScope n_stand_of ["length", "commands", "tick"] (defScope s_stand_of) := ⟨rfl, rfl, rfl, by decide +kernel, rfl, by decide +kernel, by decide +kernel⟩
theorem ok_stand_of {a : Addr} {fd : FuncData} (F : Fun K "stand_of" "stand_of" s_stand_of a fd) (b : Binds K fd ["length", "commands", "tick"] []) (b_min : mg "min" = none) (b_sorted : mg "sorted" = none) :
  FD P w K mg base G 1 a 3 d_stand_of := by
  apply FD.pure
  refine fd_of (nN := 11) (B := B_stand_of) F sc_stand_of rfl rfl b ?_
  intro cdv A outer s H E hr
  refine ess_cons ?_ ?_
  refine es_asg ?_ ?_
  refine ed_tup ?_
  refine ea_cons ?_ ?_
  exact ed_int
  refine ea_cons ?_ ?_
  exact ed_bl
  refine ea_cons ?_ ?_
  exact ed_int
  exact ea_nil
  refine eg_tup rfl ?_
  refine egs_cons (i := 3) ?_ ?_
  exact eg_var (i := 3) sc_stand_of.nd
  refine egs_cons (i := 4) ?_ ?_
  exact eg_var (i := 4) sc_stand_of.nd
  refine egs_cons (i := 5) ?_ ?_
  exact eg_var (i := 5) sc_stand_of.nd
  exact egs_nil
  refine ess_cons ?_ ?_
  refine es_for (passes_of rfl) rfl ?_ ?_ ?_
  refine ei_list ?_
  refine ed_dat ?_
  refine el_callB clc_sorted (cr_sortB (hu64 hr)) (by rfl) b_sorted (by decide +kernel) ?_
  refine ea_cons ?_ ?_
  refine ed_dat ?_
  refine el_lc (own := [("one" , 10)]) rfl sc_stand_of.nd ?_ (blkOk_by (own := [("one" , 10)]) (N := n_stand_of) (sc := defScope s_stand_of) (by decide +kernel)) ?_ ?_ ?_
  refine ei_list ?_
  exact ed_var 1
  intro _ _ _ _ _
  exact egw_var (i := 10) sc_stand_of.nd
  intro _ _ _ _ _
  refine ebs_one ?_
  refine eb_cmp opc_le op_le ?_ ?_ (nomark _)
  refine ed_ix ?_ ?_
  exact ed_var 10
  exact ed_int
  exact ed_var 2
  intro _ _ _ _ _
  exact ed_var 10
  exact ea_nil
  refine eg_tup rfl ?_
  refine egs_cons (i := 6) ?_ ?_
  exact eg_var (i := 6) sc_stand_of.nd
  refine egs_cons (i := 7) ?_ ?_
  exact eg_var (i := 7) sc_stand_of.nd
  refine egs_cons (i := 8) ?_ ?_
  exact eg_var (i := 8) sc_stand_of.nd
  refine egs_cons (i := 9) ?_ ?_
  exact eg_var (i := 9) sc_stand_of.nd
  exact egs_nil
  refine ess_cons ?_ ?_
  refine es_if ?_ ?_ ?_
  refine eb_val ?_
  exact ed_var 4
  refine ess_one ?_
  refine es_set (i := 3) sc_stand_of.nd ?_
  refine ed_callB cac_min2 (call_min2 rfl) (by rfl) b_min (by decide +kernel) ?_
  refine ea_cons ?_ ?_
  exact ed_var 0
  refine ea_cons ?_ ?_
  refine ed_op opc_sub op_sub ?_ ?_
  refine ed_op opc_add op_add3 ?_ ?_
  exact ed_var 3
  exact ed_var 6
  exact ed_var 5
  exact ea_nil
  exact ess_nil
  refine ess_cons ?_ ?_
  refine es_set (i := 5) sc_stand_of.nd ?_
  exact ed_var 6
  refine ess_one ?_
  refine es_if ?_ ?_ ?_
  refine eb_cmp opc_eq (op_eqD (hu64 hr)) ?_ ?_ (nomark _)
  exact ed_var 8
  exact ed_str
  refine ess_one ?_
  refine es_set (i := 3) sc_stand_of.nd ?_
  exact ed_var 9
  refine ess_one ?_
  refine es_set (i := 4) sc_stand_of.nd ?_
  refine ed_cmp opc_eq (op_eqD (hu64 hr)) ?_ ?_ (nomark _)
  exact ed_var 8
  exact ed_str
  refine ess_cons ?_ ?_
  refine es_if ?_ ?_ ?_
  refine eb_val ?_
  exact ed_var 4
  refine ess_one ?_
  refine es_set (i := 3) sc_stand_of.nd ?_
  refine ed_callB cac_min2 (call_min2 rfl) (by rfl) b_min (by decide +kernel) ?_
  refine ea_cons ?_ ?_
  exact ed_var 0
  refine ea_cons ?_ ?_
  refine ed_op opc_sub op_sub ?_ ?_
  refine ed_op opc_add op_add3 ?_ ?_
  exact ed_var 3
  exact ed_var 2
  exact ed_var 5
  exact ea_nil
  exact ess_nil
  refine ess_one ?_
  refine es_ret ?_
  refine ed_tup ?_
  refine ea_cons ?_ ?_
  exact ed_var 3
  refine ea_cons ?_ ?_
  exact ed_var 4
  exact ea_nil
abbrev s_stand : Stmt := topS 23
abbrev n_stand : List Str := ["length", "commands", "tick"]
theorem sc_stand : FnScope n_stand ["length", "commands", "tick"] (defScope s_stand) := ⟨rfl, rfl, rfl, by decide +kernel, rfl, by decide +kernel, by decide +kernel⟩
theorem ok_stand {a : Addr} {fd : FuncData} (F : Fun K "stand" "stand" s_stand a fd) (b : Binds K fd ["length", "commands", "tick"] []) (c_asked_commands : Cal P w K mg base G "asked_commands" 3 2 d_asked_commands) (c_asked_length : Cal P w K mg base G "asked_length" 2 1 d_asked_length) (c_asked_tick : Cal P w K mg base G "asked_tick" 2 1 d_asked_tick) (c_stand_of : Cal P w K mg base G "stand_of" 1 3 d_stand_of) :
  FD P w K mg base G 4 a 3 d_stand := by
  apply FD.pure
  refine fd_of (nN := 3) (B := B_stand) F sc_stand rfl rfl b ?_
  intro cdv A outer s H E hr
  refine ess_cons ?_ ?_
  refine es_expr ?_
  refine ed_cal c_asked_length (hr.mono (by decide)) (takes_of rfl rfl rfl rfl) ?_
  refine ea_cons ?_ ?_
  exact ed_var 0
  exact ea_nil
  refine ess_cons ?_ ?_
  refine es_expr ?_
  refine ed_cal c_asked_commands (hr.mono (by decide)) (takes_of rfl rfl rfl rfl) ?_
  refine ea_cons ?_ ?_
  exact ed_var 0
  refine ea_cons ?_ ?_
  exact ed_var 1
  exact ea_nil
  refine ess_cons ?_ ?_
  refine es_expr ?_
  refine ed_cal c_asked_tick (hr.mono (by decide)) (takes_of rfl rfl rfl rfl) ?_
  refine ea_cons ?_ ?_
  exact ed_var 2
  exact ea_nil
  refine ess_one ?_
  refine es_ret ?_
  refine ed_cal c_stand_of (hr.mono (by decide)) (takes_of rfl rfl rfl rfl) ?_
  refine ea_cons ?_ ?_
  exact ed_var 0
  refine ea_cons ?_ ?_
  exact ed_var 1
  refine ea_cons ?_ ?_
  exact ed_var 2
  exact ea_nil
abbrev s_unlike : Stmt := topS 24
abbrev n_unlike : List Str := ["one", "other", "tick", "found", "mine", "theirs"]
theorem sc_unlike : FnScope n_unlike ["one", "other", "tick"] (defScope s_unlike) := ⟨rfl, rfl, rfl, by decide +kernel, rfl, by decide +kernel, by decide +kernel⟩
theorem ok_unlike {a : Addr} {fd : FuncData} (F : Fun K "unlike" "unlike" s_unlike a fd) (b : Binds K fd ["one", "other", "tick"] []) (b_set : mg "set" = none) (b_sorted : mg "sorted" = none) :
  FD P w K mg base G 1 a 3 d_unlike := by
  apply FD.pure
  refine fd_of (nN := 6) (B := B_unlike) F sc_unlike rfl rfl b ?_
  intro cdv A outer s H E hr
  refine ess_cons ?_ ?_
  refine es_setLd (i := 3) (own := [("mine" , 4)]) rfl sc_unlike.nd rfl (sw_true rfl rfl rfl (by decide +kernel)) ?_ (blkOk_by (own := [("mine" , 4)]) (N := n_unlike) (sc := defScope s_unlike) (by decide +kernel)) ?_ ?_ ?_
  refine ei_list ?_
  exact ed_var 0
  intro _ _ _ _ _
  exact egw_var (i := 4) sc_unlike.nd
  intro _ _ _ _ _
  refine ebs_one ?_
  refine eb_w ?_
  refine ew_and ?_ ?_
  refine eb_cmp opc_notIn (op_notIn2 (hu65 hr)) ?_ ?_ (by with_unfolding_all rfl)
  exact ed_var 4
  exact ed_var 1
  refine ew_and1 ?_
  refine eb_cmp opc_le op_le ?_ ?_ (nomark _)
  refine ed_ix ?_ ?_
  exact ed_var 4
  exact ed_int
  exact ed_var 2
  intro _ _ _ _ _
  exact ed_var 4
  refine ess_one ?_
  refine es_ret ?_
  refine ed_dat ?_
  refine el_sortSet b_sorted b_set ?_ (hu65 hr)
  refine ed_op opc_add op_add3 ?_ ?_
  exact ed_var 3
  refine ed_dat ?_
  refine el_lc (own := [("theirs" , 5)]) rfl sc_unlike.nd ?_ (blkOk_by (own := [("theirs" , 5)]) (N := n_unlike) (sc := defScope s_unlike) (by decide +kernel)) ?_ ?_ ?_
  refine ei_list ?_
  exact ed_var 1
  intro _ _ _ _ _
  exact egw_var (i := 5) sc_unlike.nd
  intro _ _ _ _ _
  refine ebs_one ?_
  refine eb_w ?_
  refine ew_and ?_ ?_
  refine eb_cmp opc_notIn (op_notIn2 (hu65 hr)) ?_ ?_ (by with_unfolding_all rfl)
  exact ed_var 5
  exact ed_var 0
  refine ew_and1 ?_
  refine eb_cmp opc_le op_le ?_ ?_ (nomark _)
  refine ed_ix ?_ ?_
  exact ed_var 5
  exact ed_int
  exact ed_var 2
  intro _ _ _ _ _
  exact ed_var 5
abbrev s_asked_two : Stmt := topS 25
abbrev n_asked_two : List Str := ["length", "one", "other", "tick"]
theorem sc_asked_two : FnScope n_asked_two ["length", "one", "other", "tick"] (defScope s_asked_two) := ⟨rfl, rfl, rfl, by decide +kernel, rfl, by decide +kernel, by decide +kernel⟩
theorem ok_asked_two {a : Addr} {fd : FuncData} (F : Fun K "asked_two" "asked_two" s_asked_two a fd) (b : Binds K fd ["length", "one", "other", "tick"] []) (c_asked_commands : Cal P w K mg base G "asked_commands" 3 2 d_asked_commands) (c_asked_length : Cal P w K mg base G "asked_length" 2 1 d_asked_length) (c_asked_tick : Cal P w K mg base G "asked_tick" 2 1 d_asked_tick) :
  FD P w K mg base G 4 a 4 d_asked_two := by
  apply FD.pure
  refine fd_of (nN := 4) (B := B_asked_two) F sc_asked_two rfl rfl b ?_
  intro cdv A outer s H E hr
  refine ess_cons ?_ ?_
  refine es_expr ?_
  refine ed_cal c_asked_length (hr.mono (by decide)) (takes_of rfl rfl rfl rfl) ?_
  refine ea_cons ?_ ?_
  exact ed_var 0
  exact ea_nil
  refine ess_cons ?_ ?_
  refine es_expr ?_
  refine ed_cal c_asked_commands (hr.mono (by decide)) (takes_of rfl rfl rfl rfl) ?_
  refine ea_cons ?_ ?_
  exact ed_var 0
  refine ea_cons ?_ ?_
  exact ed_var 1
  exact ea_nil
  refine ess_cons ?_ ?_
  refine es_expr ?_
  refine ed_cal c_asked_commands (hr.mono (by decide)) (takes_of rfl rfl rfl rfl) ?_
  refine ea_cons ?_ ?_
  exact ed_var 0
  refine ea_cons ?_ ?_
  exact ed_var 2
  exact ea_nil
  refine ess_one ?_
  refine es_expr ?_
  refine ed_cal c_asked_tick (hr.mono (by decide)) (takes_of rfl rfl rfl rfl) ?_
  refine ea_cons ?_ ?_
  exact ed_var 3
  exact ea_nil
abbrev s_at_most : Stmt := topS 26
abbrev n_at_most : List Str := ["length", "one", "other", "tick", "found"]
theorem sc_at_most : FnScope n_at_most ["length", "one", "other", "tick"] (defScope s_at_most) := ⟨rfl, rfl, rfl, by decide +kernel, rfl, by decide +kernel, by decide +kernel⟩
theorem ok_at_most {a : Addr} {fd : FuncData} (F : Fun K "at_most" "at_most" s_at_most a fd) (b : Binds K fd ["length", "one", "other", "tick"] []) (c_asked_two : Cal P w K mg base G "asked_two" 4 4 d_asked_two) (c_unlike : Cal P w K mg base G "unlike" 1 3 d_unlike) :
  FD P w K mg base G 5 a 4 d_at_most := by
  apply FD.pure
  refine fd_of (nN := 5) (B := B_at_most) F sc_at_most rfl rfl b ?_
  intro cdv A outer s H E hr
  refine ess_cons ?_ ?_
  refine es_expr ?_
  refine ed_cal c_asked_two (hr.mono (by decide)) (takes_of rfl rfl rfl rfl) ?_
  refine ea_cons ?_ ?_
  exact ed_var 0
  refine ea_cons ?_ ?_
  exact ed_var 1
  refine ea_cons ?_ ?_
  exact ed_var 2
  refine ea_cons ?_ ?_
  exact ed_var 3
  exact ea_nil
  refine ess_cons ?_ ?_
  refine es_set (i := 4) sc_at_most.nd ?_
  refine ed_cal c_unlike (hr.mono (by decide)) (takes_of rfl rfl rfl rfl) ?_
  refine ea_cons ?_ ?_
  exact ed_var 1
  refine ea_cons ?_ ?_
  exact ed_var 2
  refine ea_cons ?_ ?_
  exact ed_var 3
  exact ea_nil
  refine ess_one ?_
  refine es_ret ?_
  refine ed_if ?_ ?_ ?_
  refine eb_cmp opc_ne (op_neD (hu64 hr)) ?_ ?_ (nomark _)
  exact ed_var 4
  refine ed_dat ?_
  refine el_lst ?_
  exact ea_nil
  refine ed_op opc_sub op_sub ?_ ?_
  exact ed_var 3
  refine ed_ix ?_ ?_
  refine ed_ix ?_ ?_
  exact ed_var 4
  exact ed_int
  exact ed_int
  exact ed_int
abbrev s_Together_shows : Stmt := inClass (topS 29) 0
abbrev n_Together_shows : List Str := ["self", "length", "one", "other", "tick"]
theorem sc_Together_shows : FnScope n_Together_shows ["self", "length", "one", "other", "tick"] (defScope s_Together_shows) := ⟨rfl, rfl, rfl, by decide +kernel, rfl, by decide +kernel, by decide +kernel⟩
theorem ok_Together_shows {a : Addr} {fd : FuncData} (F : Fun K "shows" "Together.shows" s_Together_shows a fd) (b : Binds K fd ["self", "length", "one", "other", "tick"] []) (c_stand_of : Cal P w K mg base G "stand_of" 1 3 d_stand_of) :
  FD P w K mg base G 2 a 5 d_Together_shows := by
  apply FD.pure
  refine fd_of (nN := 5) (B := B_Together_shows) F sc_Together_shows rfl rfl b ?_
  intro cdv A outer s H E hr
  refine ess_one ?_
  refine es_ret ?_
  refine ed_cmp opc_eq (op_eqD (hu64 hr)) ?_ ?_ (nomark _)
  refine ed_ix ?_ ?_
  refine ed_cal c_stand_of (hr.mono (by decide)) (takes_of rfl rfl rfl rfl) ?_
  refine ea_cons ?_ ?_
  exact ed_var 1
  refine ea_cons ?_ ?_
  exact ed_var 2
  refine ea_cons ?_ ?_
  exact ed_var 4
  exact ea_nil
  exact ed_int
  refine ed_ix ?_ ?_
  refine ed_cal c_stand_of (hr.mono (by decide)) (takes_of rfl rfl rfl rfl) ?_
  refine ea_cons ?_ ?_
  exact ed_var 1
  refine ea_cons ?_ ?_
  exact ed_var 3
  refine ea_cons ?_ ?_
  exact ed_var 4
  exact ea_nil
  exact ed_int
abbrev s_Apart_init : Stmt := inClass (topS 30) 0
abbrev n_Apart_init : List Str := ["self", "command"]
theorem sc_Apart_init : FnScope n_Apart_init ["self", "command"] (defScope s_Apart_init) := ⟨rfl, rfl, rfl, by decide +kernel, rfl, by decide +kernel, by decide +kernel⟩
theorem ok_Apart_init {a : Addr} {fd : FuncData} (F : Fun K "__init__" "Apart.__init__" s_Apart_init a fd) (b : Binds K fd ["self", "command"] []) (f_command : FldOk K G "command") :
  FD P w K mg base G 1 a 2 d_Apart_init := by
  refine fd_of (nN := 2) (B := B_Apart_init) F sc_Apart_init rfl rfl b ?_
  intro cdv A outer s H E hr
  refine ess_one ?_
  refine es_fld f_command ?_ ?_
  exact ed_var 0
  exact ed_var 1
abbrev s_Apart_shows : Stmt := inClass (topS 30) 1
abbrev n_Apart_shows : List Str := ["self", "length", "one", "other", "tick"]
theorem sc_Apart_shows : FnScope n_Apart_shows ["self", "length", "one", "other", "tick"] (defScope s_Apart_shows) := ⟨rfl, rfl, rfl, by decide +kernel, rfl, by decide +kernel, by decide +kernel⟩
theorem ok_Apart_shows {a : Addr} {fd : FuncData} (F : Fun K "shows" "Apart.shows" s_Apart_shows a fd) (b : Binds K fd ["self", "length", "one", "other", "tick"] []) (c_stand_of : Cal P w K mg base G "stand_of" 1 3 d_stand_of) (f_command : FldOk K G "command") :
  FD P w K mg base G 2 a 5 d_Apart_shows := by
  apply FD.pure
  refine fd_of (nN := 5) (B := B_Apart_shows) F sc_Apart_shows rfl rfl b ?_
  intro cdv A outer s H E hr
  refine ess_cons ?_ ?_
  refine es_if ?_ ?_ ?_
  refine eb_cmp opc_eq (op_eqD (hu64 hr)) ?_ ?_ (nomark _)
  refine ed_ix ?_ ?_
  refine ed_cal c_stand_of (hr.mono (by decide)) (takes_of rfl rfl rfl rfl) ?_
  refine ea_cons ?_ ?_
  exact ed_var 1
  refine ea_cons ?_ ?_
  exact ed_var 2
  refine ea_cons ?_ ?_
  exact ed_var 4
  exact ea_nil
  exact ed_int
  refine ed_ix ?_ ?_
  refine ed_cal c_stand_of (hr.mono (by decide)) (takes_of rfl rfl rfl rfl) ?_
  refine ea_cons ?_ ?_
  exact ed_var 1
  refine ea_cons ?_ ?_
  exact ed_var 3
  refine ea_cons ?_ ?_
  exact ed_var 4
  exact ea_nil
  exact ed_int
  refine ess_one ?_
  refine es_ret ?_
  exact ed_bl
  exact ess_nil
  refine ess_one ?_
  refine es_ret ?_
  refine ed_and ?_ ?_
  refine ed_cmp opc_ne (op_neD (hu64 hr)) ?_ ?_ (nomark _)
  refine ed_cmp opc_in (op_in2 (hu65 hr)) ?_ ?_ (by with_unfolding_all rfl)
  refine ed_fld f_command ?_
  exact ed_var 0
  exact ed_var 2
  refine ed_cmp opc_in (op_in2 (hu65 hr)) ?_ ?_ (by with_unfolding_all rfl)
  refine ed_fld f_command ?_
  exact ed_var 0
  exact ed_var 3
  refine ed_one ?_
  refine ed_cmp opc_le op_le ?_ ?_ (nomark _)
  refine ed_ix ?_ ?_
  refine ed_fld f_command ?_
  exact ed_var 0
  exact ed_int
  exact ed_var 4
abbrev s_Meet_init : Stmt := inClass (topS 31) 0
abbrev n_Meet_init : List Str := ["self", "place", "pairs"]
theorem sc_Meet_init : FnScope n_Meet_init ["self", "place", "pairs"] (defScope s_Meet_init) := ⟨rfl, rfl, rfl, by decide +kernel, rfl, by decide +kernel, by decide +kernel⟩
theorem ok_Meet_init {a : Addr} {fd : FuncData} (F : Fun K "__init__" "Meet.__init__" s_Meet_init a fd) (b : Binds K fd ["self", "place", "pairs"] []) (b_list : mg "list" = none) (f_pairs : FldOk K G "pairs") (f_place : FldOk K G "place") :
  FD P w K mg base G 1 a 3 d_Meet_init := by
  refine fd_of (nN := 3) (B := B_Meet_init) F sc_Meet_init rfl rfl b ?_
  intro cdv A outer s H E hr
  refine ess_cons ?_ ?_
  refine es_fld f_place ?_ ?_
  exact ed_var 0
  exact ed_var 1
  refine ess_one ?_
  refine es_fld f_pairs ?_ ?_
  exact ed_var 0
  refine ed_cel ?_
  refine el_callTy clc_list call_list_of (by rfl) b_list (by decide +kernel) ?_
  refine ea_cons ?_ ?_
  exact ed_var 2
  exact ea_nil
abbrev s_Meet_shows : Stmt := inClass (topS 31) 1
abbrev n_Meet_shows : List Str := ["self", "places", "met", "one", "other", "apart"]
theorem sc_Meet_shows : FnScope n_Meet_shows ["self", "places"] (defScope s_Meet_shows) := ⟨rfl, rfl, rfl, by decide +kernel, rfl, by decide +kernel, by decide +kernel⟩
theorem ok_Meet_shows {a : Addr} {fd : FuncData} (F : Fun K "shows" "Meet.shows" s_Meet_shows a fd) (b : Binds K fd ["self", "places"] []) (b_abs : mg "abs" = none) (b_all : mg "all" = none) (b_len : mg "len" = none) (b_set : mg "set" = none) (b_sum : mg "sum" = none) (f_pairs : FldOk K G "pairs") (f_place : FldOk K G "place") :
  FD P w K mg base G 1 a 2 d_Meet_shows := by
  apply FD.pure
  refine fd_of (nN := 6) (B := B_Meet_shows) F sc_Meet_shows rfl rfl b ?_
  intro cdv A outer s H E hr
  refine ess_cons ?_ ?_
  refine es_set (i := 2) sc_Meet_shows.nd ?_
  refine ed_cel ?_
  refine el_lst ?_
  exact ea_nil
  refine ess_cons ?_ ?_
  refine es_for (passes_of rfl) rfl ?_ ?_ ?_
  refine ei_list ?_
  refine ed_fld f_pairs ?_
  exact ed_var 0
  refine eg_tup rfl ?_
  refine egs_cons (i := 3) ?_ ?_
  exact eg_var (i := 3) sc_Meet_shows.nd
  refine egs_cons (i := 4) ?_ ?_
  exact eg_var (i := 4) sc_Meet_shows.nd
  exact egs_nil
  refine ess_one ?_
  refine es_expr ?_
  refine ed_lm lmc_extend PySem.F.slot_list_extend PySem.F.type_list_extend mt_extend ?_ ?_
  exact ed_var 2
  refine ea_cons ?_ ?_
  refine ed_dat ?_
  refine el_lst ?_
  refine ea_cons ?_ ?_
  exact ed_var 3
  refine ea_cons ?_ ?_
  exact ed_var 4
  exact ea_nil
  exact ea_nil
  refine ess_cons ?_ ?_
  refine es_if ?_ ?_ ?_
  refine eb_w ?_
  refine ew_or ?_ ?_
  refine eb_cmp opc_ne (op_neD (hu64 hr)) ?_ ?_ (nomark _)
  refine ed_lenSet b_len b_set ?_
  exact ed_var 2
  refine ed_callB cac_len call_len_seq (by rfl) b_len (by decide +kernel) ?_
  refine ea_cons ?_ ?_
  exact ed_var 2
  exact ea_nil
  refine ew_or1 ?_
  refine eb_not ?_
  refine eb_val ?_
  refine ed_callB cac_all (cr_all rfl) (by rfl) b_all (by decide +kernel) ?_
  refine ea_cons ?_ ?_
  refine ed_dat ?_
  refine el_lc (own := [("one" , 3)]) rfl sc_Meet_shows.nd ?_ (blkOk_by (own := [("one" , 3)]) (N := n_Meet_shows) (sc := defScope s_Meet_shows) (by decide +kernel)) ?_ ?_ ?_
  refine ei_list ?_
  exact ed_var 2
  intro _ _ _ _ _
  exact egw_var (i := 3) sc_Meet_shows.nd
  intro _ _ _ _ _
  exact ebs_nil
  intro _ _ _ _ _
  refine ed_chain opc_le opc_lt op_le op_lt ?_ ?_ ?_
  exact ed_int
  exact ed_var 3
  refine ed_callB cac_len call_len_seq (by rfl) b_len (by decide +kernel) ?_
  refine ea_cons ?_ ?_
  exact ed_var 1
  exact ea_nil
  exact ea_nil
  refine ess_one ?_
  refine es_ret ?_
  exact ed_bl
  exact ess_nil
  refine ess_cons ?_ ?_
  refine es_set (i := 5) sc_Meet_shows.nd ?_
  refine ed_callB cac_sum (cr_sum rfl) (by rfl) b_sum (by decide +kernel) ?_
  refine ea_cons ?_ ?_
  refine ed_dat ?_
  refine el_lc (own := [("one" , 3) , ("other" , 4)]) rfl sc_Meet_shows.nd ?_ (blkOk_by (own := [("one" , 3) , ("other" , 4)]) (N := n_Meet_shows) (sc := defScope s_Meet_shows) (by decide +kernel)) ?_ ?_ ?_
  refine ei_list ?_
  refine ed_fld f_pairs ?_
  exact ed_var 0
  intro _ _ _ _ _
  refine egw_tup rfl ?_
  refine egws_cons (i := 3) ?_ ?_
  exact egw_var (i := 3) sc_Meet_shows.nd
  refine egws_cons (i := 4) ?_ ?_
  exact egw_var (i := 4) sc_Meet_shows.nd
  exact egws_nil
  intro _ _ _ _ _
  exact ebs_nil
  intro _ _ _ _ _
  refine ed_callB cac_abs call_abs (by rfl) b_abs (by decide +kernel) ?_
  refine ea_cons ?_ ?_
  refine ed_op opc_sub op_sub ?_ ?_
  refine ed_ix ?_ ?_
  exact ed_var 1
  exact ed_var 3
  refine ed_ix ?_ ?_
  exact ed_var 1
  exact ed_var 4
  exact ea_nil
  exact ea_nil
  refine ess_one ?_
  refine es_ret ?_
  refine ed_cmp opc_eq (op_eqD (hu64 hr)) ?_ ?_ (nomark _)
  refine ed_callB cac_sum (cr_sum rfl) (by rfl) b_sum (by decide +kernel) ?_
  refine ea_cons ?_ ?_
  refine ed_dat ?_
  refine el_lc (own := [("one" , 3)]) rfl sc_Meet_shows.nd ?_ (blkOk_by (own := [("one" , 3)]) (N := n_Meet_shows) (sc := defScope s_Meet_shows) (by decide +kernel)) ?_ ?_ ?_
  refine ei_list ?_
  exact ed_var 1
  intro _ _ _ _ _
  exact egw_var (i := 3) sc_Meet_shows.nd
  intro _ _ _ _ _
  exact ebs_nil
  intro _ _ _ _ _
  refine ed_callB cac_abs call_abs (by rfl) b_abs (by decide +kernel) ?_
  refine ea_cons ?_ ?_
  refine ed_op opc_sub op_sub ?_ ?_
  exact ed_var 3
  refine ed_fld f_place ?_
  exact ed_var 0
  exact ea_nil
  exact ea_nil
  exact ed_var 5
abbrev s_judged : Stmt := topS 34
abbrev n_judged : List Str := ["length", "one", "other", "tick"]
theorem sc_judged : FnScope n_judged ["length", "one", "other", "tick"] (defScope s_judged) := ⟨rfl, rfl, rfl, by decide +kernel, rfl, by decide +kernel, by decide +kernel⟩
theorem ok_judged {a : Addr} {fd : FuncData} (F : Fun K "judged" "judged" s_judged a fd) (b : Binds K fd ["length", "one", "other", "tick"] []) (c_asked_two : Cal P w K mg base G "asked_two" 4 4 d_asked_two) (c_stand_of : Cal P w K mg base G "stand_of" 1 3 d_stand_of) (c_unlike : Cal P w K mg base G "unlike" 1 3 d_unlike) (m_Apart : Mkr P w K mg base G "Apart" 1 1 2 d_Apart_init) (m_Together : Mkr0 K mg G "Together" 0) :
  FD P w K mg base G 5 a 4 d_judged := by
  apply FD.pure
  refine fd_of (nN := 4) (B := B_judged) F sc_judged rfl rfl b ?_
  intro cdv A outer s H E hr
  refine ess_cons ?_ ?_
  refine es_expr ?_
  refine ed_cal c_asked_two (hr.mono (by decide)) (takes_of rfl rfl rfl rfl) ?_
  refine ea_cons ?_ ?_
  exact ed_var 0
  refine ea_cons ?_ ?_
  exact ed_var 1
  refine ea_cons ?_ ?_
  exact ed_var 2
  refine ea_cons ?_ ?_
  exact ed_var 3
  exact ea_nil
  refine ess_cons ?_ ?_
  refine es_if ?_ ?_ ?_
  refine eb_cmp opc_eq (op_eqD (hu64 hr)) ?_ ?_ (nomark _)
  refine ed_ix ?_ ?_
  refine ed_cal c_stand_of (hr.mono (by decide)) (takes_of rfl rfl rfl rfl) ?_
  refine ea_cons ?_ ?_
  exact ed_var 0
  refine ea_cons ?_ ?_
  exact ed_var 1
  refine ea_cons ?_ ?_
  exact ed_var 3
  exact ea_nil
  exact ed_int
  refine ed_ix ?_ ?_
  refine ed_cal c_stand_of (hr.mono (by decide)) (takes_of rfl rfl rfl rfl) ?_
  refine ea_cons ?_ ?_
  exact ed_var 0
  refine ea_cons ?_ ?_
  exact ed_var 2
  refine ea_cons ?_ ?_
  exact ed_var 3
  exact ea_nil
  exact ed_int
  refine ess_one ?_
  refine es_ret ?_
  exact ed_mkr0 m_Together
  exact ess_nil
  refine ess_one ?_
  refine es_ret ?_
  refine ed_pure ?_
  refine ed_mkr m_Apart (hr.mono (by decide)) (takes_of rfl rfl rfl rfl) ?_
  refine ea_cons ?_ ?_
  refine ed_ix ?_ ?_
  refine ed_cal c_unlike (hr.mono (by decide)) (takes_of rfl rfl rfl rfl) ?_
  refine ea_cons ?_ ?_
  exact ed_var 1
  refine ea_cons ?_ ?_
  exact ed_var 2
  refine ea_cons ?_ ?_
  exact ed_var 3
  exact ea_nil
  exact ed_int
  exact ea_nil
abbrev s_asked_places : Stmt := topS 35
abbrev n_asked_places : List Str := ["places", "one"]
theorem sc_asked_places : FnScope n_asked_places ["places"] (defScope s_asked_places) := ⟨rfl, rfl, rfl, by decide +kernel, rfl, by decide +kernel, by decide +kernel⟩
theorem ok_asked_places {a : Addr} {fd : FuncData} (F : Fun K "asked_places" "asked_places" s_asked_places a fd) (b : Binds K fd ["places"] []) (b_all : mg "all" = none) (b_isinstance : mg "isinstance" = none) (b_len : mg "len" = none) (b_list : mg "list" = none) (c_is_whole : Cal P w K mg base G "is_whole" 1 1 d_is_whole) (e_BadPlaces : Err K mg G "BadPlaces" 14) (g_GREATEST : ∃ t, mg "GREATEST" = some (.int 1000000000 t)) (g_MOST_PLACES : ∃ t, mg "MOST_PLACES" = some (.int 40 t)) :
  FD P w K mg base G 2 a 1 d_asked_places := by
  apply FD.pure
  refine fd_of (nN := 2) (B := B_asked_places) F sc_asked_places rfl rfl b ?_
  intro cdv A outer s H E hr
  refine ess_cons ?_ ?_
  refine es_if ?_ ?_ ?_
  refine eb_w ?_
  refine ew_or ?_ ?_
  refine eb_not ?_
  refine eb_val ?_
  refine ed_isB (t := .lst) b_isinstance (by decide) b_list (by decide +kernel) ?_
  exact ed_var 0
  refine ew_or1 ?_
  refine eb_not ?_
  refine eb_chain opc_le opc_le op_le op_le ?_ ?_ ?_
  exact ed_int
  refine ed_callB cac_len call_len_seq (by rfl) b_len (by decide +kernel) ?_
  refine ea_cons ?_ ?_
  exact ed_var 0
  exact ea_nil
  exact ed_gnum g_MOST_PLACES
  refine ess_one ?_
  exact es_err e_BadPlaces (takes_of rfl rfl rfl rfl)
  exact ess_nil
  refine ess_one ?_
  refine es_if ?_ ?_ ?_
  refine eb_not ?_
  refine eb_val ?_
  refine ed_callB cac_all (cr_all rfl) (by rfl) b_all (by decide +kernel) ?_
  refine ea_cons ?_ ?_
  refine ed_dat ?_
  refine el_lc (own := [("one" , 1)]) rfl sc_asked_places.nd ?_ (blkOk_by (own := [("one" , 1)]) (N := n_asked_places) (sc := defScope s_asked_places) (by decide +kernel)) ?_ ?_ ?_
  refine ei_list ?_
  exact ed_var 0
  intro _ _ _ _ _
  exact egw_var (i := 1) sc_asked_places.nd
  intro _ _ _ _ _
  exact ebs_nil
  intro _ _ _ _ _
  refine ed_and ?_ ?_
  refine ed_cal c_is_whole (hr.mono (by decide)) takes0 ?_
  refine ea_cons ?_ ?_
  exact ed_var 1
  exact ea_nil
  refine ed_one ?_
  refine ed_chain opc_le opc_le op_le op_le ?_ ?_ ?_
  exact ed_int
  exact ed_var 1
  exact ed_gnum g_GREATEST
  exact ea_nil
  refine ess_one ?_
  exact es_err e_BadPlaces (takes_of rfl rfl rfl rfl)
  exact ess_nil
abbrev s_meet : Stmt := topS 36
abbrev n_meet : List Str := ["places", "line", "many", "pairs", "at", "place"]
theorem sc_meet : FnScope n_meet ["places"] (defScope s_meet) := ⟨rfl, rfl, rfl, by decide +kernel, rfl, by decide +kernel, by decide +kernel⟩
theorem ok_meet {a : Addr} {fd : FuncData} (F : Fun K "meet" "meet" s_meet a fd) (b : Binds K fd ["places"] []) (b_enumerate : mg "enumerate" = none) (b_len : mg "len" = none) (b_range : mg "range" = none) (b_sorted : mg "sorted" = none) (c_asked_places : Cal P w K mg base G "asked_places" 2 1 d_asked_places) (m_Meet : Mkr P w K mg base G "Meet" 2 1 3 d_Meet_init) :
  FD P w K mg base G 3 a 1 d_meet := by
  refine fd_of (nN := 6) (B := B_meet) F sc_meet rfl rfl b ?_
  intro cdv A outer s H E hr
  refine ess_cons ?_ ?_
  refine es_expr ?_
  refine ed_cal c_asked_places (hr.mono (by decide)) (takes_of rfl rfl rfl rfl) ?_
  refine ea_cons ?_ ?_
  exact ed_var 0
  exact ea_nil
  refine ess_cons ?_ ?_
  refine es_set (i := 1) sc_meet.nd ?_
  refine ed_dat ?_
  refine el_callB clc_sorted (cr_sortB (hu64 hr)) (by rfl) b_sorted (by decide +kernel) ?_
  refine ea_cons ?_ ?_
  refine ed_dat ?_
  refine el_lc (own := [("at" , 4) , ("place" , 5)]) rfl sc_meet.nd ?_ (blkOk_by (own := [("at" , 4) , ("place" , 5)]) (N := n_meet) (sc := defScope s_meet) (by decide +kernel)) ?_ ?_ ?_
  refine ei_enum (by rfl) b_enumerate ?_
  refine ea_cons ?_ ?_
  exact ed_var 0
  exact ea_nil
  intro _ _ _ _ _
  refine egw_tup rfl ?_
  refine egws_cons (i := 4) ?_ ?_
  exact egw_var (i := 4) sc_meet.nd
  refine egws_cons (i := 5) ?_ ?_
  exact egw_var (i := 5) sc_meet.nd
  exact egws_nil
  intro _ _ _ _ _
  exact ebs_nil
  intro _ _ _ _ _
  refine ed_tup ?_
  refine ea_cons ?_ ?_
  exact ed_var 5
  refine ea_cons ?_ ?_
  exact ed_var 4
  exact ea_nil
  exact ea_nil
  refine ess_cons ?_ ?_
  refine es_set (i := 2) sc_meet.nd ?_
  refine ed_callB cac_len call_len_seq (by rfl) b_len (by decide +kernel) ?_
  refine ea_cons ?_ ?_
  exact ed_var 1
  exact ea_nil
  refine ess_cons ?_ ?_
  refine es_setLd (i := 3) (own := [("at" , 4)]) rfl sc_meet.nd rfl (sw_true rfl rfl rfl (by decide +kernel)) ?_ (blkOk_by (own := [("at" , 4)]) (N := n_meet) (sc := defScope s_meet) (by decide +kernel)) ?_ ?_ ?_
  refine ei_rng1 (by rfl) b_range ?_
  refine ea_cons ?_ ?_
  refine ed_op opc_div op_fdivW ?_ ?_
  exact ed_var 2
  exact ed_int
  exact ea_nil
  intro _ _ _ _ _
  exact egw_var (i := 4) sc_meet.nd
  intro _ _ _ _ _
  exact ebs_nil
  intro _ _ _ _ _
  refine ed_tup ?_
  refine ea_cons ?_ ?_
  refine ed_ix ?_ ?_
  refine ed_ix ?_ ?_
  exact ed_var 1
  exact ed_var 4
  exact ed_int
  refine ea_cons ?_ ?_
  refine ed_ix ?_ ?_
  refine ed_ix ?_ ?_
  exact ed_var 1
  refine ed_op opc_sub op_sub ?_ ?_
  refine ed_op opc_sub op_sub ?_ ?_
  exact ed_var 2
  exact ed_int
  exact ed_var 4
  exact ed_int
  exact ea_nil
  refine ess_one ?_
  refine es_ret ?_
  refine ed_mkr m_Meet (hr.mono (by decide)) (takes_of rfl rfl rfl rfl) ?_
  refine ea_cons ?_ ?_
  refine ed_ix ?_ ?_
  refine ed_ix ?_ ?_
  exact ed_var 1
  refine ed_op opc_div op_fdivW ?_ ?_
  exact ed_var 2
  exact ed_int
  exact ed_int
  refine ea_cons ?_ ?_
  exact ed_var 3
  exact ea_nil
abbrev s_least_jumps : Stmt := topS 37
abbrev n_least_jumps : List Str := ["places", "line", "place"]
theorem sc_least_jumps : FnScope n_least_jumps ["places"] (defScope s_least_jumps) := ⟨rfl, rfl, rfl, by decide +kernel, rfl, by decide +kernel, by decide +kernel⟩
theorem ok_least_jumps {a : Addr} {fd : FuncData} (F : Fun K "least_jumps" "least_jumps" s_least_jumps a fd) (b : Binds K fd ["places"] []) (b_abs : mg "abs" = none) (b_len : mg "len" = none) (b_sorted : mg "sorted" = none) (b_sum : mg "sum" = none) (c_asked_places : Cal P w K mg base G "asked_places" 2 1 d_asked_places) :
  FD P w K mg base G 3 a 1 d_least_jumps := by
  apply FD.pure
  refine fd_of (nN := 3) (B := B_least_jumps) F sc_least_jumps rfl rfl b ?_
  intro cdv A outer s H E hr
  refine ess_cons ?_ ?_
  refine es_expr ?_
  refine ed_cal c_asked_places (hr.mono (by decide)) (takes_of rfl rfl rfl rfl) ?_
  refine ea_cons ?_ ?_
  exact ed_var 0
  exact ea_nil
  refine ess_cons ?_ ?_
  refine es_set (i := 1) sc_least_jumps.nd ?_
  refine ed_dat ?_
  refine el_callB clc_sorted (cr_sortB (hu64 hr)) (by rfl) b_sorted (by decide +kernel) ?_
  refine ea_cons ?_ ?_
  exact ed_var 0
  exact ea_nil
  refine ess_one ?_
  refine es_ret ?_
  refine ed_callB cac_sum (cr_sum rfl) (by rfl) b_sum (by decide +kernel) ?_
  refine ea_cons ?_ ?_
  refine ed_dat ?_
  refine el_lc (own := [("place" , 2)]) rfl sc_least_jumps.nd ?_ (blkOk_by (own := [("place" , 2)]) (N := n_least_jumps) (sc := defScope s_least_jumps) (by decide +kernel)) ?_ ?_ ?_
  refine ei_list ?_
  exact ed_var 1
  intro _ _ _ _ _
  exact egw_var (i := 2) sc_least_jumps.nd
  intro _ _ _ _ _
  exact ebs_nil
  intro _ _ _ _ _
  refine ed_callB cac_abs call_abs (by rfl) b_abs (by decide +kernel) ?_
  refine ea_cons ?_ ?_
  refine ed_op opc_sub op_sub ?_ ?_
  exact ed_var 2
  refine ed_ix ?_ ?_
  exact ed_var 1
  refine ed_op opc_div op_fdivW ?_ ?_
  refine ed_callB cac_len call_len_seq (by rfl) b_len (by decide +kernel) ?_
  refine ea_cons ?_ ?_
  exact ed_var 1
  exact ea_nil
  exact ed_int
  exact ea_nil
  exact ea_nil
abbrev s_Room_init : Stmt := inClass (topS 39) 0
abbrev n_Room_init : List Str := ["self", "length", "watchers", "watcher"]
theorem sc_Room_init : FnScope n_Room_init ["self", "length", "watchers"] (defScope s_Room_init) := ⟨rfl, rfl, rfl, by decide +kernel, rfl, by decide +kernel, by decide +kernel⟩
theorem ok_Room_init {a : Addr} {fd : FuncData} (F : Fun K "__init__" "Room.__init__" s_Room_init a fd) (b : Binds K fd ["self", "length", "watchers"] []) (b_range : mg "range" = none) (c_asked_length : Cal P w K mg base G "asked_length" 2 1 d_asked_length) (c_is_whole : Cal P w K mg base G "is_whole" 1 1 d_is_whole) (e_BadWatcher : Err K mg G "BadWatcher" 15) (f_known : FldOk K G "known") (f_length : FldOk K G "length") (f_letters : FldOk K G "letters") (f_lines : FldOk K G "lines") (f_now : FldOk K G "now") (g_HANDS : ∃ t, mg "HANDS" = some (.int 4 t)) :
  FD P w K mg base G 3 a 3 d_Room_init := by
  refine fd_of (nN := 4) (B := B_Room_init) F sc_Room_init rfl rfl b ?_
  intro cdv A outer s H E hr
  refine ess_cons ?_ ?_
  refine es_expr ?_
  refine ed_cal c_asked_length (hr.mono (by decide)) (takes_of rfl rfl rfl rfl) ?_
  refine ea_cons ?_ ?_
  exact ed_var 1
  exact ea_nil
  refine ess_cons ?_ ?_
  refine es_if ?_ ?_ ?_
  refine eb_w ?_
  refine ew_or ?_ ?_
  refine eb_not ?_
  refine eb_val ?_
  refine ed_cal c_is_whole (hr.mono (by decide)) (takes_of rfl rfl rfl rfl) ?_
  refine ea_cons ?_ ?_
  exact ed_var 2
  exact ea_nil
  refine ew_or1 ?_
  refine eb_not ?_
  refine eb_chain opc_le opc_le op_le op_le ?_ ?_ ?_
  exact ed_int
  exact ed_var 2
  exact ed_gnum g_HANDS
  refine ess_one ?_
  exact es_err e_BadWatcher (takes_of rfl rfl rfl rfl)
  exact ess_nil
  refine ess_cons ?_ ?_
  refine es_fld f_length ?_ ?_
  exact ed_var 0
  exact ed_var 1
  refine ess_cons ?_ ?_
  refine es_fld f_known ?_ ?_
  exact ed_var 0
  refine ed_dat ?_
  refine el_lc (own := [("watcher" , 3)]) rfl sc_Room_init.nd ?_ (blkOk_by (own := [("watcher" , 3)]) (N := n_Room_init) (sc := defScope s_Room_init) (by decide +kernel)) ?_ ?_ ?_
  refine ei_rng1 (by rfl) b_range ?_
  refine ea_cons ?_ ?_
  exact ed_var 2
  exact ea_nil
  intro _ _ _ _ _
  exact egw_var (i := 3) sc_Room_init.nd
  intro _ _ _ _ _
  exact ebs_nil
  intro _ _ _ _ _
  refine ed_cel ?_
  refine el_lst ?_
  exact ea_nil
  refine ess_cons ?_ ?_
  refine es_fld f_letters ?_ ?_
  exact ed_var 0
  refine ed_cel ?_
  refine el_lst ?_
  exact ea_nil
  refine ess_cons ?_ ?_
  refine es_fld f_now ?_ ?_
  exact ed_var 0
  exact ed_int
  refine ess_one ?_
  refine es_fld f_lines ?_ ?_
  exact ed_var 0
  refine ed_cel ?_
  refine el_lst ?_
  exact ea_nil
abbrev s_Room_asked_watcher : Stmt := inClass (topS 39) 1
abbrev n_Room_asked_watcher : List Str := ["self", "watcher"]
theorem sc_Room_asked_watcher : FnScope n_Room_asked_watcher ["self", "watcher"] (defScope s_Room_asked_watcher) := ⟨rfl, rfl, rfl, by decide +kernel, rfl, by decide +kernel, by decide +kernel⟩
theorem ok_Room_asked_watcher {a : Addr} {fd : FuncData} (F : Fun K "asked_watcher" "Room.asked_watcher" s_Room_asked_watcher a fd) (b : Binds K fd ["self", "watcher"] []) (b_len : mg "len" = none) (c_is_whole : Cal P w K mg base G "is_whole" 1 1 d_is_whole) (e_BadWatcher : Err K mg G "BadWatcher" 15) (f_known : FldOk K G "known") :
  FD P w K mg base G 2 a 2 d_Room_asked_watcher := by
  apply FD.pure
  refine fd_of (nN := 2) (B := B_Room_asked_watcher) F sc_Room_asked_watcher rfl rfl b ?_
  intro cdv A outer s H E hr
  refine ess_one ?_
  refine es_if ?_ ?_ ?_
  refine eb_w ?_
  refine ew_or ?_ ?_
  refine eb_not ?_
  refine eb_val ?_
  refine ed_cal c_is_whole (hr.mono (by decide)) (takes_of rfl rfl rfl rfl) ?_
  refine ea_cons ?_ ?_
  exact ed_var 1
  exact ea_nil
  refine ew_or1 ?_
  refine eb_not ?_
  refine eb_chain opc_le opc_lt op_le op_lt ?_ ?_ ?_
  exact ed_int
  exact ed_var 1
  refine ed_callB cac_len call_len_seq (by rfl) b_len (by decide +kernel) ?_
  refine ea_cons ?_ ?_
  refine ed_fld f_known ?_
  exact ed_var 0
  exact ea_nil
  refine ess_one ?_
  exact es_err e_BadWatcher (takes_of rfl rfl rfl rfl)
  exact ess_nil
abbrev s_Room_order : Stmt := inClass (topS 39) 2
abbrev n_Room_order : List Str := ["self", "watcher", "kind", "place", "one"]
theorem sc_Room_order : FnScope n_Room_order ["self", "watcher", "kind", "place"] (defScope s_Room_order) := ⟨rfl, rfl, rfl, by decide +kernel, rfl, by decide +kernel, by decide +kernel⟩
theorem ok_Room_order {a : Addr} {fd : FuncData} (F : Fun K "order" "Room.order" s_Room_order a fd) (b : Binds K fd ["self", "watcher", "kind", "place"] []) (b_isinstance : mg "isinstance" = none) (b_len : mg "len" = none) (b_str : mg "str" = none) (c_is_whole : Cal P w K mg base G "is_whole" 1 1 d_is_whole) (e_BadKind : Err K mg G "BadKind" 16) (e_BadPlace : Err K mg G "BadPlace" 17) (e_Busy : Err K mg G "Busy" 20) (f_known : FldOk K G "known") (f_length : FldOk K G "length") (f_letters : FldOk K G "letters") (f_lines : FldOk K G "lines") (f_now : FldOk K G "now") (g_KINDS : TupIn K mg "KINDS" ["hold", "go", "move"]) (g_MOST_COMMANDS : ∃ t, mg "MOST_COMMANDS" = some (.int 300 t)) (h_asked_watcher : MD P w K mg base G 2 "asked_watcher" ms_asked_watcher) :
  FD P w K mg base G 3 a 4 d_Room_order := by
  refine fd_of (nN := 5) (B := B_Room_order) F sc_Room_order rfl rfl b ?_
  intro cdv A outer s H E hr
  refine ess_cons ?_ ?_
  refine es_expr ?_
  refine ed_meth (pl := _) h_asked_watcher ?_ (hr.mono (by decide)) (takes_of rfl rfl rfl rfl) ?_
  exact ed_var 0
  refine ea_cons ?_ ?_
  exact ed_var 1
  exact ea_nil
  refine ess_cons ?_ ?_
  refine es_if ?_ ?_ ?_
  refine eb_w ?_
  refine ew_or ?_ ?_
  refine eb_not ?_
  refine eb_val ?_
  refine ed_isB (t := .str) b_isinstance (by decide) b_str (by decide +kernel) ?_
  exact ed_var 2
  refine ew_or1 ?_
  refine eb_notInG g_KINDS ?_ (by with_unfolding_all rfl)
  exact ed_var 2
  refine ess_one ?_
  exact es_err e_BadKind (takes_of rfl rfl rfl rfl)
  exact ess_nil
  refine ess_cons ?_ ?_
  refine es_if ?_ ?_ ?_
  refine eb_w ?_
  refine ew_or ?_ ?_
  refine eb_not ?_
  refine eb_val ?_
  refine ed_cal c_is_whole (hr.mono (by decide)) (takes_of rfl rfl rfl rfl) ?_
  refine ea_cons ?_ ?_
  exact ed_var 3
  exact ea_nil
  refine ew_or1 ?_
  refine eb_not ?_
  refine eb_chain opc_le opc_le op_le op_le ?_ ?_ ?_
  exact ed_int
  exact ed_var 3
  refine ed_if ?_ ?_ ?_
  refine eb_cmp opc_eq (op_eqD (hu64 hr)) ?_ ?_ (nomark _)
  exact ed_var 2
  exact ed_str
  refine ed_fld f_length ?_
  exact ed_var 0
  exact ed_int
  refine ess_one ?_
  exact es_err e_BadPlace (takes_of rfl rfl rfl rfl)
  exact ess_nil
  refine ess_cons ?_ ?_
  refine es_if ?_ ?_ ?_
  refine eb_w ?_
  refine ew_or ?_ ?_
  refine eb_cmp opc_in (op_in2 (hu65 hr)) ?_ ?_ (by with_unfolding_all rfl)
  refine ed_tup ?_
  refine ea_cons ?_ ?_
  refine ed_fld f_now ?_
  exact ed_var 0
  refine ea_cons ?_ ?_
  exact ed_var 1
  exact ea_nil
  refine ed_dat ?_
  refine el_lc (own := [("one" , 4)]) rfl sc_Room_order.nd ?_ (blkOk_by (own := [("one" , 4)]) (N := n_Room_order) (sc := defScope s_Room_order) (by decide +kernel)) ?_ ?_ ?_
  refine ei_list ?_
  refine ed_fld f_letters ?_
  exact ed_var 0
  intro _ _ _ _ _
  exact egw_var (i := 4) sc_Room_order.nd
  intro _ _ _ _ _
  exact ebs_nil
  intro _ _ _ _ _
  refine ed_sl ?_ ?_ ?_
  exact ed_var 4
  exact eo_none
  refine eo_some ?_
  exact ed_int
  refine ew_or1 ?_
  refine eb_cmp opc_ge op_ge ?_ ?_ (nomark _)
  refine ed_callB cac_len call_len_seq (by rfl) b_len (by decide +kernel) ?_
  refine ea_cons ?_ ?_
  refine ed_fld f_letters ?_
  exact ed_var 0
  exact ea_nil
  exact ed_gnum g_MOST_COMMANDS
  refine ess_one ?_
  exact es_err e_Busy (takes_of rfl rfl rfl rfl)
  exact ess_nil
  refine ess_cons ?_ ?_
  refine es_expr ?_
  refine ed_lm lmc_append PySem.F.slot_list_append PySem.F.type_list_append mt_append ?_ ?_
  refine ed_fld f_letters ?_
  exact ed_var 0
  refine ea_cons ?_ ?_
  refine ed_tup ?_
  refine ea_cons ?_ ?_
  refine ed_fld f_now ?_
  exact ed_var 0
  refine ea_cons ?_ ?_
  exact ed_var 1
  refine ea_cons ?_ ?_
  exact ed_var 2
  refine ea_cons ?_ ?_
  exact ed_var 3
  exact ea_nil
  exact ea_nil
  refine ess_cons ?_ ?_
  refine es_expr ?_
  refine ed_lm lmc_append PySem.F.slot_list_append PySem.F.type_list_append mt_append ?_ ?_
  refine ed_ix ?_ ?_
  refine ed_fld f_known ?_
  exact ed_var 0
  exact ed_var 1
  refine ea_cons ?_ ?_
  refine ed_ix ?_ ?_
  refine ed_fld f_letters ?_
  exact ed_var 0
  refine ed_un unc_neg un_neg ?_
  exact ed_int
  exact ea_nil
  refine ess_cons ?_ ?_
  refine es_expr ?_
  refine ed_lm lmc_append PySem.F.slot_list_append PySem.F.type_list_append mt_append ?_ ?_
  refine ed_fld f_lines ?_
  exact ed_var 0
  refine ea_cons ?_ ?_
  refine ed_tup ?_
  refine ea_cons ?_ ?_
  exact ed_str
  refine ea_cons ?_ ?_
  exact ed_var 1
  refine ea_cons ?_ ?_
  exact ed_var 2
  refine ea_cons ?_ ?_
  exact ed_var 3
  exact ea_nil
  exact ea_nil
  refine ess_one ?_
  refine es_ret ?_
  refine ed_op opc_sub op_sub ?_ ?_
  refine ed_callB cac_len call_len_seq (by rfl) b_len (by decide +kernel) ?_
  refine ea_cons ?_ ?_
  refine ed_fld f_letters ?_
  exact ed_var 0
  exact ea_nil
  exact ed_int
abbrev s_Room_bring : Stmt := inClass (topS 39) 3
abbrev n_Room_bring : List Str := ["self", "letter", "watcher", "new"]
theorem sc_Room_bring : FnScope n_Room_bring ["self", "letter", "watcher"] (defScope s_Room_bring) := ⟨rfl, rfl, rfl, by decide +kernel, rfl, by decide +kernel, by decide +kernel⟩
theorem ok_Room_bring {a : Addr} {fd : FuncData} (F : Fun K "bring" "Room.bring" s_Room_bring a fd) (b : Binds K fd ["self", "letter", "watcher"] []) (b_len : mg "len" = none) (c_is_whole : Cal P w K mg base G "is_whole" 1 1 d_is_whole) (e_BadLetter : Err K mg G "BadLetter" 18) (f_known : FldOk K G "known") (f_letters : FldOk K G "letters") (f_lines : FldOk K G "lines") (h_asked_watcher : MD P w K mg base G 2 "asked_watcher" ms_asked_watcher) :
  FD P w K mg base G 3 a 3 d_Room_bring := by
  refine fd_of (nN := 4) (B := B_Room_bring) F sc_Room_bring rfl rfl b ?_
  intro cdv A outer s H E hr
  refine ess_cons ?_ ?_
  refine es_if ?_ ?_ ?_
  refine eb_w ?_
  refine ew_or ?_ ?_
  refine eb_not ?_
  refine eb_val ?_
  refine ed_cal c_is_whole (hr.mono (by decide)) (takes_of rfl rfl rfl rfl) ?_
  refine ea_cons ?_ ?_
  exact ed_var 1
  exact ea_nil
  refine ew_or1 ?_
  refine eb_not ?_
  refine eb_chain opc_le opc_lt op_le op_lt ?_ ?_ ?_
  exact ed_int
  exact ed_var 1
  refine ed_callB cac_len call_len_seq (by rfl) b_len (by decide +kernel) ?_
  refine ea_cons ?_ ?_
  refine ed_fld f_letters ?_
  exact ed_var 0
  exact ea_nil
  refine ess_one ?_
  exact es_err e_BadLetter (takes_of rfl rfl rfl rfl)
  exact ess_nil
  refine ess_cons ?_ ?_
  refine es_expr ?_
  refine ed_meth (pl := _) h_asked_watcher ?_ (hr.mono (by decide)) (takes_of rfl rfl rfl rfl) ?_
  exact ed_var 0
  refine ea_cons ?_ ?_
  exact ed_var 2
  exact ea_nil
  refine ess_cons ?_ ?_
  refine es_set (i := 3) sc_Room_bring.nd ?_
  refine ed_cmp opc_notIn (op_notIn2 (hu65 hr)) ?_ ?_ (by with_unfolding_all rfl)
  refine ed_ix ?_ ?_
  refine ed_fld f_letters ?_
  exact ed_var 0
  exact ed_var 1
  refine ed_ix ?_ ?_
  refine ed_fld f_known ?_
  exact ed_var 0
  exact ed_var 2
  refine ess_cons ?_ ?_
  refine es_if ?_ ?_ ?_
  refine eb_val ?_
  exact ed_var 3
  refine ess_one ?_
  refine es_expr ?_
  refine ed_lm lmc_append PySem.F.slot_list_append PySem.F.type_list_append mt_append ?_ ?_
  refine ed_ix ?_ ?_
  refine ed_fld f_known ?_
  exact ed_var 0
  exact ed_var 2
  refine ea_cons ?_ ?_
  refine ed_ix ?_ ?_
  refine ed_fld f_letters ?_
  exact ed_var 0
  exact ed_var 1
  exact ea_nil
  exact ess_nil
  refine ess_cons ?_ ?_
  refine es_expr ?_
  refine ed_lm lmc_append PySem.F.slot_list_append PySem.F.type_list_append mt_append ?_ ?_
  refine ed_fld f_lines ?_
  exact ed_var 0
  refine ea_cons ?_ ?_
  refine ed_tup ?_
  refine ea_cons ?_ ?_
  exact ed_str
  refine ea_cons ?_ ?_
  exact ed_var 1
  refine ea_cons ?_ ?_
  exact ed_var 2
  exact ea_nil
  exact ea_nil
  refine ess_one ?_
  refine es_ret ?_
  exact ed_var 3
abbrev s_Room_tick : Stmt := inClass (topS 39) 4
abbrev n_Room_tick : List Str := ["self", "many"]
theorem sc_Room_tick : FnScope n_Room_tick ["self", "many"] (defScope s_Room_tick) := ⟨rfl, rfl, rfl, by decide +kernel, rfl, by decide +kernel, by decide +kernel⟩
theorem ok_Room_tick {a : Addr} {fd : FuncData} (F : Fun K "tick" "Room.tick" s_Room_tick a fd) (b : Binds K fd ["self", "many"] []) (c_is_whole : Cal P w K mg base G "is_whole" 1 1 d_is_whole) (e_BadTick : Err K mg G "BadTick" 13) (f_lines : FldOk K G "lines") (f_now : FldOk K G "now") :
  FD P w K mg base G 2 a 2 d_Room_tick := by
  refine fd_of (nN := 2) (B := B_Room_tick) F sc_Room_tick rfl rfl b ?_
  intro cdv A outer s H E hr
  refine ess_cons ?_ ?_
  refine es_if ?_ ?_ ?_
  refine eb_w ?_
  refine ew_or ?_ ?_
  refine eb_not ?_
  refine eb_val ?_
  refine ed_cal c_is_whole (hr.mono (by decide)) (takes_of rfl rfl rfl rfl) ?_
  refine ea_cons ?_ ?_
  exact ed_var 1
  exact ea_nil
  refine ew_or1 ?_
  refine eb_cmp opc_lt op_lt ?_ ?_ (nomark _)
  exact ed_var 1
  exact ed_int
  refine ess_one ?_
  exact es_err e_BadTick (takes_of rfl rfl rfl rfl)
  exact ess_nil
  refine ess_cons ?_ ?_
  refine es_fld f_now ?_ ?_
  exact ed_var 0
  refine ed_op opc_add op_add3 ?_ ?_
  refine ed_fld f_now ?_
  exact ed_var 0
  exact ed_var 1
  refine ess_cons ?_ ?_
  refine es_expr ?_
  refine ed_lm lmc_append PySem.F.slot_list_append PySem.F.type_list_append mt_append ?_ ?_
  refine ed_fld f_lines ?_
  exact ed_var 0
  refine ea_cons ?_ ?_
  refine ed_tup ?_
  refine ea_cons ?_ ?_
  exact ed_str
  refine ea_cons ?_ ?_
  exact ed_var 1
  exact ea_nil
  exact ea_nil
  refine ess_one ?_
  refine es_ret ?_
  refine ed_fld f_now ?_
  exact ed_var 0
abbrev s_Room_stands : Stmt := inClass (topS 39) 5
abbrev n_Room_stands : List Str := ["self", "watcher"]
theorem sc_Room_stands : FnScope n_Room_stands ["self", "watcher"] (defScope s_Room_stands) := ⟨rfl, rfl, rfl, by decide +kernel, rfl, by decide +kernel, by decide +kernel⟩
theorem ok_Room_stands {a : Addr} {fd : FuncData} (F : Fun K "stands" "Room.stands" s_Room_stands a fd) (b : Binds K fd ["self", "watcher"] []) (c_stand_of : Cal P w K mg base G "stand_of" 1 3 d_stand_of) (f_known : FldOk K G "known") (f_length : FldOk K G "length") (f_now : FldOk K G "now") (h_asked_watcher : MD P w K mg base G 2 "asked_watcher" ms_asked_watcher) :
  FD P w K mg base G 3 a 2 d_Room_stands := by
  apply FD.pure
  refine fd_of (nN := 2) (B := B_Room_stands) F sc_Room_stands rfl rfl b ?_
  intro cdv A outer s H E hr
  refine ess_cons ?_ ?_
  refine es_expr ?_
  refine ed_meth (pl := _) h_asked_watcher ?_ (hr.mono (by decide)) (takes_of rfl rfl rfl rfl) ?_
  exact ed_var 0
  refine ea_cons ?_ ?_
  exact ed_var 1
  exact ea_nil
  refine ess_one ?_
  refine es_ret ?_
  refine ed_cal c_stand_of (hr.mono (by decide)) (takes_of rfl rfl rfl rfl) ?_
  refine ea_cons ?_ ?_
  refine ed_fld f_length ?_
  exact ed_var 0
  refine ea_cons ?_ ?_
  refine ed_ix ?_ ?_
  refine ed_fld f_known ?_
  exact ed_var 0
  exact ed_var 1
  refine ea_cons ?_ ?_
  refine ed_fld f_now ?_
  exact ed_var 0
  exact ea_nil
abbrev s_Room_knows : Stmt := inClass (topS 39) 6
abbrev n_Room_knows : List Str := ["self", "watcher"]
theorem sc_Room_knows : FnScope n_Room_knows ["self", "watcher"] (defScope s_Room_knows) := ⟨rfl, rfl, rfl, by decide +kernel, rfl, by decide +kernel, by decide +kernel⟩
theorem ok_Room_knows {a : Addr} {fd : FuncData} (F : Fun K "knows" "Room.knows" s_Room_knows a fd) (b : Binds K fd ["self", "watcher"] []) (b_sorted : mg "sorted" = none) (f_known : FldOk K G "known") (h_asked_watcher : MD P w K mg base G 2 "asked_watcher" ms_asked_watcher) :
  FD P w K mg base G 3 a 2 d_Room_knows := by
  refine fd_of (nN := 2) (B := B_Room_knows) F sc_Room_knows rfl rfl b ?_
  intro cdv A outer s H E hr
  refine ess_cons ?_ ?_
  refine es_expr ?_
  refine ed_meth (pl := _) h_asked_watcher ?_ (hr.mono (by decide)) (takes_of rfl rfl rfl rfl) ?_
  exact ed_var 0
  refine ea_cons ?_ ?_
  exact ed_var 1
  exact ea_nil
  refine ess_one ?_
  refine es_ret ?_
  refine ed_cel ?_
  refine el_callB clc_sorted (cr_sortB (hu64 hr)) (by rfl) b_sorted (by decide +kernel) ?_
  refine ea_cons ?_ ?_
  refine ed_ix ?_ ?_
  refine ed_fld f_known ?_
  exact ed_var 0
  exact ed_var 1
  exact ea_nil
abbrev s_Room_at_rest : Stmt := inClass (topS 39) 7
abbrev n_Room_at_rest : List Str := ["self", "some"]
theorem sc_Room_at_rest : FnScope n_Room_at_rest ["self"] (defScope s_Room_at_rest) := ⟨rfl, rfl, rfl, by decide +kernel, rfl, by decide +kernel, by decide +kernel⟩
theorem ok_Room_at_rest {a : Addr} {fd : FuncData} (F : Fun K "at_rest" "Room.at_rest" s_Room_at_rest a fd) (b : Binds K fd ["self"] []) (b_all : mg "all" = none) (b_len : mg "len" = none) (f_known : FldOk K G "known") (f_letters : FldOk K G "letters") :
  FD P w K mg base G 1 a 1 d_Room_at_rest := by
  apply FD.pure
  refine fd_of (nN := 2) (B := B_Room_at_rest) F sc_Room_at_rest rfl rfl b ?_
  intro cdv A outer s H E hr
  refine ess_one ?_
  refine es_ret ?_
  refine ed_callB cac_all (cr_all rfl) (by rfl) b_all (by decide +kernel) ?_
  refine ea_cons ?_ ?_
  refine ed_dat ?_
  refine el_lc (own := [("some" , 1)]) rfl sc_Room_at_rest.nd ?_ (blkOk_by (own := [("some" , 1)]) (N := n_Room_at_rest) (sc := defScope s_Room_at_rest) (by decide +kernel)) ?_ ?_ ?_
  refine ei_list ?_
  refine ed_fld f_known ?_
  exact ed_var 0
  intro _ _ _ _ _
  exact egw_var (i := 1) sc_Room_at_rest.nd
  intro _ _ _ _ _
  exact ebs_nil
  intro _ _ _ _ _
  refine ed_cmp opc_eq (op_eqD (hu64 hr)) ?_ ?_ (nomark _)
  refine ed_callB cac_len call_len_seq (by rfl) b_len (by decide +kernel) ?_
  refine ea_cons ?_ ?_
  exact ed_var 1
  exact ea_nil
  refine ed_callB cac_len call_len_seq (by rfl) b_len (by decide +kernel) ?_
  refine ea_cons ?_ ?_
  refine ed_fld f_letters ?_
  exact ed_var 0
  exact ea_nil
  exact ea_nil
abbrev s_Room_tale : Stmt := inClass (topS 39) 8
abbrev n_Room_tale : List Str := ["self"]
theorem sc_Room_tale : FnScope n_Room_tale ["self"] (defScope s_Room_tale) := ⟨rfl, rfl, rfl, by decide +kernel, rfl, by decide +kernel, by decide +kernel⟩
theorem ok_Room_tale {a : Addr} {fd : FuncData} (F : Fun K "tale" "Room.tale" s_Room_tale a fd) (b : Binds K fd ["self"] []) (b_list : mg "list" = none) (f_lines : FldOk K G "lines") :
  FD P w K mg base G 1 a 1 d_Room_tale := by
  refine fd_of (nN := 1) (B := B_Room_tale) F sc_Room_tale rfl rfl b ?_
  intro cdv A outer s H E hr
  refine ess_one ?_
  refine es_ret ?_
  refine ed_cel ?_
  refine el_callTy clc_list call_list_of (by rfl) b_list (by decide +kernel) ?_
  refine ea_cons ?_ ?_
  refine ed_fld f_lines ?_
  exact ed_var 0
  exact ea_nil
abbrev s_is_line : Stmt := topS 42
abbrev n_is_line : List Str := ["thing", "sizes", "one"]
theorem sc_is_line : FnScope n_is_line ["thing"] (defScope s_is_line) := ⟨rfl, rfl, rfl, by decide +kernel, rfl, by decide +kernel, by decide +kernel⟩
theorem ok_is_line {a : Addr} {fd : FuncData} (F : Fun K "is_line" "is_line" s_is_line a fd) (b : Binds K fd ["thing"] []) (b_all : mg "all" = none) (b_isinstance : mg "isinstance" = none) (b_len : mg "len" = none) (b_str : mg "str" = none) (b_tuple : mg "tuple" = none) (c_is_whole : Cal P w K mg base G "is_whole" 1 1 d_is_whole) :
  FD P w K mg base G 2 a 1 d_is_line := by
  apply FD.pure
  refine fd_of (nN := 3) (B := B_is_line) F sc_is_line rfl rfl b ?_
  intro cdv A outer s H E hr
  refine ess_cons ?_ ?_
  refine es_if ?_ ?_ ?_
  refine eb_w ?_
  refine ew_or ?_ ?_
  refine eb_not ?_
  refine eb_val ?_
  refine ed_isB (t := .tup) b_isinstance (by decide) b_tuple (by decide +kernel) ?_
  exact ed_var 0
  refine ew_or ?_ ?_
  refine eb_cmp opc_eq (op_eqD (hu64 hr)) ?_ ?_ (nomark _)
  exact ed_var 0
  refine ed_tup ?_
  exact ea_nil
  refine ew_or1 ?_
  refine eb_not ?_
  refine eb_val ?_
  refine ed_isB (t := .str) b_isinstance (by decide) b_str (by decide +kernel) ?_
  refine ed_ix ?_ ?_
  exact ed_var 0
  exact ed_int
  refine ess_one ?_
  refine es_ret ?_
  exact ed_bl
  exact ess_nil
  refine ess_cons ?_ ?_
  refine es_if ?_ ?_ ?_
  refine eb_cmp opc_eq (op_eqD (hu64 hr)) ?_ ?_ (nomark _)
  refine ed_ix ?_ ?_
  exact ed_var 0
  exact ed_int
  exact ed_str
  refine ess_one ?_
  refine es_ret ?_
  refine ed_and ?_ ?_
  refine ed_cmp opc_eq (op_eqD (hu64 hr)) ?_ ?_ (nomark _)
  refine ed_callB cac_len call_len_seq (by rfl) b_len (by decide +kernel) ?_
  refine ea_cons ?_ ?_
  exact ed_var 0
  exact ea_nil
  exact ed_int
  refine ed_and ?_ ?_
  refine ed_cal c_is_whole (hr.mono (by decide)) (takes_of rfl rfl rfl rfl) ?_
  refine ea_cons ?_ ?_
  refine ed_ix ?_ ?_
  exact ed_var 0
  exact ed_int
  exact ea_nil
  refine ed_and ?_ ?_
  refine ed_isB (t := .str) b_isinstance (by decide) b_str (by decide +kernel) ?_
  refine ed_ix ?_ ?_
  exact ed_var 0
  exact ed_int
  refine ed_one ?_
  refine ed_cal c_is_whole (hr.mono (by decide)) (takes_of rfl rfl rfl rfl) ?_
  refine ea_cons ?_ ?_
  refine ed_ix ?_ ?_
  exact ed_var 0
  exact ed_int
  exact ea_nil
  exact ess_nil
  refine ess_cons ?_ ?_
  refine es_set (i := 1) sc_is_line.nd ?_
  refine ed_disp ?_
  refine eps_cons ?_ ?_
  exact ed_int
  refine eps_cons ?_ ?_
  exact ed_int
  refine eps_cons ?_ ?_
  exact ed_int
  exact eps_nil
  refine ess_one ?_
  refine es_ret ?_
  refine ed_and ?_ ?_
  refine ed_cmp opc_eq (op_eqD (hu64 hr)) ?_ ?_ (nomark _)
  refine ed_getS2 ?_ ?_ ?_ (hu65 hr)
  exact ed_var 1
  refine ed_ix ?_ ?_
  exact ed_var 0
  exact ed_int
  exact ed_int
  refine ed_callB cac_len call_len_seq (by rfl) b_len (by decide +kernel) ?_
  refine ea_cons ?_ ?_
  exact ed_var 0
  exact ea_nil
  refine ed_one ?_
  refine ed_callB cac_all (cr_all rfl) (by rfl) b_all (by decide +kernel) ?_
  refine ea_cons ?_ ?_
  refine ed_dat ?_
  refine el_lc (own := [("one" , 2)]) rfl sc_is_line.nd ?_ (blkOk_by (own := [("one" , 2)]) (N := n_is_line) (sc := defScope s_is_line) (by decide +kernel)) ?_ ?_ ?_
  refine ei_tup ?_
  refine ed_sl ?_ ?_ ?_
  exact ed_var 0
  refine eo_some ?_
  exact ed_int
  exact eo_none
  intro _ _ _ _ _
  exact egw_var (i := 2) sc_is_line.nd
  intro _ _ _ _ _
  exact ebs_nil
  intro _ _ _ _ _
  refine ed_cal c_is_whole (hr.mono (by decide)) takes0 ?_
  refine ea_cons ?_ ?_
  exact ed_var 2
  exact ea_nil
  exact ea_nil
abbrev s_can_come : Stmt := topS 43
abbrev n_can_come : List Str := ["room", "line"]
theorem sc_can_come : FnScope n_can_come ["room", "line"] (defScope s_can_come) := ⟨rfl, rfl, rfl, by decide +kernel, rfl, by decide +kernel, by decide +kernel⟩
theorem ok_can_come {a : Addr} {fd : FuncData} (F : Fun K "can_come" "can_come" s_can_come a fd) (b : Binds K fd ["room", "line"] []) (h_bring : MD P w K mg base G 3 "bring" ms_bring) (h_order : MD P w K mg base G 3 "order" ms_order) (h_stands : MD P w K mg base G 3 "stands" ms_stands) (h_tick : MD P w K mg base G 2 "tick" ms_tick) (t_WatchError : Tryf K mg G [11, 12, 13, 14, 15, 16, 17, 18, 19, 20] "WatchError" 10) :
  FD P w K mg base G 4 a 2 d_can_come := by
  refine fd_of (nN := 2) (B := B_can_come) F sc_can_come rfl rfl b ?_
  intro cdv A outer s H E hr
  refine ess_one ?_
  refine es_trf t_WatchError (takes_of rfl rfl rfl rfl) ?_ ?_
  intro W0 pn0 xe0 tk0 hp0
  refine ess_cons ?_ ?_
  refine es_if ?_ ?_ ?_
  refine eb_cmp opc_eq (op_eqD (hu64 hr)) ?_ ?_ (nomark _)
  refine ed_ix ?_ ?_
  exact ed_var 1
  exact ed_int
  exact ed_str
  refine ess_one ?_
  refine es_ret ?_
  refine ed_cmp opc_ge op_ge ?_ ?_ (nomark _)
  refine ed_meth (pl := _) h_order ?_ (hr.mono (by decide)) tk0 ?_
  exact ed_var 0
  refine ea_cons ?_ ?_
  refine ed_ix ?_ ?_
  exact ed_var 1
  exact ed_int
  refine ea_cons ?_ ?_
  refine ed_ix ?_ ?_
  exact ed_var 1
  exact ed_int
  refine ea_cons ?_ ?_
  refine ed_ix ?_ ?_
  exact ed_var 1
  exact ed_int
  exact ea_nil
  exact ed_int
  exact ess_nil
  refine ess_cons ?_ ?_
  refine es_if ?_ ?_ ?_
  refine eb_cmp opc_eq (op_eqD (hu64 hr)) ?_ ?_ (nomark _)
  refine ed_ix ?_ ?_
  exact ed_var 1
  exact ed_int
  exact ed_str
  refine ess_one ?_
  refine es_ret ?_
  refine ed_cmp opc_in (op_in2 (hu65 hr)) ?_ ?_ (by with_unfolding_all rfl)
  refine ed_meth (pl := _) h_bring ?_ (hr.mono (by decide)) tk0 ?_
  exact ed_var 0
  refine ea_cons ?_ ?_
  refine ed_ix ?_ ?_
  exact ed_var 1
  exact ed_int
  refine ea_cons ?_ ?_
  refine ed_ix ?_ ?_
  exact ed_var 1
  exact ed_int
  exact ea_nil
  refine ed_tup ?_
  refine ea_cons ?_ ?_
  exact ed_bl
  refine ea_cons ?_ ?_
  exact ed_bl
  exact ea_nil
  exact ess_nil
  refine ess_cons ?_ ?_
  refine es_if ?_ ?_ ?_
  refine eb_cmp opc_eq (op_eqD (hu64 hr)) ?_ ?_ (nomark _)
  refine ed_ix ?_ ?_
  exact ed_var 1
  exact ed_int
  exact ed_str
  refine ess_one ?_
  refine es_ret ?_
  refine ed_cmp opc_gt op_gt ?_ ?_ (nomark _)
  refine ed_meth (pl := _) h_tick ?_ (hr.mono (by decide)) tk0 ?_
  exact ed_var 0
  refine ea_cons ?_ ?_
  refine ed_ix ?_ ?_
  exact ed_var 1
  exact ed_int
  exact ea_nil
  exact ed_int
  exact ess_nil
  refine ess_one ?_
  refine es_ret ?_
  refine ed_cmp opc_eq (op_eqD (hu64 hr)) ?_ ?_ (nomark _)
  refine ed_ix ?_ ?_
  refine ed_meth (pl := _) h_stands ?_ (hr.mono (by decide)) tk0 ?_
  exact ed_var 0
  refine ea_cons ?_ ?_
  refine ed_ix ?_ ?_
  exact ed_var 1
  exact ed_int
  exact ea_nil
  exact ed_int
  refine ed_ix ?_ ?_
  exact ed_var 1
  exact ed_int
  intro a0 oe0 qn0
  refine ess_one ?_
  refine es_ret ?_
  exact ed_bl
abbrev s_first_wrong : Stmt := topS 44
abbrev n_first_wrong : List Str := ["length", "watchers", "tale", "room", "place", "line"]
theorem sc_first_wrong : FnScope n_first_wrong ["length", "watchers", "tale"] (defScope s_first_wrong) := ⟨rfl, rfl, rfl, by decide +kernel, rfl, by decide +kernel, by decide +kernel⟩
theorem ok_first_wrong {a : Addr} {fd : FuncData} (F : Fun K "first_wrong" "first_wrong" s_first_wrong a fd) (b : Binds K fd ["length", "watchers", "tale"] []) (b_enumerate : mg "enumerate" = none) (c_can_come : Cal P w K mg base G "can_come" 4 2 d_can_come) (m_Room : Mkr P w K mg base G "Room" 5 3 3 d_Room_init) :
  FD P w K mg base G 5 a 3 d_first_wrong := by
  apply FD.pure
  refine fd_of (nN := 6) (B := B_first_wrong) F sc_first_wrong rfl rfl b ?_
  intro cdv A outer s H E hr
  refine ess_cons ?_ ?_
  refine es_set (i := 3) sc_first_wrong.nd ?_
  refine ed_mkr m_Room (hr.mono (by decide)) (takes_of rfl rfl rfl rfl) ?_
  refine ea_cons ?_ ?_
  exact ed_var 0
  refine ea_cons ?_ ?_
  exact ed_var 1
  exact ea_nil
  refine ess_cons ?_ ?_
  refine es_for (passes_of rfl) rfl ?_ ?_ ?_
  refine ei_enum (by rfl) b_enumerate ?_
  refine ea_cons ?_ ?_
  exact ed_var 2
  exact ea_nil
  refine eg_tup rfl ?_
  refine egs_cons (i := 4) ?_ ?_
  exact eg_var (i := 4) sc_first_wrong.nd
  refine egs_cons (i := 5) ?_ ?_
  exact eg_var (i := 5) sc_first_wrong.nd
  exact egs_nil
  refine ess_one ?_
  refine es_if ?_ ?_ ?_
  refine eb_not ?_
  refine eb_val ?_
  refine ed_cal c_can_come (hr.mono (by decide)) (takes_of rfl rfl rfl rfl) ?_
  refine ea_cons ?_ ?_
  exact ed_var 3
  refine ea_cons ?_ ?_
  exact ed_var 5
  exact ea_nil
  refine ess_one ?_
  refine es_ret ?_
  exact ed_var 4
  exact ess_nil
  refine ess_one ?_
  refine es_ret ?_
  exact ed_non
abbrev s_Right_shows : Stmt := inClass (topS 45) 0
abbrev n_Right_shows : List Str := ["self", "length", "watchers", "tale"]
theorem sc_Right_shows : FnScope n_Right_shows ["self", "length", "watchers", "tale"] (defScope s_Right_shows) := ⟨rfl, rfl, rfl, by decide +kernel, rfl, by decide +kernel, by decide +kernel⟩
theorem ok_Right_shows {a : Addr} {fd : FuncData} (F : Fun K "shows" "Right.shows" s_Right_shows a fd) (b : Binds K fd ["self", "length", "watchers", "tale"] []) (c_first_wrong : Cal P w K mg base G "first_wrong" 5 3 d_first_wrong) :
  FD P w K mg base G 6 a 4 d_Right_shows := by
  apply FD.pure
  refine fd_of (nN := 4) (B := B_Right_shows) F sc_Right_shows rfl rfl b ?_
  intro cdv A outer s H E hr
  refine ess_one ?_
  refine es_ret ?_
  refine ed_cmp opc_isN op_isN ?_ ?_ (nomark _)
  refine ed_cal c_first_wrong (hr.mono (by decide)) (takes_of rfl rfl rfl rfl) ?_
  refine ea_cons ?_ ?_
  exact ed_var 1
  refine ea_cons ?_ ?_
  exact ed_var 2
  refine ea_cons ?_ ?_
  exact ed_var 3
  exact ea_nil
  exact ed_non
abbrev s_Wrong_init : Stmt := inClass (topS 46) 0
abbrev n_Wrong_init : List Str := ["self", "line"]
theorem sc_Wrong_init : FnScope n_Wrong_init ["self", "line"] (defScope s_Wrong_init) := ⟨rfl, rfl, rfl, by decide +kernel, rfl, by decide +kernel, by decide +kernel⟩
theorem ok_Wrong_init {a : Addr} {fd : FuncData} (F : Fun K "__init__" "Wrong.__init__" s_Wrong_init a fd) (b : Binds K fd ["self", "line"] []) (f_line : FldOk K G "line") :
  FD P w K mg base G 1 a 2 d_Wrong_init := by
  refine fd_of (nN := 2) (B := B_Wrong_init) F sc_Wrong_init rfl rfl b ?_
  intro cdv A outer s H E hr
  refine ess_one ?_
  refine es_fld f_line ?_ ?_
  exact ed_var 0
  exact ed_var 1
abbrev s_Wrong_shows : Stmt := inClass (topS 46) 1
abbrev n_Wrong_shows : List Str := ["self", "length", "watchers", "tale", "place"]
theorem sc_Wrong_shows : FnScope n_Wrong_shows ["self", "length", "watchers", "tale"] (defScope s_Wrong_shows) := ⟨rfl, rfl, rfl, by decide +kernel, rfl, by decide +kernel, by decide +kernel⟩
theorem ok_Wrong_shows {a : Addr} {fd : FuncData} (F : Fun K "shows" "Wrong.shows" s_Wrong_shows a fd) (b : Binds K fd ["self", "length", "watchers", "tale"] []) (c_first_wrong : Cal P w K mg base G "first_wrong" 5 3 d_first_wrong) (f_line : FldOk K G "line") :
  FD P w K mg base G 6 a 4 d_Wrong_shows := by
  apply FD.pure
  refine fd_of (nN := 5) (B := B_Wrong_shows) F sc_Wrong_shows rfl rfl b ?_
  intro cdv A outer s H E hr
  refine ess_cons ?_ ?_
  refine es_set (i := 4) sc_Wrong_shows.nd ?_
  refine ed_cal c_first_wrong (hr.mono (by decide)) (takes_of rfl rfl rfl rfl) ?_
  refine ea_cons ?_ ?_
  exact ed_var 1
  refine ea_cons ?_ ?_
  exact ed_var 2
  refine ea_cons ?_ ?_
  exact ed_var 3
  exact ea_nil
  refine ess_one ?_
  refine es_ret ?_
  refine ed_and ?_ ?_
  refine ed_cmp opc_notN op_notN ?_ ?_ (nomark _)
  exact ed_var 4
  exact ed_non
  refine ed_one ?_
  refine ed_cmp opc_eq (op_eqD (hu64 hr)) ?_ ?_ (nomark _)
  refine ed_fld f_line ?_
  exact ed_var 0
  exact ed_var 4
abbrev s_tale_judged : Stmt := topS 47
abbrev n_tale_judged : List Str := ["length", "watchers", "tale", "place", "line"]
theorem sc_tale_judged : FnScope n_tale_judged ["length", "watchers", "tale"] (defScope s_tale_judged) := ⟨rfl, rfl, rfl, by decide +kernel, rfl, by decide +kernel, by decide +kernel⟩
theorem ok_tale_judged {a : Addr} {fd : FuncData} (F : Fun K "tale_judged" "tale_judged" s_tale_judged a fd) (b : Binds K fd ["length", "watchers", "tale"] []) (b_all : mg "all" = none) (b_isinstance : mg "isinstance" = none) (b_len : mg "len" = none) (b_list : mg "list" = none) (c_first_wrong : Cal P w K mg base G "first_wrong" 5 3 d_first_wrong) (c_is_line : Cal P w K mg base G "is_line" 2 1 d_is_line) (e_BadTale : Err K mg G "BadTale" 19) (g_LONGEST : ∃ t, mg "LONGEST" = some (.int 60 t)) (m_Right : Mkr0 K mg G "Right" 3) (m_Room : Mkr P w K mg base G "Room" 5 3 3 d_Room_init) (m_Wrong : Mkr P w K mg base G "Wrong" 4 1 2 d_Wrong_init) :
  FD P w K mg base G 6 a 3 d_tale_judged := by
  apply FD.pure
  refine fd_of (nN := 5) (B := B_tale_judged) F sc_tale_judged rfl rfl b ?_
  intro cdv A outer s H E hr
  refine ess_cons ?_ ?_
  refine es_expr ?_
  refine ed_mkr m_Room (hr.mono (by decide)) (takes_of rfl rfl rfl rfl) ?_
  refine ea_cons ?_ ?_
  exact ed_var 0
  refine ea_cons ?_ ?_
  exact ed_var 1
  exact ea_nil
  refine ess_cons ?_ ?_
  refine es_if ?_ ?_ ?_
  refine eb_w ?_
  refine ew_or ?_ ?_
  refine eb_not ?_
  refine eb_val ?_
  refine ed_isB (t := .lst) b_isinstance (by decide) b_list (by decide +kernel) ?_
  exact ed_var 2
  refine ew_or ?_ ?_
  refine eb_cmp opc_gt op_gt ?_ ?_ (nomark _)
  refine ed_callB cac_len call_len_seq (by rfl) b_len (by decide +kernel) ?_
  refine ea_cons ?_ ?_
  exact ed_var 2
  exact ea_nil
  exact ed_gnum g_LONGEST
  refine ew_or1 ?_
  refine eb_not ?_
  refine eb_val ?_
  refine ed_callB cac_all (cr_all rfl) (by rfl) b_all (by decide +kernel) ?_
  refine ea_cons ?_ ?_
  refine ed_dat ?_
  refine el_lc (own := [("line" , 4)]) rfl sc_tale_judged.nd ?_ (blkOk_by (own := [("line" , 4)]) (N := n_tale_judged) (sc := defScope s_tale_judged) (by decide +kernel)) ?_ ?_ ?_
  refine ei_list ?_
  exact ed_var 2
  intro _ _ _ _ _
  exact egw_var (i := 4) sc_tale_judged.nd
  intro _ _ _ _ _
  exact ebs_nil
  intro _ _ _ _ _
  refine ed_cal c_is_line (hr.mono (by decide)) takes0 ?_
  refine ea_cons ?_ ?_
  exact ed_var 4
  exact ea_nil
  exact ea_nil
  refine ess_one ?_
  exact es_err e_BadTale (takes_of rfl rfl rfl rfl)
  exact ess_nil
  refine ess_cons ?_ ?_
  refine es_set (i := 3) sc_tale_judged.nd ?_
  refine ed_cal c_first_wrong (hr.mono (by decide)) (takes_of rfl rfl rfl rfl) ?_
  refine ea_cons ?_ ?_
  exact ed_var 0
  refine ea_cons ?_ ?_
  exact ed_var 1
  refine ea_cons ?_ ?_
  exact ed_var 2
  exact ea_nil
  refine ess_one ?_
  refine es_ret ?_
  refine ed_if ?_ ?_ ?_
  refine eb_cmp opc_isN op_isN ?_ ?_ (nomark _)
  exact ed_var 3
  exact ed_non
  exact ed_mkr0 m_Right
  refine ed_pure ?_
  refine ed_mkr m_Wrong (hr.mono (by decide)) (takes_of rfl rfl rfl rfl) ?_
  refine ea_cons ?_ ?_
  exact ed_var 3
  exact ea_nil
abbrev s_law_number : Stmt := topS 49
abbrev n_law_number : List Str := ["_law_cell", "_law_at", "_law_whole", "_law_blend", "_law_more"]
theorem sc_law_number : FnScope n_law_number ["_law_cell", "_law_at", "_law_whole"] (defScope s_law_number) := ⟨rfl, rfl, rfl, by decide +kernel, rfl, by decide +kernel, by decide +kernel⟩
theorem ok_law_number {a : Addr} {fd : FuncData} (F : Fun K "_law_number" "_law_number" s_law_number a fd) (b : Binds K fd ["_law_cell", "_law_at", "_law_whole"] [])  :
  FD P w K mg base G 1 a 3 d_law_number := by
  apply FD.pure
  refine fd_of (nN := 5) (B := B_law_number) F sc_law_number rfl rfl b ?_
  intro cdv A outer s H E hr
  refine ess_cons ?_ ?_
  refine es_if ?_ ?_ ?_
  refine eb_cmp opc_ge op_ge ?_ ?_ (nomark _)
  exact ed_var 0
  refine ed_op opc_pow op_pow ?_ ?_
  exact ed_int
  exact ed_int
  refine ess_one ?_
  refine es_ret ?_
  refine ed_op opc_div op_fdivW ?_ ?_
  exact ed_var 0
  refine ed_op opc_add op_add3 ?_ ?_
  exact ed_int
  refine ed_op opc_mod op_mod ?_ ?_
  exact ed_var 1
  exact ed_int
  exact ess_nil
  refine ess_cons ?_ ?_
  refine es_set (i := 3) sc_law_number.nd ?_
  refine ed_op opc_mod op_mod ?_ ?_
  refine ed_op opc_add op_add3 ?_ ?_
  refine ed_op opc_mul op_mul2 ?_ ?_
  refine ed_op opc_add op_add3 ?_ ?_
  exact ed_var 0
  refine ed_op opc_mul op_mul2 ?_ ?_
  exact ed_int
  exact ed_var 1
  exact ed_int
  exact ed_var 2
  exact ed_int
  refine ess_cons ?_ ?_
  refine es_set (i := 4) sc_law_number.nd ?_
  refine ed_op opc_mul op_mul2 ?_ ?_
  exact ed_var 3
  refine ed_op opc_add op_add3 ?_ ?_
  refine ed_op opc_add op_add3 ?_ ?_
  exact ed_var 0
  refine ed_op opc_mul op_mul2 ?_ ?_
  exact ed_int
  exact ed_var 1
  exact ed_int
  refine ess_one ?_
  refine es_ret ?_
  refine ed_op opc_div op_fdivW ?_ ?_
  refine ed_op opc_mul op_mul2 ?_ ?_
  refine ed_op opc_mul op_mul2 ?_ ?_
  exact ed_var 4
  refine ed_op opc_add op_add3 ?_ ?_
  refine ed_op opc_add op_add3 ?_ ?_
  exact ed_var 3
  exact ed_var 0
  exact ed_int
  refine ed_op opc_add op_add3 ?_ ?_
  refine ed_op opc_mul op_mul2 ?_ ?_
  exact ed_var 3
  exact ed_var 3
  exact ed_int
  refine ed_op opc_add op_add3 ?_ ?_
  exact ed_int
  exact ed_var 1
abbrev s_law_commands : Stmt := topS 50
abbrev n_law_commands : List Str := ["_law_script", "_law_by", "_law_most", "_law_length_here", "_law_moves", "_law_cells", "_law_whole", "_law_found", "_law_wide", "_law_at", "_law_cell", "_law_number_here", "_law_kind", "_law_hand", "_law_far", "_law_place", "_law_key"]
theorem sc_law_commands : FnScope n_law_commands ["_law_script", "_law_by", "_law_most", "_law_length_here", "_law_moves"] (defScope s_law_commands) := ⟨rfl, rfl, rfl, by decide +kernel, rfl, by decide +kernel, by decide +kernel⟩
theorem ok_law_commands {a : Addr} {fd : FuncData} (F : Fun K "_law_commands" "_law_commands" s_law_commands a fd) (b : Binds K fd ["_law_script", "_law_by", "_law_most", "_law_length_here", "_law_moves"] []) (b_abs : mg "abs" = none) (b_len : mg "len" = none) (b_range : mg "range" = none) (b_sum : mg "sum" = none) (c_law_number : Cal P w K mg base G "_law_number" 1 3 d_law_number) :
  FD P w K mg base G 2 a 5 d_law_commands := by
  refine fd_of (nN := 17) (B := B_law_commands) F sc_law_commands rfl rfl b ?_
  intro cdv A outer s H E hr
  refine ess_cons ?_ ?_
  refine es_set (i := 5) sc_law_commands.nd ?_
  refine ed_if ?_ ?_ ?_
  refine eb_cmp opc_ne (op_neD (hu64 hr)) ?_ ?_ (nomark _)
  exact ed_var 0
  refine ed_dat ?_
  refine el_lst ?_
  exact ea_nil
  refine ed_sl ?_ ?_ ?_
  exact ed_var 0
  exact eo_none
  refine eo_some ?_
  exact ed_int
  refine ed_dat ?_
  refine el_lst ?_
  refine ea_cons ?_ ?_
  exact ed_int
  exact ea_nil
  refine ess_cons ?_ ?_
  refine es_asg ?_ ?_
  refine ed_tup ?_
  refine ea_cons ?_ ?_
  refine ed_op opc_add op_add3 ?_ ?_
  refine ed_callB cac_abs call_abs (by rfl) b_abs (by decide +kernel) ?_
  refine ea_cons ?_ ?_
  refine ed_callB cac_sum (cr_sum rfl) (by rfl) b_sum (by decide +kernel) ?_
  refine ea_cons ?_ ?_
  exact ed_var 5
  exact ea_nil
  exact ea_nil
  refine ed_op opc_mul op_mul2 ?_ ?_
  exact ed_int
  exact ed_var 1
  refine ea_cons ?_ ?_
  exact ed_newT
  exact ea_nil
  refine eg_tup rfl ?_
  refine egs_cons (i := 6) ?_ ?_
  exact eg_var (i := 6) sc_law_commands.nd
  refine egs_cons (i := 7) ?_ ?_
  exact eg_var (i := 7) sc_law_commands.nd
  exact egs_nil
  refine ess_cons ?_ ?_
  refine es_set (i := 8) sc_law_commands.nd ?_
  refine ed_ix ?_ ?_
  refine ed_tup ?_
  refine ea_cons ?_ ?_
  exact ed_int
  refine ea_cons ?_ ?_
  exact ed_int
  refine ea_cons ?_ ?_
  refine ed_op opc_pow op_pow ?_ ?_
  exact ed_int
  exact ed_int
  refine ea_cons ?_ ?_
  refine ed_op opc_pow op_pow ?_ ?_
  exact ed_int
  exact ed_int
  exact ea_nil
  refine ed_op opc_mod op_mod ?_ ?_
  refine ed_op opc_div op_fdivW ?_ ?_
  exact ed_var 6
  exact ed_int
  exact ed_int
  refine ess_cons ?_ ?_
  refine es_for (passes_of rfl) rfl ?_ ?_ ?_
  refine ei_rng1 (by rfl) b_range ?_
  refine ea_cons ?_ ?_
  refine ed_op opc_mod op_mod ?_ ?_
  refine ed_op opc_div op_fdivW ?_ ?_
  exact ed_var 6
  exact ed_int
  refine ed_op opc_add op_add3 ?_ ?_
  exact ed_var 2
  exact ed_int
  exact ea_nil
  exact eg_var (i := 9) sc_law_commands.nd
  refine ess_cons ?_ ?_
  refine es_set (i := 10) sc_law_commands.nd ?_
  refine ed_op opc_add op_add3 ?_ ?_
  refine ed_ix ?_ ?_
  exact ed_var 5
  refine ed_op opc_mod op_mod ?_ ?_
  refine ed_op opc_add op_add3 ?_ ?_
  exact ed_var 9
  exact ed_var 1
  refine ed_callB cac_len call_len_seq (by rfl) b_len (by decide +kernel) ?_
  refine ea_cons ?_ ?_
  exact ed_var 5
  exact ea_nil
  refine ed_op opc_div op_fdivW ?_ ?_
  exact ed_var 9
  refine ed_callB cac_len call_len_seq (by rfl) b_len (by decide +kernel) ?_
  refine ea_cons ?_ ?_
  exact ed_var 5
  exact ea_nil
  refine ess_cons ?_ ?_
  refine es_set (i := 11) sc_law_commands.nd ?_
  refine ed_op opc_div op_fdivW ?_ ?_
  refine ed_callB cac_abs call_abs (by rfl) b_abs (by decide +kernel) ?_
  refine ea_cons ?_ ?_
  refine ed_cal c_law_number (hr.mono (by decide)) (takes_of rfl rfl rfl rfl) ?_
  refine ea_cons ?_ ?_
  exact ed_var 10
  refine ea_cons ?_ ?_
  refine ed_op opc_add op_add3 ?_ ?_
  exact ed_var 9
  exact ed_var 1
  refine ea_cons ?_ ?_
  exact ed_var 6
  exact ea_nil
  exact ea_nil
  exact ed_int
  refine ess_cons ?_ ?_
  refine es_set (i := 12) sc_law_commands.nd ?_
  refine ed_ix ?_ ?_
  refine ed_tup ?_
  refine ea_cons ?_ ?_
  exact ed_str
  refine ea_cons ?_ ?_
  exact ed_str
  refine ea_cons ?_ ?_
  exact ed_str
  refine ea_cons ?_ ?_
  exact ed_str
  exact ea_nil
  refine ed_op opc_mod op_mod ?_ ?_
  exact ed_var 11
  exact ed_int
  refine ess_cons ?_ ?_
  refine es_if ?_ ?_ ?_
  refine eb_w ?_
  refine ew_and ?_ ?_
  refine eb_cmp opc_eq (op_eqD (hu64 hr)) ?_ ?_ (nomark _)
  exact ed_var 12
  exact ed_str
  refine ew_and1 ?_
  refine eb_not ?_
  refine eb_val ?_
  exact ed_var 4
  refine ess_one ?_
  refine es_set (i := 12) sc_law_commands.nd ?_
  exact ed_str
  exact ess_nil
  refine ess_cons ?_ ?_
  refine es_par2 (i := 13) (j := 14) rfl sc_law_commands.nd ?_
  refine ea_cons ?_ ?_
  refine ed_op opc_mod op_mod ?_ ?_
  refine ed_op opc_div op_fdivW ?_ ?_
  exact ed_var 11
  exact ed_int
  exact ed_int
  refine ea_cons ?_ ?_
  refine ed_op opc_div op_fdivW ?_ ?_
  refine ed_op opc_div op_fdivW ?_ ?_
  exact ed_var 11
  exact ed_int
  exact ed_var 8
  exact ea_nil
  refine ess_cons ?_ ?_
  refine es_set (i := 15) sc_law_commands.nd ?_
  refine ed_if ?_ ?_ ?_
  refine eb_cmp opc_eq (op_eqD (hu64 hr)) ?_ ?_ (nomark _)
  exact ed_var 12
  exact ed_str
  refine ed_op opc_mod op_mod ?_ ?_
  exact ed_var 14
  refine ed_op opc_add op_add3 ?_ ?_
  exact ed_var 3
  exact ed_int
  exact ed_int
  refine ess_one ?_
  refine es_putT ?_ ?_ ?_ (hu65 hr)
  exact ed_var 7
  refine ed_tup ?_
  refine ea_cons ?_ ?_
  refine ed_op opc_mod op_mod ?_ ?_
  refine ed_op opc_div op_fdivW ?_ ?_
  exact ed_var 11
  exact ed_int
  exact ed_var 8
  refine ea_cons ?_ ?_
  exact ed_var 13
  exact ea_nil
  refine ed_tup ?_
  refine ea_cons ?_ ?_
  exact ed_var 12
  refine ea_cons ?_ ?_
  exact ed_var 15
  exact ea_nil
  refine ess_one ?_
  refine es_ret ?_
  refine ed_cel ?_
  refine el_lcT (own := [("_law_key" , 16)]) 7 rfl sc_law_commands.nd (pe_vi 7) (blkOk_by (own := [("_law_key" , 16)]) (N := n_law_commands) (sc := defScope s_law_commands) (by decide +kernel)) ?_ ?_ ?_
  intro _ _ _ _ _
  exact egw_var (i := 16) sc_law_commands.nd
  intro _ _ _ _ _
  exact ebs_nil
  intro _ _ _ _ _
  refine ed_op opc_add op_add3 ?_ ?_
  exact ed_var 16
  refine ed_getT ?_ ?_ (hu65 hr)
  exact ed_var 7
  exact ed_var 16
abbrev s_law_stand : Stmt := topS 51
abbrev n_law_stand : List Str := ["_law_length_here", "_law_commands_here", "_law_tick", "_law_place", "_law_going", "_law_here", "_law_when", "_law_hand", "_law_kind", "_law_spot"]
theorem sc_law_stand : FnScope n_law_stand ["_law_length_here", "_law_commands_here", "_law_tick"] (defScope s_law_stand) := ⟨rfl, rfl, rfl, by decide +kernel, rfl, by decide +kernel, by decide +kernel⟩
theorem ok_law_stand {a : Addr} {fd : FuncData} (F : Fun K "_law_stand" "_law_stand" s_law_stand a fd) (b : Binds K fd ["_law_length_here", "_law_commands_here", "_law_tick"] []) (b_min : mg "min" = none) (b_sorted : mg "sorted" = none) :
  FD P w K mg base G 1 a 3 d_law_stand := by
  apply FD.pure
  refine fd_of (nN := 10) (B := B_law_stand) F sc_law_stand rfl rfl b ?_
  intro cdv A outer s H E hr
  refine ess_cons ?_ ?_
  refine es_asg ?_ ?_
  refine ed_tup ?_
  refine ea_cons ?_ ?_
  exact ed_int
  refine ea_cons ?_ ?_
  exact ed_bl
  refine ea_cons ?_ ?_
  exact ed_int
  exact ea_nil
  refine eg_tup rfl ?_
  refine egs_cons (i := 3) ?_ ?_
  exact eg_var (i := 3) sc_law_stand.nd
  refine egs_cons (i := 4) ?_ ?_
  exact eg_var (i := 4) sc_law_stand.nd
  refine egs_cons (i := 5) ?_ ?_
  exact eg_var (i := 5) sc_law_stand.nd
  exact egs_nil
  refine ess_cons ?_ ?_
  refine es_for (passes_of rfl) rfl ?_ ?_ ?_
  refine ei_list ?_
  refine ed_dat ?_
  refine el_callB clc_sorted (cr_sortB (hu64 hr)) (by rfl) b_sorted (by decide +kernel) ?_
  refine ea_cons ?_ ?_
  exact ed_var 1
  exact ea_nil
  refine eg_tup rfl ?_
  refine egs_cons (i := 6) ?_ ?_
  exact eg_var (i := 6) sc_law_stand.nd
  refine egs_cons (i := 7) ?_ ?_
  exact eg_var (i := 7) sc_law_stand.nd
  refine egs_cons (i := 8) ?_ ?_
  exact eg_var (i := 8) sc_law_stand.nd
  refine egs_cons (i := 9) ?_ ?_
  exact eg_var (i := 9) sc_law_stand.nd
  exact egs_nil
  refine ess_cons ?_ ?_
  refine es_if ?_ ?_ ?_
  refine eb_cmp opc_gt op_gt ?_ ?_ (nomark _)
  exact ed_var 6
  exact ed_var 2
  refine ess_one ?_
  refine es_ret ?_
  refine ed_tup ?_
  refine ea_cons ?_ ?_
  refine ed_if ?_ ?_ ?_
  refine eb_val ?_
  exact ed_var 4
  refine ed_callB cac_min2 (call_min2 rfl) (by rfl) b_min (by decide +kernel) ?_
  refine ea_cons ?_ ?_
  exact ed_var 0
  refine ea_cons ?_ ?_
  refine ed_op opc_sub op_sub ?_ ?_
  refine ed_op opc_add op_add3 ?_ ?_
  exact ed_var 3
  exact ed_var 2
  exact ed_var 5
  exact ea_nil
  exact ed_var 3
  refine ea_cons ?_ ?_
  exact ed_var 4
  exact ea_nil
  exact ess_nil
  refine ess_cons ?_ ?_
  refine es_if ?_ ?_ ?_
  refine eb_val ?_
  exact ed_var 4
  refine ess_one ?_
  refine es_set (i := 3) sc_law_stand.nd ?_
  refine ed_callB cac_min2 (call_min2 rfl) (by rfl) b_min (by decide +kernel) ?_
  refine ea_cons ?_ ?_
  exact ed_var 0
  refine ea_cons ?_ ?_
  refine ed_op opc_sub op_sub ?_ ?_
  refine ed_op opc_add op_add3 ?_ ?_
  exact ed_var 3
  exact ed_var 6
  exact ed_var 5
  exact ea_nil
  exact ess_nil
  refine ess_cons ?_ ?_
  refine es_set (i := 5) sc_law_stand.nd ?_
  exact ed_var 6
  refine ess_one ?_
  refine es_if ?_ ?_ ?_
  refine eb_cmp opc_eq (op_eqD (hu64 hr)) ?_ ?_ (nomark _)
  exact ed_var 8
  exact ed_str
  refine ess_one ?_
  refine es_set (i := 3) sc_law_stand.nd ?_
  exact ed_var 9
  refine ess_one ?_
  refine es_if ?_ ?_ ?_
  refine eb_cmp opc_eq (op_eqD (hu64 hr)) ?_ ?_ (nomark _)
  exact ed_var 8
  exact ed_str
  refine ess_one ?_
  refine es_set (i := 4) sc_law_stand.nd ?_
  exact ed_bl
  refine ess_one ?_
  refine es_set (i := 4) sc_law_stand.nd ?_
  exact ed_bl
  refine ess_one ?_
  refine es_ret ?_
  refine ed_tup ?_
  refine ea_cons ?_ ?_
  refine ed_if ?_ ?_ ?_
  refine eb_val ?_
  exact ed_var 4
  refine ed_callB cac_min2 (call_min2 rfl) (by rfl) b_min (by decide +kernel) ?_
  refine ea_cons ?_ ?_
  exact ed_var 0
  refine ea_cons ?_ ?_
  refine ed_op opc_sub op_sub ?_ ?_
  refine ed_op opc_add op_add3 ?_ ?_
  exact ed_var 3
  exact ed_var 2
  exact ed_var 5
  exact ea_nil
  exact ed_var 3
  refine ea_cons ?_ ?_
  exact ed_var 4
  exact ea_nil
abbrev s_law_length : Stmt := topS 52
abbrev n_law_length : List Str := ["_law_whole", "_law_far"]
theorem sc_law_length : FnScope n_law_length ["_law_whole"] (defScope s_law_length) := ⟨rfl, rfl, rfl, by decide +kernel, rfl, by decide +kernel, by decide +kernel⟩
theorem ok_law_length {a : Addr} {fd : FuncData} (F : Fun K "_law_length" "_law_length" s_law_length a fd) (b : Binds K fd ["_law_whole"] [])  :
  FD P w K mg base G 1 a 1 d_law_length := by
  apply FD.pure
  refine fd_of (nN := 2) (B := B_law_length) F sc_law_length rfl rfl b ?_
  intro cdv A outer s H E hr
  refine ess_cons ?_ ?_
  refine es_set (i := 1) sc_law_length.nd ?_
  refine ed_op opc_div op_fdivW ?_ ?_
  exact ed_var 0
  exact ed_int
  refine ess_one ?_
  refine es_ret ?_
  refine ed_ix ?_ ?_
  refine ed_tup ?_
  refine ea_cons ?_ ?_
  refine ed_op opc_add op_add3 ?_ ?_
  exact ed_int
  refine ed_op opc_mod op_mod ?_ ?_
  exact ed_var 1
  exact ed_int
  refine ea_cons ?_ ?_
  refine ed_op opc_pow op_pow ?_ ?_
  exact ed_int
  exact ed_int
  refine ea_cons ?_ ?_
  refine ed_op opc_add op_add3 ?_ ?_
  exact ed_int
  refine ed_op opc_mod op_mod ?_ ?_
  exact ed_var 1
  exact ed_int
  refine ea_cons ?_ ?_
  exact ed_int
  exact ea_nil
  refine ed_op opc_mod op_mod ?_ ?_
  exact ed_var 0
  exact ed_int
abbrev s_law_due : Stmt := topS 53
abbrev n_law_due : List Str := ["_law_length_here", "_law_one", "_law_other", "_law_tick", "_law_command"]
theorem sc_law_due : FnScope n_law_due ["_law_length_here", "_law_one", "_law_other", "_law_tick", "_law_command"] (defScope s_law_due) := ⟨rfl, rfl, rfl, by decide +kernel, rfl, by decide +kernel, by decide +kernel⟩
theorem ok_law_due {a : Addr} {fd : FuncData} (F : Fun K "_law_due" "_law_due" s_law_due a fd) (b : Binds K fd ["_law_length_here", "_law_one", "_law_other", "_law_tick", "_law_command"] []) (c_law_stand : Cal P w K mg base G "_law_stand" 1 3 d_law_stand) :
  FD P w K mg base G 2 a 5 d_law_due := by
  apply FD.pure
  refine fd_of (nN := 5) (B := B_law_due) F sc_law_due rfl rfl b ?_
  intro cdv A outer s H E hr
  refine ess_cons ?_ ?_
  refine es_if ?_ ?_ ?_
  refine eb_cmp opc_eq (op_eqD (hu64 hr)) ?_ ?_ (nomark _)
  refine ed_ix ?_ ?_
  refine ed_cal c_law_stand (hr.mono (by decide)) (takes_of rfl rfl rfl rfl) ?_
  refine ea_cons ?_ ?_
  exact ed_var 0
  refine ea_cons ?_ ?_
  exact ed_var 1
  refine ea_cons ?_ ?_
  exact ed_var 3
  exact ea_nil
  exact ed_int
  refine ed_ix ?_ ?_
  refine ed_cal c_law_stand (hr.mono (by decide)) (takes_of rfl rfl rfl rfl) ?_
  refine ea_cons ?_ ?_
  exact ed_var 0
  refine ea_cons ?_ ?_
  exact ed_var 2
  refine ea_cons ?_ ?_
  exact ed_var 3
  exact ea_nil
  exact ed_int
  refine ess_one ?_
  refine es_ret ?_
  exact ed_bl
  exact ess_nil
  refine ess_one ?_
  refine es_ret ?_
  refine ed_and ?_ ?_
  refine ed_cmp opc_ne (op_neD (hu64 hr)) ?_ ?_ (nomark _)
  refine ed_cmp opc_in (op_in2 (hu65 hr)) ?_ ?_ (by with_unfolding_all rfl)
  exact ed_var 4
  exact ed_var 1
  refine ed_cmp opc_in (op_in2 (hu65 hr)) ?_ ?_ (by with_unfolding_all rfl)
  exact ed_var 4
  exact ed_var 2
  refine ed_one ?_
  refine ed_cmp opc_le op_le ?_ ?_ (nomark _)
  refine ed_ix ?_ ?_
  exact ed_var 4
  exact ed_int
  exact ed_var 3
abbrev s_law_places : Stmt := topS 54
abbrev n_law_places : List Str := ["_law_script", "_law_by", "_law_most", "_law_cells", "_law_whole", "_law_found", "_law_wide", "_law_at"]
theorem sc_law_places : FnScope n_law_places ["_law_script", "_law_by", "_law_most"] (defScope s_law_places) := ⟨rfl, rfl, rfl, by decide +kernel, rfl, by decide +kernel, by decide +kernel⟩
theorem ok_law_places {a : Addr} {fd : FuncData} (F : Fun K "_law_places" "_law_places" s_law_places a fd) (b : Binds K fd ["_law_script", "_law_by", "_law_most"] []) (b_abs : mg "abs" = none) (b_len : mg "len" = none) (b_range : mg "range" = none) (b_sum : mg "sum" = none) (c_law_number : Cal P w K mg base G "_law_number" 1 3 d_law_number) :
  FD P w K mg base G 2 a 3 d_law_places := by
  refine fd_of (nN := 8) (B := B_law_places) F sc_law_places rfl rfl b ?_
  intro cdv A outer s H E hr
  refine ess_cons ?_ ?_
  refine es_set (i := 3) sc_law_places.nd ?_
  refine ed_if ?_ ?_ ?_
  refine eb_cmp opc_ne (op_neD (hu64 hr)) ?_ ?_ (nomark _)
  exact ed_var 0
  refine ed_dat ?_
  refine el_lst ?_
  exact ea_nil
  refine ed_sl ?_ ?_ ?_
  exact ed_var 0
  exact eo_none
  refine eo_some ?_
  exact ed_int
  refine ed_dat ?_
  refine el_lst ?_
  refine ea_cons ?_ ?_
  exact ed_int
  exact ea_nil
  refine ess_cons ?_ ?_
  refine es_par2 (i := 4) (j := 5) rfl sc_law_places.nd ?_
  refine ea_cons ?_ ?_
  refine ed_op opc_add op_add3 ?_ ?_
  refine ed_callB cac_abs call_abs (by rfl) b_abs (by decide +kernel) ?_
  refine ea_cons ?_ ?_
  refine ed_callB cac_sum (cr_sum rfl) (by rfl) b_sum (by decide +kernel) ?_
  refine ea_cons ?_ ?_
  exact ed_var 3
  exact ea_nil
  exact ea_nil
  refine ed_op opc_mul op_mul2 ?_ ?_
  exact ed_int
  exact ed_var 1
  refine ea_cons ?_ ?_
  refine ed_cel ?_
  refine el_lst ?_
  exact ea_nil
  exact ea_nil
  refine ess_cons ?_ ?_
  refine es_set (i := 6) sc_law_places.nd ?_
  refine ed_ix ?_ ?_
  refine ed_tup ?_
  refine ea_cons ?_ ?_
  exact ed_int
  refine ea_cons ?_ ?_
  exact ed_int
  refine ea_cons ?_ ?_
  refine ed_op opc_add op_add3 ?_ ?_
  refine ed_op opc_pow op_pow ?_ ?_
  exact ed_int
  exact ed_int
  exact ed_int
  refine ea_cons ?_ ?_
  exact ed_int
  exact ea_nil
  refine ed_op opc_mod op_mod ?_ ?_
  exact ed_var 4
  exact ed_int
  refine ess_cons ?_ ?_
  refine es_for (passes_of rfl) rfl ?_ ?_ ?_
  refine ei_rng1 (by rfl) b_range ?_
  refine ea_cons ?_ ?_
  refine ed_op opc_add op_add3 ?_ ?_
  exact ed_int
  refine ed_op opc_mod op_mod ?_ ?_
  refine ed_op opc_div op_fdivW ?_ ?_
  exact ed_var 4
  exact ed_int
  exact ed_var 2
  exact ea_nil
  exact eg_var (i := 7) sc_law_places.nd
  refine ess_one ?_
  refine es_expr ?_
  refine ed_lm lmc_append PySem.F.slot_list_append PySem.F.type_list_append mt_append ?_ ?_
  exact ed_var 5
  refine ea_cons ?_ ?_
  refine ed_op opc_mod op_mod ?_ ?_
  refine ed_op opc_div op_fdivW ?_ ?_
  refine ed_callB cac_abs call_abs (by rfl) b_abs (by decide +kernel) ?_
  refine ea_cons ?_ ?_
  refine ed_cal c_law_number (hr.mono (by decide)) (takes_of rfl rfl rfl rfl) ?_
  refine ea_cons ?_ ?_
  refine ed_ix ?_ ?_
  exact ed_var 3
  refine ed_op opc_mod op_mod ?_ ?_
  refine ed_op opc_add op_add3 ?_ ?_
  exact ed_var 7
  exact ed_var 1
  refine ed_callB cac_len call_len_seq (by rfl) b_len (by decide +kernel) ?_
  refine ea_cons ?_ ?_
  exact ed_var 3
  exact ea_nil
  refine ea_cons ?_ ?_
  refine ed_op opc_add op_add3 ?_ ?_
  exact ed_var 7
  exact ed_var 1
  refine ea_cons ?_ ?_
  exact ed_var 4
  exact ea_nil
  exact ea_nil
  exact ed_int
  exact ed_var 6
  exact ea_nil
  refine ess_one ?_
  refine es_ret ?_
  exact ed_var 5
abbrev s_law_meets : Stmt := topS 55
abbrev n_law_meets : List Str := ["_law_places_here", "_law_place", "_law_pairs", "_law_met", "_law_pair", "_law_far", "_law_one", "_law_other"]
theorem sc_law_meets : FnScope n_law_meets ["_law_places_here", "_law_place", "_law_pairs"] (defScope s_law_meets) := ⟨rfl, rfl, rfl, by decide +kernel, rfl, by decide +kernel, by decide +kernel⟩
theorem ok_law_meets {a : Addr} {fd : FuncData} (F : Fun K "_law_meets" "_law_meets" s_law_meets a fd) (b : Binds K fd ["_law_places_here", "_law_place", "_law_pairs"] []) (b_abs : mg "abs" = none) (b_any : mg "any" = none) (b_len : mg "len" = none) (b_set : mg "set" = none) (b_sum : mg "sum" = none) :
  FD P w K mg base G 1 a 3 d_law_meets := by
  apply FD.pure
  refine fd_of (nN := 8) (B := B_law_meets) F sc_law_meets rfl rfl b ?_
  intro cdv A outer s H E hr
  refine ess_cons ?_ ?_
  refine es_set (i := 3) sc_law_meets.nd ?_
  refine ed_dat ?_
  refine el_lst ?_
  exact ea_nil
  refine ess_cons ?_ ?_
  refine es_for (passes_of rfl) rfl ?_ ?_ ?_
  refine ei_list ?_
  exact ed_var 2
  exact eg_var (i := 4) sc_law_meets.nd
  refine ess_one ?_
  refine es_set (i := 3) sc_law_meets.nd ?_
  refine ed_op opc_add op_add3 ?_ ?_
  exact ed_var 3
  refine ed_dat ?_
  refine el_lst ?_
  refine ea_cons ?_ ?_
  refine ed_ix ?_ ?_
  exact ed_var 4
  exact ed_int
  refine ea_cons ?_ ?_
  refine ed_ix ?_ ?_
  exact ed_var 4
  exact ed_int
  exact ea_nil
  refine ess_cons ?_ ?_
  refine es_if ?_ ?_ ?_
  refine eb_w ?_
  refine ew_or ?_ ?_
  refine eb_cmp opc_ne (op_neD (hu64 hr)) ?_ ?_ (nomark _)
  refine ed_callB cac_len call_len_seq (by rfl) b_len (by decide +kernel) ?_
  refine ea_cons ?_ ?_
  exact ed_var 3
  exact ea_nil
  refine ed_lenSet b_len b_set ?_
  exact ed_var 3
  refine ew_or1 ?_
  refine eb_val ?_
  refine ed_callB cac_any (cr_any rfl) (by rfl) b_any (by decide +kernel) ?_
  refine ea_cons ?_ ?_
  refine ed_dat ?_
  refine el_lc (own := [("_law_one" , 6)]) rfl sc_law_meets.nd ?_ (blkOk_by (own := [("_law_one" , 6)]) (N := n_law_meets) (sc := defScope s_law_meets) (by decide +kernel)) ?_ ?_ ?_
  refine ei_list ?_
  exact ed_var 3
  intro _ _ _ _ _
  exact egw_var (i := 6) sc_law_meets.nd
  intro _ _ _ _ _
  exact ebs_nil
  intro _ _ _ _ _
  refine ed_not ?_
  refine ed_chain opc_le opc_lt op_le op_lt ?_ ?_ ?_
  exact ed_int
  exact ed_var 6
  refine ed_callB cac_len call_len_seq (by rfl) b_len (by decide +kernel) ?_
  refine ea_cons ?_ ?_
  exact ed_var 0
  exact ea_nil
  exact ea_nil
  refine ess_one ?_
  refine es_ret ?_
  exact ed_bl
  exact ess_nil
  refine ess_cons ?_ ?_
  refine es_set (i := 5) sc_law_meets.nd ?_
  refine ed_callB cac_sum (cr_sum rfl) (by rfl) b_sum (by decide +kernel) ?_
  refine ea_cons ?_ ?_
  refine ed_dat ?_
  refine el_lc (own := [("_law_one" , 6)]) rfl sc_law_meets.nd ?_ (blkOk_by (own := [("_law_one" , 6)]) (N := n_law_meets) (sc := defScope s_law_meets) (by decide +kernel)) ?_ ?_ ?_
  refine ei_list ?_
  exact ed_var 0
  intro _ _ _ _ _
  exact egw_var (i := 6) sc_law_meets.nd
  intro _ _ _ _ _
  exact ebs_nil
  intro _ _ _ _ _
  refine ed_callB cac_abs call_abs (by rfl) b_abs (by decide +kernel) ?_
  refine ea_cons ?_ ?_
  refine ed_op opc_sub op_sub ?_ ?_
  exact ed_var 6
  exact ed_var 1
  exact ea_nil
  exact ea_nil
  refine ess_one ?_
  refine es_ret ?_
  refine ed_cmp opc_eq (op_eqD (hu64 hr)) ?_ ?_ (nomark _)
  exact ed_var 5
  refine ed_callB cac_sum (cr_sum rfl) (by rfl) b_sum (by decide +kernel) ?_
  refine ea_cons ?_ ?_
  refine ed_dat ?_
  refine el_lc (own := [("_law_one" , 6) , ("_law_other" , 7)]) rfl sc_law_meets.nd ?_ (blkOk_by (own := [("_law_one" , 6) , ("_law_other" , 7)]) (N := n_law_meets) (sc := defScope s_law_meets) (by decide +kernel)) ?_ ?_ ?_
  refine ei_list ?_
  exact ed_var 2
  intro _ _ _ _ _
  refine egw_tup rfl ?_
  refine egws_cons (i := 6) ?_ ?_
  exact egw_var (i := 6) sc_law_meets.nd
  refine egws_cons (i := 7) ?_ ?_
  exact egw_var (i := 7) sc_law_meets.nd
  exact egws_nil
  intro _ _ _ _ _
  exact ebs_nil
  intro _ _ _ _ _
  refine ed_callB cac_abs call_abs (by rfl) b_abs (by decide +kernel) ?_
  refine ea_cons ?_ ?_
  refine ed_op opc_sub op_sub ?_ ?_
  refine ed_ix ?_ ?_
  exact ed_var 0
  exact ed_var 6
  refine ed_ix ?_ ?_
  exact ed_var 0
  exact ed_var 7
  exact ea_nil
  exact ea_nil
abbrev s_law_first : Stmt := topS 56
abbrev n_law_first : List Str := ["_law_one", "_law_other", "_law_tick", "_law_ticks", "_law_mine", "_law_theirs"]
theorem sc_law_first : FnScope n_law_first ["_law_one", "_law_other", "_law_tick"] (defScope s_law_first) := ⟨rfl, rfl, rfl, by decide +kernel, rfl, by decide +kernel, by decide +kernel⟩
theorem ok_law_first {a : Addr} {fd : FuncData} (F : Fun K "_law_first" "_law_first" s_law_first a fd) (b : Binds K fd ["_law_one", "_law_other", "_law_tick"] []) (b_min : mg "min" = none) :
  FD P w K mg base G 1 a 3 d_law_first := by
  apply FD.pure
  refine fd_of (nN := 6) (B := B_law_first) F sc_law_first rfl rfl b ?_
  intro cdv A outer s H E hr
  refine ess_cons ?_ ?_
  refine es_setLd (i := 3) (own := [("_law_mine" , 4)]) rfl sc_law_first.nd rfl (sw_true rfl rfl rfl (by decide +kernel)) ?_ (blkOk_by (own := [("_law_mine" , 4)]) (N := n_law_first) (sc := defScope s_law_first) (by decide +kernel)) ?_ ?_ ?_
  refine ei_list ?_
  exact ed_var 0
  intro _ _ _ _ _
  exact egw_var (i := 4) sc_law_first.nd
  intro _ _ _ _ _
  refine ebs_one ?_
  refine eb_w ?_
  refine ew_and ?_ ?_
  refine eb_cmp opc_notIn (op_notIn2 (hu65 hr)) ?_ ?_ (by with_unfolding_all rfl)
  exact ed_var 4
  exact ed_var 1
  refine ew_and1 ?_
  refine eb_cmp opc_le op_le ?_ ?_ (nomark _)
  refine ed_ix ?_ ?_
  exact ed_var 4
  exact ed_int
  exact ed_var 2
  intro _ _ _ _ _
  refine ed_ix ?_ ?_
  exact ed_var 4
  exact ed_int
  refine ess_cons ?_ ?_
  refine es_set (i := 3) sc_law_first.nd ?_
  refine ed_op opc_add op_add3 ?_ ?_
  exact ed_var 3
  refine ed_dat ?_
  refine el_lc (own := [("_law_theirs" , 5)]) rfl sc_law_first.nd ?_ (blkOk_by (own := [("_law_theirs" , 5)]) (N := n_law_first) (sc := defScope s_law_first) (by decide +kernel)) ?_ ?_ ?_
  refine ei_list ?_
  exact ed_var 1
  intro _ _ _ _ _
  exact egw_var (i := 5) sc_law_first.nd
  intro _ _ _ _ _
  refine ebs_one ?_
  refine eb_w ?_
  refine ew_and ?_ ?_
  refine eb_cmp opc_notIn (op_notIn2 (hu65 hr)) ?_ ?_ (by with_unfolding_all rfl)
  exact ed_var 5
  exact ed_var 0
  refine ew_and1 ?_
  refine eb_cmp opc_le op_le ?_ ?_ (nomark _)
  refine ed_ix ?_ ?_
  exact ed_var 5
  exact ed_int
  exact ed_var 2
  intro _ _ _ _ _
  refine ed_ix ?_ ?_
  exact ed_var 5
  exact ed_int
  refine ess_one ?_
  refine es_ret ?_
  refine ed_if ?_ ?_ ?_
  refine eb_cmp opc_ne (op_neD (hu64 hr)) ?_ ?_ (nomark _)
  exact ed_var 3
  refine ed_dat ?_
  refine el_lst ?_
  exact ea_nil
  refine ed_callB cac_min1 (cr_min rfl) (by rfl) b_min (by decide +kernel) ?_
  refine ea_cons ?_ ?_
  exact ed_var 3
  exact ea_nil
  refine ed_un unc_neg un_neg ?_
  exact ed_int
abbrev s_law_pair_due : Stmt := topS 57
abbrev n_law_pair_due : List Str := ["_law_length_here", "_law_one", "_law_other", "_law_tick", "_law_answer", "_law_same"]
theorem sc_law_pair_due : FnScope n_law_pair_due ["_law_length_here", "_law_one", "_law_other", "_law_tick", "_law_answer"] (defScope s_law_pair_due) := ⟨rfl, rfl, rfl, by decide +kernel, rfl, by decide +kernel, by decide +kernel⟩
theorem ok_law_pair_due {a : Addr} {fd : FuncData} (F : Fun K "_law_pair_due" "_law_pair_due" s_law_pair_due a fd) (b : Binds K fd ["_law_length_here", "_law_one", "_law_other", "_law_tick", "_law_answer"] []) (b_isinstance : mg "isinstance" = none) (c_law_due : Cal P w K mg base G "_law_due" 2 5 d_law_due) (c_law_stand : Cal P w K mg base G "_law_stand" 1 3 d_law_stand) (f_command : FldOk K G "command") (is_Apart : Isi K mg G [0, 1, 2, 5, 3, 4] "Apart" 1) (is_Together : Isi K mg G [0, 1, 2, 5, 3, 4] "Together" 0) :
  FD P w K mg base G 3 a 5 d_law_pair_due := by
  apply FD.pure
  refine fd_of (nN := 6) (B := B_law_pair_due) F sc_law_pair_due rfl rfl b ?_
  intro cdv A outer s H E hr
  refine ess_cons ?_ ?_
  refine es_if ?_ ?_ ?_
  refine eb_val ?_
  refine ed_isi is_Apart b_isinstance ?_
  exact ed_var 4
  refine ess_one ?_
  refine es_ret ?_
  refine ed_cal c_law_due (hr.mono (by decide)) (takes_of rfl rfl rfl rfl) ?_
  refine ea_cons ?_ ?_
  exact ed_var 0
  refine ea_cons ?_ ?_
  exact ed_var 1
  refine ea_cons ?_ ?_
  exact ed_var 2
  refine ea_cons ?_ ?_
  exact ed_var 3
  refine ea_cons ?_ ?_
  refine ed_fld f_command ?_
  exact ed_var 4
  exact ea_nil
  exact ess_nil
  refine ess_cons ?_ ?_
  refine es_set (i := 5) sc_law_pair_due.nd ?_
  refine ed_cmp opc_eq (op_eqD (hu64 hr)) ?_ ?_ (nomark _)
  refine ed_ix ?_ ?_
  refine ed_cal c_law_stand (hr.mono (by decide)) (takes_of rfl rfl rfl rfl) ?_
  refine ea_cons ?_ ?_
  exact ed_var 0
  refine ea_cons ?_ ?_
  exact ed_var 1
  refine ea_cons ?_ ?_
  exact ed_var 3
  exact ea_nil
  exact ed_int
  refine ed_ix ?_ ?_
  refine ed_cal c_law_stand (hr.mono (by decide)) (takes_of rfl rfl rfl rfl) ?_
  refine ea_cons ?_ ?_
  exact ed_var 0
  refine ea_cons ?_ ?_
  exact ed_var 2
  refine ea_cons ?_ ?_
  exact ed_var 3
  exact ea_nil
  exact ed_int
  refine ess_one ?_
  refine es_ret ?_
  refine ed_and ?_ ?_
  refine ed_isi is_Together b_isinstance ?_
  exact ed_var 4
  refine ed_one ?_
  exact ed_var 5
abbrev s_law_right : Stmt := topS 58
abbrev n_law_right : List Str := ["_law_length_here", "_law_one", "_law_other", "_law_tick", "_law_first_here"]
theorem sc_law_right : FnScope n_law_right ["_law_length_here", "_law_one", "_law_other", "_law_tick"] (defScope s_law_right) := ⟨rfl, rfl, rfl, by decide +kernel, rfl, by decide +kernel, by decide +kernel⟩
theorem ok_law_right {a : Addr} {fd : FuncData} (F : Fun K "_law_right" "_law_right" s_law_right a fd) (b : Binds K fd ["_law_length_here", "_law_one", "_law_other", "_law_tick"] []) (c_at_most : Cal P w K mg base G "at_most" 5 4 d_at_most) (c_judged : Cal P w K mg base G "judged" 5 4 d_judged) (c_law_first : Cal P w K mg base G "_law_first" 1 3 d_law_first) (c_law_pair_due : Cal P w K mg base G "_law_pair_due" 3 5 d_law_pair_due) (c_law_stand : Cal P w K mg base G "_law_stand" 1 3 d_law_stand) (c_stand : Cal P w K mg base G "stand" 4 3 d_stand) :
  FD P w K mg base G 6 a 4 d_law_right := by
  apply FD.pure
  refine fd_of (nN := 5) (B := B_law_right) F sc_law_right rfl rfl b ?_
  intro cdv A outer s H E hr
  refine ess_cons ?_ ?_
  refine es_if ?_ ?_ ?_
  refine eb_cmp opc_ne (op_neD (hu64 hr)) ?_ ?_ (nomark _)
  refine ed_cal c_stand (hr.mono (by decide)) (takes_of rfl rfl rfl rfl) ?_
  refine ea_cons ?_ ?_
  exact ed_var 0
  refine ea_cons ?_ ?_
  exact ed_var 1
  refine ea_cons ?_ ?_
  exact ed_var 3
  exact ea_nil
  refine ed_cal c_law_stand (hr.mono (by decide)) (takes_of rfl rfl rfl rfl) ?_
  refine ea_cons ?_ ?_
  exact ed_var 0
  refine ea_cons ?_ ?_
  exact ed_var 1
  refine ea_cons ?_ ?_
  exact ed_var 3
  exact ea_nil
  refine ess_one ?_
  refine es_ret ?_
  exact ed_bl
  exact ess_nil
  refine ess_cons ?_ ?_
  refine es_set (i := 4) sc_law_right.nd ?_
  refine ed_cal c_law_first (hr.mono (by decide)) (takes_of rfl rfl rfl rfl) ?_
  refine ea_cons ?_ ?_
  exact ed_var 1
  refine ea_cons ?_ ?_
  exact ed_var 2
  refine ea_cons ?_ ?_
  exact ed_var 3
  exact ea_nil
  refine ess_cons ?_ ?_
  refine es_if ?_ ?_ ?_
  refine eb_cmp opc_ne (op_neD (hu64 hr)) ?_ ?_ (nomark _)
  refine ed_cal c_at_most (hr.mono (by decide)) (takes_of rfl rfl rfl rfl) ?_
  refine ea_cons ?_ ?_
  exact ed_var 0
  refine ea_cons ?_ ?_
  exact ed_var 1
  refine ea_cons ?_ ?_
  exact ed_var 2
  refine ea_cons ?_ ?_
  exact ed_var 3
  exact ea_nil
  refine ed_if ?_ ?_ ?_
  refine eb_cmp opc_lt op_lt ?_ ?_ (nomark _)
  exact ed_var 4
  exact ed_int
  exact ed_int
  refine ed_op opc_sub op_sub ?_ ?_
  exact ed_var 3
  exact ed_var 4
  refine ess_one ?_
  refine es_ret ?_
  exact ed_bl
  exact ess_nil
  refine ess_one ?_
  refine es_ret ?_
  refine ed_cal c_law_pair_due (hr.mono (by decide)) (takes_of rfl rfl rfl rfl) ?_
  refine ea_cons ?_ ?_
  exact ed_var 0
  refine ea_cons ?_ ?_
  exact ed_var 1
  refine ea_cons ?_ ?_
  exact ed_var 2
  refine ea_cons ?_ ?_
  exact ed_var 3
  refine ea_cons ?_ ?_
  refine ed_cal c_judged (hr.mono (by decide)) (takes_of rfl rfl rfl rfl) ?_
  refine ea_cons ?_ ?_
  exact ed_var 0
  refine ea_cons ?_ ?_
  exact ed_var 1
  refine ea_cons ?_ ?_
  exact ed_var 2
  refine ea_cons ?_ ?_
  exact ed_var 3
  exact ea_nil
  exact ea_nil
abbrev s_law_places_right : Stmt := topS 59
abbrev n_law_places_right : List Str := ["_law_places_here", "_law_far", "_law_due_here", "_law_told", "_law_place"]
theorem sc_law_places_right : FnScope n_law_places_right ["_law_places_here"] (defScope s_law_places_right) := ⟨rfl, rfl, rfl, by decide +kernel, rfl, by decide +kernel, by decide +kernel⟩
theorem ok_law_places_right {a : Addr} {fd : FuncData} (F : Fun K "_law_places_right" "_law_places_right" s_law_places_right a fd) (b : Binds K fd ["_law_places_here"] []) (b_abs : mg "abs" = none) (b_isinstance : mg "isinstance" = none) (b_len : mg "len" = none) (b_sorted : mg "sorted" = none) (b_sum : mg "sum" = none) (c_law_meets : Cal P w K mg base G "_law_meets" 1 3 d_law_meets) (c_least_jumps : Cal P w K mg base G "least_jumps" 3 1 d_least_jumps) (c_meet : Cal P w K mg base G "meet" 3 1 d_meet) (f_pairs : FldOk K G "pairs") (f_place : FldOk K G "place") (is_Meet : Isi K mg G [0, 1, 2, 5, 3, 4] "Meet" 2) :
  FD P w K mg base G 4 a 1 d_law_places_right := by
  apply FD.pure
  refine fd_of (nN := 5) (B := B_law_places_right) F sc_law_places_right rfl rfl b ?_
  intro cdv A outer s H E hr
  refine ess_cons ?_ ?_
  refine es_set (i := 1) sc_law_places_right.nd ?_
  refine ed_dat ?_
  refine el_callB clc_sorted (cr_sortB (hu64 hr)) (by rfl) b_sorted (by decide +kernel) ?_
  refine ea_cons ?_ ?_
  exact ed_var 0
  exact ea_nil
  refine ess_cons ?_ ?_
  refine es_set (i := 2) sc_law_places_right.nd ?_
  refine ed_callB cac_sum (cr_sum rfl) (by rfl) b_sum (by decide +kernel) ?_
  refine ea_cons ?_ ?_
  refine ed_dat ?_
  refine el_lc (own := [("_law_place" , 4)]) rfl sc_law_places_right.nd ?_ (blkOk_by (own := [("_law_place" , 4)]) (N := n_law_places_right) (sc := defScope s_law_places_right) (by decide +kernel)) ?_ ?_ ?_
  refine ei_list ?_
  exact ed_var 1
  intro _ _ _ _ _
  exact egw_var (i := 4) sc_law_places_right.nd
  intro _ _ _ _ _
  exact ebs_nil
  intro _ _ _ _ _
  refine ed_callB cac_abs call_abs (by rfl) b_abs (by decide +kernel) ?_
  refine ea_cons ?_ ?_
  refine ed_op opc_sub op_sub ?_ ?_
  exact ed_var 4
  refine ed_ix ?_ ?_
  exact ed_var 1
  refine ed_op opc_div op_fdivW ?_ ?_
  refine ed_callB cac_len call_len_seq (by rfl) b_len (by decide +kernel) ?_
  refine ea_cons ?_ ?_
  exact ed_var 1
  exact ea_nil
  exact ed_int
  exact ea_nil
  exact ea_nil
  refine ess_cons ?_ ?_
  refine es_set (i := 3) sc_law_places_right.nd ?_
  refine ed_cal c_meet (hr.mono (by decide)) (takes_of rfl rfl rfl rfl) ?_
  refine ea_cons ?_ ?_
  exact ed_var 0
  exact ea_nil
  refine ess_cons ?_ ?_
  refine es_if ?_ ?_ ?_
  refine eb_w ?_
  refine ew_or ?_ ?_
  refine eb_cmp opc_ne (op_neD (hu64 hr)) ?_ ?_ (nomark _)
  refine ed_cal c_least_jumps (hr.mono (by decide)) (takes_of rfl rfl rfl rfl) ?_
  refine ea_cons ?_ ?_
  exact ed_var 0
  exact ea_nil
  exact ed_var 2
  refine ew_or ?_ ?_
  refine eb_not ?_
  refine eb_val ?_
  refine ed_isi is_Meet b_isinstance ?_
  exact ed_var 3
  refine ew_or1 ?_
  refine eb_not ?_
  refine eb_val ?_
  refine ed_cal c_law_meets (hr.mono (by decide)) (takes_of rfl rfl rfl rfl) ?_
  refine ea_cons ?_ ?_
  exact ed_var 0
  refine ea_cons ?_ ?_
  refine ed_fld f_place ?_
  exact ed_var 3
  refine ea_cons ?_ ?_
  refine ed_fld f_pairs ?_
  exact ed_var 3
  exact ea_nil
  refine ess_one ?_
  refine es_ret ?_
  exact ed_bl
  exact ess_nil
  refine ess_cons ?_ ?_
  refine es_expr ?_
  refine ed_lm lmc_append PySem.F.slot_list_append PySem.F.type_list_append mt_append ?_ ?_
  refine ed_fld f_pairs ?_
  exact ed_var 3
  refine ea_cons ?_ ?_
  refine ed_tup ?_
  refine ea_cons ?_ ?_
  exact ed_int
  refine ea_cons ?_ ?_
  exact ed_int
  exact ea_nil
  exact ea_nil
  refine ess_one ?_
  refine es_ret ?_
  refine ed_cmp opc_eq (op_eqD (hu64 hr)) ?_ ?_ (nomark _)
  refine ed_cal c_least_jumps (hr.mono (by decide)) (takes_of rfl rfl rfl rfl) ?_
  refine ea_cons ?_ ?_
  exact ed_var 0
  exact ea_nil
  exact ed_var 2
abbrev s_law_changed : Stmt := topS 60
abbrev n_law_changed : List Str := ["_law_one", "_law_other", "_law_places_here", "_law_whole", "_law_turn", "_law_spot", "_law_tick", "_law_hand", "_law_kind", "_law_place", "_law_taken", "_law_mine"]
theorem sc_law_changed : FnScope n_law_changed ["_law_one", "_law_other", "_law_places_here", "_law_whole", "_law_turn"] (defScope s_law_changed) := ⟨rfl, rfl, rfl, by decide +kernel, rfl, by decide +kernel, by decide +kernel⟩
theorem ok_law_changed {a : Addr} {fd : FuncData} (F : Fun K "_law_changed" "_law_changed" s_law_changed a fd) (b : Binds K fd ["_law_one", "_law_other", "_law_places_here", "_law_whole", "_law_turn"] []) (b_len : mg "len" = none) :
  FD P w K mg base G 1 a 5 d_law_changed := by
  refine fd_of (nN := 12) (B := B_law_changed) F sc_law_changed rfl rfl b ?_
  intro cdv A outer s H E hr
  refine ess_cons ?_ ?_
  refine es_if ?_ ?_ ?_
  refine eb_cmp opc_ne (op_neD (hu64 hr)) ?_ ?_ (nomark _)
  exact ed_var 0
  refine ed_dat ?_
  refine el_lst ?_
  exact ea_nil
  refine ess_cons ?_ ?_
  refine es_set (i := 5) sc_law_changed.nd ?_
  refine ed_op opc_mod op_mod ?_ ?_
  exact ed_var 3
  refine ed_callB cac_len call_len_seq (by rfl) b_len (by decide +kernel) ?_
  refine ea_cons ?_ ?_
  exact ed_var 0
  exact ea_nil
  refine ess_cons ?_ ?_
  refine es_asg ?_ ?_
  refine ed_ix ?_ ?_
  exact ed_var 0
  exact ed_var 5
  refine eg_tup rfl ?_
  refine egs_cons (i := 6) ?_ ?_
  exact eg_var (i := 6) sc_law_changed.nd
  refine egs_cons (i := 7) ?_ ?_
  exact eg_var (i := 7) sc_law_changed.nd
  refine egs_cons (i := 8) ?_ ?_
  exact eg_var (i := 8) sc_law_changed.nd
  refine egs_cons (i := 9) ?_ ?_
  exact eg_var (i := 9) sc_law_changed.nd
  exact egs_nil
  refine ess_cons ?_ ?_
  refine es_setL ?_ ?_ ?_
  exact ed_var 0
  exact ed_var 5
  refine ed_tup ?_
  refine ea_cons ?_ ?_
  refine ed_op opc_add op_add3 ?_ ?_
  refine ed_op opc_pow op_pow ?_ ?_
  exact ed_int
  exact ed_int
  exact ed_var 4
  refine ea_cons ?_ ?_
  exact ed_var 7
  refine ea_cons ?_ ?_
  refine ed_if ?_ ?_ ?_
  refine eb_cmp opc_eq (op_eqD (hu64 hr)) ?_ ?_ (nomark _)
  exact ed_var 8
  exact ed_str
  exact ed_str
  exact ed_var 8
  refine ea_cons ?_ ?_
  exact ed_var 9
  exact ea_nil
  refine ess_one ?_
  refine es_expr ?_
  refine ed_lm0 lmc_reverse PySem.F.slot_list_reverse PySem.F.type_list_reverse mt_reverse ?_
  exact ed_var 0
  exact ess_nil
  refine ess_cons ?_ ?_
  refine es_if ?_ ?_ ?_
  refine eb_cmp opc_eq (op_eqD (hu64 hr)) ?_ ?_ (nomark _)
  exact ed_var 4
  exact ed_int
  refine ess_cons ?_ ?_
  refine es_par2 (i := 10) (j := 5) rfl sc_law_changed.nd ?_
  refine ea_cons ?_ ?_
  refine ed_dat ?_
  refine el_lc (own := [("_law_mine" , 11)]) rfl sc_law_changed.nd ?_ (blkOk_by (own := [("_law_mine" , 11)]) (N := n_law_changed) (sc := defScope s_law_changed) (by decide +kernel)) ?_ ?_ ?_
  refine ei_list ?_
  exact ed_var 1
  intro _ _ _ _ _
  exact egw_var (i := 11) sc_law_changed.nd
  intro _ _ _ _ _
  exact ebs_nil
  intro _ _ _ _ _
  refine ed_sl ?_ ?_ ?_
  exact ed_var 11
  exact eo_none
  refine eo_some ?_
  exact ed_int
  refine ea_cons ?_ ?_
  exact ed_int
  exact ea_nil
  refine ess_cons ?_ ?_
  refine es_while (passes_of rfl) ?_ ?_
  refine eb_cmp opc_in (op_in2 (hu65 hr)) ?_ ?_ (by with_unfolding_all rfl)
  refine ed_tup ?_
  refine ea_cons ?_ ?_
  exact ed_var 5
  refine ea_cons ?_ ?_
  exact ed_int
  exact ea_nil
  exact ed_var 10
  refine ess_one ?_
  refine es_set (i := 5) sc_law_changed.nd ?_
  refine ed_op opc_add op_add3 ?_ ?_
  exact ed_var 5
  exact ed_int
  refine ess_one ?_
  refine es_expr ?_
  refine ed_lm lmc_append PySem.F.slot_list_append PySem.F.type_list_append mt_append ?_ ?_
  exact ed_var 1
  refine ea_cons ?_ ?_
  refine ed_tup ?_
  refine ea_cons ?_ ?_
  exact ed_var 5
  refine ea_cons ?_ ?_
  exact ed_int
  refine ea_cons ?_ ?_
  exact ed_str
  refine ea_cons ?_ ?_
  exact ed_int
  exact ea_nil
  exact ea_nil
  refine ess_one ?_
  refine es_if ?_ ?_ ?_
  refine eb_cmp opc_ne (op_neD (hu64 hr)) ?_ ?_ (nomark _)
  exact ed_var 1
  refine ed_dat ?_
  refine el_lst ?_
  exact ea_nil
  refine ess_one ?_
  refine es_expr ?_
  refine ed_lm0 lmc_pop PySem.F.slot_list_pop PySem.F.type_list_pop mt_pop ?_
  exact ed_var 1
  exact ess_nil
  refine ess_cons ?_ ?_
  refine es_setL ?_ ?_ ?_
  exact ed_var 2
  refine ed_op opc_mod op_mod ?_ ?_
  refine ed_op opc_div op_fdivW ?_ ?_
  exact ed_var 3
  exact ed_int
  refine ed_callB cac_len call_len_seq (by rfl) b_len (by decide +kernel) ?_
  refine ea_cons ?_ ?_
  exact ed_var 2
  exact ea_nil
  refine ed_op opc_mod op_mod ?_ ?_
  refine ed_op opc_div op_fdivW ?_ ?_
  exact ed_var 3
  exact ed_int
  exact ed_int
  refine ess_cons ?_ ?_
  refine es_expr ?_
  refine ed_lm lmc_append PySem.F.slot_list_append PySem.F.type_list_append mt_append ?_ ?_
  exact ed_var 2
  refine ea_cons ?_ ?_
  exact ed_var 4
  exact ea_nil
  refine ess_one ?_
  refine es_expr ?_
  refine ed_lm0 lmc_reverse PySem.F.slot_list_reverse PySem.F.type_list_reverse mt_reverse ?_
  exact ed_var 2
abbrev s_law_room_right : Stmt := topS 61
abbrev n_law_room_right : List Str := ["_law_length_here", "_law_room", "_law_other", "_law_due_here", "_law_tale", "_law_wrong"]
theorem sc_law_room_right : FnScope n_law_room_right ["_law_length_here"] (defScope s_law_room_right) := ⟨rfl, rfl, rfl, by decide +kernel, rfl, by decide +kernel, by decide +kernel⟩
theorem ok_law_room_right {a : Addr} {fd : FuncData} (F : Fun K "_law_room_right" "_law_room_right" s_law_room_right a fd) (b : Binds K fd ["_law_length_here"] []) (b_isinstance : mg "isinstance" = none) (c_tale_judged : Cal P w K mg base G "tale_judged" 6 3 d_tale_judged) (f_line : FldOk K G "line") (h_at_rest : MD P w K mg base G 1 "at_rest" ms_at_rest) (h_bring : MD P w K mg base G 3 "bring" ms_bring) (h_knows : MD P w K mg base G 3 "knows" ms_knows) (h_order : MD P w K mg base G 3 "order" ms_order) (h_shows : MD P w K mg base G 6 "shows" ms_shows) (h_tale : MD P w K mg base G 1 "tale" ms_tale) (h_tick : MD P w K mg base G 2 "tick" ms_tick) (is_Right : Isi K mg G [0, 1, 2, 5, 3, 4] "Right" 3) (is_Wrong : Isi K mg G [0, 1, 2, 5, 3, 4] "Wrong" 4) (m_Room : Mkr P w K mg base G "Room" 5 3 3 d_Room_init) :
  FD P w K mg base G 7 a 1 d_law_room_right := by
  apply FD.pure
  refine fd_of (nN := 6) (B := B_law_room_right) F sc_law_room_right rfl rfl b ?_
  intro cdv A outer s H E hr
  refine ess_cons ?_ ?_
  refine es_par2 (i := 1) (j := 2) rfl sc_law_room_right.nd ?_
  refine ea_cons ?_ ?_
  refine ed_mkr m_Room (hr.mono (by decide)) (takes_of rfl rfl rfl rfl) ?_
  refine ea_cons ?_ ?_
  exact ed_var 0
  refine ea_cons ?_ ?_
  exact ed_int
  exact ea_nil
  refine ea_cons ?_ ?_
  refine ed_mkr m_Room (hr.mono (by decide)) (takes_of rfl rfl rfl rfl) ?_
  refine ea_cons ?_ ?_
  exact ed_var 0
  refine ea_cons ?_ ?_
  exact ed_int
  exact ea_nil
  exact ea_nil
  refine ess_cons ?_ ?_
  refine es_expr ?_
  refine ed_meth (pl := _) h_order ?_ (hr.mono (by decide)) (takes_of rfl rfl rfl rfl) ?_
  exact ed_var 1
  refine ea_cons ?_ ?_
  exact ed_int
  refine ea_cons ?_ ?_
  exact ed_str
  refine ea_cons ?_ ?_
  exact ed_int
  exact ea_nil
  refine ess_cons ?_ ?_
  refine es_expr ?_
  refine ed_meth (pl := _) h_tick ?_ (hr.mono (by decide)) (takes_of rfl rfl rfl rfl) ?_
  exact ed_var 1
  refine ea_cons ?_ ?_
  exact ed_int
  exact ea_nil
  refine ess_cons ?_ ?_
  refine es_expr ?_
  refine ed_meth (pl := _) h_bring ?_ (hr.mono (by decide)) (takes_of rfl rfl rfl rfl) ?_
  exact ed_var 1
  refine ea_cons ?_ ?_
  exact ed_int
  refine ea_cons ?_ ?_
  exact ed_int
  exact ea_nil
  refine ess_cons ?_ ?_
  refine es_par2 (i := 3) (j := 4) rfl sc_law_room_right.nd ?_
  refine ea_cons ?_ ?_
  refine ed_pure ?_
  refine ed_meth (pl := _) h_knows ?_ (hr.mono (by decide)) (takes_of rfl rfl rfl rfl) ?_
  exact ed_var 1
  refine ea_cons ?_ ?_
  exact ed_int
  exact ea_nil
  refine ea_cons ?_ ?_
  refine ed_meth0 (pl := _) h_tale ?_ (hr.mono (by decide)) (takes_of rfl rfl rfl rfl)
  exact ed_var 1
  exact ea_nil
  refine ess_cons ?_ ?_
  refine es_if ?_ ?_ ?_
  refine eb_w ?_
  refine ew_or ?_ ?_
  refine eb_cmp opc_ne (op_neD (hu64 hr)) ?_ ?_ (nomark _)
  exact ed_var 3
  refine ed_dat ?_
  refine el_lst ?_
  refine ea_cons ?_ ?_
  refine ed_tup ?_
  refine ea_cons ?_ ?_
  exact ed_int
  refine ea_cons ?_ ?_
  exact ed_int
  refine ea_cons ?_ ?_
  exact ed_str
  refine ea_cons ?_ ?_
  exact ed_int
  exact ea_nil
  exact ea_nil
  refine ew_or1 ?_
  refine eb_cmp opc_ne (op_neD (hu64 hr)) ?_ ?_ (nomark _)
  exact ed_var 4
  refine ed_dat ?_
  refine el_lst ?_
  refine ea_cons ?_ ?_
  refine ed_tup ?_
  refine ea_cons ?_ ?_
  exact ed_str
  refine ea_cons ?_ ?_
  exact ed_int
  refine ea_cons ?_ ?_
  exact ed_str
  refine ea_cons ?_ ?_
  exact ed_int
  exact ea_nil
  refine ea_cons ?_ ?_
  refine ed_tup ?_
  refine ea_cons ?_ ?_
  exact ed_str
  refine ea_cons ?_ ?_
  exact ed_int
  exact ea_nil
  refine ea_cons ?_ ?_
  refine ed_tup ?_
  refine ea_cons ?_ ?_
  exact ed_str
  refine ea_cons ?_ ?_
  exact ed_int
  refine ea_cons ?_ ?_
  exact ed_int
  exact ea_nil
  exact ea_nil
  refine ess_one ?_
  refine es_ret ?_
  exact ed_bl
  exact ess_nil
  refine ess_cons ?_ ?_
  refine es_expr ?_
  refine ed_lm0 lmc_clear PySem.F.slot_list_clear PySem.F.type_list_clear mt_clear ?_
  refine ed_meth (pl := _) h_knows ?_ (hr.mono (by decide)) (takes_of rfl rfl rfl rfl) ?_
  exact ed_var 1
  refine ea_cons ?_ ?_
  exact ed_int
  exact ea_nil
  refine ess_cons ?_ ?_
  refine es_expr ?_
  refine ed_lm lmc_append PySem.F.slot_list_append PySem.F.type_list_append mt_append ?_ ?_
  refine ed_meth0 (pl := _) h_tale ?_ (hr.mono (by decide)) (takes_of rfl rfl rfl rfl)
  exact ed_var 1
  refine ea_cons ?_ ?_
  refine ed_tup ?_
  refine ea_cons ?_ ?_
  exact ed_str
  refine ea_cons ?_ ?_
  exact ed_int
  exact ea_nil
  exact ea_nil
  refine ess_cons ?_ ?_
  refine es_if ?_ ?_ ?_
  refine eb_w ?_
  refine ew_or ?_ ?_
  refine eb_cmp opc_ne (op_neD (hu64 hr)) ?_ ?_ (nomark _)
  refine ed_meth (pl := _) h_knows ?_ (hr.mono (by decide)) (takes_of rfl rfl rfl rfl) ?_
  exact ed_var 1
  refine ea_cons ?_ ?_
  exact ed_int
  exact ea_nil
  exact ed_var 3
  refine ew_or ?_ ?_
  refine eb_cmp opc_ne (op_neD (hu64 hr)) ?_ ?_ (nomark _)
  refine ed_meth0 (pl := _) h_tale ?_ (hr.mono (by decide)) (takes_of rfl rfl rfl rfl)
  exact ed_var 1
  exact ed_var 4
  refine ew_or ?_ ?_
  refine eb_cmp opc_ne (op_neD (hu64 hr)) ?_ ?_ (nomark _)
  refine ed_meth0 (pl := _) h_tale ?_ (hr.mono (by decide)) (takes_of rfl rfl rfl rfl)
  exact ed_var 2
  refine ed_dat ?_
  refine el_lst ?_
  exact ea_nil
  refine ew_or1 ?_
  refine eb_cmp opc_isNot op_notBl ?_ ?_ (nomark _)
  refine ed_meth0 (pl := _) h_at_rest ?_ (hr.mono (by decide)) (takes_of rfl rfl rfl rfl)
  exact ed_var 1
  exact ed_bl
  refine ess_one ?_
  refine es_ret ?_
  exact ed_bl
  exact ess_nil
  refine ess_cons ?_ ?_
  refine es_if ?_ ?_ ?_
  refine eb_not ?_
  refine eb_val ?_
  refine ed_isi is_Right b_isinstance ?_
  refine ed_cal c_tale_judged (hr.mono (by decide)) (takes_of rfl rfl rfl rfl) ?_
  refine ea_cons ?_ ?_
  exact ed_var 0
  refine ea_cons ?_ ?_
  exact ed_int
  refine ea_cons ?_ ?_
  exact ed_var 4
  exact ea_nil
  refine ess_one ?_
  refine es_ret ?_
  exact ed_bl
  exact ess_nil
  refine ess_cons ?_ ?_
  refine es_setL ?_ ?_ ?_
  exact ed_var 4
  exact ed_int
  refine ed_tup ?_
  refine ea_cons ?_ ?_
  exact ed_str
  refine ea_cons ?_ ?_
  exact ed_int
  refine ea_cons ?_ ?_
  exact ed_int
  exact ea_nil
  refine ess_cons ?_ ?_
  refine es_set (i := 5) sc_law_room_right.nd ?_
  refine ed_cal c_tale_judged (hr.mono (by decide)) (takes_of rfl rfl rfl rfl) ?_
  refine ea_cons ?_ ?_
  exact ed_var 0
  refine ea_cons ?_ ?_
  exact ed_int
  refine ea_cons ?_ ?_
  exact ed_var 4
  exact ea_nil
  refine ess_cons ?_ ?_
  refine es_if ?_ ?_ ?_
  refine eb_w ?_
  refine ew_or ?_ ?_
  refine eb_not ?_
  refine eb_val ?_
  refine ed_isi is_Wrong b_isinstance ?_
  exact ed_var 5
  refine ew_or ?_ ?_
  refine eb_cmp opc_ne (op_neD (hu64 hr)) ?_ ?_ (nomark _)
  refine ed_fld f_line ?_
  exact ed_var 5
  exact ed_int
  refine ew_or1 ?_
  refine eb_cmp opc_isNot op_notBl ?_ ?_ (nomark _)
  refine ed_meth (pl := _) h_shows ?_ (hr.mono (by decide)) (takes_of rfl rfl rfl rfl) ?_
  exact ed_var 5
  refine ea_cons ?_ ?_
  exact ed_var 0
  refine ea_cons ?_ ?_
  exact ed_int
  refine ea_cons ?_ ?_
  exact ed_var 4
  exact ea_nil
  exact ed_bl
  refine ess_one ?_
  refine es_ret ?_
  exact ed_bl
  exact ess_nil
  refine ess_cons ?_ ?_
  refine es_expr ?_
  refine ed_lm0 lmc_pop PySem.F.slot_list_pop PySem.F.type_list_pop mt_pop ?_
  exact ed_var 4
  refine ess_one ?_
  refine es_ret ?_
  refine ed_and ?_ ?_
  refine ed_isi is_Right b_isinstance ?_
  refine ed_cal c_tale_judged (hr.mono (by decide)) (takes_of rfl rfl rfl rfl) ?_
  refine ea_cons ?_ ?_
  exact ed_var 0
  refine ea_cons ?_ ?_
  exact ed_int
  refine ea_cons ?_ ?_
  exact ed_var 4
  exact ea_nil
  refine ed_one ?_
  refine ed_cmp opc_is op_isBl ?_ ?_ (nomark _)
  refine ed_meth (pl := _) h_shows ?_ (hr.mono (by decide)) (takes_of rfl rfl rfl rfl) ?_
  exact ed_var 5
  refine ea_cons ?_ ?_
  exact ed_var 0
  refine ea_cons ?_ ?_
  exact ed_int
  refine ea_cons ?_ ?_
  exact ed_var 4
  exact ea_nil
  exact ed_bl
abbrev s_law : Stmt := topS 62
abbrev n_law : List Str := ["_law_script", "_law_whole", "_law_by", "_law_length_here", "_law_one", "_law_other", "_law_far", "_law_places_here", "_law_turn", "_law_tick", "_law_elder", "_law_older", "_law_mine", "_law_theirs", "_law_when", "_law_some"]
theorem sc_law : FnScope n_law ["_law_script"] (defScope s_law) := ⟨rfl, rfl, rfl, by decide +kernel, rfl, by decide +kernel, by decide +kernel⟩
theorem ok_law {a : Addr} {fd : FuncData} (F : Fun K "law" "law" s_law a fd) (b_abs : mg "abs" = none) (b_range : mg "range" = none) (b_sum : mg "sum" = none) (c_judged : Cal P w K mg base G "judged" 5 4 d_judged) (c_law_changed : Cal P w K mg base G "_law_changed" 1 5 d_law_changed) (c_law_commands : Cal P w K mg base G "_law_commands" 2 5 d_law_commands) (c_law_length : Cal P w K mg base G "_law_length" 1 1 d_law_length) (c_law_meets : Cal P w K mg base G "_law_meets" 1 3 d_law_meets) (c_law_pair_due : Cal P w K mg base G "_law_pair_due" 3 5 d_law_pair_due) (c_law_places : Cal P w K mg base G "_law_places" 2 3 d_law_places) (c_law_places_right : Cal P w K mg base G "_law_places_right" 4 1 d_law_places_right) (c_law_right : Cal P w K mg base G "_law_right" 6 4 d_law_right) (c_law_room_right : Cal P w K mg base G "_law_room_right" 7 1 d_law_room_right) (c_meet : Cal P w K mg base G "meet" 3 1 d_meet) (f_pairs : FldOk K G "pairs") (f_place : FldOk K G "place") (h_shows : MD P w K mg base G 6 "shows" ms_shows) :
  FnOk P w K mg base (L2.CX P w) 8 a fd ["_law_script"] (spD K G 1 (run 16 B_law)) := by
  refine fn_den (nN := 16) (B := B_law) F sc_law rfl rfl ?_
  intro cdv A outer s H E hr
  refine ess_cons ?_ ?_
  refine es_set (i := 1) sc_law.nd ?_
  refine ed_callB cac_abs call_abs (by rfl) b_abs (by decide +kernel) ?_
  refine ea_cons ?_ ?_
  refine ed_callB cac_sum (cr_sum rfl) (by rfl) b_sum (by decide +kernel) ?_
  refine ea_cons ?_ ?_
  refine ed_sl ?_ ?_ ?_
  exact ed_var 0
  exact eo_none
  refine eo_some ?_
  exact ed_int
  exact ea_nil
  exact ea_nil
  refine ess_cons ?_ ?_
  refine es_for (passes_of rfl) rfl ?_ ?_ ?_
  refine ei_list ?_
  refine ed_dat ?_
  refine el_lst ?_
  refine ea_cons ?_ ?_
  exact ed_int
  refine ea_cons ?_ ?_
  exact ed_int
  exact ea_nil
  exact eg_var (i := 2) sc_law.nd
  refine ess_cons ?_ ?_
  refine es_set (i := 3) sc_law.nd ?_
  refine ed_cal c_law_length (hr.mono (by decide)) (takes_of rfl rfl rfl rfl) ?_
  refine ea_cons ?_ ?_
  exact ed_var 1
  exact ea_nil
  refine ess_cons ?_ ?_
  refine es_par2 (i := 4) (j := 5) rfl sc_law.nd ?_
  refine ea_cons ?_ ?_
  refine ed_cal c_law_commands (hr.mono (by decide)) (takes_of rfl rfl rfl rfl) ?_
  refine ea_cons ?_ ?_
  exact ed_var 0
  refine ea_cons ?_ ?_
  exact ed_var 2
  refine ea_cons ?_ ?_
  exact ed_int
  refine ea_cons ?_ ?_
  exact ed_var 3
  refine ea_cons ?_ ?_
  exact ed_bl
  exact ea_nil
  refine ea_cons ?_ ?_
  refine ed_cal c_law_commands (hr.mono (by decide)) (takes_of rfl rfl rfl rfl) ?_
  refine ea_cons ?_ ?_
  exact ed_var 0
  refine ea_cons ?_ ?_
  refine ed_op opc_add op_add3 ?_ ?_
  exact ed_var 2
  exact ed_int
  refine ea_cons ?_ ?_
  exact ed_int
  refine ea_cons ?_ ?_
  exact ed_var 3
  refine ea_cons ?_ ?_
  exact ed_bl
  exact ea_nil
  exact ea_nil
  refine ess_cons ?_ ?_
  refine es_par2 (i := 6) (j := 7) rfl sc_law.nd ?_
  refine ea_cons ?_ ?_
  refine ed_cal c_law_commands (hr.mono (by decide)) (takes_of rfl rfl rfl rfl) ?_
  refine ea_cons ?_ ?_
  exact ed_var 0
  refine ea_cons ?_ ?_
  refine ed_op opc_add op_add3 ?_ ?_
  exact ed_var 2
  exact ed_int
  refine ea_cons ?_ ?_
  exact ed_int
  refine ea_cons ?_ ?_
  exact ed_var 3
  refine ea_cons ?_ ?_
  exact ed_bl
  exact ea_nil
  refine ea_cons ?_ ?_
  refine ed_cal c_law_places (hr.mono (by decide)) (takes_of rfl rfl rfl rfl) ?_
  refine ea_cons ?_ ?_
  exact ed_var 0
  refine ea_cons ?_ ?_
  exact ed_var 2
  refine ea_cons ?_ ?_
  exact ed_int
  exact ea_nil
  exact ea_nil
  refine ess_cons ?_ ?_
  refine es_if ?_ ?_ ?_
  refine eb_not ?_
  refine eb_val ?_
  refine ed_cal c_law_room_right (hr.mono (by decide)) (takes_of rfl rfl rfl rfl) ?_
  refine ea_cons ?_ ?_
  exact ed_var 3
  exact ea_nil
  refine ess_one ?_
  refine es_ret ?_
  exact ed_bl
  exact ess_nil
  refine ess_one ?_
  refine es_for (passes_of rfl) rfl ?_ ?_ ?_
  refine ei_rng1 (by rfl) b_range ?_
  refine ea_cons ?_ ?_
  exact ed_int
  exact ea_nil
  exact eg_var (i := 8) sc_law.nd
  refine ess_cons ?_ ?_
  refine es_set (i := 9) sc_law.nd ?_
  refine ed_ix ?_ ?_
  refine ed_tup ?_
  refine ea_cons ?_ ?_
  exact ed_int
  refine ea_cons ?_ ?_
  exact ed_int
  refine ea_cons ?_ ?_
  exact ed_int
  refine ea_cons ?_ ?_
  exact ed_int
  exact ea_nil
  refine ed_op opc_mod op_mod ?_ ?_
  refine ed_op opc_add op_add3 ?_ ?_
  exact ed_var 1
  exact ed_var 8
  exact ed_int
  refine ess_cons ?_ ?_
  refine es_if ?_ ?_ ?_
  refine eb_w ?_
  refine ew_or ?_ ?_
  refine eb_not ?_
  refine eb_val ?_
  refine ed_cal c_law_right (hr.mono (by decide)) (takes_of rfl rfl rfl rfl) ?_
  refine ea_cons ?_ ?_
  exact ed_var 3
  refine ea_cons ?_ ?_
  exact ed_var 4
  refine ea_cons ?_ ?_
  exact ed_var 5
  refine ea_cons ?_ ?_
  exact ed_var 9
  exact ea_nil
  refine ew_or1 ?_
  refine eb_not ?_
  refine eb_val ?_
  refine ed_cal c_law_places_right (hr.mono (by decide)) (takes_of rfl rfl rfl rfl) ?_
  refine ea_cons ?_ ?_
  exact ed_var 7
  exact ea_nil
  refine ess_one ?_
  refine es_ret ?_
  exact ed_bl
  exact ess_nil
  refine ess_cons ?_ ?_
  refine es_par2 (i := 10) (j := 11) rfl sc_law.nd ?_
  refine ea_cons ?_ ?_
  refine ed_cal c_judged (hr.mono (by decide)) (takes_of rfl rfl rfl rfl) ?_
  refine ea_cons ?_ ?_
  exact ed_var 3
  refine ea_cons ?_ ?_
  exact ed_var 4
  refine ea_cons ?_ ?_
  exact ed_var 5
  refine ea_cons ?_ ?_
  exact ed_var 9
  exact ea_nil
  refine ea_cons ?_ ?_
  refine ed_cal c_meet (hr.mono (by decide)) (takes_of rfl rfl rfl rfl) ?_
  refine ea_cons ?_ ?_
  exact ed_var 7
  exact ea_nil
  exact ea_nil
  refine ess_cons ?_ ?_
  refine es_expr ?_
  refine ed_cal c_law_changed (hr.mono (by decide)) (takes_of rfl rfl rfl rfl) ?_
  refine ea_cons ?_ ?_
  exact ed_var 4
  refine ea_cons ?_ ?_
  exact ed_var 5
  refine ea_cons ?_ ?_
  exact ed_var 7
  refine ea_cons ?_ ?_
  refine ed_op opc_div op_fdivW ?_ ?_
  exact ed_var 1
  exact ed_int
  refine ea_cons ?_ ?_
  exact ed_var 8
  exact ea_nil
  refine ess_cons ?_ ?_
  refine es_for (passes_of rfl) rfl ?_ ?_ ?_
  refine ei_list ?_
  refine ed_dat ?_
  refine el_lst ?_
  refine ea_cons ?_ ?_
  refine ed_tup ?_
  refine ea_cons ?_ ?_
  exact ed_var 4
  refine ea_cons ?_ ?_
  exact ed_var 5
  refine ea_cons ?_ ?_
  exact ed_var 9
  exact ea_nil
  refine ea_cons ?_ ?_
  refine ed_tup ?_
  refine ea_cons ?_ ?_
  exact ed_var 4
  refine ea_cons ?_ ?_
  exact ed_var 5
  refine ea_cons ?_ ?_
  exact ed_int
  exact ea_nil
  refine ea_cons ?_ ?_
  refine ed_tup ?_
  refine ea_cons ?_ ?_
  exact ed_var 6
  refine ea_cons ?_ ?_
  exact ed_var 4
  refine ea_cons ?_ ?_
  exact ed_var 9
  exact ea_nil
  refine ea_cons ?_ ?_
  refine ed_tup ?_
  refine ea_cons ?_ ?_
  refine ed_dat ?_
  refine el_lst ?_
  exact ea_nil
  refine ea_cons ?_ ?_
  refine ed_dat ?_
  refine el_lst ?_
  exact ea_nil
  refine ea_cons ?_ ?_
  exact ed_int
  exact ea_nil
  exact ea_nil
  refine eg_tup rfl ?_
  refine egs_cons (i := 12) ?_ ?_
  exact eg_var (i := 12) sc_law.nd
  refine egs_cons (i := 13) ?_ ?_
  exact eg_var (i := 13) sc_law.nd
  refine egs_cons (i := 14) ?_ ?_
  exact eg_var (i := 14) sc_law.nd
  exact egs_nil
  refine ess_one ?_
  refine es_if ?_ ?_ ?_
  refine eb_cmp opc_ne (op_neD (hu64 hr)) ?_ ?_ (nomark _)
  refine ed_meth (pl := _) h_shows ?_ (hr.mono (by decide)) (takes_of rfl rfl rfl rfl) ?_
  exact ed_var 10
  refine ea_cons ?_ ?_
  exact ed_var 3
  refine ea_cons ?_ ?_
  exact ed_var 12
  refine ea_cons ?_ ?_
  exact ed_var 13
  refine ea_cons ?_ ?_
  exact ed_var 14
  exact ea_nil
  refine ed_cal c_law_pair_due (hr.mono (by decide)) (takes_of rfl rfl rfl rfl) ?_
  refine ea_cons ?_ ?_
  exact ed_var 3
  refine ea_cons ?_ ?_
  exact ed_var 12
  refine ea_cons ?_ ?_
  exact ed_var 13
  refine ea_cons ?_ ?_
  exact ed_var 14
  refine ea_cons ?_ ?_
  exact ed_var 10
  exact ea_nil
  refine ess_one ?_
  refine es_ret ?_
  exact ed_bl
  exact ess_nil
  refine ess_one ?_
  refine es_for (passes_of rfl) rfl ?_ ?_ ?_
  refine ei_list ?_
  refine ed_dat ?_
  refine el_lst ?_
  refine ea_cons ?_ ?_
  exact ed_var 7
  refine ea_cons ?_ ?_
  refine ed_sl ?_ ?_ ?_
  exact ed_var 7
  exact eo_none
  refine eo_some ?_
  exact ed_int
  refine ea_cons ?_ ?_
  refine ed_dat ?_
  refine el_lst ?_
  refine ea_cons ?_ ?_
  exact ed_int
  refine ea_cons ?_ ?_
  exact ed_int
  refine ea_cons ?_ ?_
  exact ed_int
  exact ea_nil
  exact ea_nil
  exact eg_var (i := 15) sc_law.nd
  refine ess_one ?_
  refine es_if ?_ ?_ ?_
  refine eb_cmp opc_ne (op_neD (hu64 hr)) ?_ ?_ (nomark _)
  refine ed_meth (pl := _) h_shows ?_ (hr.mono (by decide)) (takes_of rfl rfl rfl rfl) ?_
  exact ed_var 11
  refine ea_cons ?_ ?_
  exact ed_var 15
  exact ea_nil
  refine ed_cal c_law_meets (hr.mono (by decide)) (takes_of rfl rfl rfl rfl) ?_
  refine ea_cons ?_ ?_
  exact ed_var 15
  refine ea_cons ?_ ?_
  refine ed_fld f_place ?_
  exact ed_var 11
  refine ea_cons ?_ ?_
  refine ed_fld f_pairs ?_
  exact ed_var 11
  exact ea_nil
  refine ess_one ?_
  refine es_ret ?_
  exact ed_bl
  exact ess_nil
  refine ess_one ?_
  refine es_ret ?_
  exact ed_bl
end
def g_of (C10 : Addr) (C11 : Addr) (C12 : Addr) (C13 : Addr) (C14 : Addr) (C15 : Addr) (C16 : Addr) (C17 : Addr) (C18 : Addr) (C19 : Addr) (C20 : Addr) (C6 : Addr) (C0 : Addr) (C1 : Addr) (C2 : Addr) (C5 : Addr) (C3 : Addr) (C4 : Addr) : Nat → Addr
  | 10 => C10
  | 11 => C11
  | 12 => C12
  | 13 => C13
  | 14 => C14
  | 15 => C15
  | 16 => C16
  | 17 => C17
  | 18 => C18
  | 19 => C19
  | 20 => C20
  | 6 => C6
  | 0 => C0
  | 1 => C1
  | 2 => C2
  | 5 => C5
  | 3 => C3
  | 4 => C4
  | _ => 0
theorem fld_of {K : PySem.W.Frag} {G : Nat → Addr} {f : Str} (h : ∀ c, f ∈ nms c → Cls K (G c) ∧ NoAttr K (G c) f) : FldOk K G f := h
theorem all_mk {P : Program} {w : World} {K : PySem.W.Frag} {h : Heap} {mg : Str → Option Value} {fa : Addr} (X : K.In h) (Gn : h.Ns mainGlobals mg) (hfa : mg "law" = some (.ref fa))
    {C10 : Addr} {C11 : Addr} {C12 : Addr} {C13 : Addr} {C14 : Addr} {C15 : Addr} {C16 : Addr} {C17 : Addr} {C18 : Addr} {C19 : Addr} {C20 : Addr} {C6 : Addr} {C0 : Addr} {C1 : Addr} {C2 : Addr} {C5 : Addr} {C3 : Addr} {C4 : Addr} {tk_GREATEST : Tok} {tk_HANDS : Tok} {ta_KINDS : Addr} {tt_KINDS_0 : Tok} {tt_KINDS_1 : Tok} {tt_KINDS_2 : Tok} {td_KINDS : Option Addr} {tn_KINDS : Nat} {ts_KINDS : Array (Option Value)} {tk_LONGEST : Tok} {tk_MOST_COMMANDS : Tok} {tk_MOST_PLACES : Tok} {a_is_whole : Addr} {a_asked_length : Addr} {a_is_command : Addr} {a_asked_commands : Addr} {a_asked_tick : Addr} {a_stand_of : Addr} {a_stand : Addr} {a_unlike : Addr} {a_asked_two : Addr} {a_at_most : Addr} {a_Together_shows : Addr} {a_Apart_init : Addr} {a_Apart_shows : Addr} {a_Meet_init : Addr} {a_Meet_shows : Addr} {a_judged : Addr} {a_asked_places : Addr} {a_meet : Addr} {a_least_jumps : Addr} {a_Room_init : Addr} {a_Room_asked_watcher : Addr} {a_Room_order : Addr} {a_Room_bring : Addr} {a_Room_tick : Addr} {a_Room_stands : Addr} {a_Room_knows : Addr} {a_Room_at_rest : Addr} {a_Room_tale : Addr} {a_is_line : Addr} {a_can_come : Addr} {a_first_wrong : Addr} {a_Right_shows : Addr} {a_Wrong_init : Addr} {a_Wrong_shows : Addr} {a_tale_judged : Addr} {a_law_number : Addr} {a_law_commands : Addr} {a_law_stand : Addr} {a_law_length : Addr} {a_law_due : Addr} {a_law_places : Addr} {a_law_meets : Addr} {a_law_first : Addr} {a_law_pair_due : Addr} {a_law_right : Addr} {a_law_places_right : Addr} {a_law_changed : Addr} {a_law_room_right : Addr} {a_law : Addr}
    (ac10 : PySem.W.nsIn K mainGlobals "WatchError" = some (some (.ref C10)))
    (ac11 : PySem.W.nsIn K mainGlobals "BadLength" = some (some (.ref C11)))
    (ac12 : PySem.W.nsIn K mainGlobals "BadCommands" = some (some (.ref C12)))
    (ac13 : PySem.W.nsIn K mainGlobals "BadTick" = some (some (.ref C13)))
    (ac14 : PySem.W.nsIn K mainGlobals "BadPlaces" = some (some (.ref C14)))
    (ac15 : PySem.W.nsIn K mainGlobals "BadWatcher" = some (some (.ref C15)))
    (ac16 : PySem.W.nsIn K mainGlobals "BadKind" = some (some (.ref C16)))
    (ac17 : PySem.W.nsIn K mainGlobals "BadPlace" = some (some (.ref C17)))
    (ac18 : PySem.W.nsIn K mainGlobals "BadLetter" = some (some (.ref C18)))
    (ac19 : PySem.W.nsIn K mainGlobals "BadTale" = some (some (.ref C19)))
    (ac20 : PySem.W.nsIn K mainGlobals "Busy" = some (some (.ref C20)))
    (ac6 : PySem.W.nsIn K mainGlobals "Answer" = some (some (.ref C6)))
    (ac0 : PySem.W.nsIn K mainGlobals "Together" = some (some (.ref C0)))
    (ac1 : PySem.W.nsIn K mainGlobals "Apart" = some (some (.ref C1)))
    (ac2 : PySem.W.nsIn K mainGlobals "Meet" = some (some (.ref C2)))
    (ac5 : PySem.W.nsIn K mainGlobals "Room" = some (some (.ref C5)))
    (ac3 : PySem.W.nsIn K mainGlobals "Right" = some (some (.ref C3)))
    (ac4 : PySem.W.nsIn K mainGlobals "Wrong" = some (some (.ref C4)))
    (zb_abs : PySem.W.nsIn K mainGlobals "abs" = some none)
    (zb_all : PySem.W.nsIn K mainGlobals "all" = some none)
    (zb_any : PySem.W.nsIn K mainGlobals "any" = some none)
    (zb_bool : PySem.W.nsIn K mainGlobals "bool" = some none)
    (zb_enumerate : PySem.W.nsIn K mainGlobals "enumerate" = some none)
    (zb_int : PySem.W.nsIn K mainGlobals "int" = some none)
    (zb_isinstance : PySem.W.nsIn K mainGlobals "isinstance" = some none)
    (zb_len : PySem.W.nsIn K mainGlobals "len" = some none)
    (zb_list : PySem.W.nsIn K mainGlobals "list" = some none)
    (zb_min : PySem.W.nsIn K mainGlobals "min" = some none)
    (zb_range : PySem.W.nsIn K mainGlobals "range" = some none)
    (zb_set : PySem.W.nsIn K mainGlobals "set" = some none)
    (zb_sorted : PySem.W.nsIn K mainGlobals "sorted" = some none)
    (zb_str : PySem.W.nsIn K mainGlobals "str" = some none)
    (zb_sum : PySem.W.nsIn K mainGlobals "sum" = some none)
    (zb_tuple : PySem.W.nsIn K mainGlobals "tuple" = some none)
    (zg_GREATEST : PySem.W.nsIn K mainGlobals "GREATEST" = some (some (.int 1000000000 tk_GREATEST)))
    (zg_HANDS : PySem.W.nsIn K mainGlobals "HANDS" = some (some (.int 4 tk_HANDS)))
    (zg_KINDS : PySem.W.nsIn K mainGlobals "KINDS" = some (some (.ref ta_KINDS)))
    (yg_KINDS : K.lookup ta_KINDS = some ⟨.type "tuple", td_KINDS, .seq #[.str "hold" tt_KINDS_0, .str "go" tt_KINDS_1, .str "move" tt_KINDS_2] tn_KINDS, ts_KINDS⟩)
    (zg_LONGEST : PySem.W.nsIn K mainGlobals "LONGEST" = some (some (.int 60 tk_LONGEST)))
    (zg_MOST_COMMANDS : PySem.W.nsIn K mainGlobals "MOST_COMMANDS" = some (some (.int 300 tk_MOST_COMMANDS)))
    (zg_MOST_PLACES : PySem.W.nsIn K mainGlobals "MOST_PLACES" = some (some (.int 40 tk_MOST_PLACES)))
    (pg0 : PySem.W.plainGet K C0 Str.empty = true)
    (hd0 : PySem.W.hasDictIn K C0 = true)
    (po0 : PySem.W.plainOver K C0 = true)
    (sa0 : PySem.W.findIn K (.ref C0) "__setattr__" = some (some (.builtin "object.__setattr__")))
    (mk0 : PySem.W.makesIn K C0 = true)
    (kc0 : PySem.W.keepIn K (.ref C0) = true)
    (oi0 : PySem.W.findIn K (.ref C0) "__init__" = some (some (.builtin "object.__init__")))
    (pg1 : PySem.W.plainGet K C1 Str.empty = true)
    (hd1 : PySem.W.hasDictIn K C1 = true)
    (po1 : PySem.W.plainOver K C1 = true)
    (sa1 : PySem.W.findIn K (.ref C1) "__setattr__" = some (some (.builtin "object.__setattr__")))
    (mk1 : PySem.W.makesIn K C1 = true)
    (kc1 : PySem.W.keepIn K (.ref C1) = true)
    (nf1_command : PySem.W.findIn K (.ref C1) "command" = some none)
    (pg2 : PySem.W.plainGet K C2 Str.empty = true)
    (hd2 : PySem.W.hasDictIn K C2 = true)
    (po2 : PySem.W.plainOver K C2 = true)
    (sa2 : PySem.W.findIn K (.ref C2) "__setattr__" = some (some (.builtin "object.__setattr__")))
    (mk2 : PySem.W.makesIn K C2 = true)
    (kc2 : PySem.W.keepIn K (.ref C2) = true)
    (nf2_place : PySem.W.findIn K (.ref C2) "place" = some none)
    (nf2_pairs : PySem.W.findIn K (.ref C2) "pairs" = some none)
    (pg5 : PySem.W.plainGet K C5 Str.empty = true)
    (hd5 : PySem.W.hasDictIn K C5 = true)
    (po5 : PySem.W.plainOver K C5 = true)
    (sa5 : PySem.W.findIn K (.ref C5) "__setattr__" = some (some (.builtin "object.__setattr__")))
    (mk5 : PySem.W.makesIn K C5 = true)
    (kc5 : PySem.W.keepIn K (.ref C5) = true)
    (nf5_length : PySem.W.findIn K (.ref C5) "length" = some none)
    (nf5_known : PySem.W.findIn K (.ref C5) "known" = some none)
    (nf5_letters : PySem.W.findIn K (.ref C5) "letters" = some none)
    (nf5_now : PySem.W.findIn K (.ref C5) "now" = some none)
    (nf5_lines : PySem.W.findIn K (.ref C5) "lines" = some none)
    (pg3 : PySem.W.plainGet K C3 Str.empty = true)
    (hd3 : PySem.W.hasDictIn K C3 = true)
    (po3 : PySem.W.plainOver K C3 = true)
    (sa3 : PySem.W.findIn K (.ref C3) "__setattr__" = some (some (.builtin "object.__setattr__")))
    (mk3 : PySem.W.makesIn K C3 = true)
    (kc3 : PySem.W.keepIn K (.ref C3) = true)
    (oi3 : PySem.W.findIn K (.ref C3) "__init__" = some (some (.builtin "object.__init__")))
    (pg4 : PySem.W.plainGet K C4 Str.empty = true)
    (hd4 : PySem.W.hasDictIn K C4 = true)
    (po4 : PySem.W.plainOver K C4 = true)
    (sa4 : PySem.W.findIn K (.ref C4) "__setattr__" = some (some (.builtin "object.__setattr__")))
    (mk4 : PySem.W.makesIn K C4 = true)
    (kc4 : PySem.W.keepIn K (.ref C4) = true)
    (nf4_line : PySem.W.findIn K (.ref C4) "line" = some none)
    (ihn : PySem.W.specialIn K (.builtin "object.__class__") "__get__" = some (some (.builtin "getset_descriptor.__get__")))
    (ihtk : PySem.W.takesIn K (.builtin "object.__class__") = some true)
    (iha0 : PySem.W.findIn K (.ref C0) "__class__" = some (some (.builtin "object.__class__")))
    (ihm0 : PySem.W.mroIn K C0 (.type "object") = some true)
    (iha1 : PySem.W.findIn K (.ref C1) "__class__" = some (some (.builtin "object.__class__")))
    (ihm1 : PySem.W.mroIn K C1 (.type "object") = some true)
    (iha2 : PySem.W.findIn K (.ref C2) "__class__" = some (some (.builtin "object.__class__")))
    (ihm2 : PySem.W.mroIn K C2 (.type "object") = some true)
    (iha5 : PySem.W.findIn K (.ref C5) "__class__" = some (some (.builtin "object.__class__")))
    (ihm5 : PySem.W.mroIn K C5 (.type "object") = some true)
    (iha3 : PySem.W.findIn K (.ref C3) "__class__" = some (some (.builtin "object.__class__")))
    (ihm3 : PySem.W.mroIn K C3 (.type "object") = some true)
    (iha4 : PySem.W.findIn K (.ref C4) "__class__" = some (some (.builtin "object.__class__")))
    (ihm4 : PySem.W.mroIn K C4 (.type "object") = some true)
    (ik_Apart_0 : PySem.W.kitOne K (.ref C0) (.ref C1) = some false)
    (ik_Apart_1 : PySem.W.kitOne K (.ref C1) (.ref C1) = some true)
    (ik_Apart_2 : PySem.W.kitOne K (.ref C2) (.ref C1) = some false)
    (ik_Apart_5 : PySem.W.kitOne K (.ref C5) (.ref C1) = some false)
    (ik_Apart_3 : PySem.W.kitOne K (.ref C3) (.ref C1) = some false)
    (ik_Apart_4 : PySem.W.kitOne K (.ref C4) (.ref C1) = some false)
    (ik_Meet_0 : PySem.W.kitOne K (.ref C0) (.ref C2) = some false)
    (ik_Meet_1 : PySem.W.kitOne K (.ref C1) (.ref C2) = some false)
    (ik_Meet_2 : PySem.W.kitOne K (.ref C2) (.ref C2) = some true)
    (ik_Meet_5 : PySem.W.kitOne K (.ref C5) (.ref C2) = some false)
    (ik_Meet_3 : PySem.W.kitOne K (.ref C3) (.ref C2) = some false)
    (ik_Meet_4 : PySem.W.kitOne K (.ref C4) (.ref C2) = some false)
    (ik_Right_0 : PySem.W.kitOne K (.ref C0) (.ref C3) = some false)
    (ik_Right_1 : PySem.W.kitOne K (.ref C1) (.ref C3) = some false)
    (ik_Right_2 : PySem.W.kitOne K (.ref C2) (.ref C3) = some false)
    (ik_Right_5 : PySem.W.kitOne K (.ref C5) (.ref C3) = some false)
    (ik_Right_3 : PySem.W.kitOne K (.ref C3) (.ref C3) = some true)
    (ik_Right_4 : PySem.W.kitOne K (.ref C4) (.ref C3) = some false)
    (ik_Together_0 : PySem.W.kitOne K (.ref C0) (.ref C0) = some true)
    (ik_Together_1 : PySem.W.kitOne K (.ref C1) (.ref C0) = some false)
    (ik_Together_2 : PySem.W.kitOne K (.ref C2) (.ref C0) = some false)
    (ik_Together_5 : PySem.W.kitOne K (.ref C5) (.ref C0) = some false)
    (ik_Together_3 : PySem.W.kitOne K (.ref C3) (.ref C0) = some false)
    (ik_Together_4 : PySem.W.kitOne K (.ref C4) (.ref C0) = some false)
    (ik_Wrong_0 : PySem.W.kitOne K (.ref C0) (.ref C4) = some false)
    (ik_Wrong_1 : PySem.W.kitOne K (.ref C1) (.ref C4) = some false)
    (ik_Wrong_2 : PySem.W.kitOne K (.ref C2) (.ref C4) = some false)
    (ik_Wrong_5 : PySem.W.kitOne K (.ref C5) (.ref C4) = some false)
    (ik_Wrong_3 : PySem.W.kitOne K (.ref C3) (.ref C4) = some false)
    (ik_Wrong_4 : PySem.W.kitOne K (.ref C4) (.ref C4) = some true)
    (ex12 : PySem.W.excIn K C12 [.type "ValueError", .type "Exception", .type "BaseException", .type "object"] "ValueError.__new__" = true)
    (ek12 : PySem.W.keepIn K (.ref C12) = true)
    (es12 : PySem.W.subIn K (.ref C12) (.type "BaseException") = some true)
    (et12 : PySem.W.typeIn K (.ref C12) = some (.type "type"))
    (ex16 : PySem.W.excIn K C16 [.type "ValueError", .type "Exception", .type "BaseException", .type "object"] "ValueError.__new__" = true)
    (ek16 : PySem.W.keepIn K (.ref C16) = true)
    (es16 : PySem.W.subIn K (.ref C16) (.type "BaseException") = some true)
    (et16 : PySem.W.typeIn K (.ref C16) = some (.type "type"))
    (ex11 : PySem.W.excIn K C11 [.type "ValueError", .type "Exception", .type "BaseException", .type "object"] "ValueError.__new__" = true)
    (ek11 : PySem.W.keepIn K (.ref C11) = true)
    (es11 : PySem.W.subIn K (.ref C11) (.type "BaseException") = some true)
    (et11 : PySem.W.typeIn K (.ref C11) = some (.type "type"))
    (ex18 : PySem.W.excIn K C18 [.type "ValueError", .type "Exception", .type "BaseException", .type "object"] "ValueError.__new__" = true)
    (ek18 : PySem.W.keepIn K (.ref C18) = true)
    (es18 : PySem.W.subIn K (.ref C18) (.type "BaseException") = some true)
    (et18 : PySem.W.typeIn K (.ref C18) = some (.type "type"))
    (ex17 : PySem.W.excIn K C17 [.type "ValueError", .type "Exception", .type "BaseException", .type "object"] "ValueError.__new__" = true)
    (ek17 : PySem.W.keepIn K (.ref C17) = true)
    (es17 : PySem.W.subIn K (.ref C17) (.type "BaseException") = some true)
    (et17 : PySem.W.typeIn K (.ref C17) = some (.type "type"))
    (ex14 : PySem.W.excIn K C14 [.type "ValueError", .type "Exception", .type "BaseException", .type "object"] "ValueError.__new__" = true)
    (ek14 : PySem.W.keepIn K (.ref C14) = true)
    (es14 : PySem.W.subIn K (.ref C14) (.type "BaseException") = some true)
    (et14 : PySem.W.typeIn K (.ref C14) = some (.type "type"))
    (ex19 : PySem.W.excIn K C19 [.type "ValueError", .type "Exception", .type "BaseException", .type "object"] "ValueError.__new__" = true)
    (ek19 : PySem.W.keepIn K (.ref C19) = true)
    (es19 : PySem.W.subIn K (.ref C19) (.type "BaseException") = some true)
    (et19 : PySem.W.typeIn K (.ref C19) = some (.type "type"))
    (ex13 : PySem.W.excIn K C13 [.type "ValueError", .type "Exception", .type "BaseException", .type "object"] "ValueError.__new__" = true)
    (ek13 : PySem.W.keepIn K (.ref C13) = true)
    (es13 : PySem.W.subIn K (.ref C13) (.type "BaseException") = some true)
    (et13 : PySem.W.typeIn K (.ref C13) = some (.type "type"))
    (ex15 : PySem.W.excIn K C15 [.type "ValueError", .type "Exception", .type "BaseException", .type "object"] "ValueError.__new__" = true)
    (ek15 : PySem.W.keepIn K (.ref C15) = true)
    (es15 : PySem.W.subIn K (.ref C15) (.type "BaseException") = some true)
    (et15 : PySem.W.typeIn K (.ref C15) = some (.type "type"))
    (ex20 : PySem.W.excIn K C20 [.type "ValueError", .type "Exception", .type "BaseException", .type "object"] "ValueError.__new__" = true)
    (ek20 : PySem.W.keepIn K (.ref C20) = true)
    (es20 : PySem.W.subIn K (.ref C20) (.type "BaseException") = some true)
    (et20 : PySem.W.typeIn K (.ref C20) = some (.type "type"))
    (ws10 : PySem.W.subIn K (.ref C10) (.type "BaseException") = some true)
    (wd10 : PySem.W.hasDictIn K C10 = true)
    (wt10 : PySem.W.typeIn K (.ref C10) = some (.type "type"))
    (xm11_WatchError : PySem.W.subIn K (.ref C11) (.ref C10) = some true)
    (xm12_WatchError : PySem.W.subIn K (.ref C12) (.ref C10) = some true)
    (xm13_WatchError : PySem.W.subIn K (.ref C13) (.ref C10) = some true)
    (xm14_WatchError : PySem.W.subIn K (.ref C14) (.ref C10) = some true)
    (xm15_WatchError : PySem.W.subIn K (.ref C15) (.ref C10) = some true)
    (xm16_WatchError : PySem.W.subIn K (.ref C16) (.ref C10) = some true)
    (xm17_WatchError : PySem.W.subIn K (.ref C17) (.ref C10) = some true)
    (xm18_WatchError : PySem.W.subIn K (.ref C18) (.ref C10) = some true)
    (xm19_WatchError : PySem.W.subIn K (.ref C19) (.ref C10) = some true)
    (xm20_WatchError : PySem.W.subIn K (.ref C20) (.ref C10) = some true)
    (n_is_whole_ : PySem.W.nsIn K mainGlobals "is_whole" = some (some (.ref a_is_whole)))
    {oc_is_whole : Value} {od_is_whole : Option Addr} {kV_is_whole : Value} {dc_is_whole : Value} {pm_is_whole : Value} {an_is_whole : Option Addr} {cd_is_whole : Value} {ct_is_whole : Value} {sl_is_whole : Array (Option Value)}
    (l_is_whole : K.lookup a_is_whole = some ⟨oc_is_whole, od_is_whole, .func (PySem.W.fnOf "is_whole" "is_whole" (defArgs s_is_whole) (defBody s_is_whole) (defScope s_is_whole) .none kV_is_whole dc_is_whole pm_is_whole an_is_whole cd_is_whole ct_is_whole), sl_is_whole⟩)
    (q_is_whole : PySem.W.codeIn K cd_is_whole "is_whole" = true)
    (k_is_whole : PySem.W.keepIn K (.ref a_is_whole) = true)
    (n_asked_length_ : PySem.W.nsIn K mainGlobals "asked_length" = some (some (.ref a_asked_length)))
    {oc_asked_length : Value} {od_asked_length : Option Addr} {kV_asked_length : Value} {dc_asked_length : Value} {pm_asked_length : Value} {an_asked_length : Option Addr} {cd_asked_length : Value} {ct_asked_length : Value} {sl_asked_length : Array (Option Value)}
    (l_asked_length : K.lookup a_asked_length = some ⟨oc_asked_length, od_asked_length, .func (PySem.W.fnOf "asked_length" "asked_length" (defArgs s_asked_length) (defBody s_asked_length) (defScope s_asked_length) .none kV_asked_length dc_asked_length pm_asked_length an_asked_length cd_asked_length ct_asked_length), sl_asked_length⟩)
    (q_asked_length : PySem.W.codeIn K cd_asked_length "asked_length" = true)
    (k_asked_length : PySem.W.keepIn K (.ref a_asked_length) = true)
    (n_is_command_ : PySem.W.nsIn K mainGlobals "is_command" = some (some (.ref a_is_command)))
    {oc_is_command : Value} {od_is_command : Option Addr} {kV_is_command : Value} {dc_is_command : Value} {pm_is_command : Value} {an_is_command : Option Addr} {cd_is_command : Value} {ct_is_command : Value} {sl_is_command : Array (Option Value)}
    (l_is_command : K.lookup a_is_command = some ⟨oc_is_command, od_is_command, .func (PySem.W.fnOf "is_command" "is_command" (defArgs s_is_command) (defBody s_is_command) (defScope s_is_command) .none kV_is_command dc_is_command pm_is_command an_is_command cd_is_command ct_is_command), sl_is_command⟩)
    (q_is_command : PySem.W.codeIn K cd_is_command "is_command" = true)
    (k_is_command : PySem.W.keepIn K (.ref a_is_command) = true)
    (n_asked_commands_ : PySem.W.nsIn K mainGlobals "asked_commands" = some (some (.ref a_asked_commands)))
    {oc_asked_commands : Value} {od_asked_commands : Option Addr} {kV_asked_commands : Value} {dc_asked_commands : Value} {pm_asked_commands : Value} {an_asked_commands : Option Addr} {cd_asked_commands : Value} {ct_asked_commands : Value} {sl_asked_commands : Array (Option Value)}
    (l_asked_commands : K.lookup a_asked_commands = some ⟨oc_asked_commands, od_asked_commands, .func (PySem.W.fnOf "asked_commands" "asked_commands" (defArgs s_asked_commands) (defBody s_asked_commands) (defScope s_asked_commands) .none kV_asked_commands dc_asked_commands pm_asked_commands an_asked_commands cd_asked_commands ct_asked_commands), sl_asked_commands⟩)
    (q_asked_commands : PySem.W.codeIn K cd_asked_commands "asked_commands" = true)
    (k_asked_commands : PySem.W.keepIn K (.ref a_asked_commands) = true)
    (n_asked_tick_ : PySem.W.nsIn K mainGlobals "asked_tick" = some (some (.ref a_asked_tick)))
    {oc_asked_tick : Value} {od_asked_tick : Option Addr} {kV_asked_tick : Value} {dc_asked_tick : Value} {pm_asked_tick : Value} {an_asked_tick : Option Addr} {cd_asked_tick : Value} {ct_asked_tick : Value} {sl_asked_tick : Array (Option Value)}
    (l_asked_tick : K.lookup a_asked_tick = some ⟨oc_asked_tick, od_asked_tick, .func (PySem.W.fnOf "asked_tick" "asked_tick" (defArgs s_asked_tick) (defBody s_asked_tick) (defScope s_asked_tick) .none kV_asked_tick dc_asked_tick pm_asked_tick an_asked_tick cd_asked_tick ct_asked_tick), sl_asked_tick⟩)
    (q_asked_tick : PySem.W.codeIn K cd_asked_tick "asked_tick" = true)
    (k_asked_tick : PySem.W.keepIn K (.ref a_asked_tick) = true)
    (n_stand_of_ : PySem.W.nsIn K mainGlobals "stand_of" = some (some (.ref a_stand_of)))
    {oc_stand_of : Value} {od_stand_of : Option Addr} {kV_stand_of : Value} {dc_stand_of : Value} {pm_stand_of : Value} {an_stand_of : Option Addr} {cd_stand_of : Value} {ct_stand_of : Value} {sl_stand_of : Array (Option Value)}
    (l_stand_of : K.lookup a_stand_of = some ⟨oc_stand_of, od_stand_of, .func (PySem.W.fnOf "stand_of" "stand_of" (defArgs s_stand_of) (defBody s_stand_of) (defScope s_stand_of) .none kV_stand_of dc_stand_of pm_stand_of an_stand_of cd_stand_of ct_stand_of), sl_stand_of⟩)
    (q_stand_of : PySem.W.codeIn K cd_stand_of "stand_of" = true)
    (k_stand_of : PySem.W.keepIn K (.ref a_stand_of) = true)
    (n_stand_ : PySem.W.nsIn K mainGlobals "stand" = some (some (.ref a_stand)))
    {oc_stand : Value} {od_stand : Option Addr} {kV_stand : Value} {dc_stand : Value} {pm_stand : Value} {an_stand : Option Addr} {cd_stand : Value} {ct_stand : Value} {sl_stand : Array (Option Value)}
    (l_stand : K.lookup a_stand = some ⟨oc_stand, od_stand, .func (PySem.W.fnOf "stand" "stand" (defArgs s_stand) (defBody s_stand) (defScope s_stand) .none kV_stand dc_stand pm_stand an_stand cd_stand ct_stand), sl_stand⟩)
    (q_stand : PySem.W.codeIn K cd_stand "stand" = true)
    (k_stand : PySem.W.keepIn K (.ref a_stand) = true)
    (n_unlike_ : PySem.W.nsIn K mainGlobals "unlike" = some (some (.ref a_unlike)))
    {oc_unlike : Value} {od_unlike : Option Addr} {kV_unlike : Value} {dc_unlike : Value} {pm_unlike : Value} {an_unlike : Option Addr} {cd_unlike : Value} {ct_unlike : Value} {sl_unlike : Array (Option Value)}
    (l_unlike : K.lookup a_unlike = some ⟨oc_unlike, od_unlike, .func (PySem.W.fnOf "unlike" "unlike" (defArgs s_unlike) (defBody s_unlike) (defScope s_unlike) .none kV_unlike dc_unlike pm_unlike an_unlike cd_unlike ct_unlike), sl_unlike⟩)
    (q_unlike : PySem.W.codeIn K cd_unlike "unlike" = true)
    (k_unlike : PySem.W.keepIn K (.ref a_unlike) = true)
    (n_asked_two_ : PySem.W.nsIn K mainGlobals "asked_two" = some (some (.ref a_asked_two)))
    {oc_asked_two : Value} {od_asked_two : Option Addr} {kV_asked_two : Value} {dc_asked_two : Value} {pm_asked_two : Value} {an_asked_two : Option Addr} {cd_asked_two : Value} {ct_asked_two : Value} {sl_asked_two : Array (Option Value)}
    (l_asked_two : K.lookup a_asked_two = some ⟨oc_asked_two, od_asked_two, .func (PySem.W.fnOf "asked_two" "asked_two" (defArgs s_asked_two) (defBody s_asked_two) (defScope s_asked_two) .none kV_asked_two dc_asked_two pm_asked_two an_asked_two cd_asked_two ct_asked_two), sl_asked_two⟩)
    (q_asked_two : PySem.W.codeIn K cd_asked_two "asked_two" = true)
    (k_asked_two : PySem.W.keepIn K (.ref a_asked_two) = true)
    (n_at_most_ : PySem.W.nsIn K mainGlobals "at_most" = some (some (.ref a_at_most)))
    {oc_at_most : Value} {od_at_most : Option Addr} {kV_at_most : Value} {dc_at_most : Value} {pm_at_most : Value} {an_at_most : Option Addr} {cd_at_most : Value} {ct_at_most : Value} {sl_at_most : Array (Option Value)}
    (l_at_most : K.lookup a_at_most = some ⟨oc_at_most, od_at_most, .func (PySem.W.fnOf "at_most" "at_most" (defArgs s_at_most) (defBody s_at_most) (defScope s_at_most) .none kV_at_most dc_at_most pm_at_most an_at_most cd_at_most ct_at_most), sl_at_most⟩)
    (q_at_most : PySem.W.codeIn K cd_at_most "at_most" = true)
    (k_at_most : PySem.W.keepIn K (.ref a_at_most) = true)
    (n_Together_shows_ : PySem.W.findIn K (.ref C0) "shows" = some (some (.ref a_Together_shows)))
    (i_Together_shows : PySem.W.isFn K (.ref a_Together_shows) = true)
    {oc_Together_shows : Value} {od_Together_shows : Option Addr} {kV_Together_shows : Value} {dc_Together_shows : Value} {pm_Together_shows : Value} {an_Together_shows : Option Addr} {cd_Together_shows : Value} {ct_Together_shows : Value} {sl_Together_shows : Array (Option Value)}
    (l_Together_shows : K.lookup a_Together_shows = some ⟨oc_Together_shows, od_Together_shows, .func (PySem.W.fnOf "shows" "Together.shows" (defArgs s_Together_shows) (defBody s_Together_shows) (defScope s_Together_shows) .none kV_Together_shows dc_Together_shows pm_Together_shows an_Together_shows cd_Together_shows ct_Together_shows), sl_Together_shows⟩)
    (q_Together_shows : PySem.W.codeIn K cd_Together_shows "Together.shows" = true)
    (k_Together_shows : PySem.W.keepIn K (.ref a_Together_shows) = true)
    (n_Apart_init_ : PySem.W.findIn K (.ref C1) "__init__" = some (some (.ref a_Apart_init)))
    (i_Apart_init : PySem.W.isFn K (.ref a_Apart_init) = true)
    {oc_Apart_init : Value} {od_Apart_init : Option Addr} {kV_Apart_init : Value} {dc_Apart_init : Value} {pm_Apart_init : Value} {an_Apart_init : Option Addr} {cd_Apart_init : Value} {ct_Apart_init : Value} {sl_Apart_init : Array (Option Value)}
    (l_Apart_init : K.lookup a_Apart_init = some ⟨oc_Apart_init, od_Apart_init, .func (PySem.W.fnOf "__init__" "Apart.__init__" (defArgs s_Apart_init) (defBody s_Apart_init) (defScope s_Apart_init) .none kV_Apart_init dc_Apart_init pm_Apart_init an_Apart_init cd_Apart_init ct_Apart_init), sl_Apart_init⟩)
    (q_Apart_init : PySem.W.codeIn K cd_Apart_init "Apart.__init__" = true)
    (k_Apart_init : PySem.W.keepIn K (.ref a_Apart_init) = true)
    (n_Apart_shows_ : PySem.W.findIn K (.ref C1) "shows" = some (some (.ref a_Apart_shows)))
    (i_Apart_shows : PySem.W.isFn K (.ref a_Apart_shows) = true)
    {oc_Apart_shows : Value} {od_Apart_shows : Option Addr} {kV_Apart_shows : Value} {dc_Apart_shows : Value} {pm_Apart_shows : Value} {an_Apart_shows : Option Addr} {cd_Apart_shows : Value} {ct_Apart_shows : Value} {sl_Apart_shows : Array (Option Value)}
    (l_Apart_shows : K.lookup a_Apart_shows = some ⟨oc_Apart_shows, od_Apart_shows, .func (PySem.W.fnOf "shows" "Apart.shows" (defArgs s_Apart_shows) (defBody s_Apart_shows) (defScope s_Apart_shows) .none kV_Apart_shows dc_Apart_shows pm_Apart_shows an_Apart_shows cd_Apart_shows ct_Apart_shows), sl_Apart_shows⟩)
    (q_Apart_shows : PySem.W.codeIn K cd_Apart_shows "Apart.shows" = true)
    (k_Apart_shows : PySem.W.keepIn K (.ref a_Apart_shows) = true)
    (n_Meet_init_ : PySem.W.findIn K (.ref C2) "__init__" = some (some (.ref a_Meet_init)))
    (i_Meet_init : PySem.W.isFn K (.ref a_Meet_init) = true)
    {oc_Meet_init : Value} {od_Meet_init : Option Addr} {kV_Meet_init : Value} {dc_Meet_init : Value} {pm_Meet_init : Value} {an_Meet_init : Option Addr} {cd_Meet_init : Value} {ct_Meet_init : Value} {sl_Meet_init : Array (Option Value)}
    (l_Meet_init : K.lookup a_Meet_init = some ⟨oc_Meet_init, od_Meet_init, .func (PySem.W.fnOf "__init__" "Meet.__init__" (defArgs s_Meet_init) (defBody s_Meet_init) (defScope s_Meet_init) .none kV_Meet_init dc_Meet_init pm_Meet_init an_Meet_init cd_Meet_init ct_Meet_init), sl_Meet_init⟩)
    (q_Meet_init : PySem.W.codeIn K cd_Meet_init "Meet.__init__" = true)
    (k_Meet_init : PySem.W.keepIn K (.ref a_Meet_init) = true)
    (n_Meet_shows_ : PySem.W.findIn K (.ref C2) "shows" = some (some (.ref a_Meet_shows)))
    (i_Meet_shows : PySem.W.isFn K (.ref a_Meet_shows) = true)
    {oc_Meet_shows : Value} {od_Meet_shows : Option Addr} {kV_Meet_shows : Value} {dc_Meet_shows : Value} {pm_Meet_shows : Value} {an_Meet_shows : Option Addr} {cd_Meet_shows : Value} {ct_Meet_shows : Value} {sl_Meet_shows : Array (Option Value)}
    (l_Meet_shows : K.lookup a_Meet_shows = some ⟨oc_Meet_shows, od_Meet_shows, .func (PySem.W.fnOf "shows" "Meet.shows" (defArgs s_Meet_shows) (defBody s_Meet_shows) (defScope s_Meet_shows) .none kV_Meet_shows dc_Meet_shows pm_Meet_shows an_Meet_shows cd_Meet_shows ct_Meet_shows), sl_Meet_shows⟩)
    (q_Meet_shows : PySem.W.codeIn K cd_Meet_shows "Meet.shows" = true)
    (k_Meet_shows : PySem.W.keepIn K (.ref a_Meet_shows) = true)
    (n_judged_ : PySem.W.nsIn K mainGlobals "judged" = some (some (.ref a_judged)))
    {oc_judged : Value} {od_judged : Option Addr} {kV_judged : Value} {dc_judged : Value} {pm_judged : Value} {an_judged : Option Addr} {cd_judged : Value} {ct_judged : Value} {sl_judged : Array (Option Value)}
    (l_judged : K.lookup a_judged = some ⟨oc_judged, od_judged, .func (PySem.W.fnOf "judged" "judged" (defArgs s_judged) (defBody s_judged) (defScope s_judged) .none kV_judged dc_judged pm_judged an_judged cd_judged ct_judged), sl_judged⟩)
    (q_judged : PySem.W.codeIn K cd_judged "judged" = true)
    (k_judged : PySem.W.keepIn K (.ref a_judged) = true)
    (n_asked_places_ : PySem.W.nsIn K mainGlobals "asked_places" = some (some (.ref a_asked_places)))
    {oc_asked_places : Value} {od_asked_places : Option Addr} {kV_asked_places : Value} {dc_asked_places : Value} {pm_asked_places : Value} {an_asked_places : Option Addr} {cd_asked_places : Value} {ct_asked_places : Value} {sl_asked_places : Array (Option Value)}
    (l_asked_places : K.lookup a_asked_places = some ⟨oc_asked_places, od_asked_places, .func (PySem.W.fnOf "asked_places" "asked_places" (defArgs s_asked_places) (defBody s_asked_places) (defScope s_asked_places) .none kV_asked_places dc_asked_places pm_asked_places an_asked_places cd_asked_places ct_asked_places), sl_asked_places⟩)
    (q_asked_places : PySem.W.codeIn K cd_asked_places "asked_places" = true)
    (k_asked_places : PySem.W.keepIn K (.ref a_asked_places) = true)
    (n_meet_ : PySem.W.nsIn K mainGlobals "meet" = some (some (.ref a_meet)))
    {oc_meet : Value} {od_meet : Option Addr} {kV_meet : Value} {dc_meet : Value} {pm_meet : Value} {an_meet : Option Addr} {cd_meet : Value} {ct_meet : Value} {sl_meet : Array (Option Value)}
    (l_meet : K.lookup a_meet = some ⟨oc_meet, od_meet, .func (PySem.W.fnOf "meet" "meet" (defArgs s_meet) (defBody s_meet) (defScope s_meet) .none kV_meet dc_meet pm_meet an_meet cd_meet ct_meet), sl_meet⟩)
    (q_meet : PySem.W.codeIn K cd_meet "meet" = true)
    (k_meet : PySem.W.keepIn K (.ref a_meet) = true)
    (n_least_jumps_ : PySem.W.nsIn K mainGlobals "least_jumps" = some (some (.ref a_least_jumps)))
    {oc_least_jumps : Value} {od_least_jumps : Option Addr} {kV_least_jumps : Value} {dc_least_jumps : Value} {pm_least_jumps : Value} {an_least_jumps : Option Addr} {cd_least_jumps : Value} {ct_least_jumps : Value} {sl_least_jumps : Array (Option Value)}
    (l_least_jumps : K.lookup a_least_jumps = some ⟨oc_least_jumps, od_least_jumps, .func (PySem.W.fnOf "least_jumps" "least_jumps" (defArgs s_least_jumps) (defBody s_least_jumps) (defScope s_least_jumps) .none kV_least_jumps dc_least_jumps pm_least_jumps an_least_jumps cd_least_jumps ct_least_jumps), sl_least_jumps⟩)
    (q_least_jumps : PySem.W.codeIn K cd_least_jumps "least_jumps" = true)
    (k_least_jumps : PySem.W.keepIn K (.ref a_least_jumps) = true)
    (n_Room_init_ : PySem.W.findIn K (.ref C5) "__init__" = some (some (.ref a_Room_init)))
    (i_Room_init : PySem.W.isFn K (.ref a_Room_init) = true)
    {oc_Room_init : Value} {od_Room_init : Option Addr} {kV_Room_init : Value} {dc_Room_init : Value} {pm_Room_init : Value} {an_Room_init : Option Addr} {cd_Room_init : Value} {ct_Room_init : Value} {sl_Room_init : Array (Option Value)}
    (l_Room_init : K.lookup a_Room_init = some ⟨oc_Room_init, od_Room_init, .func (PySem.W.fnOf "__init__" "Room.__init__" (defArgs s_Room_init) (defBody s_Room_init) (defScope s_Room_init) .none kV_Room_init dc_Room_init pm_Room_init an_Room_init cd_Room_init ct_Room_init), sl_Room_init⟩)
    (q_Room_init : PySem.W.codeIn K cd_Room_init "Room.__init__" = true)
    (k_Room_init : PySem.W.keepIn K (.ref a_Room_init) = true)
    (n_Room_asked_watcher_ : PySem.W.findIn K (.ref C5) "asked_watcher" = some (some (.ref a_Room_asked_watcher)))
    (i_Room_asked_watcher : PySem.W.isFn K (.ref a_Room_asked_watcher) = true)
    {oc_Room_asked_watcher : Value} {od_Room_asked_watcher : Option Addr} {kV_Room_asked_watcher : Value} {dc_Room_asked_watcher : Value} {pm_Room_asked_watcher : Value} {an_Room_asked_watcher : Option Addr} {cd_Room_asked_watcher : Value} {ct_Room_asked_watcher : Value} {sl_Room_asked_watcher : Array (Option Value)}
    (l_Room_asked_watcher : K.lookup a_Room_asked_watcher = some ⟨oc_Room_asked_watcher, od_Room_asked_watcher, .func (PySem.W.fnOf "asked_watcher" "Room.asked_watcher" (defArgs s_Room_asked_watcher) (defBody s_Room_asked_watcher) (defScope s_Room_asked_watcher) .none kV_Room_asked_watcher dc_Room_asked_watcher pm_Room_asked_watcher an_Room_asked_watcher cd_Room_asked_watcher ct_Room_asked_watcher), sl_Room_asked_watcher⟩)
    (q_Room_asked_watcher : PySem.W.codeIn K cd_Room_asked_watcher "Room.asked_watcher" = true)
    (k_Room_asked_watcher : PySem.W.keepIn K (.ref a_Room_asked_watcher) = true)
    (n_Room_order_ : PySem.W.findIn K (.ref C5) "order" = some (some (.ref a_Room_order)))
    (i_Room_order : PySem.W.isFn K (.ref a_Room_order) = true)
    {oc_Room_order : Value} {od_Room_order : Option Addr} {kV_Room_order : Value} {dc_Room_order : Value} {pm_Room_order : Value} {an_Room_order : Option Addr} {cd_Room_order : Value} {ct_Room_order : Value} {sl_Room_order : Array (Option Value)}
    (l_Room_order : K.lookup a_Room_order = some ⟨oc_Room_order, od_Room_order, .func (PySem.W.fnOf "order" "Room.order" (defArgs s_Room_order) (defBody s_Room_order) (defScope s_Room_order) .none kV_Room_order dc_Room_order pm_Room_order an_Room_order cd_Room_order ct_Room_order), sl_Room_order⟩)
    (q_Room_order : PySem.W.codeIn K cd_Room_order "Room.order" = true)
    (k_Room_order : PySem.W.keepIn K (.ref a_Room_order) = true)
    (n_Room_bring_ : PySem.W.findIn K (.ref C5) "bring" = some (some (.ref a_Room_bring)))
    (i_Room_bring : PySem.W.isFn K (.ref a_Room_bring) = true)
    {oc_Room_bring : Value} {od_Room_bring : Option Addr} {kV_Room_bring : Value} {dc_Room_bring : Value} {pm_Room_bring : Value} {an_Room_bring : Option Addr} {cd_Room_bring : Value} {ct_Room_bring : Value} {sl_Room_bring : Array (Option Value)}
    (l_Room_bring : K.lookup a_Room_bring = some ⟨oc_Room_bring, od_Room_bring, .func (PySem.W.fnOf "bring" "Room.bring" (defArgs s_Room_bring) (defBody s_Room_bring) (defScope s_Room_bring) .none kV_Room_bring dc_Room_bring pm_Room_bring an_Room_bring cd_Room_bring ct_Room_bring), sl_Room_bring⟩)
    (q_Room_bring : PySem.W.codeIn K cd_Room_bring "Room.bring" = true)
    (k_Room_bring : PySem.W.keepIn K (.ref a_Room_bring) = true)
    (n_Room_tick_ : PySem.W.findIn K (.ref C5) "tick" = some (some (.ref a_Room_tick)))
    (i_Room_tick : PySem.W.isFn K (.ref a_Room_tick) = true)
    {oc_Room_tick : Value} {od_Room_tick : Option Addr} {kV_Room_tick : Value} {dc_Room_tick : Value} {pm_Room_tick : Value} {an_Room_tick : Option Addr} {cd_Room_tick : Value} {ct_Room_tick : Value} {sl_Room_tick : Array (Option Value)}
    (l_Room_tick : K.lookup a_Room_tick = some ⟨oc_Room_tick, od_Room_tick, .func (PySem.W.fnOf "tick" "Room.tick" (defArgs s_Room_tick) (defBody s_Room_tick) (defScope s_Room_tick) .none kV_Room_tick dc_Room_tick pm_Room_tick an_Room_tick cd_Room_tick ct_Room_tick), sl_Room_tick⟩)
    (q_Room_tick : PySem.W.codeIn K cd_Room_tick "Room.tick" = true)
    (k_Room_tick : PySem.W.keepIn K (.ref a_Room_tick) = true)
    (n_Room_stands_ : PySem.W.findIn K (.ref C5) "stands" = some (some (.ref a_Room_stands)))
    (i_Room_stands : PySem.W.isFn K (.ref a_Room_stands) = true)
    {oc_Room_stands : Value} {od_Room_stands : Option Addr} {kV_Room_stands : Value} {dc_Room_stands : Value} {pm_Room_stands : Value} {an_Room_stands : Option Addr} {cd_Room_stands : Value} {ct_Room_stands : Value} {sl_Room_stands : Array (Option Value)}
    (l_Room_stands : K.lookup a_Room_stands = some ⟨oc_Room_stands, od_Room_stands, .func (PySem.W.fnOf "stands" "Room.stands" (defArgs s_Room_stands) (defBody s_Room_stands) (defScope s_Room_stands) .none kV_Room_stands dc_Room_stands pm_Room_stands an_Room_stands cd_Room_stands ct_Room_stands), sl_Room_stands⟩)
    (q_Room_stands : PySem.W.codeIn K cd_Room_stands "Room.stands" = true)
    (k_Room_stands : PySem.W.keepIn K (.ref a_Room_stands) = true)
    (n_Room_knows_ : PySem.W.findIn K (.ref C5) "knows" = some (some (.ref a_Room_knows)))
    (i_Room_knows : PySem.W.isFn K (.ref a_Room_knows) = true)
    {oc_Room_knows : Value} {od_Room_knows : Option Addr} {kV_Room_knows : Value} {dc_Room_knows : Value} {pm_Room_knows : Value} {an_Room_knows : Option Addr} {cd_Room_knows : Value} {ct_Room_knows : Value} {sl_Room_knows : Array (Option Value)}
    (l_Room_knows : K.lookup a_Room_knows = some ⟨oc_Room_knows, od_Room_knows, .func (PySem.W.fnOf "knows" "Room.knows" (defArgs s_Room_knows) (defBody s_Room_knows) (defScope s_Room_knows) .none kV_Room_knows dc_Room_knows pm_Room_knows an_Room_knows cd_Room_knows ct_Room_knows), sl_Room_knows⟩)
    (q_Room_knows : PySem.W.codeIn K cd_Room_knows "Room.knows" = true)
    (k_Room_knows : PySem.W.keepIn K (.ref a_Room_knows) = true)
    (n_Room_at_rest_ : PySem.W.findIn K (.ref C5) "at_rest" = some (some (.ref a_Room_at_rest)))
    (i_Room_at_rest : PySem.W.isFn K (.ref a_Room_at_rest) = true)
    {oc_Room_at_rest : Value} {od_Room_at_rest : Option Addr} {kV_Room_at_rest : Value} {dc_Room_at_rest : Value} {pm_Room_at_rest : Value} {an_Room_at_rest : Option Addr} {cd_Room_at_rest : Value} {ct_Room_at_rest : Value} {sl_Room_at_rest : Array (Option Value)}
    (l_Room_at_rest : K.lookup a_Room_at_rest = some ⟨oc_Room_at_rest, od_Room_at_rest, .func (PySem.W.fnOf "at_rest" "Room.at_rest" (defArgs s_Room_at_rest) (defBody s_Room_at_rest) (defScope s_Room_at_rest) .none kV_Room_at_rest dc_Room_at_rest pm_Room_at_rest an_Room_at_rest cd_Room_at_rest ct_Room_at_rest), sl_Room_at_rest⟩)
    (q_Room_at_rest : PySem.W.codeIn K cd_Room_at_rest "Room.at_rest" = true)
    (k_Room_at_rest : PySem.W.keepIn K (.ref a_Room_at_rest) = true)
    (n_Room_tale_ : PySem.W.findIn K (.ref C5) "tale" = some (some (.ref a_Room_tale)))
    (i_Room_tale : PySem.W.isFn K (.ref a_Room_tale) = true)
    {oc_Room_tale : Value} {od_Room_tale : Option Addr} {kV_Room_tale : Value} {dc_Room_tale : Value} {pm_Room_tale : Value} {an_Room_tale : Option Addr} {cd_Room_tale : Value} {ct_Room_tale : Value} {sl_Room_tale : Array (Option Value)}
    (l_Room_tale : K.lookup a_Room_tale = some ⟨oc_Room_tale, od_Room_tale, .func (PySem.W.fnOf "tale" "Room.tale" (defArgs s_Room_tale) (defBody s_Room_tale) (defScope s_Room_tale) .none kV_Room_tale dc_Room_tale pm_Room_tale an_Room_tale cd_Room_tale ct_Room_tale), sl_Room_tale⟩)
    (q_Room_tale : PySem.W.codeIn K cd_Room_tale "Room.tale" = true)
    (k_Room_tale : PySem.W.keepIn K (.ref a_Room_tale) = true)
    (n_is_line_ : PySem.W.nsIn K mainGlobals "is_line" = some (some (.ref a_is_line)))
    {oc_is_line : Value} {od_is_line : Option Addr} {kV_is_line : Value} {dc_is_line : Value} {pm_is_line : Value} {an_is_line : Option Addr} {cd_is_line : Value} {ct_is_line : Value} {sl_is_line : Array (Option Value)}
    (l_is_line : K.lookup a_is_line = some ⟨oc_is_line, od_is_line, .func (PySem.W.fnOf "is_line" "is_line" (defArgs s_is_line) (defBody s_is_line) (defScope s_is_line) .none kV_is_line dc_is_line pm_is_line an_is_line cd_is_line ct_is_line), sl_is_line⟩)
    (q_is_line : PySem.W.codeIn K cd_is_line "is_line" = true)
    (k_is_line : PySem.W.keepIn K (.ref a_is_line) = true)
    (n_can_come_ : PySem.W.nsIn K mainGlobals "can_come" = some (some (.ref a_can_come)))
    {oc_can_come : Value} {od_can_come : Option Addr} {kV_can_come : Value} {dc_can_come : Value} {pm_can_come : Value} {an_can_come : Option Addr} {cd_can_come : Value} {ct_can_come : Value} {sl_can_come : Array (Option Value)}
    (l_can_come : K.lookup a_can_come = some ⟨oc_can_come, od_can_come, .func (PySem.W.fnOf "can_come" "can_come" (defArgs s_can_come) (defBody s_can_come) (defScope s_can_come) .none kV_can_come dc_can_come pm_can_come an_can_come cd_can_come ct_can_come), sl_can_come⟩)
    (q_can_come : PySem.W.codeIn K cd_can_come "can_come" = true)
    (k_can_come : PySem.W.keepIn K (.ref a_can_come) = true)
    (n_first_wrong_ : PySem.W.nsIn K mainGlobals "first_wrong" = some (some (.ref a_first_wrong)))
    {oc_first_wrong : Value} {od_first_wrong : Option Addr} {kV_first_wrong : Value} {dc_first_wrong : Value} {pm_first_wrong : Value} {an_first_wrong : Option Addr} {cd_first_wrong : Value} {ct_first_wrong : Value} {sl_first_wrong : Array (Option Value)}
    (l_first_wrong : K.lookup a_first_wrong = some ⟨oc_first_wrong, od_first_wrong, .func (PySem.W.fnOf "first_wrong" "first_wrong" (defArgs s_first_wrong) (defBody s_first_wrong) (defScope s_first_wrong) .none kV_first_wrong dc_first_wrong pm_first_wrong an_first_wrong cd_first_wrong ct_first_wrong), sl_first_wrong⟩)
    (q_first_wrong : PySem.W.codeIn K cd_first_wrong "first_wrong" = true)
    (k_first_wrong : PySem.W.keepIn K (.ref a_first_wrong) = true)
    (n_Right_shows_ : PySem.W.findIn K (.ref C3) "shows" = some (some (.ref a_Right_shows)))
    (i_Right_shows : PySem.W.isFn K (.ref a_Right_shows) = true)
    {oc_Right_shows : Value} {od_Right_shows : Option Addr} {kV_Right_shows : Value} {dc_Right_shows : Value} {pm_Right_shows : Value} {an_Right_shows : Option Addr} {cd_Right_shows : Value} {ct_Right_shows : Value} {sl_Right_shows : Array (Option Value)}
    (l_Right_shows : K.lookup a_Right_shows = some ⟨oc_Right_shows, od_Right_shows, .func (PySem.W.fnOf "shows" "Right.shows" (defArgs s_Right_shows) (defBody s_Right_shows) (defScope s_Right_shows) .none kV_Right_shows dc_Right_shows pm_Right_shows an_Right_shows cd_Right_shows ct_Right_shows), sl_Right_shows⟩)
    (q_Right_shows : PySem.W.codeIn K cd_Right_shows "Right.shows" = true)
    (k_Right_shows : PySem.W.keepIn K (.ref a_Right_shows) = true)
    (n_Wrong_init_ : PySem.W.findIn K (.ref C4) "__init__" = some (some (.ref a_Wrong_init)))
    (i_Wrong_init : PySem.W.isFn K (.ref a_Wrong_init) = true)
    {oc_Wrong_init : Value} {od_Wrong_init : Option Addr} {kV_Wrong_init : Value} {dc_Wrong_init : Value} {pm_Wrong_init : Value} {an_Wrong_init : Option Addr} {cd_Wrong_init : Value} {ct_Wrong_init : Value} {sl_Wrong_init : Array (Option Value)}
    (l_Wrong_init : K.lookup a_Wrong_init = some ⟨oc_Wrong_init, od_Wrong_init, .func (PySem.W.fnOf "__init__" "Wrong.__init__" (defArgs s_Wrong_init) (defBody s_Wrong_init) (defScope s_Wrong_init) .none kV_Wrong_init dc_Wrong_init pm_Wrong_init an_Wrong_init cd_Wrong_init ct_Wrong_init), sl_Wrong_init⟩)
    (q_Wrong_init : PySem.W.codeIn K cd_Wrong_init "Wrong.__init__" = true)
    (k_Wrong_init : PySem.W.keepIn K (.ref a_Wrong_init) = true)
    (n_Wrong_shows_ : PySem.W.findIn K (.ref C4) "shows" = some (some (.ref a_Wrong_shows)))
    (i_Wrong_shows : PySem.W.isFn K (.ref a_Wrong_shows) = true)
    {oc_Wrong_shows : Value} {od_Wrong_shows : Option Addr} {kV_Wrong_shows : Value} {dc_Wrong_shows : Value} {pm_Wrong_shows : Value} {an_Wrong_shows : Option Addr} {cd_Wrong_shows : Value} {ct_Wrong_shows : Value} {sl_Wrong_shows : Array (Option Value)}
    (l_Wrong_shows : K.lookup a_Wrong_shows = some ⟨oc_Wrong_shows, od_Wrong_shows, .func (PySem.W.fnOf "shows" "Wrong.shows" (defArgs s_Wrong_shows) (defBody s_Wrong_shows) (defScope s_Wrong_shows) .none kV_Wrong_shows dc_Wrong_shows pm_Wrong_shows an_Wrong_shows cd_Wrong_shows ct_Wrong_shows), sl_Wrong_shows⟩)
    (q_Wrong_shows : PySem.W.codeIn K cd_Wrong_shows "Wrong.shows" = true)
    (k_Wrong_shows : PySem.W.keepIn K (.ref a_Wrong_shows) = true)
    (n_tale_judged_ : PySem.W.nsIn K mainGlobals "tale_judged" = some (some (.ref a_tale_judged)))
    {oc_tale_judged : Value} {od_tale_judged : Option Addr} {kV_tale_judged : Value} {dc_tale_judged : Value} {pm_tale_judged : Value} {an_tale_judged : Option Addr} {cd_tale_judged : Value} {ct_tale_judged : Value} {sl_tale_judged : Array (Option Value)}
    (l_tale_judged : K.lookup a_tale_judged = some ⟨oc_tale_judged, od_tale_judged, .func (PySem.W.fnOf "tale_judged" "tale_judged" (defArgs s_tale_judged) (defBody s_tale_judged) (defScope s_tale_judged) .none kV_tale_judged dc_tale_judged pm_tale_judged an_tale_judged cd_tale_judged ct_tale_judged), sl_tale_judged⟩)
    (q_tale_judged : PySem.W.codeIn K cd_tale_judged "tale_judged" = true)
    (k_tale_judged : PySem.W.keepIn K (.ref a_tale_judged) = true)
    (n_law_number_ : PySem.W.nsIn K mainGlobals "_law_number" = some (some (.ref a_law_number)))
    {oc_law_number : Value} {od_law_number : Option Addr} {kV_law_number : Value} {dc_law_number : Value} {pm_law_number : Value} {an_law_number : Option Addr} {cd_law_number : Value} {ct_law_number : Value} {sl_law_number : Array (Option Value)}
    (l_law_number : K.lookup a_law_number = some ⟨oc_law_number, od_law_number, .func (PySem.W.fnOf "_law_number" "_law_number" (defArgs s_law_number) (defBody s_law_number) (defScope s_law_number) .none kV_law_number dc_law_number pm_law_number an_law_number cd_law_number ct_law_number), sl_law_number⟩)
    (q_law_number : PySem.W.codeIn K cd_law_number "_law_number" = true)
    (k_law_number : PySem.W.keepIn K (.ref a_law_number) = true)
    (n_law_commands_ : PySem.W.nsIn K mainGlobals "_law_commands" = some (some (.ref a_law_commands)))
    {oc_law_commands : Value} {od_law_commands : Option Addr} {kV_law_commands : Value} {dc_law_commands : Value} {pm_law_commands : Value} {an_law_commands : Option Addr} {cd_law_commands : Value} {ct_law_commands : Value} {sl_law_commands : Array (Option Value)}
    (l_law_commands : K.lookup a_law_commands = some ⟨oc_law_commands, od_law_commands, .func (PySem.W.fnOf "_law_commands" "_law_commands" (defArgs s_law_commands) (defBody s_law_commands) (defScope s_law_commands) .none kV_law_commands dc_law_commands pm_law_commands an_law_commands cd_law_commands ct_law_commands), sl_law_commands⟩)
    (q_law_commands : PySem.W.codeIn K cd_law_commands "_law_commands" = true)
    (k_law_commands : PySem.W.keepIn K (.ref a_law_commands) = true)
    (n_law_stand_ : PySem.W.nsIn K mainGlobals "_law_stand" = some (some (.ref a_law_stand)))
    {oc_law_stand : Value} {od_law_stand : Option Addr} {kV_law_stand : Value} {dc_law_stand : Value} {pm_law_stand : Value} {an_law_stand : Option Addr} {cd_law_stand : Value} {ct_law_stand : Value} {sl_law_stand : Array (Option Value)}
    (l_law_stand : K.lookup a_law_stand = some ⟨oc_law_stand, od_law_stand, .func (PySem.W.fnOf "_law_stand" "_law_stand" (defArgs s_law_stand) (defBody s_law_stand) (defScope s_law_stand) .none kV_law_stand dc_law_stand pm_law_stand an_law_stand cd_law_stand ct_law_stand), sl_law_stand⟩)
    (q_law_stand : PySem.W.codeIn K cd_law_stand "_law_stand" = true)
    (k_law_stand : PySem.W.keepIn K (.ref a_law_stand) = true)
    (n_law_length_ : PySem.W.nsIn K mainGlobals "_law_length" = some (some (.ref a_law_length)))
    {oc_law_length : Value} {od_law_length : Option Addr} {kV_law_length : Value} {dc_law_length : Value} {pm_law_length : Value} {an_law_length : Option Addr} {cd_law_length : Value} {ct_law_length : Value} {sl_law_length : Array (Option Value)}
    (l_law_length : K.lookup a_law_length = some ⟨oc_law_length, od_law_length, .func (PySem.W.fnOf "_law_length" "_law_length" (defArgs s_law_length) (defBody s_law_length) (defScope s_law_length) .none kV_law_length dc_law_length pm_law_length an_law_length cd_law_length ct_law_length), sl_law_length⟩)
    (q_law_length : PySem.W.codeIn K cd_law_length "_law_length" = true)
    (k_law_length : PySem.W.keepIn K (.ref a_law_length) = true)
    (n_law_due_ : PySem.W.nsIn K mainGlobals "_law_due" = some (some (.ref a_law_due)))
    {oc_law_due : Value} {od_law_due : Option Addr} {kV_law_due : Value} {dc_law_due : Value} {pm_law_due : Value} {an_law_due : Option Addr} {cd_law_due : Value} {ct_law_due : Value} {sl_law_due : Array (Option Value)}
    (l_law_due : K.lookup a_law_due = some ⟨oc_law_due, od_law_due, .func (PySem.W.fnOf "_law_due" "_law_due" (defArgs s_law_due) (defBody s_law_due) (defScope s_law_due) .none kV_law_due dc_law_due pm_law_due an_law_due cd_law_due ct_law_due), sl_law_due⟩)
    (q_law_due : PySem.W.codeIn K cd_law_due "_law_due" = true)
    (k_law_due : PySem.W.keepIn K (.ref a_law_due) = true)
    (n_law_places_ : PySem.W.nsIn K mainGlobals "_law_places" = some (some (.ref a_law_places)))
    {oc_law_places : Value} {od_law_places : Option Addr} {kV_law_places : Value} {dc_law_places : Value} {pm_law_places : Value} {an_law_places : Option Addr} {cd_law_places : Value} {ct_law_places : Value} {sl_law_places : Array (Option Value)}
    (l_law_places : K.lookup a_law_places = some ⟨oc_law_places, od_law_places, .func (PySem.W.fnOf "_law_places" "_law_places" (defArgs s_law_places) (defBody s_law_places) (defScope s_law_places) .none kV_law_places dc_law_places pm_law_places an_law_places cd_law_places ct_law_places), sl_law_places⟩)
    (q_law_places : PySem.W.codeIn K cd_law_places "_law_places" = true)
    (k_law_places : PySem.W.keepIn K (.ref a_law_places) = true)
    (n_law_meets_ : PySem.W.nsIn K mainGlobals "_law_meets" = some (some (.ref a_law_meets)))
    {oc_law_meets : Value} {od_law_meets : Option Addr} {kV_law_meets : Value} {dc_law_meets : Value} {pm_law_meets : Value} {an_law_meets : Option Addr} {cd_law_meets : Value} {ct_law_meets : Value} {sl_law_meets : Array (Option Value)}
    (l_law_meets : K.lookup a_law_meets = some ⟨oc_law_meets, od_law_meets, .func (PySem.W.fnOf "_law_meets" "_law_meets" (defArgs s_law_meets) (defBody s_law_meets) (defScope s_law_meets) .none kV_law_meets dc_law_meets pm_law_meets an_law_meets cd_law_meets ct_law_meets), sl_law_meets⟩)
    (q_law_meets : PySem.W.codeIn K cd_law_meets "_law_meets" = true)
    (k_law_meets : PySem.W.keepIn K (.ref a_law_meets) = true)
    (n_law_first_ : PySem.W.nsIn K mainGlobals "_law_first" = some (some (.ref a_law_first)))
    {oc_law_first : Value} {od_law_first : Option Addr} {kV_law_first : Value} {dc_law_first : Value} {pm_law_first : Value} {an_law_first : Option Addr} {cd_law_first : Value} {ct_law_first : Value} {sl_law_first : Array (Option Value)}
    (l_law_first : K.lookup a_law_first = some ⟨oc_law_first, od_law_first, .func (PySem.W.fnOf "_law_first" "_law_first" (defArgs s_law_first) (defBody s_law_first) (defScope s_law_first) .none kV_law_first dc_law_first pm_law_first an_law_first cd_law_first ct_law_first), sl_law_first⟩)
    (q_law_first : PySem.W.codeIn K cd_law_first "_law_first" = true)
    (k_law_first : PySem.W.keepIn K (.ref a_law_first) = true)
    (n_law_pair_due_ : PySem.W.nsIn K mainGlobals "_law_pair_due" = some (some (.ref a_law_pair_due)))
    {oc_law_pair_due : Value} {od_law_pair_due : Option Addr} {kV_law_pair_due : Value} {dc_law_pair_due : Value} {pm_law_pair_due : Value} {an_law_pair_due : Option Addr} {cd_law_pair_due : Value} {ct_law_pair_due : Value} {sl_law_pair_due : Array (Option Value)}
    (l_law_pair_due : K.lookup a_law_pair_due = some ⟨oc_law_pair_due, od_law_pair_due, .func (PySem.W.fnOf "_law_pair_due" "_law_pair_due" (defArgs s_law_pair_due) (defBody s_law_pair_due) (defScope s_law_pair_due) .none kV_law_pair_due dc_law_pair_due pm_law_pair_due an_law_pair_due cd_law_pair_due ct_law_pair_due), sl_law_pair_due⟩)
    (q_law_pair_due : PySem.W.codeIn K cd_law_pair_due "_law_pair_due" = true)
    (k_law_pair_due : PySem.W.keepIn K (.ref a_law_pair_due) = true)
    (n_law_right_ : PySem.W.nsIn K mainGlobals "_law_right" = some (some (.ref a_law_right)))
    {oc_law_right : Value} {od_law_right : Option Addr} {kV_law_right : Value} {dc_law_right : Value} {pm_law_right : Value} {an_law_right : Option Addr} {cd_law_right : Value} {ct_law_right : Value} {sl_law_right : Array (Option Value)}
    (l_law_right : K.lookup a_law_right = some ⟨oc_law_right, od_law_right, .func (PySem.W.fnOf "_law_right" "_law_right" (defArgs s_law_right) (defBody s_law_right) (defScope s_law_right) .none kV_law_right dc_law_right pm_law_right an_law_right cd_law_right ct_law_right), sl_law_right⟩)
    (q_law_right : PySem.W.codeIn K cd_law_right "_law_right" = true)
    (k_law_right : PySem.W.keepIn K (.ref a_law_right) = true)
    (n_law_places_right_ : PySem.W.nsIn K mainGlobals "_law_places_right" = some (some (.ref a_law_places_right)))
    {oc_law_places_right : Value} {od_law_places_right : Option Addr} {kV_law_places_right : Value} {dc_law_places_right : Value} {pm_law_places_right : Value} {an_law_places_right : Option Addr} {cd_law_places_right : Value} {ct_law_places_right : Value} {sl_law_places_right : Array (Option Value)}
    (l_law_places_right : K.lookup a_law_places_right = some ⟨oc_law_places_right, od_law_places_right, .func (PySem.W.fnOf "_law_places_right" "_law_places_right" (defArgs s_law_places_right) (defBody s_law_places_right) (defScope s_law_places_right) .none kV_law_places_right dc_law_places_right pm_law_places_right an_law_places_right cd_law_places_right ct_law_places_right), sl_law_places_right⟩)
    (q_law_places_right : PySem.W.codeIn K cd_law_places_right "_law_places_right" = true)
    (k_law_places_right : PySem.W.keepIn K (.ref a_law_places_right) = true)
    (n_law_changed_ : PySem.W.nsIn K mainGlobals "_law_changed" = some (some (.ref a_law_changed)))
    {oc_law_changed : Value} {od_law_changed : Option Addr} {kV_law_changed : Value} {dc_law_changed : Value} {pm_law_changed : Value} {an_law_changed : Option Addr} {cd_law_changed : Value} {ct_law_changed : Value} {sl_law_changed : Array (Option Value)}
    (l_law_changed : K.lookup a_law_changed = some ⟨oc_law_changed, od_law_changed, .func (PySem.W.fnOf "_law_changed" "_law_changed" (defArgs s_law_changed) (defBody s_law_changed) (defScope s_law_changed) .none kV_law_changed dc_law_changed pm_law_changed an_law_changed cd_law_changed ct_law_changed), sl_law_changed⟩)
    (q_law_changed : PySem.W.codeIn K cd_law_changed "_law_changed" = true)
    (k_law_changed : PySem.W.keepIn K (.ref a_law_changed) = true)
    (n_law_room_right_ : PySem.W.nsIn K mainGlobals "_law_room_right" = some (some (.ref a_law_room_right)))
    {oc_law_room_right : Value} {od_law_room_right : Option Addr} {kV_law_room_right : Value} {dc_law_room_right : Value} {pm_law_room_right : Value} {an_law_room_right : Option Addr} {cd_law_room_right : Value} {ct_law_room_right : Value} {sl_law_room_right : Array (Option Value)}
    (l_law_room_right : K.lookup a_law_room_right = some ⟨oc_law_room_right, od_law_room_right, .func (PySem.W.fnOf "_law_room_right" "_law_room_right" (defArgs s_law_room_right) (defBody s_law_room_right) (defScope s_law_room_right) .none kV_law_room_right dc_law_room_right pm_law_room_right an_law_room_right cd_law_room_right ct_law_room_right), sl_law_room_right⟩)
    (q_law_room_right : PySem.W.codeIn K cd_law_room_right "_law_room_right" = true)
    (k_law_room_right : PySem.W.keepIn K (.ref a_law_room_right) = true)
    (n_law_ : PySem.W.nsIn K mainGlobals "law" = some (some (.ref a_law)))
    {oc_law : Value} {od_law : Option Addr} {kV_law : Value} {dc_law : Value} {pm_law : Value} {an_law : Option Addr} {cd_law : Value} {ct_law : Value} {sl_law : Array (Option Value)}
    (l_law : K.lookup a_law = some ⟨oc_law, od_law, .func (PySem.W.fnOf "law" "law" (defArgs s_law) (defBody s_law) (defScope s_law) .none kV_law dc_law pm_law an_law cd_law ct_law), sl_law⟩)
    (q_law : PySem.W.codeIn K cd_law "law" = true)
    (k_law : PySem.W.keepIn K (.ref a_law) = true) :
    ∃ fd : FuncData, (∀ (s : Shared) (v : Value), BindsTo s fd ⟨[v], []⟩ [("_law_script", v)]) ∧ ∀ base : Heap, K.In base → base.Ns mainGlobals mg → FnOk P w K mg base (L2.CX P w) 8 fa fd ["_law_script"] (spLaw K) := by
  have e := hfa.symm.trans (PySem.W.mg_of X Gn n_law_)
  cases e
  have F_is_whole := fun_mk (st := s_is_whole) l_is_whole q_is_whole k_is_whole
  have v_is_whole := F_is_whole.binds (ps := ["thing"]) fun _ _ _ _ _ _ us hl => match us, hl with | [_], _ => rfl
  have F_asked_length := fun_mk (st := s_asked_length) l_asked_length q_asked_length k_asked_length
  have v_asked_length := F_asked_length.binds (ps := ["length"]) fun _ _ _ _ _ _ us hl => match us, hl with | [_], _ => rfl
  have F_is_command := fun_mk (st := s_is_command) l_is_command q_is_command k_is_command
  have v_is_command := F_is_command.binds (ps := ["length", "thing"]) fun _ _ _ _ _ _ us hl => match us, hl with | [_, _], _ => rfl
  have F_asked_commands := fun_mk (st := s_asked_commands) l_asked_commands q_asked_commands k_asked_commands
  have v_asked_commands := F_asked_commands.binds (ps := ["length", "commands"]) fun _ _ _ _ _ _ us hl => match us, hl with | [_, _], _ => rfl
  have F_asked_tick := fun_mk (st := s_asked_tick) l_asked_tick q_asked_tick k_asked_tick
  have v_asked_tick := F_asked_tick.binds (ps := ["tick"]) fun _ _ _ _ _ _ us hl => match us, hl with | [_], _ => rfl
  have F_stand_of := fun_mk (st := s_stand_of) l_stand_of q_stand_of k_stand_of
  have v_stand_of := F_stand_of.binds (ps := ["length", "commands", "tick"]) fun _ _ _ _ _ _ us hl => match us, hl with | [_, _, _], _ => rfl
  have F_stand := fun_mk (st := s_stand) l_stand q_stand k_stand
  have v_stand := F_stand.binds (ps := ["length", "commands", "tick"]) fun _ _ _ _ _ _ us hl => match us, hl with | [_, _, _], _ => rfl
  have F_unlike := fun_mk (st := s_unlike) l_unlike q_unlike k_unlike
  have v_unlike := F_unlike.binds (ps := ["one", "other", "tick"]) fun _ _ _ _ _ _ us hl => match us, hl with | [_, _, _], _ => rfl
  have F_asked_two := fun_mk (st := s_asked_two) l_asked_two q_asked_two k_asked_two
  have v_asked_two := F_asked_two.binds (ps := ["length", "one", "other", "tick"]) fun _ _ _ _ _ _ us hl => match us, hl with | [_, _, _, _], _ => rfl
  have F_at_most := fun_mk (st := s_at_most) l_at_most q_at_most k_at_most
  have v_at_most := F_at_most.binds (ps := ["length", "one", "other", "tick"]) fun _ _ _ _ _ _ us hl => match us, hl with | [_, _, _, _], _ => rfl
  have F_Together_shows := fun_mk (st := s_Together_shows) l_Together_shows q_Together_shows k_Together_shows
  have v_Together_shows := F_Together_shows.binds (ps := ["self", "length", "one", "other", "tick"]) fun _ _ _ _ _ _ us hl => match us, hl with | [_, _, _, _, _], _ => rfl
  have F_Apart_init := fun_mk (st := s_Apart_init) l_Apart_init q_Apart_init k_Apart_init
  have v_Apart_init := F_Apart_init.binds (ps := ["self", "command"]) fun _ _ _ _ _ _ us hl => match us, hl with | [_, _], _ => rfl
  have F_Apart_shows := fun_mk (st := s_Apart_shows) l_Apart_shows q_Apart_shows k_Apart_shows
  have v_Apart_shows := F_Apart_shows.binds (ps := ["self", "length", "one", "other", "tick"]) fun _ _ _ _ _ _ us hl => match us, hl with | [_, _, _, _, _], _ => rfl
  have F_Meet_init := fun_mk (st := s_Meet_init) l_Meet_init q_Meet_init k_Meet_init
  have v_Meet_init := F_Meet_init.binds (ps := ["self", "place", "pairs"]) fun _ _ _ _ _ _ us hl => match us, hl with | [_, _, _], _ => rfl
  have F_Meet_shows := fun_mk (st := s_Meet_shows) l_Meet_shows q_Meet_shows k_Meet_shows
  have v_Meet_shows := F_Meet_shows.binds (ps := ["self", "places"]) fun _ _ _ _ _ _ us hl => match us, hl with | [_, _], _ => rfl
  have F_judged := fun_mk (st := s_judged) l_judged q_judged k_judged
  have v_judged := F_judged.binds (ps := ["length", "one", "other", "tick"]) fun _ _ _ _ _ _ us hl => match us, hl with | [_, _, _, _], _ => rfl
  have F_asked_places := fun_mk (st := s_asked_places) l_asked_places q_asked_places k_asked_places
  have v_asked_places := F_asked_places.binds (ps := ["places"]) fun _ _ _ _ _ _ us hl => match us, hl with | [_], _ => rfl
  have F_meet := fun_mk (st := s_meet) l_meet q_meet k_meet
  have v_meet := F_meet.binds (ps := ["places"]) fun _ _ _ _ _ _ us hl => match us, hl with | [_], _ => rfl
  have F_least_jumps := fun_mk (st := s_least_jumps) l_least_jumps q_least_jumps k_least_jumps
  have v_least_jumps := F_least_jumps.binds (ps := ["places"]) fun _ _ _ _ _ _ us hl => match us, hl with | [_], _ => rfl
  have F_Room_init := fun_mk (st := s_Room_init) l_Room_init q_Room_init k_Room_init
  have v_Room_init := F_Room_init.binds (ps := ["self", "length", "watchers"]) fun _ _ _ _ _ _ us hl => match us, hl with | [_, _, _], _ => rfl
  have F_Room_asked_watcher := fun_mk (st := s_Room_asked_watcher) l_Room_asked_watcher q_Room_asked_watcher k_Room_asked_watcher
  have v_Room_asked_watcher := F_Room_asked_watcher.binds (ps := ["self", "watcher"]) fun _ _ _ _ _ _ us hl => match us, hl with | [_, _], _ => rfl
  have F_Room_order := fun_mk (st := s_Room_order) l_Room_order q_Room_order k_Room_order
  have v_Room_order := F_Room_order.binds (ps := ["self", "watcher", "kind", "place"]) fun _ _ _ _ _ _ us hl => match us, hl with | [_, _, _, _], _ => rfl
  have F_Room_bring := fun_mk (st := s_Room_bring) l_Room_bring q_Room_bring k_Room_bring
  have v_Room_bring := F_Room_bring.binds (ps := ["self", "letter", "watcher"]) fun _ _ _ _ _ _ us hl => match us, hl with | [_, _, _], _ => rfl
  have F_Room_tick := fun_mk (st := s_Room_tick) l_Room_tick q_Room_tick k_Room_tick
  have v_Room_tick := F_Room_tick.binds (ps := ["self", "many"]) fun _ _ _ _ _ _ us hl => match us, hl with | [_, _], _ => rfl
  have F_Room_stands := fun_mk (st := s_Room_stands) l_Room_stands q_Room_stands k_Room_stands
  have v_Room_stands := F_Room_stands.binds (ps := ["self", "watcher"]) fun _ _ _ _ _ _ us hl => match us, hl with | [_, _], _ => rfl
  have F_Room_knows := fun_mk (st := s_Room_knows) l_Room_knows q_Room_knows k_Room_knows
  have v_Room_knows := F_Room_knows.binds (ps := ["self", "watcher"]) fun _ _ _ _ _ _ us hl => match us, hl with | [_, _], _ => rfl
  have F_Room_at_rest := fun_mk (st := s_Room_at_rest) l_Room_at_rest q_Room_at_rest k_Room_at_rest
  have v_Room_at_rest := F_Room_at_rest.binds (ps := ["self"]) fun _ _ _ _ _ _ us hl => match us, hl with | [_], _ => rfl
  have F_Room_tale := fun_mk (st := s_Room_tale) l_Room_tale q_Room_tale k_Room_tale
  have v_Room_tale := F_Room_tale.binds (ps := ["self"]) fun _ _ _ _ _ _ us hl => match us, hl with | [_], _ => rfl
  have F_is_line := fun_mk (st := s_is_line) l_is_line q_is_line k_is_line
  have v_is_line := F_is_line.binds (ps := ["thing"]) fun _ _ _ _ _ _ us hl => match us, hl with | [_], _ => rfl
  have F_can_come := fun_mk (st := s_can_come) l_can_come q_can_come k_can_come
  have v_can_come := F_can_come.binds (ps := ["room", "line"]) fun _ _ _ _ _ _ us hl => match us, hl with | [_, _], _ => rfl
  have F_first_wrong := fun_mk (st := s_first_wrong) l_first_wrong q_first_wrong k_first_wrong
  have v_first_wrong := F_first_wrong.binds (ps := ["length", "watchers", "tale"]) fun _ _ _ _ _ _ us hl => match us, hl with | [_, _, _], _ => rfl
  have F_Right_shows := fun_mk (st := s_Right_shows) l_Right_shows q_Right_shows k_Right_shows
  have v_Right_shows := F_Right_shows.binds (ps := ["self", "length", "watchers", "tale"]) fun _ _ _ _ _ _ us hl => match us, hl with | [_, _, _, _], _ => rfl
  have F_Wrong_init := fun_mk (st := s_Wrong_init) l_Wrong_init q_Wrong_init k_Wrong_init
  have v_Wrong_init := F_Wrong_init.binds (ps := ["self", "line"]) fun _ _ _ _ _ _ us hl => match us, hl with | [_, _], _ => rfl
  have F_Wrong_shows := fun_mk (st := s_Wrong_shows) l_Wrong_shows q_Wrong_shows k_Wrong_shows
  have v_Wrong_shows := F_Wrong_shows.binds (ps := ["self", "length", "watchers", "tale"]) fun _ _ _ _ _ _ us hl => match us, hl with | [_, _, _, _], _ => rfl
  have F_tale_judged := fun_mk (st := s_tale_judged) l_tale_judged q_tale_judged k_tale_judged
  have v_tale_judged := F_tale_judged.binds (ps := ["length", "watchers", "tale"]) fun _ _ _ _ _ _ us hl => match us, hl with | [_, _, _], _ => rfl
  have F_law_number := fun_mk (st := s_law_number) l_law_number q_law_number k_law_number
  have v_law_number := F_law_number.binds (ps := ["_law_cell", "_law_at", "_law_whole"]) fun _ _ _ _ _ _ us hl => match us, hl with | [_, _, _], _ => rfl
  have F_law_commands := fun_mk (st := s_law_commands) l_law_commands q_law_commands k_law_commands
  have v_law_commands := F_law_commands.binds (ps := ["_law_script", "_law_by", "_law_most", "_law_length_here", "_law_moves"]) fun _ _ _ _ _ _ us hl => match us, hl with | [_, _, _, _, _], _ => rfl
  have F_law_stand := fun_mk (st := s_law_stand) l_law_stand q_law_stand k_law_stand
  have v_law_stand := F_law_stand.binds (ps := ["_law_length_here", "_law_commands_here", "_law_tick"]) fun _ _ _ _ _ _ us hl => match us, hl with | [_, _, _], _ => rfl
  have F_law_length := fun_mk (st := s_law_length) l_law_length q_law_length k_law_length
  have v_law_length := F_law_length.binds (ps := ["_law_whole"]) fun _ _ _ _ _ _ us hl => match us, hl with | [_], _ => rfl
  have F_law_due := fun_mk (st := s_law_due) l_law_due q_law_due k_law_due
  have v_law_due := F_law_due.binds (ps := ["_law_length_here", "_law_one", "_law_other", "_law_tick", "_law_command"]) fun _ _ _ _ _ _ us hl => match us, hl with | [_, _, _, _, _], _ => rfl
  have F_law_places := fun_mk (st := s_law_places) l_law_places q_law_places k_law_places
  have v_law_places := F_law_places.binds (ps := ["_law_script", "_law_by", "_law_most"]) fun _ _ _ _ _ _ us hl => match us, hl with | [_, _, _], _ => rfl
  have F_law_meets := fun_mk (st := s_law_meets) l_law_meets q_law_meets k_law_meets
  have v_law_meets := F_law_meets.binds (ps := ["_law_places_here", "_law_place", "_law_pairs"]) fun _ _ _ _ _ _ us hl => match us, hl with | [_, _, _], _ => rfl
  have F_law_first := fun_mk (st := s_law_first) l_law_first q_law_first k_law_first
  have v_law_first := F_law_first.binds (ps := ["_law_one", "_law_other", "_law_tick"]) fun _ _ _ _ _ _ us hl => match us, hl with | [_, _, _], _ => rfl
  have F_law_pair_due := fun_mk (st := s_law_pair_due) l_law_pair_due q_law_pair_due k_law_pair_due
  have v_law_pair_due := F_law_pair_due.binds (ps := ["_law_length_here", "_law_one", "_law_other", "_law_tick", "_law_answer"]) fun _ _ _ _ _ _ us hl => match us, hl with | [_, _, _, _, _], _ => rfl
  have F_law_right := fun_mk (st := s_law_right) l_law_right q_law_right k_law_right
  have v_law_right := F_law_right.binds (ps := ["_law_length_here", "_law_one", "_law_other", "_law_tick"]) fun _ _ _ _ _ _ us hl => match us, hl with | [_, _, _, _], _ => rfl
  have F_law_places_right := fun_mk (st := s_law_places_right) l_law_places_right q_law_places_right k_law_places_right
  have v_law_places_right := F_law_places_right.binds (ps := ["_law_places_here"]) fun _ _ _ _ _ _ us hl => match us, hl with | [_], _ => rfl
  have F_law_changed := fun_mk (st := s_law_changed) l_law_changed q_law_changed k_law_changed
  have v_law_changed := F_law_changed.binds (ps := ["_law_one", "_law_other", "_law_places_here", "_law_whole", "_law_turn"]) fun _ _ _ _ _ _ us hl => match us, hl with | [_, _, _, _, _], _ => rfl
  have F_law_room_right := fun_mk (st := s_law_room_right) l_law_room_right q_law_room_right k_law_room_right
  have v_law_room_right := F_law_room_right.binds (ps := ["_law_length_here"]) fun _ _ _ _ _ _ us hl => match us, hl with | [_], _ => rfl
  have F_law := fun_mk (st := s_law) l_law q_law k_law
  refine law_pack F_law (fun s v => .of_eq rfl) fun base _ _ => ?_
  let G : Nat → Addr := g_of C10 C11 C12 C13 C14 C15 C16 C17 C18 C19 C20 C6 C0 C1 C2 C5 C3 C4
  have b_abs : mg "abs" = none := PySem.W.mg_none_of X Gn zb_abs
  have b_all : mg "all" = none := PySem.W.mg_none_of X Gn zb_all
  have b_any : mg "any" = none := PySem.W.mg_none_of X Gn zb_any
  have b_bool : mg "bool" = none := PySem.W.mg_none_of X Gn zb_bool
  have b_enumerate : mg "enumerate" = none := PySem.W.mg_none_of X Gn zb_enumerate
  have b_int : mg "int" = none := PySem.W.mg_none_of X Gn zb_int
  have b_isinstance : mg "isinstance" = none := PySem.W.mg_none_of X Gn zb_isinstance
  have b_len : mg "len" = none := PySem.W.mg_none_of X Gn zb_len
  have b_list : mg "list" = none := PySem.W.mg_none_of X Gn zb_list
  have b_min : mg "min" = none := PySem.W.mg_none_of X Gn zb_min
  have b_range : mg "range" = none := PySem.W.mg_none_of X Gn zb_range
  have b_set : mg "set" = none := PySem.W.mg_none_of X Gn zb_set
  have b_sorted : mg "sorted" = none := PySem.W.mg_none_of X Gn zb_sorted
  have b_str : mg "str" = none := PySem.W.mg_none_of X Gn zb_str
  have b_sum : mg "sum" = none := PySem.W.mg_none_of X Gn zb_sum
  have b_tuple : mg "tuple" = none := PySem.W.mg_none_of X Gn zb_tuple
  have g_GREATEST : ∃ t, mg "GREATEST" = some (.int 1000000000 t) := ⟨_, PySem.W.mg_of X Gn zg_GREATEST⟩
  have g_HANDS : ∃ t, mg "HANDS" = some (.int 4 t) := ⟨_, PySem.W.mg_of X Gn zg_HANDS⟩
  have g_KINDS : TupIn K mg "KINDS" ["hold", "go", "move"] := ⟨_, _, _, _, PySem.W.mg_of X Gn zg_KINDS, yg_KINDS, rfl, rfl, (by rw [sizeLine_eq]; exact (by decide : (3 : Nat) ≤ 16777216)), .cons ⟨_, rfl⟩ (.cons ⟨_, rfl⟩ (.cons ⟨_, rfl⟩ .nil))⟩
  have g_LONGEST : ∃ t, mg "LONGEST" = some (.int 60 t) := ⟨_, PySem.W.mg_of X Gn zg_LONGEST⟩
  have g_MOST_COMMANDS : ∃ t, mg "MOST_COMMANDS" = some (.int 300 t) := ⟨_, PySem.W.mg_of X Gn zg_MOST_COMMANDS⟩
  have g_MOST_PLACES : ∃ t, mg "MOST_PLACES" = some (.int 40 t) := ⟨_, PySem.W.mg_of X Gn zg_MOST_PLACES⟩
  have cl0 : Cls K C0 := ⟨pg0, hd0, po0, sa0⟩
  have cl1 : Cls K C1 := ⟨pg1, hd1, po1, sa1⟩
  have cl2 : Cls K C2 := ⟨pg2, hd2, po2, sa2⟩
  have cl5 : Cls K C5 := ⟨pg5, hd5, po5, sa5⟩
  have cl3 : Cls K C3 := ⟨pg3, hd3, po3, sa3⟩
  have cl4 : Cls K C4 := ⟨pg4, hd4, po4, sa4⟩
  have e_BadCommands : Err K mg G "BadCommands" 12 := ⟨⟨ex12, ek12, es12, et12⟩, PySem.W.mg_of X Gn ac12⟩
  have e_BadKind : Err K mg G "BadKind" 16 := ⟨⟨ex16, ek16, es16, et16⟩, PySem.W.mg_of X Gn ac16⟩
  have e_BadLength : Err K mg G "BadLength" 11 := ⟨⟨ex11, ek11, es11, et11⟩, PySem.W.mg_of X Gn ac11⟩
  have e_BadLetter : Err K mg G "BadLetter" 18 := ⟨⟨ex18, ek18, es18, et18⟩, PySem.W.mg_of X Gn ac18⟩
  have e_BadPlace : Err K mg G "BadPlace" 17 := ⟨⟨ex17, ek17, es17, et17⟩, PySem.W.mg_of X Gn ac17⟩
  have e_BadPlaces : Err K mg G "BadPlaces" 14 := ⟨⟨ex14, ek14, es14, et14⟩, PySem.W.mg_of X Gn ac14⟩
  have e_BadTale : Err K mg G "BadTale" 19 := ⟨⟨ex19, ek19, es19, et19⟩, PySem.W.mg_of X Gn ac19⟩
  have e_BadTick : Err K mg G "BadTick" 13 := ⟨⟨ex13, ek13, es13, et13⟩, PySem.W.mg_of X Gn ac13⟩
  have e_BadWatcher : Err K mg G "BadWatcher" 15 := ⟨⟨ex15, ek15, es15, et15⟩, PySem.W.mg_of X Gn ac15⟩
  have e_Busy : Err K mg G "Busy" 20 := ⟨⟨ex20, ek20, es20, et20⟩, PySem.W.mg_of X Gn ac20⟩
  have f_command : FldOk K G "command" := fld_of (fun c h => by
    rcases c with _ | _ | _ | _ | _ | _ | c <;> first | (exact absurd h (by decide +kernel)) | (exact absurd (show _ ∈ ([] : List Str) from h) List.not_mem_nil) | exact ⟨cl1, nf1_command⟩)
  have f_known : FldOk K G "known" := fld_of (fun c h => by
    rcases c with _ | _ | _ | _ | _ | _ | c <;> first | (exact absurd h (by decide +kernel)) | (exact absurd (show _ ∈ ([] : List Str) from h) List.not_mem_nil) | exact ⟨cl5, nf5_known⟩)
  have f_length : FldOk K G "length" := fld_of (fun c h => by
    rcases c with _ | _ | _ | _ | _ | _ | c <;> first | (exact absurd h (by decide +kernel)) | (exact absurd (show _ ∈ ([] : List Str) from h) List.not_mem_nil) | exact ⟨cl5, nf5_length⟩)
  have f_letters : FldOk K G "letters" := fld_of (fun c h => by
    rcases c with _ | _ | _ | _ | _ | _ | c <;> first | (exact absurd h (by decide +kernel)) | (exact absurd (show _ ∈ ([] : List Str) from h) List.not_mem_nil) | exact ⟨cl5, nf5_letters⟩)
  have f_line : FldOk K G "line" := fld_of (fun c h => by
    rcases c with _ | _ | _ | _ | _ | _ | c <;> first | (exact absurd h (by decide +kernel)) | (exact absurd (show _ ∈ ([] : List Str) from h) List.not_mem_nil) | exact ⟨cl4, nf4_line⟩)
  have f_lines : FldOk K G "lines" := fld_of (fun c h => by
    rcases c with _ | _ | _ | _ | _ | _ | c <;> first | (exact absurd h (by decide +kernel)) | (exact absurd (show _ ∈ ([] : List Str) from h) List.not_mem_nil) | exact ⟨cl5, nf5_lines⟩)
  have f_now : FldOk K G "now" := fld_of (fun c h => by
    rcases c with _ | _ | _ | _ | _ | _ | c <;> first | (exact absurd h (by decide +kernel)) | (exact absurd (show _ ∈ ([] : List Str) from h) List.not_mem_nil) | exact ⟨cl5, nf5_now⟩)
  have f_pairs : FldOk K G "pairs" := fld_of (fun c h => by
    rcases c with _ | _ | _ | _ | _ | _ | c <;> first | (exact absurd h (by decide +kernel)) | (exact absurd (show _ ∈ ([] : List Str) from h) List.not_mem_nil) | exact ⟨cl2, nf2_pairs⟩)
  have f_place : FldOk K G "place" := fld_of (fun c h => by
    rcases c with _ | _ | _ | _ | _ | _ | c <;> first | (exact absurd h (by decide +kernel)) | (exact absurd (show _ ∈ ([] : List Str) from h) List.not_mem_nil) | exact ⟨cl2, nf2_place⟩)
  have is_Apart : Isi K mg G [0, 1, 2, 5, 3, 4] "Apart" 1 := ⟨fun d hd => by
    simp only [List.mem_cons, List.not_mem_nil, or_false] at hd
    rcases hd with rfl | rfl | rfl | rfl | rfl | rfl
    · exact ⟨⟨cl0, iha0, ihn, ihtk, ihm0⟩, ik_Apart_0⟩
    · exact ⟨⟨cl1, iha1, ihn, ihtk, ihm1⟩, ik_Apart_1⟩
    · exact ⟨⟨cl2, iha2, ihn, ihtk, ihm2⟩, ik_Apart_2⟩
    · exact ⟨⟨cl5, iha5, ihn, ihtk, ihm5⟩, ik_Apart_5⟩
    · exact ⟨⟨cl3, iha3, ihn, ihtk, ihm3⟩, ik_Apart_3⟩
    · exact ⟨⟨cl4, iha4, ihn, ihtk, ihm4⟩, ik_Apart_4⟩, PySem.W.mg_of X Gn ac1⟩
  have is_Meet : Isi K mg G [0, 1, 2, 5, 3, 4] "Meet" 2 := ⟨fun d hd => by
    simp only [List.mem_cons, List.not_mem_nil, or_false] at hd
    rcases hd with rfl | rfl | rfl | rfl | rfl | rfl
    · exact ⟨⟨cl0, iha0, ihn, ihtk, ihm0⟩, ik_Meet_0⟩
    · exact ⟨⟨cl1, iha1, ihn, ihtk, ihm1⟩, ik_Meet_1⟩
    · exact ⟨⟨cl2, iha2, ihn, ihtk, ihm2⟩, ik_Meet_2⟩
    · exact ⟨⟨cl5, iha5, ihn, ihtk, ihm5⟩, ik_Meet_5⟩
    · exact ⟨⟨cl3, iha3, ihn, ihtk, ihm3⟩, ik_Meet_3⟩
    · exact ⟨⟨cl4, iha4, ihn, ihtk, ihm4⟩, ik_Meet_4⟩, PySem.W.mg_of X Gn ac2⟩
  have is_Right : Isi K mg G [0, 1, 2, 5, 3, 4] "Right" 3 := ⟨fun d hd => by
    simp only [List.mem_cons, List.not_mem_nil, or_false] at hd
    rcases hd with rfl | rfl | rfl | rfl | rfl | rfl
    · exact ⟨⟨cl0, iha0, ihn, ihtk, ihm0⟩, ik_Right_0⟩
    · exact ⟨⟨cl1, iha1, ihn, ihtk, ihm1⟩, ik_Right_1⟩
    · exact ⟨⟨cl2, iha2, ihn, ihtk, ihm2⟩, ik_Right_2⟩
    · exact ⟨⟨cl5, iha5, ihn, ihtk, ihm5⟩, ik_Right_5⟩
    · exact ⟨⟨cl3, iha3, ihn, ihtk, ihm3⟩, ik_Right_3⟩
    · exact ⟨⟨cl4, iha4, ihn, ihtk, ihm4⟩, ik_Right_4⟩, PySem.W.mg_of X Gn ac3⟩
  have is_Together : Isi K mg G [0, 1, 2, 5, 3, 4] "Together" 0 := ⟨fun d hd => by
    simp only [List.mem_cons, List.not_mem_nil, or_false] at hd
    rcases hd with rfl | rfl | rfl | rfl | rfl | rfl
    · exact ⟨⟨cl0, iha0, ihn, ihtk, ihm0⟩, ik_Together_0⟩
    · exact ⟨⟨cl1, iha1, ihn, ihtk, ihm1⟩, ik_Together_1⟩
    · exact ⟨⟨cl2, iha2, ihn, ihtk, ihm2⟩, ik_Together_2⟩
    · exact ⟨⟨cl5, iha5, ihn, ihtk, ihm5⟩, ik_Together_5⟩
    · exact ⟨⟨cl3, iha3, ihn, ihtk, ihm3⟩, ik_Together_3⟩
    · exact ⟨⟨cl4, iha4, ihn, ihtk, ihm4⟩, ik_Together_4⟩, PySem.W.mg_of X Gn ac0⟩
  have is_Wrong : Isi K mg G [0, 1, 2, 5, 3, 4] "Wrong" 4 := ⟨fun d hd => by
    simp only [List.mem_cons, List.not_mem_nil, or_false] at hd
    rcases hd with rfl | rfl | rfl | rfl | rfl | rfl
    · exact ⟨⟨cl0, iha0, ihn, ihtk, ihm0⟩, ik_Wrong_0⟩
    · exact ⟨⟨cl1, iha1, ihn, ihtk, ihm1⟩, ik_Wrong_1⟩
    · exact ⟨⟨cl2, iha2, ihn, ihtk, ihm2⟩, ik_Wrong_2⟩
    · exact ⟨⟨cl5, iha5, ihn, ihtk, ihm5⟩, ik_Wrong_5⟩
    · exact ⟨⟨cl3, iha3, ihn, ihtk, ihm3⟩, ik_Wrong_3⟩
    · exact ⟨⟨cl4, iha4, ihn, ihtk, ihm4⟩, ik_Wrong_4⟩, PySem.W.mg_of X Gn ac4⟩
  have m_Right : Mkr0 K mg G "Right" 3 := ⟨⟨mk3, oi3, kc3⟩, PySem.W.mg_of X Gn ac3⟩
  have m_Together : Mkr0 K mg G "Together" 0 := ⟨⟨mk0, oi0, kc0⟩, PySem.W.mg_of X Gn ac0⟩
  have t_WatchError : Tryf K mg G [11, 12, 13, 14, 15, 16, 17, 18, 19, 20] "WatchError" 10 := ⟨fun d hd => by
    simp only [List.mem_cons, List.not_mem_nil, or_false] at hd
    rcases hd with rfl | rfl | rfl | rfl | rfl | rfl | rfl | rfl | rfl | rfl
    · exact PySem.W.exm_ref ws10 wd10 wt10 xm11_WatchError
    · exact PySem.W.exm_ref ws10 wd10 wt10 xm12_WatchError
    · exact PySem.W.exm_ref ws10 wd10 wt10 xm13_WatchError
    · exact PySem.W.exm_ref ws10 wd10 wt10 xm14_WatchError
    · exact PySem.W.exm_ref ws10 wd10 wt10 xm15_WatchError
    · exact PySem.W.exm_ref ws10 wd10 wt10 xm16_WatchError
    · exact PySem.W.exm_ref ws10 wd10 wt10 xm17_WatchError
    · exact PySem.W.exm_ref ws10 wd10 wt10 xm18_WatchError
    · exact PySem.W.exm_ref ws10 wd10 wt10 xm19_WatchError
    · exact PySem.W.exm_ref ws10 wd10 wt10 xm20_WatchError, PySem.W.mg_of X Gn ac10⟩
  have o_is_whole : FD P w K mg base G 1 a_is_whole 1 d_is_whole := ok_is_whole F_is_whole v_is_whole b_bool b_int b_isinstance
  have c_is_whole : Cal P w K mg base G "is_whole" 1 1 d_is_whole := ⟨_, o_is_whole, PySem.W.mg_of X Gn n_is_whole_, k_is_whole⟩
  have o_asked_length : FD P w K mg base G 2 a_asked_length 1 d_asked_length := ok_asked_length F_asked_length v_asked_length c_is_whole e_BadLength g_GREATEST
  have c_asked_length : Cal P w K mg base G "asked_length" 2 1 d_asked_length := ⟨_, o_asked_length, PySem.W.mg_of X Gn n_asked_length_, k_asked_length⟩
  have o_is_command : FD P w K mg base G 2 a_is_command 2 d_is_command := ok_is_command F_is_command v_is_command b_all b_isinstance b_len b_str b_tuple c_is_whole g_HANDS g_KINDS
  have c_is_command : Cal P w K mg base G "is_command" 2 2 d_is_command := ⟨_, o_is_command, PySem.W.mg_of X Gn n_is_command_, k_is_command⟩
  have o_asked_commands : FD P w K mg base G 3 a_asked_commands 2 d_asked_commands := ok_asked_commands F_asked_commands v_asked_commands b_all b_isinstance b_len b_list c_is_command e_BadCommands g_MOST_COMMANDS
  have c_asked_commands : Cal P w K mg base G "asked_commands" 3 2 d_asked_commands := ⟨_, o_asked_commands, PySem.W.mg_of X Gn n_asked_commands_, k_asked_commands⟩
  have o_asked_tick : FD P w K mg base G 2 a_asked_tick 1 d_asked_tick := ok_asked_tick F_asked_tick v_asked_tick c_is_whole e_BadTick
  have c_asked_tick : Cal P w K mg base G "asked_tick" 2 1 d_asked_tick := ⟨_, o_asked_tick, PySem.W.mg_of X Gn n_asked_tick_, k_asked_tick⟩
  have o_stand_of : FD P w K mg base G 1 a_stand_of 3 d_stand_of := ok_stand_of F_stand_of v_stand_of b_min b_sorted
  have c_stand_of : Cal P w K mg base G "stand_of" 1 3 d_stand_of := ⟨_, o_stand_of, PySem.W.mg_of X Gn n_stand_of_, k_stand_of⟩
  have o_stand : FD P w K mg base G 4 a_stand 3 d_stand := ok_stand F_stand v_stand c_asked_commands c_asked_length c_asked_tick c_stand_of
  have c_stand : Cal P w K mg base G "stand" 4 3 d_stand := ⟨_, o_stand, PySem.W.mg_of X Gn n_stand_, k_stand⟩
  have o_unlike : FD P w K mg base G 1 a_unlike 3 d_unlike := ok_unlike F_unlike v_unlike b_set b_sorted
  have c_unlike : Cal P w K mg base G "unlike" 1 3 d_unlike := ⟨_, o_unlike, PySem.W.mg_of X Gn n_unlike_, k_unlike⟩
  have o_asked_two : FD P w K mg base G 4 a_asked_two 4 d_asked_two := ok_asked_two F_asked_two v_asked_two c_asked_commands c_asked_length c_asked_tick
  have c_asked_two : Cal P w K mg base G "asked_two" 4 4 d_asked_two := ⟨_, o_asked_two, PySem.W.mg_of X Gn n_asked_two_, k_asked_two⟩
  have o_at_most : FD P w K mg base G 5 a_at_most 4 d_at_most := ok_at_most F_at_most v_at_most c_asked_two c_unlike
  have c_at_most : Cal P w K mg base G "at_most" 5 4 d_at_most := ⟨_, o_at_most, PySem.W.mg_of X Gn n_at_most_, k_at_most⟩
  have o_Together_shows : FD P w K mg base G 2 a_Together_shows 5 d_Together_shows := ok_Together_shows F_Together_shows v_Together_shows c_stand_of
  have o_Apart_init : FD P w K mg base G 1 a_Apart_init 2 d_Apart_init := ok_Apart_init F_Apart_init v_Apart_init f_command
  have m_Apart : Mkr P w K mg base G "Apart" 1 1 2 d_Apart_init := ⟨_, ⟨mk1, n_Apart_init_, i_Apart_init, kc1⟩, o_Apart_init, PySem.W.mg_of X Gn ac1⟩
  have o_Apart_shows : FD P w K mg base G 2 a_Apart_shows 5 d_Apart_shows := ok_Apart_shows F_Apart_shows v_Apart_shows c_stand_of f_command
  have o_Meet_init : FD P w K mg base G 1 a_Meet_init 3 d_Meet_init := ok_Meet_init F_Meet_init v_Meet_init b_list f_pairs f_place
  have m_Meet : Mkr P w K mg base G "Meet" 2 1 3 d_Meet_init := ⟨_, ⟨mk2, n_Meet_init_, i_Meet_init, kc2⟩, o_Meet_init, PySem.W.mg_of X Gn ac2⟩
  have o_Meet_shows : FD P w K mg base G 1 a_Meet_shows 2 d_Meet_shows := ok_Meet_shows F_Meet_shows v_Meet_shows b_abs b_all b_len b_set b_sum f_pairs f_place
  have o_judged : FD P w K mg base G 5 a_judged 4 d_judged := ok_judged F_judged v_judged c_asked_two c_stand_of c_unlike m_Apart m_Together
  have c_judged : Cal P w K mg base G "judged" 5 4 d_judged := ⟨_, o_judged, PySem.W.mg_of X Gn n_judged_, k_judged⟩
  have o_asked_places : FD P w K mg base G 2 a_asked_places 1 d_asked_places := ok_asked_places F_asked_places v_asked_places b_all b_isinstance b_len b_list c_is_whole e_BadPlaces g_GREATEST g_MOST_PLACES
  have c_asked_places : Cal P w K mg base G "asked_places" 2 1 d_asked_places := ⟨_, o_asked_places, PySem.W.mg_of X Gn n_asked_places_, k_asked_places⟩
  have o_meet : FD P w K mg base G 3 a_meet 1 d_meet := ok_meet F_meet v_meet b_enumerate b_len b_range b_sorted c_asked_places m_Meet
  have c_meet : Cal P w K mg base G "meet" 3 1 d_meet := ⟨_, o_meet, PySem.W.mg_of X Gn n_meet_, k_meet⟩
  have o_least_jumps : FD P w K mg base G 3 a_least_jumps 1 d_least_jumps := ok_least_jumps F_least_jumps v_least_jumps b_abs b_len b_sorted b_sum c_asked_places
  have c_least_jumps : Cal P w K mg base G "least_jumps" 3 1 d_least_jumps := ⟨_, o_least_jumps, PySem.W.mg_of X Gn n_least_jumps_, k_least_jumps⟩
  have o_Room_init : FD P w K mg base G 3 a_Room_init 3 d_Room_init := ok_Room_init F_Room_init v_Room_init b_range c_asked_length c_is_whole e_BadWatcher f_known f_length f_letters f_lines f_now g_HANDS
  have m_Room : Mkr P w K mg base G "Room" 5 3 3 d_Room_init := ⟨_, ⟨mk5, n_Room_init_, i_Room_init, kc5⟩, o_Room_init, PySem.W.mg_of X Gn ac5⟩
  have o_Room_asked_watcher : FD P w K mg base G 2 a_Room_asked_watcher 2 d_Room_asked_watcher := ok_Room_asked_watcher F_Room_asked_watcher v_Room_asked_watcher b_len c_is_whole e_BadWatcher f_known
  have h_asked_watcher : MD P w K mg base G 2 "asked_watcher" ms_asked_watcher := by
    intro c n d h
    unfold ms_asked_watcher at h
    split at h
    · obtain ⟨rfl, rfl⟩ := Prod.mk.inj (Option.some.inj h)
      exact ⟨cl5, by decide +kernel, a_Room_asked_watcher, ⟨n_Room_asked_watcher_, i_Room_asked_watcher, k_Room_asked_watcher⟩, o_Room_asked_watcher.mono (by decide)⟩
    · cases h
  have o_Room_order : FD P w K mg base G 3 a_Room_order 4 d_Room_order := ok_Room_order F_Room_order v_Room_order b_isinstance b_len b_str c_is_whole e_BadKind e_BadPlace e_Busy f_known f_length f_letters f_lines f_now g_KINDS g_MOST_COMMANDS h_asked_watcher
  have h_order : MD P w K mg base G 3 "order" ms_order := by
    intro c n d h
    unfold ms_order at h
    split at h
    · obtain ⟨rfl, rfl⟩ := Prod.mk.inj (Option.some.inj h)
      exact ⟨cl5, by decide +kernel, a_Room_order, ⟨n_Room_order_, i_Room_order, k_Room_order⟩, o_Room_order.mono (by decide)⟩
    · cases h
  have o_Room_bring : FD P w K mg base G 3 a_Room_bring 3 d_Room_bring := ok_Room_bring F_Room_bring v_Room_bring b_len c_is_whole e_BadLetter f_known f_letters f_lines h_asked_watcher
  have h_bring : MD P w K mg base G 3 "bring" ms_bring := by
    intro c n d h
    unfold ms_bring at h
    split at h
    · obtain ⟨rfl, rfl⟩ := Prod.mk.inj (Option.some.inj h)
      exact ⟨cl5, by decide +kernel, a_Room_bring, ⟨n_Room_bring_, i_Room_bring, k_Room_bring⟩, o_Room_bring.mono (by decide)⟩
    · cases h
  have o_Room_tick : FD P w K mg base G 2 a_Room_tick 2 d_Room_tick := ok_Room_tick F_Room_tick v_Room_tick c_is_whole e_BadTick f_lines f_now
  have h_tick : MD P w K mg base G 2 "tick" ms_tick := by
    intro c n d h
    unfold ms_tick at h
    split at h
    · obtain ⟨rfl, rfl⟩ := Prod.mk.inj (Option.some.inj h)
      exact ⟨cl5, by decide +kernel, a_Room_tick, ⟨n_Room_tick_, i_Room_tick, k_Room_tick⟩, o_Room_tick.mono (by decide)⟩
    · cases h
  have o_Room_stands : FD P w K mg base G 3 a_Room_stands 2 d_Room_stands := ok_Room_stands F_Room_stands v_Room_stands c_stand_of f_known f_length f_now h_asked_watcher
  have h_stands : MD P w K mg base G 3 "stands" ms_stands := by
    intro c n d h
    unfold ms_stands at h
    split at h
    · obtain ⟨rfl, rfl⟩ := Prod.mk.inj (Option.some.inj h)
      exact ⟨cl5, by decide +kernel, a_Room_stands, ⟨n_Room_stands_, i_Room_stands, k_Room_stands⟩, o_Room_stands.mono (by decide)⟩
    · cases h
  have o_Room_knows : FD P w K mg base G 3 a_Room_knows 2 d_Room_knows := ok_Room_knows F_Room_knows v_Room_knows b_sorted f_known h_asked_watcher
  have h_knows : MD P w K mg base G 3 "knows" ms_knows := by
    intro c n d h
    unfold ms_knows at h
    split at h
    · obtain ⟨rfl, rfl⟩ := Prod.mk.inj (Option.some.inj h)
      exact ⟨cl5, by decide +kernel, a_Room_knows, ⟨n_Room_knows_, i_Room_knows, k_Room_knows⟩, o_Room_knows.mono (by decide)⟩
    · cases h
  have o_Room_at_rest : FD P w K mg base G 1 a_Room_at_rest 1 d_Room_at_rest := ok_Room_at_rest F_Room_at_rest v_Room_at_rest b_all b_len f_known f_letters
  have h_at_rest : MD P w K mg base G 1 "at_rest" ms_at_rest := by
    intro c n d h
    unfold ms_at_rest at h
    split at h
    · obtain ⟨rfl, rfl⟩ := Prod.mk.inj (Option.some.inj h)
      exact ⟨cl5, by decide +kernel, a_Room_at_rest, ⟨n_Room_at_rest_, i_Room_at_rest, k_Room_at_rest⟩, o_Room_at_rest.mono (by decide)⟩
    · cases h
  have o_Room_tale : FD P w K mg base G 1 a_Room_tale 1 d_Room_tale := ok_Room_tale F_Room_tale v_Room_tale b_list f_lines
  have h_tale : MD P w K mg base G 1 "tale" ms_tale := by
    intro c n d h
    unfold ms_tale at h
    split at h
    · obtain ⟨rfl, rfl⟩ := Prod.mk.inj (Option.some.inj h)
      exact ⟨cl5, by decide +kernel, a_Room_tale, ⟨n_Room_tale_, i_Room_tale, k_Room_tale⟩, o_Room_tale.mono (by decide)⟩
    · cases h
  have o_is_line : FD P w K mg base G 2 a_is_line 1 d_is_line := ok_is_line F_is_line v_is_line b_all b_isinstance b_len b_str b_tuple c_is_whole
  have c_is_line : Cal P w K mg base G "is_line" 2 1 d_is_line := ⟨_, o_is_line, PySem.W.mg_of X Gn n_is_line_, k_is_line⟩
  have o_can_come : FD P w K mg base G 4 a_can_come 2 d_can_come := ok_can_come F_can_come v_can_come h_bring h_order h_stands h_tick t_WatchError
  have c_can_come : Cal P w K mg base G "can_come" 4 2 d_can_come := ⟨_, o_can_come, PySem.W.mg_of X Gn n_can_come_, k_can_come⟩
  have o_first_wrong : FD P w K mg base G 5 a_first_wrong 3 d_first_wrong := ok_first_wrong F_first_wrong v_first_wrong b_enumerate c_can_come m_Room
  have c_first_wrong : Cal P w K mg base G "first_wrong" 5 3 d_first_wrong := ⟨_, o_first_wrong, PySem.W.mg_of X Gn n_first_wrong_, k_first_wrong⟩
  have o_Right_shows : FD P w K mg base G 6 a_Right_shows 4 d_Right_shows := ok_Right_shows F_Right_shows v_Right_shows c_first_wrong
  have o_Wrong_init : FD P w K mg base G 1 a_Wrong_init 2 d_Wrong_init := ok_Wrong_init F_Wrong_init v_Wrong_init f_line
  have m_Wrong : Mkr P w K mg base G "Wrong" 4 1 2 d_Wrong_init := ⟨_, ⟨mk4, n_Wrong_init_, i_Wrong_init, kc4⟩, o_Wrong_init, PySem.W.mg_of X Gn ac4⟩
  have o_Wrong_shows : FD P w K mg base G 6 a_Wrong_shows 4 d_Wrong_shows := ok_Wrong_shows F_Wrong_shows v_Wrong_shows c_first_wrong f_line
  have h_shows : MD P w K mg base G 6 "shows" ms_shows := by
    intro c n d h
    unfold ms_shows at h
    split at h
    · obtain ⟨rfl, rfl⟩ := Prod.mk.inj (Option.some.inj h)
      exact ⟨cl0, by decide +kernel, a_Together_shows, ⟨n_Together_shows_, i_Together_shows, k_Together_shows⟩, o_Together_shows.mono (by decide)⟩
    · obtain ⟨rfl, rfl⟩ := Prod.mk.inj (Option.some.inj h)
      exact ⟨cl1, by decide +kernel, a_Apart_shows, ⟨n_Apart_shows_, i_Apart_shows, k_Apart_shows⟩, o_Apart_shows.mono (by decide)⟩
    · obtain ⟨rfl, rfl⟩ := Prod.mk.inj (Option.some.inj h)
      exact ⟨cl2, by decide +kernel, a_Meet_shows, ⟨n_Meet_shows_, i_Meet_shows, k_Meet_shows⟩, o_Meet_shows.mono (by decide)⟩
    · obtain ⟨rfl, rfl⟩ := Prod.mk.inj (Option.some.inj h)
      exact ⟨cl3, by decide +kernel, a_Right_shows, ⟨n_Right_shows_, i_Right_shows, k_Right_shows⟩, o_Right_shows.mono (by decide)⟩
    · obtain ⟨rfl, rfl⟩ := Prod.mk.inj (Option.some.inj h)
      exact ⟨cl4, by decide +kernel, a_Wrong_shows, ⟨n_Wrong_shows_, i_Wrong_shows, k_Wrong_shows⟩, o_Wrong_shows.mono (by decide)⟩
    · cases h
  have o_tale_judged : FD P w K mg base G 6 a_tale_judged 3 d_tale_judged := ok_tale_judged F_tale_judged v_tale_judged b_all b_isinstance b_len b_list c_first_wrong c_is_line e_BadTale g_LONGEST m_Right m_Room m_Wrong
  have c_tale_judged : Cal P w K mg base G "tale_judged" 6 3 d_tale_judged := ⟨_, o_tale_judged, PySem.W.mg_of X Gn n_tale_judged_, k_tale_judged⟩
  have o_law_number : FD P w K mg base G 1 a_law_number 3 d_law_number := ok_law_number F_law_number v_law_number
  have c_law_number : Cal P w K mg base G "_law_number" 1 3 d_law_number := ⟨_, o_law_number, PySem.W.mg_of X Gn n_law_number_, k_law_number⟩
  have o_law_commands : FD P w K mg base G 2 a_law_commands 5 d_law_commands := ok_law_commands F_law_commands v_law_commands b_abs b_len b_range b_sum c_law_number
  have c_law_commands : Cal P w K mg base G "_law_commands" 2 5 d_law_commands := ⟨_, o_law_commands, PySem.W.mg_of X Gn n_law_commands_, k_law_commands⟩
  have o_law_stand : FD P w K mg base G 1 a_law_stand 3 d_law_stand := ok_law_stand F_law_stand v_law_stand b_min b_sorted
  have c_law_stand : Cal P w K mg base G "_law_stand" 1 3 d_law_stand := ⟨_, o_law_stand, PySem.W.mg_of X Gn n_law_stand_, k_law_stand⟩
  have o_law_length : FD P w K mg base G 1 a_law_length 1 d_law_length := ok_law_length F_law_length v_law_length
  have c_law_length : Cal P w K mg base G "_law_length" 1 1 d_law_length := ⟨_, o_law_length, PySem.W.mg_of X Gn n_law_length_, k_law_length⟩
  have o_law_due : FD P w K mg base G 2 a_law_due 5 d_law_due := ok_law_due F_law_due v_law_due c_law_stand
  have c_law_due : Cal P w K mg base G "_law_due" 2 5 d_law_due := ⟨_, o_law_due, PySem.W.mg_of X Gn n_law_due_, k_law_due⟩
  have o_law_places : FD P w K mg base G 2 a_law_places 3 d_law_places := ok_law_places F_law_places v_law_places b_abs b_len b_range b_sum c_law_number
  have c_law_places : Cal P w K mg base G "_law_places" 2 3 d_law_places := ⟨_, o_law_places, PySem.W.mg_of X Gn n_law_places_, k_law_places⟩
  have o_law_meets : FD P w K mg base G 1 a_law_meets 3 d_law_meets := ok_law_meets F_law_meets v_law_meets b_abs b_any b_len b_set b_sum
  have c_law_meets : Cal P w K mg base G "_law_meets" 1 3 d_law_meets := ⟨_, o_law_meets, PySem.W.mg_of X Gn n_law_meets_, k_law_meets⟩
  have o_law_first : FD P w K mg base G 1 a_law_first 3 d_law_first := ok_law_first F_law_first v_law_first b_min
  have c_law_first : Cal P w K mg base G "_law_first" 1 3 d_law_first := ⟨_, o_law_first, PySem.W.mg_of X Gn n_law_first_, k_law_first⟩
  have o_law_pair_due : FD P w K mg base G 3 a_law_pair_due 5 d_law_pair_due := ok_law_pair_due F_law_pair_due v_law_pair_due b_isinstance c_law_due c_law_stand f_command is_Apart is_Together
  have c_law_pair_due : Cal P w K mg base G "_law_pair_due" 3 5 d_law_pair_due := ⟨_, o_law_pair_due, PySem.W.mg_of X Gn n_law_pair_due_, k_law_pair_due⟩
  have o_law_right : FD P w K mg base G 6 a_law_right 4 d_law_right := ok_law_right F_law_right v_law_right c_at_most c_judged c_law_first c_law_pair_due c_law_stand c_stand
  have c_law_right : Cal P w K mg base G "_law_right" 6 4 d_law_right := ⟨_, o_law_right, PySem.W.mg_of X Gn n_law_right_, k_law_right⟩
  have o_law_places_right : FD P w K mg base G 4 a_law_places_right 1 d_law_places_right := ok_law_places_right F_law_places_right v_law_places_right b_abs b_isinstance b_len b_sorted b_sum c_law_meets c_least_jumps c_meet f_pairs f_place is_Meet
  have c_law_places_right : Cal P w K mg base G "_law_places_right" 4 1 d_law_places_right := ⟨_, o_law_places_right, PySem.W.mg_of X Gn n_law_places_right_, k_law_places_right⟩
  have o_law_changed : FD P w K mg base G 1 a_law_changed 5 d_law_changed := ok_law_changed F_law_changed v_law_changed b_len
  have c_law_changed : Cal P w K mg base G "_law_changed" 1 5 d_law_changed := ⟨_, o_law_changed, PySem.W.mg_of X Gn n_law_changed_, k_law_changed⟩
  have o_law_room_right : FD P w K mg base G 7 a_law_room_right 1 d_law_room_right := ok_law_room_right F_law_room_right v_law_room_right b_isinstance c_tale_judged f_line h_at_rest h_bring h_knows h_order h_shows h_tale h_tick is_Right is_Wrong m_Room
  have c_law_room_right : Cal P w K mg base G "_law_room_right" 7 1 d_law_room_right := ⟨_, o_law_room_right, PySem.W.mg_of X Gn n_law_room_right_, k_law_room_right⟩
  exact (ok_law F_law b_abs b_range b_sum c_judged c_law_changed c_law_commands c_law_length c_law_meets c_law_pair_due c_law_places c_law_places_right c_law_right c_law_room_right c_meet f_pairs f_place h_shows).imp fun vs H Q E p => spLaw_of law_true vs H Q E p
end Wt.Lk10

open PySem PySem.W PyProof.Rows
set_option maxRecDepth 100000 in
set_option maxHeartbeats 0 in
theorem PySem.Challenge.cw_watchtogether_k10_whole_anew_holds : PySem.Challenge.rw_watchtogether_k10_whole_anew.Holds := by
  w_on; o_law; k_head; (case hw => w_witness2)
  k_fill
  refine L2.walk_ofB (l := PySem.Challenge.rw_watchtogether_k10_whole_anew) (n := 63) (k := 8) (x := "_law_script") (CX := fun w => L2.CX (PySem.Challenge.rw_watchtogether_k10_whole_anew).prog w) (sp := fun w => Wt.spLaw _) rfl (by decide) rfl ⟨rfl, by decide, by decide⟩ (fun w h Y => PySem.W.kIn_of Y) ?F (fun _ _ a ns hl hb ho hs => ⟨a, ns, rfl, hl, hb, ho, hs, fun _ => rfl⟩) (fun w H s e s' h => Wt.noCX w H s e s' h)
  case F =>
    intro w mg fa h KX G hmg
    refine' Wt.Lk10.all_mk KX G hmg ?ac10 ?ac11 ?ac12 ?ac13 ?ac14 ?ac15 ?ac16 ?ac17 ?ac18 ?ac19 ?ac20 ?ac6 ?ac0 ?ac1 ?ac2 ?ac5 ?ac3 ?ac4 ?zb_abs ?zb_all ?zb_any ?zb_bool ?zb_enumerate ?zb_int ?zb_isinstance ?zb_len ?zb_list ?zb_min ?zb_range ?zb_set ?zb_sorted ?zb_str ?zb_sum ?zb_tuple ?zg_GREATEST ?zg_HANDS ?zg_KINDS ?yg_KINDS ?zg_LONGEST ?zg_MOST_COMMANDS ?zg_MOST_PLACES ?pg0 ?hd0 ?po0 ?sa0 ?mk0 ?kc0 ?oi0 ?pg1 ?hd1 ?po1 ?sa1 ?mk1 ?kc1 ?nf1_command ?pg2 ?hd2 ?po2 ?sa2 ?mk2 ?kc2 ?nf2_place ?nf2_pairs ?pg5 ?hd5 ?po5 ?sa5 ?mk5 ?kc5 ?nf5_length ?nf5_known ?nf5_letters ?nf5_now ?nf5_lines ?pg3 ?hd3 ?po3 ?sa3 ?mk3 ?kc3 ?oi3 ?pg4 ?hd4 ?po4 ?sa4 ?mk4 ?kc4 ?nf4_line ?ihn ?ihtk ?iha0 ?ihm0 ?iha1 ?ihm1 ?iha2 ?ihm2 ?iha5 ?ihm5 ?iha3 ?ihm3 ?iha4 ?ihm4 ?ik_Apart_0 ?ik_Apart_1 ?ik_Apart_2 ?ik_Apart_5 ?ik_Apart_3 ?ik_Apart_4 ?ik_Meet_0 ?ik_Meet_1 ?ik_Meet_2 ?ik_Meet_5 ?ik_Meet_3 ?ik_Meet_4 ?ik_Right_0 ?ik_Right_1 ?ik_Right_2 ?ik_Right_5 ?ik_Right_3 ?ik_Right_4 ?ik_Together_0 ?ik_Together_1 ?ik_Together_2 ?ik_Together_5 ?ik_Together_3 ?ik_Together_4 ?ik_Wrong_0 ?ik_Wrong_1 ?ik_Wrong_2 ?ik_Wrong_5 ?ik_Wrong_3 ?ik_Wrong_4 ?ex12 ?ek12 ?es12 ?et12 ?ex16 ?ek16 ?es16 ?et16 ?ex11 ?ek11 ?es11 ?et11 ?ex18 ?ek18 ?es18 ?et18 ?ex17 ?ek17 ?es17 ?et17 ?ex14 ?ek14 ?es14 ?et14 ?ex19 ?ek19 ?es19 ?et19 ?ex13 ?ek13 ?es13 ?et13 ?ex15 ?ek15 ?es15 ?et15 ?ex20 ?ek20 ?es20 ?et20 ?ws10 ?wd10 ?wt10 ?xm11_WatchError ?xm12_WatchError ?xm13_WatchError ?xm14_WatchError ?xm15_WatchError ?xm16_WatchError ?xm17_WatchError ?xm18_WatchError ?xm19_WatchError ?xm20_WatchError ?n_is_whole_ ?l_is_whole ?q_is_whole ?k_is_whole ?n_asked_length_ ?l_asked_length ?q_asked_length ?k_asked_length ?n_is_command_ ?l_is_command ?q_is_command ?k_is_command ?n_asked_commands_ ?l_asked_commands ?q_asked_commands ?k_asked_commands ?n_asked_tick_ ?l_asked_tick ?q_asked_tick ?k_asked_tick ?n_stand_of_ ?l_stand_of ?q_stand_of ?k_stand_of ?n_stand_ ?l_stand ?q_stand ?k_stand ?n_unlike_ ?l_unlike ?q_unlike ?k_unlike ?n_asked_two_ ?l_asked_two ?q_asked_two ?k_asked_two ?n_at_most_ ?l_at_most ?q_at_most ?k_at_most ?n_Together_shows_ ?i_Together_shows ?l_Together_shows ?q_Together_shows ?k_Together_shows ?n_Apart_init_ ?i_Apart_init ?l_Apart_init ?q_Apart_init ?k_Apart_init ?n_Apart_shows_ ?i_Apart_shows ?l_Apart_shows ?q_Apart_shows ?k_Apart_shows ?n_Meet_init_ ?i_Meet_init ?l_Meet_init ?q_Meet_init ?k_Meet_init ?n_Meet_shows_ ?i_Meet_shows ?l_Meet_shows ?q_Meet_shows ?k_Meet_shows ?n_judged_ ?l_judged ?q_judged ?k_judged ?n_asked_places_ ?l_asked_places ?q_asked_places ?k_asked_places ?n_meet_ ?l_meet ?q_meet ?k_meet ?n_least_jumps_ ?l_least_jumps ?q_least_jumps ?k_least_jumps ?n_Room_init_ ?i_Room_init ?l_Room_init ?q_Room_init ?k_Room_init ?n_Room_asked_watcher_ ?i_Room_asked_watcher ?l_Room_asked_watcher ?q_Room_asked_watcher ?k_Room_asked_watcher ?n_Room_order_ ?i_Room_order ?l_Room_order ?q_Room_order ?k_Room_order ?n_Room_bring_ ?i_Room_bring ?l_Room_bring ?q_Room_bring ?k_Room_bring ?n_Room_tick_ ?i_Room_tick ?l_Room_tick ?q_Room_tick ?k_Room_tick ?n_Room_stands_ ?i_Room_stands ?l_Room_stands ?q_Room_stands ?k_Room_stands ?n_Room_knows_ ?i_Room_knows ?l_Room_knows ?q_Room_knows ?k_Room_knows ?n_Room_at_rest_ ?i_Room_at_rest ?l_Room_at_rest ?q_Room_at_rest ?k_Room_at_rest ?n_Room_tale_ ?i_Room_tale ?l_Room_tale ?q_Room_tale ?k_Room_tale ?n_is_line_ ?l_is_line ?q_is_line ?k_is_line ?n_can_come_ ?l_can_come ?q_can_come ?k_can_come ?n_first_wrong_ ?l_first_wrong ?q_first_wrong ?k_first_wrong ?n_Right_shows_ ?i_Right_shows ?l_Right_shows ?q_Right_shows ?k_Right_shows ?n_Wrong_init_ ?i_Wrong_init ?l_Wrong_init ?q_Wrong_init ?k_Wrong_init ?n_Wrong_shows_ ?i_Wrong_shows ?l_Wrong_shows ?q_Wrong_shows ?k_Wrong_shows ?n_tale_judged_ ?l_tale_judged ?q_tale_judged ?k_tale_judged ?n_law_number_ ?l_law_number ?q_law_number ?k_law_number ?n_law_commands_ ?l_law_commands ?q_law_commands ?k_law_commands ?n_law_stand_ ?l_law_stand ?q_law_stand ?k_law_stand ?n_law_length_ ?l_law_length ?q_law_length ?k_law_length ?n_law_due_ ?l_law_due ?q_law_due ?k_law_due ?n_law_places_ ?l_law_places ?q_law_places ?k_law_places ?n_law_meets_ ?l_law_meets ?q_law_meets ?k_law_meets ?n_law_first_ ?l_law_first ?q_law_first ?k_law_first ?n_law_pair_due_ ?l_law_pair_due ?q_law_pair_due ?k_law_pair_due ?n_law_right_ ?l_law_right ?q_law_right ?k_law_right ?n_law_places_right_ ?l_law_places_right ?q_law_places_right ?k_law_places_right ?n_law_changed_ ?l_law_changed ?q_law_changed ?k_law_changed ?n_law_room_right_ ?l_law_room_right ?q_law_room_right ?k_law_room_right ?n_law_ ?l_law ?q_law ?k_law
    (case ac10 => k_is)
    (case ac11 => k_is)
    (case ac12 => k_is)
    (case ac13 => k_is)
    (case ac14 => k_is)
    (case ac15 => k_is)
    (case ac16 => k_is)
    (case ac17 => k_is)
    (case ac18 => k_is)
    (case ac19 => k_is)
    (case ac20 => k_is)
    (case ac6 => k_is)
    (case ac0 => k_is)
    (case ac1 => k_is)
    (case ac2 => k_is)
    (case ac5 => k_is)
    (case ac3 => k_is)
    (case ac4 => k_is)
    (case zb_abs => k_is)
    (case zb_all => k_is)
    (case zb_any => k_is)
    (case zb_bool => k_is)
    (case zb_enumerate => k_is)
    (case zb_int => k_is)
    (case zb_isinstance => k_is)
    (case zb_len => k_is)
    (case zb_list => k_is)
    (case zb_min => k_is)
    (case zb_range => k_is)
    (case zb_set => k_is)
    (case zb_sorted => k_is)
    (case zb_str => k_is)
    (case zb_sum => k_is)
    (case zb_tuple => k_is)
    (case zg_GREATEST => k_is)
    (case zg_HANDS => k_is)
    (case zg_KINDS => k_is)
    (case yg_KINDS => k_is)
    (case zg_LONGEST => k_is)
    (case zg_MOST_COMMANDS => k_is)
    (case zg_MOST_PLACES => k_is)
    (case pg0 => k_is)
    (case hd0 => k_is)
    (case po0 => k_is)
    (case sa0 => k_is)
    (case mk0 => k_is)
    (case kc0 => k_is)
    (case oi0 => k_is)
    (case pg1 => k_is)
    (case hd1 => k_is)
    (case po1 => k_is)
    (case sa1 => k_is)
    (case mk1 => k_is)
    (case kc1 => k_is)
    (case nf1_command => k_is)
    (case pg2 => k_is)
    (case hd2 => k_is)
    (case po2 => k_is)
    (case sa2 => k_is)
    (case mk2 => k_is)
    (case kc2 => k_is)
    (case nf2_place => k_is)
    (case nf2_pairs => k_is)
    (case pg5 => k_is)
    (case hd5 => k_is)
    (case po5 => k_is)
    (case sa5 => k_is)
    (case mk5 => k_is)
    (case kc5 => k_is)
    (case nf5_length => k_is)
    (case nf5_known => k_is)
    (case nf5_letters => k_is)
    (case nf5_now => k_is)
    (case nf5_lines => k_is)
    (case pg3 => k_is)
    (case hd3 => k_is)
    (case po3 => k_is)
    (case sa3 => k_is)
    (case mk3 => k_is)
    (case kc3 => k_is)
    (case oi3 => k_is)
    (case pg4 => k_is)
    (case hd4 => k_is)
    (case po4 => k_is)
    (case sa4 => k_is)
    (case mk4 => k_is)
    (case kc4 => k_is)
    (case nf4_line => k_is)
    (case ihn => k_is)
    (case ihtk => k_is)
    (case iha0 => k_is)
    (case ihm0 => k_is)
    (case iha1 => k_is)
    (case ihm1 => k_is)
    (case iha2 => k_is)
    (case ihm2 => k_is)
    (case iha5 => k_is)
    (case ihm5 => k_is)
    (case iha3 => k_is)
    (case ihm3 => k_is)
    (case iha4 => k_is)
    (case ihm4 => k_is)
    (case ik_Apart_0 => kit_is)
    (case ik_Apart_1 => kit_is)
    (case ik_Apart_2 => kit_is)
    (case ik_Apart_5 => kit_is)
    (case ik_Apart_3 => kit_is)
    (case ik_Apart_4 => kit_is)
    (case ik_Meet_0 => kit_is)
    (case ik_Meet_1 => kit_is)
    (case ik_Meet_2 => kit_is)
    (case ik_Meet_5 => kit_is)
    (case ik_Meet_3 => kit_is)
    (case ik_Meet_4 => kit_is)
    (case ik_Right_0 => kit_is)
    (case ik_Right_1 => kit_is)
    (case ik_Right_2 => kit_is)
    (case ik_Right_5 => kit_is)
    (case ik_Right_3 => kit_is)
    (case ik_Right_4 => kit_is)
    (case ik_Together_0 => kit_is)
    (case ik_Together_1 => kit_is)
    (case ik_Together_2 => kit_is)
    (case ik_Together_5 => kit_is)
    (case ik_Together_3 => kit_is)
    (case ik_Together_4 => kit_is)
    (case ik_Wrong_0 => kit_is)
    (case ik_Wrong_1 => kit_is)
    (case ik_Wrong_2 => kit_is)
    (case ik_Wrong_5 => kit_is)
    (case ik_Wrong_3 => kit_is)
    (case ik_Wrong_4 => kit_is)
    (case ex12 => k_exc)
    (case ek12 => k_is)
    (case es12 => k_is)
    (case et12 => k_is)
    (case ex16 => k_exc)
    (case ek16 => k_is)
    (case es16 => k_is)
    (case et16 => k_is)
    (case ex11 => k_exc)
    (case ek11 => k_is)
    (case es11 => k_is)
    (case et11 => k_is)
    (case ex18 => k_exc)
    (case ek18 => k_is)
    (case es18 => k_is)
    (case et18 => k_is)
    (case ex17 => k_exc)
    (case ek17 => k_is)
    (case es17 => k_is)
    (case et17 => k_is)
    (case ex14 => k_exc)
    (case ek14 => k_is)
    (case es14 => k_is)
    (case et14 => k_is)
    (case ex19 => k_exc)
    (case ek19 => k_is)
    (case es19 => k_is)
    (case et19 => k_is)
    (case ex13 => k_exc)
    (case ek13 => k_is)
    (case es13 => k_is)
    (case et13 => k_is)
    (case ex15 => k_exc)
    (case ek15 => k_is)
    (case es15 => k_is)
    (case et15 => k_is)
    (case ex20 => k_exc)
    (case ek20 => k_is)
    (case es20 => k_is)
    (case et20 => k_is)
    (case ws10 => k_is)
    (case wd10 => k_is)
    (case wt10 => k_is)
    (case xm11_WatchError => k_is)
    (case xm12_WatchError => k_is)
    (case xm13_WatchError => k_is)
    (case xm14_WatchError => k_is)
    (case xm15_WatchError => k_is)
    (case xm16_WatchError => k_is)
    (case xm17_WatchError => k_is)
    (case xm18_WatchError => k_is)
    (case xm19_WatchError => k_is)
    (case xm20_WatchError => k_is)
    (case n_is_whole_ => k_is)
    (case l_is_whole => k_is)
    (case q_is_whole => k_is)
    (case k_is_whole => k_is)
    (case n_asked_length_ => k_is)
    (case l_asked_length => k_is)
    (case q_asked_length => k_is)
    (case k_asked_length => k_is)
    (case n_is_command_ => k_is)
    (case l_is_command => k_is)
    (case q_is_command => k_is)
    (case k_is_command => k_is)
    (case n_asked_commands_ => k_is)
    (case l_asked_commands => k_is)
    (case q_asked_commands => k_is)
    (case k_asked_commands => k_is)
    (case n_asked_tick_ => k_is)
    (case l_asked_tick => k_is)
    (case q_asked_tick => k_is)
    (case k_asked_tick => k_is)
    (case n_stand_of_ => k_is)
    (case l_stand_of => k_is)
    (case q_stand_of => k_is)
    (case k_stand_of => k_is)
    (case n_stand_ => k_is)
    (case l_stand => k_is)
    (case q_stand => k_is)
    (case k_stand => k_is)
    (case n_unlike_ => k_is)
    (case l_unlike => k_is)
    (case q_unlike => k_is)
    (case k_unlike => k_is)
    (case n_asked_two_ => k_is)
    (case l_asked_two => k_is)
    (case q_asked_two => k_is)
    (case k_asked_two => k_is)
    (case n_at_most_ => k_is)
    (case l_at_most => k_is)
    (case q_at_most => k_is)
    (case k_at_most => k_is)
    (case n_Together_shows_ => k_is)
    (case i_Together_shows => k_is)
    (case l_Together_shows => k_is)
    (case q_Together_shows => k_is)
    (case k_Together_shows => k_is)
    (case n_Apart_init_ => k_is)
    (case i_Apart_init => k_is)
    (case l_Apart_init => k_is)
    (case q_Apart_init => k_is)
    (case k_Apart_init => k_is)
    (case n_Apart_shows_ => k_is)
    (case i_Apart_shows => k_is)
    (case l_Apart_shows => k_is)
    (case q_Apart_shows => k_is)
    (case k_Apart_shows => k_is)
    (case n_Meet_init_ => k_is)
    (case i_Meet_init => k_is)
    (case l_Meet_init => k_is)
    (case q_Meet_init => k_is)
    (case k_Meet_init => k_is)
    (case n_Meet_shows_ => k_is)
    (case i_Meet_shows => k_is)
    (case l_Meet_shows => k_is)
    (case q_Meet_shows => k_is)
    (case k_Meet_shows => k_is)
    (case n_judged_ => k_is)
    (case l_judged => k_is)
    (case q_judged => k_is)
    (case k_judged => k_is)
    (case n_asked_places_ => k_is)
    (case l_asked_places => k_is)
    (case q_asked_places => k_is)
    (case k_asked_places => k_is)
    (case n_meet_ => k_is)
    (case l_meet => k_is)
    (case q_meet => k_is)
    (case k_meet => k_is)
    (case n_least_jumps_ => k_is)
    (case l_least_jumps => k_is)
    (case q_least_jumps => k_is)
    (case k_least_jumps => k_is)
    (case n_Room_init_ => k_is)
    (case i_Room_init => k_is)
    (case l_Room_init => k_is)
    (case q_Room_init => k_is)
    (case k_Room_init => k_is)
    (case n_Room_asked_watcher_ => k_is)
    (case i_Room_asked_watcher => k_is)
    (case l_Room_asked_watcher => k_is)
    (case q_Room_asked_watcher => k_is)
    (case k_Room_asked_watcher => k_is)
    (case n_Room_order_ => k_is)
    (case i_Room_order => k_is)
    (case l_Room_order => k_is)
    (case q_Room_order => k_is)
    (case k_Room_order => k_is)
    (case n_Room_bring_ => k_is)
    (case i_Room_bring => k_is)
    (case l_Room_bring => k_is)
    (case q_Room_bring => k_is)
    (case k_Room_bring => k_is)
    (case n_Room_tick_ => k_is)
    (case i_Room_tick => k_is)
    (case l_Room_tick => k_is)
    (case q_Room_tick => k_is)
    (case k_Room_tick => k_is)
    (case n_Room_stands_ => k_is)
    (case i_Room_stands => k_is)
    (case l_Room_stands => k_is)
    (case q_Room_stands => k_is)
    (case k_Room_stands => k_is)
    (case n_Room_knows_ => k_is)
    (case i_Room_knows => k_is)
    (case l_Room_knows => k_is)
    (case q_Room_knows => k_is)
    (case k_Room_knows => k_is)
    (case n_Room_at_rest_ => k_is)
    (case i_Room_at_rest => k_is)
    (case l_Room_at_rest => k_is)
    (case q_Room_at_rest => k_is)
    (case k_Room_at_rest => k_is)
    (case n_Room_tale_ => k_is)
    (case i_Room_tale => k_is)
    (case l_Room_tale => k_is)
    (case q_Room_tale => k_is)
    (case k_Room_tale => k_is)
    (case n_is_line_ => k_is)
    (case l_is_line => k_is)
    (case q_is_line => k_is)
    (case k_is_line => k_is)
    (case n_can_come_ => k_is)
    (case l_can_come => k_is)
    (case q_can_come => k_is)
    (case k_can_come => k_is)
    (case n_first_wrong_ => k_is)
    (case l_first_wrong => k_is)
    (case q_first_wrong => k_is)
    (case k_first_wrong => k_is)
    (case n_Right_shows_ => k_is)
    (case i_Right_shows => k_is)
    (case l_Right_shows => k_is)
    (case q_Right_shows => k_is)
    (case k_Right_shows => k_is)
    (case n_Wrong_init_ => k_is)
    (case i_Wrong_init => k_is)
    (case l_Wrong_init => k_is)
    (case q_Wrong_init => k_is)
    (case k_Wrong_init => k_is)
    (case n_Wrong_shows_ => k_is)
    (case i_Wrong_shows => k_is)
    (case l_Wrong_shows => k_is)
    (case q_Wrong_shows => k_is)
    (case k_Wrong_shows => k_is)
    (case n_tale_judged_ => k_is)
    (case l_tale_judged => k_is)
    (case q_tale_judged => k_is)
    (case k_tale_judged => k_is)
    (case n_law_number_ => k_is)
    (case l_law_number => k_is)
    (case q_law_number => k_is)
    (case k_law_number => k_is)
    (case n_law_commands_ => k_is)
    (case l_law_commands => k_is)
    (case q_law_commands => k_is)
    (case k_law_commands => k_is)
    (case n_law_stand_ => k_is)
    (case l_law_stand => k_is)
    (case q_law_stand => k_is)
    (case k_law_stand => k_is)
    (case n_law_length_ => k_is)
    (case l_law_length => k_is)
    (case q_law_length => k_is)
    (case k_law_length => k_is)
    (case n_law_due_ => k_is)
    (case l_law_due => k_is)
    (case q_law_due => k_is)
    (case k_law_due => k_is)
    (case n_law_places_ => k_is)
    (case l_law_places => k_is)
    (case q_law_places => k_is)
    (case k_law_places => k_is)
    (case n_law_meets_ => k_is)
    (case l_law_meets => k_is)
    (case q_law_meets => k_is)
    (case k_law_meets => k_is)
    (case n_law_first_ => k_is)
    (case l_law_first => k_is)
    (case q_law_first => k_is)
    (case k_law_first => k_is)
    (case n_law_pair_due_ => k_is)
    (case l_law_pair_due => k_is)
    (case q_law_pair_due => k_is)
    (case k_law_pair_due => k_is)
    (case n_law_right_ => k_is)
    (case l_law_right => k_is)
    (case q_law_right => k_is)
    (case k_law_right => k_is)
    (case n_law_places_right_ => k_is)
    (case l_law_places_right => k_is)
    (case q_law_places_right => k_is)
    (case k_law_places_right => k_is)
    (case n_law_changed_ => k_is)
    (case l_law_changed => k_is)
    (case q_law_changed => k_is)
    (case k_law_changed => k_is)
    (case n_law_room_right_ => k_is)
    (case l_law_room_right => k_is)
    (case q_law_room_right => k_is)
    (case k_law_room_right => k_is)
    (case n_law_ => k_is)
    (case l_law => k_is)
    (case q_law => k_is)
    (case k_law => k_is)

