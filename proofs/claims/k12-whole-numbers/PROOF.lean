import PyProof.Rows.All
import Wide.All
import OpenK.AllK
import Wide.FinOn
import HandS.Conv
import HandS.Deep
import HandS.EndBits
import HandS.EndOwn
import HandS.EndTab
import HandS.ExcCtx
import HandS.ExcIs
import HandS.ForExc
import HandS.ForMost
import HandS.HotCalls
import HandS.IsInst
import HandS.Iter
import HandS.Lambda
import HandS.Nested
import HandS.NoneIn
import HandS.SetBool
import HandS.SetFor
import HandS.Style
import HandS.TupSets
import HandS.Wide
import HandS.Zip
import KE.SortData
import PyProof.EqKinds
import PySem.Challenge.RW_watchtogether_k12_whole_numbers
set_option Elab.async false
set_option linter.all false
set_option maxRecDepth 100000
set_option maxHeartbeats 8000000
/-! Core 1: data, stores, what stands for what, later states. -/
namespace Wt
open PySem PySem.Spec PyProof.Rows L2

/-! ### data -/
inductive D where
  | non | bl (b : Bool) | int (i : Int) | str (x : Str) | tup (l : List D) | lst (l : List D) | scr (l : List D) | ins (c : Nat) (fs : List D) | loc (i : Nat) | cls (c : Nat) | lam (i : Nat)
instance : Inhabited D := ⟨.non⟩
inductive Cell where
  | list (l : List D) | inst (c : Nat) (fs : List D) | dK (kvs : List (Key × D)) | dT (kvs : List (List Key × D)) | lT (kvs : List (List Key × D)) | dead
abbrev Sto := List Cell
abbrev En := List (Option D)
/-- what an expression gives -/
inductive Rs (α : Type) where
  | ok (a : α) (st : Sto) | exc (c : Nat) (st : Sto) | bad
/-- what a statement gives -/
inductive Fl where
  | nx (env : En) (st : Sto) | rt (d : D) (st : Sto) | bk (env : En) (st : Sto) | ct (env : En) (st : Sto) | exc (c : Nat) (env : En) (st : Sto) | bad

/-- the fields of the classes, in the order of __init__ -/
def nms : Nat → List Str
  | 1 => ["command"]
  | 2 => ["place", "pairs"]
  | 4 => ["line"]
  | 5 => ["length", "known", "letters", "now", "lines"]
  | _ => []

mutual
def D.beq : D → D → Bool
  | .non, .non => true
  | .bl a, .bl b => a == b
  | .int a, .int b => a == b
  | .str a, .str b => a == b
  | .tup a, .tup b => D.beqs a b
  | .lst a, .lst b => D.beqs a b
  | .scr a, .scr b => D.beqs a b
  | .ins c a, .ins d b => c == d && D.beqs a b
  | .loc a, .loc b => a == b
  | .cls a, .cls b => a == b
  | .lam a, .lam b => a == b
  | _, _ => false
def D.beqs : List D → List D → Bool
  | [], [] => true
  | x :: xs, y :: ys => D.beq x y && D.beqs xs ys
  | _, _ => false
end
mutual
theorem D.beq_refl : ∀ d : D, D.beq d d = true
  | .non => by simp [D.beq]
  | .bl _ => by simp [D.beq]
  | .int _ => by simp [D.beq]
  | .str _ => by simp [D.beq]
  | .tup l => by simp [D.beq, D.beqs_refl l]
  | .lst l => by simp [D.beq, D.beqs_refl l]
  | .scr l => by simp [D.beq, D.beqs_refl l]
  | .ins c l => by simp [D.beq, D.beqs_refl l]
  | .loc _ => by simp [D.beq]
  | .cls _ => by simp [D.beq]
  | .lam _ => by simp [D.beq]
theorem D.beqs_refl : ∀ l : List D, D.beqs l l = true
  | [] => by simp [D.beqs]
  | x :: xs => by simp [D.beqs, D.beq_refl x, D.beqs_refl xs]
end
mutual
theorem D.beq_eq : ∀ d e : D, D.beq d e = true → d = e
  | .non, e, h => by cases e <;> simp [D.beq] at h <;> rfl
  | .bl _, e, h => by cases e <;> simp [D.beq] at h <;> rw [h]
  | .int _, e, h => by cases e <;> simp [D.beq] at h <;> rw [h]
  | .str _, e, h => by cases e <;> simp [D.beq] at h <;> rw [h]
  | .tup l, e, h => by
    cases e <;> simp [D.beq] at h
    rw [D.beqs_eq _ _ h]
  | .lst l, e, h => by
    cases e <;> simp [D.beq] at h
    rw [D.beqs_eq _ _ h]
  | .scr l, e, h => by
    cases e <;> simp [D.beq] at h
    rw [D.beqs_eq _ _ h]
  | .ins c l, e, h => by
    cases e <;> simp [D.beq] at h
    rw [h.1, D.beqs_eq _ _ h.2]
  | .loc _, e, h => by cases e <;> simp [D.beq] at h <;> rw [h]
  | .cls _, e, h => by cases e <;> simp [D.beq] at h <;> rw [h]
  | .lam _, e, h => by cases e <;> simp [D.beq] at h <;> rw [h]
theorem D.beqs_eq : ∀ l m : List D, D.beqs l m = true → l = m
  | [], m, h => by cases m <;> simp [D.beqs] at h <;> rfl
  | x :: xs, m, h => by
    cases m <;> simp [D.beqs] at h
    rw [D.beq_eq _ _ h.1, D.beqs_eq _ _ h.2]
end

/-! ### what stands for what -/
mutual
def D.nc : D → Bool
  | .ins c fs => Nat.blt c 90 && D.ncs fs
  | .cls c => Nat.blt c 90
  | .tup l => D.ncs l
  | .lst l => D.ncs l
  | .scr l => D.ncs l
  | _ => true
def D.ncs : List D → Bool
  | [] => true
  | x :: xs => x.nc && D.ncs xs
end
/-- a lambda's text: its parameters, its body, its names, its whole name -/
structure LamT where
  params : Arguments
  body : Expr
  scope : Scope
  q : Str
/-- the classes' places; the lambdas, what the maker's names of theirs lie at, the makers' tables -/
structure GT where
  f : Nat → Addr
  lam : Nat → Option LamT
  own : List (Str × Addr)
  tab : List (Addr × Str)
  /-- the captured names, what they hold, what that stands for -/
  fr : List Str
  cv : List V
  cd : List D
  cn : D.ncs cd = true
instance : CoeFun GT fun _ => Nat → Addr := ⟨GT.f⟩
/-- the function object of a lambda -/
def LamO (a : Addr) (L : LamT) (cl : List (Str × Addr)) (c' : Addr) : HO := .ext fun h => ∃ pm ctv : Value, h.get? a = some (PySem.W.kla_obj "<lambda>" L.q L.params L.body L.scope cl pm c' ctv)
structure Vw where
  /-- what stays as it is -/
  F : Addr → Prop
  /-- what is ours, and nobody else writes -/
  P : Addr → Prop
  ρ : List Addr
/-- a list from outside: frozen, or of the written part -/
def FzL (K : PySem.W.Frag) (H : Hp) (S : Vw) (a : Addr) (xs : List V) : Prop :=
  (∃ o, H a = some (.frz o (.lst xs))) ∨ (S.F a ∧ H a = some (.lst xs)) ∨ ∃ (o : Obj) (its : Array Value) (n : Nat), K.lookup a = some o ∧ o.cls = .type "list" ∧ o.dict = none ∧ o.data = .seq its n ∧ its.size ≤ sizeLine ∧ Vals xs its.toList
theorem FzL.sq {K : PySem.W.Frag} {H : Hp} {S : Vw} {a : Addr} {xs : List V} (h : FzL K H S a xs) : SqL K H a xs := by
  rcases h with ⟨o, h⟩ | h | h
  · exact .inl (.inr ⟨o, h⟩)
  · exact .inl (.inl h.2)
  · exact .inr h
section
variable (K : PySem.W.Frag) (G : GT) (H : Hp) (S : Vw)
mutual
def Rep : D → V → Prop
  | .non, v => v = .non
  | .bl b, v => v = .bl b
  | .int i, v => v = .int i
  | .str x, v => v = .str x
  | .tup l, v => ∃ a vs, v = .ref a ∧ H a = some (.tup vs) ∧ Reps l vs
  | .lst l, v => ∃ a vs, v = .ref a ∧ S.F a ∧ H a = some (.lst vs) ∧ Reps l vs
  | .scr l, v => ∃ a vs, v = .ref a ∧ FzL K H S a vs ∧ Reps l vs
  | .ins c fs, v => ∃ a dx vs, v = .ref a ∧ S.F a ∧ H a = some (.ins (G c) dx ((nms c).zip vs)) ∧ Reps fs vs
  | .loc i, v => ∃ a, v = .ref a ∧ S.ρ[i]? = some a
  | .cls c, v => v = .ref (G c)
  | .lam i, v => ∃ L a c', G.lam i = some L ∧ v = .ref a ∧ H a = some (LamO a L (cloFrom G.own L.scope.names []) c') ∧ H c' = some (LamX.CodeO c' L.q)
def Reps : List D → List V → Prop
  | [], vs => vs = []
  | d :: ds, vs => ∃ v ws, vs = v :: ws ∧ Rep d v ∧ Reps ds ws
end
end
section
variable {K : PySem.W.Frag} {G : GT} {H H' H2 : Hp} {S S' S2 : Vw}
theorem Reps.nil : Reps K G H S [] [] := by simp [Reps]
theorem Reps.cons {d : D} {ds : List D} {v : V} {vs : List V} (h : Rep K G H S d v) (t : Reps K G H S ds vs) : Reps K G H S (d :: ds) (v :: vs) := by
  simp only [Reps]
  exact ⟨v, vs, rfl, h, t⟩
theorem Reps.of_nil {vs : List V} (h : Reps K G H S [] vs) : vs = [] := by simpa [Reps] using h
theorem Reps.of_cons {d : D} {ds : List D} {vs : List V} (h : Reps K G H S (d :: ds) vs) : ∃ v ws, vs = v :: ws ∧ Rep K G H S d v ∧ Reps K G H S ds ws := by
  simpa [Reps] using h
theorem Reps.length : ∀ {ds : List D} {vs : List V}, Reps K G H S ds vs → ds.length = vs.length
  | [], _, h => by rw [h.of_nil]; rfl
  | d :: ds, _, h => by
    obtain ⟨v, ws, rfl, _, t⟩ := h.of_cons
    simp [Reps.length t]
theorem Reps.append : ∀ {ds es : List D} {vs ws : List V}, Reps K G H S ds vs → Reps K G H S es ws → Reps K G H S (ds ++ es) (vs ++ ws)
  | [], _, _, _, h, t => by rw [h.of_nil]; exact t
  | d :: ds, _, _, _, h, t => by
    obtain ⟨v, us, rfl, r, q⟩ := h.of_cons
    exact .cons r (Reps.append q t)
theorem Reps.get : ∀ {ds : List D} {vs : List V} {i : Nat} {d : D}, Reps K G H S ds vs → ds[i]? = some d → ∃ v, vs[i]? = some v ∧ Rep K G H S d v
  | [], _, _, _, _, e => by simp at e
  | d :: ds, _, 0, _, h, e => by
    obtain ⟨v, us, rfl, r, q⟩ := h.of_cons
    simp at e
    subst e
    exact ⟨v, rfl, r⟩
  | d :: ds, _, i + 1, _, h, e => by
    obtain ⟨v, us, rfl, r, q⟩ := h.of_cons
    simpa using Reps.get (i := i) q (by simpa using e)
theorem Reps.get' : ∀ {ds : List D} {vs : List V} {i : Nat} {v : V}, Reps K G H S ds vs → vs[i]? = some v → ∃ d, ds[i]? = some d ∧ Rep K G H S d v
  | [], _, _, _, h, e => by rw [h.of_nil] at e; simp at e
  | d :: ds, _, 0, _, h, e => by
    obtain ⟨v, us, rfl, r, q⟩ := h.of_cons
    simp at e
    subst e
    exact ⟨d, rfl, r⟩
  | d :: ds, _, i + 1, _, h, e => by
    obtain ⟨v, us, rfl, r, q⟩ := h.of_cons
    simpa using Reps.get' (i := i) q (by simpa using e)
theorem Reps.take : ∀ {ds : List D} {vs : List V} (n : Nat), Reps K G H S ds vs → Reps K G H S (ds.take n) (vs.take n)
  | _, _, 0, _ => by simpa using Reps.nil
  | [], _, n + 1, h => by rw [h.of_nil]; simpa using Reps.nil
  | d :: ds, _, n + 1, h => by
    obtain ⟨v, us, rfl, r, q⟩ := h.of_cons
    exact .cons r (Reps.take n q)
theorem Reps.drop : ∀ {ds : List D} {vs : List V} (n : Nat), Reps K G H S ds vs → Reps K G H S (ds.drop n) (vs.drop n)
  | _, _, 0, h => by simpa using h
  | [], _, n + 1, h => by rw [h.of_nil]; simpa using Reps.nil
  | d :: ds, _, n + 1, h => by
    obtain ⟨v, us, rfl, r, q⟩ := h.of_cons
    exact Reps.drop n q
theorem Reps.set {e : D} {w : V} (re : Rep K G H S e w) : ∀ {ds : List D} {vs : List V} (i : Nat), Reps K G H S ds vs → Reps K G H S (ds.set i e) (vs.set i w)
  | [], _, _, h => by rw [h.of_nil]; simpa using Reps.nil
  | d :: ds, _, 0, h => by
    obtain ⟨v, us, rfl, r, q⟩ := h.of_cons
    exact .cons re q
  | d :: ds, _, i + 1, h => by
    obtain ⟨v, us, rfl, r, q⟩ := h.of_cons
    exact .cons r (Reps.set re i q)
theorem Reps.reverse : ∀ {ds : List D} {vs : List V}, Reps K G H S ds vs → Reps K G H S ds.reverse vs.reverse
  | [], _, h => by rw [h.of_nil]; simpa using Reps.nil
  | d :: ds, _, h => by
    obtain ⟨v, us, rfl, r, q⟩ := h.of_cons
    simpa using (Reps.reverse q).append (.cons r .nil)
theorem Reps.dropLast {ds : List D} {vs : List V} (h : Reps K G H S ds vs) : Reps K G H S ds.dropLast vs.dropLast := by
  rw [List.dropLast_eq_take, List.dropLast_eq_take, h.length]
  exact h.take _
theorem Reps.one {d : D} {vs : List V} (h : Reps K G H S [d] vs) : ∃ v, vs = [v] ∧ Rep K G H S d v := by
  obtain ⟨v, us, rfl, r, q⟩ := h.of_cons
  rw [q.of_nil]
  exact ⟨v, rfl, r⟩
theorem Reps.two {d e : D} {vs : List V} (h : Reps K G H S [d, e] vs) : ∃ v w, vs = [v, w] ∧ Rep K G H S d v ∧ Rep K G H S e w := by
  obtain ⟨v, us, rfl, r, q⟩ := h.of_cons
  obtain ⟨w, rfl, q2⟩ := q.one
  exact ⟨v, w, rfl, r, q2⟩
theorem Reps.ints : ∀ {ns : List Int} {vs : List V}, Reps K G H S (ns.map D.int) vs → vs = ns.map V.int
  | [], _, h => h.of_nil
  | n :: ns, _, h => by
    obtain ⟨v, us, rfl, r, q⟩ := h.of_cons
    have r' : v = .int n := by simpa [Rep] using r
    rw [r', Reps.ints q]
    rfl
theorem Reps.of_ints : ∀ {ns : List Int}, Reps K G H S (ns.map D.int) (ns.map V.int)
  | [] => .nil
  | n :: ns => .cons (by simp [Rep]) Reps.of_ints
theorem Reps.bls : ∀ {ns : List Bool} {vs : List V}, Reps K G H S (ns.map D.bl) vs → vs = ns.map V.bl
  | [], _, h => h.of_nil
  | n :: ns, _, h => by
    obtain ⟨v, us, rfl, r, q⟩ := h.of_cons
    have r' : v = .bl n := by simpa [Rep] using r
    rw [r', Reps.bls q]
    rfl

/-! ### later states -/
structure LatR (H : Hp) (S : Vw) (H' : Hp) (S' : Vw) : Prop where
  fz : ∀ a o, S.F a → H a = some o → S'.F a ∧ H' a = some o
  tp : ∀ a xs, H a = some (.tup xs) → H' a = some (.tup xs)
  fr : ∀ a o u, H a = some (.frz o u) → H' a = some (.frz o u)
  ex : ∀ a p, H a = some (.ext p) → H' a = some (.ext p)
  pr : S.ρ <+: S'.ρ
structure Lat (H : Hp) (S : Vw) (H' : Hp) (S' : Vw) : Prop extends LatR H S H' S' where
  pp : ∀ a o, S.P a → H a = some o → S'.P a ∧ H' a = some o
theorem Lat.refl : Lat H S H S := { fz := fun _ _ f h => ⟨f, h⟩, pp := fun _ _ f h => ⟨f, h⟩, tp := fun _ _ h => h, fr := fun _ _ _ h => h, ex := fun _ _ h => h, pr := List.prefix_rfl }
theorem Lat.trans (a : Lat H S H' S') (b : Lat H' S' H2 S2) : Lat H S H2 S2 where
  fz := fun x o f h => by
    obtain ⟨f1, h1⟩ := a.fz x o f h
    exact b.fz x o f1 h1
  pp := fun x o f h => by
    obtain ⟨f1, h1⟩ := a.pp x o f h
    exact b.pp x o f1 h1
  tp := fun x xs h => b.tp _ _ (a.tp x xs h)
  fr := fun x o u h => b.fr _ _ _ (a.fr x o u h)
  ex := fun x p h => b.ex _ _ (a.ex x p h)
  pr := a.pr.trans b.pr
theorem Lat.new {p : Addr} {o : HO} (hp : H p = none) : Lat H S (upd H p o) S where
  fz := fun x o f h => ⟨f, by rw [upd_ne (ne_of_none h hp)]; exact h⟩
  pp := fun x o f h => ⟨f, by rw [upd_ne (ne_of_none h hp)]; exact h⟩
  tp := fun x xs h => by rw [upd_ne (ne_of_none h hp)]; exact h
  fr := fun x o u h => by rw [upd_ne (ne_of_none h hp)]; exact h
  ex := fun x u h => by rw [upd_ne (ne_of_none h hp)]; exact h
  pr := List.prefix_rfl
theorem LatR.rd_t {a : Addr} {vs : List V} (l : LatR H S H' S') (h : SqT K H a vs) : SqT K H' a vs := by
  rcases h with (h | ⟨o, h⟩) | h
  · exact .inl (.inl (l.tp _ _ h))
  · exact .inl (.inr ⟨o, l.fr _ _ _ h⟩)
  · exact .inr h
theorem LatR.rd_f {a : Addr} {vs : List V} (l : LatR H S H' S') (h : FzL K H S a vs) : FzL K H' S' a vs := by
  rcases h with ⟨o, h⟩ | h | h
  · exact .inl ⟨o, l.fr _ _ _ h⟩
  · exact .inr (.inl (l.fz _ _ h.1 h.2))
  · exact .inr (.inr h)
theorem LatR.ix {i : Nat} {a : Addr} (l : LatR H S H' S') (h : S.ρ[i]? = some a) : S'.ρ[i]? = some a := by
  obtain ⟨t, e⟩ := l.pr
  rw [← e, List.getElem?_append_left (List.getElem?_eq_some_iff.mp h).1]
  exact h
mutual
theorem Rep.monoR (l : LatR H S H' S') : ∀ {d : D} {v : V}, Rep K G H S d v → Rep K G H' S' d v
  | .non, _, h => by simpa [Rep] using h
  | .bl _, _, h => by simpa [Rep] using h
  | .int _, _, h => by simpa [Rep] using h
  | .str _, _, h => by simpa [Rep] using h
  | .tup ds, _, h => by
    simp only [Rep] at h ⊢
    obtain ⟨a, vs, e, h1, h2⟩ := h
    exact ⟨a, vs, e, l.tp _ _ h1, Reps.monoR l h2⟩
  | .lst ds, _, h => by
    simp only [Rep] at h ⊢
    obtain ⟨a, vs, e, f, h1, h2⟩ := h
    obtain ⟨f', h1'⟩ := l.fz _ _ f h1
    exact ⟨a, vs, e, f', h1', Reps.monoR l h2⟩
  | .scr ds, _, h => by
    simp only [Rep] at h ⊢
    obtain ⟨a, vs, e, h1, h2⟩ := h
    exact ⟨a, vs, e, l.rd_f h1, Reps.monoR l h2⟩
  | .ins c ds, _, h => by
    simp only [Rep] at h ⊢
    obtain ⟨a, dx, vs, e, f, h1, h2⟩ := h
    obtain ⟨f', h1'⟩ := l.fz _ _ f h1
    exact ⟨a, dx, vs, e, f', h1', Reps.monoR l h2⟩
  | .loc i, _, h => by
    simp only [Rep] at h ⊢
    obtain ⟨a, e, h⟩ := h
    exact ⟨a, e, l.ix h⟩
  | .cls _, _, h => by simpa [Rep] using h
  | .lam _, _, h => by
    simp only [Rep] at h ⊢
    obtain ⟨L, a, c', h0, h1, h2, h3⟩ := h
    exact ⟨L, a, c', h0, h1, l.ex _ _ h2, l.ex _ _ h3⟩
theorem Reps.monoR (l : LatR H S H' S') : ∀ {ds : List D} {vs : List V}, Reps K G H S ds vs → Reps K G H' S' ds vs
  | [], _, h => by simpa [Reps] using h
  | d :: ds, _, h => by
    simp only [Reps] at h ⊢
    obtain ⟨v, ws, e, r, t⟩ := h
    exact ⟨v, ws, e, Rep.monoR l r, Reps.monoR l t⟩
end
theorem Rep.mono (l : Lat H S H' S') {d : D} {v : V} (r : Rep K G H S d v) : Rep K G H' S' d v := r.monoR l.toLatR
theorem Reps.mono (l : Lat H S H' S') {d : List D} {v : List V} (r : Reps K G H S d v) : Reps K G H' S' d v := r.monoR l.toLatR
theorem Lat.rd_t {a : Addr} {vs : List V} (l : Lat H S H' S') (h : SqT K H a vs) : SqT K H' a vs := l.toLatR.rd_t h

/-! ### stores -/
variable (K G H S) in
def KRep {κ : Type} : List (κ × D) → List (κ × V) → Prop := Paired fun p q => p.1 = q.1 ∧ Rep K G H S p.2 q.2
variable (K G H S) in
def CRep : Cell → Addr → Prop
  | .list l, a => ∃ vs, H a = some (.lst vs) ∧ Reps K G H S l vs
  | .inst c fs, a => ∃ dx vs, H a = some (.ins (G c) dx ((nms c).zip vs)) ∧ Reps K G H S fs vs ∧ vs.length ≤ (nms c).length
  | .dK kvs, a => ∃ us, H a = some (.dK us) ∧ KRep K G H S kvs us
  | .dT kvs, a => ∃ us, H a = some (.dT us) ∧ KRep K G H S kvs us
  | .lT kvs, a => ∃ us o, H a = some (.frz o (.dT us)) ∧ KRep K G H S kvs us
  | .dead, _ => True
/-- a maker's table, nobody's own -/
def TbF (H : Hp) (S : Vw) (P : Addr) (q : Str) : Prop := (¬ S.F P ∧ ¬ S.P P ∧ P ∉ S.ρ) ∧ LamX.TabS H P q
theorem TbF.step {P : Addr} {q : Str} (h : TbF H S P q) (hT : ∀ ps, H P = some (.tbl ps) → H' P = some (.tbl ps)) (hE : ∀ a p, H a = some (.ext p) → H' a = some (.ext p)) (hF : S'.F P → S.F P) (hP : S'.P P → S.P P) (hR : P ∈ S'.ρ → P ∈ S.ρ) : TbF H' S' P q := by
  obtain ⟨⟨n1, n2, n3⟩, ps, h1, h2, h3⟩ := h
  refine ⟨⟨fun z => n1 (hF z), fun z => n2 (hP z), fun z => n3 (hR z)⟩, ps, hT _ h1, h2, fun pos cv e => ?_⟩
  obtain ⟨c, e1, e2⟩ := h3 pos cv e
  exact ⟨c, e1, hE _ _ e2⟩
theorem TbF.at_ {P : Addr} {q : Str} (h : TbF H S P q) : ∃ ps, H P = some (.tbl ps) := let ⟨_, ps, h1, _⟩ := h; ⟨ps, h1⟩
theorem TbF.upd {P p : Addr} {q : Str} {o : HO} (h : TbF H S P q) (h1 : ∀ ps, H p ≠ some (.tbl ps)) (h2 : ∀ e, H p ≠ some (.ext e)) : TbF (upd H p o) S P q :=
  h.step (fun ps e => by
    have hn : P ≠ p := fun z => h1 ps (z ▸ e)
    rw [upd_ne hn]; exact e) (fun a e z => by
    have hn : a ≠ p := fun y => h2 e (y ▸ z)
    rw [upd_ne hn]; exact z) id id id
theorem TbF.updN {P p : Addr} {q : Str} {o : HO} (h : TbF H S P q) (hp : H p = none) : TbF (L2.upd H p o) S P q := h.upd (fun ps e => by rw [hp] at e; cases e) (fun _ e => by rw [hp] at e; cases e)
variable (K G H S) in
structure Ws (st : Sto) : Prop where
  len : S.ρ.length = st.length
  nd : S.ρ.Nodup
  rl : ∀ (i : Nat) (a : Addr), S.ρ[i]? = some a → ∃ o, H a = some o
  nf : ∀ (i : Nat) (a : Addr) (c : Cell), S.ρ[i]? = some a → st[i]? = some c → c ≠ .dead → ¬ S.F a
  np : ∀ (i : Nat) (a : Addr), S.ρ[i]? = some a → ¬ S.P a
  dj : ∀ a, S.F a → ¬ S.P a
  pf : ∀ a, S.P a → ∃ o, H a = some o
  cr : ∀ (i : Nat) (a : Addr) (c : Cell), S.ρ[i]? = some a → st[i]? = some c → CRep K G H S c a
  fr : ∀ a, S.F a → ∃ o, H a = some o
  tb : ∀ p ∈ G.tab, TbF H S p.1 p.2
  cp : Reps K G H S G.cd G.cv
theorem KRep.mono {κ : Type} {ds : List (κ × D)} {vs : List (κ × V)} (l : LatR H S H' S') (h : KRep K G H S ds vs) : KRep K G H' S' ds vs :=
  Paired.mapP h fun _ _ r => ⟨r.1, r.2.monoR l⟩
/-- a cell whose own object stands -/
theorem CRep.monoR {c : Cell} {a : Addr} (l : LatR H S H' S') (e : ∀ o, H a = some o → H' a = some o) (h : CRep K G H S c a) : CRep K G H' S' c a := by
  cases c with
  | list ds =>
    obtain ⟨vs, h1, h2⟩ := h
    exact ⟨vs, e _ h1, h2.monoR l⟩
  | inst c fs =>
    obtain ⟨dx, vs, h1, h2, h3⟩ := h
    exact ⟨dx, vs, e _ h1, h2.monoR l, h3⟩
  | dK kvs =>
    obtain ⟨us, h1, h2⟩ := h
    exact ⟨us, e _ h1, h2.mono l⟩
  | dT kvs =>
    obtain ⟨us, h1, h2⟩ := h
    exact ⟨us, e _ h1, h2.mono l⟩
  | lT kvs =>
    obtain ⟨us, o, h1, h2⟩ := h
    exact ⟨us, o, e _ h1, h2.mono l⟩
  | dead => trivial
theorem CRep.mono {c : Cell} {a : Addr} (l : Lat H S H' S') (e : ∀ o, H a = some o → H' a = some o) (h : CRep K G H S c a) : CRep K G H' S' c a := h.monoR l.toLatR e
theorem Ws.cell {st : Sto} (w : Ws K G H S st) {i : Nat} {c : Cell} (h : st[i]? = some c) : ∃ a, S.ρ[i]? = some a ∧ CRep K G H S c a := by
  have hi : i < S.ρ.length := by
    rw [w.len]
    exact (List.getElem?_eq_some_iff.mp h).1
  exact ⟨S.ρ[i], List.getElem?_eq_getElem hi, w.cr i _ c (List.getElem?_eq_getElem hi) h⟩
/-- a new object that is no cell: a tuple, or anything -/
theorem Ws.new {st : Sto} {p : Addr} {o : HO} (w : Ws K G H S st) (hp : H p = none) : Ws K G (upd H p o) S st where
  len := w.len
  nd := w.nd
  rl := fun i a h => by
    obtain ⟨u, e⟩ := w.rl i a h
    exact ⟨u, by rw [upd_ne (ne_of_none e hp)]; exact e⟩
  nf := w.nf
  np := w.np
  dj := w.dj
  pf := fun a f => by
    obtain ⟨u, e⟩ := w.pf a f
    exact ⟨u, by rw [upd_ne (ne_of_none e hp)]; exact e⟩
  cr := fun i a c h1 h2 => (w.cr i a c h1 h2).mono (Lat.new hp) fun u e => by
    rw [upd_ne (ne_of_none e hp)]
    exact e
  fr := fun a f => by
    obtain ⟨u, e⟩ := w.fr a f
    exact ⟨u, by rw [upd_ne (ne_of_none e hp)]; exact e⟩
  tb := fun q hq => (w.tb q hq).updN hp
  cp := w.cp.mono (Lat.new hp)
def Vw.frz (S : Vw) (p : Addr) : Vw := { S with F := fun a => S.F a ∨ a = p }
def Vw.add (S : Vw) (p : Addr) : Vw := { S with ρ := S.ρ ++ [p] }
/-- a new object that stays as it is -/
theorem Lat.newF {p : Addr} {o : HO} (hp : H p = none) : Lat H S (upd H p o) (S.frz p) where
  fz := fun x o f h => ⟨.inl f, by rw [upd_ne (ne_of_none h hp)]; exact h⟩
  pp := fun x o f h => ⟨f, by rw [upd_ne (ne_of_none h hp)]; exact h⟩
  tp := fun x xs h => by rw [upd_ne (ne_of_none h hp)]; exact h
  fr := fun x o u h => by rw [upd_ne (ne_of_none h hp)]; exact h
  ex := fun x u h => by rw [upd_ne (ne_of_none h hp)]; exact h
  pr := List.prefix_rfl
theorem Ws.newF {st : Sto} {p : Addr} {o : HO} (w : Ws K G H S st) (hp : H p = none) : Ws K G (upd H p o) (S.frz p) st where
  len := w.len
  nd := w.nd
  rl := (w.new hp).rl
  nf := fun i a c h1 h2 h3 => by
    rintro (f | f)
    · exact w.nf i a c h1 h2 h3 f
    · obtain ⟨u, e⟩ := w.rl i a h1
      rw [f, hp] at e
      cases e
  np := w.np
  dj := fun a f pa => by
    rcases f with f | f
    · exact w.dj a f pa
    · obtain ⟨u, e⟩ := w.pf a pa
      rw [f, hp] at e
      cases e
  pf := (w.new hp).pf
  cr := fun i a c h1 h2 => (w.cr i a c h1 h2).mono (Lat.newF hp) fun u e => by
    rw [upd_ne (ne_of_none e hp)]
    exact e
  fr := fun a f => by
    rcases f with f | f
    · exact (w.new hp).fr a f
    · subst f
      exact ⟨o, upd_same⟩
  tb := fun q hq => ((w.tb q hq).updN hp).step (fun _ e => e) (fun _ _ e => e) (fun z => z.elim id fun z => by
    obtain ⟨ps, e⟩ := (w.tb q hq).at_
    rw [z, hp] at e
    cases e) id id
  cp := w.cp.mono (Lat.newF hp)
/-- a new cell -/
theorem Lat.newC {p : Addr} {o : HO} (hp : H p = none) : Lat H S (upd H p o) (S.add p) where
  fz := fun x o f h => ⟨f, by rw [upd_ne (ne_of_none h hp)]; exact h⟩
  pp := fun x o f h => ⟨f, by rw [upd_ne (ne_of_none h hp)]; exact h⟩
  tp := fun x xs h => by rw [upd_ne (ne_of_none h hp)]; exact h
  fr := fun x o u h => by rw [upd_ne (ne_of_none h hp)]; exact h
  ex := fun x u h => by rw [upd_ne (ne_of_none h hp)]; exact h
  pr := List.prefix_append _ _
theorem get_add {α : Type} {l : List α} {x y : α} {i : Nat} (h : (l ++ [x])[i]? = some y) : l[i]? = some y ∨ (i = l.length ∧ y = x) := by
  by_cases hi : i < l.length
  · rw [List.getElem?_append_left hi] at h
    exact .inl h
  · rw [List.getElem?_append_right (by omega)] at h
    cases e : i - l.length with
    | zero =>
      rw [e] at h
      simp at h
      exact .inr ⟨by omega, h.symm⟩
    | succ n =>
      rw [e] at h
      simp at h
theorem Ws.newC {st : Sto} {p : Addr} {o : HO} {c : Cell} (w : Ws K G H S st) (hp : H p = none) (hc : CRep K G (upd H p o) (S.add p) c p) : Ws K G (upd H p o) (S.add p) (st ++ [c]) where
  len := by
    show (S.ρ ++ [p]).length = _
    simp [w.len]
  nd := by
    show (S.ρ ++ [p]).Nodup
    refine List.nodup_append.mpr ⟨w.nd, by simp, fun a ha b hb e => ?_⟩
    simp at hb
    subst hb
    subst e
    obtain ⟨i, hi⟩ := List.mem_iff_getElem?.mp ha
    obtain ⟨u, e⟩ := w.rl i _ hi
    rw [hp] at e
    cases e
  rl := fun i a h => by
    rcases get_add h with h | ⟨_, h⟩
    · exact (w.new hp).rl i a h
    · rw [h]
      exact ⟨o, upd_same⟩
  nf := fun i a d h1 h2 h3 f => by
    rcases get_add h1 with h1 | ⟨h1, e⟩
    · rcases get_add h2 with h2 | ⟨h2, _⟩
      · exact w.nf i a d h1 h2 h3 f
      · have := (List.getElem?_eq_some_iff.mp h1).1
        rw [w.len] at this
        omega
    · subst e
      obtain ⟨u, e⟩ := w.fr _ f
      rw [hp] at e
      cases e
  np := fun i a h pa => by
    rcases get_add h with h | ⟨_, h⟩
    · exact w.np i a h pa
    · obtain ⟨u, e⟩ := w.pf a pa
      rw [h, hp] at e
      cases e
  dj := w.dj
  pf := (w.new hp).pf
  cr := fun i a d h1 h2 => by
    rcases get_add h1 with h1 | ⟨h1, e⟩
    · rcases get_add h2 with h2 | ⟨h2, _⟩
      · exact (w.cr i a d h1 h2).mono (Lat.newC hp) fun u e => by
          rw [upd_ne (ne_of_none e hp)]
          exact e
      · have := (List.getElem?_eq_some_iff.mp h1).1
        rw [w.len] at this
        omega
    · rcases get_add h2 with h2 | ⟨_, h2⟩
      · have := (List.getElem?_eq_some_iff.mp h2).1
        rw [← w.len] at this
        omega
      · rw [e, h2]
        exact hc
  fr := fun a f => (w.new hp).fr a f
  tb := fun q hq => ((w.tb q hq).updN hp).step (fun _ e => e) (fun _ _ e => e) id id fun z => (List.mem_append.mp z).elim id fun z => by
    obtain ⟨ps, e⟩ := (w.tb q hq).at_
    rw [List.mem_singleton.mp z, hp] at e
    cases e
  cp := w.cp.mono (Lat.newC hp)
/-- what a living cell is not -/
theorem CRep.kind {c : Cell} {a : Addr} (h : CRep K G H S c a) (hc : c ≠ .dead) : (∀ ps, H a ≠ some (.tbl ps)) ∧ ∀ e, H a ≠ some (.ext e) := by
  cases c with
  | list l => obtain ⟨vs, e, _⟩ := h; rw [e]; exact ⟨nofun, nofun⟩
  | inst c fs => obtain ⟨dx, vs, e, _⟩ := h; rw [e]; exact ⟨nofun, nofun⟩
  | dK kvs => obtain ⟨us, e, _⟩ := h; rw [e]; exact ⟨nofun, nofun⟩
  | dT kvs => obtain ⟨us, e, _⟩ := h; rw [e]; exact ⟨nofun, nofun⟩
  | lT kvs => obtain ⟨us, o, e, _⟩ := h; rw [e]; exact ⟨nofun, nofun⟩
  | dead => exact absurd rfl hc
theorem Vw.add_ix {S : Vw} {p : Addr} {st : Sto} (w : Ws K G H S st) : (S.add p).ρ[st.length]? = some p := by
  show (S.ρ ++ [p])[st.length]? = some p
  rw [← w.len]
  simp
/-- a cell is written -/
theorem Ws.write {st : Sto} {i : Nat} {a : Addr} {c c' : Cell} {o : HO} (w : Ws K G H S st) (h : st[i]? = some c) (ha : S.ρ[i]? = some a) (hc : c ≠ .dead) (hn : (∀ xs, H a ≠ some (.tup xs)) ∧ ∀ o u, H a ≠ some (.frz o u))
    (hc' : CRep K G (upd H a o) S c' a) : Lat H S (upd H a o) S ∧ Ws K G (upd H a o) S (st.set i c') := by
  have nf := w.nf i a c ha h hc
  have kd := (w.cr i a c ha h).kind hc
  have l : Lat H S (upd H a o) S := {
    fz := fun x u f e => by
      have hx : x ≠ a := fun q => nf (q ▸ f)
      exact ⟨f, by rw [upd_ne hx]; exact e⟩
    pp := fun x u f e => by
      have hx : x ≠ a := fun q => w.np i a ha (q ▸ f)
      exact ⟨f, by rw [upd_ne hx]; exact e⟩
    tp := fun x xs e => by
      have hx : x ≠ a := fun q => hn.1 xs (q ▸ e)
      rw [upd_ne hx]
      exact e
    fr := fun x u v e => by
      have hx : x ≠ a := fun q => hn.2 u v (q ▸ e)
      rw [upd_ne hx]
      exact e
    ex := fun x u e => by
      have hx : x ≠ a := fun q => kd.2 u (q ▸ e)
      rw [upd_ne hx]
      exact e
    pr := List.prefix_rfl }
  refine ⟨l, ⟨by rw [List.length_set]; exact w.len, w.nd, fun j b hj => ?_, fun j b d hj hd nd => ?_, w.np, w.dj, fun b f => ?_, fun j b d hj hd => ?_, fun b f => ?_, fun q hq => (w.tb q hq).upd kd.1 kd.2, w.cp.mono l⟩⟩
  · by_cases e : b = a
    · rw [e]
      exact ⟨o, upd_same⟩
    · rw [upd_ne e]
      exact w.rl j b hj
  · by_cases e : j = i
    · subst e
      rw [hj] at ha
      rw [Option.some.inj ha]
      exact nf
    · rw [List.getElem?_set_ne (fun q => e q.symm)] at hd
      exact w.nf j b d hj hd nd
  · obtain ⟨u, q⟩ := w.pf b f
    have hb : b ≠ a := fun z => w.np i a ha (z ▸ f)
    exact ⟨u, by rw [upd_ne hb]; exact q⟩
  · by_cases e : j = i
    · subst e
      rw [hj] at ha
      have eb := Option.some.inj ha
      subst eb
      rw [List.getElem?_set_self (List.getElem?_eq_some_iff.mp h).1] at hd
      rw [← Option.some.inj hd]
      exact hc'
    · rw [List.getElem?_set_ne (fun q => e q.symm)] at hd
      have hb : b ≠ a := by
        intro q
        subst q
        have h1 := List.getElem?_eq_some_iff.mp hj
        have h2 := List.getElem?_eq_some_iff.mp ha
        exact e (List.getElem_inj (h₀ := h1.1) (h₁ := h2.1) w.nd |>.mp (h1.2.trans h2.2.symm))
      exact (w.cr j b d hj hd).mono l fun u q => by
        rw [upd_ne hb]
        exact q
  · by_cases e : b = a
    · rw [e]
      exact ⟨o, upd_same⟩
    · rw [upd_ne e]
      exact w.fr b f

/-! ### the frame's names -/
variable (K G H S) in
structure ERep (σ : L2.St) (env : En) : Prop where
  len : σ.length = env.length
  at_ : ∀ (i : Nat) (d : D), env[i]? = some (some d) → ∃ v, σ[i]? = some (some v) ∧ Rep K G H S d v
theorem ERep.monoR {σ : L2.St} {env : En} (l : LatR H S H' S') (h : ERep K G H S σ env) : ERep K G H' S' σ env :=
  ⟨h.len, fun i d e => by
    obtain ⟨v, h1, h2⟩ := h.at_ i d e
    exact ⟨v, h1, h2.monoR l⟩⟩
theorem ERep.mono {σ : L2.St} {env : En} (l : Lat H S H' S') (h : ERep K G H S σ env) : ERep K G H' S' σ env := h.monoR l.toLatR
theorem ERep.set {σ : L2.St} {env : En} {i : Nat} {d : D} {v : V} (h : ERep K G H S σ env) (r : Rep K G H S d v) : ERep K G H S (σ.set i (some v)) (env.set i (some d)) :=
  ⟨by simp [h.len], fun j e hj => by
    by_cases q : j = i
    · subst q
      have hl : j < env.length := by
        have := (List.getElem?_eq_some_iff.mp hj).1
        simpa using this
      rw [List.getElem?_set_self hl] at hj
      have e1 : d = e := by simpa using hj
      rw [← e1]
      exact ⟨v, by rw [List.getElem?_set_self (by rw [h.len]; exact hl)], r⟩
    · rw [List.getElem?_set_ne (fun z => q z.symm)] at hj
      rw [List.getElem?_set_ne (fun z => q z.symm)]
      exact h.at_ j e hj⟩
theorem ERep.unset {σ : L2.St} {env : En} {i : Nat} (h : ERep K G H S σ env) : ERep K G H S (σ.set i none) (env.set i none) :=
  ⟨by simp [h.len], fun j e hj => by
    by_cases q : j = i
    · subst q
      have hl : j < env.length := by
        have := (List.getElem?_eq_some_iff.mp hj).1
        simpa using this
      rw [List.getElem?_set_self hl] at hj
      cases hj
    · rw [List.getElem?_set_ne (fun z => q z.symm)] at hj
      rw [List.getElem?_set_ne (fun z => q z.symm)]
      exact h.at_ j e hj⟩
end
end Wt

/-! Core 2: the readings of denotations; names, constants, operators, comparisons, tests. -/
namespace Wt
open PySem PySem.Spec PyProof.Rows L2
section
variable (K : PySem.W.Frag) (G : GT)
structure Sm (S : Vw) (σ : L2.St) (H : Hp) (env : En) (st : Sto) : Prop where
  ws : Ws K G H S st
  er : ERep K G H S σ env
/-- what is wanted behind r -/
def Post (W : WX) (σ : L2.St) (S : Vw) (H : Hp) {α : Type} (r : Rs α) (k : Vw → Hp → α → Sto → Prop) : Prop :=
  match r with
  | .ok a st => ∀ S' H', Lat H S H' S' → Ws K G H' S' st → k S' H' a st
  | .exc c st => ∀ S' H', Lat H S H' S' → Ws K G H' S' st → W (.ref (G c)) none σ H'
  | .bad => False
abbrev Den := En → Sto → Rs D
abbrev DenL := En → Sto → Rs (List D)
abbrev DenB := En → Sto → Rs Bool
abbrev DenS := En → Sto → Fl
/-- the readings: of an expression, of one that gives a new list, of a test, of arguments -/
def tD (W : WX) (A : Den) : TE := fun σ H Q => ∃ S env st, Sm K G S σ H env st ∧ Post K G W σ S H (A env st) fun S' H' d _ => ∀ v, Rep K G H' S' d v → Q v H'
def tL (W : WX) (A : DenL) : TE := fun σ H Q => ∃ S env st, Sm K G S σ H env st ∧ Post K G W σ S H (A env st) fun S' H' l _ => ∀ vs p, Reps K G H' S' l vs → H' p = none → Q (.ref p) (upd H' p (.lst vs))
def tT (W : WX) (A : DenB) : TT := fun σ H Q => ∃ S env st, Sm K G S σ H env st ∧ Post K G W σ S H (A env st) fun S' H' b _ => Q b H'
def tA (W : WX) (A : DenL) : TA := fun σ H Q => ∃ S env st, Sm K G S σ H env st ∧ Post K G W σ S H (A env st) fun S' H' l _ => ∀ vs, Reps K G H' S' l vs → Q vs H'
end
abbrev W0 : WX := fun _ _ _ _ => False
theorem PE.imp {X : Cx} {e : Expr} {t t' : TE} (h : PE X e t) (i : ∀ σ H Q, t' σ H Q → t σ H Q) : PE X e t' := ⟨fun pins s σ H Q I q => h.run pins s σ H Q I (i σ H Q q)⟩
theorem PT.imp {X : Cx} {e : Expr} {t t' : TT} (h : PT X e t) (i : ∀ σ H Q, t' σ H Q → t σ H Q) : PT X e t' := ⟨fun pins s σ H Q I q => h.run pins s σ H Q I (i σ H Q q)⟩
theorem PW.imp {X : Cx} {e : Expr} {t t' : TT} (h : PW X e t) (i : ∀ σ H Q, t' σ H Q → t σ H Q) : PW X e t' := ⟨fun w pins s σ H Q I q => h.run w pins s σ H Q I (i σ H Q q)⟩
theorem PA.imp {X : Cx} {e : List Expr} {t t' : TA} (h : PA X e t) (i : ∀ σ H Q, t' σ H Q → t σ H Q) : PA X e t' := ⟨fun p pins s σ H Q I q => h.run p pins s σ H Q I (i σ H Q q)⟩
theorem PS.imp {X : Cx} {e : Stmt} {t t' : TS} (h : PS X e t) (i : ∀ D σ H, t' D σ H → t D σ H) : PS X e t' := ⟨fun pins s σ H D I q => h.run pins s σ H D I (i D σ H q)⟩
theorem PSs.imp {X : Cx} {e : List Stmt} {t t' : TS} (h : PSs X e t) (i : ∀ D σ H, t' D σ H → t D σ H) : PSs X e t' := ⟨fun pins s σ H D I q => h.run pins s σ H D I (i D σ H q)⟩
/-- the judgements -/
abbrev ED (X : Cx) (G : GT) (W : WX) (A : Den) (e : Expr) : Prop := PE X e (tD X.K G W A)
abbrev EL (X : Cx) (G : GT) (W : WX) (A : DenL) (e : Expr) : Prop := PE X e (tL X.K G W A)
abbrev EB (X : Cx) (G : GT) (W : WX) (A : DenB) (e : Expr) : Prop := PT X e (tT X.K G W A)
abbrev EW (X : Cx) (G : GT) (W : WX) (A : DenB) (e : Expr) : Prop := PW X e (tT X.K G W A)
abbrev EA (X : Cx) (G : GT) (W : WX) (A : DenL) (es : List Expr) : Prop := PA X es (tA X.K G W A)

section
variable {K : PySem.W.Frag} {G : GT} {H H' : Hp} {S S' : Vw} {σ : L2.St} {env : En} {st : Sto} {W : WX} {α β : Type}
theorem Sm.later (m : Sm K G S σ H env st) {st' : Sto} (l : Lat H S H' S') (w : Ws K G H' S' st') : Sm K G S' σ H' env st' := ⟨w, m.er.mono l⟩
theorem Post.later {r : Rs α} {k k' : Vw → Hp → α → Sto → Prop} (h : Post K G W σ S H r k) (l : Lat H S H' S') (i : ∀ S2 H2 a s, Lat H' S' H2 S2 → Ws K G H2 S2 s → k S2 H2 a s → k' S2 H2 a s) : Post K G W σ S' H' r k' := by
  cases r with
  | ok a s => exact fun S2 H2 l2 w2 => i S2 H2 a s l2 w2 (h S2 H2 (l.trans l2) w2)
  | exc c s => exact fun S2 H2 l2 w2 => h S2 H2 (l.trans l2) w2
  | bad => exact h
theorem Post.imp {r : Rs α} {k k' : Vw → Hp → α → Sto → Prop} (h : Post K G W σ S H r k) (i : ∀ S2 H2 a s, Lat H S H2 S2 → Ws K G H2 S2 s → k S2 H2 a s → k' S2 H2 a s) : Post K G W σ S H r k' := h.later .refl i
def Rs.bind (r : Rs α) (f : α → Sto → Rs β) : Rs β := match r with
  | .ok a st => f a st
  | .exc c st => .exc c st
  | .bad => .bad
/-- an operation that lets nothing out -/
def noX (r : Rs α) : Rs α := match r with
  | .exc _ _ => .bad
  | r => r
theorem Post.bind {r : Rs α} {f : α → Sto → Rs β} {k : Vw → Hp → β → Sto → Prop} (h : Post K G W σ S H (r.bind f) k) : Post K G W σ S H r fun S' H' a s => Post K G W σ S' H' (f a s) k := by
  cases r with
  | ok a s =>
    intro S' H' l w
    exact Post.later (r := f a s) h l fun _ _ _ _ _ _ q => q
  | exc c s => exact h
  | bad => exact h
theorem Post.noX {r : Rs α} {k : Vw → Hp → α → Sto → Prop} (h : Post K G W σ S H (noX r) k) : Post K G W0 σ S H r k := by
  cases r with
  | ok a s => exact h
  | exc c s => exact False.elim h
  | bad => exact h
theorem Post.ok {a : α} {s : Sto} {k : Vw → Hp → α → Sto → Prop} (h : Post K G W σ S H (.ok a s) k) (w : Ws K G H S s) : k S H a s := h S H .refl w
end

/-! ### names, constants -/
def dVar (i : Nat) : Den := fun env st => match env[i]? with
  | some (some d) => .ok d st
  | _ => .bad
def dC (d : D) : Den := fun _ st => .ok d st
section
variable {X : Cx} {G : GT} {W : WX} {pos : Pos}
theorem ed_of_var {i : Nat} {e : Expr} (h : PE X e (tVar i)) : ED X G W (dVar i) e := PE.imp h fun σ H Q ⟨S, env, st, m, q⟩ => by
  unfold dVar at q
  cases e : env[i]? with
  | none => rw [e] at q; exact q.elim
  | some o =>
    rw [e] at q
    cases o with
    | none => exact q.elim
    | some d =>
      obtain ⟨v, h1, h2⟩ := m.er.at_ i d e
      exact ⟨v, h1, q.ok m.ws v h2⟩
theorem ed_var (i : Nat) {x : Str} (hN : X.N[i]? = some x := by rfl) (hv : Vis X.env.scope x := by first | exact Or.inl rfl | exact Or.inr (Or.inl rfl) | exact Or.inr (Or.inr rfl)) (hd : (x == ("__debug__" : Str)) = false := by decide)
    (hcd : (x == ("__classdict__" : Str)) = false := by decide) : ED X G W (dVar i) (.Name x pos) := ed_of_var (pv i hN hv hd hcd)
theorem ed_of_c {d : D} {v : V} {e : Expr} (h : PE X e (tC v)) (r : ∀ H S, Rep X.K G H S d v) : ED X G W (dC d) e := PE.imp h fun σ H Q ⟨S, env, st, m, q⟩ => Post.ok q m.ws v (r H S)
theorem ed_int {i : Int} {j : Nat} : ED X G W (dC (.int i)) (.Constant (.int i) j pos) := ed_of_c pe_int fun _ _ => by simp [Rep]
theorem ed_bl {b : Bool} {j : Nat} : ED X G W (dC (.bl b)) (.Constant (.bool b) j pos) := ed_of_c pe_bl fun _ _ => by simp [Rep]
theorem ed_non {j : Nat} : ED X G W (dC .non) (.Constant .none j pos) := ed_of_c pe_non fun _ _ => by simp [Rep]
theorem ed_str {x : Str} {j : Nat} : ED X G W (dC (.str x)) (.Constant (.str x) j pos) := ed_of_c pe_str fun _ _ => by simp [Rep]
/-- a module's number -/
theorem ed_gint {x : Str} {i : Int} {t : Tok} (hg : Gl X x) (hm : X.mg x = some (.int i t)) (hd : (x == ("__debug__" : Str)) = false := by decide) : ED X G W (dC (.int i)) (.Name x pos) :=
  ed_of_c (pe_glob (v := .int i) hg hm ⟨t, rfl⟩ hd) fun _ _ => by simp [Rep]
end

/-! ### readings off stores -/
/-- a list's items -/
def getL (st : Sto) : D → Option (List D)
  | .lst l => some l
  | .scr l => some l
  | .loc i => match st[i]? with
    | some (.list l) => some l
    | _ => none
  | _ => none
/-- .. of a list that is known as a list of ours -/
def getM (st : Sto) : D → Option (List D)
  | .lst l => some l
  | .loc i => match st[i]? with
    | some (.list l) => some l
    | _ => none
  | _ => none
section
variable {K : PySem.W.Frag} {G : GT} {H : Hp} {S : Vw} {st : Sto}
theorem getM_at {d : D} {v : V} {l : List D} (w : Ws K G H S st) (r : Rep K G H S d v) (e : getM st d = some l) : ∃ a vs, v = .ref a ∧ H a = some (.lst vs) ∧ Reps K G H S l vs := by
  cases d <;> simp [getM] at e
  · subst e
    simp only [Rep] at r
    obtain ⟨a, vs, e, _, h1, h2⟩ := r
    exact ⟨a, vs, e, h1, h2⟩
  · rename_i i
    simp only [Rep] at r
    obtain ⟨a, ev, hi⟩ := r
    split at e
    · rename_i l' hl
      simp at e
      subst e
      obtain ⟨vs, h1, h2⟩ := w.cr i a _ hi hl
      exact ⟨a, vs, ev, h1, h2⟩
    · cases e
theorem getL_at {d : D} {v : V} {l : List D} (w : Ws K G H S st) (r : Rep K G H S d v) (e : getL st d = some l) : ∃ a vs, v = .ref a ∧ SqL K H a vs ∧ Reps K G H S l vs := by
  cases d with
  | scr m =>
    simp [getL] at e
    subst e
    simp only [Rep] at r
    obtain ⟨a, vs, e, h1, h2⟩ := r
    exact ⟨a, vs, e, h1.sq, h2⟩
  | _ =>
    obtain ⟨a, vs, e1, h1, h2⟩ := getM_at (l := l) w r (by first | exact e | cases e)
    exact ⟨a, vs, e1, SqL.of h1, h2⟩
end
/-- a list's or a tuple's items -/
def getS (st : Sto) : D → Option (List D)
  | .tup l => some l
  | d => getL st d
theorem getS_at {K : PySem.W.Frag} {G : GT} {H : Hp} {S : Vw} {st : Sto} {d : D} {v : V} {l : List D} (w : Ws K G H S st) (r : Rep K G H S d v) (e : getS st d = some l) : ∃ a vs, v = .ref a ∧ (SqL K H a vs ∨ SqT K H a vs) ∧ Reps K G H S l vs := by
  cases d with
  | tup m =>
    simp [getS] at e
    subst e
    simp only [Rep] at r
    obtain ⟨a, vs, e, h1, h2⟩ := r
    exact ⟨a, vs, e, .inr (.inl (.inl h1)), h2⟩
  | _ =>
    obtain ⟨a, vs, e1, h1, h2⟩ := getL_at (l := l) w r (by first | exact e | cases e)
    exact ⟨a, vs, e1, .inl h1, h2⟩

/-! ### as data that is compared -/
mutual
def D.py : D → PyData
  | .non => .none
  | .bl b => .bool b
  | .int i => .int i
  | .str x => .str x
  | .tup l => .tuple (D.pys l)
  | .lst l => .list (D.pys l)
  | .scr l => .list (D.pys l)
  | _ => .dict []
def D.pys : List D → List PyData
  | [] => []
  | x :: xs => x.py :: D.pys xs
end
mutual
def D.plain : D → Bool
  | .non => true
  | .bl _ => true
  | .int _ => true
  | .str _ => true
  | .tup l => D.plains l
  | .lst l => D.plains l
  | .scr l => D.plains l
  | _ => false
def D.plains : List D → Bool
  | [] => true
  | x :: xs => x.plain && D.plains xs
end
section
variable {K : PySem.W.Frag} {G : GT} {H : Hp} {S : Vw}
mutual
theorem Rep.dp : ∀ {d : D} {v : V}, d.plain = true → Rep K G H S d v → Dp K H v d.py
  | .non, _, _, r => by
    simp only [Rep] at r
    subst r
    simpa [D.py] using Dp.non
  | .bl b, _, _, r => by
    simp only [Rep] at r
    subst r
    simpa [D.py] using Dp.bl b
  | .int i, _, _, r => by
    simp only [Rep] at r
    subst r
    simpa [D.py] using Dp.int i
  | .str x, _, _, r => by
    simp only [Rep] at r
    subst r
    simpa [D.py] using Dp.str x
  | .tup l, _, p, r => by
    simp only [Rep] at r
    simp only [D.plain] at p
    obtain ⟨a, vs, rfl, h1, h2⟩ := r
    simpa [D.py] using Dp.tup (.inl (.inl h1)) (Reps.dp p h2)
  | .lst l, _, p, r => by
    simp only [Rep] at r
    simp only [D.plain] at p
    obtain ⟨a, vs, rfl, _, h1, h2⟩ := r
    simpa [D.py] using Dp.lst (SqL.of h1) (Reps.dp p h2)
  | .scr l, _, p, r => by
    simp only [Rep] at r
    simp only [D.plain] at p
    obtain ⟨a, vs, rfl, h1, h2⟩ := r
    simpa [D.py] using Dp.lst h1.sq (Reps.dp p h2)
  | .ins _ _, _, p, _ => by simp [D.plain] at p
  | .loc _, _, p, _ => by simp [D.plain] at p
  | .cls _, _, p, _ => by simp [D.plain] at p
theorem Reps.dp : ∀ {ds : List D} {vs : List V}, D.plains ds = true → Reps K G H S ds vs → DpAll K H vs (D.pys ds)
  | [], _, _, r => by
    rw [r.of_nil]
    simpa [D.pys] using DpAll.nil
  | d :: ds, _, p, r => by
    simp only [D.plains, Bool.and_eq_true] at p
    obtain ⟨v, ws, rfl, h1, h2⟩ := r.of_cons
    simpa [D.pys] using DpAll.cons (Rep.dp p.1 h1) (Reps.dp p.2 h2)
end
end
/-- what a value is as data: a cell's list by its items -/
def getD' (st : Sto) : D → D
  | .loc i => match st[i]? with
    | some (.list l) => .lst l
    | _ => .loc i
  | d => d
def D.okEq (d : D) : Bool := d.plain && SeqAt.shaped d.py
theorem getD_dp {K : PySem.W.Frag} {G : GT} {H : Hp} {S : Vw} {st : Sto} {d : D} {v : V} (w : Ws K G H S st) (r : Rep K G H S d v) (p : (getD' st d).okEq = true) : Dp K H v (getD' st d).py ∧ SeqAt.shaped (getD' st d).py = true := by
  unfold D.okEq at p
  rw [Bool.and_eq_true] at p
  refine ⟨?_, p.2⟩
  have p1 := p.1
  cases d with
  | loc i =>
    simp only [Rep] at r
    obtain ⟨a, ev, hi⟩ := r
    cases e : st[i]? with
    | none => simp only [getD', e] at p1; simp [D.plain] at p1
    | some c =>
      cases c with
      | list l =>
        simp only [getD', e] at p1 ⊢
        obtain ⟨vs, h1, h2⟩ := w.cr i a _ hi e
        subst ev
        simp only [D.plain] at p1
        simpa [D.py] using Dp.lst (SqL.of h1) (Reps.dp p1 h2)
      | _ => simp only [getD', e] at p1; simp [D.plain] at p1
  | _ => exact r.dp p1

/-! ### two-place operations -/
section
variable (K : PySem.W.Frag) (G : GT)
/-- f is covered by the rule r -/
def OpC (r : R2) (f : D → D → Sto → Rs D) : Prop := ∀ (S : Vw) (H : Hp) (st : Sto) (σ : L2.St) (dx dy : D) (x y : V) (Q : VK), Ws K G H S st → Rep K G H S dx x → Rep K G H S dy y →
  Post K G W0 σ S H (f dx dy st) (fun S' H' d _ => ∀ v, Rep K G H' S' d v → Q v H') → r x y H Q
def UnC (r : V → Hp → VK → Prop) (f : D → Sto → Rs D) : Prop := ∀ (S : Vw) (H : Hp) (st : Sto) (σ : L2.St) (dx : D) (x : V) (Q : VK), Ws K G H S st → Rep K G H S dx x →
  Post K G W0 σ S H (f dx st) (fun S' H' d _ => ∀ v, Rep K G H' S' d v → Q v H') → r x H Q
def CaC (r : List V → Hp → VK → Prop) (f : List D → Sto → Rs D) : Prop := ∀ (S : Vw) (H : Hp) (st : Sto) (σ : L2.St) (ds : List D) (xs : List V) (Q : VK), Ws K G H S st → Reps K G H S ds xs →
  Post K G W0 σ S H (f ds st) (fun S' H' d _ => ∀ v, Rep K G H' S' d v → Q v H') → r xs H Q
end
def dOp (f : D → D → Sto → Rs D) (A B : Den) : Den := fun env st => (A env st).bind fun x s => (B env s).bind fun y s => noX (f x y s)
def dUn (f : D → Sto → Rs D) (A : Den) : Den := fun env st => (A env st).bind fun x s => noX (f x s)
section
variable {X : Cx} {G : GT} {W : WX} {pos : Pos} {A B : Den} {a b : Expr}
theorem tOp_of {r : R2} {f : D → D → Sto → Rs D} (hc : OpC X.K G r f) (σ : L2.St) (H : Hp) (Q : VK) (h : tD X.K G W (dOp f A B) σ H Q) : tOp r (tD X.K G W A) (tD X.K G W B) σ H Q := by
  obtain ⟨S, env, st, m, q⟩ := h
  refine ⟨S, env, st, m, Post.imp (Post.bind q) fun S1 H1 x s1 l1 w1 q v rv => ⟨S1, env, s1, m.later l1 w1, Post.imp (Post.bind q) fun S2 H2 y s2 l2 w2 q u ru => ?_⟩⟩
  exact hc S2 H2 s2 σ x y v u Q w2 (rv.mono l2) ru (Post.noX q)
theorem ed_op {op : Operator} {r : R2} {f : D → D → Sto → Rs D} (hc : OpC X.K G r f) (ho : OpR X (binaryOp op) r) (ha : ED X G W A a) (hb : ED X G W B b) : ED X G W (dOp f A B) (.BinOp a op b pos) :=
  PE.imp (pe_op ho ha hb) (tOp_of hc)
theorem ed_cmp {op : CmpOp} {r : R2} {f : D → D → Sto → Rs D} (hc : OpC X.K G r f) (ho : OpR X (compareOp op) r) (ha : ED X G W A a) (hb : ED X G W B b) (hm : behindInMarks op b = false) : ED X G W (dOp f A B) (.Compare a [op] [b] pos) :=
  PE.imp (pe_cmpR ho ha hb hm) (tOp_of hc)
theorem ed_un {op : UnaryOp} {r : V → Hp → VK → Prop} {f : D → Sto → Rs D} (hc : UnC X.K G r f) (ho : UnR X (unaryOp op) r) (ha : ED X G W A a) : ED X G W (dUn f A) (.UnaryOp op a pos) :=
  PE.imp (pe_un ho ha) fun σ H Q ⟨S, env, st, m, q⟩ => ⟨S, env, st, m, Post.imp (Post.bind q) fun S1 H1 x s1 l1 w1 q v rv => hc S1 H1 s1 σ x v Q w1 rv (Post.noX q)⟩
end
/-- the values of ints -/
theorem rep_int {K : PySem.W.Frag} {G : GT} {H : Hp} {S : Vw} {i : Int} {v : V} (r : Rep K G H S (.int i) v) : v = .int i := by simpa [Rep] using r
theorem rep_bl {K : PySem.W.Frag} {G : GT} {H : Hp} {S : Vw} {i : Bool} {v : V} (r : Rep K G H S (.bl i) v) : v = .bl i := by simpa [Rep] using r
theorem rep_non {K : PySem.W.Frag} {G : GT} {H : Hp} {S : Vw} {v : V} (r : Rep K G H S .non v) : v = .non := by simpa [Rep] using r
theorem rep_str {K : PySem.W.Frag} {G : GT} {H : Hp} {S : Vw} {i : Str} {v : V} (r : Rep K G H S (.str i) v) : v = .str i := by simpa [Rep] using r
theorem rep_tup {K : PySem.W.Frag} {G : GT} {H : Hp} {S : Vw} {l : List D} {v : V} (r : Rep K G H S (.tup l) v) : ∃ a vs, v = .ref a ∧ SqT K H a vs ∧ Reps K G H S l vs := by
  simp only [Rep] at r
  obtain ⟨a, vs, e, h, q⟩ := r
  exact ⟨a, vs, e, .inl (.inl h), q⟩
theorem mk_int {K : PySem.W.Frag} {G : GT} {H : Hp} {S : Vw} {i : Int} : Rep K G H S (.int i) (.int i) := by simp [Rep]
theorem mk_bl {K : PySem.W.Frag} {G : GT} {H : Hp} {S : Vw} {i : Bool} : Rep K G H S (.bl i) (.bl i) := by simp [Rep]
theorem mk_non {K : PySem.W.Frag} {G : GT} {H : Hp} {S : Vw} : Rep K G H S .non .non := by simp [Rep]
theorem mk_str {K : PySem.W.Frag} {G : GT} {H : Hp} {S : Vw} {i : Str} : Rep K G H S (.str i) (.str i) := by simp [Rep]
/-- a new tuple, a new list that stays: what is wanted holds of it -/
theorem new_tup {K : PySem.W.Frag} {G : GT} {H : Hp} {S : Vw} {st : Sto} {σ : L2.St} {W : WX} {l : List D} {vs : List V} {p : Addr} {Q : VK} (w : Ws K G H S st) (r : Reps K G H S l vs) (hp : H p = none)
    (q : Post K G W σ S H (.ok (.tup l) st) (fun S' H' d _ => ∀ v, Rep K G H' S' d v → Q v H')) : Q (.ref p) (upd H p (.tup vs)) :=
  q S _ (Lat.new hp) (w.new hp) _ (by
    simp only [Rep]
    exact ⟨p, vs, rfl, upd_same, r.mono (Lat.new hp)⟩)
theorem new_lst {K : PySem.W.Frag} {G : GT} {H : Hp} {S : Vw} {st : Sto} {σ : L2.St} {W : WX} {l : List D} {vs : List V} {p : Addr} {Q : VK} (w : Ws K G H S st) (r : Reps K G H S l vs) (hp : H p = none)
    (q : Post K G W σ S H (.ok (.lst l) st) (fun S' H' d _ => ∀ v, Rep K G H' S' d v → Q v H')) : Q (.ref p) (upd H p (.lst vs)) :=
  q (S.frz p) _ (Lat.newF hp) (w.newF hp) _ (by
    simp only [Rep]
    exact ⟨p, vs, rfl, .inr rfl, upd_same, r.mono (Lat.newF hp)⟩)
theorem new_cel {K : PySem.W.Frag} {G : GT} {H : Hp} {S : Vw} {st : Sto} {σ : L2.St} {W : WX} {l : List D} {vs : List V} {p : Addr} {Q : VK} (w : Ws K G H S st) (r : Reps K G H S l vs) (hp : H p = none)
    (q : Post K G W σ S H (.ok (.loc st.length) (st ++ [.list l])) (fun S' H' d _ => ∀ v, Rep K G H' S' d v → Q v H')) : Q (.ref p) (upd H p (.lst vs)) :=
  q (S.add p) _ (Lat.newC hp) (w.newC hp ⟨vs, upd_same, r.mono (Lat.newC hp)⟩) _ (by
    simp only [Rep]
    exact ⟨p, rfl, Vw.add_ix w⟩)

/-! ### arithmetic -/
def MulOk (i j : Int) : Bool := decide (i.natAbs.log2 + j.natAbs.log2 < 100000000)
theorem MulOk.ok {i j : Int} (h : MulOk i j = true) : IntMulOk i j := by
  have b : ∀ x : Int, Builtin.Int.intBits x ≤ x.natAbs.log2 + 1 := fun x => by
    unfold Builtin.Int.intBits
    split <;> omega
  have h1 := b i
  have h2 := b j
  have h3 : i.natAbs.log2 + j.natAbs.log2 < 100000000 := of_decide_eq_true h
  have e : bitsLine = 134217728 := by decide
  unfold IntMulOk
  intro z
  rw [Bool.and_eq_true] at z
  have z2 := z.2
  unfold Builtin.Int.intTooBig at z2
  have z3 := of_decide_eq_true z2
  rw [e] at z3
  omega
def szOk (n : Nat) : Bool := Nat.ble n 16777216
theorem szOk.ok {n : Nat} (h : szOk n = true) : n ≤ sizeLine := by
  rw [sizeLine_eq]
  exact Nat.le_of_ble_eq_true h
theorem szOk_of {n : Nat} (h : n ≤ 16777216) : szOk n = true := Nat.ble_eq_true_of_le h
def fAdd : D → D → Sto → Rs D
  | .int i, .int j, st => .ok (.int (i + j)) st
  | .tup l, .tup m, st => if !l.isEmpty && !m.isEmpty && szOk (l.length + m.length) then .ok (.tup (l ++ m)) st else .bad
  | x, y, st => match getM st x, getM st y with
    | some l, some m => if szOk (l.length + m.length) then .ok (.lst (l ++ m)) st else .bad
    | _, _ => .bad
def rAdd3 (K : PySem.W.Frag) : R2 := fun x y H Q => (∃ i j, x = .int i ∧ y = .int j ∧ Q (.int (i + j)) H) ∨ rCatT K x y H Q ∨ rCat x y H Q
theorem op_add3 {X : Cx} : OpR X (binaryOp .Add) (rAdd3 X.K) := OpR.or op_add (OpR.or op_catT op_cat)
theorem cat_lists {K : PySem.W.Frag} {G : GT} {S : Vw} {H : Hp} {st : Sto} {σ : L2.St} {dx dy : D} {x y : V} {Q : VK} (w : Ws K G H S st) (rx : Rep K G H S dx x) (ry : Rep K G H S dy y)
    (q : Post K G W0 σ S H (match getM st dx, getM st dy with
      | some l, some m => if szOk (l.length + m.length) then Rs.ok (.lst (l ++ m)) st else .bad
      | _, _ => .bad) fun S' H' d _ => ∀ v, Rep K G H' S' d v → Q v H') : rCat x y H Q := by
  cases e1 : getM st dx with
  | none => rw [e1] at q; exact q.elim
  | some l =>
    rw [e1] at q
    cases e2 : getM st dy with
    | none => rw [e2] at q; exact q.elim
    | some m =>
      rw [e2] at q
      obtain ⟨a, vs, rfl, h1, h2⟩ := getM_at w rx e1
      obtain ⟨b, us, rfl, h3, h4⟩ := getM_at w ry e2
      dsimp only at q
      split at q
      · rename_i hz
        refine ⟨a, b, vs, us, rfl, rfl, h1, h3, ?_, fun p hp => new_lst w (h2.append h4) hp q⟩
        rw [← h2.length, ← h4.length]
        exact szOk.ok hz
      · exact q.elim
theorem opc_add {K : PySem.W.Frag} {G : GT} : OpC K G (rAdd3 K) fAdd := by
  intro S H st σ dx dy x y Q w rx ry q
  unfold fAdd at q
  split at q
  · rename_i i j
    exact .inl ⟨i, j, rep_int rx, rep_int ry, Post.ok q w _ mk_int⟩
  · rename_i l m
    split at q
    · rename_i hz
      simp only [Bool.and_eq_true, Bool.not_eq_true', List.isEmpty_eq_false_iff] at hz
      obtain ⟨a, vs, rfl, h1, h2⟩ := rep_tup rx
      obtain ⟨b, us, rfl, h3, h4⟩ := rep_tup ry
      have n1 : vs ≠ [] := fun e => hz.1.1 (List.eq_nil_of_length_eq_zero (by rw [h2.length, e]; rfl))
      have n2 : us ≠ [] := fun e => hz.1.2 (List.eq_nil_of_length_eq_zero (by rw [h4.length, e]; rfl))
      refine .inr (.inl ⟨a, b, vs, us, rfl, rfl, h1, h3, n1, ?_, fun e => absurd e n2, fun _ p hp => new_tup w (h2.append h4) hp q⟩)
      rw [← h2.length, ← h4.length]
      exact szOk.ok hz.2
    · exact q.elim
  · exact .inr (.inr (cat_lists w rx ry q))
def fSub : D → D → Sto → Rs D
  | .int i, .int j, st => .ok (.int (i - j)) st
  | _, _, _ => .bad
theorem opc_sub {K : PySem.W.Frag} {G : GT} : OpC K G (rI0 fun i j => .int (i - j)) fSub := by
  intro S H st σ dx dy x y Q w rx ry q
  unfold fSub at q
  split at q
  · exact ⟨_, _, rep_int rx, rep_int ry, Post.ok q w _ mk_int⟩
  · exact q.elim
def fMul : D → D → Sto → Rs D
  | .int i, .int j, st => if MulOk i j then .ok (.int (i * j)) st else .bad
  | x, .int k, st => match getM st x with
    | some l => if decide (-(2 ^ 63) ≤ k) && decide (k < 2 ^ 63) && szOk (l.length * k.toNat) then .ok (.lst (List.replicate k.toNat l).flatten) st else .bad
    | none => .bad
  | _, _, _ => .bad
theorem op_mulB {X : Cx} : OpR X (binaryOp .Mult) (rI (fun i j => MulOk i j = true) fun i j => .int (i * j)) := opI fun _ _ _ _ _ _ _ hc q => mul_int q (MulOk.ok hc)
def rMul2 : R2 := fun x y H Q => rI (fun i j => MulOk i j = true) (fun i j => .int (i * j)) x y H Q ∨ rRep x y H Q
theorem op_mul2 {X : Cx} : OpR X (binaryOp .Mult) rMul2 := OpR.or op_mulB op_rep
theorem Reps.rep {K : PySem.W.Frag} {G : GT} {H : Hp} {S : Vw} {l : List D} {vs : List V} (r : Reps K G H S l vs) : ∀ k : Nat, Reps K G H S (List.replicate k l).flatten (List.replicate k vs).flatten
  | 0 => by simpa using Reps.nil
  | k + 1 => by
    rw [List.replicate_succ, List.replicate_succ, List.flatten_cons, List.flatten_cons]
    exact r.append (Reps.rep r k)
theorem opc_mul {K : PySem.W.Frag} {G : GT} : OpC K G rMul2 fMul := by
  intro S H st σ dx dy x y Q w rx ry q
  unfold fMul at q
  split at q
  · split at q
    · rename_i hz
      exact .inl ⟨_, _, rep_int rx, rep_int ry, hz, Post.ok q w _ mk_int⟩
    · exact q.elim
  · rename_i k hne
    cases e1 : getM st dx with
    | none => rw [e1] at q; exact q.elim
    | some l =>
      rw [e1] at q
      obtain ⟨a, vs, rfl, h1, h2⟩ := getM_at w rx e1
      dsimp only at q
      split at q
      · rename_i hz
        simp only [Bool.and_eq_true, decide_eq_true_eq] at hz
        refine .inr ⟨a, k, vs, rfl, rep_int ry, h1, hz.1.1, hz.1.2, ?_, fun p hp => new_lst w (Reps.rep h2 _) hp q⟩
        rw [← h2.length]
        exact szOk.ok hz.2
      · exact q.elim
  · exact q.elim
def fDiv : D → D → Sto → Rs D
  | .int i, .int j, st => if decide (0 < j) && decide (j.natAbs.log2 < 9000) then .ok (.int (i / j)) st else .bad
  | _, _, _ => .bad
theorem opc_div {K : PySem.W.Frag} {G : GT} : OpC K G (rI CDivW fun i j => .int (i / j)) fDiv := by
  intro S H st σ dx dy x y Q w rx ry q
  unfold fDiv at q
  split at q
  · split at q
    · rename_i hz
      simp only [Bool.and_eq_true, decide_eq_true_eq] at hz
      exact ⟨_, _, rep_int rx, rep_int ry, hz, Post.ok q w _ mk_int⟩
    · exact q.elim
  · exact q.elim
def fMod : D → D → Sto → Rs D
  | .int i, .int j, st => if decide (0 < j) then .ok (.int (i % j)) st else .bad
  | _, _, _ => .bad
theorem opc_mod {K : PySem.W.Frag} {G : GT} : OpC K G (rI (fun _ j => 0 < j) fun i j => .int (i % j)) fMod := by
  intro S H st σ dx dy x y Q w rx ry q
  unfold fMod at q
  split at q
  · split at q
    · rename_i hz
      simp only [decide_eq_true_eq] at hz
      exact ⟨_, _, rep_int rx, rep_int ry, hz, Post.ok q w _ mk_int⟩
    · exact q.elim
  · exact q.elim
def fPow : D → D → Sto → Rs D
  | .int i, .int j, st => if decide (0 ≤ j) && decide (j ≤ 1000000) && decide (i.natAbs < 2 ^ 64) then .ok (.int (i ^ j.toNat)) st else .bad
  | _, _, _ => .bad
theorem opc_pow {K : PySem.W.Frag} {G : GT} : OpC K G (rI CPow fun i j => .int (i ^ j.toNat)) fPow := by
  intro S H st σ dx dy x y Q w rx ry q
  unfold fPow at q
  split at q
  · split at q
    · rename_i hz
      simp only [Bool.and_eq_true, decide_eq_true_eq] at hz
      exact ⟨_, _, rep_int rx, rep_int ry, ⟨hz.1.1, hz.1.2, hz.2⟩, Post.ok q w _ mk_int⟩
    · exact q.elim
  · exact q.elim
def fNeg : D → Sto → Rs D
  | .int i, st => .ok (.int (-i)) st
  | _, _ => .bad
theorem unc_neg {K : PySem.W.Frag} {G : GT} : UnC K G (rU fun i => .int (-i)) fNeg := by
  intro S H st σ dx x Q w rx q
  unfold fNeg at q
  split at q
  · exact ⟨_, rep_int rx, Post.ok q w _ mk_int⟩
  · exact q.elim

/-! ### comparisons -/
def fLt : D → D → Sto → Rs D
  | .int i, .int j, st => .ok (.bl (decide (i < j))) st
  | _, _, _ => .bad
def fLe : D → D → Sto → Rs D
  | .int i, .int j, st => .ok (.bl (decide (i ≤ j))) st
  | _, _, _ => .bad
def fGt : D → D → Sto → Rs D
  | .int i, .int j, st => .ok (.bl (decide (j < i))) st
  | _, _, _ => .bad
def fGe : D → D → Sto → Rs D
  | .int i, .int j, st => .ok (.bl (decide (j ≤ i))) st
  | _, _, _ => .bad
theorem opc_lt {K : PySem.W.Frag} {G : GT} : OpC K G (rI0 fun i j => .bl (decide (i < j))) fLt := by
  intro S H st σ dx dy x y Q w rx ry q
  unfold fLt at q
  split at q
  · exact ⟨_, _, rep_int rx, rep_int ry, Post.ok q w _ mk_bl⟩
  · exact q.elim
theorem opc_le {K : PySem.W.Frag} {G : GT} : OpC K G (rI0 fun i j => .bl (decide (i ≤ j))) fLe := by
  intro S H st σ dx dy x y Q w rx ry q
  unfold fLe at q
  split at q
  · exact ⟨_, _, rep_int rx, rep_int ry, Post.ok q w _ mk_bl⟩
  · exact q.elim
theorem opc_gt {K : PySem.W.Frag} {G : GT} : OpC K G (rI0 fun i j => .bl (decide (j < i))) fGt := by
  intro S H st σ dx dy x y Q w rx ry q
  unfold fGt at q
  split at q
  · exact ⟨_, _, rep_int rx, rep_int ry, Post.ok q w _ mk_bl⟩
  · exact q.elim
theorem opc_ge {K : PySem.W.Frag} {G : GT} : OpC K G (rI0 fun i j => .bl (decide (j ≤ i))) fGe := by
  intro S H st σ dx dy x y Q w rx ry q
  unfold fGe at q
  split at q
  · exact ⟨_, _, rep_int rx, rep_int ry, Post.ok q w _ mk_bl⟩
  · exact q.elim
/-- == of data: ints by themselves -/
def eqB (st : Sto) (x y : D) : Option Bool := match x, y with
  | .int i, .int j => some (i == j)
  | x, y => if (getD' st x).okEq && (getD' st y).okEq then some (PyData.eqv (getD' st x).py (getD' st y).py) else none
def fEq (x y : D) (st : Sto) : Rs D := match eqB st x y with
  | some b => .ok (.bl b) st
  | none => .bad
def fNe (x y : D) (st : Sto) : Rs D := match eqB st x y with
  | some b => .ok (.bl (!b)) st
  | none => .bad
theorem eqB_at {K : PySem.W.Frag} {G : GT} {H : Hp} {S : Vw} {st : Sto} {dx dy : D} {x y : V} {b : Bool} (w : Ws K G H S st) (rx : Rep K G H S dx x) (ry : Rep K G H S dy y) (e : eqB st dx dy = some b) :
    ∃ p q, Dp K H x p ∧ Dp K H y q ∧ SeqAt.shaped p = true ∧ SeqAt.shaped q = true ∧ b = PyData.eqv p q := by
  unfold eqB at e
  split at e
  · rename_i i j
    rw [rep_int rx, rep_int ry]
    exact ⟨_, _, .int i, .int j, by rfl, by rfl, by rw [← Option.some.inj e]; simp [PyData.eqv]⟩
  · split at e
    · rename_i hz
      rw [Bool.and_eq_true] at hz
      obtain ⟨h1, h2⟩ := getD_dp w rx hz.1
      obtain ⟨h3, h4⟩ := getD_dp w ry hz.2
      exact ⟨_, _, h1, h3, h2, h4, (Option.some.inj e).symm⟩
    · cases e
theorem opc_eq {K : PySem.W.Frag} {G : GT} : OpC K G (rEqD K) fEq := by
  intro S H st σ dx dy x y Q w rx ry q
  unfold fEq at q
  cases e : eqB st dx dy with
  | none => rw [e] at q; exact q.elim
  | some b =>
    rw [e] at q
    obtain ⟨p, r, h1, h2, h3, h4, h5⟩ := eqB_at w rx ry e
    exact ⟨p, r, h1, h2, h3, h4, Post.ok q w _ (by rw [h5]; exact mk_bl)⟩
theorem opc_ne {K : PySem.W.Frag} {G : GT} : OpC K G (rNeD K) fNe := by
  intro S H st σ dx dy x y Q w rx ry q
  unfold fNe at q
  cases e : eqB st dx dy with
  | none => rw [e] at q; exact q.elim
  | some b =>
    rw [e] at q
    obtain ⟨p, r, h1, h2, h3, h4, h5⟩ := eqB_at w rx ry e
    exact ⟨p, r, h1, h2, h3, h4, Post.ok q w _ (by rw [h5]; exact mk_bl)⟩
/-- x in y, y a list of data or a tuple of flat items -/
def D.flat : D → Bool
  | .non => true
  | .bl _ => true
  | .int _ => true
  | .str _ => true
  | _ => false
def inB (st : Sto) (x y : D) : Option Bool := match y with
  | .tup l => if x.flat && l.all D.flat then some (l.any fun z => PyData.eqv z.py x.py) else none
  | y => if x.okEq && (getD' st y).okEq then (getL st y).map fun l => l.any fun z => PyData.eqv z.py x.py else none
def fIn (x y : D) (st : Sto) : Rs D := match inB st x y with
  | some b => .ok (.bl b) st
  | none => .bad
def fNotIn (x y : D) (st : Sto) : Rs D := match inB st x y with
  | some b => .ok (.bl (!b)) st
  | none => .bad
section
variable {K : PySem.W.Frag} {G : GT} {H : Hp} {S : Vw} {st : Sto}
theorem flat_v {d : D} {v : V} (r : Rep K G H S d v) (f : d.flat = true) : flatV v = true := by
  cases d <;> simp [D.flat] at f
  · rw [rep_non r]; rfl
  · rw [rep_bl r]; rfl
  · rw [rep_int r]; rfl
  · rw [rep_str r]; rfl
theorem flat_eq {d e : D} {v u : V} (r : Rep K G H S d v) (f : d.flat = true) (r' : Rep K G H S e u) (f' : e.flat = true) : eqV v u = PyData.eqv d.py e.py := by
  cases d <;> simp [D.flat] at f <;> cases e <;> simp [D.flat] at f' <;> simp only [Rep] at r r' <;> subst r <;> subst r' <;> simp [eqV, D.py, PyData.eqv]
theorem flat_all : ∀ {l : List D} {vs : List V}, Reps K G H S l vs → l.all D.flat = true → vs.all flatV = true
  | [], _, r, _ => by rw [r.of_nil]; rfl
  | d :: ds, _, r, f => by
    obtain ⟨v, ws, rfl, h1, h2⟩ := r.of_cons
    simp only [List.all_cons, Bool.and_eq_true] at f ⊢
    exact ⟨flat_v h1 f.1, flat_all h2 f.2⟩
theorem flat_any {e : D} {u : V} (r' : Rep K G H S e u) (f' : e.flat = true) : ∀ {l : List D} {vs : List V}, Reps K G H S l vs → l.all D.flat = true → inV u vs = l.any fun z => PyData.eqv z.py e.py
  | [], _, r, _ => by rw [r.of_nil]; rfl
  | d :: ds, _, r, f => by
    obtain ⟨v, ws, rfl, h1, h2⟩ := r.of_cons
    simp only [List.all_cons, Bool.and_eq_true] at f
    have ih := flat_any r' f' h2 f.2
    unfold inV at ih ⊢
    rw [List.any_cons, List.any_cons, ih, flat_eq h1 f.1 r' f']
theorem pys_any (e : PyData) : ∀ l : List D, (D.pys l).any (fun z => PyData.eqv z e) = l.any fun z => PyData.eqv z.py e
  | [] => rfl
  | x :: xs => by simp [D.pys, pys_any e xs]
def rIn2 (K : PySem.W.Frag) (neg : Bool) : R2 := fun x y H Q => rIn K neg x y H Q ∨ (∃ d ds, Dp K H x d ∧ Dp K H y (.list ds) ∧ SeqAt.shaped d = true ∧ SeqAt.shaped (.list ds) = true ∧ Q (.bl (if neg then !ds.any fun z => PyData.eqv z d else ds.any fun z => PyData.eqv z d)) H)
theorem inB_at {dx dy : D} {x y : V} {b neg : Bool} {Q : VK} (w : Ws K G H S st) (rx : Rep K G H S dx x) (ry : Rep K G H S dy y) (e : inB st dx dy = some b) (q : Q (.bl (if neg then !b else b)) H) : rIn2 K neg x y H Q := by
  unfold inB at e
  split at e
  · rename_i l
    split at e
    · rename_i hz
      rw [Bool.and_eq_true] at hz
      obtain ⟨a, vs, rfl, h1, h2⟩ := rep_tup ry
      refine .inl ⟨a, vs, rfl, .inr h1, flat_v rx hz.1, flat_all h2 hz.2, ?_⟩
      rw [flat_any rx hz.1 h2 hz.2, Option.some.inj e]
      exact q
    · cases e
  · split at e
    · rename_i hz
      rw [Bool.and_eq_true] at hz
      have hx : dx.okEq = true := hz.1
      unfold D.okEq at hx
      rw [Bool.and_eq_true] at hx
      have d1 := rx.dp hx.1
      obtain ⟨d2, s2⟩ := getD_dp w ry hz.2
      cases el : getL st dy with
      | none => rw [el] at e; cases e
      | some l =>
        rw [el] at e
        have eb : (l.any fun z => PyData.eqv z.py dx.py) = b := by simpa using e
        have ed : (getD' st dy).py = .list (D.pys l) := by
          cases dy <;> simp [getL] at el
          · subst el; simp [getD', D.py]
          · subst el; simp [getD', D.py]
          · rename_i i
            split at el
            · rename_i l' hl
              simp at el
              subst el
              simp [getD', hl, D.py]
            · cases el
        rw [ed] at d2 s2
        refine .inr ⟨_, _, d1, d2, hx.2, s2, ?_⟩
        rw [pys_any, eb]
        exact q
    · cases e
theorem opc_in : OpC K G (rIn2 K false) fIn := by
  intro S H st σ dx dy x y Q w rx ry q
  unfold fIn at q
  cases e : inB st dx dy with
  | none => rw [e] at q; exact q.elim
  | some b =>
    rw [e] at q
    exact inB_at (neg := false) w rx ry e (Post.ok q w _ mk_bl)
theorem opc_notIn : OpC K G (rIn2 K true) fNotIn := by
  intro S H st σ dx dy x y Q w rx ry q
  unfold fNotIn at q
  cases e : inB st dx dy with
  | none => rw [e] at q; exact q.elim
  | some b =>
    rw [e] at q
    exact inB_at (neg := true) w rx ry e (Post.ok q w _ mk_bl)
end
theorem op_in2 {X : Cx} (hu : X.A.units + 65 < cLine) : OpR X (compareOp .In) (rIn2 X.K false) := OpR.or op_in_seq (op_inD hu)
theorem op_notIn2 {X : Cx} (hu : X.A.units + 65 < cLine) : OpR X (compareOp .NotIn) (rIn2 X.K true) := OpR.or op_notIn_seq (op_notInD hu)
end Wt

/-! Core 3: tests, displays, arguments, built-in calls, subscripts, slices. -/
namespace Wt
open PySem PySem.Spec PyProof.Rows L2

/-! ### tests -/
def dTest (A : Den) : DenB := fun env st => (A env st).bind fun d s => match d with
  | .bl b => .ok b s
  | _ => .bad
section
variable {X : Cx} {G : GT} {W : WX} {pos : Pos} {A B C : Den} {P R : DenB} {a b c e : Expr} {rest : List Expr}
theorem test_of {t : TE} (i : ∀ σ H Q, tD X.K G W A σ H Q → t σ H Q) (σ : L2.St) (H : Hp) (Q : Bool → Hp → Prop) (h : tT X.K G W (dTest A) σ H Q) : t σ H fun x H' => ∃ k, x = .bl k ∧ Q k H' := by
  obtain ⟨S, env, st, m, q⟩ := h
  refine i σ H _ ⟨S, env, st, m, Post.imp (Post.bind q) fun S1 H1 d s1 l1 w1 q v rv => ?_⟩
  split at q
  · exact ⟨_, rep_bl rv, Post.ok q w1⟩
  · exact q.elim
theorem eb_val (h : ED X G W A e) (he : ∀ whole, isTrue e X.env whole = (do let v ← whole; standAt e.pos; holding [v] (truthy v)) := by intro _; rfl) : EB X G W (dTest A) e :=
  PT.imp (pt_val h he) (test_of fun _ _ _ q => q)
theorem eb_cmp {op : CmpOp} {r : R2} {f : D → D → Sto → Rs D} (hc : OpC X.K G r f) (ho : OpR X (compareOp op) r) (ha : ED X G W A a) (hb : ED X G W B b) (hm : behindInMarks op b = false) : EB X G W (dTest (dOp f A B)) (.Compare a [op] [b] pos) :=
  PT.imp (pt_cmpR ho ha hb hm) (test_of (tOp_of hc))
def dChain (f g : D → D → Sto → Rs D) (A B C : Den) : Den := fun env st => (A env st).bind fun x s => (B env s).bind fun y s => (noX (f x y s)).bind fun z s => match z with
  | .bl true => (C env s).bind fun u s => noX (g y u s)
  | .bl false => .ok (.bl false) s
  | _ => .bad
theorem tChain_of {r r' : R2} {f g : D → D → Sto → Rs D} (hc : OpC X.K G r f) (hc' : OpC X.K G r' g) (σ : L2.St) (H : Hp) (Q : VK) (h : tD X.K G W (dChain f g A B C) σ H Q) : tChain r r' (tD X.K G W A) (tD X.K G W B) (tD X.K G W C) σ H Q := by
  obtain ⟨S, env, st, m, q⟩ := h
  refine ⟨S, env, st, m, Post.imp (Post.bind q) fun S1 H1 x s1 l1 w1 q v rv => ⟨S1, env, s1, m.later l1 w1, Post.imp (Post.bind q) fun S2 H2 y s2 l2 w2 q u ru => ?_⟩⟩
  refine hc S2 H2 s2 σ x y v u _ w2 (rv.mono l2) ru (Post.imp (Post.noX (k := fun S' H' d s' => Post X.K G W σ S' H' (match d with
    | .bl true => (C env s').bind fun u s => noX (g y u s)
    | .bl false => .ok (.bl false) s'
    | _ => .bad) fun S' H' d _ => ∀ v, Rep X.K G H' S' d v → Q v H') (W := W) (by
      cases e : f x y s2 with
      | ok d s3 => rw [e] at q; exact Post.bind (r := .ok d s3) q
      | exc c s3 => rw [e] at q; exact q
      | bad => rw [e] at q; exact q)) fun S3 H3 d s3 l3 w3 q z rz => ?_)
  try dsimp only at q
  split at q
  · refine ⟨true, rep_bl rz, ?_⟩
    rw [if_pos rfl]
    exact ⟨S3, env, s3, ((m.later l1 w1).later l2 w2).later l3 w3, Post.imp (Post.bind q) fun S4 H4 u' s4 l4 w4 q u'' ru' => hc' S4 H4 s4 σ y u' u u'' Q w4 ((ru.mono l3).mono l4) ru' (Post.noX q)⟩
  · refine ⟨false, rep_bl rz, ?_⟩
    rw [if_neg (by decide)]
    exact Post.ok q w3 _ mk_bl
  · exact q.elim
theorem ed_chain {op op' : CmpOp} {r r' : R2} {f g : D → D → Sto → Rs D} (hc : OpC X.K G r f) (hc' : OpC X.K G r' g) (ho : OpR X (compareOp op) r) (ho' : OpR X (compareOp op') r') (ha : ED X G W A a) (hb : ED X G W B b) (hcc : ED X G W C c)
    (hm : lastMarks [op, op'] [b, c] = false := by with_unfolding_all rfl) : ED X G W (dChain f g A B C) (.Compare a [op, op'] [b, c] pos) := PE.imp (pe_chain ho ho' ha hb hcc hm) (tChain_of hc hc')
theorem eb_chain {op op' : CmpOp} {r r' : R2} {f g : D → D → Sto → Rs D} (hc : OpC X.K G r f) (hc' : OpC X.K G r' g) (ho : OpR X (compareOp op) r) (ho' : OpR X (compareOp op') r') (ha : ED X G W A a) (hb : ED X G W B b) (hcc : ED X G W C c)
    (hm : lastMarks [op, op'] [b, c] = false := by with_unfolding_all rfl) : EB X G W (dTest (dChain f g A B C)) (.Compare a [op, op'] [b, c] pos) := PT.imp (pt_chain ho ho' ha hb hcc hm) (test_of (tChain_of hc hc'))
/-! and, or, not -/
def bAnd (P R : DenB) : DenB := fun env st => (P env st).bind fun b s => if b then R env s else .ok false s
def bOr (P R : DenB) : DenB := fun env st => (P env st).bind fun b s => if b then .ok true s else R env s
def bNot (P : DenB) : DenB := fun env st => (P env st).bind fun b s => .ok (!b) s
theorem ew_and1 (h : EB X G W P a) : EW X G W P (.BoolOp .And [a] pos) := pw_and1 h
theorem ew_or1 (h : EB X G W P a) : EW X G W P (.BoolOp .Or [a] pos) := pw_or1 h
theorem eb_w (h : EW X G W P e) : EB X G W P e := h.pt
theorem ew_and (h : EB X G W P a) (h2 : EW X G W R (.BoolOp .And (b :: rest) pos)) : EW X G W (bAnd P R) (.BoolOp .And (a :: b :: rest) pos) :=
  PW.imp (pw_and h h2) fun σ H Q ⟨S, env, st, m, q⟩ => ⟨S, env, st, m, Post.imp (Post.bind q) fun S1 H1 k s1 l1 w1 q => by
    cases k with
    | true =>
      rw [if_pos rfl]
      exact ⟨S1, env, s1, m.later l1 w1, q⟩
    | false =>
      rw [if_neg (by decide)]
      exact Post.ok q w1⟩
theorem ew_or (h : EB X G W P a) (h2 : EW X G W R (.BoolOp .Or (b :: rest) pos)) : EW X G W (bOr P R) (.BoolOp .Or (a :: b :: rest) pos) :=
  PW.imp (pw_or h h2) fun σ H Q ⟨S, env, st, m, q⟩ => ⟨S, env, st, m, Post.imp (Post.bind q) fun S1 H1 k s1 l1 w1 q => by
    cases k with
    | true =>
      rw [if_pos rfl]
      exact Post.ok q w1
    | false =>
      rw [if_neg (by decide)]
      exact ⟨S1, env, s1, m.later l1 w1, q⟩⟩
theorem eb_not (h : EB X G W P a) : EB X G W (bNot P) (.UnaryOp .Not a pos) :=
  PT.imp (pt_not h) fun σ H Q ⟨S, env, st, m, q⟩ => ⟨S, env, st, m, Post.imp (Post.bind q) fun S1 H1 k s1 l1 w1 q => Post.ok q w1⟩
/-! .. as values -/
def dAnd (A B : Den) : Den := fun env st => (A env st).bind fun d s => match d with
  | .bl true => B env s
  | .bl false => .ok (.bl false) s
  | _ => .bad
def dOr (A B : Den) : Den := fun env st => (A env st).bind fun d s => match d with
  | .bl true => .ok (.bl true) s
  | .bl false => B env s
  | _ => .bad
def dNot (A : Den) : Den := fun env st => (A env st).bind fun d s => match d with
  | .bl b => .ok (.bl (!b)) s
  | _ => .bad
theorem ed_one {op : BoolOp} (h : ED X G W A a) : ED X G W A (.BoolOp op [a] pos) := pe_one h
theorem ed_and (h : ED X G W A a) (h2 : ED X G W B (.BoolOp .And (b :: rest) pos)) : ED X G W (dAnd A B) (.BoolOp .And (a :: b :: rest) pos) :=
  PE.imp (pe_and h h2) fun σ H Q ⟨S, env, st, m, q⟩ => ⟨S, env, st, m, Post.imp (Post.bind q) fun S1 H1 d s1 l1 w1 q v rv => by
    try dsimp only at q
    split at q
    · refine ⟨true, rep_bl rv, ?_⟩
      rw [if_pos rfl]
      exact ⟨S1, env, s1, m.later l1 w1, q⟩
    · refine ⟨false, rep_bl rv, ?_⟩
      rw [if_neg (by decide)]
      exact Post.ok q w1 _ mk_bl
    · exact q.elim⟩
theorem ed_or (h : ED X G W A a) (h2 : ED X G W B (.BoolOp .Or (b :: rest) pos)) : ED X G W (dOr A B) (.BoolOp .Or (a :: b :: rest) pos) :=
  PE.imp (pe_or h h2) fun σ H Q ⟨S, env, st, m, q⟩ => ⟨S, env, st, m, Post.imp (Post.bind q) fun S1 H1 d s1 l1 w1 q v rv => by
    try dsimp only at q
    split at q
    · refine ⟨true, rep_bl rv, ?_⟩
      rw [if_pos rfl]
      exact Post.ok q w1 _ mk_bl
    · refine ⟨false, rep_bl rv, ?_⟩
      rw [if_neg (by decide)]
      exact ⟨S1, env, s1, m.later l1 w1, q⟩
    · exact q.elim⟩
theorem ed_not (h : ED X G W A a) : ED X G W (dNot A) (.UnaryOp .Not a pos) :=
  PE.imp (pe_not h) fun σ H Q ⟨S, env, st, m, q⟩ => ⟨S, env, st, m, Post.imp (Post.bind q) fun S1 H1 d s1 l1 w1 q v rv => by
    try dsimp only at q
    split at q
    · exact ⟨_, rep_bl rv, Post.ok q w1 _ mk_bl⟩
    · exact q.elim⟩
def dIf (P : DenB) (A B : Den) : Den := fun env st => (P env st).bind fun b s => if b then A env s else B env s
theorem ed_if (h : EB X G W P c) (ha : ED X G W A a) (hb : ED X G W B b) : ED X G W (dIf P A B) (.IfExp c a b pos) :=
  PE.imp (pe_ifExp h ha hb) fun σ H Q ⟨S, env, st, m, q⟩ => ⟨S, env, st, m, Post.imp (Post.bind q) fun S1 H1 k s1 l1 w1 q => by
    cases k with
    | true =>
      rw [if_pos rfl]
      exact ⟨S1, env, s1, m.later l1 w1, q⟩
    | false =>
      rw [if_neg (by decide)]
      exact ⟨S1, env, s1, m.later l1 w1, q⟩⟩
end
/-! ### is -/
def fIs : D → D → Sto → Rs D
  | .bl a, .bl b, st => .ok (.bl (decide (a = b))) st
  | _, _, _ => .bad
def fIsNot : D → D → Sto → Rs D
  | .bl a, .bl b, st => .ok (.bl (!decide (a = b))) st
  | _, _, _ => .bad
def D.isNon : D → Bool
  | .non => true
  | _ => false
def fIsN (x : D) (y : D) (st : Sto) : Rs D := match y with
  | .non => .ok (.bl x.isNon) st
  | _ => .bad
def fNotN (x : D) (y : D) (st : Sto) : Rs D := match y with
  | .non => .ok (.bl (!x.isNon)) st
  | _ => .bad
section
variable {K : PySem.W.Frag} {G : GT}
theorem non_iff {H : Hp} {S : Vw} {d : D} {v : V} (r : Rep K G H S d v) : decide (v = .non) = d.isNon := by
  cases d <;> simp only [Rep] at r
  all_goals first
    | (subst r; simp [D.isNon])
    | (obtain ⟨L, a, c', _, rfl, _⟩ := r; simp [D.isNon])
    | (obtain ⟨a, vs, rfl, _⟩ := r; simp [D.isNon])
    | (obtain ⟨a, dx, vs, rfl, _⟩ := r; simp [D.isNon])
    | (obtain ⟨a, rfl, _⟩ := r; simp [D.isNon])
theorem opc_isN : OpC K G (fun x y H Q => y = .non ∧ Q (.bl (decide (x = .non))) H) fIsN := by
  intro S H st σ dx dy x y Q w rx ry q
  unfold fIsN at q
  split at q
  · refine ⟨rep_non ry, ?_⟩
    rw [non_iff rx]
    exact Post.ok q w _ mk_bl
  · exact q.elim
theorem opc_notN : OpC K G (fun x y H Q => y = .non ∧ Q (.bl (!decide (x = .non))) H) fNotN := by
  intro S H st σ dx dy x y Q w rx ry q
  unfold fNotN at q
  split at q
  · refine ⟨rep_non ry, ?_⟩
    rw [non_iff rx]
    exact Post.ok q w _ mk_bl
  · exact q.elim
end

/-! ### arguments, displays -/
def aNil : DenL := fun _ st => .ok [] st
def aCons (A : Den) (As : DenL) : DenL := fun env st => (A env st).bind fun x s => (As env s).bind fun l s => .ok (x :: l) s
def dTup (As : DenL) : Den := fun env st => (As env st).bind fun l s => if szOk l.length then .ok (.tup l) s else .bad
def lLst (As : DenL) : DenL := fun env st => (As env st).bind fun l s => if szOk l.length then .ok l s else .bad
/-- a new list: that stays as it is; that is changed -/
def dDat (A : DenL) : Den := fun env st => (A env st).bind fun l s => .ok (.lst l) s
def dCel (A : DenL) : Den := fun env st => (A env st).bind fun l s => .ok (.loc s.length) (s ++ [.list l])
section
variable {X : Cx} {G : GT} {W : WX} {pos : Pos} {A B C : Den} {As Bs : DenL} {P R : DenB} {a b c e : Expr} {es : List Expr}
theorem ea_nil : EA X G W aNil [] := PA.imp pa_nil fun σ H Q ⟨S, env, st, m, q⟩ => Post.ok q m.ws _ Reps.nil
theorem ea_cons (h : ED X G W A e) (t : EA X G W As es) (hs : starEach (e :: es) X.env = (false, eval e X.env) :: starEach es X.env := by rfl) : EA X G W (aCons A As) (e :: es) :=
  PA.imp (pa_cons h t hs) fun σ H Q ⟨S, env, st, m, q⟩ => ⟨S, env, st, m, Post.imp (Post.bind q) fun S1 H1 x s1 l1 w1 q v rv => ⟨S1, env, s1, m.later l1 w1, Post.imp (Post.bind q) fun S2 H2 l s2 l2 w2 q vs rvs =>
    Post.ok q w2 _ (.cons (rv.mono l2) rvs)⟩⟩
theorem ed_tup {k : Nat} (h : EA X G W As es) : ED X G W (dTup As) (.Tuple es k pos) :=
  PE.imp (pe_tup h) fun σ H Q ⟨S, env, st, m, q⟩ => ⟨S, env, st, m, Post.imp (Post.bind q) fun S1 H1 l s1 l1 w1 q vs rvs => by
    split at q
    · rename_i hz
      exact ⟨by rw [← rvs.length]; exact szOk.ok hz, fun p hp => new_tup w1 rvs hp q⟩
    · exact q.elim⟩
theorem el_lst (h : EA X G W As es) : EL X G W (lLst As) (.List es pos) :=
  PE.imp (pe_lst h) fun σ H Q ⟨S, env, st, m, q⟩ => ⟨S, env, st, m, Post.imp (Post.bind q) fun S1 H1 l s1 l1 w1 q vs rvs => by
    split at q
    · rename_i hz
      exact ⟨by rw [← rvs.length]; exact szOk.ok hz, fun p hp => Post.ok q w1 vs p rvs hp⟩
    · exact q.elim⟩
theorem ed_dat (h : EL X G W As e) : ED X G W (dDat As) e :=
  PE.imp h fun σ H Q ⟨S, env, st, m, q⟩ => ⟨S, env, st, m, Post.imp (Post.bind q) fun S1 H1 l s1 l1 w1 q vs p rvs hp => new_lst w1 rvs hp q⟩
theorem ed_cel (h : EL X G W As e) : ED X G W (dCel As) e :=
  PE.imp h fun σ H Q ⟨S, env, st, m, q⟩ => ⟨S, env, st, m, Post.imp (Post.bind q) fun S1 H1 l s1 l1 w1 q vs p rvs hp => new_cel w1 rvs hp q⟩
/-- the sum of two lists as a new list of its own -/
def lCat (A B : Den) : DenL := fun env st => (A env st).bind fun x s => (B env s).bind fun y s => match getM s x, getM s y with
  | some l, some m => if szOk (l.length + m.length) then .ok (l ++ m) s else .bad
  | _, _ => .bad
theorem el_cat (ha : ED X G W A a) (hb : ED X G W B b) : EL X G W (lCat A B) (.BinOp a .Add b pos) :=
  PE.imp (pe_op op_cat ha hb) fun σ H Q ⟨S, env, st, m, q⟩ => ⟨S, env, st, m, Post.imp (Post.bind q) fun S1 H1 x s1 l1 w1 q v rv => ⟨S1, env, s1, m.later l1 w1, Post.imp (Post.bind q) fun S2 H2 y s2 l2 w2 q u ru => by
    cases e1 : getM s2 x with
    | none => rw [e1] at q; exact q.elim
    | some l =>
      rw [e1] at q
      cases e2 : getM s2 y with
      | none => rw [e2] at q; exact q.elim
      | some m =>
        rw [e2] at q
        obtain ⟨a, vs, rfl, h1, h2⟩ := getM_at w2 (rv.mono l2) e1
        obtain ⟨b, us, rfl, h3, h4⟩ := getM_at w2 ru e2
        try dsimp only at q
        split at q
        · rename_i hz
          refine ⟨a, b, vs, us, rfl, rfl, h1, h3, ?_, fun p hp => Post.ok q w2 _ p (h2.append h4) hp⟩
          rw [← h2.length, ← h4.length]
          exact szOk.ok hz
        · exact q.elim⟩⟩
end

/-! ### calls of built-ins -/
def dCall (f : List D → Sto → Rs D) (As : DenL) : Den := fun env st => (As env st).bind fun l s => noX (f l s)
def lCall (f : List D → Sto → Option (List D)) (As : DenL) : DenL := fun env st => (As env st).bind fun l s => match f l s with
  | some m => .ok m s
  | none => .bad
section
variable (K : PySem.W.Frag) (G : GT)
/-- a call that gives a new list -/
def ClC (r : List V → Hp → VK → Prop) (f : List D → Sto → Option (List D)) : Prop := ∀ (S : Vw) (H : Hp) (st : Sto) (ds l : List D) (xs : List V) (Q : VK), Ws K G H S st → Reps K G H S ds xs → f ds st = some l →
  (∀ vs p, Reps K G H S l vs → H p = none → Q (.ref p) (upd H p (.lst vs))) → r xs H Q
end
section
variable {X : Cx} {G : GT} {W : WX} {p pos : Pos} {As : DenL} {e : Expr} {es : List Expr} {x : Str} {id T : String} {r : List V → Hp → VK → Prop} {f : List D → Sto → Rs D} {g : List D → Sto → Option (List D)}
theorem tCB_of (hc : CaC X.K G r f) (σ : L2.St) (H : Hp) (Q : VK) (h : tD X.K G W (dCall f As) σ H Q) : tCB r (tA X.K G W As) σ H Q := by
  obtain ⟨S, env, st, m, q⟩ := h
  exact ⟨S, env, st, m, Post.imp (Post.bind q) fun S1 H1 l s1 l1 w1 q vs rvs => hc S1 H1 s1 σ l vs Q w1 rvs (Post.noX q)⟩
theorem tCBl_of (hc : ClC X.K G r g) (σ : L2.St) (H : Hp) (Q : VK) (h : tL X.K G W (lCall g As) σ H Q) : tCB r (tA X.K G W As) σ H Q := by
  obtain ⟨S, env, st, m, q⟩ := h
  refine ⟨S, env, st, m, Post.imp (Post.bind q) fun S1 H1 l s1 l1 w1 q vs rvs => ?_⟩
  cases e : g l s1 with
  | none => rw [e] at q; exact q.elim
  | some l' =>
    rw [e] at q
    exact hc S1 H1 s1 l l' vs Q w1 rvs e (Post.ok q w1)
theorem ed_callB (hc : CaC X.K G r f) (hr : CallR X (.builtin id) r) (hg : Gl X x) (hm : X.mg x = none) (hv : bootBuiltins x = some (.builtin id)) (ha : EA X G W As (e :: es)) (hn : x ≠ "__name__" := by decide) (hdb : (x == ("__debug__" : Str)) = false := by decide)
    (he : starEach (e :: es) X.env = (false, eval e X.env) :: starEach es X.env := by rfl) (hpl : (backTo pos (starEach es X.env)).any (·.1) = false := by rfl) : ED X G W (dCall f As) (.Call (.Name x p) (e :: es) [] pos) :=
  PE.imp (pe_callB hr hg hm hv ha hn hdb he hpl) (tCB_of hc)
theorem el_callB (hc : ClC X.K G r g) (hr : CallR X (.builtin id) r) (hg : Gl X x) (hm : X.mg x = none) (hv : bootBuiltins x = some (.builtin id)) (ha : EA X G W As (e :: es)) (hn : x ≠ "__name__" := by decide) (hdb : (x == ("__debug__" : Str)) = false := by decide)
    (he : starEach (e :: es) X.env = (false, eval e X.env) :: starEach es X.env := by rfl) (hpl : (backTo pos (starEach es X.env)).any (·.1) = false := by rfl) : EL X G W (lCall g As) (.Call (.Name x p) (e :: es) [] pos) :=
  PE.imp (pe_callB hr hg hm hv ha hn hdb he hpl) (tCBl_of hc)
theorem el_callTy (hc : ClC X.K G r g) (hr : CallR X (.type T) r) (hg : Gl X x) (hm : X.mg x = none) (hv : bootBuiltins x = some (.type T)) (ha : EA X G W As (e :: es)) (hn : x ≠ "__name__" := by decide) (hdb : (x == ("__debug__" : Str)) = false := by decide)
    (he : starEach (e :: es) X.env = (false, eval e X.env) :: starEach es X.env := by rfl) (hpl : (backTo pos (starEach es X.env)).any (·.1) = false := by rfl) : EL X G W (lCall g As) (.Call (.Name x p) (e :: es) [] pos) :=
  PE.imp (pe_callTy hr hg hm hv ha hn hdb he hpl) (tCBl_of hc)
end
/-! len, abs, min, max, sum, all, any -/
def intsOf : List D → Option (List Int)
  | [] => some []
  | .int i :: r => (intsOf r).map (i :: ·)
  | _ :: _ => none
def blsOf : List D → Option (List Bool)
  | [] => some []
  | .bl i :: r => (blsOf r).map (i :: ·)
  | _ :: _ => none
theorem intsOf_eq : ∀ {l : List D} {ns : List Int}, intsOf l = some ns → l = ns.map D.int
  | [], _, h => by simp [intsOf] at h; subst h; rfl
  | d :: l, ns, h => by
    cases d <;> simp [intsOf] at h
    obtain ⟨m, hm, rfl⟩ := h
    rw [intsOf_eq hm]
    rfl
theorem intsOf_map : ∀ ns : List Int, intsOf (ns.map D.int) = some ns
  | [] => rfl
  | n :: ns => by simp [intsOf, intsOf_map ns]
theorem blsOf_eq : ∀ {l : List D} {ns : List Bool}, blsOf l = some ns → l = ns.map D.bl
  | [], _, h => by simp [blsOf] at h; subst h; rfl
  | d :: l, ns, h => by
    cases d <;> simp [blsOf] at h
    obtain ⟨m, hm, rfl⟩ := h
    rw [blsOf_eq hm]
    rfl
theorem blsOf_map : ∀ ns : List Bool, blsOf (ns.map D.bl) = some ns
  | [] => rfl
  | n :: ns => by simp [blsOf, blsOf_map ns]
def fLen : List D → Sto → Rs D
  | [d], st => match getS st d with
    | some l => .ok (.int (l.length : Int)) st
    | none => .bad
  | _, _ => .bad
def fAbs : List D → Sto → Rs D
  | [.int i], st => .ok (.int (if i < 0 then -i else i)) st
  | _, _ => .bad
def fMin2 : List D → Sto → Rs D
  | [.int i, .int j], st => .ok (.int (if j < i then j else i)) st
  | _, _ => .bad
def fMax2 : List D → Sto → Rs D
  | [.int i, .int j], st => .ok (.int (if j > i then j else i)) st
  | _, _ => .bad
def fSum : List D → Sto → Rs D
  | [d], st => match (getL st d).bind intsOf with
    | some ns => .ok (.int ns.sum) st
    | none => .bad
  | _, _ => .bad
def fAll : List D → Sto → Rs D
  | [d], st => match (getL st d).bind blsOf with
    | some bs => .ok (.bl (bs.all id)) st
    | none => .bad
  | _, _ => .bad
def fAny : List D → Sto → Rs D
  | [d], st => match (getL st d).bind blsOf with
    | some bs => .ok (.bl (bs.any id)) st
    | none => .bad
  | _, _ => .bad
/-- the greatest, the least of a list -/
def gMax : Int → List Int → Int
  | m, [] => m
  | m, x :: r => gMax (if x > m then x else m) r
def gMin : Int → List Int → Int
  | m, [] => m
  | m, x :: r => gMin (if x < m then x else m) r
theorem gMax_spec : ∀ (r : List Int) (m : Int), gMax m r ∈ m :: r ∧ ∀ y ∈ m :: r, y ≤ gMax m r
  | [], m => ⟨by simp [gMax], by simp [gMax]⟩
  | x :: r, m => by
    obtain ⟨h1, h2⟩ := gMax_spec r (if x > m then x else m)
    refine ⟨?_, ?_⟩
    · rw [gMax]
      rcases List.mem_cons.mp h1 with h | h
      · rw [h]
        split
        · simp
        · simp
      · exact List.mem_cons_of_mem _ (List.mem_cons_of_mem _ h)
    · intro y hy
      rw [gMax]
      have h3 := h2 _ (List.mem_cons_self ..)
      rcases List.mem_cons.mp hy with h | h
      · subst h
        split at h3 <;> rename_i hc
        · rw [if_pos hc]; omega
        · rw [if_neg hc]; omega
      · rcases List.mem_cons.mp h with h | h
        · subst h
          split at h3 <;> rename_i hc
          · rw [if_pos hc]; omega
          · rw [if_neg hc]; omega
        · exact h2 _ (List.mem_cons_of_mem _ h)
theorem gMin_spec : ∀ (r : List Int) (m : Int), gMin m r ∈ m :: r ∧ ∀ y ∈ m :: r, gMin m r ≤ y
  | [], m => ⟨by simp [gMin], by simp [gMin]⟩
  | x :: r, m => by
    obtain ⟨h1, h2⟩ := gMin_spec r (if x < m then x else m)
    refine ⟨?_, ?_⟩
    · rw [gMin]
      rcases List.mem_cons.mp h1 with h | h
      · rw [h]
        split
        · simp
        · simp
      · exact List.mem_cons_of_mem _ (List.mem_cons_of_mem _ h)
    · intro y hy
      rw [gMin]
      have h3 := h2 _ (List.mem_cons_self ..)
      rcases List.mem_cons.mp hy with h | h
      · subst h
        split at h3 <;> rename_i hc
        · rw [if_pos hc]; omega
        · rw [if_neg hc]; omega
      · rcases List.mem_cons.mp h with h | h
        · subst h
          split at h3 <;> rename_i hc
          · rw [if_pos hc]; omega
          · rw [if_neg hc]; omega
        · exact h2 _ (List.mem_cons_of_mem _ h)
def fMax1 : List D → Sto → Rs D
  | [d], st => match (getL st d).bind intsOf with
    | some (n :: r) => .ok (.int (gMax n r)) st
    | _ => .bad
  | _, _ => .bad
def fMin1 : List D → Sto → Rs D
  | [d], st => match (getL st d).bind intsOf with
    | some (n :: r) => .ok (.int (gMin n r)) st
    | _ => .bad
  | _, _ => .bad
section
variable {K : PySem.W.Frag} {G : GT}
theorem bind_at {α β : Type} {o : Option α} {f : α → Option β} {b : β} (h : o.bind f = some b) : ∃ a, o = some a ∧ f a = some b := by
  cases o with
  | none => cases h
  | some a => exact ⟨a, rfl, h⟩
theorem cac_len : CaC K G (fun xs H Q => ∃ p ys, xs = [.ref p] ∧ (SqL K H p ys ∨ SqT K H p ys) ∧ Q (.int ys.length) H) fLen := by
  intro S H st σ ds xs Q w r q
  unfold fLen at q
  split at q
  · rename_i d
    obtain ⟨v, rfl, rv⟩ := r.one
    cases e : getS st d with
    | none => rw [e] at q; exact q.elim
    | some l =>
      rw [e] at q
      obtain ⟨a, vs, rfl, h1, h2⟩ := getS_at w rv e
      exact ⟨a, vs, rfl, h1, Post.ok q w _ (by rw [h2.length]; exact mk_int)⟩
  · exact q.elim
theorem cac_abs : CaC K G (fun xs H Q => ∃ i, xs = [.int i] ∧ Q (.int (if i < 0 then -i else i)) H) fAbs := by
  intro S H st σ ds xs Q w r q
  unfold fAbs at q
  split at q
  · obtain ⟨v, rfl, rv⟩ := r.one
    exact ⟨_, by rw [rep_int rv], Post.ok q w _ mk_int⟩
  · exact q.elim
theorem cac_min2 : CaC K G (fun xs H Q => ∃ i j, xs = [.int i, .int j] ∧ Q (.int (if j < i then j else i)) H) fMin2 := by
  intro S H st σ ds xs Q w r q
  unfold fMin2 at q
  split at q
  · obtain ⟨v, u, rfl, rv, ru⟩ := r.two
    exact ⟨_, _, by rw [rep_int rv, rep_int ru], Post.ok q w _ mk_int⟩
  · exact q.elim
theorem cac_max2 : CaC K G (fun xs H Q => ∃ i j, xs = [.int i, .int j] ∧ Q (.int (if j > i then j else i)) H) fMax2 := by
  intro S H st σ ds xs Q w r q
  unfold fMax2 at q
  split at q
  · obtain ⟨v, u, rfl, rv, ru⟩ := r.two
    exact ⟨_, _, by rw [rep_int rv, rep_int ru], Post.ok q w _ mk_int⟩
  · exact q.elim
theorem ints_at {H : Hp} {S : Vw} {st : Sto} {d : D} {v : V} {ns : List Int} (w : Ws K G H S st) (rv : Rep K G H S d v) (e : (getL st d).bind intsOf = some ns) : ∃ a, v = .ref a ∧ SqL K H a (ns.map V.int) := by
  obtain ⟨l, e1, e2⟩ := bind_at e
  obtain ⟨a, vs, rfl, h1, h2⟩ := getL_at w rv e1
  rw [intsOf_eq e2] at h2
  rw [h2.ints] at h1
  exact ⟨a, rfl, h1⟩
theorem cac_sum : CaC K G (rSum K) fSum := by
  intro S H st σ ds xs Q w r q
  unfold fSum at q
  split at q
  · rename_i d
    obtain ⟨v, rfl, rv⟩ := r.one
    cases e : (getL st d).bind intsOf with
    | none => rw [e] at q; exact q.elim
    | some ns =>
      rw [e] at q
      obtain ⟨a, rfl, h1⟩ := ints_at w rv e
      exact ⟨a, ns, rfl, h1, Post.ok q w _ mk_int⟩
  · exact q.elim
theorem cac_max1 : CaC K G (rMax K) fMax1 := by
  intro S H st σ ds xs Q w r q
  unfold fMax1 at q
  split at q
  · rename_i d
    obtain ⟨v, rfl, rv⟩ := r.one
    split at q
    · rename_i n r' e
      obtain ⟨a, rfl, h1⟩ := ints_at w rv e
      refine ⟨a, n :: r', rfl, h1, by simp, fun m hm hle => ?_⟩
      obtain ⟨g1, g2⟩ := gMax_spec r' n
      have em : m = gMax n r' := Int.le_antisymm (g2 m hm) (hle _ g1)
      rw [em]
      exact Post.ok q w _ mk_int
    · exact q.elim
  · exact q.elim
theorem cac_min1 : CaC K G (rMin K) fMin1 := by
  intro S H st σ ds xs Q w r q
  unfold fMin1 at q
  split at q
  · rename_i d
    obtain ⟨v, rfl, rv⟩ := r.one
    split at q
    · rename_i n r' e
      obtain ⟨a, rfl, h1⟩ := ints_at w rv e
      refine ⟨a, n :: r', rfl, h1, by simp, fun m hm hle => ?_⟩
      obtain ⟨g1, g2⟩ := gMin_spec r' n
      have em : m = gMin n r' := Int.le_antisymm (hle _ g1) (g2 m hm)
      rw [em]
      exact Post.ok q w _ mk_int
    · exact q.elim
  · exact q.elim
theorem cac_all : CaC K G (rAll K) fAll := by
  intro S H st σ ds xs Q w r q
  unfold fAll at q
  split at q
  · rename_i d
    obtain ⟨v, rfl, rv⟩ := r.one
    cases e : (getL st d).bind blsOf with
    | none => rw [e] at q; exact q.elim
    | some ns =>
      rw [e] at q
      obtain ⟨l, e1, e2⟩ := bind_at e
      obtain ⟨a, vs, rfl, h1, h2⟩ := getL_at w rv e1
      rw [blsOf_eq e2] at h2
      rw [h2.bls] at h1
      exact ⟨a, ns, rfl, h1, Post.ok q w _ mk_bl⟩
  · exact q.elim
theorem cac_any : CaC K G (rAny K) fAny := by
  intro S H st σ ds xs Q w r q
  unfold fAny at q
  split at q
  · rename_i d
    obtain ⟨v, rfl, rv⟩ := r.one
    cases e : (getL st d).bind blsOf with
    | none => rw [e] at q; exact q.elim
    | some ns =>
      rw [e] at q
      obtain ⟨l, e1, e2⟩ := bind_at e
      obtain ⟨a, vs, rfl, h1, h2⟩ := getL_at w rv e1
      rw [blsOf_eq e2] at h2
      rw [h2.bls] at h1
      exact ⟨a, ns, rfl, h1, Post.ok q w _ mk_bl⟩
  · exact q.elim
/-- list(x) -/
def gList : List D → Sto → Option (List D)
  | [d], st => getS st d
  | _, _ => none
theorem clc_list : ClC K G (fun xs H Q => ∃ p ys, xs = [.ref p] ∧ (SqL K H p ys ∨ SqT K H p ys) ∧ ∀ l, H l = none → Q (.ref l) (upd H l (.lst ys))) gList := by
  intro S H st ds l xs Q w r e q
  unfold gList at e
  split at e
  · obtain ⟨v, rfl, rv⟩ := r.one
    obtain ⟨a, vs, rfl, h1, h2⟩ := getS_at w rv e
    exact ⟨a, vs, rfl, h1, fun p hp => q vs p h2 hp⟩
  · cases e
end

/-! ### subscripts -/
def fIx (x i : D) (st : Sto) : Rs D := match getS st x, i with
  | some l, .int k => match atI l k with
    | some d => .ok d st
    | none => .bad
  | _, _ => .bad
def rIx2 (K : PySem.W.Frag) : R2 := fun x y H Q => rIxL K x y H Q ∨ rIxT K x y H Q
section
variable {K : PySem.W.Frag} {G : GT} {H : Hp} {S : Vw}
theorem ixN_lt {n : Nat} {i : Int} {j : Nat} (h : ixN n i = some j) : j < n := (ixN_seq h).2.1
theorem Reps.atI {l : List D} {vs : List V} {k : Int} {d : D} (r : Reps K G H S l vs) (e : L2.atI l k = some d) : ∃ v, L2.atI vs k = some v ∧ Rep K G H S d v := by
  unfold L2.atI at e ⊢
  rw [← r.length]
  cases q : ixN l.length k with
  | none => rw [q] at e; cases e
  | some j =>
    rw [q] at e
    exact r.get e
theorem opc_ix : OpC K G (rIx2 K) fIx := by
  intro S H st σ dx dy x y Q w rx ry q
  unfold fIx at q
  split at q
  · rename_i l k e
    split at q
    · rename_i d ed
      obtain ⟨a, vs, rfl, h1, h2⟩ := getS_at w rx e
      obtain ⟨v, h3, h4⟩ := h2.atI ed
      rcases h1 with h1 | h1
      · exact .inl ⟨a, vs, k, v, rfl, rep_int ry, h1, h3, Post.ok q w _ h4⟩
      · exact .inr ⟨a, vs, k, v, rfl, rep_int ry, h1, h3, Post.ok q w _ h4⟩
    · exact q.elim
  · exact q.elim
end
section
variable {X : Cx} {G : GT} {W : WX} {pos p2 : Pos} {A B C : Den} {As : DenL} {a b e : Expr} {lo hi : Option Expr}
theorem ed_ix (ha : ED X G W A a) (hb : ED X G W B b) (hs : PlainIx b := by exact fun _ _ => rfl) : ED X G W (dOp fIx A B) (.Subscript a b pos) := PE.imp (pe_ix (IxR.or ix_list ix_tup) ha hb hs) (tOp_of opc_ix)
/-! slices -/
abbrev DenO := En → Sto → Rs (Option Int)
def oNone : DenO := fun _ st => .ok none st
def oSome (A : Den) : DenO := fun env st => (A env st).bind fun d s => match d with
  | .int i => .ok (some i) s
  | _ => .bad
def tO (K : PySem.W.Frag) (G : GT) (W : WX) (A : DenO) : TO := fun σ H Q => ∃ S env st, Sm K G S σ H env st ∧ Post K G W σ S H (A env st) fun S' H' o _ => Q o H'
theorem PO.imp {e : Option Expr} {t t' : TO} (h : PO X e t) (i : ∀ σ H Q, t' σ H Q → t σ H Q) : PO X e t' := ⟨fun pins s σ H Q I q => h.run pins s σ H Q I (i σ H Q q)⟩
abbrev EO (X : Cx) (G : GT) (W : WX) (A : DenO) (e : Option Expr) : Prop := PO X e (tO X.K G W A)
theorem eo_none : EO X G W oNone none := PO.imp po_none fun σ H Q ⟨S, env, st, m, q⟩ => Post.ok q m.ws
theorem eo_some (h : ED X G W A e) : EO X G W (oSome A) (some e) := PO.imp (po_some h) fun σ H Q ⟨S, env, st, m, q⟩ => ⟨S, env, st, m, Post.imp (Post.bind q) fun S1 H1 d s1 l1 w1 q v rv => by
  split at q
  · exact ⟨_, rep_int rv, Post.ok q w1⟩
  · exact q.elim⟩
def cutD (l : List D) (lo hi : Option Int) : List D := (l.drop (HT.sIx l.length 0 lo)).take (HT.sIx l.length l.length hi - HT.sIx l.length 0 lo)
theorem Reps.cut {K : PySem.W.Frag} {G : GT} {H : Hp} {S : Vw} {l : List D} {vs : List V} (r : Reps K G H S l vs) (lo hi : Option Int) : Reps K G H S (cutD l lo hi) (cutV vs lo hi) := by
  unfold cutD cutV
  rw [r.length]
  exact (r.drop _).take _
def fSl (x : D) (lo hi : Option Int) (st : Sto) : Rs D := match x with
  | .tup l => if decide (HT.sIx l.length 0 lo = 0 ∧ HT.sIx l.length l.length hi = l.length) then .bad else .ok (.tup (cutD l lo hi)) st
  | x => match getL st x with
    | some l => .ok (.lst (cutD l lo hi)) st
    | none => .bad
def dSl (A : Den) (L U : DenO) : Den := fun env st => (A env st).bind fun x s => (L env s).bind fun lo s => (U env s).bind fun hi s => fSl x lo hi s
def lSl (A : Den) (L U : DenO) : DenL := fun env st => (A env st).bind fun x s => (L env s).bind fun lo s => (U env s).bind fun hi s => match getL s x with
  | some l => .ok (cutD l lo hi) s
  | none => .bad
variable {L U : DenO}
theorem ed_sl (h : ED X G W A e) (hl : EO X G W L lo) (hh : EO X G W U hi) : ED X G W (dSl A L U) (.Subscript e (.Slice lo hi none p2) pos) :=
  PE.imp (pe_slice (SlR.or sl_list sl_tup) h hl hh) fun σ H Q ⟨S, env, st, m, q⟩ => ⟨S, env, st, m, Post.imp (Post.bind q) fun S1 H1 x s1 l1 w1 q v rv => ⟨S1, env, s1, m.later l1 w1, Post.imp (Post.bind q) fun S2 H2 lo s2 l2 w2 q =>
    ⟨S2, env, s2, (m.later l1 w1).later l2 w2, Post.imp (Post.bind q) fun S3 H3 hi s3 l3 w3 q => by
      have rv' := (rv.mono l2).mono l3
      unfold fSl at q
      split at q
      · rename_i l
        split at q
        · exact q.elim
        · rename_i hn
          obtain ⟨a, vs, rfl, h1, h2⟩ := rep_tup rv'
          refine .inr ⟨a, vs, rfl, h1, ?_, fun p hp => new_tup w3 (h2.cut _ _) hp q⟩
          rw [← h2.length]
          simpa using hn
      · cases el : getL s3 x with
        | none => rw [el] at q; exact q.elim
        | some l =>
          rw [el] at q
          obtain ⟨a, vs, rfl, h1, h2⟩ := getL_at w3 rv' el
          exact .inl ⟨a, vs, rfl, h1, fun p hp => new_lst w3 (h2.cut _ _) hp q⟩⟩⟩⟩
theorem el_sl (h : ED X G W A e) (hl : EO X G W L lo) (hh : EO X G W U hi) : EL X G W (lSl A L U) (.Subscript e (.Slice lo hi none p2) pos) :=
  PE.imp (pe_slice sl_list h hl hh) fun σ H Q ⟨S, env, st, m, q⟩ => ⟨S, env, st, m, Post.imp (Post.bind q) fun S1 H1 x s1 l1 w1 q v rv => ⟨S1, env, s1, m.later l1 w1, Post.imp (Post.bind q) fun S2 H2 lo s2 l2 w2 q =>
    ⟨S2, env, s2, (m.later l1 w1).later l2 w2, Post.imp (Post.bind q) fun S3 H3 hi s3 l3 w3 q => by
      have rv' := (rv.mono l2).mono l3
      cases el : getL s3 x with
      | none => rw [el] at q; exact q.elim
      | some l =>
        rw [el] at q
        obtain ⟨a, vs, rfl, h1, h2⟩ := getL_at w3 rv' el
        exact ⟨a, vs, rfl, h1, fun p hp => Post.ok q w3 _ p (h2.cut _ _) hp⟩⟩⟩⟩
end
end Wt

/-! Core 4: statements, loops, comprehensions, defs and their calls. -/
namespace Wt
open PySem PySem.Spec PyProof.Rows L2
section
variable (K : PySem.W.Frag) (G : GT)
def PostS (W : WX) (S : Vw) (H : Hp) (r : Fl) (E : Ends) : Prop :=
  match r with
  | .nx env st => ∀ S' H' σ', Lat H S H' S' → Sm K G S' σ' H' env st → E.nx σ' H'
  | .rt d st => ∀ S' H' v, Lat H S H' S' → Ws K G H' S' st → Rep K G H' S' d v → E.rt v H'
  | .bk env st => ∀ S' H' σ', Lat H S H' S' → Sm K G S' σ' H' env st → E.bk σ' H'
  | .ct env st => ∀ S' H' σ', Lat H S H' S' → Sm K G S' σ' H' env st → E.ct σ' H'
  | .exc c env st => ∀ S' H' σ', Lat H S H' S' → Sm K G S' σ' H' env st → W (.ref (G c)) none σ' H'
  | .bad => False
def tS (W : WX) (B : DenS) : TS := fun E σ H => ∃ S env st, Sm K G S σ H env st ∧ PostS K G W S H (B env st) E
end
abbrev ES (X : Cx) (G : GT) (W : WX) (B : DenS) (s : Stmt) : Prop := PS X s (tS X.K G W B)
abbrev ESs (X : Cx) (G : GT) (W : WX) (B : DenS) (s : List Stmt) : Prop := PSs X s (tS X.K G W B)
section
variable {K : PySem.W.Frag} {G : GT} {H H' : Hp} {S S' : Vw} {σ : L2.St} {env : En} {st : Sto} {W : WX} {α β : Type}
theorem PostS.later {r : Fl} {E : Ends} (h : PostS K G W S H r E) (l : Lat H S H' S') : PostS K G W S' H' r E := by
  cases r with
  | nx e s => exact fun S2 H2 σ2 l2 m => h S2 H2 σ2 (l.trans l2) m
  | rt d s => exact fun S2 H2 v l2 w r => h S2 H2 v (l.trans l2) w r
  | bk e s => exact fun S2 H2 σ2 l2 m => h S2 H2 σ2 (l.trans l2) m
  | ct e s => exact fun S2 H2 σ2 l2 m => h S2 H2 σ2 (l.trans l2) m
  | exc c e s => exact fun S2 H2 σ2 l2 m => h S2 H2 σ2 (l.trans l2) m
  | bad => exact h
/-- a value's statement -/
def Rs.then (env : En) (r : Rs α) (f : α → Sto → Fl) : Fl := match r with
  | .ok a st => f a st
  | .exc c st => .exc c env st
  | .bad => .bad
theorem Post.then {r : Rs α} {f : α → Sto → Fl} {E : Ends} (m : ERep K G H S σ env) (h : PostS K G W S H (r.then env f) E) : Post K G W σ S H r fun S' H' a s => PostS K G W S' H' (f a s) E := by
  cases r with
  | ok a s => exact fun S' H' l w => PostS.later (r := f a s) h l
  | exc c s => exact fun S' H' l w => h S' H' σ l ⟨w, m.mono l⟩
  | bad => exact h
end

/-! ### small statements -/
def sNil : DenS := fun env st => .nx env st
def sSeq (A B : DenS) : DenS := fun env st => match A env st with
  | .nx env st => B env st
  | r => r
def sExpr (A : Den) : DenS := fun env st => (A env st).then env fun _ s => .nx env s
def sRet (A : Den) : DenS := fun env st => (A env st).then env fun d s => .rt d s
def sIf (P : DenB) (A B : DenS) : DenS := fun env st => (P env st).then env fun b s => if b then A env s else B env s
/-- a target: how a value is bound -/
abbrev DenG := D → En → Option En
def gVar (i : Nat) : DenG := fun d env => some (env.set i (some d))
def gVars : List Nat → List D → En → Option En
  | [], [], env => some env
  | i :: is, d :: ds, env => gVars is ds (env.set i (some d))
  | _, _, _ => none
def gTupV (is : List Nat) : DenG := fun d env => match d with
  | .tup ds => gVars is ds env
  | _ => none
def sAsg (g : DenG) (A : Den) : DenS := fun env st => (A env st).then env fun d s => match g d env with
  | some env' => .nx env' s
  | none => .bad
/-- a, b = x, y and a, b, c = x, y, z -/
def sPar (is : List Nat) (As : DenL) : DenS := fun env st => (As env st).then env fun ds s => match gVars is ds env with
  | some env' => .nx env' s
  | none => .bad
section
variable (K : PySem.W.Frag) (G : GT)
def tGt (g : DenG) : TG := fun v σ H Q => ∃ S env st d env', Sm K G S σ H env st ∧ Rep K G H S d v ∧ g d env = some env' ∧ ∀ σ', Sm K G S σ' H env' st → Q σ' H
def tGs (is : List Nat) : TGs := fun vs σ H Q => ∃ S env st ds env', Sm K G S σ H env st ∧ Reps K G H S ds vs ∧ gVars is ds env = some env' ∧ ∀ σ', Sm K G S σ' H env' st → Q σ' H
end
theorem PG.imp {X : Cx} {e : Expr} {t t' : TG} (h : PG X e t) (i : ∀ v σ H Q, t' v σ H Q → t v σ H Q) : PG X e t' := ⟨fun pins s σ H v u Q I r q => h.run pins s σ H v u Q I r (i v σ H Q q)⟩
theorem PGs.imp {X : Cx} {e : List Expr} {t t' : TGs} (h : PGs X e t) (i : ∀ v σ H Q, t' v σ H Q → t v σ H Q) : PGs X e t' := ⟨fun pins s σ H v u Q I r q => h.run pins s σ H v u Q I r (i v σ H Q q)⟩
abbrev EG (X : Cx) (G : GT) (g : DenG) (e : Expr) : Prop := PG X e (tGt X.K G g)
abbrev EGs (X : Cx) (G : GT) (is : List Nat) (e : List Expr) : Prop := PGs X e (tGs X.K G is)
section
variable {X : Cx} {G : GT} {W : WX} {pos pos' : Pos} {A B C : Den} {As : DenL} {P : DenB} {S1 S2 : DenS} {a b c e : Expr} {es : List Expr} {s : Stmt} {ss ts : List Stmt} {g : DenG}
theorem ess_nil : ESs X G W sNil [] := PSs.imp pss_nil fun E σ H ⟨S, env, st, m, q⟩ => q S H σ .refl m
theorem ess_cons (h1 : ES X G W S1 s) (h2 : ESs X G W S2 ss) : ESs X G W (sSeq S1 S2) (s :: ss) := PSs.imp (pss_cons h1 h2) fun E σ H ⟨S, env, st, m, q⟩ => ⟨S, env, st, m, by
  unfold sSeq at q
  cases e : S1 env st with
  | nx env' st' =>
    rw [e] at q
    exact fun S' H' σ' l m' => ⟨S', env', st', m', PostS.later q l⟩
  | rt d s => rw [e] at q; exact q
  | bk d s => rw [e] at q; exact q
  | ct d s => rw [e] at q; exact q
  | exc c d s => rw [e] at q; exact q
  | bad => rw [e] at q; exact q⟩
theorem ess_one (h1 : ES X G W S1 s) : ESs X G W S1 [s] := pss_one h1
theorem es_pass : ES X G W sNil (.Pass pos) := PS.imp ps_pass fun E σ H ⟨S, env, st, m, q⟩ => q S H σ .refl m
theorem es_never : ES X G W (fun _ _ => .bad) s := PS.imp ps_never fun E σ H ⟨S, env, st, m, q⟩ => q
theorem es_expr (h : ED X G W A e) (hs : swapsWith e none pos.line X.env = pure false := by rfl) : ES X G W (sExpr A) (.Expr e pos) :=
  PS.imp (ps_expr h hs) fun E σ H ⟨S, env, st, m, q⟩ => ⟨S, env, st, m, Post.imp (Post.then m.er q) fun S1 H1 d s1 l1 w1 q v rv => q S1 H1 σ .refl ⟨w1, m.er.mono l1⟩⟩
theorem es_ret (h : ED X G W A e) : ES X G W (sRet A) (.Return (some e) pos) :=
  PS.imp (ps_ret h) fun E σ H ⟨S, env, st, m, q⟩ => ⟨S, env, st, m, Post.imp (Post.then m.er q) fun S1 H1 d s1 l1 w1 q v rv => q S1 H1 v .refl w1 rv⟩
theorem es_if (h : EB X G W P c) (h1 : ESs X G W S1 ss) (h2 : ESs X G W S2 ts) : ES X G W (sIf P S1 S2) (.If c ss ts pos) :=
  PS.imp (ps_if h h1 h2) fun E σ H ⟨S, env, st, m, q⟩ => ⟨S, env, st, m, Post.imp (Post.then m.er q) fun S' H' k s1 l1 w1 q => by
    cases k with
    | true =>
      rw [if_pos rfl]
      exact ⟨S', env, s1, m.later l1 w1, q⟩
    | false =>
      rw [if_neg (by decide)]
      exact ⟨S', env, s1, m.later l1 w1, q⟩⟩
/-! targets -/
theorem eg_var {i : Nat} {x : Str} (hN : X.N.Nodup) (hi : X.N[i]? = some x := by rfl) (hx : Loc X.env.scope x := by first | exact Or.inl rfl | exact Or.inr rfl)
    (hf : X.fn x = true ∨ X.env.scope.names.lookup x = some .local := by first | exact .inl rfl | exact .inr rfl) : EG X G (gVar i) (.Name x pos) :=
  PG.imp (pg_name hN hi hx hf) fun v σ H Q ⟨S, env, st, d, env', m, r, e, k⟩ => by
    have e' : env.set i (some d) = env' := Option.some.inj e
    subst e'
    exact k _ ⟨m.ws, m.er.set r⟩
theorem egs_nil : EGs X G [] [] := PGs.imp pgs_nil fun vs σ H Q ⟨S, env, st, ds, env', m, r, e, k⟩ => by
  cases ds with
  | nil =>
    have e' : env = env' := Option.some.inj e
    subst e'
    exact ⟨r.of_nil, k _ m⟩
  | cons _ _ => cases e
theorem egs_cons {i : Nat} {is : List Nat} (h : EG X G (gVar i) e) (t : EGs X G is es) (hs : (assignEach (e :: es) X.env).map (·.2) = assign e X.env :: (assignEach es X.env).map (·.2) := by rfl) : EGs X G (i :: is) (e :: es) :=
  PGs.imp (pgs_cons h t hs) fun vs σ H Q ⟨S, env, st, ds, env', m, r, e, k⟩ => by
    cases ds with
    | nil => cases e
    | cons d ds =>
      obtain ⟨v, ws, rfl, r1, r2⟩ := r.of_cons
      exact ⟨v, ws, rfl, S, env, st, d, _, m, r1, rfl, fun σ' m' => ⟨S, _, st, ds, env', m', r2, e, k⟩⟩
theorem gVars_len : ∀ {is : List Nat} {ds : List D} {env env' : En}, gVars is ds env = some env' → ds.length = is.length
  | [], [], _, _, _ => rfl
  | _ :: is, _ :: ds, _, _, h => by simp [gVars_len (is := is) (ds := ds) h]
  | [], _ :: _, _, _, h => by cases h
  | _ :: _, [], _, _, h => by cases h
theorem eg_tup {is : List Nat} {k n : Nat} (hc : X.calm = true) (h : EGs X G is es) (hz : is.length = n := by rfl) (hn : (assignEach es X.env).length = n := by rfl) (hst : (assignEach es X.env).findIdx? (·.1) = none := by rfl) : EG X G (gTupV is) (.Tuple es k pos) :=
  PG.imp (pg_tup hc h hn hst) fun v σ H Q ⟨S, env, st, d, env', m, r, e, k⟩ => by
    unfold gTupV at e
    split at e
    · rename_i ds
      obtain ⟨a, vs, rfl, h1, h2⟩ := rep_tup r
      exact ⟨a, vs, rfl, h1, by rw [← h2.length, gVars_len e, hz], S, env, st, ds, env', m, h2, e, k⟩
    · cases e
theorem asg_of {te : TE} {tg : TG} {E : Ends} {σ : L2.St} {H : Hp} (ia : ∀ σ H Q, tD X.K G W A σ H Q → te σ H Q) (ig : ∀ v σ H Q, tGt X.K G g v σ H Q → tg v σ H Q) (h : tS X.K G W (sAsg g A) E σ H) : tAsg te tg E σ H := by
  obtain ⟨S, env, st, m, q⟩ := h
  refine ia σ H _ ⟨S, env, st, m, Post.imp (Post.then m.er q) fun S1 H1 d s1 l1 w1 q v rv => ig v σ H1 _ ?_⟩
  cases e : g d env with
  | none => rw [e] at q; exact q.elim
  | some env' =>
    rw [e] at q
    exact ⟨S1, env, s1, d, env', m.later l1 w1, rv, e, fun σ' m' => q S1 H1 σ' .refl m'⟩
theorem es_asg {tg : Expr} (he : ED X G W A e) (hg : EG X G g tg) (hs : swapsWithSole [tg] e pos.line X.env = pure false := by rfl) (hw : swappedStores [tg] e X.env = pure none := by rfl)
    (h1 : (assignEach [tg] X.env).map (·.2) = [assign tg X.env] := by rfl) : ES X G W (sAsg g A) (.Assign [tg] e pos) := PS.imp (ps_asg he hg hs hw h1) fun E σ H h => asg_of (fun _ _ _ q => q) (fun _ _ _ _ q => q) h
/-- name = value -/
theorem es_set {i : Nat} {x : Str} (hN : X.N.Nodup) (he : ED X G W A e) (hi : X.N[i]? = some x := by rfl) (hx : Loc X.env.scope x := by first | exact Or.inl rfl | exact Or.inr rfl) (hs : swapsWith e (some (.Name x pos')) pos.line X.env = pure false := by rfl)
    (hf : X.fn x = true ∨ X.env.scope.names.lookup x = some .local := by first | exact .inl rfl | exact .inr rfl) : ES X G W (sAsg (gVar i) A) (.Assign [.Name x pos'] e pos) :=
  PS.imp (ps_set hN hi hx he hs hf) fun E σ H h => asg_of (fun _ _ _ q => q) (fun v σ H Q ⟨S, env, st, d, env', m, r, e, k⟩ => by
    have e' : env.set i (some d) = env' := Option.some.inj e
    subst e'
    exact k _ ⟨m.ws, m.er.set r⟩) h
theorem es_par2 {i j : Nat} {x y : Str} {px py pt : Pos} {kt k2 : Nat} {pt2 : Pos} (hc : X.calm = true) (hN : X.N.Nodup) (ha : EA X G W As [a, b]) (hi : X.N[i]? = some x := by rfl) (hj : X.N[j]? = some y := by rfl) (hij : i ≠ j := by decide)
    (hx : X.env.scope.names.lookup x = some .local := by rfl) (hy : X.env.scope.names.lookup y = some .local := by rfl)
    (hw : swappedStores [.Tuple [.Name x px, .Name y py] kt pt] (.Tuple [a, b] k2 pt2) X.env = pure (some [x, y]) := by rfl)
    (hs : swapsWithSole [.Tuple [.Name x px, .Name y py] kt pt] (.Tuple [a, b] k2 pt2) pos.line X.env = pure false := by rfl) :
    ES X G W (sPar [i, j] As) (.Assign [.Tuple [.Name x px, .Name y py] kt pt] (.Tuple [a, b] k2 pt2) pos) :=
  PS.imp (ps_par hc hN hi hj hij hx hy ha hw hs) fun E σ H ⟨S, env, st, m, q⟩ => ⟨S, env, st, m, Post.imp (Post.then m.er q) fun S1 H1 ds s1 l1 w1 q vs rv => by
    match ds, q, rv with
    | [d1, d2], q, rv =>
      obtain ⟨v, u, rfl, r1, r2⟩ := rv.two
      exact ⟨v, u, rfl, q S1 H1 _ .refl ⟨w1, ((m.er.mono l1).set r1).set r2⟩⟩
    | [], q, _ => exact q.elim
    | [_], q, _ => exact q.elim
    | _ :: _ :: _ :: _, q, _ => exact q.elim⟩
end
theorem Reps.three {K : PySem.W.Frag} {G : GT} {H : Hp} {S : Vw} {d e f : D} {vs : List V} (h : Reps K G H S [d, e, f] vs) : ∃ v w u, vs = [v, w, u] ∧ Rep K G H S d v ∧ Rep K G H S e w ∧ Rep K G H S f u := by
  obtain ⟨v, us, rfl, r, q⟩ := h.of_cons
  obtain ⟨w, u, rfl, q2, q3⟩ := q.two
  exact ⟨v, w, u, rfl, r, q2, q3⟩
section
variable {X : Cx} {G : GT} {W : WX} {pos pos' : Pos} {A B C : Den} {As : DenL} {P : DenB} {S1 S2 : DenS} {a b c e : Expr} {es : List Expr} {s : Stmt} {ss ts : List Stmt} {g : DenG}
theorem es_par3 {i j l : Nat} {x y z : Str} {px py pz pt : Pos} {kt k2 : Nat} {pt2 : Pos} (hc : X.calm = true) (hN : X.N.Nodup) (ha : EA X G W As [a, b, c]) (hi : X.N[i]? = some x := by rfl) (hj : X.N[j]? = some y := by rfl) (hl : X.N[l]? = some z := by rfl)
    (hij : i ≠ j := by decide) (hil : i ≠ l := by decide) (hjl : j ≠ l := by decide)
    (hx : X.env.scope.names.lookup x = some .local := by rfl) (hy : X.env.scope.names.lookup y = some .local := by rfl) (hz : X.env.scope.names.lookup z = some .local := by rfl)
    (hw : swappedStores [.Tuple [.Name x px, .Name y py, .Name z pz] kt pt] (.Tuple [a, b, c] k2 pt2) X.env = pure (some [x, y, z]) := by rfl)
    (hs : swapsWithSole [.Tuple [.Name x px, .Name y py, .Name z pz] kt pt] (.Tuple [a, b, c] k2 pt2) pos.line X.env = pure false := by rfl) :
    ES X G W (sPar [i, j, l] As) (.Assign [.Tuple [.Name x px, .Name y py, .Name z pz] kt pt] (.Tuple [a, b, c] k2 pt2) pos) :=
  PS.imp (ps_par3 hc hN hi hj hl hij hil hjl hx hy hz ha hw hs) fun E σ H ⟨S, env, st, m, q⟩ => ⟨S, env, st, m, Post.imp (Post.then m.er q) fun S1 H1 ds s1 l1 w1 q vs rv => by
    match ds, q, rv with
    | [d1, d2, d3], q, rv =>
      obtain ⟨v, u, t, rfl, r1, r2, r3⟩ := rv.three
      exact ⟨v, u, t, rfl, q S1 H1 _ .refl ⟨w1, (((m.er.mono l1).set r1).set r2).set r3⟩⟩
    | [], q, _ => exact q.elim
    | [_], q, _ => exact q.elim
    | [_, _], q, _ => exact q.elim
    | _ :: _ :: _ :: _ :: _, q, _ => exact q.elim⟩
end

/-! ### what is walked -/
abbrev Itm := List D × (Sto → Bool)
abbrev DenI := En → Sto → Rs Itm
section
variable (K : PySem.W.Frag) (G : GT)
/-- J gives the items of I, from the state S, H on -/
def Wk (J : It) (I : Itm) (S : Vw) (H : Hp) : Prop := ∀ S' H' st (i : Nat), Lat H S H' S' → Ws K G H' S' st → I.2 st = true →
  (∀ d, I.1[i]? = some d → J.go i H' ∧ ∀ x H2, J.yld i H' x H2 → ∃ S2, Lat H' S' H2 S2 ∧ Ws K G H2 S2 st ∧ Rep K G H2 S2 d x) ∧ (I.1.length ≤ i → J.stop i H')
def tI (W : WX) (A : DenI) : TI := fun σ H R => ∃ S env st, Sm K G S σ H env st ∧ Post K G W σ S H (A env st) fun S' H' I _ => ∀ J, Wk K G J I S' H' → R J H'
end
theorem PI.imp {X : Cx} {tg e : Expr} {t t' : TI} (h : PI X tg e t) (i : ∀ σ H R, t' σ H R → t σ H R) : PI X tg e t' := ⟨fun pins s σ H R I q => h.run pins s σ H R I (i σ H R q)⟩
abbrev EI (X : Cx) (G : GT) (W : WX) (A : DenI) (tg e : Expr) : Prop := PI X tg e (tI X.K G W A)
/-- whether the list at d is still l -/
def keepL (d : D) (l : List D) : Sto → Bool := fun st => match d with
  | .loc _ => match getL st d with
    | some m => D.beqs l m
    | none => false
  | _ => true
def iLst (A : Den) : DenI := fun env st => (A env st).bind fun d s => match getL s d with
  | some l => .ok (l, keepL d l) s
  | none => .bad
def iTupD (A : Den) : DenI := fun env st => (A env st).bind fun d s => match d with
  | .tup l => .ok (l, fun _ => true) s
  | _ => .bad
def ixFrom : Nat → Nat → List D
  | _, 0 => []
  | i, n + 1 => .int (i : Nat) :: ixFrom (i + 1) n
def rngD (lo : Int) : Nat → List D
  | 0 => []
  | n + 1 => .int lo :: rngD (lo + 1) n
def iRng1D (As : DenL) : DenI := fun env st => (As env st).bind fun l s => match l with
  | [.int j] => if decide (-(2 ^ 62) ≤ j) && decide (j < 2 ^ 62) then .ok (rngD 0 j.toNat, fun _ => true) s else .bad
  | _ => .bad
def iRng2D (As : DenL) : DenI := fun env st => (As env st).bind fun l s => match l with
  | [.int i, .int j] => if decide (-(2 ^ 62) ≤ i) && decide (i < 2 ^ 62) && decide (-(2 ^ 62) ≤ j) && decide (j < 2 ^ 62) then .ok (rngD i (j - i).toNat, fun _ => true) s else .bad
  | _ => .bad
def zipIx : Int → List D → List D
  | _, [] => []
  | i, x :: r => .tup [.int i, x] :: zipIx (i + 1) r
def iEnumD (As : DenL) : DenI := fun env st => (As env st).bind fun l s => match l with
  | [d] => match getL s d with
    | some l => .ok (zipIx 0 l, keepL d l) s
    | none => .bad
  | _ => .bad
def zipD : List D → List D → List D
  | x :: xs, y :: ys => .tup [x, y] :: zipD xs ys
  | _, _ => []
def iZipD (As : DenL) : DenI := fun env st => (As env st).bind fun l s => match l with
  | [d, e] => match getL s d, getL s e with
    | some l, some m => .ok (zipD l m, fun s => keepL d l s && keepL e m s) s
    | _, _ => .bad
  | _ => .bad
theorem rngD_len : ∀ (n : Nat) (lo : Int), (rngD lo n).length = n
  | 0, _ => rfl
  | n + 1, lo => by simp [rngD, rngD_len n]
theorem rngD_get : ∀ (n i : Nat) (lo : Int), i < n → (rngD lo n)[i]? = some (.int (lo + i))
  | 0, _, _, h => absurd h (by omega)
  | n + 1, 0, lo, _ => by simp [rngD]
  | n + 1, i + 1, lo, h => by
    rw [rngD, List.getElem?_cons_succ, rngD_get n i (lo + 1) (by omega)]
    congr 2
    push_cast
    omega
theorem zipIx_len : ∀ (l : List D) (i : Int), (zipIx i l).length = l.length
  | [], _ => rfl
  | x :: r, i => by simp [zipIx, zipIx_len r]
theorem zipIx_get : ∀ (l : List D) (j : Nat) (i : Int), (zipIx i l)[j]? = (l[j]?).map fun d => .tup [.int (i + j), d]
  | [], j, i => by simp [zipIx]
  | x :: r, 0, i => by simp [zipIx]
  | x :: r, j + 1, i => by
    rw [zipIx, List.getElem?_cons_succ, List.getElem?_cons_succ, zipIx_get r j (i + 1)]
    congr 1
    funext d
    congr 3
    push_cast
    omega
theorem zipD_get : ∀ (l m : List D) (j : Nat) (d : D), (zipD l m)[j]? = some d → ∃ x y, l[j]? = some x ∧ m[j]? = some y ∧ d = .tup [x, y]
  | [], _, j, d, h => by simp [zipD] at h
  | _ :: _, [], j, d, h => by simp [zipD] at h
  | x :: xs, y :: ys, 0, d, h => by
    simp [zipD] at h
    exact ⟨x, y, rfl, rfl, h.symm⟩
  | x :: xs, y :: ys, j + 1, d, h => by
    simp [zipD] at h
    simpa using zipD_get xs ys j d h
theorem zipD_len : ∀ (l m : List D), (zipD l m).length = min l.length m.length
  | [], _ => by simp [zipD]
  | _ :: _, [] => by simp [zipD]
  | x :: xs, y :: ys => by simp [zipD, zipD_len xs ys]
section
variable {K : PySem.W.Frag} {G : GT} {H : Hp} {S : Vw} {st : Sto}
/-- the list that d stood for stands there later, too -/
theorem keep_at {d : D} {v : V} {l : List D} (r : Rep K G H S d v) (w : Ws K G H S st) (e : getL st d = some l) : ∃ a, v = .ref a ∧ ∀ S' H' st', Lat H S H' S' → Ws K G H' S' st' → keepL d l st' = true → ∃ vs, SqL K H' a vs ∧ Reps K G H' S' l vs := by
  obtain ⟨a, vs, rfl, _, _⟩ := getL_at w r e
  refine ⟨a, rfl, fun S' H' st' l' w' k => ?_⟩
  have r' := r.mono l'
  have e' : getL st' d = some l := by
    cases d with
    | loc i =>
      unfold keepL at k
      dsimp only at k
      cases q : getL st' (.loc i) with
      | none => rw [q] at k; cases k
      | some m =>
        rw [q] at k
        rw [D.beqs_eq _ _ k]
    | lst m => exact e
    | scr m => exact e
    | _ => cases e
  obtain ⟨b, us, eb, h1, h2⟩ := getL_at w' r' e'
  cases eb
  exact ⟨us, h1, h2⟩
theorem wk_list {d : D} {a : Addr} {l : List D} (h : ∀ S' H' st', Lat H S H' S' → Ws K G H' S' st' → keepL d l st' = true → ∃ vs, SqL K H' a vs ∧ Reps K G H' S' l vs) : Wk K G (Itl K a) (l, keepL d l) S H := by
  intro S' H' st' i lt w k
  obtain ⟨vs, h1, h2⟩ := h S' H' st' lt w k
  refine ⟨fun d hd => ?_, fun hl => ⟨vs, h1, by rw [← h2.length]; exact hl⟩⟩
  obtain ⟨v, hv, rv⟩ := h2.get hd
  refine ⟨⟨vs, v, h1, hv⟩, fun x H2 hy => ?_⟩
  obtain ⟨rfl, hx⟩ := hy
  have ex : x = v := Option.some.inj ((hx vs h1).symm.trans hv)
  exact ⟨S', .refl, w, by rw [ex]; exact rv⟩
theorem wk_tup {a : Addr} {l : List D} {vs : List V} (h1 : SqT K H a vs) (h2 : Reps K G H S l vs) : Wk K G (Itt K a) (l, fun _ => true) S H := by
  intro S' H' st' i lt w k
  have h1' := lt.rd_t h1
  refine ⟨fun d hd => ?_, fun hl => ⟨vs, h1', by rw [← h2.length]; exact hl⟩⟩
  obtain ⟨v, hv, rv⟩ := h2.get hd
  refine ⟨⟨vs, v, h1', hv⟩, fun x H2 hy => ?_⟩
  obtain ⟨rfl, hx⟩ := hy
  have ex : x = v := Option.some.inj ((hx vs h1').symm.trans hv)
  exact ⟨S', .refl, w, by rw [ex]; exact rv.mono lt⟩
theorem wk_rng {lo : Int} {n : Nat} : Wk K G (Itr lo n) (rngD lo n, fun _ => true) S H := by
  intro S' H' st' i lt w k
  refine ⟨fun d hd => ?_, fun hl => ?_⟩
  · have hi : i < n := by
      have := (List.getElem?_eq_some_iff.mp hd).1
      dsimp only at this
      rwa [rngD_len] at this
    refine ⟨hi, fun x H2 hy => ?_⟩
    obtain ⟨rfl, rfl⟩ := hy
    dsimp only at hd
    rw [rngD_get n i lo hi] at hd
    rw [← Option.some.inj hd]
    exact ⟨S', .refl, w, mk_int⟩
  · dsimp only at hl
    rwa [rngD_len] at hl
theorem wk_enum {d : D} {a : Addr} {l : List D} (h : ∀ S' H' st', Lat H S H' S' → Ws K G H' S' st' → keepL d l st' = true → ∃ vs, SqL K H' a vs ∧ Reps K G H' S' l vs) : Wk K G (Ite K a) (zipIx 0 l, keepL d l) S H := by
  intro S' H' st' i lt w k
  obtain ⟨vs, h1, h2⟩ := h S' H' st' lt w k
  refine ⟨fun e he => ?_, fun hl => ⟨vs, h1, by rw [← h2.length]; rw [zipIx_len] at hl; exact hl⟩⟩
  dsimp only at he
  rw [zipIx_get] at he
  cases ed : l[i]? with
  | none => rw [ed] at he; cases he
  | some d' =>
    rw [ed] at he
    have ee : D.tup [.int (0 + (i : Int)), d'] = e := Option.some.inj he
    obtain ⟨v, hv, rv⟩ := h2.get ed
    refine ⟨⟨vs, v, h1, hv⟩, fun x H2 hy => ?_⟩
    obtain ⟨T, y, rfl, hT, rfl, hx⟩ := hy
    have ex : y = v := Option.some.inj ((hx vs h1).symm.trans hv)
    refine ⟨S', .new hT, w.new hT, ?_⟩
    rw [← ee]
    simp only [Rep]
    refine ⟨T, _, rfl, upd_same, ?_⟩
    rw [Int.zero_add, ex]
    exact .cons mk_int (.cons (rv.mono (.new hT)) .nil)
theorem wk_zip {d e : D} {a b : Addr} {l m : List D} (h : ∀ S' H' st', Lat H S H' S' → Ws K G H' S' st' → keepL d l st' = true → ∃ vs, SqL K H' a vs ∧ Reps K G H' S' l vs)
    (h' : ∀ S' H' st', Lat H S H' S' → Ws K G H' S' st' → keepL e m st' = true → ∃ vs, SqL K H' b vs ∧ Reps K G H' S' m vs) : Wk K G (Itz K a b) (zipD l m, fun s => keepL d l s && keepL e m s) S H := by
  intro S' H' st' i lt w k
  dsimp only at k
  rw [Bool.and_eq_true] at k
  obtain ⟨vs, h1, h2⟩ := h S' H' st' lt w k.1
  obtain ⟨us, h3, h4⟩ := h' S' H' st' lt w k.2
  refine ⟨fun z hz => ?_, fun hl => ⟨vs, us, h1, h3, ?_⟩⟩
  · obtain ⟨x, y, hx, hy, rfl⟩ := zipD_get l m i z hz
    obtain ⟨v, hv, rv⟩ := h2.get hx
    obtain ⟨u, hu, ru⟩ := h4.get hy
    refine ⟨⟨vs, us, v, u, h1, h3, hv, hu⟩, fun t H2 ht => ?_⟩
    obtain ⟨T, v', u', rfl, hT, rfl, hv', hu'⟩ := ht
    have ev : v' = v := Option.some.inj ((hv' vs h1).symm.trans hv)
    have eu : u' = u := Option.some.inj ((hu' us h3).symm.trans hu)
    refine ⟨S', .new hT, w.new hT, ?_⟩
    simp only [Rep]
    refine ⟨T, _, rfl, upd_same, ?_⟩
    rw [ev, eu]
    exact .cons (rv.mono (.new hT)) (.cons (ru.mono (.new hT)) .nil)
  · dsimp only at hl
    rw [zipD_len] at hl
    rw [← h2.length, ← h4.length]
    omega
end
section
variable {X : Cx} {G : GT} {W : WX} {p pos tpos : Pos} {A : Den} {As : DenL} {a b c e e2 tg : Expr} {es elts : List Expr}
theorem ei_list (h : ED X G W A e) : EI X G W (iLst A) tg e := PI.imp (pi_list h) fun σ H R ⟨S, env, st, m, q⟩ => ⟨S, env, st, m, Post.imp (Post.bind q) fun S1 H1 d s1 l1 w1 q v rv => by
  cases el : getL s1 d with
  | none => rw [el] at q; exact q.elim
  | some l =>
    rw [el] at q
    obtain ⟨a, rfl, hk⟩ := keep_at rv w1 el
    obtain ⟨b, vs, eb, h1, h2⟩ := getL_at w1 rv el
    cases eb
    exact ⟨a, rfl, ⟨vs, h1⟩, Post.ok q w1 _ (wk_list hk)⟩⟩
theorem ei_tup (h : ED X G W A e) : EI X G W (iTupD A) tg e := PI.imp (pi_tup h) fun σ H R ⟨S, env, st, m, q⟩ => ⟨S, env, st, m, Post.imp (Post.bind q) fun S1 H1 d s1 l1 w1 q v rv => by
  split at q
  · obtain ⟨a, vs, rfl, h1, h2⟩ := rep_tup rv
    exact ⟨a, rfl, ⟨vs, h1⟩, Post.ok q w1 _ (wk_tup h1 h2)⟩
  · exact q.elim⟩
theorem ei_rng1 (hg : Gl X "range") (hm : X.mg "range" = none) (ha : EA X G W As [a]) (hs : starEach [a] X.env = [(false, eval a X.env)] := by rfl) : EI X G W (iRng1D As) tg (.Call (.Name "range" p) [a] [] pos) :=
  PI.imp (pi_range1 hg hm ha hs) fun σ H R ⟨S, env, st, m, q⟩ => ⟨S, env, st, m, Post.imp (Post.bind q) fun S1 H1 l s1 l1 w1 q vs rv => by
    split at q
    · rename_i j
      split at q
      · rename_i hz
        simp only [Bool.and_eq_true, decide_eq_true_eq] at hz
        obtain ⟨v, rfl, r⟩ := rv.one
        exact ⟨j, by rw [rep_int r], hz.1, hz.2, Post.ok q w1 _ wk_rng⟩
      · exact q.elim
    · exact q.elim⟩
theorem ei_rng2 (hg : Gl X "range") (hm : X.mg "range" = none) (ha : EA X G W As [a, b]) (hs : starEach [a, b] X.env = [(false, eval a X.env), (false, eval b X.env)] := by rfl) (hs2 : starEach [b] X.env = [(false, eval b X.env)] := by rfl) :
    EI X G W (iRng2D As) tg (.Call (.Name "range" p) [a, b] [] pos) :=
  PI.imp (pi_range2 hg hm ha hs hs2) fun σ H R ⟨S, env, st, m, q⟩ => ⟨S, env, st, m, Post.imp (Post.bind q) fun S1 H1 l s1 l1 w1 q vs rv => by
    split at q
    · rename_i i j
      split at q
      · rename_i hz
        simp only [Bool.and_eq_true, decide_eq_true_eq] at hz
        obtain ⟨v, u, rfl, r, r2⟩ := rv.two
        exact ⟨i, j, by rw [rep_int r, rep_int r2], ⟨hz.1.1.1, hz.1.1.2, hz.1.2, hz.2⟩, Post.ok q w1 _ wk_rng⟩
      · exact q.elim
    · exact q.elim⟩
theorem ei_enum {kk : Nat} (hg : Gl X "enumerate") (hm : X.mg "enumerate" = none) (ha : EA X G W As [e]) (hs : starEach [e] X.env = [(false, eval e X.env)] := by rfl) : EI X G W (iEnumD As) (.Tuple elts kk tpos) (.Call (.Name "enumerate" p) [e] [] pos) :=
  PI.imp (pi_enum hg hm ha hs) fun σ H R ⟨S, env, st, m, q⟩ => ⟨S, env, st, m, Post.imp (Post.bind q) fun S1 H1 l s1 l1 w1 q vs rv => by
    split at q
    · rename_i d
      obtain ⟨v, rfl, r⟩ := rv.one
      cases el : getL s1 d with
      | none => rw [el] at q; exact q.elim
      | some l =>
        rw [el] at q
        obtain ⟨a, rfl, hk⟩ := keep_at r w1 el
        obtain ⟨b, vs, eb, h1, h2⟩ := getL_at w1 r el
        cases eb
        exact ⟨a, vs, rfl, h1, Post.ok q w1 _ (wk_enum hk)⟩
    · exact q.elim⟩
theorem ei_zip {kk : Nat} (hg : Gl X "zip") (hm : X.mg "zip" = none) (ha : EA X G W As [e, e2]) (hs : starEach [e, e2] X.env = (false, eval e X.env) :: starEach [e2] X.env := by rfl) (hpl : (backTo pos (starEach [e2] X.env)).any (·.1) = false := by rfl) :
    EI X G W (iZipD As) (.Tuple elts kk tpos) (.Call (.Name "zip" p) [e, e2] [] pos) :=
  PI.imp (pi_zip hg hm ha hs hpl) fun σ H R ⟨S, env, st, m, q⟩ => ⟨S, env, st, m, Post.imp (Post.bind q) fun S1 H1 l s1 l1 w1 q vs rv => by
    split at q
    · rename_i d e
      obtain ⟨v, u, rfl, r, r2⟩ := rv.two
      cases el : getL s1 d with
      | none => rw [el] at q; exact q.elim
      | some l =>
        rw [el] at q
        cases em : getL s1 e with
        | none => rw [em] at q; exact q.elim
        | some m =>
          rw [em] at q
          obtain ⟨a, rfl, hk⟩ := keep_at r w1 el
          obtain ⟨b, rfl, hk'⟩ := keep_at r2 w1 em
          obtain ⟨a', vs, eb, h1, h2⟩ := getL_at w1 r el
          cases eb
          obtain ⟨b', us, eb, h3, h4⟩ := getL_at w1 r2 em
          cases eb
          exact ⟨a, b, vs, us, rfl, h1, h3, Post.ok q w1 _ (wk_zip hk hk')⟩
    · exact q.elim⟩
end

/-! ### for -/
def forIt (keep : Sto → Bool) (g : DenG) (B : DenS) : List D → DenS
  | [], env, st => if keep st then .nx env st else .bad
  | x :: r, env, st => if keep st then (match g x env with
    | some env1 => match B env1 st with
      | .nx e s => forIt keep g B r e s
      | .ct e s => forIt keep g B r e s
      | .bk e s => .nx e s
      | o => o
    | none => .bad) else .bad
def sFor (A : DenI) (g : DenG) (B : DenS) : DenS := fun env st => (A env st).then env fun I s => forIt I.2 g B I.1 env s
section
variable {X : Cx} {G : GT} {W : WX} {p pos tpos : Pos} {A : DenI} {g : DenG} {B : DenS} {e tg : Expr} {body : List Stmt}
theorem for_of {J : It} {I : Itm} {E : Ends} {S₀ S : Vw} {H₀ H : Hp} {σ : L2.St} {env : En} {st : Sto} (wk : Wk X.K G J I S₀ H₀) (l0 : Lat H₀ S₀ H S) (m0 : Sm X.K G S σ H env st) (q0 : PostS X.K G W S H (forIt I.2 g B I.1 env st) E) :
    ∃ Wf : Nat → Nat → L2.St → Hp → Prop, (∃ m, Wf 0 m σ H) ∧ ∀ i m σ H, Wf i m σ H →
      (J.stop i H ∧ E.nx σ H) ∨ (J.go i H ∧ ∃ N : L2.St → Hp → Prop, (∀ σ' H', N σ' H' → ∃ m', m' < m ∧ Wf (i + 1) m' σ' H') ∧ ∀ x H', J.yld i H x H' → tGt X.K G g x σ H' fun σ2 H2 => tS X.K G W B { E with nx := N, ct := N, bk := E.nx } σ2 H2) := by
  refine ⟨fun i m σ H => ∃ S env st, Lat H₀ S₀ H S ∧ Sm X.K G S σ H env st ∧ i + m = I.1.length ∧ PostS X.K G W S H (forIt I.2 g B (I.1.drop i) env st) E, ⟨I.1.length, S, env, st, l0, m0, by omega, q0⟩, fun i m σ H ⟨S, env, st, l, sm, em, q⟩ => ?_⟩
  cases m with
  | zero =>
    have e0 : I.1.drop i = [] := List.drop_eq_nil_of_le (by omega)
    rw [e0, forIt] at q
    split at q
    · rename_i hk
      exact .inl ⟨(wk S H st i l sm.ws hk).2 (by omega), q S H σ .refl sm⟩
    · exact q.elim
  | succ m =>
    have hi : i < I.1.length := by omega
    have e0 : I.1.drop i = I.1[i] :: I.1.drop (i + 1) := List.drop_eq_getElem_cons hi
    rw [e0, forIt] at q
    split at q
    · rename_i hk
      obtain ⟨hgo, hy⟩ := (wk S H st i l sm.ws hk).1 _ (List.getElem?_eq_getElem hi)
      refine .inr ⟨hgo, fun σ' H' => ∃ S env st, Lat H₀ S₀ H' S ∧ Sm X.K G S σ' H' env st ∧ PostS X.K G W S H' (forIt I.2 g B (I.1.drop (i + 1)) env st) E, fun σ' H' ⟨S, env, st, l, sm, q⟩ => ⟨m, Nat.lt_succ_self _, S, env, st, l, sm, by omega, q⟩, fun x H' hyl => ?_⟩
      obtain ⟨S2, l2, w2, r2⟩ := hy x H' hyl
      cases eg : g I.1[i] env with
      | none => rw [eg] at q; exact q.elim
      | some env1 =>
        rw [eg] at q
        refine ⟨S2, env, st, _, env1, sm.later l2 w2, r2, eg, fun σ2 sm2 => ⟨S2, env1, st, sm2, ?_⟩⟩
        dsimp only at q
        cases eb : B env1 st with
        | nx e s =>
          rw [eb] at q
          exact fun S3 H3 σ3 l3 sm3 => ⟨S3, e, s, (l.trans l2).trans l3, sm3, PostS.later q (l2.trans l3)⟩
        | ct e s =>
          rw [eb] at q
          exact fun S3 H3 σ3 l3 sm3 => ⟨S3, e, s, (l.trans l2).trans l3, sm3, PostS.later q (l2.trans l3)⟩
        | bk e s =>
          rw [eb] at q
          exact fun S3 H3 σ3 l3 sm3 => q S3 H3 σ3 (l2.trans l3) sm3
        | rt d s =>
          rw [eb] at q
          exact fun S3 H3 v l3 w3 r3 => q S3 H3 v (l2.trans l3) w3 r3
        | exc c e s =>
          rw [eb] at q
          exact fun S3 H3 σ3 l3 sm3 => q S3 H3 σ3 (l2.trans l3) sm3
        | bad => rw [eb] at q; exact q
    · exact q.elim
theorem es_for (hp : PassesOwn (model X.prog X.w) X.A X.env X.xe) (hc : X.calm = true) (hi : EI X G W A tg e) (hg : EG X G g tg) (hb : ESs X G W B body) (hs : ∀ x, foldedSetIterable e X.env x = pure x := by intro _; rfl) :
    ES X G W (sFor A g B) (.For tg e body [] pos) :=
  PS.imp (ps_for hp hc hi hg hb hs) fun E σ H ⟨S, env, st, m, q⟩ => ⟨S, env, st, m, Post.imp (Post.then m.er q) fun S1 H1 I s1 l1 w1 q J wk => for_of wk .refl (m.later l1 w1) q⟩
end

/-! ### list comprehensions -/
def wipeE (env : En) : List Nat → En
  | [] => env
  | v :: vs => (wipeE env vs).set v none
/-- a new list of what the items give -/
def lcIt (keep : Sto → Bool) (vs : List Nat) (g : DenG) (P : DenB) (A : Den) (env : En) : List D → List D → Sto → Rs (List D)
  | [], acc, st => if keep st then .ok acc st else .bad
  | x :: r, acc, st => if keep st then (match g x (wipeE env vs) with
    | some env1 => (noX (P env1 st)).bind fun b s => if b then (noX (A env1 s)).bind fun d s => if szOk (acc.length + 1) then lcIt keep vs g P A env r (acc ++ [d]) s else .bad else lcIt keep vs g P A env r acc s
    | none => .bad) else .bad
def lLc (I : DenI) (vs : List Nat) (g : DenG) (P : DenB) (A : Den) : DenL := fun env st => (I env st).bind fun I s => lcIt I.2 vs g P A env I.1 [] s
def bYes : DenB := fun _ st => .ok true st
/-- a target whose names are the comprehension's own -/
def gOwn (vs : List Nat) : List Nat → Bool
  | is => is.all fun i => vs.contains i
theorem wipe_set {σ : L2.St} {x : Option V} : ∀ {vs : List Nat} {i : Nat}, i ∈ vs → wipe (σ.set i x) vs = wipe σ vs
  | [], _, h => by cases h
  | v :: vs, i, h => by
    by_cases e : i = v
    · subst e
      show (wipe (σ.set i x) vs).set i none = (wipe σ vs).set i none
      by_cases hm : i ∈ vs
      · rw [wipe_set hm]
      · have q : ∀ (vs : List Nat) (σ : L2.St), i ∉ vs → wipe (σ.set i x) vs = (wipe σ vs).set i x := by
          intro vs
          induction vs with
          | nil => intro σ _; rfl
          | cons v vs ih =>
            intro σ hn
            rw [List.mem_cons, not_or] at hn
            show (wipe (σ.set i x) vs).set v none = ((wipe σ vs).set v none).set i x
            rw [ih σ hn.2, List.set_comm _ _ hn.1]
        rw [q vs σ hm, List.set_set]
    · rcases List.mem_cons.mp h with h | h
      · exact absurd h e
      · show (wipe (σ.set i x) vs).set v none = (wipe σ vs).set v none
        rw [wipe_set h]
theorem wipe_wipe {σ : L2.St} {ws : List Nat} : ∀ {vs : List Nat}, (∀ i ∈ vs, i ∈ ws) → wipe (wipe σ vs) ws = wipe σ ws
  | [], _ => rfl
  | v :: vs, h => by
    show wipe ((wipe σ vs).set v none) ws = wipe σ ws
    rw [wipe_set (h v (List.mem_cons_self ..)), wipe_wipe fun i hi => h i (List.mem_cons_of_mem _ hi)]
section
variable {K : PySem.W.Frag} {G : GT} {H : Hp} {S : Vw}
theorem ERep.wipe {σ : L2.St} {env : En} (h : ERep K G H S σ env) : ∀ vs : List Nat, ERep K G H S (L2.wipe σ vs) (wipeE env vs)
  | [] => h
  | v :: vs => (ERep.wipe h vs).unset
end
/-- the readings of a target, the comprehension's slots wiped behind it as before -/
def tGw (K : PySem.W.Frag) (G : GT) (g : DenG) (vs : List Nat) : TG := fun v σ H Q => ∃ S env st d env', Sm K G S σ H env st ∧ Rep K G H S d v ∧ g d env = some env' ∧ ∀ σ', L2.wipe σ' vs = L2.wipe σ vs → Sm K G S σ' H env' st → Q σ' H
abbrev EGw (X : Cx) (G : GT) (g : DenG) (vs : List Nat) (e : Expr) : Prop := PG X e (tGw X.K G g vs)
def tGws (K : PySem.W.Frag) (G : GT) (is vs : List Nat) : TGs := fun us σ H Q => ∃ S env st ds env', Sm K G S σ H env st ∧ Reps K G H S ds us ∧ gVars is ds env = some env' ∧ ∀ σ', L2.wipe σ' vs = L2.wipe σ vs → Sm K G S σ' H env' st → Q σ' H
abbrev EGws (X : Cx) (G : GT) (is vs : List Nat) (es : List Expr) : Prop := PGs X es (tGws X.K G is vs)
section
variable {X : Cx} {G : GT} {W : WX} {pos : Pos} {e : Expr} {es : List Expr}
theorem egw_var {i : Nat} {x : Str} {vs : List Nat} (hN : X.N.Nodup) (hv : i ∈ vs := by decide) (hi : X.N[i]? = some x := by rfl) (hx : Loc X.env.scope x := by first | exact Or.inl rfl | exact Or.inr rfl)
    (hf : X.fn x = true ∨ X.env.scope.names.lookup x = some .local := by first | exact .inl rfl | exact .inr rfl) : EGw X G (gVar i) vs (.Name x pos) :=
  PG.imp (pg_name hN hi hx hf) fun v σ H Q ⟨S, env, st, d, env', m, r, e, k⟩ => by
    have e' : env.set i (some d) = env' := Option.some.inj e
    subst e'
    exact k _ (wipe_set hv) ⟨m.ws, m.er.set r⟩
theorem egws_nil {vs : List Nat} : EGws X G [] vs [] := PGs.imp pgs_nil fun us σ H Q ⟨S, env, st, ds, env', m, r, e, k⟩ => by
  cases ds with
  | nil =>
    have e' : env = env' := Option.some.inj e
    subst e'
    exact ⟨r.of_nil, k _ rfl m⟩
  | cons _ _ => cases e
theorem egws_cons {i : Nat} {is vs : List Nat} (h : EGw X G (gVar i) vs e) (t : EGws X G is vs es) (hs : (assignEach (e :: es) X.env).map (·.2) = assign e X.env :: (assignEach es X.env).map (·.2) := by rfl) : EGws X G (i :: is) vs (e :: es) :=
  PGs.imp (pgs_cons h t hs) fun us σ H Q ⟨S, env, st, ds, env', m, r, e, k⟩ => by
    cases ds with
    | nil => cases e
    | cons d ds =>
      obtain ⟨v, ws, rfl, r1, r2⟩ := r.of_cons
      exact ⟨v, ws, rfl, S, env, st, d, _, m, r1, rfl, fun σ' hw m' => ⟨S, _, st, ds, env', m', r2, e, fun σ2 hw2 m2 => k σ2 (hw2.trans hw) m2⟩⟩
theorem egw_tup {is vs : List Nat} {k n : Nat} (hc : X.calm = true) (h : EGws X G is vs es) (hz : is.length = n := by rfl) (hn : (assignEach es X.env).length = n := by rfl) (hst : (assignEach es X.env).findIdx? (·.1) = none := by rfl) : EGw X G (gTupV is) vs (.Tuple es k pos) :=
  PG.imp (pg_tup hc h hn hst) fun v σ H Q ⟨S, env, st, d, env', m, r, e, k⟩ => by
    unfold gTupV at e
    split at e
    · rename_i ds
      obtain ⟨a, us, rfl, h1, h2⟩ := rep_tup r
      exact ⟨a, us, rfl, h1, by rw [← h2.length, gVars_len e, hz], S, env, st, ds, env', m, h2, e, k⟩
    · cases e
end
/-- ours: nobody else writes there -/
def Vw.own (S : Vw) (p : Addr) : Vw := { S with P := fun a => S.P a ∨ a = p }
def Vw.disown (S : Vw) (p : Addr) : Vw := { S with P := fun a => S.P a ∧ a ≠ p }
section
variable {K : PySem.W.Frag} {G : GT} {H H' : Hp} {S S' : Vw} {st : Sto} {p : Addr} {o o' : HO}
/-- p is nobody's -/
structure Lone (S : Vw) (p : Addr) : Prop where
  nF : ¬ S.F p
  nP : ¬ S.P p
  nR : ∀ (i : Nat), S.ρ[i]? ≠ some p
theorem Lone.of (w : Ws K G H S st) (h : H p = none) : Lone S p := by
  refine ⟨fun f => ?_, fun f => ?_, fun i f => ?_⟩
  · obtain ⟨u, e⟩ := w.fr p f
    rw [h] at e
    cases e
  · obtain ⟨u, e⟩ := w.pf p f
    rw [h] at e
    cases e
  · obtain ⟨u, e⟩ := w.rl i p f
    rw [h] at e
    cases e
theorem Lat.own : Lat H S H (S.own p) := { fz := fun _ _ f h => ⟨f, h⟩, pp := fun _ _ f h => ⟨.inl f, h⟩, tp := fun _ _ h => h, fr := fun _ _ _ h => h, ex := fun _ _ h => h, pr := List.prefix_rfl }
theorem Ws.own (w : Ws K G H S st) (l : Lone S p) (h : H p = some o) (hk : ∀ ps, o ≠ .tbl ps := by nofun) : Ws K G H (S.own p) st where
  len := w.len
  nd := w.nd
  rl := w.rl
  nf := w.nf
  np := fun i a e q => by
    rcases q with q | q
    · exact w.np i a e q
    · exact l.nR i (q ▸ e)
  dj := fun a f q => by
    rcases q with q | q
    · exact w.dj a f q
    · exact l.nF (q ▸ f)
  pf := fun a q => by
    rcases q with q | q
    · exact w.pf a q
    · exact ⟨o, q ▸ h⟩
  cr := fun i a c h1 h2 => (w.cr i a c h1 h2).mono Lat.own fun _ e => e
  fr := w.fr
  tb := fun q hq => (w.tb q hq).step (fun _ e => e) (fun _ _ e => e) id (fun z => z.elim id fun z => by
    obtain ⟨ps, e⟩ := (w.tb q hq).at_
    rw [z, h] at e
    exact absurd (Option.some.inj e) (hk ps)) id
  cp := w.cp.mono Lat.own
/-- p, ours, is written, and then nobody's -/
theorem LatR.rewrite (w : Ws K G H S st) (hp : S.P p) {vs : List V} (h : H p = some (.lst vs)) : LatR H S (upd H p o') (S.disown p) where
  fz := fun a u f e => ⟨f, by
    have hn : a ≠ p := fun q => w.dj a f (q ▸ hp)
    rw [upd_ne hn]
    exact e⟩
  tp := fun a xs e => by
    have hn : a ≠ p := fun q => by
      rw [q, h] at e
      cases e
    rw [upd_ne hn]
    exact e
  fr := fun a u v e => by
    have hn : a ≠ p := fun q => by
      rw [q, h] at e
      cases e
    rw [upd_ne hn]
    exact e
  ex := fun a u e => by
    have hn : a ≠ p := fun q => by
      rw [q, h] at e
      cases e
    rw [upd_ne hn]
    exact e
  pr := List.prefix_rfl
theorem Ws.rewrite (w : Ws K G H S st) (hp : S.P p) {vs : List V} (h : H p = some (.lst vs)) : Ws K G (upd H p o') (S.disown p) st where
  len := w.len
  nd := w.nd
  rl := fun i a e => by
    obtain ⟨u, q⟩ := w.rl i a e
    have hn : a ≠ p := fun z => w.np i a e (z ▸ hp)
    exact ⟨u, by rw [upd_ne hn]; exact q⟩
  nf := w.nf
  np := fun i a e q => w.np i a e q.1
  dj := fun a f q => w.dj a f q.1
  pf := fun a q => by
    obtain ⟨u, e⟩ := w.pf a q.1
    exact ⟨u, by rw [upd_ne q.2]; exact e⟩
  cr := fun i a c h1 h2 => (w.cr i a c h1 h2).monoR (LatR.rewrite w hp h) fun u e => by
    have hn : a ≠ p := fun z => w.np i a h1 (z ▸ hp)
    rw [upd_ne hn]
    exact e
  fr := fun a f => by
    obtain ⟨u, e⟩ := w.fr a f
    have hn : a ≠ p := fun z => w.dj a f (z ▸ hp)
    exact ⟨u, by rw [upd_ne hn]; exact e⟩
  tb := fun q hq => ((w.tb q hq).upd (fun ps e => by rw [h] at e; cases e) (fun _ e => by rw [h] at e; cases e)).step (fun _ e => e) (fun _ _ e => e) id (fun z => z.1) id
  cp := w.cp.monoR (LatR.rewrite w hp h)
def del (H : Hp) (p : Addr) : Hp := fun a => if a = p then none else H a
theorem del_self : del H p p = none := by simp [del]
theorem del_ne {a : Addr} (h : a ≠ p) : del H p a = H a := by simp [del, h]
theorem upd_id {u : HO} (h : H p = some u) : upd H p u = H := by
  funext a
  by_cases e : a = p
  · rw [e, upd_same, h]
  · rw [upd_ne e]
theorem upd_del {u : HO} (h : H p = some u) : upd (del H p) p u = H := by
  funext a
  by_cases e : a = p
  · rw [e, upd_same, h]
  · rw [upd_ne e, del_ne e]
/-- without what is nobody's -/
theorem Lat.del (l : Lone S p) {vs : List V} (h : H p = some (.lst vs)) : Lat H S (del H p) S where
  fz := fun a u f e => ⟨f, by
    have hn : a ≠ p := fun q => l.nF (q ▸ f)
    rw [del_ne hn]
    exact e⟩
  pp := fun a u f e => ⟨f, by
    have hn : a ≠ p := fun q => l.nP (q ▸ f)
    rw [del_ne hn]
    exact e⟩
  tp := fun a xs e => by
    have hn : a ≠ p := fun q => by
      rw [q, h] at e
      cases e
    rw [del_ne hn]
    exact e
  fr := fun a u v e => by
    have hn : a ≠ p := fun q => by
      rw [q, h] at e
      cases e
    rw [del_ne hn]
    exact e
  ex := fun a u e => by
    have hn : a ≠ p := fun q => by
      rw [q, h] at e
      cases e
    rw [del_ne hn]
    exact e
  pr := List.prefix_rfl
theorem Ws.del (w : Ws K G H S st) (l : Lone S p) {vs : List V} (h : H p = some (.lst vs)) : Ws K G (del H p) S st where
  len := w.len
  nd := w.nd
  rl := fun i a e => by
    obtain ⟨u, q⟩ := w.rl i a e
    have hn : a ≠ p := fun z => l.nR i (z ▸ e)
    exact ⟨u, by rw [del_ne hn]; exact q⟩
  nf := w.nf
  np := w.np
  dj := w.dj
  pf := fun a q => by
    obtain ⟨u, e⟩ := w.pf a q
    have hn : a ≠ p := fun z => l.nP (z ▸ q)
    exact ⟨u, by rw [del_ne hn]; exact e⟩
  cr := fun i a c h1 h2 => (w.cr i a c h1 h2).mono (Lat.del l h) fun u e => by
    have hn : a ≠ p := fun z => l.nR i (z ▸ h1)
    rw [del_ne hn]
    exact e
  fr := fun a f => by
    obtain ⟨u, e⟩ := w.fr a f
    have hn : a ≠ p := fun z => l.nF (z ▸ f)
    exact ⟨u, by rw [del_ne hn]; exact e⟩
  tb := fun q hq => (w.tb q hq).step (fun ps e => by
    have hn : q.1 ≠ p := fun z => by
      rw [z, h] at e
      cases e
    rw [del_ne hn]
    exact e) (fun a u e => by
    have hn : a ≠ p := fun z => by
      rw [z, h] at e
      cases e
    rw [del_ne hn]
    exact e) id id id
  cp := w.cp.mono (Lat.del l h)
end
section
variable {X : Cx} {G : GT} {W : WX} {g : DenG} {P : DenB} {A : Den}
theorem lc_of {J : It} {I : Itm} {vs : List Nat} {S1 : Vw} {H1 : Hp} {σ : L2.St} {env : En} {st1 : Sto} {D : Addr} {Q : VK} (wk : Wk X.K G J I S1 H1) (m1 : Sm X.K G S1 σ H1 env st1) (hD : H1 D = none)
    (q1 : Post X.K G W σ S1 H1 (lcIt I.2 vs g P A env I.1 [] st1) fun S' H' l _ => ∀ vs p, Reps X.K G H' S' l vs → H' p = none → Q (.ref p) (upd H' p (.lst vs))) :
    ∃ Wf : Nat → Nat → Hp → Prop, (∃ m, Wf 0 m (upd H1 D (.lst []))) ∧ ∀ i m H, Wf i m H →
      (J.stop i H ∧ Q (.ref D) H) ∨ (J.go i H ∧ ∃ Nx : Hp → Prop, (∀ H', Nx H' → ∃ m', m' < m ∧ Wf (i + 1) m' H') ∧ ∀ x H', J.yld i H x H' → tGw X.K G g vs x (L2.wipe σ vs) H' fun σ2 H2 => L2.wipe σ2 vs = L2.wipe σ vs ∧ tT X.K G W0 P σ2 H2 fun b H3 =>
        if b = true then tD X.K G W0 A σ2 H3 fun y H4 => ∃ acc, H4 D = some (.lst acc) ∧ acc.length < sizeLine ∧ Nx (upd H4 D (.lst (acc ++ [y]))) else Nx H3) := by
  refine ⟨fun i m H => ∃ S st acc us, Lat H1 S1 H S ∧ Ws X.K G H S st ∧ Lone S D ∧ H D = some (.lst us) ∧ Reps X.K G H S acc us ∧ i + m = I.1.length ∧
      Post X.K G W σ S H (lcIt I.2 vs g P A env (I.1.drop i) acc st) fun S' H' l _ => ∀ vs p, Reps X.K G H' S' l vs → H' p = none → Q (.ref p) (upd H' p (.lst vs)),
    ⟨I.1.length, S1, st1, [], [], .new hD, m1.ws.new hD, .of m1.ws hD, upd_same, .nil, by omega, Post.later q1 (.new hD) fun _ _ _ _ _ _ q => q⟩, fun i m H ⟨S, st, acc, us, l, w, lo, hH, ra, em, q⟩ => ?_⟩
  cases m with
  | zero =>
    have e0 : I.1.drop i = [] := List.drop_eq_nil_of_le (by omega)
    rw [e0, lcIt] at q
    split at q
    · rename_i hk
      refine .inl ⟨(wk S H st i l w hk).2 (by omega), ?_⟩
      have z := q S (del H D) (.del lo hH) (w.del lo hH) us D (ra.mono (.del lo hH)) del_self
      rw [upd_del hH] at z
      exact z
    · exact q.elim
  | succ m =>
    have hi : i < I.1.length := by omega
    have e0 : I.1.drop i = I.1[i] :: I.1.drop (i + 1) := List.drop_eq_getElem_cons hi
    rw [e0, lcIt] at q
    split at q
    · rename_i hk
      have lo' : Lat H1 S1 H (S.own D) := l.trans .own
      have wo := w.own lo hH
      obtain ⟨hgo, hy⟩ := (wk (S.own D) H st i lo' wo hk).1 _ (List.getElem?_eq_getElem hi)
      refine .inr ⟨hgo, fun H' => ∃ S st acc us, Lat H1 S1 H' S ∧ Ws X.K G H' S st ∧ Lone S D ∧ H' D = some (.lst us) ∧ Reps X.K G H' S acc us ∧
        Post X.K G W σ S H' (lcIt I.2 vs g P A env (I.1.drop (i + 1)) acc st) fun S' H' l _ => ∀ vs p, Reps X.K G H' S' l vs → H' p = none → Q (.ref p) (upd H' p (.lst vs)), fun H' ⟨S, st, acc, us, a1, a2, a3, a4, a5, a6⟩ => ⟨m, Nat.lt_succ_self _, S, st, acc, us, a1, a2, a3, a4, a5, by omega, a6⟩, fun x H' hyl => ?_⟩
      obtain ⟨S2, l2, w2, r2⟩ := hy x H' hyl
      -- what is known of D behind any later state of ours
      have lH : Lat H S H' S2 := (Lat.own (p := D)).trans l2
      have back : ∀ S3 H3 st3 acc3 (us3 : List V), Lat H' S2 H3 S3 → Ws X.K G H3 S3 st3 → Reps X.K G H3 S3 acc3 us3 → H3 D = some (.lst us) ∧ Lat H S (upd H3 D (.lst us3)) (S3.disown D) ∧ Ws X.K G (upd H3 D (.lst us3)) (S3.disown D) st3 ∧ Lone (S3.disown D) D ∧
          Reps X.K G (upd H3 D (.lst us3)) (S3.disown D) acc3 us3 := by
        intro S3 H3 st3 acc3 us3 l3 w3 r3
        obtain ⟨p3, h3⟩ := (l2.trans l3).pp D _ (.inr rfl) hH
        have lr := LatR.rewrite (o' := .lst us3) w3 p3 h3
        refine ⟨h3, ⟨?_, fun a o f e => ?_⟩, w3.rewrite p3 h3, ⟨fun f => w3.dj D f p3, fun f => f.2 rfl, fun j e => w3.np j D e p3⟩, r3.monoR lr⟩
        · have la := (lH.trans l3).toLatR
          exact ⟨fun a o f e => let ⟨f1, e1⟩ := la.fz a o f e; lr.fz a o f1 e1, fun a xs e => lr.tp _ _ (la.tp _ _ e), fun a o u e => lr.fr _ _ _ (la.fr _ _ _ e), fun a u e => lr.ex _ _ (la.ex _ _ e), la.pr.trans lr.pr⟩
        · obtain ⟨f3, e3⟩ := (lH.trans l3).pp a o f e
          have hn : a ≠ D := fun z => lo.nP (z ▸ f)
          exact ⟨⟨f3, hn⟩, by rw [upd_ne hn]; exact e3⟩
      cases eg : g I.1[i] (wipeE env vs) with
      | none => rw [eg] at q; exact q.elim
      | some env1 =>
        rw [eg] at q
        dsimp only at q
        have er2 : ERep X.K G H' S2 (L2.wipe σ vs) (wipeE env vs) := (m1.er.mono (l.trans lH)).wipe vs
        refine ⟨S2, wipeE env vs, st, _, env1, ⟨w2, er2⟩, r2, eg, fun σ2 hw sm2 => ⟨hw.trans (wipe_wipe fun _ h => h), S2, env1, st, sm2, ?_⟩⟩
        cases eP : P env1 st with
        | bad => rw [eP] at q; exact q
        | exc c s => rw [eP] at q; exact q.elim
        | ok b s3 =>
          rw [eP] at q
          intro S3 H3 l3 w3
          cases b with
          | false =>
            rw [if_neg (by decide)]
            obtain ⟨b0, b1, b2, b3, b4⟩ := back S3 H3 s3 acc us l3 w3 (ra.mono (lH.trans l3))
            rw [upd_id b0] at b1 b2 b4
            exact ⟨_, s3, acc, us, l.trans b1, b2, b3, b0, b4, Post.later q b1 fun _ _ _ _ _ _ z => z⟩
          | true =>
            rw [if_pos rfl]
            refine ⟨S3, env1, s3, sm2.later l3 w3, ?_⟩
            cases eA : A env1 s3 with
            | bad => simp only [noX, Rs.bind, eA, if_pos] at q; exact q
            | exc c s => simp only [noX, Rs.bind, eA, if_pos] at q; exact q.elim
            | ok d s4 =>
              simp only [noX, Rs.bind, eA, if_pos] at q
              intro S4 H4 l4 w4 v rv
              split at q
              · rename_i hz
                obtain ⟨b0, b1, b2, b3, b4⟩ := back S4 H4 s4 (acc ++ [d]) (us ++ [v]) (l3.trans l4) w4 ((ra.mono (lH.trans (l3.trans l4))).append (.cons rv .nil))
                refine ⟨us, b0, ?_, _, s4, acc ++ [d], us ++ [v], l.trans b1, b2, b3, upd_same, b4, Post.later q b1 fun _ _ _ _ _ _ z => z⟩
                have z := szOk.ok hz
                rw [ra.length] at z
                exact z
              · exact q.elim
    · exact q.elim
theorem tLc_of {wi : TI} {I : DenI} {vs : List Nat} {σ : L2.St} {H : Hp} {Q : VK} (hi : ∀ R, tI X.K G W I σ H R → wi σ H R) (h : tL X.K G W (lLc I vs g P A) σ H Q) : tLc wi (tGw X.K G g vs) (tT X.K G W0 P) (tD X.K G W0 A) vs σ H Q := by
  obtain ⟨S, env, st, m, q⟩ := h
  exact hi _ ⟨S, env, st, m, Post.imp (Post.bind q) fun S1 H1 I s1 l1 w1 q J wk D hD => lc_of wk (m.later l1 w1) hD q⟩
end
section
variable {X : Cx} {G : GT} {W : WX} {I : DenI} {g : DenG} {P : DenB} {A : Den} {elt tg iter : Expr} {ifs : List Expr} {scope : Scope} {own : List (Str × Nat)} {pos spos py : Pos} {i : Nat} {y : Str}
abbrev EBs (X : Cx) (G : GT) (W : WX) (A : DenB) (es : List Expr) : Prop := PTs X es (tT X.K G W A)
theorem ebs_nil : EBs X G W bYes [] := ⟨fun pins s σ H Q I ⟨S, env, st, m, q⟩ => pts_nil.run pins s σ H Q I (Post.ok q m.ws)⟩
theorem ebs_one {c : Expr} (h : EB X G W P c) : EBs X G W P [c] := pts_one h
theorem el_lc (hc : X.calm = true) (hN : X.N.Nodup) (hi : EI X G W I tg iter) (ok : BlkOk X.N X.env.scope scope own)
    (hg : ∀ (s : Shared) (H : Hp) (C : Addr) (cl : List (Str × Addr)) (fp : List Addr), EGw (X.blk s H scope (compEnvC scope cl C X.env) fp) G g (own.map (·.2)) tg) (ht : ∀ (s : Shared) (H : Hp) (C : Addr) (cl : List (Str × Addr)) (fp : List Addr), EBs (X.blk s H scope (compEnvC scope cl C X.env) fp) G W0 P ifs)
    (he : ∀ (s : Shared) (H : Hp) (C : Addr) (cl : List (Str × Addr)) (fp : List Addr), ED (X.blk s H scope (compEnvC scope cl C X.env) fp) G W0 A elt) (hs : ∀ x, foldedSetIterable iter X.env x = pure x := by intro _; rfl) :
    EL X G W (lLc I (own.map (·.2)) g P A) (.ListComp elt [⟨tg, iter, ifs, 0⟩] scope pos) :=
  PE.imp (pe_lc hc hN hi ok hg ht he hs) fun σ H Q h => tLc_of (fun _ q => q) h
/-- name = [..] of the list as it stays, as one that is changed -/
theorem es_setLc (hc : X.calm = true) (hN : X.N.Nodup) (hyl : X.env.scope.names.lookup y = some .local)
    (hsw : swapsWith (.ListComp elt [⟨tg, iter, ifs, 0⟩] scope pos) (some (.Name y py)) spos.line X.env = pure true) (hi : EI X G W I tg iter) (ok : BlkOk X.N X.env.scope scope own)
    (hg : ∀ (s : Shared) (H : Hp) (C : Addr) (cl : List (Str × Addr)) (fp : List Addr), EGw (X.blk s H scope (compEnvC scope cl C X.env) fp) G g (own.map (·.2)) tg) (ht : ∀ (s : Shared) (H : Hp) (C : Addr) (cl : List (Str × Addr)) (fp : List Addr), EBs (X.blk s H scope (compEnvC scope cl C X.env) fp) G W0 P ifs)
    (he : ∀ (s : Shared) (H : Hp) (C : Addr) (cl : List (Str × Addr)) (fp : List Addr), ED (X.blk s H scope (compEnvC scope cl C X.env) fp) G W0 A elt) (hy : X.N[i]? = some y := by rfl) (hs : ∀ x, foldedSetIterable iter X.env x = pure x := by intro _; rfl) :
    ES X G W (sAsg (gVar i) (dDat (lLc I (own.map (·.2)) g P A))) (.Assign [.Name y py] (.ListComp elt [⟨tg, iter, ifs, 0⟩] scope pos) spos) ∧
    ES X G W (sAsg (gVar i) (dCel (lLc I (own.map (·.2)) g P A))) (.Assign [.Name y py] (.ListComp elt [⟨tg, iter, ifs, 0⟩] scope pos) spos) := by
  have base := ps_setLc (i := i) (py := py) (spos := spos) (pos := pos) (te := tD X.K G W0 A) (tt := tT X.K G W0 P) (g := tGw X.K G g (own.map (·.2))) hc hN hy hyl hsw hi ok hg ht he hs
  have hv : ∀ (v : V) (σ : L2.St) (H : Hp) (Q : L2.St → Hp → Prop), tGt X.K G (gVar i) v σ H Q → gName i v σ H Q := fun v σ H Q ⟨S, env, st, d, env', m, r, e, k⟩ => by
    have e' : env.set i (some d) = env' := Option.some.inj e
    subst e'
    exact k _ ⟨m.ws, m.er.set r⟩
  exact ⟨PS.imp base fun E σ H h => asg_of (fun σ H Q ⟨S, env, st, m, q⟩ => tLc_of (fun _ q => q) ⟨S, env, st, m, Post.imp (Post.bind q) fun S1 H1 l s1 l1 w1 q vs p rvs hp => new_lst w1 rvs hp q⟩) hv h,
    PS.imp base fun E σ H h => asg_of (fun σ H Q ⟨S, env, st, m, q⟩ => tLc_of (fun _ q => q) ⟨S, env, st, m, Post.imp (Post.bind q) fun S1 H1 l s1 l1 w1 q vs p rvs hp => new_cel w1 rvs hp q⟩) hv h⟩
theorem es_setLd (hc : X.calm = true) (hN : X.N.Nodup) (hyl : X.env.scope.names.lookup y = some .local)
    (hsw : swapsWith (.ListComp elt [⟨tg, iter, ifs, 0⟩] scope pos) (some (.Name y py)) spos.line X.env = pure true) (hi : EI X G W I tg iter) (ok : BlkOk X.N X.env.scope scope own)
    (hg : ∀ (s : Shared) (H : Hp) (C : Addr) (cl : List (Str × Addr)) (fp : List Addr), EGw (X.blk s H scope (compEnvC scope cl C X.env) fp) G g (own.map (·.2)) tg) (ht : ∀ (s : Shared) (H : Hp) (C : Addr) (cl : List (Str × Addr)) (fp : List Addr), EBs (X.blk s H scope (compEnvC scope cl C X.env) fp) G W0 P ifs)
    (he : ∀ (s : Shared) (H : Hp) (C : Addr) (cl : List (Str × Addr)) (fp : List Addr), ED (X.blk s H scope (compEnvC scope cl C X.env) fp) G W0 A elt) (hy : X.N[i]? = some y := by rfl) (hs : ∀ x, foldedSetIterable iter X.env x = pure x := by intro _; rfl) :
    ES X G W (sAsg (gVar i) (dDat (lLc I (own.map (·.2)) g P A))) (.Assign [.Name y py] (.ListComp elt [⟨tg, iter, ifs, 0⟩] scope pos) spos) := (es_setLc hc hN hyl hsw hi ok hg ht he hy hs).1
theorem es_setLv (hc : X.calm = true) (hN : X.N.Nodup) (hyl : X.env.scope.names.lookup y = some .local)
    (hsw : swapsWith (.ListComp elt [⟨tg, iter, ifs, 0⟩] scope pos) (some (.Name y py)) spos.line X.env = pure true) (hi : EI X G W I tg iter) (ok : BlkOk X.N X.env.scope scope own)
    (hg : ∀ (s : Shared) (H : Hp) (C : Addr) (cl : List (Str × Addr)) (fp : List Addr), EGw (X.blk s H scope (compEnvC scope cl C X.env) fp) G g (own.map (·.2)) tg) (ht : ∀ (s : Shared) (H : Hp) (C : Addr) (cl : List (Str × Addr)) (fp : List Addr), EBs (X.blk s H scope (compEnvC scope cl C X.env) fp) G W0 P ifs)
    (he : ∀ (s : Shared) (H : Hp) (C : Addr) (cl : List (Str × Addr)) (fp : List Addr), ED (X.blk s H scope (compEnvC scope cl C X.env) fp) G W0 A elt) (hy : X.N[i]? = some y := by rfl) (hs : ∀ x, foldedSetIterable iter X.env x = pure x := by intro _; rfl) :
    ES X G W (sAsg (gVar i) (dCel (lLc I (own.map (·.2)) g P A))) (.Assign [.Name y py] (.ListComp elt [⟨tg, iter, ifs, 0⟩] scope pos) spos) := (es_setLc hc hN hyl hsw hi ok hg ht he hy hs).2
end
end Wt

/-! Core 5: defs, calls, methods, instances, fields, lists changed by methods. -/
namespace Wt
open PySem PySem.Spec PyProof.Rows L2
theorem takesN0 {X : Cx} : L2N.Takes X (fun _ _ _ _ => False) := fun _ _ x => by
  obtain ⟨a, B, sI, pins, σ, H, cls, d, _, _, _, _, _, _, _, _, z⟩ := x
  exact z.elim
abbrev DenF := List D → Sto → Rs D
section
variable (K : PySem.W.Frag) (G : GT)
def PostF (S : Vw) (H : Hp) (r : Rs D) (Q : VK) (E : XK) : Prop :=
  match r with
  | .ok d st => ∀ S' H' v, Lat H S H' S' → Ws K G H' S' st → Rep K G H' S' d v → Q v H'
  | .exc c st => ∀ S' H', Lat H S H' S' → Ws K G H' S' st → E (.ref (G c)) none H'
  | .bad => False
/-- the promise: what d gives, of n arguments -/
def spD (n : Nat) (d : DenF) : Sp := fun vs H Q E => ∃ S ds st, Ws K G H S st ∧ Reps K G H S ds vs ∧ ds.length = n ∧ PostF K G S H (d ds st) Q E
end
/-- the def at f does d -/
def FD (P : Program) (w : World) (K : PySem.W.Frag) (mg : Str → Option Value) (base : Heap) (G : GT) (k : Nat) (f : Addr) (n : Nat) (d : DenF) : Prop :=
  ∃ (fd : FuncData) (ps : List Str), FnOk P w K mg base (L2N.CX P w) k f fd ps (spD K G n d) ∧ Binds K fd ps []
theorem FD.mono {P : Program} {w : World} {K : PySem.W.Frag} {mg : Str → Option Value} {base : Heap} {G : GT} {j k : Nat} {f : Addr} {n : Nat} {d : DenF} (F : FD P w K mg base G j f n d) (h : j ≤ k) : FD P w K mg base G k f n d :=
  let ⟨fd, ps, F, b⟩ := F; ⟨fd, ps, F.mono h, b⟩
/-- a body run at the arguments: N names in all -/
def run (N : Nat) (B : DenS) : DenF := fun ds st => match B (ds.map some ++ List.replicate (N - ds.length) none) st with
  | .nx _ s => .ok .non s
  | .rt d s => .ok d s
  | .exc c _ s => .exc c s
  | _ => .bad
section
variable {K : PySem.W.Frag} {G : GT} {H : Hp} {S : Vw}
theorem ERep.start {ds : List D} {vs : List V} {N : List Str} (r : Reps K G H S ds vs) : ERep K G H S (L2.start N vs) (ds.map some ++ List.replicate (N.length - ds.length) none) := by
  refine ⟨by simp [L2.start, r.length], fun i d hi => ?_⟩
  by_cases h : i < ds.length
  · rw [List.getElem?_append_left (by simpa using h), List.getElem?_map] at hi
    cases e : ds[i]? with
    | none => rw [e] at hi; cases hi
    | some d' =>
      rw [e] at hi
      have ed : d' = d := by simpa using hi
      obtain ⟨v, hv, rv⟩ := r.get e
      refine ⟨v, ?_, ed ▸ rv⟩
      unfold L2.start
      rw [List.getElem?_append_left (by rw [List.length_map, ← r.length]; exact h), List.getElem?_map, hv]
      rfl
  · rw [List.getElem?_append_right (by simpa using h)] at hi
    rw [List.getElem?_replicate] at hi
    split at hi <;> simp at hi
end
section
variable {P : Program} {w : World} {K : PySem.W.Frag} {mg : Str → Option Value} {base : Heap} {G : GT}
/-- THE RULE for a def: its body does B -/
theorem fd_of {x qual : Str} {st : Stmt} {f : Addr} {fd : FuncData} {N ps : List Str} {k n nN : Nat} {B : DenS} (F : Fun K x qual st f fd) (Sc : FnScope N ps (defScope st)) (hn : ps.length = n) (hN : N.length = nN) (hb : Binds K fd ps [])
    (hbody : ∀ (cdv : Value) (A : Around) (outer : List Env) (s : Shared) (H : Hp) (E : XK), Room k (A.deeper (envOfC qual (defScope st) s.heap.objs.size f cdv)) →
      ESs (cxOf (L2N.CX P w) P w K mg base N qual (defScope st) f cdv A outer s H E) G (fun cls d _ H => E cls d H) B (defBody st)) : FD P w K mg base G (k + 1) f n (run nN B) := by
  subst hN
  obtain ⟨oc, od, kV, doc, pm, an, cdv, ct, osl, rfl, lk, hcd⟩ := F.ex
  refine ⟨_, ps, fn_of lk hcd Sc (fun vs H Q E h => ?_) (fun A outer s H vs Q E hr h => ⟨_, hbody cdv A outer s H E hr, ?_⟩), hb⟩
  · obtain ⟨S, ds, st, _, r, hl, _⟩ := h
    rw [← r.length, hl, hn]
  · obtain ⟨S, ds, st, w, r, hl, q⟩ := h
    refine ⟨S, _, st, ⟨w, ERep.start r⟩, ?_⟩
    unfold run at q
    cases e : B (ds.map some ++ List.replicate (N.length - ds.length) none) st with
    | nx env s =>
      rw [e] at q
      exact fun S' H' σ' l m => q S' H' .non l m.ws mk_non
    | rt d s =>
      rw [e] at q
      exact q
    | exc c env s =>
      rw [e] at q
      exact fun S' H' σ' l m => q S' H' l m.ws
    | bk _ _ => rw [e] at q; exact q.elim
    | ct _ _ => rw [e] at q; exact q.elim
    | bad => rw [e] at q; exact q
end
/-- another denotation that gives no less -/
theorem FD.imp {P : Program} {w : World} {K : PySem.W.Frag} {mg : Str → Option Value} {base : Heap} {G : GT} {k : Nat} {f : Addr} {n : Nat} {d d' : DenF} (F : FD P w K mg base G k f n d)
    (h : ∀ S H ds st Q E, Ws K G H S st → PostF K G S H (d' ds st) Q E → PostF K G S H (d ds st) Q E) : FD P w K mg base G k f n d' :=
  let ⟨fd, ps, F, b⟩ := F
  ⟨fd, ps, F.imp fun vs H Q E ⟨S, ds, st, w, r, hl, q⟩ => ⟨S, ds, st, w, r, hl, h S H ds st Q E w q⟩, b⟩

/-! ### calls -/
def dFn (n : Nat) (d : DenF) (As : DenL) : Den := fun env st => (As env st).bind fun l s => if Nat.beq l.length n then d l s else .bad
section
variable {X : Cx} {G : GT} {W : WX} {k n : Nat} {f : Addr} {d : DenF} {x : Str} {p pos : Pos} {e : Expr} {es : List Expr} {As : DenL}
theorem PostF.of {S : Vw} {H : Hp} {σ : L2.St} {r : Rs D} {Q : VK} (q : Post X.K G W σ S H r fun S' H' d _ => ∀ v, Rep X.K G H' S' d v → Q v H') : PostF X.K G S H r Q (WE W σ) := by
  cases r with
  | ok d st => exact fun S' H' v l w r => q S' H' l w v r
  | exc c st => exact q
  | bad => exact q
theorem ed_call (F : FD X.prog X.w X.K X.mg X.base G k f n d) (hr : Room k X.A) (hm : X.mg x = some (.ref f)) (hk : PySem.W.keepIn X.K (.ref f) = true) (tk : L2N.Takes X W) (ha : EA X G W As (e :: es)) (hg : Gl X x := by rfl)
    (hdb : (x == ("__debug__" : Str)) = false := by decide) (he : starEach (e :: es) X.env = (false, eval e X.env) :: starEach es X.env := by rfl) (hpl : (backTo pos (starEach es X.env)).any (·.1) = false := by rfl) :
    ED X G W (dFn n d As) (.Call (.Name x p) (e :: es) [] pos) := by
  obtain ⟨fd, ps, F, hb⟩ := F
  exact PE.imp (pe_callS F hr hg hm hk hb (fun σ => L2N.passAt tk σ) ha hdb he hpl) fun σ H Q ⟨S, env, st, m, q⟩ => ⟨S, env, st, m, Post.imp (Post.bind q) fun S1 H1 l s1 l1 w1 q vs rvs => by
    split at q
    · rename_i hz
      exact ⟨S1, l, s1, w1, rvs, Nat.eq_of_beq_eq_true hz, PostF.of q⟩
    · exact q.elim⟩
/-- f() -/
theorem ed_call0 (F : FD X.prog X.w X.K X.mg X.base G k f 0 d) (hr : Room k X.A) (hm : X.mg x = some (.ref f)) (hk : PySem.W.keepIn X.K (.ref f) = true) (tk : L2N.Takes X W) (hg : Gl X x := by rfl) (hdb : (x == ("__debug__" : Str)) = false := by decide) :
    ED X G W (dFn 0 d aNil) (.Call (.Name x p) [] [] pos) := by
  obtain ⟨fd, ps, F, hb⟩ := F
  refine ⟨fun pins s σ H Q I ⟨S, env, st, m, q⟩ => ?_⟩
  refine wpAny_Call_Name_kw (ld_glob I hg hm ?_ hdb)
  exact PySem.W.callWith_K0 I.kIn hk (run_fnS (us := []) (vs := []) (E := WE W) F hr hb (L2N.passAt tk σ) I .nil ⟨S, [], st, m.ws, .nil, rfl, PostF.of (W := W) q⟩)
end

/-! ### instances -/
/-- the class of a value -/
def clsD (st : Sto) : D → Option Nat
  | .ins c _ => some c
  | .loc i => match st[i]? with
    | some (.inst c _) => some c
    | _ => none
  | _ => none
theorem clsD_at {K : PySem.W.Frag} {G : GT} {H : Hp} {S : Vw} {st : Sto} {d : D} {v : V} {c : Nat} (w : Ws K G H S st) (r : Rep K G H S d v) (e : clsD st d = some c) : ∃ a dx vs, v = .ref a ∧ H a = some (.ins (G c) dx ((nms c).zip vs)) := by
  cases d <;> simp [clsD] at e
  · subst e
    simp only [Rep] at r
    obtain ⟨a, dx, vs, e, _, h, _⟩ := r
    exact ⟨a, dx, vs, e, h⟩
  · rename_i i
    simp only [Rep] at r
    obtain ⟨a, ev, hi⟩ := r
    split at e
    · rename_i c' fs hl
      simp at e
      subst e
      obtain ⟨dx, vs, h1, _⟩ := w.cr i a _ hi hl
      exact ⟨a, dx, vs, ev, h1⟩
    · cases e
theorem lookup_zip_none {m : Str} : ∀ {ns : List Str} {vs : List V}, m ∉ ns → (ns.zip vs).lookup m = none
  | [], _, _ => rfl
  | n :: ns, [], _ => rfl
  | n :: ns, v :: vs, h => by
    rw [List.mem_cons, not_or] at h
    rw [List.zip_cons_cons, List.lookup_cons, show (m == n) = false by simpa using h.1]
    exact lookup_zip_none h.2
/-- the methods m: of the class c n arguments, self among them -/
abbrev Mths := Nat → Option (Nat × DenF)
def MD (P : Program) (w : World) (K : PySem.W.Frag) (mg : Str → Option Value) (base : Heap) (G : GT) (k : Nat) (m : Str) (ms : Mths) : Prop :=
  ∀ c n d, ms c = some (n, d) → Cls K (G c) ∧ m ∉ nms c ∧ ∃ g, Meth K (G c) m g ∧ FD P w K mg base G k g n d
def dMeth (ms : Mths) (A : Den) (As : DenL) : Den := fun env st => (A env st).bind fun x s => match (clsD s x).bind ms with
  | some (n, d) => (As env s).bind fun l s => if Nat.beq (l.length + 1) n then d (x :: l) s else .bad
  | none => .bad
section
variable {X : Cx} {G : GT} {W : WX} {k n : Nat} {f : Addr} {d : DenF} {m : Str} {p pos apos : Pos} {o e : Expr} {es : List Expr} {A : Den} {As : DenL} {ms : Mths}
theorem ed_meth {pl : Sem Bool} (M : MD X.prog X.w X.K X.mg X.base G k m ms) (he : ED X G W A o) (hr : Room k X.A) (tk : L2N.Takes X W) (ha : EA X G W As (e :: es)) (hst : starEach (e :: es) X.env = (false, eval e X.env) :: starEach es X.env := by rfl) (hpl : (backTo pos (starEach es X.env)).any (·.1) = false := by rfl)
    (ht : eval (.Call (.Attribute o m apos) (e :: es) [] pos) X.env = (do
      let ov ← eval o X.env
      standAt apos.atName
      let (f, first) ← holding [ov] (getMethod ov m pl)
      callWith pos f first (backTo pos (starEach (e :: es) X.env)) (backToKw pos (keywordEach [] X.env))) := by rfl) :
    ED X G W (dMeth ms A As) (.Call (.Attribute o m apos) (e :: es) [] pos) := by
  refine ⟨fun pins s σ H Q I ⟨S, env, st, sm, q⟩ => ?_⟩
  refine PySem.W.methodCall_KW (pl := pl) (thn (he.run pins s σ H (fun x H1 => ∃ S1 s1 d0, Lat H S H1 S1 ∧ Ws X.K G H1 S1 s1 ∧ Rep X.K G H1 S1 d0 x ∧ Post X.K G W σ S1 H1 (match (clsD s1 d0).bind ms with
    | some (n, d) => (As env s1).bind fun l s => if Nat.beq (l.length + 1) n then d (d0 :: l) s else .bad
    | none => .bad) fun S' H' d _ => ∀ v, Rep X.K G H' S' d v → Q v H') I ⟨S, env, st, sm, Post.imp (Post.bind q) fun S1 H1 x s1 l1 w1 q v rv => ⟨S1, s1, x, l1, w1, rv, q⟩⟩) fun u s1 ⟨x, H1, I1, rx, S1, st1, d0, l1, w1, r0, q⟩ => ?_) ht
  cases ec : (clsD st1 d0).bind ms with
  | none => rw [ec] at q; exact q.elim
  | some nd =>
    obtain ⟨n, d⟩ := nd
    rw [ec] at q
    obtain ⟨c, e1, e2⟩ := bind_at ec
    obtain ⟨hc, hnm, g, hg, fd, ps, F, hb⟩ := M c n d e2
    obtain ⟨a, dx, vs, ex, ea⟩ := clsD_at w1 r0 e1
    subst ex
    obtain rfl : u = Value.ref a := rx
    refine getmeth_ok I1 ea hc hg (lookup_zip_none hnm) ?_
    refine PySem.W.callWith_K (first := [.ref a]) (h₀ := X.base) I.ok.mod.kin hg.kp (thn (ha.run pos pins s1 σ H1 (fun us H2 => ∃ S2 s2 l, Ws X.K G H2 S2 s2 ∧ Reps X.K G H2 S2 l us ∧ Rep X.K G H2 S2 d0 (.ref a) ∧ l.length + 1 = n ∧ Post X.K G W σ S2 H2 (d (d0 :: l) s2) fun S' H' d _ => ∀ v, Rep X.K G H' S' d v → Q v H') I1
      ⟨S1, env, st1, sm.later l1 w1, Post.imp (Post.bind q) fun S2 H2 l s2 l2 w2 q vs rvs => ?_⟩) fun us s2 ⟨vs, H2, I2, r, S2, st2, l, w2, rl, ra, hl, q2⟩ => ⟨I2.kIn, ?_⟩) hst hpl
    · split at q
      · rename_i hz
        exact ⟨S2, s2, l, w2, rvs, r0.mono l2, Nat.eq_of_beq_eq_true hz, q⟩
      · exact q.elim
    · exact run_fnS (us := .ref a :: us) (vs := .ref a :: vs) (E := WE W) F hr hb (L2N.passAt tk σ) I2 (.cons rfl r) ⟨S2, d0 :: l, st2, w2, .cons ra rl, by simp [hl], PostF.of q2⟩
/-- o.m() -/
theorem ed_meth0 {pl : Sem Bool} (M : MD X.prog X.w X.K X.mg X.base G k m ms) (he : ED X G W A o) (hr : Room k X.A) (tk : L2N.Takes X W)
    (ht : eval (.Call (.Attribute o m apos) [] [] pos) X.env = (do
      let ov ← eval o X.env
      standAt apos.atName
      let (f, first) ← holding [ov] (getMethod ov m pl)
      callWith pos f first (backTo pos (starEach [] X.env)) (backToKw pos (keywordEach [] X.env))) := by rfl) :
    ED X G W (dMeth ms A aNil) (.Call (.Attribute o m apos) [] [] pos) := by
  refine ⟨fun pins s σ H Q I ⟨S, env, st, sm, q⟩ => ?_⟩
  refine PySem.W.methodCall_KW (pl := pl) (thn (he.run pins s σ H (fun x H1 => ∃ S1 s1 d0, Lat H S H1 S1 ∧ Ws X.K G H1 S1 s1 ∧ Rep X.K G H1 S1 d0 x ∧ Post X.K G W σ S1 H1 (match (clsD s1 d0).bind ms with
    | some (n, d) => (aNil env s1).bind fun l s => if Nat.beq (l.length + 1) n then d (d0 :: l) s else .bad
    | none => .bad) fun S' H' d _ => ∀ v, Rep X.K G H' S' d v → Q v H') I ⟨S, env, st, sm, Post.imp (Post.bind q) fun S1 H1 x s1 l1 w1 q v rv => ⟨S1, s1, x, l1, w1, rv, q⟩⟩) fun u s1 ⟨x, H1, I1, rx, S1, st1, d0, l1, w1, r0, q⟩ => ?_) ht
  cases ec : (clsD st1 d0).bind ms with
  | none => rw [ec] at q; exact q.elim
  | some nd =>
    obtain ⟨n, d⟩ := nd
    rw [ec] at q
    obtain ⟨c, e1, e2⟩ := bind_at ec
    obtain ⟨hc, hnm, g, hg, fd, ps, F, hb⟩ := M c n d e2
    obtain ⟨a, dx, vs, ex, ea⟩ := clsD_at w1 r0 e1
    subst ex
    obtain rfl : u = Value.ref a := rx
    refine getmeth_ok I1 ea hc hg (lookup_zip_none hnm) ?_
    have q' : Post X.K G W σ S1 H1 (if Nat.beq (0 + 1) n then d [d0] st1 else .bad) fun S' H' d _ => ∀ v, Rep X.K G H' S' d v → Q v H' := q
    split at q'
    · rename_i hz
      exact PySem.W.callWith_K0 (first := [.ref a]) I1.kIn hg.kp (run_fnS (us := [.ref a]) (vs := [.ref a]) (E := WE W) F hr hb (L2N.passAt tk σ) I1 (.cons rfl .nil) ⟨S1, [d0], st1, w1, .cons r0 .nil, Nat.eq_of_beq_eq_true hz, PostF.of q'⟩)
    · exact q'.elim
end
end Wt

/-! Core 6: instances made, fields, lists changed by their methods and by place. -/
namespace Wt
open PySem PySem.Spec PyProof.Rows L2

/-! ### C() of a class without __init__ -/
section
variable {X : Cx} {C : Addr} {pins : List (Addr × Obj)} {σ : L2.St} {H : Hp} {s : Shared} {Q : VK}
structure Mk0 (K : PySem.W.Frag) (C : Addr) : Prop where
  makes : PySem.W.makesIn K C = true
  init : PySem.W.findIn K (.ref C) "__init__" = some (some (.builtin "object.__init__"))
  kp : PySem.W.keepIn K (.ref C) = true
theorem run_make0 (M : Mk0 X.K C) (I : Inv X pins σ H s) (h : ∀ x dx, H x = none → H dx = none → dx ≠ x → Q (.ref x) (upd (upd H dx (.own x)) x (.ins C dx []))) :
    wpAny (model X.prog X.w) X.A (call (.ref C) []) (EP X pins σ Q) X.xe s := by
  have hq := h (s.heap.objs.size + 1) s.heap.objs.size (I.hok.fresh (Nat.le_succ _)) (I.hok.fresh (Nat.le_refl _)) (Nat.ne_of_lt (Nat.lt_succ_self _))
  have I2 := Inv.made (C := C) I
  have z : EP X pins σ Q (.ref (s.heap.objs.size + 1)) { s with heap := (s.heap.push PySem.W.emptyDict).push (PySem.W.instObj C s.heap.objs.size) } := ⟨.ref (s.heap.objs.size + 1), _, I2, rfl, hq⟩
  have KX := I.kIn
  have e2 : ((s.heap.push PySem.W.emptyDict).push (PySem.W.instObj C s.heap.objs.size)).get? (s.heap.objs.size + 1) = some (PySem.W.instObj C s.heap.objs.size) := by
    have := Heap.get?_push_size (s.heap.push PySem.W.emptyDict) (o := PySem.W.instObj C s.heap.objs.size) rfl
    rwa [Heap.size_push] at this
  obtain ⟨hh, g, d, t, os⟩ := s
  dsimp only at e2 KX
  have Y := PySem.W.makes_of (M := model X.prog X.w) KX M.makes
  refine wpAny_call (PySem.W.make_core (R := fun r s' => match r with
    | .ok (.ret v) => EP X pins σ Q v s'
    | .ok _ => False
    | .error e => X.xe e s') Y (PySem.W.looks_findIn KX M.init) (fun self => PySem.W.Looks.of_pure (PySem.W.oi_bind self)) (.inr ⟨rfl, rfl⟩) ?_)
  have t1 : PySem.W.Looks (model X.prog X.w) ((hh.push PySem.W.emptyDict).push (PySem.W.instObj C hh.objs.size)) (typeOf (.ref (hh.objs.size + 1))) (.ref C) := (PySem.W.Looks.ld e2).andThen .now
  have t2 : PySem.W.Looks (model X.prog X.w) ((hh.push PySem.W.emptyDict).push (PySem.W.instObj C hh.objs.size)) (isInstance (.ref (hh.objs.size + 1)) (.type "object")) true := t1.andThen (Y.top.keeps fun b o e => Heap.get?_push_of_some _ (Heap.get?_push_of_some _ e))
  refine codeAny_call_builtin PySem.W.oi_plain PySem.W.entry_oi (@PySem.W.check_slot (model X.prog X.w) _ _ _ "object.__init__" "object" "__init__" (.ref (hh.objs.size + 1)) [] [] _ PySem.W.oi_kind PySem.W.oi_split t2 (PySem.W.oi_args (.ref (hh.objs.size + 1))) ?_)
  rw [PySem.W.oi_run]
  exact wpAny_pure (And.intro rfl z)
end
/-- two new objects, the instance and its own dict -/
theorem Lat.made {H : Hp} {S : Vw} {x dx : Addr} {o u : HO} (hx : H x = none) (hd : H dx = none) (hn : dx ≠ x) : Lat H S (upd (upd H dx o) x u) S := (Lat.new hd).trans (Lat.new (by rw [upd_ne hn.symm]; exact hx))
section
variable {X : Cx} {G : GT} {W : WX} {k n c : Nat} {f : Addr} {d : DenF} {x : Str} {p pos : Pos} {e : Expr} {es : List Expr} {As : DenL}
def dMk0 (c : Nat) : Den := fun _ st => .ok (.ins c []) st
theorem ed_make0 (M : Mk0 X.K (G c)) (hm : X.mg x = some (.ref (G c))) (hg : Gl X x := by rfl) (hdb : (x == ("__debug__" : Str)) = false := by decide) : ED X G W (dMk0 c) (.Call (.Name x p) [] [] pos) := by
  refine ⟨fun pins s σ H Q I ⟨S, env, st, m, q⟩ => ?_⟩
  refine wpAny_Call_Name_kw (ld_glob I hg hm ?_ hdb)
  refine PySem.W.callWith_K0 I.kIn M.kp (run_make0 M I fun y dy hy hd hn => ?_)
  have h1 : upd H dy (.own y) y = none := by rw [upd_ne hn.symm]; exact hy
  refine q (S.frz y) _ ((Lat.new hd).trans (Lat.newF h1)) ((m.ws.new hd).newF h1) _ ?_
  simp only [Rep]
  exact ⟨y, dy, [], rfl, .inr rfl, by rw [upd_same]; simp, .nil⟩

end

/-! ### no cell from n on -/
mutual
def D.cap (n : Nat) : D → Bool
  | .tup l => D.caps n l
  | .lst l => D.caps n l
  | .scr l => D.caps n l
  | .ins _ l => D.caps n l
  | .loc i => Nat.blt i n
  | _ => true
def D.caps (n : Nat) : List D → Bool
  | [] => true
  | x :: xs => x.cap n && D.caps n xs
end
section
variable {K : PySem.W.Frag} {G : GT} {H H' : Hp} {S S' : Vw} {n : Nat}
structure LatB (n : Nat) (H : Hp) (S : Vw) (H' : Hp) (S' : Vw) : Prop where
  fz : ∀ a o, S.F a → H a = some o → S'.F a ∧ H' a = some o
  tp : ∀ a xs, H a = some (.tup xs) → H' a = some (.tup xs)
  fr : ∀ a o u, H a = some (.frz o u) → H' a = some (.frz o u)
  ex : ∀ a p, H a = some (.ext p) → H' a = some (.ext p)
  ix : ∀ (i : Nat) (a : Addr), i < n → S.ρ[i]? = some a → S'.ρ[i]? = some a
theorem blt_of {i n : Nat} (h : Nat.blt i n = true) : i < n := by
  simpa [Nat.blt_eq] using h
mutual
theorem Rep.monoB (l : LatB n H S H' S') : ∀ {d : D} {v : V}, d.cap n = true → Rep K G H S d v → Rep K G H' S' d v
  | .non, _, _, h => by simpa [Rep] using h
  | .bl _, _, _, h => by simpa [Rep] using h
  | .int _, _, _, h => by simpa [Rep] using h
  | .str _, _, _, h => by simpa [Rep] using h
  | .tup ds, _, b, h => by
    simp only [Rep] at h ⊢
    simp only [D.cap] at b
    obtain ⟨a, vs, e, h1, h2⟩ := h
    exact ⟨a, vs, e, l.tp _ _ h1, Reps.monoB l b h2⟩
  | .lst ds, _, b, h => by
    simp only [Rep] at h ⊢
    simp only [D.cap] at b
    obtain ⟨a, vs, e, f, h1, h2⟩ := h
    obtain ⟨f', h1'⟩ := l.fz _ _ f h1
    exact ⟨a, vs, e, f', h1', Reps.monoB l b h2⟩
  | .scr ds, _, b, h => by
    simp only [Rep] at h ⊢
    simp only [D.cap] at b
    obtain ⟨a, vs, e, h1, h2⟩ := h
    refine ⟨a, vs, e, ?_, Reps.monoB l b h2⟩
    rcases h1 with ⟨o, h⟩ | h | h
    · exact .inl ⟨o, l.fr _ _ _ h⟩
    · exact .inr (.inl (l.fz _ _ h.1 h.2))
    · exact .inr (.inr h)
  | .ins c ds, _, b, h => by
    simp only [Rep] at h ⊢
    simp only [D.cap] at b
    obtain ⟨a, dx, vs, e, f, h1, h2⟩ := h
    obtain ⟨f', h1'⟩ := l.fz _ _ f h1
    exact ⟨a, dx, vs, e, f', h1', Reps.monoB l b h2⟩
  | .loc i, _, b, h => by
    simp only [Rep] at h ⊢
    simp only [D.cap] at b
    obtain ⟨a, e, h⟩ := h
    exact ⟨a, e, l.ix _ _ (blt_of b) h⟩
  | .cls _, _, _, h => by simpa [Rep] using h
  | .lam _, _, _, h => by
    simp only [Rep] at h ⊢
    obtain ⟨L, a, c', h0, h1, h2, h3⟩ := h
    exact ⟨L, a, c', h0, h1, l.ex _ _ h2, l.ex _ _ h3⟩
theorem Reps.monoB (l : LatB n H S H' S') : ∀ {ds : List D} {vs : List V}, D.caps n ds = true → Reps K G H S ds vs → Reps K G H' S' ds vs
  | [], _, _, h => by simpa [Reps] using h
  | d :: ds, _, b, h => by
    simp only [Reps] at h ⊢
    simp only [D.caps, Bool.and_eq_true] at b
    obtain ⟨v, ws, e, r, t⟩ := h
    exact ⟨v, ws, e, Rep.monoB l b.1 r, Reps.monoB l b.2 t⟩
end
mutual
theorem Rep.below : ∀ {d : D} {v : V}, Rep K G H S d v → d.cap S.ρ.length = true
  | .non, _, h => by simp [D.cap]
  | .bl _, _, h => by simp [D.cap]
  | .int _, _, h => by simp [D.cap]
  | .str _, _, h => by simp [D.cap]
  | .tup ds, _, h => by
    simp only [Rep] at h
    simp only [D.cap]
    obtain ⟨a, vs, e, h1, h2⟩ := h
    exact Reps.below h2
  | .lst ds, _, h => by
    simp only [Rep] at h
    simp only [D.cap]
    obtain ⟨a, vs, e, f, h1, h2⟩ := h
    exact Reps.below h2
  | .scr ds, _, h => by
    simp only [Rep] at h
    simp only [D.cap]
    obtain ⟨a, vs, e, h1, h2⟩ := h
    exact Reps.below h2
  | .ins c ds, _, h => by
    simp only [Rep] at h
    simp only [D.cap]
    obtain ⟨a, dx, vs, e, f, h1, h2⟩ := h
    exact Reps.below h2
  | .loc i, _, h => by
    simp only [Rep] at h
    simp only [D.cap, Nat.blt_eq]
    obtain ⟨a, e, h⟩ := h
    exact (List.getElem?_eq_some_iff.mp h).1
  | .cls _, _, h => by simp [D.cap]
  | .lam _, _, h => by simp [D.cap]
theorem Reps.below : ∀ {ds : List D} {vs : List V}, Reps K G H S ds vs → D.caps S.ρ.length ds = true
  | [], _, h => by simp [D.caps]
  | d :: ds, _, h => by
    simp only [Reps] at h
    simp only [D.caps, Bool.and_eq_true]
    obtain ⟨v, ws, e, r, t⟩ := h
    exact ⟨Rep.below r, Reps.below t⟩
end
end
/-! cells alike -/
def keyBeq : Key → Key → Bool
  | .inl a, .inl b => a == b
  | .inr a, .inr b => a == b
  | _, _ => false
theorem keyBeq_eq : ∀ {a b : Key}, keyBeq a b = true → a = b
  | .inl a, .inl b, h => by simp [keyBeq] at h; rw [h]
  | .inr a, .inr b, h => by simp [keyBeq] at h; rw [h]
  | .inl a, .inr b, h => by simp [keyBeq] at h
  | .inr a, .inl b, h => by simp [keyBeq] at h
theorem keyBeq_refl : ∀ a : Key, keyBeq a a = true
  | .inl _ => by simp [keyBeq]
  | .inr _ => by simp [keyBeq]
def keysBeq : List Key → List Key → Bool
  | [], [] => true
  | a :: r, b :: s => keyBeq a b && keysBeq r s
  | _, _ => false
theorem keysBeq_eq : ∀ {a b : List Key}, keysBeq a b = true → a = b
  | [], [], _ => rfl
  | a :: r, b :: s, h => by
    simp only [keysBeq, Bool.and_eq_true] at h
    rw [keyBeq_eq h.1, keysBeq_eq h.2]
  | [], _ :: _, h => by cases h
  | _ :: _, [], h => by cases h
theorem keysBeq_refl : ∀ a : List Key, keysBeq a a = true
  | [] => rfl
  | a :: r => by simp [keysBeq, keyBeq_refl a, keysBeq_refl r]
def kvBeq {κ : Type} (e : κ → κ → Bool) : List (κ × D) → List (κ × D) → Bool
  | [], [] => true
  | (k, d) :: r, (k', d') :: s => e k k' && d.beq d' && kvBeq e r s
  | _, _ => false
theorem kvBeq_eq {κ : Type} {e : κ → κ → Bool} (he : ∀ {a b}, e a b = true → a = b) : ∀ {a b : List (κ × D)}, kvBeq e a b = true → a = b
  | [], [], _ => rfl
  | (k, d) :: r, (k', d') :: s, h => by
    simp only [kvBeq, Bool.and_eq_true] at h
    rw [he h.1.1, D.beq_eq _ _ h.1.2, kvBeq_eq he h.2]
  | [], _ :: _, h => by cases h
  | _ :: _, [], h => by cases h
theorem kvBeq_refl {κ : Type} {e : κ → κ → Bool} (he : ∀ a, e a a = true) : ∀ a : List (κ × D), kvBeq e a a = true
  | [] => rfl
  | (k, d) :: r => by simp [kvBeq, he k, D.beq_refl d, kvBeq_refl he r]
def Cell.beq : Cell → Cell → Bool
  | .list a, .list b => D.beqs a b
  | .inst c a, .inst d b => c == d && D.beqs a b
  | .dK a, .dK b => kvBeq keyBeq a b
  | .dT a, .dT b => kvBeq keysBeq a b
  | .lT a, .lT b => kvBeq keysBeq a b
  | .dead, .dead => true
  | _, _ => false
theorem Cell.beq_refl (c : Cell) : c.beq c = true := by
  cases c <;> simp [Cell.beq, D.beqs_refl, kvBeq_refl keyBeq_refl, kvBeq_refl keysBeq_refl]
theorem Cell.beq_eq {c d : Cell} (h : c.beq d = true) : c = d := by
  cases c <;> cases d <;> simp [Cell.beq] at h
  · rw [D.beqs_eq _ _ h]
  · rw [h.1, D.beqs_eq _ _ h.2]
  · rw [kvBeq_eq keyBeq_eq h]
  · rw [kvBeq_eq keysBeq_eq h]
  · rw [kvBeq_eq keysBeq_eq h]
  · rfl
def stBeq : Sto → Sto → Bool
  | [], [] => true
  | a :: r, b :: s => a.beq b && stBeq r s
  | _, _ => false
theorem stBeq_eq : ∀ {a b : Sto}, stBeq a b = true → a = b
  | [], [], _ => rfl
  | a :: r, b :: s, h => by
    simp only [stBeq, Bool.and_eq_true] at h
    rw [Cell.beq_eq h.1, stBeq_eq h.2]
  | [], _ :: _, h => by cases h
  | _ :: _, [], h => by cases h
theorem stBeq_refl : ∀ a : Sto, stBeq a a = true
  | [] => rfl
  | a :: r => by simp [stBeq, Cell.beq_refl a, stBeq_refl r]

/-! ### what was made within is left behind; a list, an instance made within stays as it is -/
def frzD (n : Nat) (s : Sto) : D → Option D
  | .loc i => if Nat.blt i n then some (.loc i) else match s[i]? with
    | some (.list l) => if D.caps n l then some (.lst l) else none
    | some (.inst c l) => if D.caps n l then some (.ins c l) else none
    | _ => none
  | d => if d.cap n then some d else none
/-- the store st as it was, what was made within forgotten -/
def leave (st : Sto) (r : Rs D) : Rs D := match r with
  | .ok d s => match frzD st.length s d with
    | some d' => if stBeq (s.take st.length) st then .ok d' st else .bad
    | none => .bad
  | .exc c s => if stBeq (s.take st.length) st then .exc c st else .bad
  | .bad => .bad
section
variable {K : PySem.W.Frag} {G : GT} {H H' : Hp} {S S' : Vw} {st s : Sto}
def Vw.cut (S : Vw) (n : Nat) : Vw := { S with ρ := S.ρ.take n }
theorem ix_take {S : Vw} {n i : Nat} {a : Addr} (h : i < n) (e : S.ρ[i]? = some a) : (S.cut n).ρ[i]? = some a := by
  show (S.ρ.take n)[i]? = some a
  rw [List.getElem?_take, if_pos h]
  exact e
theorem of_take {S : Vw} {n i : Nat} {a : Addr} (e : (S.cut n).ρ[i]? = some a) : i < n ∧ S.ρ[i]? = some a := by
  have e' : (S.ρ.take n)[i]? = some a := e
  rw [List.getElem?_take] at e'
  split at e'
  · rename_i h
    exact ⟨h, e'⟩
  · cases e'
theorem LatB.cut {n : Nat} : LatB n H S H (S.cut n) := ⟨fun _ _ f h => ⟨f, h⟩, fun _ _ h => h, fun _ _ _ h => h, fun _ _ h => h, fun i a h e => ix_take h e⟩
theorem Lat.cut (w : Ws K G H S st) (l : Lat H S H' S') : Lat H S H' (S'.cut st.length) := { fz := l.fz, pp := l.pp, tp := l.tp, fr := l.fr, ex := l.ex, pr := (by
    obtain ⟨t, e⟩ := l.pr
    refine ⟨[], ?_⟩
    show S.ρ ++ [] = S'.ρ.take st.length
    rw [List.append_nil, ← e, ← w.len, List.take_left' rfl]) }
theorem KRep.monoB {κ : Type} {n : Nat} {ds : List (κ × D)} {vs : List (κ × V)} (l : LatB n H S H' S') : KRep K G H S ds vs → (∀ p ∈ ds, p.2.cap n = true) → KRep K G H' S' ds vs
  | .nil, _ => .nil
  | .cons r t, b => .cons ⟨r.1, r.2.monoB l (b _ (List.mem_cons_self ..))⟩ (KRep.monoB l t fun p hp => b p (List.mem_cons_of_mem _ hp))
theorem KRep.below {κ : Type} : ∀ {ds : List (κ × D)} {vs : List (κ × V)}, KRep K G H S ds vs → ∀ p ∈ ds, p.2.cap S.ρ.length = true
  | _, _, .nil, p, hp => by cases hp
  | _, _, .cons r t, p, hp => by
    rcases List.mem_cons.mp hp with e | hp
    · rw [e]
      exact r.2.below
    · exact KRep.below t p hp
/-- the cells of the entry are as they were -/
theorem Ws.cut (w0 : Ws K G H S st) (l : Lat H S H' S') (w : Ws K G H' S' s) (e : s.take st.length = st) : Ws K G H' (S'.cut st.length) st where
  len := by
    show (S'.ρ.take st.length).length = st.length
    rw [List.length_take, w.len]
    have := congrArg List.length e
    rw [List.length_take] at this
    exact this
  nd := by
    show (S'.ρ.take st.length).Nodup
    exact (List.take_sublist _ _).nodup w.nd
  rl := fun i a h => w.rl i a (of_take h).2
  nf := fun i a c h1 h2 h3 => by
    obtain ⟨hi, h1⟩ := of_take h1
    refine w.nf i a c h1 ?_ h3
    rw [← e, List.getElem?_take, if_pos hi] at h2
    exact h2
  np := fun i a h => w.np i a (of_take h).2
  dj := w.dj
  pf := w.pf
  cr := fun i a c h1 h2 => by
    obtain ⟨hi, h1⟩ := of_take h1
    have hc := h2
    rw [← e, List.getElem?_take, if_pos hi] at hc
    have r1 := w.cr i a c h1 hc
    obtain ⟨b, hb, r0⟩ := w0.cell h2
    have lb : LatB st.length H' S' H' (S'.cut st.length) := .cut
    have eL : S.ρ.length = st.length := w0.len
    cases c with
    | list ds =>
      obtain ⟨vs, h3, h4⟩ := r1
      obtain ⟨_, _, h5⟩ := r0
      exact ⟨vs, h3, h4.monoB lb (eL ▸ h5.below)⟩
    | inst c fs =>
      obtain ⟨dx, vs, h3, h4, h6⟩ := r1
      obtain ⟨_, _, _, h5, _⟩ := r0
      exact ⟨dx, vs, h3, h4.monoB lb (eL ▸ h5.below), h6⟩
    | dK kvs =>
      obtain ⟨us, h3, h4⟩ := r1
      obtain ⟨_, _, h5⟩ := r0
      exact ⟨us, h3, h4.monoB lb (eL ▸ h5.below)⟩
    | dT kvs =>
      obtain ⟨us, h3, h4⟩ := r1
      obtain ⟨_, _, h5⟩ := r0
      exact ⟨us, h3, h4.monoB lb (eL ▸ h5.below)⟩
    | lT kvs =>
      obtain ⟨us, o, h3, h4⟩ := r1
      obtain ⟨_, _, _, h5⟩ := r0
      exact ⟨us, o, h3, h4.monoB lb (eL ▸ h5.below)⟩
    | dead => trivial
  fr := w.fr
  tb := fun q hq => (w.tb q hq).step (fun _ e => e) (fun _ _ e => e) id id fun z => List.mem_of_mem_take z
  cp := w.cp.monoB LatB.cut (w0.len ▸ w0.cp.below)
/-- a cell made within stays as it is from now on -/
theorem Ws.frzC {i : Nat} {a : Addr} {n : Nat} (w : Ws K G H (S.cut n) st) (w' : Ws K G H S s) (ha : S.ρ[i]? = some a) (hi : n ≤ i) : Ws K G H ((S.cut n).frz a) st where
  len := w.len
  nd := w.nd
  rl := w.rl
  nf := fun j b c h1 h2 h3 f => by
    rcases f with f | f
    · exact w.nf j b c h1 h2 h3 f
    · have h1' : (S.cut n).ρ[j]? = some b := h1
      obtain ⟨hj, h1b⟩ := of_take (S := S) (n := n) h1'
      subst f
      have q1 := List.getElem?_eq_some_iff.mp h1b
      have q2 := List.getElem?_eq_some_iff.mp ha
      have := (List.getElem_inj (h₀ := q1.1) (h₁ := q2.1) w'.nd).mp (q1.2.trans q2.2.symm)
      omega
  np := w.np
  dj := fun b f p => by
    rcases f with f | f
    · exact w.dj b f p
    · exact w'.np i a ha (f ▸ p)
  pf := w.pf
  cr := fun j b c h1 h2 => (w.cr j b c h1 h2).monoR (S' := (S.cut n).frz a) (H' := H) ⟨fun _ _ f h => ⟨.inl f, h⟩, fun _ _ h => h, fun _ _ _ h => h, fun _ _ h => h, List.prefix_rfl⟩ fun _ e => e
  fr := fun b f => by
    rcases f with f | f
    · exact w.fr b f
    · obtain ⟨o, e⟩ := w'.rl i a ha
      exact ⟨o, f ▸ e⟩
  tb := fun q hq => (w.tb q hq).step (fun _ e => e) (fun _ _ e => e) (fun z => z.elim id fun z => absurd (z ▸ List.mem_of_getElem? ha) (w'.tb q hq).1.2.2) id id
  cp := w.cp.monoR (H' := H) (S' := (S.cut n).frz a) ⟨fun _ _ f h => ⟨.inl f, h⟩, fun _ _ h => h, fun _ _ _ h => h, fun _ _ h => h, List.prefix_rfl⟩
theorem LatR.frz {a : Addr} : LatR H S H (S.frz a) := ⟨fun _ _ f h => ⟨.inl f, h⟩, fun _ _ h => h, fun _ _ _ h => h, fun _ _ h => h, List.prefix_rfl⟩
theorem Lat.frzC {a : Addr} (l : Lat H S H' S') : Lat H S H' (S'.frz a) := { fz := fun x o f h => ⟨.inl (l.fz x o f h).1, (l.fz x o f h).2⟩, pp := l.pp, tp := l.tp, fr := l.fr, ex := l.ex, pr := l.pr }
/-- THE RULE of leaving -/
theorem leave_post {Q : VK} {E : XK} {r : Rs D} (w0 : Ws K G H S st) (q : PostF K G S H (leave st r) Q E) : PostF K G S H r Q E := by
  cases r with
  | bad => exact q
  | exc c s =>
    intro S' H' l w
    unfold leave at q
    dsimp only at q
    split at q
    · rename_i e
      exact q _ H' (.cut w0 l) (w0.cut l w (stBeq_eq e))
    · exact q.elim
  | ok d s =>
    intro S' H' v l w rv
    unfold leave at q
    dsimp only at q
    cases ef : frzD st.length s d with
    | none => rw [ef] at q; exact q.elim
    | some d' =>
      rw [ef] at q
      dsimp only at q
      split at q
      · rename_i e
        have w1 := w0.cut l w (stBeq_eq e)
        have l1 := Lat.cut w0 l
        have plain : d.cap st.length = true → d' = d → Q v H' := fun hb ed => q _ H' v l1 w1 (by rw [ed]; exact rv.monoB .cut hb)
        cases d with
        | loc i =>
          unfold frzD at ef
          dsimp only at ef
          split at ef
          · rename_i hb
            exact plain hb (Option.some.inj ef).symm
          · rename_i hb
            have hi : st.length ≤ i := by
              rcases Nat.lt_or_ge i st.length with h | h
              · exact absurd (by rw [Nat.blt_eq]; exact h) hb
              · exact h
            simp only [Rep] at rv
            obtain ⟨a, rfl, ha⟩ := rv
            split at ef
            · rename_i l' hl
              split at ef
              · rename_i hb'
                obtain ⟨vs, h1, h2⟩ := w.cr i a _ ha hl
                rw [← Option.some.inj ef] at q
                refine q _ H' _ l1.frzC (w1.frzC w ha hi) ?_
                simp only [Rep]
                exact ⟨a, vs, rfl, .inr rfl, h1, (h2.monoB (S' := S'.cut st.length) .cut hb').monoR LatR.frz⟩
              · cases ef
            · rename_i c l' hl
              split at ef
              · rename_i hb'
                obtain ⟨dx, vs, h1, h2, _⟩ := w.cr i a _ ha hl
                rw [← Option.some.inj ef] at q
                refine q _ H' _ l1.frzC (w1.frzC w ha hi) ?_
                simp only [Rep]
                exact ⟨a, dx, vs, rfl, .inr rfl, h1, (h2.monoB (S' := S'.cut st.length) .cut hb').monoR LatR.frz⟩
              · cases ef
            · cases ef
        | _ =>
          unfold frzD at ef
          dsimp only at ef
          split at ef
          · rename_i hb
            exact plain hb (Option.some.inj ef).symm
          · cases ef
      · exact q.elim
end
/-- a def whose own cells are left behind -/
def pureF (f : DenF) : DenF := fun ds st => leave st (f ds st)
theorem FD.pure {P : Program} {w : World} {K : PySem.W.Frag} {mg : Str → Option Value} {base : Heap} {G : GT} {k : Nat} {f : Addr} {n : Nat} {d : DenF} (F : FD P w K mg base G k f n d) : FD P w K mg base G k f n (pureF d) :=
  F.imp fun _ _ _ _ _ _ w q => leave_post w q
/-- an expression whose own cells are left behind -/
def dPure (A : Den) : Den := fun env st => leave st (A env st)
theorem ed_pure {X : Cx} {G : GT} {W : WX} {A : Den} {e : Expr} (h : ED X G W A e) : ED X G W (dPure A) e := PE.imp h fun σ H Q ⟨S, env, st, m, q⟩ => ⟨S, env, st, m, by
  have z := leave_post (Q := Q) (E := fun c d H => W c d σ H) m.ws (r := A env st) (by
    unfold dPure at q
    cases e : leave st (A env st) with
    | ok d s => rw [e] at q; exact fun S' H' v l w r => q S' H' l w v r
    | exc c s => rw [e] at q; exact q
    | bad => rw [e] at q; exact q)
  cases e : A env st with
  | ok d s => rw [e] at z; exact fun S' H' l w v r => z S' H' v l w r
  | exc c s => rw [e] at z; exact z
  | bad => rw [e] at z; exact z⟩
end Wt

/-! Core 7: instances made by __init__, fields, lists changed by their methods and by place. -/
namespace Wt
open PySem PySem.Spec PyProof.Rows L2
section
variable {X : Cx} {CX : CXT} {k : Nat} {f C : Addr} {fd : FuncData} {ps : List Str} {sp : Sp} {E : L2.St → XK}
theorem run_makeS {pins : List (Addr × Obj)} {σ : L2.St} {H : Hp} {s : Shared} {Q : VK} {us : List Value} {vs : List V} (M : Mk X.K C f) (F : FnOk X.prog X.w X.K X.mg X.base CX k f fd ps sp) (hr : Room (k + 1) X.A) (hb : Binds X.K fd ps [])
    (hx : PassesAt CX X σ (E σ)) (I : Inv X pins σ H s) (r : Vals vs us)
    (h : ∀ x dx, H x = none → H dx = none → dx ≠ x → sp (.ref x :: vs) (upd (upd H dx (.own x)) x (.ins C dx [])) (fun v H2 => v = .non ∧ Q (.ref x) H2) (E σ)) :
    wpAny (model X.prog X.w) X.A (call (.ref C) us) (EP X pins σ Q) X.xe s := by
  have hq := h (s.heap.objs.size + 1) s.heap.objs.size (I.hok.fresh (Nat.le_succ _)) (I.hok.fresh (Nat.le_refl _)) (Nat.ne_of_lt (Nat.lt_succ_self _))
  have I2 := Inv.made (C := C) I
  have r2 : Vals (V.ref (s.heap.objs.size + 1) :: vs) (Value.ref (s.heap.objs.size + 1) :: us) := .cons rfl r
  have hl : (Value.ref (s.heap.objs.size + 1) :: us ++ []).length = ps.length := by
    have e := r2.length
    rw [F.len _ _ _ _ hq] at e
    rw [List.append_nil]
    exact e.symm
  have b := hb _ (Value.ref (s.heap.objs.size + 1) :: us) I2.kIn hl
  rw [List.append_nil] at b
  refine wpAny_call (make_map (f := f) I.kIn M.makes M.init (beq_iff_eq.mp M.fn) (codeAny_mono (F.run _ X.stack _ _ ⟨Value.ref (s.heap.objs.size + 1) :: us, []⟩ (Value.ref (s.heap.objs.size + 1) :: us) _ _ (E σ) (hr.make C us [])
    (I2.env0.make C us []) b r2 hq) fun r s' hq' => ?_))
  cases r with
  | error e => exact hx pins _ _ e s' I2 hq'
  | ok fl =>
    cases fl with
    | ret u =>
      obtain ⟨v, H', I3, rv, ev, q3⟩ := I2.after hq'
      subst ev
      exact ⟨rv, ⟨V.ref (s.heap.objs.size + 1), H', I3, rfl, q3⟩⟩
    | next => exact False.elim hq'
    | brk => exact False.elim hq'
    | cont => exact False.elim hq'
end
def dMk (c n : Nat) (d : DenF) (As : DenL) : Den := fun env st => (As env st).bind fun l s => if Nat.beq (l.length + 1) n then match d (.loc s.length :: l) (s ++ [.inst c []]) with
  | .ok .non s' => .ok (.loc s.length) s'
  | .exc c s' => .exc c s'
  | _ => .bad else .bad
section
variable {X : Cx} {G : GT} {W : WX} {k n c : Nat} {f : Addr} {d : DenF} {x : Str} {p pos : Pos} {e : Expr} {es : List Expr} {As : DenL}
theorem ed_make (M : Mk X.K (G c) f) (F : FD X.prog X.w X.K X.mg X.base G k f n d) (hr : Room (k + 1) X.A) (hm : X.mg x = some (.ref (G c))) (tk : L2N.Takes X W) (ha : EA X G W As (e :: es)) (hg : Gl X x := by rfl) (hdb : (x == ("__debug__" : Str)) = false := by decide)
    (he : starEach (e :: es) X.env = (false, eval e X.env) :: starEach es X.env := by rfl) (hpl : (backTo pos (starEach es X.env)).any (·.1) = false := by rfl) :
    ED X G W (dMk c n d As) (.Call (.Name x p) (e :: es) [] pos) := by
  obtain ⟨fd, ps, F, hb⟩ := F
  refine ⟨fun pins s σ H Q I ⟨S, env, st, m, q⟩ => ?_⟩
  refine wpAny_Call_Name_kw (ld_glob I hg hm ?_ hdb)
  refine PySem.W.callWith_K (h₀ := X.base) I.ok.mod.kin M.kp (thn (ha.run pos pins s σ H (fun vs H1 => ∀ x dx, H1 x = none → H1 dx = none → dx ≠ x → spD X.K G n d (.ref x :: vs) (upd (upd H1 dx (.own x)) x (.ins (G c) dx [])) (fun v H2 => v = .non ∧ Q (.ref x) H2) (WE W σ)) I
    ⟨S, env, st, m, Post.imp (Post.bind q) fun S1 H1 l s1 l1 w1 q vs rvs x dx hx hd hn => ?_⟩) fun us s1 ⟨vs, H1, I1, r, q⟩ => ⟨I1.kIn, ?_⟩) he hpl
  · split at q
    · rename_i hz
      have hx' : upd H1 dx (.own x) x = none := by rw [upd_ne hn.symm]; exact hx
      have lat := (Lat.new (S := S1) (o := HO.own x) hd).trans (Lat.newC (o := HO.ins (G c) dx []) hx')
      refine ⟨S1.add x, .loc s1.length :: l, s1 ++ [.inst c []], (w1.new hd).newC (c := .inst c []) hx' ⟨dx, [], by rw [upd_same]; simp, .nil, by simp⟩, .cons ?_ (rvs.mono lat), Nat.eq_of_beq_eq_true hz, ?_⟩
      · simp only [Rep]
        exact ⟨x, rfl, Vw.add_ix w1⟩
      · cases ed : d (.loc s1.length :: l) (s1 ++ [.inst c []]) with
        | bad => rw [ed] at q; exact q.elim
        | exc c' s' => rw [ed] at q; exact fun S' H' l' w' => q S' H' (lat.trans l') w'
        | ok r s' =>
          rw [ed] at q
          cases r with
          | non =>
            refine fun S' H' v l' w' rv => ⟨rep_non rv, q S' H' (lat.trans l') w' _ ?_⟩
            simp only [Rep]
            exact ⟨x, rfl, l'.toLatR.ix (Vw.add_ix w1)⟩
          | _ => exact q.elim
    · exact q.elim
  · exact run_makeS (E := WE W) M F hr hb (L2N.passAt tk σ) I1 r q
end

/-- what may be written -/
def isMv : HO → Bool
  | .tup _ => false
  | .frz _ _ => false
  | _ => true
theorem nt_of {H : Hp} {a : Addr} {o : HO} (h : H a = some o) (p : isMv o = true) : (∀ xs, H a ≠ some (.tup xs)) ∧ ∀ o u, H a ≠ some (.frz o u) := by
  constructor
  · intro xs q
    rw [h] at q
    rw [Option.some.inj q] at p
    cases p
  · intro u v q
    rw [h] at q
    rw [Option.some.inj q] at p
    cases p

/-! ### fields -/
def ixOf (f : Str) : List Str → Option Nat
  | [] => none
  | g :: r => if f = g then some 0 else (ixOf f r).map (· + 1)
theorem ixOf_lookup {f : Str} : ∀ {ns : List Str} {vs : List V} {i : Nat} {v : V}, ixOf f ns = some i → vs[i]? = some v → (ns.zip vs).lookup f = some v
  | [], _, _, _, h, _ => by cases h
  | g :: r, [], _, _, _, e => by simp at e
  | g :: r, u :: us, i, v, h, e => by
    unfold ixOf at h
    rw [List.zip_cons_cons, List.lookup_cons]
    split at h
    · rename_i hf
      subst hf
      have hi : 0 = i := Option.some.inj h
      subst hi
      simp at e
      simp [e]
    · rename_i hf
      rw [show (f == g) = false by simpa using hf]
      cases e2 : ixOf f r with
      | none => rw [e2] at h; cases h
      | some j =>
        rw [e2] at h
        have hi : j + 1 = i := by simpa using h
        subst hi
        exact ixOf_lookup e2 (by simpa using e)
theorem ixOf_put {f : Str} {y : V} : ∀ {ns : List Str} {vs : List V} {i : Nat}, ixOf f ns = some i → i ≤ vs.length → putF f y (ns.zip vs) = ns.zip (if i < vs.length then vs.set i y else vs ++ [y])
  | [], _, _, h, _ => by cases h
  | g :: r, [], i, h, hl => by
    have hi : i = 0 := by simpa using hl
    subst hi
    unfold ixOf at h
    split at h
    · rename_i hf
      subst hf
      simp [putF]
    · cases e2 : ixOf f r with
      | none => rw [e2] at h; cases h
      | some j => rw [e2] at h; simp at h
  | g :: r, u :: us, i, h, hl => by
    unfold ixOf at h
    rw [List.zip_cons_cons]
    unfold putF
    split at h
    · rename_i hf
      have hi : 0 = i := Option.some.inj h
      subst hi
      rw [if_pos hf.symm]
      simp
    · rename_i hf
      rw [if_neg (fun q => hf q.symm)]
      cases e2 : ixOf f r with
      | none => rw [e2] at h; cases h
      | some j =>
        rw [e2] at h
        have hi : j + 1 = i := by simpa using h
        subst hi
        rw [ixOf_put e2 (by simpa using hl)]
        by_cases hj : j < us.length
        · rw [if_pos hj, if_pos (by simpa using hj)]
          simp
        · rw [if_neg hj, if_neg (by simpa using hj)]
          simp
theorem ixOf_get {f : Str} : ∀ {ns : List Str} {i : Nat}, ixOf f ns = some i → i < ns.length ∧ f ∈ ns
  | [], _, h => by cases h
  | g :: r, i, h => by
    unfold ixOf at h
    split at h
    · rename_i hf
      have hi : 0 = i := Option.some.inj h
      subst hi
      exact ⟨by simp, by simp [hf]⟩
    · cases e2 : ixOf f r with
      | none => rw [e2] at h; cases h
      | some j =>
        rw [e2] at h
        have hi : j + 1 = i := by simpa using h
        subst hi
        obtain ⟨h1, h2⟩ := ixOf_get e2
        exact ⟨by simpa using h1, List.mem_cons_of_mem _ h2⟩
/-- an instance's class and values -/
def insD (st : Sto) : D → Option (Nat × List D)
  | .ins c fs => some (c, fs)
  | .loc i => match st[i]? with
    | some (.inst c fs) => some (c, fs)
    | _ => none
  | _ => none
/-- the classes with the field f are plain -/
def FldOk (K : PySem.W.Frag) (G : GT) (f : Str) : Prop := ∀ c, f ∈ nms c → Cls K (G c) ∧ NoAttr K (G c) f
def dFld (f : Str) (A : Den) : Den := fun env st => (A env st).bind fun d s => match insD s d with
  | some (c, fs) => match (ixOf f (nms c)).bind fun i => fs[i]? with
    | some x => .ok x s
    | none => .bad
  | none => .bad
theorem insD_at {K : PySem.W.Frag} {G : GT} {H : Hp} {S : Vw} {st : Sto} {d : D} {v : V} {c : Nat} {fs : List D} (w : Ws K G H S st) (r : Rep K G H S d v) (e : insD st d = some (c, fs)) :
    ∃ a dx vs, v = .ref a ∧ H a = some (.ins (G c) dx ((nms c).zip vs)) ∧ Reps K G H S fs vs := by
  cases d <;> simp [insD] at e
  · obtain ⟨rfl, rfl⟩ := e
    simp only [Rep] at r
    obtain ⟨a, dx, vs, e, _, h, h2⟩ := r
    exact ⟨a, dx, vs, e, h, h2⟩
  · rename_i i
    simp only [Rep] at r
    obtain ⟨a, ev, hi⟩ := r
    split at e
    · rename_i c' fs' hl
      simp at e
      obtain ⟨rfl, rfl⟩ := e
      obtain ⟨dx, vs, h1, h2, _⟩ := w.cr i a _ hi hl
      exact ⟨a, dx, vs, ev, h1, h2⟩
    · cases e
/-- o.f = value: the value first -/
def sFldD (f : Str) (A B : Den) : DenS := fun env st => (B env st).then env fun y s => (A env s).then env fun d s => match d with
  | .loc i => match s[i]? with
    | some (.inst c fs) => match ixOf f (nms c) with
      | some j => if Nat.blt j fs.length then .nx env (s.set i (.inst c (fs.set j y))) else if Nat.beq j fs.length then .nx env (s.set i (.inst c (fs ++ [y]))) else .bad
      | none => .bad
    | _ => .bad
  | _ => .bad
section
variable {X : Cx} {G : GT} {W : WX} {f : Str} {pos pos' : Pos} {e o value : Expr} {A B : Den}
theorem ed_fld (ok : FldOk X.K G f) (h : ED X G W A e) (hb : attributeBase e f X.env (eval e X.env) = eval e X.env := by rfl) : ED X G W (dFld f A) (.Attribute e f pos) :=
  PE.imp (pe_fld h hb) fun σ H Q ⟨S, env, st, m, q⟩ => ⟨S, env, st, m, Post.imp (Post.bind q) fun S1 H1 d s1 l1 w1 q v rv => by
    cases e1 : insD s1 d with
    | none => rw [e1] at q; exact q.elim
    | some cf =>
      obtain ⟨c, fs⟩ := cf
      rw [e1] at q
      dsimp only at q
      cases e2 : (ixOf f (nms c)).bind fun i => fs[i]? with
      | none => rw [e2] at q; exact q.elim
      | some y =>
        rw [e2] at q
        obtain ⟨a, dx, vs, rfl, h1, h2⟩ := insD_at w1 rv e1
        obtain ⟨i, e3, e4⟩ := bind_at e2
        obtain ⟨u, hu, ru⟩ := h2.get e4
        obtain ⟨h3, h4⟩ := ok c (ixOf_get e3).2
        exact ⟨a, G c, dx, _, u, rfl, h1, h3, h4, ixOf_lookup e3 hu, Post.ok q w1 _ ru⟩⟩
theorem es_fld (ok : FldOk X.K G f) (ha : ED X G W A o) (hv : ED X G W B value) (hs : swapsWith value (some (.Attribute o f pos')) pos.line X.env = pure false := by rfl) : ES X G W (sFldD f A B) (.Assign [.Attribute o f pos'] value pos) :=
  PS.imp (ps_fld ha hv hs) fun E σ H ⟨S, env, st, m, q⟩ => ⟨S, env, st, m, Post.imp (Post.then m.er q) fun S1 H1 y s1 l1 w1 q v rv => ⟨S1, env, s1, m.later l1 w1, Post.imp (Post.then (m.er.mono l1) q) fun S2 H2 d s2 l2 w2 q u ru => by
    split at q
    · rename_i i
      split at q
      · rename_i c fs hi
        split at q
        · rename_i j hj
          simp only [Rep] at ru
          obtain ⟨a, rfl, ha⟩ := ru
          obtain ⟨dx, vs, h1, h2, h3⟩ := w2.cr i a _ ha hi
          obtain ⟨h4, h5⟩ := ok c (ixOf_get hj).2
          have hlen : ((nms c).zip vs).length < 1000 := by
            have : (nms c).length ≤ 5 := by
              unfold nms
              split <;> simp
            rw [List.length_zip]
            omega
          refine ⟨a, G c, dx, _, rfl, h1, h4, h5, hlen, ?_⟩
          have nt := nt_of h1 rfl
          have ry := rv.mono l2
          have fin : ∀ (fs' : List D) (vs' : List V), putF f v ((nms c).zip vs) = (nms c).zip vs' → Reps X.K G H2 S2 fs' vs' → vs'.length ≤ (nms c).length → PostS X.K G W S2 H2 (.nx env (s2.set i (.inst c fs'))) E → E.nx σ (upd H2 a (.ins (G c) dx (putF f v ((nms c).zip vs)))) := by
            intro fs' vs' e1 r1 hl q
            have lt := (w2.write (o := .ins (G c) dx ((nms c).zip vs')) (c' := .dead) hi ha (by intro z; cases z) nt trivial).1
            obtain ⟨_, w3⟩ := w2.write (o := .ins (G c) dx ((nms c).zip vs')) (c' := .inst c fs') hi ha (by intro z; cases z) nt ⟨dx, vs', upd_same, r1.mono lt, hl⟩
            rw [e1]
            exact q _ _ σ lt ⟨w3, ((m.er.mono l1).mono l2).mono lt⟩
          split at q
          · rename_i hz
            have hz' := blt_of hz
            have hz2 := hz'
            rw [h2.length] at hz2
            refine fin (fs.set j y) (vs.set j v) ?_ (h2.set ry j) (by rw [List.length_set]; exact h3) q
            rw [ixOf_put hj (Nat.le_of_lt hz2), if_pos hz2]
          · rename_i hz
            split at q
            · rename_i hz1
              have hz' := Nat.eq_of_beq_eq_true hz1
              have hz2 := hz'
              rw [h2.length] at hz2
              refine fin (fs ++ [y]) (vs ++ [v]) ?_ (h2.append (.cons ry .nil)) ?_ q
              · rw [ixOf_put hj (Nat.le_of_eq hz2), if_neg (by omega)]
              · have := (ixOf_get hj).1
                rw [List.length_append, List.length_singleton]
                omega
            · exact q.elim
        · exact q.elim
      · exact q.elim
    · exact q.elim⟩⟩
end

/-! ### a list's methods -/
abbrev LmF := Sto → List D → List D → Option (D × List D)
/-- l.m(..): the list is a cell -/
def dLm (f : LmF) (A : Den) (As : DenL) : Den := fun env st => (A env st).bind fun d s => match d with
  | .loc i => match s[i]? with
    | some (.list _) => (As env s).bind fun args s => match s[i]? with
      | some (.list l) => match f s l args with
        | some (r, l') => .ok r (s.set i (.list l'))
        | none => .bad
      | _ => .bad
    | _ => .bad
  | _ => .bad
def LmC (K : PySem.W.Frag) (G : GT) (r : V → List V → Hp → VK → Prop) (f : LmF) : Prop := ∀ (S : Vw) (H : Hp) (st : Sto) (a : Addr) (l args l' : List D) (vs us : List V) (d : D) (Q : VK), Ws K G H S st → H a = some (.lst vs) → Reps K G H S l vs → Reps K G H S args us →
  f st l args = some (d, l') → (∀ ws v, Reps K G H S l' ws → Rep K G H S d v → Q v (upd H a (.lst ws))) → r (.ref a) us H Q
section
variable {X : Cx} {G : GT} {W : WX} {pos apos cpos : Pos} {e o : Expr} {es : List Expr} {A : Den} {As : DenL} {r : V → List V → Hp → VK → Prop} {f : LmF} {id : String} {name : Str}
theorem lm_end {K : PySem.W.Frag} {H : Hp} {S : Vw} {σ : L2.St} {s : Sto} {i : Nat} {a : Addr} {l args : List D} {us : List V} {Q : VK} (hr : LmC K G r f) (w : Ws K G H S s) (hi : s[i]? = some (.list l)) (ha : S.ρ[i]? = some a) (ra : Reps K G H S args us)
    (q : Post K G W σ S H (match f s l args with
        | some (r, l') => Rs.ok r (s.set i (.list l'))
        | none => .bad) fun S' H' d _ => ∀ v, Rep K G H' S' d v → Q v H') : r (.ref a) us H Q := by
  obtain ⟨vs, h1, h2⟩ := w.cr i a _ ha hi
  cases ef : f s l args with
  | none => rw [ef] at q; exact q.elim
  | some dl =>
    obtain ⟨d, l'⟩ := dl
    rw [ef] at q
    have nt := nt_of h1 rfl
    refine hr S H s a l args l' vs us d Q w h1 h2 ra ef fun ws v rw_ rv => ?_
    have lt := (w.write (o := .lst ws) (c' := .dead) hi ha (by intro z; cases z) nt trivial).1
    obtain ⟨_, w3⟩ := w.write (o := .lst ws) (c' := .list l') hi ha (by intro z; cases z) nt ⟨ws, upd_same, rw_.mono lt⟩
    exact q S _ lt w3 v (rv.mono lt)
theorem ed_lm (hr : LmC X.K G r f) (slot : Slot "list" name id) (hty : typeOf (.builtin id) = pure (.type "method_descriptor")) (hm : MtR X id r) (ho : ED X G W A o) (ha : EA X G W As (e :: es))
    (hbase : attributeBase o name X.env (eval o X.env) = eval o X.env := by rfl)
    (hfew : ((backTo cpos (starEach (e :: es) X.env)).all (fun x => !x.1) && (backToKw cpos (keywordEach [] X.env)).all (fun x => x.1.isSome)
      && decide ((e :: es).length + ([] : List Keyword).length + (if ([] : List Keyword).isEmpty then 0 else 1) < 30)) = true := by rfl)
    (hline : (apos.endLine == cpos.line) = true := by rfl) (hs : starEach (e :: es) X.env = (false, eval e X.env) :: starEach es X.env := by rfl) (hplain : (backTo cpos (starEach es X.env)).any (·.1) = false := by rfl) :
    ED X G W (dLm f A As) (.Call (.Attribute o name apos) (e :: es) [] cpos) :=
  PE.imp (pe_bm PySem.F.plainAttrs_list slot hty hm ho ha hbase hfew hline hs hplain) fun σ H Q ⟨S, env, st, m, q⟩ => ⟨S, env, st, m, Post.imp (Post.bind q) fun S1 H1 d s1 l1 w1 q v rv => by
    split at q
    · rename_i i
      split at q
      · rename_i l0 h0
        simp only [Rep] at rv
        obtain ⟨a, rfl, ha⟩ := rv
        obtain ⟨vs0, h1, _⟩ := w1.cr i a _ ha h0
        refine ⟨.inl ⟨rfl, vs0, SqL.of h1⟩, S1, env, s1, m.later l1 w1, Post.imp (Post.bind q) fun S2 H2 args s2 l2 w2 q us rus => ?_⟩
        split at q
        · rename_i l hl
          exact lm_end (W := W) (σ := σ) hr w2 hl (l2.toLatR.ix ha) rus q
        · exact q.elim
      · exact q.elim
    · exact q.elim⟩
theorem ed_lm0 (hr : LmC X.K G r f) (slot : Slot "list" name id) (hty : typeOf (.builtin id) = pure (.type "method_descriptor")) (hm : MtR X id r) (ho : ED X G W A o)
    (hbase : attributeBase o name X.env (eval o X.env) = eval o X.env := by rfl) (hline : (apos.endLine == cpos.line) = true := by rfl) :
    ED X G W (dLm f A aNil) (.Call (.Attribute o name apos) [] [] cpos) :=
  PE.imp (pe_bm0 PySem.F.plainAttrs_list slot hty hm ho hbase hline) fun σ H Q ⟨S, env, st, m, q⟩ => ⟨S, env, st, m, Post.imp (Post.bind q) fun S1 H1 d s1 l1 w1 q v rv => by
    split at q
    · rename_i i
      split at q
      · rename_i l0 h0
        simp only [Rep] at rv
        obtain ⟨a, rfl, ha⟩ := rv
        obtain ⟨vs0, h1, _⟩ := w1.cr i a _ ha h0
        refine ⟨.inl ⟨rfl, vs0, SqL.of h1⟩, lm_end (W := W) (σ := σ) (args := []) hr w1 h0 ha .nil ?_⟩
        simp only [aNil, Rs.bind, h0] at q
        exact q
      · exact q.elim
    · exact q.elim⟩
end
def mAppend : LmF := fun _ l args => match args with
  | [x] => if szOk (l.length + 1) then some (.non, l ++ [x]) else none
  | _ => none
def mExtend : LmF := fun st l args => match args with
  | [x] => match getM st x with
    | some m => if szOk (l.length + m.length) then some (.non, l ++ m) else none
    | none => none
  | _ => none
def mPop : LmF := fun _ l args => match args with
  | [] => match l[l.length - 1]? with
    | some x => some (x, l.dropLast)
    | none => none
  | _ => none
def mReverse : LmF := fun _ l args => match args with
  | [] => some (.non, l.reverse)
  | _ => none
def mClear : LmF := fun _ _ args => match args with
  | [] => some (.non, [])
  | _ => none
section
variable {K : PySem.W.Frag} {G : GT}
theorem lmc_append : LmC K G rAppend mAppend := by
  intro S H st a l args l' vs us d Q w h1 h2 ra e q
  unfold mAppend at e
  split at e
  · split at e
    · rename_i hz
      obtain ⟨v, rfl, rv⟩ := ra.one
      obtain ⟨rfl, rfl⟩ := Prod.mk.inj (Option.some.inj e)
      refine ⟨a, vs, v, rfl, rfl, h1, ?_, q _ _ (h2.append (.cons rv .nil)) mk_non⟩
      have := szOk.ok hz
      rw [h2.length] at this
      exact this
    · cases e
  · cases e
theorem lmc_extend : LmC K G rExtend mExtend := by
  intro S H st a l args l' vs us d Q w h1 h2 ra e q
  unfold mExtend at e
  split at e
  · obtain ⟨v, rfl, rv⟩ := ra.one
    split at e
    · rename_i m em
      split at e
      · rename_i hz
        obtain ⟨rfl, rfl⟩ := Prod.mk.inj (Option.some.inj e)
        obtain ⟨b, zs, rfl, h3, h4⟩ := getM_at w rv em
        refine ⟨a, b, vs, zs, rfl, rfl, h1, h3, ?_, q _ _ (h2.append h4) mk_non⟩
        have := szOk.ok hz
        rw [h2.length, h4.length] at this
        exact this
      · cases e
    · cases e
  · cases e
theorem lmc_pop : LmC K G rPop mPop := by
  intro S H st a l args l' vs us d Q w h1 h2 ra e q
  unfold mPop at e
  split at e
  · split at e
    · rename_i x ex
      obtain ⟨rfl, rfl⟩ := Prod.mk.inj (Option.some.inj e)
      rw [h2.length] at ex
      obtain ⟨v, hv, rv⟩ := h2.get ex
      exact ⟨a, vs, v, rfl, ra.of_nil, h1, hv, q _ _ h2.dropLast rv⟩
    · cases e
  · cases e
theorem lmc_reverse : LmC K G rReverse mReverse := by
  intro S H st a l args l' vs us d Q w h1 h2 ra e q
  unfold mReverse at e
  split at e
  · obtain ⟨rfl, rfl⟩ := Prod.mk.inj (Option.some.inj e)
    exact ⟨a, vs, rfl, ra.of_nil, h1, q _ _ h2.reverse mk_non⟩
  · cases e
theorem lmc_clear : LmC K G rClear mClear := by
  intro S H st a l args l' vs us d Q w h1 h2 ra e q
  unfold mClear at e
  split at e
  · obtain ⟨rfl, rfl⟩ := Prod.mk.inj (Option.some.inj e)
    exact ⟨a, vs, rfl, ra.of_nil, h1, q _ _ .nil mk_non⟩
  · cases e
end
/-- l[i] = value, of a cell: the value, the list, the place -/
def sSetL (A I B : Den) : DenS := fun env st => (B env st).then env fun y s => (A env s).then env fun d s => (I env s).then env fun k s => match d, k with
  | .loc i, .int z => match s[i]? with
    | some (.list l) => match ixN l.length z with
      | some j => .nx env (s.set i (.list (l.set j y)))
      | none => .bad
    | _ => .bad
  | _, _ => .bad
section
variable {X : Cx} {G : GT} {W : WX} {pos pos' : Pos} {e o i : Expr} {A B C : Den}
theorem es_setL (ho : ED X G W A o) (hi : ED X G W C i) (he : ED X G W B e) (ha : ∀ v, assign (.Subscript o i pos') X.env v = (do
      let ov ← holding [v] (eval o X.env)
      let iv ← holding [v, ov] (eval i X.env)
      standAt pos'
      holding [v, ov, iv] (setItem ov iv v)
      release [v, ov, iv] []) := by intro _; rfl)
    (hs : swapsWithSole [.Subscript o i pos'] e pos.line X.env = pure false := by rfl) (hw : swappedStores [.Subscript o i pos'] e X.env = pure none := by rfl)
    (h1 : (assignEach [.Subscript o i pos'] X.env).map (·.2) = [assign (.Subscript o i pos') X.env] := by rfl) : ES X G W (sSetL A C B) (.Assign [.Subscript o i pos'] e pos) :=
  PS.imp (ps_asg he (pg_sub ho hi set_list ha) hs hw h1) fun E σ H ⟨S, env, st, m, q⟩ => ⟨S, env, st, m, Post.imp (Post.then m.er q) fun S1 H1 y s1 l1 w1 q v rv => ⟨S1, env, s1, m.later l1 w1, Post.imp (Post.then (m.er.mono l1) q) fun S2 H2 d s2 l2 w2 q u ru =>
    ⟨S2, env, s2, (m.later l1 w1).later l2 w2, Post.imp (Post.then ((m.er.mono l1).mono l2) q) fun S3 H3 k s3 l3 w3 q z rz => by
      cases d with
      | loc i =>
        cases k with
        | int zz =>
          dsimp only at q
          split at q
          · rename_i l hl
            split at q
            · rename_i j hj
              simp only [Rep] at ru
              obtain ⟨a, rfl, ha⟩ := ru
              have ha3 := l3.toLatR.ix ha
              obtain ⟨vs, h1, h2⟩ := w3.cr i a _ ha3 hl
              have rv3 := (rv.mono l2).mono l3
              have nt := nt_of h1 rfl
              have lt := (w3.write (o := .lst (vs.set j v)) (c' := .dead) hl ha3 (by intro z; cases z) nt trivial).1
              obtain ⟨_, w4⟩ := w3.write (o := .lst (vs.set j v)) (c' := .list (l.set j y)) hl ha3 (by intro z; cases z) nt ⟨_, upd_same, (h2.set rv3 j).mono lt⟩
              exact ⟨a, vs, zz, j, rfl, rep_int rz, h1, by rw [← h2.length]; exact hj, q S3 _ σ lt ⟨w4, (((m.er.mono l1).mono l2).mono l3).mono lt⟩⟩
            · exact q.elim
          · exact q.elim
        | _ => exact False.elim q
      | _ => exact False.elim q⟩⟩⟩
end
end Wt

/-! Core 8: sorted, isinstance, len(set(..)), [::-1], raise, try. -/
namespace Wt
open PySem PySem.Spec PyProof.Rows L2

/-! ### sorted -/
section
variable {α : Type} (le : α → α → Bool)
def ins (x : α) : List α → List α
  | [] => [x]
  | y :: r => if le x y then x :: y :: r else y :: ins x r
def isort : List α → List α
  | [] => []
  | x :: r => ins le x (isort r)
variable {le}
theorem ins_app (x : α) : ∀ (l m : List α), (∀ b ∈ l, le x b = false) → (∀ b ∈ m, le x b = true) → ins le x (l ++ m) = l ++ x :: m
  | [], [], _, _ => rfl
  | [], y :: m, _, h => by simp [ins, h y (List.mem_cons_self ..)]
  | y :: l, m, h, h' => by
    rw [List.cons_append, ins, if_neg (by rw [h y (List.mem_cons_self ..)]; decide), ins_app x l m (fun b hb => h b (List.mem_cons_of_mem _ hb)) h']
    rfl
theorem mergeSort_eq (trans : ∀ a b c : α, le a b → le b c → le a c) (total : ∀ a b : α, le a b || le b a) : ∀ l : List α, l.mergeSort le = isort le l
  | [] => by simp [isort]
  | x :: r => by
    obtain ⟨l₁, l₂, h1, h2, h3⟩ := List.mergeSort_cons trans total x r
    have s := List.pairwise_mergeSort trans total (x :: r)
    rw [h1] at s
    rw [isort, ← mergeSort_eq trans total r, h1, h2]
    refine (ins_app x l₁ l₂ (fun b hb => by simpa using h3 b hb) fun b hb => ?_).symm
    have q := (List.pairwise_append.mp s).2.1
    exact List.rel_of_pairwise_cons q hb
theorem isort_map {β : Type} {le' : β → β → Bool} {f : β → α} (h : ∀ x y, le' x y = le (f x) (f y)) : ∀ l : List β, (isort le' l).map f = isort le (l.map f)
  | [] => rfl
  | x :: r => by
    rw [isort, List.map_cons, isort, ← isort_map h r]
    have q : ∀ m : List β, (ins le' x m).map f = ins le (f x) (m.map f) := by
      intro m
      induction m with
      | nil => rfl
      | cons y m ih =>
        rw [ins, List.map_cons, ins, h]
        split
        · simp
        · simp [ih]
    exact q _
theorem ins_perm (x : α) : ∀ l : List α, (ins le x l).Perm (x :: l)
  | [] => .refl _
  | y :: r => by
    rw [ins]
    split
    · exact .refl _
    · exact ((ins_perm x r).cons y).trans (.swap x y r)
theorem isort_perm : ∀ l : List α, (isort le l).Perm l
  | [] => .refl _
  | x :: r => (ins_perm x _).trans ((isort_perm r).cons x)
theorem isort_pairwise (trans : ∀ a b c : α, le a b → le b c → le a c) (total : ∀ a b : α, le a b || le b a) (l : List α) : (isort le l).Pairwise (fun a b => le a b = true) := by
  rw [← mergeSort_eq trans total]
  exact List.pairwise_mergeSort trans total l
end
/-- the order of data -/
def leD (x y : D) : Bool := !PySem.W.dataLt y.py x.py
theorem leD_eq : (fun a b : D => leD a b) = PySem.W.dataLe false D.py := rfl
theorem leD_total (a b : D) : leD a b || leD b a := by
  have h := (PySem.W.sortLe_total (PyProof.Rows.listOrd PyProof.Rows.itemOrd) false fun d : D => PySem.W.keyToks d.py).total a b
  rw [Bool.or_eq_true]
  exact h
theorem leD_trans (a b c : D) (h : leD a b) (h2 : leD b c) : leD a c := (PySem.W.sortLe_total (PyProof.Rows.listOrd PyProof.Rows.itemOrd) false fun d : D => PySem.W.keyToks d.py).trans a b c h h2
/-! of one form -/
mutual
def D.form : D → D → Bool
  | .bl _, .bl _ => true
  | .int _, .int _ => true
  | .str _, .str _ => true
  | .tup l, .tup m => D.forms l m
  | .lst l, .lst m => D.forms l m
  | _, _ => false
def D.forms : List D → List D → Bool
  | [], [] => true
  | x :: xs, y :: ys => x.form y && D.forms xs ys
  | _, _ => false
end
mutual
theorem D.form_alike : ∀ (z x y : D), z.form x = true → z.form y = true → PySem.W.alike x.py y.py = true
  | .bl _, x, y, h, h' => by cases x <;> simp [D.form] at h <;> cases y <;> simp [D.form] at h' <;> simp [D.py, PySem.W.alike]
  | .int _, x, y, h, h' => by cases x <;> simp [D.form] at h <;> cases y <;> simp [D.form] at h' <;> simp [D.py, PySem.W.alike]
  | .str _, x, y, h, h' => by cases x <;> simp [D.form] at h <;> cases y <;> simp [D.form] at h' <;> simp [D.py, PySem.W.alike]
  | .tup l, x, y, h, h' => by
    cases x <;> simp [D.form] at h
    cases y <;> simp [D.form] at h'
    simpa [D.py, PySem.W.alike] using D.forms_alike _ _ _ h h'
  | .lst l, x, y, h, h' => by
    cases x <;> simp [D.form] at h
    cases y <;> simp [D.form] at h'
    simpa [D.py, PySem.W.alike] using D.forms_alike _ _ _ h h'
  | .non, x, y, h, _ => by simp [D.form] at h
  | .scr _, x, y, h, _ => by simp [D.form] at h
  | .ins _ _, x, y, h, _ => by simp [D.form] at h
  | .loc _, x, y, h, _ => by simp [D.form] at h
  | .cls _, x, y, h, _ => by simp [D.form] at h
theorem D.forms_alike : ∀ (z x y : List D), D.forms z x = true → D.forms z y = true → PySem.W.alikeAll (D.pys x) (D.pys y) = true
  | [], x, y, h, h' => by
    cases x <;> simp [D.forms] at h
    cases y <;> simp [D.forms] at h'
    simp [D.pys, PySem.W.alikeAll]
  | z :: zs, x, y, h, h' => by
    cases x <;> simp [D.forms] at h
    cases y <;> simp [D.forms] at h'
    simp [D.pys, PySem.W.alikeAll, D.form_alike _ _ _ h.1 h'.1, D.forms_alike _ _ _ h.2 h'.2]
end
mutual
theorem D.form_plain : ∀ (z x : D), z.form x = true → x.plain = true
  | .bl _, x, h => by cases x <;> simp [D.form] at h <;> simp [D.plain]
  | .int _, x, h => by cases x <;> simp [D.form] at h <;> simp [D.plain]
  | .str _, x, h => by cases x <;> simp [D.form] at h <;> simp [D.plain]
  | .tup l, x, h => by
    cases x <;> simp [D.form] at h
    simpa [D.plain] using D.forms_plain _ _ h
  | .lst l, x, h => by
    cases x <;> simp [D.form] at h
    simpa [D.plain] using D.forms_plain _ _ h
  | .non, x, h => by simp [D.form] at h
  | .scr _, x, h => by simp [D.form] at h
  | .ins _ _, x, h => by simp [D.form] at h
  | .loc _, x, h => by simp [D.form] at h
  | .cls _, x, h => by simp [D.form] at h
theorem D.forms_plain : ∀ (z x : List D), D.forms z x = true → D.plains x = true
  | [], x, h => by
    cases x <;> simp [D.forms] at h
    simp [D.plains]
  | z :: zs, x, h => by
    cases x <;> simp [D.forms] at h
    simp [D.plains, D.form_plain _ _ h.1, D.forms_plain _ _ h.2]
end
/-- a list that can be sorted: all of one form, tuples with an item, or no tuples -/
def sortOk : List D → Bool
  | [] => true
  | x :: r => (match x with
    | .tup [] => false
    | _ => true) && (x :: r).all fun y => x.form y && Nat.ble y.py.depth 60
def gSorted : List D → Sto → Option (List D)
  | [d], st => match getL st d with
    | some l => if sortOk l then some (isort leD l) else none
    | none => none
  | _, _ => none
section
variable {K : PySem.W.Frag}
/-- sorted(xs): bs the items with what they stand for -/
def rSortB (K : PySem.W.Frag) : List V → Hp → VK → Prop := fun vs H Q => ∃ (a : Addr) (bs : List (D × V)), vs = [V.ref a] ∧ SqL K H a (bs.map (·.2)) ∧ (∀ b ∈ bs, Dp K H b.2 b.1.py) ∧ PySem.W.AllAlike (bs.map fun b => b.1.py) ∧ PySem.W.Sortable (bs.map fun b => b.1.py) ∧
  (∀ b ∈ bs, b.1.py.depth ≤ 60) ∧ ∀ p, H p = none → Q (.ref p) (upd H p (.lst ((isort (fun x y : D × V => leD x.1 y.1) bs).map (·.2))))
theorem vals_each : ∀ {bs : List (D × V)} {us : List Value}, Vals (bs.map (·.2)) us → PySem.W.EachIs (fun u (b : D × V) => RelV b.2 u) us bs
  | [], _, h => by cases h; exact .nil
  | b :: bs, _, h => by
    cases h with
    | cons r t => exact .cons r (vals_each t)
theorem each_vals : ∀ {bs : List (D × V)} {us : List Value}, PySem.W.EachIs (fun u (b : D × V) => RelV b.2 u) us bs → Vals (bs.map (·.2)) us
  | _, _, .nil => .nil
  | _, _, .cons r t => .cons r (each_vals t)
theorem each_with {α β : Type} {R R' : α → β → Prop} : ∀ {as : List α} {bs : List β}, PySem.W.EachIs R as bs → (∀ a b, b ∈ bs → R a b → R' a b) → PySem.W.EachIs R' as bs
  | _, _, .nil, _ => .nil
  | _, _, .cons r t, h => .cons (h _ _ (List.mem_cons_self ..) r) (each_with t fun a b hb => h a b (List.mem_cons_of_mem _ hb))
theorem cr_sortB {X : Cx} (hu : X.A.units + 64 < cLine) : CallR X (.builtin "sorted") (rSortB X.K) := by
  intro pins s σ H vs us Q I r h
  obtain ⟨a, bs, rfl, hs, hd, hal, hso, hdp, q⟩ := h
  obtain ⟨its, rv, hl, hz⟩ := I.list hs
  obtain ⟨u, rfl, ru⟩ := vals1 r
  obtain rfl : u = Value.ref a := ru
  have e0 := vals_each rv
  have er : PySem.W.EachIs (fun u (b : D × V) => ∃ as, Reads s.heap u b.1.py as) its bs := each_with e0 fun u b hb r => Dp.reads I _ _ _ (hd b hb) r
  refine PySem.W.sorted_data (R := fun u (b : D × V) => RelV b.2 u) (enc := fun b : D × V => b.1.py) hl.isList e0 er hal hso (by rw [List.length_map] at hz; exact hz) (fun b hb => ?_) fun out ho hR => ?_
  · have := hdp b hb
    omega
  · have em : bs.mergeSort (PySem.W.dataLe false fun b : D × V => b.1.py) = isort (fun x y : D × V => leD x.1 y.1) bs := mergeSort_eq (fun a b c => leD_trans a.1 b.1 c.1) (fun a b => leD_total a.1 b.1) bs
    rw [em] at hR
    obtain ⟨n, hn⟩ := sortedAll_at s.heap its (List.toArray out)
    have hlen : (isort (fun x y : D × V => leD x.1 y.1) bs).length = bs.length := (isort_perm bs).length_eq
    refine ⟨.ref (s.heap.objs.size + 1), _, I.laid (t' := s.toks) (o := .lst ((isort (fun x y : D × V => leD x.1 y.1) bs).map (·.2))) (fun b o e => sortedAll_old e) (Nat.le_succ _) ⟨?_, out, n, each_vals hR, hn⟩, rfl, q _ (I.hok.fresh (Nat.le_succ _))⟩
    rw [List.length_map, hlen]
    rw [List.length_map] at hz
    exact hz
/-- the items with what they stand for -/
theorem pairs_of {G : GT} {H : Hp} {S : Vw} : ∀ {l : List D} {vs : List V}, Reps K G H S l vs → ∃ bs : List (D × V), bs.map (·.1) = l ∧ bs.map (·.2) = vs ∧ ∀ b ∈ bs, Rep K G H S b.1 b.2
  | [], _, h => ⟨[], rfl, h.of_nil.symm, by simp⟩
  | d :: l, _, h => by
    obtain ⟨v, ws, rfl, r, t⟩ := h.of_cons
    obtain ⟨bs, h1, h2, h3⟩ := pairs_of t
    refine ⟨(d, v) :: bs, by simp [h1], by simp [h2], fun b hb => ?_⟩
    rcases List.mem_cons.mp hb with e | hb
    · rw [e]
      exact r
    · exact h3 b hb
theorem reps_pairs {G : GT} {H : Hp} {S : Vw} : ∀ {bs : List (D × V)}, (∀ b ∈ bs, Rep K G H S b.1 b.2) → Reps K G H S (bs.map (·.1)) (bs.map (·.2))
  | [], _ => .nil
  | b :: bs, h => .cons (h b (List.mem_cons_self ..)) (reps_pairs fun c hc => h c (List.mem_cons_of_mem _ hc))
theorem clc_sorted {G : GT} : ClC K G (rSortB K) gSorted := by
  intro S H st ds l xs Q w r e q
  unfold gSorted at e
  split at e
  · rename_i d
    obtain ⟨v, rfl, rv⟩ := r.one
    cases el : getL st d with
    | none => rw [el] at e; cases e
    | some m =>
      rw [el] at e
      dsimp only at e
      split at e
      · rename_i hok
        have el2 : isort leD m = l := Option.some.inj e
        obtain ⟨a, vs, rfl, h1, h2⟩ := getL_at w rv el
        obtain ⟨bs, e1, e2, e3⟩ := pairs_of h2
        have forms : ∀ b ∈ bs, ∃ z ∈ m.head?, z.form b.1 = true ∧ b.1.py.depth ≤ 60 := by
          intro b hb
          have hm : b.1 ∈ m := by rw [← e1]; exact List.mem_map.mpr ⟨b, hb, rfl⟩
          cases m with
          | nil => cases hm
          | cons x r =>
            unfold sortOk at hok
            rw [Bool.and_eq_true] at hok
            have z := List.all_eq_true.mp hok.2 _ hm
            rw [Bool.and_eq_true] at z
            exact ⟨x, rfl, z.1, Nat.le_of_ble_eq_true z.2⟩
        refine ⟨a, bs, rfl, by rw [e2]; exact h1, fun b hb => ?_, ?_, ?_, fun b hb => ?_, fun p hp => ?_⟩
        · obtain ⟨z, _, hz, _⟩ := forms b hb
          exact (e3 b hb).dp (D.form_plain _ _ hz)
        · intro x hx y hy
          obtain ⟨b, hb, rfl⟩ := List.mem_map.mp hx
          obtain ⟨c, hc, rfl⟩ := List.mem_map.mp hy
          obtain ⟨z, hz1, hz, _⟩ := forms b hb
          obtain ⟨z', hz1', hz', _⟩ := forms c hc
          rw [hz1] at hz1'
          cases hz1'
          exact D.form_alike _ _ _ hz hz'
        · cases m with
          | nil =>
            have : bs = [] := List.map_eq_nil_iff.mp e1
            rw [this]
            exact .inl (by simp)
          | cons x r =>
            unfold sortOk at hok
            rw [Bool.and_eq_true] at hok
            cases x with
            | tup xs =>
              cases xs with
              | nil => simp at hok
              | cons x0 xr =>
                refine .inl fun d hd => ?_
                obtain ⟨b, hb, rfl⟩ := List.mem_map.mp hd
                obtain ⟨z, hz1, hz, _⟩ := forms b hb
                cases hz1
                cases eb : b.1 <;> rw [eb] at hz <;> simp [D.form] at hz
                rename_i ys
                cases ys <;> simp [D.forms] at hz
                simp [D.py, D.pys]
            | _ =>
              refine .inr fun d hd => ?_
              obtain ⟨b, hb, rfl⟩ := List.mem_map.mp hd
              obtain ⟨z, hz1, hz, _⟩ := forms b hb
              cases hz1
              cases eb : b.1 <;> rw [eb] at hz <;> simp [D.form] at hz <;> simp [D.py]
        · obtain ⟨_, _, _, hz⟩ := forms b hb
          exact hz
        · refine q _ p ?_ hp
          rw [← el2, ← e1, ← isort_map (le := leD) (le' := fun x y : D × V => leD x.1 y.1) (f := (·.1)) (fun _ _ => rfl)]
          exact reps_pairs fun b hb => e3 b ((isort_perm bs).mem_iff.mp hb)
      · cases e
  · cases e
end

/-! ### [::-1] -/
def lRev (A : Den) : DenL := fun env st => (A env st).bind fun d s => match getL s d with
  | some l => .ok l.reverse s
  | none => .bad
theorem el_rev {X : Cx} {G : GT} {W : WX} {A : Den} {e : Expr} {k : Nat} {p1 p2 p3 pos : Pos} (h : ED X G W A e) : EL X G W (lRev A) (.Subscript e (.Slice none none (some (.UnaryOp .USub (.Constant (.int 1) k p1) p2)) p3) pos) :=
  PE.imp (pe_revL h) fun σ H Q ⟨S, env, st, m, q⟩ => ⟨S, env, st, m, Post.imp (Post.bind q) fun S1 H1 d s1 l1 w1 q v rv => by
    cases el : getL s1 d with
    | none => rw [el] at q; exact q.elim
    | some l =>
      rw [el] at q
      obtain ⟨a, vs, rfl, h1, h2⟩ := getL_at w1 rv el
      exact ⟨a, vs, rfl, h1, fun p hp => Post.ok q w1 _ p h2.reverse hp⟩⟩

/-! ### len(set(xs)) of ints -/
def nDist (ns : List Int) : Nat := (ns.foldl step_dedup []).length
def dLenSet (A : Den) : Den := fun env st => (A env st).bind fun d s => match (getL s d).bind intsOf with
  | some ns => if Nat.ble ns.length 4000 then .ok (.int (nDist ns : Nat)) s else .bad
  | none => .bad
theorem firstMet_len (ns : List Int) : PyProof.Rows.firstMet (fun i => ns.getD i 0) ns.length = ns.foldl step_dedup [] := by
  unfold PyProof.Rows.firstMet
  congr 1
  apply List.ext_getElem
  · simp
  · intro i h1 h2
    simp at h1
    simp [h1]
theorem dedup_len : ∀ (ns acc : List Int), (ns.foldl step_dedup acc).length ≤ acc.length + ns.length
  | [], acc => by simp
  | n :: ns, acc => by
    rw [List.foldl_cons]
    have h := dedup_len ns (step_dedup acc n)
    have h2 : (step_dedup acc n).length ≤ acc.length + 1 := by
      unfold step_dedup
      split <;> simp
    simp
    omega
def tLenSetN (K : PySem.W.Frag) (ta : TE) : TE := fun σ H Q => ta σ H fun x H1 => ∃ (l : Addr) (ns : List Int), x = .ref l ∧ SqL K H1 l (ns.map V.int) ∧ ns.length ≤ 4000 ∧ Q (.int (nDist ns : Nat)) H1
theorem pe_lenSetN {X : Cx} {a : Expr} {ta : TE} {p p2 q pos : Pos} (hg : Gl X "len") (hm : X.mg "len" = none) (hg2 : Gl X "set") (hm2 : X.mg "set" = none) (ha : PE X a ta) (hc : X.calm = true := by rfl)
    (na : starEach [a] X.env = (false, eval a X.env) :: starEach [] X.env := by rfl) : PE X (.Call (.Name "len" p) [.Call (.Name "set" p2) [a] [] q] [] pos) (tLenSetN X.K ta) := by
  refine ⟨fun pins s σ H Q I h => ?_⟩
  refine Call_ (ld_blt I hg hm boot_len ?_)
  refine PyProof.Rows.callWith_builtin1 (PyProof.Rows.args_cons ?_ rfl) rfl rfl
  refine Call_ (ld_blt I hg2 hm2 boot_set ?_)
  refine PyProof.Rows.callWith_type1 (PyProof.Rows.args_cons (thn (ha.run pins s σ H _ I h) fun v s1 ⟨x, H1, I1, r1, q1⟩ => PyProof.Rows.args_nil ?_) na) na rfl
  obtain ⟨l, ns, rfl, hq, hl, q1⟩ := q1
  cases r1
  obtain ⟨its, r, pl, hz⟩ := I1.list hq
  have hlen : its.toArray.size = ns.length := by rw [List.size_toArray, ← r.length, List.length_map]
  refine call_set_list (I1.ok.hd hc) pl.isList (by simpa using RZ.intsAre_vals r) (by rw [hlen]; unfold scanBound; omega) fun h' tk hS hk => ?_
  refine PyProof.Rows.args_nil ?_
  rw [hlen, firstMet_len] at hS
  obtain ⟨o, es, ep, t, ho, hex, hd, _, _, _, hf, hn⟩ := hS
  have I2 : Inv X pins σ H1 { s1 with heap := h', toks := tk } := I1.kept fun b o e => hk b o (Heap.lt_size e) e
  have hb : (ns.foldl step_dedup []).length ≤ 4000 := Nat.le_trans (dedup_len ns []) (by simpa using hl)
  exact call_len_set ho hex hd hf (by rw [hn] <;> omega) ⟨.int (nDist ns : Nat), H1, I2.tok _, ⟨_, by rw [hn]; rfl⟩, q1⟩
theorem ed_lenSet {X : Cx} {G : GT} {W : WX} {A : Den} {a : Expr} {p p2 q pos : Pos} (hm : X.mg "len" = none) (hm2 : X.mg "set" = none) (ha : ED X G W A a) (hg : Gl X "len" := by rfl) (hg2 : Gl X "set" := by rfl) (hc : X.calm = true := by rfl)
    (na : starEach [a] X.env = (false, eval a X.env) :: starEach [] X.env := by rfl) : ED X G W (dLenSet A) (.Call (.Name "len" p) [.Call (.Name "set" p2) [a] [] q] [] pos) :=
  PE.imp (pe_lenSetN hg hm hg2 hm2 ha hc na) fun σ H Q ⟨S, env, st, m, q⟩ => ⟨S, env, st, m, Post.imp (Post.bind q) fun S1 H1 d s1 l1 w1 q v rv => by
    cases e : (getL s1 d).bind intsOf with
    | none => rw [e] at q; exact q.elim
    | some ns =>
      rw [e] at q
      dsimp only at q
      split at q
      · rename_i hz
        obtain ⟨a, rfl, h1⟩ := ints_at w1 rv e
        exact ⟨a, ns, rfl, h1, Nat.le_of_ble_eq_true hz, Post.ok q w1 _ mk_int⟩
      · exact q.elim⟩

/-! ### isinstance -/
inductive Ty where
  | non | bool | int | str | tup | lst | dct
  deriving DecidableEq
def Ty.name : Ty → String
  | .non => "NoneType" | .bool => "bool" | .int => "int" | .str => "str" | .tup => "tuple" | .lst => "list" | .dct => "dict"
def Ty.sub : Ty → Ty → Bool
  | .bool, .int => true
  | a, b => decide (a = b)
theorem Ty.kit : ∀ a b : Ty, b ≠ .non → kitB a.name b.name = some (a.sub b) := by
  intro a b hb
  cases b <;> first | exact absurd rfl hb | (cases a <;> decide +kernel)
def tyD (st : Sto) : D → Option Ty
  | .non => some .non
  | .bl _ => some .bool
  | .int _ => some .int
  | .str _ => some .str
  | .tup _ => some .tup
  | .lst _ => some .lst
  | .scr _ => some .lst
  | .loc i => match st[i]? with
    | some (.list _) => some .lst
    | some (.dK _) => some .dct
    | some (.dT _) => some .dct
    | _ => none
  | _ => none
theorem tyD_at {K : PySem.W.Frag} {G : GT} {H : Hp} {S : Vw} {st : Sto} {d : D} {v : V} {t : Ty} (w : Ws K G H S st) (r : Rep K G H S d v) (e : tyD st d = some t) : TyX K H v (.type t.name) := by
  cases d <;> simp [tyD] at e
  · subst e
    rw [rep_non r]
    exact .base .non
  · subst e
    rw [rep_bl r]
    exact .base (.bl _)
  · subst e
    rw [rep_int r]
    exact .base (.int _)
  · subst e
    rw [rep_str r]
    exact .base (.str _)
  · subst e
    obtain ⟨a, vs, rfl, h, _⟩ := rep_tup r
    rcases h with (h | ⟨o, h⟩) | ⟨o, its, n, h, hc, _⟩
    · exact .base (.tup h)
    · exact .fTuple h
    · exact .kTuple h hc
  · subst e
    simp only [Rep] at r
    obtain ⟨a, vs, rfl, _, h, _⟩ := r
    exact .base (.lst h)
  · subst e
    simp only [Rep] at r
    obtain ⟨a, vs, rfl, h, _⟩ := r
    rcases h with ⟨o, h⟩ | h | ⟨o, its, n, h, hc, _⟩
    · exact .base (.frz h)
    · exact .base (.lst h.2)
    · exact .kList h hc
  · rename_i i
    simp only [Rep] at r
    obtain ⟨a, rfl, hi⟩ := r
    split at e
    · rename_i l hl
      simp at e
      subst e
      obtain ⟨vs, h, _⟩ := w.cr i a _ hi hl
      exact .base (.lst h)
    · rename_i l hl
      simp at e
      subst e
      obtain ⟨vs, h, _⟩ := w.cr i a _ hi hl
      exact .base (.dK h)
    · rename_i l hl
      simp at e
      subst e
      obtain ⟨vs, h, _⟩ := w.cr i a _ hi hl
      exact .base (.dT h)
    · cases e
def dIsB (t : Ty) (A : Den) : Den := fun env st => (A env st).bind fun d s => match tyD s d with
  | some u => .ok (.bl (u.sub t)) s
  | none => .bad
/-- what the walk asks of a class of instances -/
structure InsOk (K : PySem.W.Frag) (C : Addr) : Prop where
  cls : Cls K C
  ha : PySem.W.findIn K (.ref C) "__class__" = some (some (.builtin "object.__class__"))
  hn : PySem.W.specialIn K (.builtin "object.__class__") "__get__" = some (some (.builtin "getset_descriptor.__get__"))
  htk : PySem.W.takesIn K (.builtin "object.__class__") = some true
  hm : PySem.W.mroIn K C (.type "object") = some true
/-- which class is below which -/
def subC (c d : Nat) : Bool := Nat.beq c d || (Nat.beq d 6 && Nat.blt c 5)
def dIsC (cs : List Nat) (c : Nat) (A : Den) : Den := fun env st => (A env st).bind fun d s => match clsD s d with
  | some u => if cs.contains u then .ok (.bl (subC u c)) s else .bad
  | none => .bad
section
variable {X : Cx} {G : GT} {W : WX} {A : Den} {a : Expr} {p p2 pos : Pos} {x : Str}
theorem ed_isB {t : Ty} (hm : X.mg "isinstance" = none) (ht : t ≠ .non) (hmx : X.mg x = none) (hx : bootBuiltins x = some (.type t.name)) (ha : ED X G W A a) (hg : Gl X "isinstance" := by rfl) (hgx : Gl X x := by rfl) (hxn : x ≠ "__name__" := by decide) (hdb : (x == ("__debug__" : Str)) = false := by decide)
    (he : starEach (a :: [.Name x p2]) X.env = (false, eval a X.env) :: starEach [.Name x p2] X.env := by rfl) (hpl : (backTo pos (starEach [.Name x p2] X.env)).any (·.1) = false := by rfl) (he2 : starEach ([.Name x p2]) X.env = (false, eval (.Name x p2) X.env) :: starEach [] X.env := by rfl) :
    ED X G W (dIsB t A) (.Call (.Name "isinstance" p) [a, .Name x p2] [] pos) :=
  PE.imp (pe_callB call_isi hg hm (by decide +kernel) (pa_cons ha (pa_cons (pe_bltn (v := .ty t.name) hgx hmx hx rfl hxn hdb) pa_nil he2) he) (by decide) (by decide) he hpl) fun σ H Q ⟨S, env, st, m, q⟩ => ⟨S, env, st, m, Post.imp (Post.bind q) fun S1 H1 d s1 l1 w1 q v rv => by
    cases e : tyD s1 d with
    | none => rw [e] at q; exact q.elim
    | some u =>
      rw [e] at q
      exact ⟨v, .ty t.name, _, _, _, rfl, .ty _, tyD_at w1 rv e, kit_ty (Ty.kit u t ht), Post.ok q w1 _ mk_bl⟩⟩
theorem ed_isC {c : Nat} {cs : List Nat} (hm : X.mg "isinstance" = none) (ok : ∀ d ∈ cs, InsOk X.K (G d) ∧ PySem.W.kitOne X.K (.ref (G d)) (.ref (G c)) = some (subC d c)) (hmx : X.mg x = some (.ref (G c))) (ha : ED X G W A a) (hg : Gl X "isinstance" := by rfl) (hgx : Gl X x := by rfl)
    (hdb : (x == ("__debug__" : Str)) = false := by decide)
    (he : starEach (a :: [.Name x p2]) X.env = (false, eval a X.env) :: starEach [.Name x p2] X.env := by rfl) (hpl : (backTo pos (starEach [.Name x p2] X.env)).any (·.1) = false := by rfl) (he2 : starEach ([.Name x p2]) X.env = (false, eval (.Name x p2) X.env) :: starEach [] X.env := by rfl) :
    ED X G W (dIsC cs c A) (.Call (.Name "isinstance" p) [a, .Name x p2] [] pos) :=
  PE.imp (pe_callB call_isi hg hm (by decide +kernel) (pa_cons ha (pa_cons (pe_glob (v := .ref (G c)) hgx hmx rfl hdb) pa_nil he2) he) (by decide) (by decide) he hpl) fun σ H Q ⟨S, env, st, m, q⟩ => ⟨S, env, st, m, Post.imp (Post.bind q) fun S1 H1 d s1 l1 w1 q v rv => by
    cases e : clsD s1 d with
    | none => rw [e] at q; exact q.elim
    | some u =>
      rw [e] at q
      dsimp only at q
      split at q
      · rename_i hz
        obtain ⟨b, dx, vs, rfl, h⟩ := clsD_at w1 rv e
        obtain ⟨o, k⟩ := ok u (by simpa using hz)
        exact ⟨.ref b, .ref (G c), _, _, _, rfl, .own _, .base (.ins h o.cls o.ha o.hn o.htk o.hm), k, Post.ok q w1 _ mk_bl⟩
      · exact q.elim⟩
end

/-! ### raise, try -/
/-- what the walk asks of an own class of errors, without __init__ -/
structure ErrOk (K : PySem.W.Frag) (C : Addr) : Prop where
  ex : PySem.W.excIn K C [.type "ValueError", .type "Exception", .type "BaseException", .type "object"] "ValueError.__new__" = true
  kp : PySem.W.keepIn K (.ref C) = true
  sb : PySem.W.subIn K (.ref C) (.type "BaseException") = some true
  ty : PySem.W.typeIn K (.ref C) = some (.type "type")
def sRaise (c : Nat) : DenS := fun env st => .exc c env st
section
variable {X : Cx} {G : GT} {W : WX} {c j : Nat} {x m : Str} {p p2 pos pos2 : Pos}
theorem es_raise (ok : ErrOk X.K (G c)) (hm : X.mg x = some (.ref (G c))) (tk : L2N.Takes X W) (hc : X.calm = true := by rfl) (hg : Gl X x := by rfl) (hdb : (x == ("__debug__" : Str)) = false := by decide) :
    ES X G W (sRaise c) (.Raise (some (.Call (.Name x p) [.Constant (.str m) j p2] [] pos)) none pos2) :=
  PS.imp (L2N.ps_raise hc tk (L2N.pmk_own PySem.F.excBase_ValueError ok.ex hm ok.kp (raises_own ok.sb ok.ty) hg hdb)) fun E σ H ⟨S, env, st, m, q⟩ => q S H σ .refl m
end
/-- errors: which is below which (10 is above all) -/
def subE (c d : Nat) : Bool := Nat.beq c d || Nat.beq d 10
def noXS (r : Fl) : Fl := match r with
  | .exc _ _ _ => .bad
  | r => r
def sTry (es : List Nat) (ec : Nat) (B : DenS) (B2 : Nat → DenS) : DenS := fun env st => match B env st with
  | .exc c e s => if es.contains c then (if subE c ec then noXS (B2 c e s) else .exc c e s) else .bad
  | r => r
theorem PostS.noX {K : PySem.W.Frag} {G : GT} {H : Hp} {S : Vw} {W : WX} {r : Fl} {E : Ends} (h : PostS K G W S H (noXS r) E) : PostS K G W0 S H r E := by
  cases r with
  | exc c e s => exact False.elim h
  | _ => exact h
section
variable {X : Cx} {G : GT} {W : WX} {ec : Nat} {es : List Nat} {x : Str} {np pos pos' : Pos} {body suite : List Stmt} {b₀ : Stmt} {B B2 : DenS}
theorem es_try (hs : X.stack = X.env :: X.outer) (hf : X.env.frame = some X.env.locals) (hmx : X.mg x = some (.ref (G ec))) (tk : L2N.Takes X W) (ok : ∀ c ∈ es, PySem.W.exmOne X.K (.ref (G c)) (.ref (G ec)) = some (subE c ec))
    (hb : ∀ (W : WX) (pn : List (Addr × Obj)) (xe : Value → Shared → Prop), L2N.Takes (X.tr pn xe) W → PassesOwn (model X.prog X.w) X.A X.env xe → ESs (X.tr pn xe) G W B body)
    (hsu : ∀ (a : Addr) (oe : Obj) (pn : List (Addr × Obj)), ESs (X.suite a ((a, oe) :: pn)) G W0 B2 (b₀ :: suite)) (hgx : Gl X x := by rfl) (hdb : (x == ("__debug__" : Str)) = false := by decide) :
    ES X G W (sTry es ec B fun _ => B2) (.Try body [.ExceptHandler (some (.Name x np)) none (b₀ :: suite) pos'] [] [] pos) :=
  PS.imp (L2N.ps_try_many (tb := fun W => tS X.K G W B) (l := [(.ref (G ec), fun _ _ _ => tS X.K G W0 B2)]) hs hf tk hb (.cons ⟨hgx, hdb, .inl hmx⟩ (fun a oe cls d pn _ _ => hsu a oe pn) .nil)) fun E σ H ⟨S, env, st, m, q⟩ => ⟨S, env, st, m, by
    unfold sTry at q
    cases e : B env st with
    | exc c e' s =>
      rw [e] at q
      dsimp only at q
      split at q
      · rename_i hz
        intro S' H' σ' l m'
        refine ⟨subE c ec, ok c (by simpa using hz), fun hs a ha => ?_, fun hs => ?_⟩
        · rw [hs, if_pos rfl] at q
          exact ⟨S', e', s, m', PostS.later (PostS.noX q) l⟩
        · rw [hs, if_neg (by decide)] at q
          exact q S' H' σ' l m'
      · exact q.elim
    | nx e' s => rw [e] at q; exact q
    | rt d s => rw [e] at q; exact q
    | bk e' s => rw [e] at q; exact q
    | ct e' s => rw [e] at q; exact q
    | bad => rw [e] at q; exact q⟩
end
end Wt

/-! Core 9: a law's defs put together, and the law's end. -/
namespace Wt
open PySem PySem.Spec PyProof.Rows L2
section
variable {P : Program} {w : World} {K : PySem.W.Frag} {mg : Str → Option Value} {base : Heap} {G : GT}
/-- as fd_of, the def's own data told -/
theorem fn_den {x qual : Str} {st : Stmt} {f : Addr} {fd : FuncData} {N ps : List Str} {k n nN : Nat} {B : DenS} (F : Fun K x qual st f fd) (Sc : FnScope N ps (defScope st)) (hn : ps.length = n) (hN : N.length = nN)
    (hbody : ∀ (cdv : Value) (A : Around) (outer : List Env) (s : Shared) (H : Hp) (E : XK), Room k (A.deeper (envOfC qual (defScope st) s.heap.objs.size f cdv)) →
      ESs (cxOf (L2N.CX P w) P w K mg base N qual (defScope st) f cdv A outer s H E) G (fun cls d _ H => E cls d H) B (defBody st)) : FnOk P w K mg base (L2N.CX P w) (k + 1) f fd ps (spD K G n (run nN B)) := by
  subst hN
  obtain ⟨oc, od, kV, doc, pm, an, cdv, ct, osl, rfl, lk, hcd⟩ := F.ex
  refine fn_of lk hcd Sc (fun vs H Q E h => ?_) (fun A outer s H vs Q E hr h => ⟨_, hbody cdv A outer s H E hr, ?_⟩)
  · obtain ⟨S, ds, st, _, r, hl, _⟩ := h
    rw [← r.length, hl, hn]
  · obtain ⟨S, ds, st, w, r, hl, q⟩ := h
    refine ⟨S, _, st, ⟨w, ERep.start r⟩, ?_⟩
    unfold run at q
    cases e : B (ds.map some ++ List.replicate (N.length - ds.length) none) st with
    | nx env s =>
      rw [e] at q
      exact fun S' H' σ' l m => q S' H' .non l m.ws mk_non
    | rt d s =>
      rw [e] at q
      exact q
    | exc c env s =>
      rw [e] at q
      exact fun S' H' σ' l m => q S' H' l m.ws
    | bk _ _ => rw [e] at q; exact q.elim
    | ct _ _ => rw [e] at q; exact q.elim
    | bad => rw [e] at q; exact q
end
section
variable (P : Program) (w : World) (K : PySem.W.Frag) (mg : Str → Option Value) (base : Heap) (G : GT)
/-- the module's def x does d -/
def Cal (x : Str) (k n : Nat) (d : DenF) : Prop := ∃ a, FD P w K mg base G k a n d ∧ mg x = some (.ref a) ∧ PySem.W.keepIn K (.ref a) = true
/-- the class x, its __init__ does d -/
def Mkr (x : Str) (c k n : Nat) (d : DenF) : Prop := ∃ f, Mk K (G c) f ∧ FD P w K mg base G k f n d ∧ mg x = some (.ref (G c))
def Mkr0 (x : Str) (c : Nat) : Prop := Mk0 K (G c) ∧ mg x = some (.ref (G c))
def Isi (cs : List Nat) (x : Str) (c : Nat) : Prop := (∀ d ∈ cs, InsOk K (G d) ∧ PySem.W.kitOne K (.ref (G d)) (.ref (G c)) = some (subC d c)) ∧ mg x = some (.ref (G c))
def Err (x : Str) (c : Nat) : Prop := ErrOk K (G c) ∧ mg x = some (.ref (G c))
end
section
variable {X : Cx} {G : GT} {W : WX} {k n c : Nat} {d : DenF} {x m : Str} {p pos pos2 p2 : Pos} {a e : Expr} {es : List Expr} {As : DenL} {A : Den} {j : Nat}
theorem ed_cal (C : Cal X.prog X.w X.K X.mg X.base G x k n d) (hr : Room k X.A) (tk : L2N.Takes X W) (ha : EA X G W As (e :: es)) (hg : Gl X x := by rfl) (hdb : (x == ("__debug__" : Str)) = false := by decide)
    (he : starEach (e :: es) X.env = (false, eval e X.env) :: starEach es X.env := by rfl) (hpl : (backTo pos (starEach es X.env)).any (·.1) = false := by rfl) : ED X G W (dFn n d As) (.Call (.Name x p) (e :: es) [] pos) :=
  let ⟨_, F, hm, hk⟩ := C
  ed_call F hr hm hk tk ha hg hdb he hpl
theorem ed_cal0 (C : Cal X.prog X.w X.K X.mg X.base G x k 0 d) (hr : Room k X.A) (tk : L2N.Takes X W) (hg : Gl X x := by rfl) (hdb : (x == ("__debug__" : Str)) = false := by decide) : ED X G W (dFn 0 d aNil) (.Call (.Name x p) [] [] pos) :=
  let ⟨_, F, hm, hk⟩ := C
  ed_call0 F hr hm hk tk hg hdb
theorem ed_mkr (C : Mkr X.prog X.w X.K X.mg X.base G x c k n d) (hr : Room (k + 1) X.A) (tk : L2N.Takes X W) (ha : EA X G W As (e :: es)) (hg : Gl X x := by rfl) (hdb : (x == ("__debug__" : Str)) = false := by decide)
    (he : starEach (e :: es) X.env = (false, eval e X.env) :: starEach es X.env := by rfl) (hpl : (backTo pos (starEach es X.env)).any (·.1) = false := by rfl) : ED X G W (dMk c n d As) (.Call (.Name x p) (e :: es) [] pos) :=
  let ⟨_, M, F, hm⟩ := C
  ed_make M F hr hm tk ha hg hdb he hpl
theorem ed_mkr0 (C : Mkr0 X.K X.mg G x c) (hg : Gl X x := by rfl) (hdb : (x == ("__debug__" : Str)) = false := by decide) : ED X G W (dMk0 c) (.Call (.Name x p) [] [] pos) := ed_make0 C.1 C.2 hg hdb
theorem ed_isi {cs : List Nat} (C : Isi X.K X.mg G cs x c) (hm : X.mg "isinstance" = none) (ha : ED X G W A a) (hg : Gl X "isinstance" := by rfl) (hgx : Gl X x := by rfl)
    (hdb : (x == ("__debug__" : Str)) = false := by decide)
    (he : starEach (a :: [.Name x p2]) X.env = (false, eval a X.env) :: starEach [.Name x p2] X.env := by rfl) (hpl : (backTo pos (starEach [.Name x p2] X.env)).any (·.1) = false := by rfl) (he2 : starEach ([.Name x p2]) X.env = (false, eval (.Name x p2) X.env) :: starEach [] X.env := by rfl) :
    ED X G W (dIsC cs c A) (.Call (.Name "isinstance" p) [a, .Name x p2] [] pos) := ed_isC hm C.1 C.2 ha hg hgx hdb he hpl he2
theorem es_err (C : Err X.K X.mg G x c) (tk : L2N.Takes X W) (hc : X.calm = true := by rfl) (hg : Gl X x := by rfl) (hdb : (x == ("__debug__" : Str)) = false := by decide) :
    ES X G W (sRaise c) (.Raise (some (.Call (.Name x p) [.Constant (.str m) j p2] [] pos)) none pos2) := es_raise C.1 C.2 tk hc hg hdb
theorem ed_gnum {i : Int} (hm : ∃ t, X.mg x = some (.int i t)) (hg : Gl X x := by rfl) (hd : (x == ("__debug__" : Str)) = false := by decide) : ED X G W (dC (.int i)) (.Name x pos) :=
  let ⟨_, hm⟩ := hm
  ed_gint hg hm hd
/-- a module's tuple of texts -/
def TupIn (K : PySem.W.Frag) (mg : Str → Option Value) (x : Str) (l : List Str) : Prop := ∃ (a : Addr) (o : Obj) (its : Array Value) (n : Nat), mg x = some (.ref a) ∧ K.lookup a = some o ∧ o.cls = .type "tuple" ∧ o.data = .seq its n ∧ its.size ≤ sizeLine ∧ Vals (l.map V.str) its.toList
theorem Reps.of_strs {K : PySem.W.Frag} {H : Hp} {S : Vw} : ∀ {ns : List Str}, Reps K G H S (ns.map D.str) (ns.map V.str)
  | [] => .nil
  | n :: ns => .cons (by simp [Rep]) Reps.of_strs
theorem tOpG {l : List Str} {a : Addr} {neg : Bool} {A : Den} {f : D → D → Sto → Rs D} (hf : f = if neg then fNotIn else fIn) (hm : ∃ (o : Obj) (its : Array Value) (n : Nat), X.K.lookup a = some o ∧ o.cls = .type "tuple" ∧ o.data = .seq its n ∧ its.size ≤ sizeLine ∧ Vals (l.map V.str) its.toList) (σ : L2.St) (H : Hp) (Q : VK)
    (h : tD X.K G W (dOp f A (dC (.tup (l.map .str)))) σ H Q) : tOp (rIn X.K neg) (tD X.K G W A) (tC (.ref a)) σ H Q := by
  obtain ⟨S, env, st, m, q⟩ := h
  refine ⟨S, env, st, m, Post.imp (Post.bind q) fun S1 H1 d s1 l1 w1 q v rv => ?_⟩
  have q : Post X.K G W0 σ S1 H1 (f d (.tup (l.map .str)) s1) _ := Post.noX (Post.ok (Post.bind q) w1)
  have key : ∀ b, inB s1 d (.tup (l.map .str)) = some b → Q (.bl (if neg then !b else b)) H1 → rIn X.K neg v (.ref a) H1 Q := fun b e q => by
    unfold inB at e
    simp only at e
    split at e
    · rename_i hz
      rw [Bool.and_eq_true] at hz
      refine ⟨a, l.map V.str, rfl, .inr (.inr hm), flat_v rv hz.1, flat_all (Reps.of_strs (K := X.K) (G := G) (H := H1) (S := S1)) hz.2, ?_⟩
      rw [flat_any rv hz.1 (Reps.of_strs (K := X.K) (G := G) (H := H1) (S := S1)) hz.2, Option.some.inj e]
      exact q
    · cases e
  cases neg with
  | true =>
    rw [hf] at q
    simp only [if_true] at q
    unfold fNotIn at q
    cases e : inB s1 d (.tup (l.map .str)) with
    | none => rw [e] at q; exact q.elim
    | some b => rw [e] at q; exact key b e (Post.ok q w1 _ mk_bl)
  | false =>
    rw [hf] at q
    simp only [Bool.false_eq_true, if_false] at q
    unfold fIn at q
    cases e : inB s1 d (.tup (l.map .str)) with
    | none => rw [e] at q; exact q.elim
    | some b => rw [e] at q; exact key b e (Post.ok q w1 _ mk_bl)
theorem ed_notInG {l : List Str} {A : Den} {e : Expr} {pos2 : Pos} (hm : TupIn X.K X.mg x l) (ha : ED X G W A e) (hb : behindInMarks .NotIn (.Name x pos2) = false) (hg : Gl X x := by rfl) (hd : (x == ("__debug__" : Str)) = false := by decide) : ED X G W (dOp fNotIn A (dC (.tup (l.map .str)))) (.Compare e [.NotIn] [.Name x pos2] pos) := by
  obtain ⟨a, o, its, n, hm, h1⟩ := hm
  exact PE.imp (pe_cmpR op_notIn_seq ha (pe_glob (v := .ref a) hg hm rfl hd) hb) (tOpG (neg := true) rfl ⟨o, its, n, h1⟩)
theorem eb_notInG {l : List Str} {A : Den} {e : Expr} {pos2 : Pos} (hm : TupIn X.K X.mg x l) (ha : ED X G W A e) (hb : behindInMarks .NotIn (.Name x pos2) = false) (hg : Gl X x := by rfl) (hd : (x == ("__debug__" : Str)) = false := by decide) : EB X G W (dTest (dOp fNotIn A (dC (.tup (l.map .str))))) (.Compare e [.NotIn] [.Name x pos2] pos) := by
  obtain ⟨a, o, its, n, hm, h1⟩ := hm
  exact PT.imp (pt_cmpR op_notIn_seq ha (pe_glob (v := .ref a) hg hm rfl hd) hb) (test_of (tOpG (neg := true) rfl ⟨o, its, n, h1⟩))
end
theorem hu65 {k : Nat} {A : Around} (r : Room k A) : A.units + 65 < cLine := by
  have := r.un
  omega
theorem hu64 {k : Nat} {A : Around} (r : Room k A) : A.units + 64 < cLine := r.units

/-! ### the law's end -/
def spLaw (K : PySem.W.Frag) (T : List (Addr × Str)) : Sp := fun vs H Q _ => ∃ (a : Addr) (ns : List Int), vs = [.ref a] ∧ ns.length ≤ 63 ∧ (∀ z ∈ ns, Builtin.Int.intBits z ≤ 1048576) ∧ (∀ p ∈ T, H p.1 = some (.tbl #[])) ∧ SqL K H a (ns.map V.int) ∧ ∀ H', Q (.bl true) H'
theorem Ws.start {K : PySem.W.Frag} {G : GT} {H : Hp} {S : Vw} (hF : ∀ b, S.F b → ∃ xs, H b = some (.lst xs)) (hP : ∀ b, ¬ S.P b) (hR : S.ρ = []) (ht : ∀ p ∈ G.tab, H p.1 = some (.tbl #[])) (hc : G.cd = []) (hv : G.cv = []) : Ws K G H S [] where
  len := by rw [hR]; rfl
  nd := by rw [hR]; exact .nil
  rl := fun i a h => by rw [hR] at h; cases h
  nf := fun i a c h => by rw [hR] at h; cases h
  np := fun i a h => by rw [hR] at h; cases h
  dj := fun b _ => hP b
  pf := fun b f => absurd f (hP b)
  cr := fun i a c h => by rw [hR] at h; cases h
  fr := fun b f => let ⟨_, e⟩ := hF b f; ⟨_, e⟩
  tb := fun p hp => by
    refine ⟨⟨fun f => ?_, hP _, by rw [hR]; exact nofun⟩, LamX.TabS.nil (ht p hp)⟩
    obtain ⟨xs, e⟩ := hF _ f
    rw [ht p hp] at e
    cases e
  cp := by rw [hc, hv]; exact .nil
theorem spLaw_of {K : PySem.W.Frag} {G : GT} {d : DenF} (h : ∀ ns : List Int, ns.length ≤ 63 → (∀ z ∈ ns, Builtin.Int.intBits z ≤ 1048576) → ∃ st, d [.scr (ns.map .int)] [] = .ok (.bl true) st) (hc : G.cd = []) (hv : G.cv = []) (vs : List V) (H : Hp) (Q : VK) (E : XK) (p : spLaw K G.tab vs H Q E) : spD K G 1 d vs H Q E := by
  obtain ⟨a, ns, rfl, hl, hb, ht, hs, q⟩ := p
  obtain ⟨st, e⟩ := h ns hl hb
  have key : ∀ S : Vw, FzL K H S a (ns.map V.int) → Ws K G H S [] → spD K G 1 d [.ref a] H Q E := fun S hf w => by
    refine ⟨S, [.scr (ns.map .int)], [], w, .cons ?_ .nil, rfl, ?_⟩
    · simp only [Rep]
      exact ⟨a, _, rfl, hf, Reps.of_ints⟩
    · rw [e]
      intro S' H' v l w r
      rw [rep_bl r]
      exact q H'
  rcases hs with (h | ⟨o, h⟩) | h
  · refine key ⟨fun b => b = a, fun _ => False, []⟩ (.inr (.inl ⟨rfl, h⟩)) (Ws.start (fun b f => ?_) (fun _ f => f) rfl ht hc hv)
    have f : b = a := f
    exact ⟨_, by rw [f]; exact h⟩
  · exact key ⟨fun _ => False, fun _ => False, []⟩ (.inl ⟨o, h⟩) (Ws.start (fun _ f => False.elim f) (fun _ f => f) rfl ht hc hv)
  · exact key ⟨fun _ => False, fun _ => False, []⟩ (.inr (.inr h)) (Ws.start (fun _ f => False.elim f) (fun _ f => f) rfl ht hc hv)
theorem noCX {P : Program} (w : World) (H : Hp) (s : Shared) (e : Value) (s' : Shared) (h : L2N.CX P w [] H s (fun _ _ _ => False) e s') : False := by
  obtain ⟨a, B, H', cls, d, _, _, _, _, _, _, _, q⟩ := h
  exact q
/-! what the top has written, by its words -/
def DefIn (K : PySem.W.Frag) (x qual : Str) (st : Stmt) (f : Addr) : Prop := ∃ (oc : Value) (od : Option Addr) (kV dc pm : Value) (an : Option Addr) (cd ct : Value) (sl : Array (Option Value)),
  K.lookup f = some ⟨oc, od, .func (PySem.W.fnOf x qual (defArgs st) (defBody st) (defScope st) .none kV dc pm an cd ct), sl⟩ ∧ PySem.W.codeIn K cd qual = true ∧ PySem.W.keepIn K (.ref f) = true
theorem DefIn.fn {K : PySem.W.Frag} {x qual : Str} {st : Stmt} {f : Addr} (h : DefIn K x qual st f) : ∃ fd, Fun K x qual st f fd ∧ ∃ (kV dc pm : Value) (an : Option Addr) (cd ct : Value), fd = PySem.W.fnOf x qual (defArgs st) (defBody st) (defScope st) .none kV dc pm an cd ct := by
  obtain ⟨oc, od, kV, dc, pm, an, cd, ct, sl, h1, h2, h3⟩ := h
  exact ⟨_, fun_mk h1 h2 h3, kV, dc, pm, an, cd, ct, rfl⟩
end Wt
namespace Wt
open PySem PySem.Spec PyProof.Rows L2
theorem opc_is {K : PySem.W.Frag} {G : GT} : OpC K G rIsB fIs := by
  intro S H st σ dx dy x y Q w rx ry q
  unfold fIs at q
  split at q
  · exact ⟨_, _, rep_bl rx, rep_bl ry, Post.ok q w _ mk_bl⟩
  · exact q.elim
theorem opc_isNot {K : PySem.W.Frag} {G : GT} : OpC K G rNotB fIsNot := by
  intro S H st σ dx dy x y Q w rx ry q
  unfold fIsNot at q
  split at q
  · exact ⟨_, _, rep_bl rx, rep_bl ry, Post.ok q w _ mk_bl⟩
  · exact q.elim
theorem law_pack {K : PySem.W.Frag} {x q : Str} {st : Stmt} {f : Addr} {fd : FuncData} {A B : FuncData → Prop} (_ : Fun K x q st f fd) (h1 : A fd) (h2 : B fd) : ∃ fd, A fd ∧ B fd := ⟨fd, h1, h2⟩
end Wt

/-! Core 10: dicts with tuples as keys. -/
namespace Wt
open PySem PySem.Spec PyProof.Rows L2
def keysD : List D → Option (List Key)
  | [] => some []
  | .int i :: r => (keysD r).map (.inl i :: ·)
  | .str x :: r => (keysD r).map (.inr x :: ·)
  | _ :: _ => none
def tupKey : D → Option (List Key)
  | .tup l => keysD l
  | _ => none
def keyToD : Key → D
  | .inl i => .int i
  | .inr x => .str x
theorem keysD_eq : ∀ {l : List D} {ks : List Key}, keysD l = some ks → l = ks.map keyToD
  | [], ks, h => by cases h; rfl
  | .int i :: r, ks, h => by
    obtain ⟨t, ht, rfl⟩ := Option.map_eq_some_iff.mp h
    rw [keysD_eq ht]
    rfl
  | .str i :: r, ks, h => by
    obtain ⟨t, ht, rfl⟩ := Option.map_eq_some_iff.mp h
    rw [keysD_eq ht]
    rfl
  | .non :: _, _, h => by cases h
  | .bl _ :: _, _, h => by cases h
  | .tup _ :: _, _, h => by cases h
  | .lst _ :: _, _, h => by cases h
  | .scr _ :: _, _, h => by cases h
  | .ins _ _ :: _, _, h => by cases h
  | .loc _ :: _, _, h => by cases h
  | .cls _ :: _, _, h => by cases h
section
variable {K : PySem.W.Frag} {G : GT} {H : Hp} {S : Vw}
theorem rep_key (k : Key) {v : V} (r : Rep K G H S (keyToD k) v) : v = kV k := by
  cases k with
  | inl i => exact rep_int r
  | inr x => exact rep_str r
theorem mk_key (k : Key) : Rep K G H S (keyToD k) (kV k) := by
  cases k with
  | inl i => exact mk_int
  | inr x => exact mk_str
theorem reps_keys : ∀ {ks : List Key} {vs : List V}, Reps K G H S (ks.map keyToD) vs → vs = ks.map kV
  | [], _, h => h.of_nil
  | k :: r, vs, h => by
    obtain ⟨v, ws, rfl, h1, h2⟩ := h.of_cons
    rw [rep_key k h1, reps_keys h2]
    rfl
theorem mk_keys : ∀ (ks : List Key), Reps K G H S (ks.map keyToD) (ks.map kV)
  | [] => .nil
  | k :: r => .cons (mk_key k) (mk_keys r)
theorem key_at {d : D} {v : V} {ks : List Key} (r : Rep K G H S d v) (e : tupKey d = some ks) : ∃ b, v = .ref b ∧ H b = some (.tup (ks.map kV)) := by
  cases d with
  | tup l =>
    have e' := keysD_eq e
    subst e'
    simp only [Rep] at r
    obtain ⟨a, vs, rfl, h1, h2⟩ := r
    exact ⟨a, rfl, reps_keys h2 ▸ h1⟩
  | _ => cases e
end
def valD (kvs : List (List Key × D)) (k : List Key) : Option D := (kvs.find? fun kv => decide (kv.1 = k)).map (·.2)
def putD (kvs : List (List Key × D)) (k : List Key) (d : D) : List (List Key × D) :=
  if (kvs.any fun kv => decide (kv.1 = k)) = true then kvs.map (fun kv => if kv.1 = k then (kv.1, d) else kv) else kvs ++ [(k, d)]
def getT (st : Sto) : D → Option (List (List Key × D))
  | .loc i => match st[i]? with
    | some (.dT kvs) => some kvs
    | some (.lT kvs) => some kvs
    | _ => none
  | _ => none
section
variable {K : PySem.W.Frag} {G : GT} {H : Hp} {S : Vw}
theorem KRep.val {kvs : List (List Key × D)} {us : List (List Key × V)} {k : List Key} (h : KRep K G H S kvs us) : (∀ d, valD kvs k = some d → ∃ v, valV us k = some v ∧ Rep K G H S d v) ∧ (valD kvs k = none → valV us k = none) := by
  unfold KRep at h
  induction h with
  | nil => exact ⟨fun d e => (nomatch e), fun _ => rfl⟩
  | @cons p q ps qs h t ih =>
    obtain ⟨h1, h2⟩ := h
    unfold valD valV at *
    rw [List.find?_cons, List.find?_cons]
    by_cases e : p.1 = k
    · rw [decide_eq_true e, decide_eq_true (h1 ▸ e)]
      refine ⟨fun d ed => ?_, fun ed => (nomatch ed)⟩
      cases ed
      exact ⟨_, rfl, h2⟩
    · rw [decide_eq_false e, decide_eq_false (fun z => e (h1.trans z))]
      exact ih
theorem KRep.any {kvs : List (List Key × D)} {us : List (List Key × V)} {k : List Key} (h : KRep K G H S kvs us) : (kvs.any fun kv => decide (kv.1 = k)) = us.any fun kv => decide (kv.1 = k) := by
  unfold KRep at h
  induction h with
  | nil => rfl
  | @cons p q ps qs h t ih => rw [List.any_cons, List.any_cons, ih, h.1]
theorem KRep.put {kvs : List (List Key × D)} {us : List (List Key × V)} {k : List Key} {d : D} {v : V} (h : KRep K G H S kvs us) (r : Rep K G H S d v) : KRep K G H S (putD kvs k d) (putK us k v) := by
  unfold putD putK
  rw [h.any]
  split
  · rename_i hz
    clear hz
    unfold KRep at h ⊢
    induction h with
    | nil => exact .nil
    | @cons p q ps qs h t ih =>
      rw [List.map_cons, List.map_cons]
      refine .cons ?_ ih
      by_cases e : p.1 = k
      · rw [if_pos e, if_pos (h.1 ▸ e)]
        exact ⟨h.1, r⟩
      · rw [if_neg e, if_neg (fun z => e (h.1.trans z))]
        exact h
  · rename_i hz
    clear hz
    unfold KRep at h ⊢
    induction h with
    | nil => exact .cons ⟨rfl, r⟩ .nil
    | @cons p q ps qs h t ih => exact .cons h ih
theorem KRep.len {κ : Type} {kvs : List (κ × D)} {us : List (κ × V)} (h : KRep K G H S kvs us) : kvs.length = us.length := by
  unfold KRep at h
  induction h with
  | nil => rfl
  | cons _ _ ih => rw [List.length_cons, List.length_cons, ih]
theorem getT_at {d : D} {v : V} {st : Sto} {kvs : List (List Key × D)} (w : Ws K G H S st) (r : Rep K G H S d v) (e : getT st d = some kvs) : ∃ a us, v = .ref a ∧ Rd H a (.dT us) ∧ KRep K G H S kvs us := by
  cases d with
  | loc i =>
    simp only [Rep] at r
    obtain ⟨a, rfl, hi⟩ := r
    simp only [getT] at e
    cases hk : st[i]? with
    | none => rw [hk] at e; cases e
    | some c =>
      rw [hk] at e
      cases c with
      | dT k =>
        cases e
        obtain ⟨us, h1, h2⟩ := w.cr _ a _ hi hk
        exact ⟨a, us, rfl, .inl h1, h2⟩
      | lT k =>
        cases e
        obtain ⟨us, o, h1, h2⟩ := w.cr _ a _ hi hk
        exact ⟨a, us, rfl, .inr ⟨o, h1⟩, h2⟩
      | _ => cases e
  | _ => cases e
end
/-- d[k] -/
def dGetT (A B : Den) : Den := fun env st => (A env st).bind fun x s => (B env s).bind fun y s => match getT s x, tupKey y with
  | some kvs, some k => match valD kvs k with
    | some d => .ok d s
    | none => .bad
  | _, _ => .bad
/-- d.get(k, x) -/
def dGetT2 (A B C : Den) : Den := fun env st => (A env st).bind fun x s => match getT s x with
  | some _ => (B env s).bind fun y s => (C env s).bind fun z s => match getT s x, tupKey y with
    | some kvs, some k => .ok ((valD kvs k).getD z) s
    | _, _ => .bad
  | none => .bad
/-- d[k] = v: the value, the dict, the key -/
def sPutT (A I B : Den) : DenS := fun env st => (B env st).then env fun y s => (A env s).then env fun d s => (I env s).then env fun k s => match d, tupKey k with
  | .loc i, some ks => match s[i]? with
    | some (.dT kvs) => if szOk (kvs.length + 1) then .nx env (s.set i (.dT (putD kvs ks y))) else .bad
    | _ => .bad
  | _, _ => .bad
/-- {} -/
def dNewT : Den := fun _ st => .ok (.loc st.length) (st ++ [.dT []])
section
variable {X : Cx} {G : GT} {W : WX} {pos pos' apos cpos : Pos} {e f o i : Expr} {A B C : Den}
theorem ed_getT (ho : ED X G W A o) (hi : ED X G W B i) (hu : X.A.units + 65 < cLine) (hs : NoSl i := by exact fun _ _ => rfl) : ED X G W (dGetT A B) (.Subscript o i pos) :=
  PE.imp (pe_dget (by omega) ho hi hs) fun σ H Q ⟨S, env, st, m, q⟩ => ⟨S, env, st, m, Post.imp (Post.bind q) fun S1 H1 x s1 l1 w1 q v rv => ⟨S1, env, s1, m.later l1 w1, Post.imp (Post.bind q) fun S2 H2 y s2 l2 w2 q u ru => by
    cases e1 : getT s2 x with
    | none => rw [e1] at q; exact q.elim
    | some kvs =>
      cases e2 : tupKey y with
      | none => rw [e1, e2] at q; exact q.elim
      | some k =>
        rw [e1, e2] at q
        dsimp only at q
        cases e3 : valD kvs k with
        | none => rw [e3] at q; exact q.elim
        | some d =>
          rw [e3] at q
          obtain ⟨a, us, rfl, h1, h2⟩ := getT_at w2 (rv.mono l2) e1
          obtain ⟨b, rfl, h3⟩ := key_at ru e2
          obtain ⟨w, h4, h5⟩ := (h2.val (k := k)).1 d e3
          exact ⟨a, w, rfl, .inr ⟨us, k, b, h1, rfl, h3, h4.symm⟩, Post.ok q w2 w h5⟩⟩⟩
theorem ed_getT2 (ho : ED X G W A o) (he : ED X G W B e) (hf : ED X G W C f) (hu : X.A.units + 65 < cLine) (m : M2 X o "get" apos e f cpos := by exact ⟨rfl, rfl, rfl, rfl⟩) : ED X G W (dGetT2 A B C) (.Call (.Attribute o "get" apos) [e, f] [] cpos) :=
  PE.imp (pe_dget2 (by omega) ho he hf m) fun σ H Q ⟨S, env, st, m, q⟩ => ⟨S, env, st, m, Post.imp (Post.bind q) fun S1 H1 x s1 l1 w1 q v rv => by
    cases e0 : getT s1 x with
    | none => rw [e0] at q; exact q.elim
    | some kvs0 =>
      rw [e0] at q
      dsimp only at q
      obtain ⟨a, us0, rfl, h0, h00⟩ := getT_at w1 rv e0
      refine ⟨a, rfl, .inr ⟨us0, h0⟩, S1, env, s1, m.later l1 w1, Post.imp (Post.bind q) fun S2 H2 y s2 l2 w2 q u ru => ⟨S2, env, s2, (m.later l1 w1).later l2 w2, Post.imp (Post.bind q) fun S3 H3 z s3 l3 w3 q t rt => ?_⟩⟩
      cases e1 : getT s3 x with
      | none => rw [e1] at q; exact q.elim
      | some kvs =>
        cases e2 : tupKey y with
        | none => rw [e1, e2] at q; exact q.elim
        | some k =>
          rw [e1, e2] at q
          dsimp only at q
          obtain ⟨a', us, ea, h1, h2⟩ := getT_at w3 ((rv.mono l2).mono l3) e1
          cases ea
          obtain ⟨b, rfl, h3⟩ := key_at (ru.mono l3) e2
          refine ⟨valV us k, .inr ⟨us, k, b, h1, rfl, h3, rfl⟩, ?_⟩
          refine Post.ok q w3 _ ?_
          cases e3 : valD kvs k with
          | none => rw [(h2.val (k := k)).2 e3]; exact rt
          | some d =>
            obtain ⟨w, h4, h5⟩ := (h2.val (k := k)).1 d e3
            rw [h4]
            exact h5⟩
theorem ed_newT : ED X G W dNewT (.Dict [] [] pos) := PE.imp pe_dnewT fun σ H Q ⟨S, env, st, m, q⟩ p hp => by
  have r : Rep X.K G (upd H p (.dT [])) (S.add p) (.loc st.length) (.ref p) := by
    simp only [Rep]
    exact ⟨p, rfl, Vw.add_ix m.ws⟩
  exact q (S.add p) _ (Lat.newC hp) (m.ws.newC hp ⟨[], upd_same, .nil⟩) _ r
theorem es_putT (ho : ED X G W A o) (hi : ED X G W B i) (hv : ED X G W C e) (hu : X.A.units + 65 < cLine) (hs : swapsWith e (some (.Subscript o i pos')) pos.line X.env = pure false := by rfl) : ES X G W (sPutT A B C) (.Assign [.Subscript o i pos'] e pos) :=
  PS.imp (ps_dput (by omega) ho hi hv hs) fun E σ H ⟨S, env, st, m, q⟩ => ⟨S, env, st, m, Post.imp (Post.then m.er q) fun S1 H1 y s1 l1 w1 q v rv => ⟨S1, env, s1, m.later l1 w1, Post.imp (Post.then (m.er.mono l1) q) fun S2 H2 d s2 l2 w2 q u ru =>
    ⟨S2, env, s2, (m.later l1 w1).later l2 w2, Post.imp (Post.then ((m.er.mono l1).mono l2) q) fun S3 H3 k s3 l3 w3 q z rz => by
      cases d with
      | loc i =>
        cases ek : tupKey k with
        | none => simp only [ek] at q; exact q.elim
        | some ks =>
          simp only [ek] at q
          cases ec : s3[i]? with
          | none => simp only [ec] at q; exact q.elim
          | some c =>
            cases c with
            | dT kvs =>
              simp only [ec] at q
              split at q
              · rename_i hz
                simp only [Rep] at ru
                obtain ⟨a, rfl, ha⟩ := ru
                have ha3 := l3.toLatR.ix ha
                obtain ⟨us, h1, h2⟩ := w3.cr i a _ ha3 ec
                obtain ⟨b, rfl, h3⟩ := key_at rz ek
                have rv3 := (rv.mono l2).mono l3
                have nt := nt_of h1 rfl
                have lt := (w3.write (o := .dT (putK us ks v)) (c' := .dead) ec ha3 (by intro z; cases z) nt trivial).1
                obtain ⟨_, w4⟩ := w3.write (o := .dT (putK us ks v)) (c' := .dT (putD kvs ks y)) ec ha3 (by intro z; cases z) nt ⟨_, upd_same, (h2.put rv3).mono lt.toLatR⟩
                have hl := szOk.ok hz
                rw [h2.len] at hl
                exact ⟨a, _, rfl, .inr ⟨us, ks, b, h1, rfl, h3, by omega, rfl⟩, q S3 _ σ lt ⟨w4, (((m.er.mono l1).mono l2).mono l3).mono lt⟩⟩
              · exact q.elim
            | _ => simp only [ec] at q; exact q.elim
      | _ => cases ek : tupKey k <;> simp only [ek] at q <;> exact q.elim⟩⟩⟩
end
end Wt

/-! Core 11: a new list over a dict's keys: the dict is locked while it is walked. -/
namespace Wt
open PySem PySem.Spec PyProof.Rows L2
/-- what a datum leans on stays -/
structure LatV (H : Hp) (S : Vw) (H' : Hp) (S' : Vw) : Prop where
  fz : ∀ a o, S.F a → H a = some o → S'.F a ∧ H' a = some o
  tp : ∀ a xs, H a = some (.tup xs) → H' a = some (.tup xs)
  fr : ∀ a o xs, H a = some (.frz o (.lst xs)) → H' a = some (.frz o (.lst xs))
  ex : ∀ a p, H a = some (.ext p) → H' a = some (.ext p)
  ix : ∀ (i : Nat) (a : Addr), S.ρ[i]? = some a → S'.ρ[i]? = some a
section
variable {K : PySem.W.Frag} {G : GT} {H H' : Hp} {S S' : Vw}
theorem LatV.rd_f {a : Addr} {vs : List V} (l : LatV H S H' S') (h : FzL K H S a vs) : FzL K H' S' a vs := by
  rcases h with ⟨o, h⟩ | h | h
  · exact .inl ⟨o, l.fr _ _ _ h⟩
  · exact .inr (.inl (l.fz _ _ h.1 h.2))
  · exact .inr (.inr h)
mutual
theorem Rep.monoV (l : LatV H S H' S') : ∀ {d : D} {v : V}, Rep K G H S d v → Rep K G H' S' d v
  | .non, _, h => by simpa [Rep] using h
  | .bl _, _, h => by simpa [Rep] using h
  | .int _, _, h => by simpa [Rep] using h
  | .str _, _, h => by simpa [Rep] using h
  | .tup ds, _, h => by
    simp only [Rep] at h ⊢
    obtain ⟨a, vs, e, h1, h2⟩ := h
    exact ⟨a, vs, e, l.tp _ _ h1, Reps.monoV l h2⟩
  | .lst ds, _, h => by
    simp only [Rep] at h ⊢
    obtain ⟨a, vs, e, f, h1, h2⟩ := h
    obtain ⟨f', h1'⟩ := l.fz _ _ f h1
    exact ⟨a, vs, e, f', h1', Reps.monoV l h2⟩
  | .scr ds, _, h => by
    simp only [Rep] at h ⊢
    obtain ⟨a, vs, e, h1, h2⟩ := h
    exact ⟨a, vs, e, l.rd_f h1, Reps.monoV l h2⟩
  | .ins c ds, _, h => by
    simp only [Rep] at h ⊢
    obtain ⟨a, dx, vs, e, f, h1, h2⟩ := h
    obtain ⟨f', h1'⟩ := l.fz _ _ f h1
    exact ⟨a, dx, vs, e, f', h1', Reps.monoV l h2⟩
  | .loc i, _, h => by
    simp only [Rep] at h ⊢
    obtain ⟨a, e, h⟩ := h
    exact ⟨a, e, l.ix _ _ h⟩
  | .cls _, _, h => by simpa [Rep] using h
  | .lam _, _, h => by
    simp only [Rep] at h ⊢
    obtain ⟨L, a, c', h0, h1, h2, h3⟩ := h
    exact ⟨L, a, c', h0, h1, l.ex _ _ h2, l.ex _ _ h3⟩
theorem Reps.monoV (l : LatV H S H' S') : ∀ {ds : List D} {vs : List V}, Reps K G H S ds vs → Reps K G H' S' ds vs
  | [], _, h => by simpa [Reps] using h
  | d :: ds, vs, h => by
    simp only [Reps] at h ⊢
    obtain ⟨v, ws, e, h1, h2⟩ := h
    exact ⟨v, ws, e, Rep.monoV l h1, Reps.monoV l h2⟩
end
theorem KRep.monoV {κ : Type} {ds : List (κ × D)} {vs : List (κ × V)} (l : LatV H S H' S') (h : KRep K G H S ds vs) : KRep K G H' S' ds vs :=
  Paired.mapP h fun _ _ r => ⟨r.1, r.2.monoV l⟩
theorem CRep.monoV {c : Cell} {a : Addr} (l : LatV H S H' S') (e : ∀ o, H a = some o → H' a = some o) (h : CRep K G H S c a) : CRep K G H' S' c a := by
  cases c with
  | list ds =>
    obtain ⟨vs, h1, h2⟩ := h
    exact ⟨vs, e _ h1, h2.monoV l⟩
  | inst c fs =>
    obtain ⟨dx, vs, h1, h2, h3⟩ := h
    exact ⟨dx, vs, e _ h1, h2.monoV l, h3⟩
  | dK kvs =>
    obtain ⟨us, h1, h2⟩ := h
    exact ⟨us, e _ h1, h2.monoV l⟩
  | dT kvs =>
    obtain ⟨us, h1, h2⟩ := h
    exact ⟨us, e _ h1, h2.monoV l⟩
  | lT kvs =>
    obtain ⟨us, o, h1, h2⟩ := h
    exact ⟨us, o, e _ h1, h2.monoV l⟩
  | dead => trivial
/-- the dict's lock goes -/
theorem Ws.unlock {st : Sto} {i : Nat} {a : Addr} {kvs kvs' : List (List Key × D)} {us : List (List Key × V)} {od : Obj} (w : Ws K G H S st) (h : st[i]? = some (.lT kvs')) (ha : S.ρ[i]? = some a) (hH : H a = some (.frz od (.dT us))) (hk : KRep K G H S kvs us) :
    LatV H S (upd H a (.dT us)) S ∧ Ws K G (upd H a (.dT us)) S (st.set i (.dT kvs)) := by
  have nf := w.nf i a _ ha h (by intro z; cases z)
  have l : LatV H S (upd H a (.dT us)) S := {
    fz := fun x u f e => by
      have hx : x ≠ a := fun q => nf (q ▸ f)
      exact ⟨f, by rw [upd_ne hx]; exact e⟩
    tp := fun x xs e => by
      have hx : x ≠ a := fun q => by rw [q, hH] at e; cases e
      rw [upd_ne hx]
      exact e
    fr := fun x u v e => by
      have hx : x ≠ a := fun q => by rw [q, hH] at e; cases e
      rw [upd_ne hx]
      exact e
    ex := fun x u e => by
      have hx : x ≠ a := fun q => by rw [q, hH] at e; cases e
      rw [upd_ne hx]
      exact e
    ix := fun _ _ e => e }
  refine ⟨l, ⟨by rw [List.length_set]; exact w.len, w.nd, fun j b hj => ?_, fun j b d hj hd nd => ?_, w.np, w.dj, fun b f => ?_, fun j b d hj hd => ?_, fun b f => ?_, fun q hq => (w.tb q hq).upd (fun ps e => by rw [hH] at e; cases e) (fun _ e => by rw [hH] at e; cases e), w.cp.monoV l⟩⟩
  · by_cases e : b = a
    · rw [e]
      exact ⟨_, upd_same⟩
    · rw [upd_ne e]
      exact w.rl j b hj
  · by_cases e : j = i
    · subst e
      rw [hj] at ha
      rw [Option.some.inj ha]
      exact nf
    · rw [List.getElem?_set_ne (fun q => e q.symm)] at hd
      exact w.nf j b d hj hd nd
  · obtain ⟨u, q⟩ := w.pf b f
    have hb : b ≠ a := fun z => w.np i a ha (z ▸ f)
    exact ⟨u, by rw [upd_ne hb]; exact q⟩
  · by_cases e : j = i
    · subst e
      rw [hj] at ha
      have eb := Option.some.inj ha
      subst eb
      rw [List.getElem?_set_self (List.getElem?_eq_some_iff.mp h).1] at hd
      rw [← Option.some.inj hd]
      exact ⟨us, upd_same, hk.monoV l⟩
    · rw [List.getElem?_set_ne (fun q => e q.symm)] at hd
      have hb : b ≠ a := by
        intro q
        subst q
        have h1 := List.getElem?_eq_some_iff.mp hj
        have h2 := List.getElem?_eq_some_iff.mp ha
        exact e (List.getElem_inj (h₀ := h1.1) (h₁ := h2.1) w.nd |>.mp (h1.2.trans h2.2.symm))
      exact (w.cr j b d hj hd).monoV l fun u q => by
        rw [upd_ne hb]
        exact q
  · by_cases e : b = a
    · rw [e]
      exact ⟨_, upd_same⟩
    · rw [upd_ne e]
      exact w.fr b f
end
theorem upd_two {H : Hp} {a b : Addr} {o u : HO} (h : a ≠ b) : upd (upd H a o) b u = upd (upd H b u) a o := by
  funext x
  by_cases h1 : x = a
  · subst h1
    rw [upd_ne h, upd_same, upd_same]
  · rw [upd_ne h1]
    by_cases h2 : x = b
    · subst h2
      rw [upd_same, upd_same]
    · rw [upd_ne h2, upd_ne h2, upd_ne h1]
def keyTup (k : List Key) : D := .tup (k.map keyToD)
/-- [.. for key in d], d a name -/
def lLcT (i : Nat) (vs : List Nat) (g : DenG) (P : DenB) (A : Den) : DenL := fun env st => match env[i]? with
  | some (some (.loc n)) => match st[n]? with
    | some (.dT kvs) => (noX (lcIt (fun _ => true) vs g P A env (kvs.map fun p => keyTup p.1) [] (st.set n (.lT kvs)))).bind fun l s => match s[n]? with
      | some (.lT _) => .ok l (s.set n (.dT kvs))
      | _ => .bad
    | _ => .bad
  | _ => .bad
section
variable {X : Cx} {G : GT} {W : WX} {g : DenG} {P : DenB} {A : Den} {elt tg iter : Expr} {ifs : List Expr} {scope : Scope} {own : List (Str × Nat)} {pos p2 : Pos}
theorem wk_keysT {K : PySem.W.Frag} {S : Vw} {H : Hp} {d : Addr} {o : Obj} {us : List (List Key × V)} {kvs : List (List Key × D)} (h : H d = some (.frz o (.dT us))) (hk : kvs.map (·.1) = us.map (·.1)) :
    Wk K G (Itkt d o us) (kvs.map fun p => keyTup p.1, fun _ => true) S H := by
  have hl : kvs.length = us.length := by have := congrArg List.length hk; simpa using this
  intro S' H' st' i lt w k
  have h' := lt.fr _ _ _ h
  refine ⟨fun d hd => ?_, fun hle => ⟨h', by simpa [hl] using hle⟩⟩
  have hd' : (kvs.map fun p => keyTup p.1)[i]? = some d := hd
  rw [List.getElem?_map] at hd'
  obtain ⟨p, hp, rfl⟩ := Option.map_eq_some_iff.mp hd'
  have hi : i < us.length := by
    have := (List.getElem?_eq_some_iff.mp hp).1
    omega
  refine ⟨⟨h', hi⟩, fun x H2 hy => ?_⟩
  obtain ⟨rfl, k, v, q, h1, rfl, h2⟩ := hy
  have ek : p.1 = k := by
    have e1 : (kvs.map (·.1))[i]? = some p.1 := by rw [List.getElem?_map, hp]; rfl
    rw [hk, List.getElem?_map, h1] at e1
    exact (Option.some.inj e1).symm
  refine ⟨S', .refl, w, ?_⟩
  subst ek
  unfold keyTup
  simp only [Rep]
  exact ⟨q, _, rfl, h2, mk_keys _⟩
theorem KRep.fst {K : PySem.W.Frag} {κ : Type} {H : Hp} {S : Vw} {kvs : List (κ × D)} {us : List (κ × V)} (h : KRep K G H S kvs us) : kvs.map (·.1) = us.map (·.1) := by
  unfold KRep at h
  induction h with
  | nil => rfl
  | cons h _ ih => rw [List.map_cons, List.map_cons, h.1, ih]
theorem el_lcT (i : Nat) (hc : X.calm = true) (hN : X.N.Nodup) (hi : PE X iter (tVar i)) (ok : BlkOk X.N X.env.scope scope own)
    (hg : ∀ (s : Shared) (H : Hp) (C : Addr) (cl : List (Str × Addr)) (fp : List Addr), EGw (X.blk s H scope (compEnvC scope cl C X.env) fp) G g (own.map (·.2)) tg) (ht : ∀ (s : Shared) (H : Hp) (C : Addr) (cl : List (Str × Addr)) (fp : List Addr), EBs (X.blk s H scope (compEnvC scope cl C X.env) fp) G W0 P ifs)
    (he : ∀ (s : Shared) (H : Hp) (C : Addr) (cl : List (Str × Addr)) (fp : List Addr), ED (X.blk s H scope (compEnvC scope cl C X.env) fp) G W0 A elt) (hs : ∀ x, foldedSetIterable iter X.env x = pure x := by intro _; rfl) :
    EL X G W (lLcT i (own.map (·.2)) g P A) (.ListComp elt [⟨tg, iter, ifs, 0⟩] scope pos) :=
  PE.imp (pe_lock (pe_lc (g := tGw X.K G g (own.map (·.2))) (tt := tT X.K G W0 P) (te := tD X.K G W0 A) hc hN (pi_keys hi) ok hg ht he hs)) fun σ H Q ⟨S, env, st, m, q⟩ => by
    unfold lLcT at q
    cases e1 : env[i]? with
    | none => rw [e1] at q; exact q.elim
    | some o1 =>
    cases o1 with
    | none => rw [e1] at q; exact q.elim
    | some d =>
    cases d with
    | loc n =>
      rw [e1] at q
      dsimp only at q
      cases e2 : st[n]? with
      | none => rw [e2] at q; exact q.elim
      | some c =>
      cases c with
      | dT kvs =>
        rw [e2] at q
        dsimp only at q
        obtain ⟨v, hv, rv⟩ := m.er.at_ i _ e1
        simp only [Rep] at rv
        obtain ⟨a, rfl, ha⟩ := rv
        obtain ⟨us, h1, h2⟩ := m.ws.cr n a _ ha e2
        have nt := nt_of h1 rfl
        have nF : ¬ S.F a := m.ws.nf n a _ ha e2 (by intro z; cases z)
        have nP : ¬ S.P a := m.ws.np n a ha
        refine ⟨a, _, h1, trivial, fun od => ⟨_, hv, a, od, rfl, .inr ⟨us, upd_same, fun D hD => ?_⟩⟩⟩
        obtain ⟨l1, -⟩ := m.ws.write (o := .frz od (.dT us)) (c' := .dead) e2 ha (by intro z; cases z) nt trivial
        obtain ⟨-, w1⟩ := m.ws.write (o := .frz od (.dT us)) (c' := .lT kvs) e2 ha (by intro z; cases z) nt ⟨us, od, upd_same, h2.mono l1.toLatR⟩
        refine lc_of (W := W) (g := g) (P := P) (A := A) (env := env) (vs := own.map (·.2)) (Q := fun v H' => H' a = some (.frz od (.dT us)) ∧ Q v (upd H' a (.dT us))) (I := (kvs.map fun p => keyTup p.1, fun _ => true)) (wk_keysT upd_same h2.fst) ⟨w1, m.er.mono l1⟩ hD ?_
        have q0 : Post X.K G W0 σ S H _ _ := Post.noX (Post.bind q)
        cases er : lcIt (fun _ => true) (own.map (·.2)) g P A env (kvs.map fun p => keyTup p.1) [] (st.set n (.lT kvs)) with
        | bad => rw [er] at q; exact q.elim
        | exc c s => rw [er] at q; exact q.elim
        | ok l s =>
          rw [er] at q
          simp only [noX, Rs.bind] at q
          intro S' H' l2 w2 vs p rvs hp
          have hp2 : H' a = some (.frz od (.dT us)) := l2.fr _ _ _ upd_same
          have hpa : p ≠ a := fun z => by rw [z, hp2] at hp; cases hp
          refine ⟨by rw [upd_ne (Ne.symm hpa)]; exact hp2, ?_⟩
          cases es : s[n]? with
          | none => rw [es] at q; exact q.elim
          | some c =>
          cases c with
          | lT kvs' =>
            rw [es] at q
            dsimp only at q
            have ha' := l2.toLatR.ix ha
            have hk' : KRep X.K G H' S' kvs us := (h2.mono l1.toLatR).mono l2.toLatR
            obtain ⟨lv, w3⟩ := w2.unlock es ha' hp2 hk'
            have l12 := l1.trans l2
            have lL : Lat H S (upd H' a (.dT us)) S' := {
              fz := fun x u f e => by
                have hx : x ≠ a := fun z => nF (z ▸ f)
                obtain ⟨f2, e3⟩ := l12.fz x u f e
                exact ⟨f2, by rw [upd_ne hx]; exact e3⟩
              pp := fun x u f e => by
                have hx : x ≠ a := fun z => nP (z ▸ f)
                obtain ⟨f2, e3⟩ := l12.pp x u f e
                exact ⟨f2, by rw [upd_ne hx]; exact e3⟩
              tp := fun x xs e => by
                have hx : x ≠ a := fun z => by rw [z, h1] at e; cases e
                rw [upd_ne hx]
                exact l12.tp _ _ e
              fr := fun x u v e => by
                have hx : x ≠ a := fun z => by rw [z, h1] at e; cases e
                rw [upd_ne hx]
                exact l12.fr _ _ _ e
              ex := fun x u e => by
                have hx : x ≠ a := fun z => by rw [z, h1] at e; cases e
                rw [upd_ne hx]
                exact l12.ex _ _ e
              pr := l12.pr }
            have z := q S' _ lL w3 vs p (rvs.monoV lv) (by rw [upd_ne hpa]; exact hp)
            rw [upd_two hpa]
            exact z
          | _ => rw [es] at q; exact q.elim
      | _ => rw [e2] at q; exact q.elim
    | _ => rw [e1] at q; exact q.elim
end
end Wt

/-! Core 12: range with a step. -/
namespace Wt
open PySem PySem.Spec PyProof.Rows L2
def stepD (lo c : Int) : Nat → List D
  | 0 => []
  | n + 1 => .int lo :: stepD (lo + c) c n
theorem stepD_len (c : Int) : ∀ (n : Nat) (lo : Int), (stepD lo c n).length = n
  | 0, _ => rfl
  | n + 1, lo => by rw [stepD, List.length_cons, stepD_len c n]
theorem stepD_get (c : Int) : ∀ (n i : Nat) (lo : Int), i < n → (stepD lo c n)[i]? = some (.int (lo + (i : Nat) * c))
  | 0, _, _, h => absurd h (Nat.not_lt_zero _)
  | n + 1, 0, lo, _ => by simp [stepD]
  | n + 1, i + 1, lo, h => by
    rw [stepD, List.getElem?_cons_succ, stepD_get c n i (lo + c) (by omega)]
    congr 2
    rw [Int.natCast_succ, Int.add_mul]
    omega
def iRng3D (As : DenL) : DenI := fun env st => (As env st).bind fun l s => match l with
  | [.int i, .int j, .int c] => if decide (c ≠ 0) && decide (c.natAbs < 1073741824) && Builtin.Range.small i j c && decide (Builtin.Range.rangeSize i j c = ((Builtin.Range.rangeSize i j c).toNat : Int)) then .ok (stepD i c (Builtin.Range.rangeSize i j c).toNat, fun _ => true) s else .bad
  | _ => .bad
theorem wk_rngC {K : PySem.W.Frag} {G : GT} {S : Vw} {H : Hp} {lo c : Int} {n : Nat} : Wk K G (Itc lo c n) (stepD lo c n, fun _ => true) S H := by
  intro S' H' st' i lt w k
  refine ⟨fun d hd => ?_, fun hl => ?_⟩
  · have hi : i < n := by
      have := (List.getElem?_eq_some_iff.mp hd).1
      dsimp only at this
      rwa [stepD_len] at this
    refine ⟨hi, fun x H2 hy => ?_⟩
    obtain ⟨rfl, rfl⟩ := hy
    dsimp only at hd
    rw [stepD_get c n i lo hi] at hd
    rw [← Option.some.inj hd]
    exact ⟨S', .refl, w, mk_int⟩
  · dsimp only at hl
    rwa [stepD_len] at hl
section
variable {X : Cx} {G : GT} {W : WX} {As : DenL} {tg a b c : Expr} {p pos : Pos}
theorem ei_rng3 (hg : Gl X "range") (hm : X.mg "range" = none) (ha : EA X G W As [a, b, c])
    (hs : starEach [a, b, c] X.env = (false, eval a X.env) :: starEach [b, c] X.env := by rfl) (hpl : (backTo pos (starEach [b, c] X.env)).any (·.1) = false := by rfl) :
    EI X G W (iRng3D As) tg (.Call (.Name "range" p) [a, b, c] [] pos) :=
  PI.imp (pi_range3 hg hm ha hs hpl) fun σ H R ⟨S, env, st, m, q⟩ => ⟨S, env, st, m, Post.imp (Post.bind q) fun S1 H1 l s1 l1 w1 q vs rv => by
    split at q
    · rename_i i j c
      split at q
      · rename_i hz
        simp only [Bool.and_eq_true, decide_eq_true_eq] at hz
        obtain ⟨v, u, t, rfl, r, r2, r3⟩ := rv.three
        exact ⟨i, j, c, _, by rw [rep_int r, rep_int r2, rep_int r3], ⟨hz.1.1.1, hz.1.1.2, hz.1.2, hz.2⟩, Post.ok q w1 _ wk_rngC⟩
      · exact q.elim
    · exact q.elim⟩
end
theorem pe_vi {X : Cx} (i : Nat) {x : Str} {pos : Pos} (hN : X.N[i]? = some x := by rfl) (hv : Vis X.env.scope x := by first | exact Or.inl rfl | exact Or.inr (Or.inl rfl) | exact Or.inr (Or.inr rfl)) (hd : (x == ("__debug__" : Str)) = false := by decide)
    (hcd : (x == ("__classdict__" : Str)) = false := by decide) : PE X (.Name x pos) (tVar i) := pv i hN hv hd hcd
end Wt

namespace Wt
open PySem PySem.Spec PyProof.Rows L2
/-! ## what the denotations give: rows for simp -/
/-! what is done with a value, named -/
def getV (o : Option (Option D)) (st : Sto) : Rs D := match o with | some (some d) => .ok d st | _ => .bad
def optB {α β : Type} (o : Option α) (f : α → Rs β) : Rs β := match o with | some a => f a | none => .bad
def tstK (d : D) (s : Sto) : Rs Bool := match d with | .bl b => .ok b s | _ => .bad
def chK (g : D → D → Sto → Rs D) (C : Den) (env : En) (y z : D) (s : Sto) : Rs D := match z with
  | .bl true => (C env s).bind fun u s => noX (g y u s)
  | .bl false => .ok (.bl false) s
  | _ => .bad
def andK (B : Den) (env : En) (d : D) (s : Sto) : Rs D := match d with | .bl true => B env s | .bl false => .ok (.bl false) s | _ => .bad
def orK (B : Den) (env : En) (d : D) (s : Sto) : Rs D := match d with | .bl true => .ok (.bl true) s | .bl false => B env s | _ => .bad
def notK (d : D) (s : Sto) : Rs D := match d with | .bl b => .ok (.bl (!b)) s | _ => .bad
def intK (d : D) (s : Sto) : Rs (Option Int) := match d with | .int i => .ok (some i) s | _ => .bad
def mkK (n : Nat) (r : Rs D) : Rs D := match r with | .ok .non s' => .ok (.loc n) s' | .exc c s' => .exc c s' | _ => .bad
def lstAt (o : Option Cell) : Option (List D) := match o with | some (.list l) => some l | _ => none
def insAt (o : Option Cell) : Option (Nat × List D) := match o with | some (.inst c l) => some (c, l) | _ => none
def tyAt (o : Option Cell) : Option Ty := match o with | some (.list _) => some .lst | some (.dK _) => some .dct | some (.dT _) => some .dct | _ => none
def lmK (f : LmF) (As : DenL) (env : En) (d : D) (s : Sto) : Rs D := match d with
  | .loc i => optB (lstAt s[i]?) fun _ => (As env s).bind fun args s => optB (lstAt s[i]?) fun l => optB (f s l args) fun q => .ok q.1 (s.set i (.list q.2))
  | _ => .bad
def seqK (r : Fl) (f : DenS) : Fl := match r with | .nx env st => f env st | r => r
def asgK (o : Option En) (s : Sto) : Fl := match o with | some env' => .nx env' s | none => .bad
def runK (r : Fl) : Rs D := match r with | .nx _ s => .ok .non s | .rt d s => .ok d s | .exc c _ s => .exc c s | _ => .bad
def fldK (f : Str) (y : D) (env : En) (d : D) (s : Sto) : Fl := match d with
  | .loc i => match insAt s[i]? with
    | some (c, fs) => match ixOf f (nms c) with
      | some j => if Nat.blt j fs.length then .nx env (s.set i (.inst c (fs.set j y))) else if Nat.beq j fs.length then .nx env (s.set i (.inst c (fs ++ [y]))) else .bad
      | none => .bad
    | none => .bad
  | _ => .bad
def allB (l : List Bool) : Bool := l.all id
def anyB (l : List Bool) : Bool := l.any id
def setK (y : D) (env : En) (d k : D) (s : Sto) : Fl := match d, k with
  | .loc i, .int z => match lstAt s[i]? with
    | some l => match ixN l.length z with
      | some j => .nx env (s.set i (.list (l.set j y)))
      | none => .bad
    | none => .bad
  | _, _ => .bad
def tupK (d : D) (s : Sto) : Rs Itm := match d with | .tup l => .ok (l, fun _ => true) s | _ => .bad
def rng1K (l : List D) (s : Sto) : Rs Itm := match l with
  | [.int j] => if decide (-(2 ^ 62) ≤ j) && decide (j < 2 ^ 62) then .ok (rngD 0 j.toNat, fun _ => true) s else .bad
  | _ => .bad
def rng2K (l : List D) (s : Sto) : Rs Itm := match l with
  | [.int i, .int j] => if decide (-(2 ^ 62) ≤ i) && decide (i < 2 ^ 62) && decide (-(2 ^ 62) ≤ j) && decide (j < 2 ^ 62) then .ok (rngD i (j - i).toNat, fun _ => true) s else .bad
  | _ => .bad
def enumK (l : List D) (s : Sto) : Rs Itm := match l with
  | [d] => match getL s d with | some l => .ok (zipIx 0 l, keepL d l) s | none => .bad
  | _ => .bad
def zipK (l : List D) (s : Sto) : Rs Itm := match l with
  | [d, e] => match getL s d, getL s e with
    | some l, some m => .ok (zipD l m, fun s => keepL d l s && keepL e m s) s
    | _, _ => .bad
  | _ => .bad
section
variable {α β : Type} {env : En} {st s : Sto}
@[simp] theorem getV_some (d : D) : getV (some (some d)) st = .ok d st := (rfl)
@[simp] theorem optB_some (a : α) (f : α → Rs β) : optB (some a) f = f a := (rfl)
@[simp] theorem tstK_bl (b : Bool) : tstK (.bl b) s = .ok b s := (rfl)
@[simp] theorem chK_bl (g : D → D → Sto → Rs D) (C : Den) (y : D) (b : Bool) : chK g C env y (.bl b) s = if b then (C env s).bind fun u s => noX (g y u s) else .ok (.bl false) s := by cases b <;> rfl
@[simp] theorem andK_bl (B : Den) (b : Bool) : andK B env (.bl b) s = if b then B env s else .ok (.bl false) s := by cases b <;> rfl
@[simp] theorem orK_bl (B : Den) (b : Bool) : orK B env (.bl b) s = if b then .ok (.bl true) s else B env s := by cases b <;> rfl
@[simp] theorem notK_bl (b : Bool) : notK (.bl b) s = .ok (.bl (!b)) s := (rfl)
@[simp] theorem intK_int (i : Int) : intK (.int i) s = .ok (some i) s := (rfl)
@[simp] theorem mkK_ok (n : Nat) : mkK n (.ok .non s) = .ok (.loc n) s := (rfl)
@[simp] theorem mkK_exc (n c : Nat) : mkK n (.exc c s) = .exc c s := (rfl)
@[simp] theorem lstAt_list (l : List D) : lstAt (some (.list l)) = some l := (rfl)
@[simp] theorem insAt_inst (c : Nat) (l : List D) : insAt (some (.inst c l)) = some (c, l) := (rfl)
@[simp] theorem tyAt_list (l : List D) : tyAt (some (.list l)) = some .lst := (rfl)
@[simp] theorem lmK_loc (f : LmF) (As : DenL) (i : Nat) : lmK f As env (.loc i) s = optB (lstAt s[i]?) fun _ => (As env s).bind fun args s => optB (lstAt s[i]?) fun l => optB (f s l args) fun q => .ok q.1 (s.set i (.list q.2)) := (rfl)
@[simp] theorem seqK_nx (f : DenS) : seqK (.nx env s) f = f env s := (rfl)
@[simp] theorem seqK_rt (f : DenS) (d : D) : seqK (.rt d s) f = .rt d s := (rfl)
@[simp] theorem seqK_exc (f : DenS) (c : Nat) : seqK (.exc c env s) f = .exc c env s := (rfl)
@[simp] theorem seqK_bk (f : DenS) : seqK (.bk env s) f = .bk env s := (rfl)
@[simp] theorem seqK_ct (f : DenS) : seqK (.ct env s) f = .ct env s := (rfl)
@[simp] theorem asgK_some : asgK (some env) s = .nx env s := (rfl)
@[simp] theorem runK_nx : runK (.nx env s) = .ok .non s := (rfl)
@[simp] theorem runK_rt (d : D) : runK (.rt d s) = .ok d s := (rfl)
@[simp] theorem runK_exc (c : Nat) : runK (.exc c env s) = .exc c s := (rfl)
@[simp] theorem tupK_tup (l : List D) : tupK (.tup l) s = .ok (l, fun _ => true) s := (rfl)
@[simp] theorem rng1K_int (j : Int) : rng1K [.int j] s = if decide (-4611686018427387904 ≤ j) && decide (j < 4611686018427387904) then .ok (rngD 0 j.toNat, fun _ => true) s else .bad := (rfl)
@[simp] theorem rng2K_int (i j : Int) : rng2K [.int i, .int j] s = if decide (-4611686018427387904 ≤ i) && decide (i < 4611686018427387904) && decide (-4611686018427387904 ≤ j) && decide (j < 4611686018427387904) then .ok (rngD i (j - i).toNat, fun _ => true) s else .bad := (rfl)
def itmOf (s : Sto) (o : Option (List D)) (f : List D → Itm) : Rs Itm := match o with | some l => .ok (f l) s | none => .bad
@[simp] theorem itmOf_some (l : List D) (f : List D → Itm) : itmOf s (some l) f = .ok (f l) s := (rfl)
@[simp] theorem enumK_ap (d : D) : enumK [d] s = itmOf s (getL s d) fun l => (zipIx 0 l, keepL d l) := by cases h : getL s d <;> simp [enumK, itmOf, h]
@[simp] theorem zipK_ap (d e : D) : zipK [d, e] s = match getL s d, getL s e with
    | some l, some m => (.ok (zipD l m, fun s => keepL d l s && keepL e m s) s : Rs Itm)
    | _, _ => .bad := (rfl)
@[simp] theorem fldK_loc (f : Str) (y : D) (i : Nat) : fldK f y env (.loc i) s = match insAt s[i]? with
    | some (c, fs) => match ixOf f (nms c) with
      | some j => if Nat.blt j fs.length then .nx env (s.set i (.inst c (fs.set j y))) else if Nat.beq j fs.length then .nx env (s.set i (.inst c (fs ++ [y]))) else .bad
      | none => .bad
    | none => .bad := (rfl)
@[simp] theorem setK_loc (y : D) (i : Nat) (z : Int) : setK y env (.loc i) (.int z) s = match lstAt s[i]? with
    | some l => match ixN l.length z with
      | some j => .nx env (s.set i (.list (l.set j y)))
      | none => .bad
    | none => .bad := (rfl)
end
section
variable {α β : Type} {env : En} {st s : Sto} {A B C : Den} {As : DenL} {P R : DenB} {S1 S2 : DenS} {f g : D → D → Sto → Rs D}
@[simp] theorem bind_ok (a : α) (f : α → Sto → Rs β) : (Rs.ok a st).bind f = f a st := (rfl)
@[simp] theorem bind_exc (c : Nat) (f : α → Sto → Rs β) : (Rs.exc c st : Rs α).bind f = .exc c st := (rfl)
@[simp] theorem noX_ok (a : α) : noX (Rs.ok a st) = .ok a st := (rfl)
@[simp] theorem then_ok (a : α) (f : α → Sto → Fl) : (Rs.ok a st).then env f = f a st := (rfl)
@[simp] theorem then_exc (c : Nat) (f : α → Sto → Fl) : (Rs.exc c st : Rs α).then env f = .exc c env st := (rfl)
@[simp] theorem dVar_ap (i : Nat) : dVar i env st = getV env[i]? st := (rfl)
@[simp] theorem dC_ap (d : D) : dC d env st = .ok d st := (rfl)
@[simp] theorem dOp_ap : dOp f A B env st = (A env st).bind fun x s => (B env s).bind fun y s => noX (f x y s) := (rfl)
@[simp] theorem dUn_ap (f : D → Sto → Rs D) : dUn f A env st = (A env st).bind fun x s => noX (f x s) := (rfl)
@[simp] theorem dTest_ap : dTest A env st = (A env st).bind fun d s => tstK d s := (rfl)
@[simp] theorem dChain_ap : dChain f g A B C env st = (A env st).bind fun x s => (B env s).bind fun y s => (noX (f x y s)).bind fun z s => chK g C env y z s := (rfl)
@[simp] theorem bAnd_ap : bAnd P R env st = (P env st).bind fun b s => if b then R env s else .ok false s := (rfl)
@[simp] theorem bOr_ap : bOr P R env st = (P env st).bind fun b s => if b then .ok true s else R env s := (rfl)
@[simp] theorem bNot_ap : bNot P env st = (P env st).bind fun b s => .ok (!b) s := (rfl)
@[simp] theorem dAnd_ap : dAnd A B env st = (A env st).bind fun d s => andK B env d s := (rfl)
@[simp] theorem dOr_ap : dOr A B env st = (A env st).bind fun d s => orK B env d s := (rfl)
@[simp] theorem dNot_ap : dNot A env st = (A env st).bind fun d s => notK d s := (rfl)
@[simp] theorem dIf_ap : dIf P A B env st = (P env st).bind fun b s => if b then A env s else B env s := (rfl)
@[simp] theorem aNil_ap : aNil env st = .ok [] st := (rfl)
@[simp] theorem aCons_ap : aCons A As env st = (A env st).bind fun x s => (As env s).bind fun l s => .ok (x :: l) s := (rfl)
@[simp] theorem dTup_ap : dTup As env st = (As env st).bind fun l s => if szOk l.length then .ok (.tup l) s else .bad := (rfl)
@[simp] theorem lLst_ap : lLst As env st = (As env st).bind fun l s => if szOk l.length then .ok l s else .bad := (rfl)
@[simp] theorem dDat_ap : dDat As env st = (As env st).bind fun l s => .ok (.lst l) s := (rfl)
@[simp] theorem dCel_ap : dCel As env st = (As env st).bind fun l s => .ok (.loc s.length) (s ++ [.list l]) := (rfl)
@[simp] theorem lCat_ap : lCat A B env st = (A env st).bind fun x s => (B env s).bind fun y s => optB (getM s x) fun l => optB (getM s y) fun m => if szOk (l.length + m.length) then .ok (l ++ m) s else .bad := by
  unfold lCat optB
  congr
  funext x s
  congr
  funext y s
  cases getM s x <;> cases getM s y <;> rfl
@[simp] theorem dCall_ap (f : List D → Sto → Rs D) : dCall f As env st = (As env st).bind fun l s => noX (f l s) := (rfl)
@[simp] theorem lCall_ap (f : List D → Sto → Option (List D)) : lCall f As env st = (As env st).bind fun l s => optB (f l s) fun m => .ok m s := by
  unfold lCall optB
  congr
  funext l s
  cases f l s <;> rfl
@[simp] theorem oNone_ap : oNone env st = .ok none st := (rfl)
@[simp] theorem oSome_ap : oSome A env st = (A env st).bind fun d s => intK d s := (rfl)
@[simp] theorem dSl_ap (L U : DenO) : dSl A L U env st = (A env st).bind fun x s => (L env s).bind fun lo s => (U env s).bind fun hi s => fSl x lo hi s := (rfl)
@[simp] theorem lSl_ap (L U : DenO) : lSl A L U env st = (A env st).bind fun x s => (L env s).bind fun lo s => (U env s).bind fun hi s => optB (getL s x) fun l => .ok (cutD l lo hi) s := by
  unfold lSl optB
  congr
  funext x s
  congr
  funext lo s
  congr
  funext hi s
  cases getL s x <;> rfl
@[simp] theorem lRev_ap : lRev A env st = (A env st).bind fun d s => optB (getL s d) fun l => .ok l.reverse s := by
  unfold lRev optB
  congr
  funext d s
  cases getL s d <;> rfl
@[simp] theorem dLenSet_ap : dLenSet A env st = (A env st).bind fun d s => optB ((getL s d).bind intsOf) fun ns => if Nat.ble ns.length 4000 then .ok (.int (nDist ns : Nat)) s else .bad := by
  unfold dLenSet optB
  congr
  funext d s
  cases (getL s d).bind intsOf <;> rfl
@[simp] theorem dIsB_ap (t : Ty) : dIsB t A env st = (A env st).bind fun d s => optB (tyD s d) fun u => .ok (.bl (u.sub t)) s := by
  unfold dIsB optB
  congr
  funext d s
  cases tyD s d <;> rfl
@[simp] theorem dIsC_ap (cs : List Nat) (c : Nat) : dIsC cs c A env st = (A env st).bind fun d s => optB (clsD s d) fun u => if cs.contains u then .ok (.bl (subC u c)) s else .bad := by
  unfold dIsC optB
  congr
  funext d s
  cases clsD s d <;> rfl
@[simp] theorem dFn_ap (n : Nat) (d : DenF) : dFn n d As env st = (As env st).bind fun l s => if Nat.beq l.length n then d l s else .bad := (rfl)
@[simp] theorem dMeth_ap (ms : Mths) : dMeth ms A As env st = (A env st).bind fun x s => optB ((clsD s x).bind ms) fun q => (As env s).bind fun l s => if Nat.beq (l.length + 1) q.1 then q.2 (x :: l) s else .bad := by
  unfold dMeth optB
  congr
  funext x s
  cases (clsD s x).bind ms <;> rfl
@[simp] theorem dMk0_ap (c : Nat) : dMk0 c env st = .ok (.ins c []) st := (rfl)
@[simp] theorem dMk_ap (c n : Nat) (d : DenF) : dMk c n d As env st = (As env st).bind fun l s => if Nat.beq (l.length + 1) n then mkK s.length (d (.loc s.length :: l) (s ++ [.inst c []])) else .bad := (rfl)
@[simp] theorem dFld_ap (f : Str) : dFld f A env st = (A env st).bind fun d s => optB (insD s d) fun q => optB ((ixOf f (nms q.1)).bind fun i => q.2[i]?) fun x => .ok x s := by
  unfold dFld optB
  congr
  funext d s
  cases insD s d with
  | none => rfl
  | some q =>
    obtain ⟨c, fs⟩ := q
    cases h2 : (ixOf f (nms c)).bind fun i => fs[i]? <;> simp [h2]
@[simp] theorem dLm_ap (f : LmF) : dLm f A As env st = (A env st).bind fun d s => lmK f As env d s := by
  unfold dLm
  congr
  funext d s
  unfold lmK
  cases d with
  | loc i =>
    cases h : s[i]? with
    | none => simp [h, lstAt, optB]
    | some c =>
      cases c with
      | list l =>
        simp only [h, lstAt_list, optB_some]
        congr
        funext args s2
        cases h2 : s2[i]? with
        | none => simp [lstAt, optB]
        | some c => cases c with
          | list m =>
            simp only [lstAt_list, optB_some]
            cases f s2 m args <;> rfl
          | _ => simp [lstAt, optB]
      | _ => simp [h, lstAt, optB]
  | _ => rfl
@[simp] theorem sNil_ap : sNil env st = .nx env st := (rfl)
@[simp] theorem sSeq_ap : sSeq S1 S2 env st = seqK (S1 env st) S2 := (rfl)
@[simp] theorem sExpr_ap : sExpr A env st = (A env st).then env fun _ s => .nx env s := (rfl)
@[simp] theorem sRet_ap : sRet A env st = (A env st).then env fun d s => .rt d s := (rfl)
@[simp] theorem sIf_ap : sIf P S1 S2 env st = (P env st).then env fun b s => if b then S1 env s else S2 env s := (rfl)
@[simp] theorem gVar_ap (i : Nat) (d : D) : gVar i d env = some (env.set i (some d)) := (rfl)
@[simp] theorem gVars_nil : gVars [] [] env = some env := (rfl)
@[simp] theorem gVars_cons (i : Nat) (is : List Nat) (d : D) (ds : List D) : gVars (i :: is) (d :: ds) env = gVars is ds (env.set i (some d)) := (rfl)
@[simp] theorem gTupV_ap (is : List Nat) (ds : List D) : gTupV is (.tup ds) env = gVars is ds env := (rfl)
@[simp] theorem sAsg_ap (g : DenG) : sAsg g A env st = (A env st).then env fun d s => asgK (g d env) s := (rfl)
@[simp] theorem sPar_ap (is : List Nat) : sPar is As env st = (As env st).then env fun ds s => asgK (gVars is ds env) s := (rfl)
@[simp] theorem sFldD_ap (f : Str) : sFldD f A B env st = (B env st).then env fun y s => (A env s).then env fun d s => fldK f y env d s := by
  unfold sFldD
  congr
  funext y s
  congr
  funext d s
  unfold fldK
  cases d with
  | loc i => cases h : s[i]? with
    | none => simp [h, insAt]
    | some c => cases c with
      | inst c fs => (simp only [h, insAt_inst]) <;> (cases ixOf f (nms c) <;> rfl)
      | _ => simp [h, insAt]
  | _ => rfl
@[simp] theorem sSetL_ap (I : Den) : sSetL A I B env st = (B env st).then env fun y s => (A env s).then env fun d s => (I env s).then env fun k s => setK y env d k s := by
  unfold sSetL
  congr
  funext y s
  congr
  funext d s
  congr
  funext k s
  unfold setK
  cases d with
  | loc i => cases k with
    | int z => cases h : s[i]? with
      | none => simp [h, lstAt]
      | some c => cases c with
        | list l => (simp only [h, lstAt_list]) <;> (cases ixN l.length z <;> rfl)
        | _ => simp [h, lstAt]
    | _ => rfl
  | _ => rfl
@[simp] theorem sRaise_ap (c : Nat) : sRaise c env st = .exc c env st := (rfl)
@[simp] theorem sFor_ap (I : DenI) (g : DenG) : sFor I g S1 env st = (I env st).then env fun I s => forIt I.2 g S1 I.1 env s := (rfl)
@[simp] theorem lLc_ap (I : DenI) (vs : List Nat) (g : DenG) : lLc I vs g P A env st = (I env st).bind fun I s => lcIt I.2 vs g P A env I.1 [] s := (rfl)
@[simp] theorem bYes_ap : bYes env st = .ok true st := (rfl)
@[simp] theorem iLst_ap : iLst A env st = (A env st).bind fun d s => itmOf s (getL s d) fun l => (l, keepL d l) := by
  unfold iLst itmOf
  congr
@[simp] theorem iTupD_ap : iTupD A env st = (A env st).bind fun d s => tupK d s := (rfl)
@[simp] theorem iRng1D_ap : iRng1D As env st = (As env st).bind fun l s => rng1K l s := (rfl)
@[simp] theorem iRng2D_ap : iRng2D As env st = (As env st).bind fun l s => rng2K l s := (rfl)
@[simp] theorem iEnumD_ap : iEnumD As env st = (As env st).bind fun l s => enumK l s := (rfl)
@[simp] theorem iZipD_ap : iZipD As env st = (As env st).bind fun l s => zipK l s := (rfl)
theorem run_ap (n : Nat) (B : DenS) (ds : List D) : run n B ds st = runK (B (ds.map some ++ List.replicate (n - ds.length) none) st) := (rfl)
theorem pureF_ap (f : DenF) (ds : List D) : pureF f ds st = leave st (f ds st) := (rfl)
@[simp] theorem dPure_ap : dPure A env st = leave st (A env st) := (rfl)
end
section
variable {st : Sto} (i j : Int) (l m : List D) (a b : Bool) (x y : Str)
@[simp] theorem fAdd_int : fAdd (.int i) (.int j) st = .ok (.int (i + j)) st := (rfl)
@[simp] theorem fAdd_tup : fAdd (.tup l) (.tup m) st = if !l.isEmpty && !m.isEmpty && szOk (l.length + m.length) then .ok (.tup (l ++ m)) st else .bad := (rfl)
@[simp] theorem fAdd_lst : fAdd (.lst l) (.lst m) st = if szOk (l.length + m.length) then .ok (.lst (l ++ m)) st else .bad := (rfl)
theorem fAdd_loc (n : Nat) : fAdd (.loc n) (.lst m) st = optB (lstAt st[n]?) fun l => if szOk (l.length + m.length) then .ok (.lst (l ++ m)) st else .bad := by
  cases h : st[n]? with
  | none => simp [fAdd, getM, h, optB, lstAt]
  | some c => cases c <;> simp [fAdd, getM, h, optB, lstAt]
@[simp] theorem fSub_int : fSub (.int i) (.int j) st = .ok (.int (i - j)) st := (rfl)
@[simp] theorem fMul_int : fMul (.int i) (.int j) st = if MulOk i j then .ok (.int (i * j)) st else .bad := (rfl)
@[simp] theorem fMul_lst : fMul (.lst l) (.int j) st = if decide (-9223372036854775808 ≤ j) && decide (j < 9223372036854775808) && szOk (l.length * j.toNat) then .ok (.lst (List.replicate j.toNat l).flatten) st else .bad := (rfl)
theorem fDiv_int : fDiv (.int i) (.int j) st = if decide (0 < j) && decide (j.natAbs.log2 < 9000) then .ok (.int (i / j)) st else .bad := (rfl)
@[simp] theorem fMod_int : fMod (.int i) (.int j) st = if decide (0 < j) then .ok (.int (i % j)) st else .bad := (rfl)
@[simp] theorem fPow_int : fPow (.int i) (.int j) st = if decide (0 ≤ j) && decide (j ≤ 1000000) && decide (i.natAbs < 18446744073709551616) then .ok (.int (i ^ j.toNat)) st else .bad := (rfl)
@[simp] theorem fNeg_int : fNeg (.int i) st = .ok (.int (-i)) st := (rfl)
@[simp] theorem fLt_int : fLt (.int i) (.int j) st = .ok (.bl (decide (i < j))) st := (rfl)
@[simp] theorem fLe_int : fLe (.int i) (.int j) st = .ok (.bl (decide (i ≤ j))) st := (rfl)
@[simp] theorem fGt_int : fGt (.int i) (.int j) st = .ok (.bl (decide (j < i))) st := (rfl)
@[simp] theorem fGe_int : fGe (.int i) (.int j) st = .ok (.bl (decide (j ≤ i))) st := (rfl)
@[simp] theorem fEq_int : fEq (.int i) (.int j) st = .ok (.bl (decide (i = j))) st := by
  show (Rs.ok (D.bl (i == j)) st : Rs D) = _
  rw [show (i == j) = decide (i = j) from rfl]
@[simp] theorem fNe_int : fNe (.int i) (.int j) st = .ok (.bl (!decide (i = j))) st := by
  show (Rs.ok (D.bl (!(i == j))) st : Rs D) = _
  rw [show (i == j) = decide (i = j) from rfl]
@[simp] theorem fIs_bl : fIs (.bl a) (.bl b) st = .ok (.bl (decide (a = b))) st := (rfl)
@[simp] theorem fIsNot_bl : fIsNot (.bl a) (.bl b) st = .ok (.bl (!decide (a = b))) st := (rfl)
@[simp] theorem fIsN_ap (d : D) : fIsN d .non st = .ok (.bl d.isNon) st := (rfl)
@[simp] theorem fNotN_ap (d : D) : fNotN d .non st = .ok (.bl (!d.isNon)) st := (rfl)
@[simp] theorem fLen_ap (d : D) : fLen [d] st = optB (getS st d) fun l => .ok (.int (l.length : Int)) st := by cases h : getS st d <;> simp [fLen, optB, h]
@[simp] theorem fAbs_ap : fAbs [.int i] st = .ok (.int (if i < 0 then -i else i)) st := (rfl)
@[simp] theorem fMin2_ap : fMin2 [.int i, .int j] st = .ok (.int (if j < i then j else i)) st := (rfl)
@[simp] theorem fMax2_ap : fMax2 [.int i, .int j] st = .ok (.int (if j > i then j else i)) st := (rfl)
@[simp] theorem fSum_ap (d : D) : fSum [d] st = optB ((getL st d).bind intsOf) fun ns => .ok (.int ns.sum) st := by cases h : (getL st d).bind intsOf <;> simp [fSum, optB, h]
@[simp] theorem fAll_ap (d : D) : fAll [d] st = optB ((getL st d).bind blsOf) fun bs => .ok (.bl (allB bs)) st := by cases h : (getL st d).bind blsOf <;> simp [fAll, optB, h, allB]
@[simp] theorem fAny_ap (d : D) : fAny [d] st = optB ((getL st d).bind blsOf) fun bs => .ok (.bl (anyB bs)) st := by cases h : (getL st d).bind blsOf <;> simp [fAny, optB, h, anyB]
@[simp] theorem gList_ap (d : D) : gList [d] st = getS st d := (rfl)
@[simp] theorem fIx_ap (d : D) : fIx d (.int j) st = optB (getS st d) fun l => optB (atI l j) fun d => .ok d st := by
  cases h : getS st d with
  | none => simp [fIx, optB, h]
  | some l => cases h2 : atI l j <;> simp [fIx, optB, h, h2]
def srtK (o : Option (List D)) : Option (List D) := match o with | some l => if sortOk l then some (isort leD l) else none | none => none
theorem srtK_some {l : List D} (h : sortOk l = true) : srtK (some l) = some (isort leD l) := if_pos h
@[simp] theorem gSorted_ap (d : D) : gSorted [d] st = srtK (getL st d) := by cases h : getL st d <;> simp [gSorted, srtK, h]
@[simp] theorem getL_lst : getL st (.lst l) = some l := (rfl)
@[simp] theorem getL_scr : getL st (.scr l) = some l := (rfl)
@[simp] theorem getL_loc (n : Nat) : getL st (.loc n) = lstAt st[n]? := (rfl)
@[simp] theorem getM_lst : getM st (.lst l) = some l := (rfl)
@[simp] theorem getM_loc (n : Nat) : getM st (.loc n) = lstAt st[n]? := (rfl)
@[simp] theorem getS_tup : getS st (.tup l) = some l := (rfl)
@[simp] theorem getS_lst : getS st (.lst l) = some l := (rfl)
@[simp] theorem getS_scr : getS st (.scr l) = some l := (rfl)
@[simp] theorem getS_loc (n : Nat) : getS st (.loc n) = lstAt st[n]? := (rfl)
@[simp] theorem fSl_lst (lo hi : Option Int) : fSl (.lst l) lo hi st = .ok (.lst (cutD l lo hi)) st := (rfl)
@[simp] theorem fSl_scr (lo hi : Option Int) : fSl (.scr l) lo hi st = .ok (.lst (cutD l lo hi)) st := (rfl)
@[simp] theorem fSl_loc (n : Nat) (lo hi : Option Int) : fSl (.loc n) lo hi st = optB (lstAt st[n]?) fun l => .ok (.lst (cutD l lo hi)) st := by
  show (match getL st (.loc n) with | some l => _ | none => _) = _
  rw [getL_loc]
  cases lstAt st[n]? <;> rfl
@[simp] theorem insD_ins (c : Nat) : insD st (.ins c l) = some (c, l) := (rfl)
@[simp] theorem insD_loc (n : Nat) : insD st (.loc n) = insAt st[n]? := (rfl)
@[simp] theorem clsD_ins (c : Nat) : clsD st (.ins c l) = some c := (rfl)
@[simp] theorem clsD_loc (n : Nat) : clsD st (.loc n) = (insAt st[n]?).map (·.1) := by
  unfold clsD insAt
  cases h : st[n]? with
  | none => simp [h]
  | some c => cases c <;> simp [h]
@[simp] theorem keepL_lst : keepL (.lst l) m = fun _ => true := (rfl)
@[simp] theorem keepL_scr : keepL (.scr l) m = fun _ => true := (rfl)
theorem keepL_loc (n : Nat) : keepL (.loc n) l st = match getL st (.loc n) with | some m => D.beqs l m | none => false := (rfl)
@[simp] theorem tyD_non : tyD st .non = some .non := (rfl)
@[simp] theorem tyD_bl : tyD st (.bl a) = some .bool := (rfl)
@[simp] theorem tyD_int : tyD st (.int i) = some .int := (rfl)
@[simp] theorem tyD_str : tyD st (.str x) = some .str := (rfl)
@[simp] theorem tyD_tup : tyD st (.tup l) = some .tup := (rfl)
@[simp] theorem tyD_lst : tyD st (.lst l) = some .lst := (rfl)
@[simp] theorem tyD_scr : tyD st (.scr l) = some .lst := (rfl)
@[simp] theorem tyD_loc (n : Nat) : tyD st (.loc n) = tyAt st[n]? := (rfl)
@[simp] theorem mAppend_ap (d : D) : mAppend st l [d] = if szOk (l.length + 1) then some (.non, l ++ [d]) else none := (rfl)
def extK (l : List D) (o : Option (List D)) : Option (D × List D) := match o with | some m => if szOk (l.length + m.length) then some (.non, l ++ m) else none | none => none
@[simp] theorem extK_some : extK l (some m) = if szOk (l.length + m.length) then some (.non, l ++ m) else none := (rfl)
@[simp] theorem mExtend_ap (d : D) : mExtend st l [d] = extK l (getM st d) := by cases h : getM st d <;> simp [mExtend, extK, h]
end
/-! ### the same -/
@[simp] theorem stB_refl (s : Sto) : stBeq s s = true := stBeq_refl s
@[simp] theorem dB_refl (l : List D) : D.beqs l l = true := D.beqs_refl l
@[simp] theorem caps_nil (n : Nat) : D.caps n [] = true := (rfl)
@[simp] theorem caps_cons (n : Nat) (x : D) (l : List D) : D.caps n (x :: l) = (x.cap n && D.caps n l) := (rfl)
@[simp] theorem cap_non (n : Nat) : D.cap n .non = true := (rfl)
@[simp] theorem cap_bl (n : Nat) (b : Bool) : D.cap n (.bl b) = true := (rfl)
@[simp] theorem cap_int (n : Nat) (b : Int) : D.cap n (.int b) = true := (rfl)
@[simp] theorem cap_str (n : Nat) (b : Str) : D.cap n (.str b) = true := (rfl)
@[simp] theorem cap_tup (n : Nat) (l : List D) : D.cap n (.tup l) = D.caps n l := (rfl)
@[simp] theorem cap_lst (n : Nat) (l : List D) : D.cap n (.lst l) = D.caps n l := (rfl)
@[simp] theorem cap_ins (n c : Nat) (l : List D) : D.cap n (.ins c l) = D.caps n l := (rfl)
theorem caps_map {α : Type} {e : α → D} {n : Nat} : ∀ {l : List α}, (∀ x ∈ l, (e x).cap n = true) → D.caps n (l.map e) = true
  | [], _ => rfl
  | x :: r, h => by
    rw [List.map_cons, caps_cons, h x (List.mem_cons_self ..), caps_map fun y hy => h y (List.mem_cons_of_mem _ hy)]
    rfl
@[simp] theorem caps_ints (n : Nat) (l : List Int) : D.caps n (l.map .int) = true := caps_map fun _ _ => rfl
/-! leaving a def: an own list, a value of no cell -/
theorem leave_ok {d : D} {st s : Sto} (hc : d.cap st.length = true) (hn : ∀ i, d ≠ .loc i) : leave st (.ok d (st ++ s)) = .ok d st := by
  have hf : frzD st.length (st ++ s) d = some d := by
    cases d <;> first | exact (absurd rfl (hn _)) | (simp only [frzD, hc, if_true])
  show (match frzD st.length (st ++ s) d with | some d' => _ | none => _) = _
  rw [hf]
  simp
theorem leave_ok0 {d : D} {st : Sto} (hc : d.cap st.length = true) (hn : ∀ i, d ≠ .loc i) : leave st (.ok d st) = .ok d st := by
  have h := leave_ok (s := []) hc hn
  rwa [List.append_nil] at h
theorem leave_list {n : Nat} {st s : Sto} {l : List D} (hn : st.length ≤ n) (h : (st ++ s)[n]? = some (.list l)) (hc : D.caps st.length l = true) : leave st (.ok (.loc n) (st ++ s)) = .ok (.lst l) st := by
  have hf : frzD st.length (st ++ s) (.loc n) = some (.lst l) := by
    show (if Nat.blt n st.length then _ else _) = _
    rw [if_neg (by rw [Nat.blt_eq]; omega), h]
    show (if _ then _ else _) = _
    rw [if_pos hc]
  show (match frzD st.length (st ++ s) (.loc n) with | some d' => _ | none => _) = _
  rw [hf]
  simp
@[simp] theorem leave_bl (b : Bool) (st s : Sto) : leave st (.ok (.bl b) (st ++ s)) = .ok (.bl b) st := leave_ok rfl nofun
@[simp] theorem leave_int (b : Int) (st s : Sto) : leave st (.ok (.int b) (st ++ s)) = .ok (.int b) st := leave_ok rfl nofun
@[simp] theorem leave_non (st s : Sto) : leave st (.ok .non (st ++ s)) = .ok .non st := leave_ok rfl nofun
@[simp] theorem leave_str (b : Str) (st s : Sto) : leave st (.ok (.str b) (st ++ s)) = .ok (.str b) st := leave_ok rfl nofun
@[simp] theorem leave_bl0 (b : Bool) (st : Sto) : leave st (.ok (.bl b) st) = .ok (.bl b) st := leave_ok0 rfl nofun
@[simp] theorem leave_int0 (b : Int) (st : Sto) : leave st (.ok (.int b) st) = .ok (.int b) st := leave_ok0 rfl nofun
@[simp] theorem leave_non0 (st : Sto) : leave st (.ok .non st) = .ok .non st := leave_ok0 rfl nofun
@[simp] theorem leave_str0 (b : Str) (st : Sto) : leave st (.ok (.str b) st) = .ok (.str b) st := leave_ok0 rfl nofun
/-! ### numbers, sizes -/
@[simp] theorem szOk_iff {n : Nat} : szOk n = true ↔ n ≤ 16777216 := ⟨fun h => Nat.le_of_ble_eq_true h, szOk_of⟩
theorem log2_lt {n a : Nat} (h : n < 2 ^ a) (ha : 0 < a) : n.log2 < a := by
  by_cases h0 : n = 0
  · subst h0
    exact ha
  · exact (Nat.log2_lt h0).mpr h
theorem mulOk_of {i j : Int} (a b : Nat) (hi : i.natAbs < 2 ^ a) (hj : j.natAbs < 2 ^ b) (h : a + b ≤ 100000000) (ha : 0 < a := by decide) (hb : 0 < b := by decide) : MulOk i j = true := by
  have h1 := log2_lt hi ha
  have h2 := log2_lt hj hb
  exact decide_eq_true (by omega)
@[simp] theorem intsOf_ints : ∀ l : List Int, intsOf (l.map D.int) = some l
  | [] => rfl
  | x :: r => by
    show (intsOf (r.map D.int)).map (x :: ·) = _
    rw [intsOf_ints r]
    rfl
@[simp] theorem blsOf_bls : ∀ l : List Bool, blsOf (l.map D.bl) = some l
  | [] => rfl
  | x :: r => by
    show (blsOf (r.map D.bl)).map (x :: ·) = _
    rw [blsOf_bls r]
    rfl
/-! ### a comprehension -/
theorem lc_go {α : Type} {keep : Sto → Bool} {vs : List Nat} {g : DenG} {P : DenB} {A : Den} {env : En} {st : Sto} {enc : α → D} (p : α → Bool) (f : α → D) (hk : keep st = true) : ∀ (xs : List α) (acc : List D),
    (∀ x ∈ xs, ∃ e1, g (enc x) (wipeE env vs) = some e1 ∧ P e1 st = .ok (p x) st ∧ (p x = true → A e1 st = .ok (f x) st)) → acc.length + xs.length ≤ 16777216 →
    lcIt keep vs g P A env (xs.map enc) acc st = .ok (acc ++ (xs.filter p).map f) st
  | [], acc, _, _ => by
    show (if keep st then _ else _) = _
    rw [if_pos hk]
    simp
  | x :: r, acc, h, hl => by
    obtain ⟨e1, h1, h2, h3⟩ := h x (List.mem_cons_self ..)
    show (if keep st then _ else _) = _
    rw [if_pos hk, h1]
    show (noX (P e1 st)).bind _ = _
    rw [h2]
    simp only [noX_ok, bind_ok]
    have hr : ∀ y ∈ r, _ := fun y hy => h y (List.mem_cons_of_mem _ hy)
    rw [List.length_cons] at hl
    cases hp : p x with
    | true =>
      rw [if_pos rfl, h3 hp]
      simp only [noX_ok, bind_ok]
      rw [if_pos (szOk_of (by omega)), lc_go p f hk r (acc ++ [f x]) hr (by rw [List.length_append, List.length_singleton]; omega)]
      simp [List.filter_cons, hp]
    | false =>
      rw [if_neg Bool.false_ne_true, lc_go p f hk r acc hr (by omega)]
      simp [List.filter_cons, hp]
theorem lc_map {α : Type} {keep : Sto → Bool} {vs : List Nat} {g : DenG} {A : Den} {env : En} {st : Sto} {enc : α → D} (f : α → D) (xs : List α)
    (h : ∀ x ∈ xs, ∃ e1, g (enc x) (wipeE env vs) = some e1 ∧ A e1 st = .ok (f x) st) (hl : xs.length ≤ 16777216) (hk : keep st = true) :
    lcIt keep vs g bYes A env (xs.map enc) [] st = .ok (xs.map f) st := by
  rw [lc_go (fun _ => true) f hk xs [] (fun x hx => by obtain ⟨e1, h1, h2⟩ := h x hx; exact ⟨e1, h1, rfl, fun _ => h2⟩) (by simpa using hl)]
  rw [List.filter_eq_self.mpr fun _ _ => rfl]
  rfl
theorem lc_filter {α : Type} {keep : Sto → Bool} {vs : List Nat} {g : DenG} {P : DenB} {A : Den} {env : En} {st : Sto} {enc : α → D} (p : α → Bool) (f : α → D) (xs : List α)
    (h : ∀ x ∈ xs, ∃ e1, g (enc x) (wipeE env vs) = some e1 ∧ P e1 st = .ok (p x) st ∧ (p x = true → A e1 st = .ok (f x) st)) (hl : xs.length ≤ 16777216) (hk : keep st = true) :
    lcIt keep vs g P A env (xs.map enc) [] st = .ok ((xs.filter p).map f) st := by
  rw [lc_go p f hk xs [] h (by simpa using hl)]
  simp
end Wt

namespace Wt
open PySem PySem.Spec PyProof.Rows L2
/-! ## sorting -/
section
variable {α β : Type} {le : α → α → Bool}
theorem insPerm (x : α) : ∀ l : List α, (ins le x l).Perm (x :: l)
  | [] => List.Perm.refl _
  | y :: r => by
    unfold ins
    by_cases h : le x y = true
    · rw [if_pos h]
    · rw [if_neg h]
      exact ((insPerm x r).cons y).trans (List.Perm.swap x y r)
theorem isortPerm : ∀ l : List α, (isort le l).Perm l
  | [] => List.Perm.refl _
  | x :: r => (insPerm x _).trans ((isortPerm r).cons x)
theorem isort_mem {l : List α} {x : α} : x ∈ isort le l ↔ x ∈ l := (isortPerm l).mem_iff
theorem isort_length (l : List α) : (isort le l).length = l.length := (isortPerm l).length_eq
theorem ins_map {leb : β → β → Bool} {f : α → β} (h : ∀ x y, leb (f x) (f y) = le x y) (x : α) : ∀ l : List α, ins leb (f x) (l.map f) = (ins le x l).map f
  | [] => rfl
  | y :: r => by
    show (if leb (f x) (f y) = true then _ else _) = List.map f (if le x y = true then _ else _)
    rw [h]
    by_cases e : le x y = true
    · rw [if_pos e, if_pos e]
      rfl
    · rw [if_neg e, if_neg e, ins_map h x r]
      rfl
theorem isortMap {leb : β → β → Bool} {f : α → β} (h : ∀ x y, leb (f x) (f y) = le x y) : ∀ l : List α, isort leb (l.map f) = (isort le l).map f
  | [] => rfl
  | x :: r => by
    show ins leb (f x) (isort leb (r.map f)) = _
    rw [isortMap h r, ins_map h]
    rfl
structure TotPre (le : α → α → Bool) : Prop where
  tot : ∀ x y, le x y = true ∨ le y x = true
  tr : ∀ x y z, le x y = true → le y z = true → le x z = true
def Srd (le : α → α → Bool) (l : List α) : Prop := l.Pairwise fun x y => le x y = true
theorem ins_srd (O : TotPre le) (x : α) : ∀ l : List α, Srd le l → Srd le (ins le x l)
  | [], _ => List.pairwise_singleton _ _
  | y :: r, h => by
    obtain ⟨h1, h2⟩ := List.pairwise_cons.mp h
    unfold ins
    by_cases e : le x y = true
    · rw [if_pos e]
      exact List.pairwise_cons.mpr ⟨fun z hz => by
        rcases List.mem_cons.mp hz with rfl | hz
        · exact e
        · exact O.tr _ _ _ e (h1 z hz), h⟩
    · rw [if_neg e]
      exact List.pairwise_cons.mpr ⟨fun z hz => by
        rcases List.mem_cons.mp ((insPerm x r).mem_iff.mp hz) with rfl | hz
        · exact (O.tot _ _).resolve_left e
        · exact h1 z hz, ins_srd O x r h2⟩
theorem isort_srd (O : TotPre le) : ∀ l : List α, Srd le (isort le l)
  | [] => List.Pairwise.nil
  | x :: r => ins_srd O x _ (isort_srd O r)
theorem srd_uniq (ha : ∀ x y, le x y = true → le y x = true → x = y) : ∀ {l m : List α}, l.Perm m → Srd le l → Srd le m → l = m := fun p h1 h2 =>
  List.Perm.eq_of_pairwise (fun x y _ _ a b => ha x y a b) h1 h2 p
theorem isort_eq (O : TotPre le) (ha : ∀ x y, le x y = true → le y x = true → x = y) {l m : List α} (p : l.Perm m) : isort le l = isort le m :=
  srd_uniq ha (((isortPerm l).trans p).trans (isortPerm m).symm) (isort_srd O l) (isort_srd O m)
theorem isort_srd_self : ∀ {l : List α}, Srd le l → isort le l = l
  | [], _ => rfl
  | x :: r, h => by
    obtain ⟨h1, h2⟩ := List.pairwise_cons.mp h
    show ins le x (isort le r) = _
    rw [isort_srd_self h2]
    cases r with
    | nil => rfl
    | cons y r => exact if_pos (h1 y (List.mem_cons_self ..))
theorem ins_filter (O : TotPre le) (p : α → Bool) (x : α) : ∀ l : List α, Srd le l → (ins le x l).filter p = if p x then ins le x (l.filter p) else l.filter p
  | [], _ => by cases h : p x <;> simp [ins, h]
  | y :: r, hs => by
    obtain ⟨h1, h2⟩ := List.pairwise_cons.mp hs
    have ih := ins_filter O p x r h2
    by_cases e : le x y = true
    · have hle : ∀ m : List α, (∀ z ∈ m, le x z = true) → ins le x m = x :: m := fun m hm => by
        cases m with
        | nil => rfl
        | cons z m => exact if_pos (hm z (List.mem_cons_self ..))
      rw [hle (y :: r) (fun z hz => by
        rcases List.mem_cons.mp hz with rfl | hz
        · exact e
        · exact O.tr _ _ _ e (h1 z hz))]
      rw [hle ((y :: r).filter p) (fun z hz => by
        rcases List.mem_cons.mp (List.mem_filter.mp hz).1 with rfl | hz
        · exact e
        · exact O.tr _ _ _ e (h1 z hz))]
      rw [List.filter_cons]
    · rw [show ins le x (y :: r) = y :: ins le x r from if_neg e, List.filter_cons, ih, List.filter_cons]
      cases hx : p x <;> cases hy : p y
      · simp
      · simp
      · simp
      · simp only [if_true]
        exact (if_neg e).symm
theorem isort_filter (O : TotPre le) (p : α → Bool) : ∀ l : List α, isort le (l.filter p) = (isort le l).filter p
  | [] => rfl
  | x :: r => by
    show _ = (ins le x (isort le r)).filter p
    rw [ins_filter O p x _ (isort_srd O r), ← isort_filter O p r, List.filter_cons]
    cases p x <;> rfl
/-- in a sorted row, what a downward closed question picks stands in front -/
theorem srd_take {p : α → Bool} (hp : ∀ x y, le x y = true → p y = true → p x = true) : ∀ {l : List α}, Srd le l → l.filter p = l.takeWhile p
  | [], _ => rfl
  | x :: r, h => by
    obtain ⟨h1, h2⟩ := List.pairwise_cons.mp h
    rw [List.filter_cons, List.takeWhile_cons]
    cases e : p x with
    | true => simp [srd_take hp h2]
    | false =>
      simp only [Bool.false_eq_true, if_false]
      refine List.filter_eq_nil_iff.mpr fun y hy hy' => ?_
      rw [hp x y (h1 y hy) hy'] at e
      cases e
end
theorem leD_pre : TotPre leD where
  tot x y := by
    unfold leD
    cases h : PySem.W.dataLt y.py x.py with
    | false => exact .inl rfl
    | true =>
      refine .inr ?_
      cases h2 : PySem.W.dataLt x.py y.py with
      | false => rfl
      | true => exact absurd (PyProof.Rows.lex_trans _ _ _ h h2) (by rw [PyProof.Rows.lex_irrefl]; decide)
  tr x y z h1 h2 := by
    unfold leD at *
    cases h : PySem.W.dataLt z.py x.py with
    | false => rfl
    | true =>
      rcases PyProof.Rows.lex_negTrans _ (PySem.W.keyToks y.py) _ h with e | e
      · rw [show PySem.W.dataLt z.py y.py = true from e] at h2
        cases h2
      · rw [show PySem.W.dataLt y.py x.py = true from e] at h1
        cases h1
theorem leD_toks {x y : D} (h1 : leD x y = true) (h2 : leD y x = true) : PySem.W.keyToks x.py = PySem.W.keyToks y.py := by
  unfold leD at *
  refine PyProof.Rows.lex_total (O := PyProof.Rows.itemOrd) _ _ ?_ ?_
  · cases h : PyProof.Rows.lexLt PyProof.Rows.itemOrd (PySem.W.keyToks x.py) (PySem.W.keyToks y.py) with
    | false => rfl
    | true => rw [show PySem.W.dataLt x.py y.py = true from h] at h2; cases h2
  · cases h : PyProof.Rows.lexLt PyProof.Rows.itemOrd (PySem.W.keyToks y.py) (PySem.W.keyToks x.py) with
    | false => rfl
    | true => rw [show PySem.W.dataLt y.py x.py = true from h] at h1; cases h1
theorem leD_int (i j : Int) : leD (.int i) (.int j) = decide (i ≤ j) := by
  show (!PySem.W.dataLt (.int j) (.int i)) = _
  rw [PySem.W.dataLt_int]
  by_cases h : i ≤ j
  · rw [decide_eq_true h, decide_eq_false (by omega)]
    rfl
  · rw [decide_eq_false h, decide_eq_true (by omega)]
    rfl
theorem sortOk_map {α : Type} {e : α → D} {xs : List α} (hf : ∀ x y, (e x).form (e y) = true) (hd : ∀ x, (e x).py.depth ≤ 60) (hn : ∀ x, e x ≠ .tup []) : sortOk (xs.map e) = true := by
  cases xs with
  | nil => rfl
  | cons x r =>
    show ((match e x with | .tup [] => false | _ => true) && _) = true
    rw [Bool.and_eq_true]
    refine ⟨?_, List.all_eq_true.mpr fun y hy => ?_⟩
    · split
      · exact absurd (by assumption) (hn x)
      · rfl
    · obtain ⟨z, _, rfl⟩ := List.mem_map.mp (show y ∈ (x :: r).map e from hy)
      rw [hf, Nat.ble_eq_true_of_le (hd z)]
      rfl
theorem sortOk_ints (l : List Int) : sortOk (l.map .int) = true := sortOk_map (fun _ _ => rfl) (fun _ => by simp [D.py, PyData.depth]) nofun
theorem intsO : TotPre fun i j : Int => decide (i ≤ j) := ⟨fun x y => by simp only [decide_eq_true_eq]; omega, fun x y z => by simp only [decide_eq_true_eq]; omega⟩
theorem isort_ints (l : List Int) : isort leD (l.map .int) = (isort (fun i j : Int => decide (i ≤ j)) l).map .int := isortMap leD_int l
end Wt

namespace Wt
open PySem PySem.Spec PyProof.Rows L2
/-- under 2 ^ a either way -/
def Bd (a : Nat) (x : Int) : Prop := x.natAbs < 2 ^ a
theorem Bd.mono {a b : Nat} {x : Int} (h : Bd a x) (hab : a ≤ b) : Bd b x := Nat.lt_of_lt_of_le h (Nat.pow_le_pow_right (by decide) hab)
theorem Bd.add {a b : Nat} {x y : Int} (hx : Bd a x) (hy : Bd b y) : Bd (max a b + 1) (x + y) := by
  have h1 := hx.mono (Nat.le_max_left a b)
  have h2 := hy.mono (Nat.le_max_right a b)
  unfold Bd at *
  rw [Nat.pow_succ]
  omega
theorem Bd.mul {a b : Nat} {x y : Int} (hx : Bd a x) (hy : Bd b y) : Bd (a + b) (x * y) := by
  unfold Bd at *
  rw [Int.natAbs_mul, Nat.pow_add]
  exact Nat.mul_lt_mul_of_lt_of_le hx (Nat.le_of_lt hy) (Nat.two_pow_pos _)
theorem Bd.neg {a : Nat} {x : Int} (hx : Bd a x) : Bd a (-x) := by
  unfold Bd at *
  rwa [Int.natAbs_neg]
theorem Bd.sub {a b : Nat} {x y : Int} (hx : Bd a x) (hy : Bd b y) : Bd (max a b + 1) (x - y) := hx.add hy.neg
theorem Bd.of {a : Nat} {x : Int} (h : x.natAbs < 2 ^ a) : Bd a x := h
theorem Bd.mulOk {a b : Nat} {x y : Int} (hx : Bd a x) (hy : Bd b y) (h : a + b ≤ 100000000) (ha : 0 < a := by decide) (hb : 0 < b := by decide) : MulOk x y = true := mulOk_of a b hx hy h ha hb
theorem Bd.sum {a : Nat} : ∀ {l : List Int}, (∀ x ∈ l, Bd a x) → Bd (a + l.length) l.sum
  | [], _ => Nat.two_pow_pos _
  | x :: r, h => by
    have h1 := h x (List.mem_cons_self ..)
    have h2 := Bd.sum fun y hy => h y (List.mem_cons_of_mem _ hy)
    refine ((h1.mono (Nat.le_add_right a r.length)).add h2).mono ?_
    rw [List.length_cons]
    omega
theorem Bd.bits {z : Int} {n : Nat} (h : Builtin.Int.intBits z ≤ n) : Bd n z := by
  unfold Bd
  unfold Builtin.Int.intBits at h
  by_cases h0 : z.natAbs = 0
  · rw [h0]; exact Nat.two_pow_pos _
  · refine Nat.lt_of_lt_of_le (Nat.lt_log2_self (n := z.natAbs)) (Nat.pow_le_pow_right (by decide) ?_)
    have hz : z ≠ 0 := fun e => h0 (by rw [e]; rfl)
    simpa [hz] using h
theorem emod_bd {x m : Int} {a : Nat} (hm : 0 < m) (h : m ≤ 2 ^ a) : Bd a (x % m) := by
  have h1 := Int.emod_nonneg x (by omega : m ≠ 0)
  have h2 := Int.emod_lt_of_pos x hm
  unfold Bd
  have h3 : x % m < ((2 ^ a : Nat) : Int) := by
    rw [Int.natCast_pow]
    exact Int.lt_of_lt_of_le h2 h
  omega
/-- the script's numbers, or five -/
def cells (ns : List Int) : List Int := if ns ≠ [] then ns.take 63 else [5]
theorem cells_ne (ns : List Int) : 0 < (cells ns).length := by
  unfold cells
  split
  · rw [List.length_take]
    have := List.length_pos_iff.mpr ‹ns ≠ []›
    omega
  · decide
theorem cells_le (ns : List Int) : (cells ns).length ≤ 63 := by
  unfold cells
  split
  · rw [List.length_take]; omega
  · decide
theorem cells_bd {ns : List Int} {n : Nat} (hn : 3 ≤ n) (h : ∀ z ∈ ns, Bd n z) : ∀ z ∈ cells ns, Bd n z := fun z hz => by
  unfold cells at hz
  split at hz
  · exact h z (List.mem_of_mem_take hz)
  · rw [List.mem_singleton.mp hz]
    exact Bd.mono (a := 3) (by unfold Bd; decide) hn
theorem cutD_take (l : List D) (k : Nat) : cutD l none (some (k : Int)) = l.take k := by
  unfold cutD
  rw [HT.sIx_nat, HT.sIx_none, Nat.sub_zero, List.drop_zero, ← List.take_take, List.take_length]
theorem cutD_drop (l : List D) (k : Nat) : cutD l (some (k : Int)) none = l.drop k := by
  unfold cutD
  rw [HT.sIx_nat, HT.sIx_none]
  by_cases h : k ≤ l.length
  · rw [Nat.min_eq_left h, List.take_of_length_le (by rw [List.length_drop]; omega)]
  · rw [Nat.min_eq_right (by omega), List.drop_eq_nil_of_le (Nat.le_refl _), List.drop_eq_nil_of_le (by omega), List.take_nil]
theorem atI_of {l : List D} {k : Int} {d : D} (h0 : 0 ≤ k) (h : l[k.toNat]? = some d) : atI l k = some d := by
  have hl : k.toNat < l.length := (List.getElem?_eq_some_iff.mp h).1
  unfold atI ixN
  rw [if_pos h0, if_pos (by omega)]
  exact h
theorem atI_nat {l : List D} {k : Nat} {d : D} (h : l[k]? = some d) : atI l (k : Int) = some d := atI_of (Int.natCast_nonneg k) (by rwa [Int.toNat_natCast])
theorem atI_map {α : Type} {e : α → D} {l : List α} {k : Int} (h0 : 0 ≤ k) (h1 : k < l.length) : ∃ x, l[k.toNat]? = some x ∧ x ∈ l ∧ atI (l.map e) k = some (e x) := by
  have hk : k.toNat < l.length := by omega
  refine ⟨l[k.toNat], List.getElem?_eq_getElem hk, List.getElem_mem hk, atI_of h0 ?_⟩
  rw [List.getElem?_map, List.getElem?_eq_getElem hk]
  rfl
end Wt

namespace Wt
open PySem PySem.Spec PyProof.Rows L2
/-- the data e gives are told apart by == as the things themselves -/
structure EqOn {α : Type} (S : α → Prop) (e : α → D) (n : Nat) : Prop where
  pl : ∀ x, S x → (e x).plain = true
  cl : ∀ x, S x → (e x).py.canLay0 = true
  dp : ∀ x, S x → (e x).py.depth ≤ n
  eq : ∀ x y, S x → S y → (PyData.eqv (e x).py (e y).py = true ↔ x = y)
theorem EqOn.int : EqOn (fun _ : Int => True) D.int 0 := ⟨fun _ _ => rfl, fun _ _ => by simp [D.py, PyData.canLay0], fun _ _ => by simp [D.py, PyData.depth], fun x y _ _ => by simp [D.py, PyData.eqv]⟩
theorem EqOn.bl : EqOn (fun _ : Bool => True) D.bl 0 := ⟨fun _ _ => rfl, fun _ _ => by simp [D.py, PyData.canLay0], fun _ _ => by simp [D.py, PyData.depth], fun x y _ _ => by simp [D.py, PyData.eqv]⟩
theorem EqOn.str : EqOn (fun x : Str => PyData.strOk x = true) D.str 0 := ⟨fun _ _ => rfl, fun _ h => by simpa [D.py, PyData.canLay0] using h, fun _ _ => by simp [D.py, PyData.depth], fun x y _ _ => by simp [D.py, PyData.eqv]⟩
section
variable {α β γ δ : Type} {S : α → Prop} {T : β → Prop} {U : γ → Prop} {Z : δ → Prop} {e : α → D} {f : β → D} {g : γ → D} {h : δ → D} {n m k p : Nat}
theorem EqOn.pls (E : EqOn S e n) : ∀ l : List α, (∀ x ∈ l, S x) → D.plains (l.map e) = true
  | [], _ => rfl
  | x :: r, h => by
    show ((e x).plain && D.plains (r.map e)) = true
    rw [E.pl x (h x (List.mem_cons_self ..)), E.pls r fun y hy => h y (List.mem_cons_of_mem _ hy)]
    rfl
theorem EqOn.cls (E : EqOn S e n) : ∀ l : List α, (∀ x ∈ l, S x) → PyData.canLayAll0 (D.pys (l.map e)) = true
  | [], _ => by simp [D.pys, PyData.canLayAll0]
  | x :: r, h => by
    simp only [List.map_cons, D.pys, PyData.canLayAll0]
    rw [E.cl x (h x (List.mem_cons_self ..)), E.cls r fun y hy => h y (List.mem_cons_of_mem _ hy)]
    rfl
theorem EqOn.dps (E : EqOn S e n) : ∀ l : List α, (∀ x ∈ l, S x) → PyData.depthAll (D.pys (l.map e)) ≤ n
  | [], _ => by simp [D.pys, PyData.depthAll]
  | x :: r, h => by
    simp only [List.map_cons, D.pys, PyData.depthAll]
    exact Nat.max_le.mpr ⟨E.dp x (h x (List.mem_cons_self ..)), E.dps r fun y hy => h y (List.mem_cons_of_mem _ hy)⟩
theorem EqOn.eqs (E : EqOn S e n) : ∀ l m : List α, (∀ x ∈ l, S x) → (∀ x ∈ m, S x) → (PyData.eqvAll (D.pys (l.map e)) (D.pys (m.map e)) = true ↔ l = m)
  | [], [], _, _ => by simp [D.pys, PyData.eqvAll]
  | [], y :: m, _, _ => by simp [D.pys, PyData.eqvAll]
  | x :: l, [], _, _ => by simp [D.pys, PyData.eqvAll]
  | x :: l, y :: m, h1, h2 => by
    simp only [List.map_cons, D.pys, PyData.eqvAll, Bool.and_eq_true, List.cons.injEq]
    rw [E.eq x y (h1 x (List.mem_cons_self ..)) (h2 y (List.mem_cons_self ..)), E.eqs l m (fun z hz => h1 z (List.mem_cons_of_mem _ hz)) fun z hz => h2 z (List.mem_cons_of_mem _ hz)]
theorem EqOn.lst (E : EqOn S e n) : EqOn (fun l : List α => ∀ x ∈ l, S x) (fun l => D.lst (l.map e)) (n + 1) where
  pl l hl := E.pls l hl
  cl l hl := by simp only [D.py, PyData.canLay0]; exact E.cls l hl
  dp l hl := by simp only [D.py, PyData.depth]; have := E.dps l hl; omega
  eq l m h1 h2 := by simp only [D.py, PyData.eqv]; exact E.eqs l m h1 h2
theorem EqOn.tupL (E : EqOn S e n) : EqOn (fun l : List α => ∀ x ∈ l, S x) (fun l => D.tup (l.map e)) (n + 1) where
  pl l hl := E.pls l hl
  cl l hl := by simp only [D.py, PyData.canLay0]; exact E.cls l hl
  dp l hl := by simp only [D.py, PyData.depth]; have := E.dps l hl; omega
  eq l m h1 h2 := by simp only [D.py, PyData.eqv]; exact E.eqs l m h1 h2
theorem EqOn.tup2 (E : EqOn S e n) (F : EqOn T f n) : EqOn (fun q : α × β => S q.1 ∧ T q.2) (fun q => D.tup [e q.1, f q.2]) (n + 1) where
  pl q hq := by simp [D.plain, D.plains, E.pl _ hq.1, F.pl _ hq.2]
  cl q hq := by simp [D.py, D.pys, PyData.canLay0, PyData.canLayAll0, E.cl _ hq.1, F.cl _ hq.2]
  dp q hq := by
    simp only [D.py, D.pys, PyData.depth, PyData.depthAll]
    have := E.dp _ hq.1
    have := F.dp _ hq.2
    omega
  eq q r h1 h2 := by
    simp only [D.py, D.pys, PyData.eqv, PyData.eqvAll, Bool.and_eq_true, Bool.and_true]
    rw [E.eq _ _ h1.1 h2.1, F.eq _ _ h1.2 h2.2, Prod.ext_iff]
theorem EqOn.tup3 (E : EqOn S e n) (F : EqOn T f n) (G : EqOn U g n) : EqOn (fun q : α × β × γ => S q.1 ∧ T q.2.1 ∧ U q.2.2) (fun q => D.tup [e q.1, f q.2.1, g q.2.2]) (n + 1) where
  pl q hq := by simp [D.plain, D.plains, E.pl _ hq.1, F.pl _ hq.2.1, G.pl _ hq.2.2]
  cl q hq := by simp [D.py, D.pys, PyData.canLay0, PyData.canLayAll0, E.cl _ hq.1, F.cl _ hq.2.1, G.cl _ hq.2.2]
  dp q hq := by
    simp only [D.py, D.pys, PyData.depth, PyData.depthAll]
    have := E.dp _ hq.1
    have := F.dp _ hq.2.1
    have := G.dp _ hq.2.2
    omega
  eq q r h1 h2 := by
    simp only [D.py, D.pys, PyData.eqv, PyData.eqvAll, Bool.and_eq_true, Bool.and_true]
    rw [E.eq _ _ h1.1 h2.1, F.eq _ _ h1.2.1 h2.2.1, G.eq _ _ h1.2.2 h2.2.2, Prod.ext_iff, Prod.ext_iff]
theorem EqOn.tup4 (E : EqOn S e n) (F : EqOn T f n) (G : EqOn U g n) (H : EqOn Z h n) : EqOn (fun q : α × β × γ × δ => S q.1 ∧ T q.2.1 ∧ U q.2.2.1 ∧ Z q.2.2.2) (fun q => D.tup [e q.1, f q.2.1, g q.2.2.1, h q.2.2.2]) (n + 1) where
  pl q hq := by simp [D.plain, D.plains, E.pl _ hq.1, F.pl _ hq.2.1, G.pl _ hq.2.2.1, H.pl _ hq.2.2.2]
  cl q hq := by simp [D.py, D.pys, PyData.canLay0, PyData.canLayAll0, E.cl _ hq.1, F.cl _ hq.2.1, G.cl _ hq.2.2.1, H.cl _ hq.2.2.2]
  dp q hq := by
    simp only [D.py, D.pys, PyData.depth, PyData.depthAll]
    have := E.dp _ hq.1
    have := F.dp _ hq.2.1
    have := G.dp _ hq.2.2.1
    have := H.dp _ hq.2.2.2
    omega
  eq q r h1 h2 := by
    simp only [D.py, D.pys, PyData.eqv, PyData.eqvAll, Bool.and_eq_true, Bool.and_true]
    rw [E.eq _ _ h1.1 h2.1, F.eq _ _ h1.2.1 h2.2.1, G.eq _ _ h1.2.2.1 h2.2.2.1, H.eq _ _ h1.2.2.2 h2.2.2.2, Prod.ext_iff, Prod.ext_iff, Prod.ext_iff]
theorem EqOn.ok (E : EqOn S e n) (hn : n ≤ 60) {x : α} (hx : S x) : (e x).okEq = true := by
  unfold D.okEq SeqAt.shaped
  rw [E.pl x hx, E.cl x hx, decide_eq_true (Nat.le_trans (E.dp x hx) (by omega))]
  rfl
theorem eqB_of {st : Sto} {a b : D} (ha : (getD' st a).okEq = true) (hb : (getD' st b).okEq = true) : eqB st a b = some (PyData.eqv (getD' st a).py (getD' st b).py) := by
  unfold eqB
  split
  · simp [getD', D.py, PyData.eqv]
  · rw [ha, hb]
    rfl
theorem EqOn.eqB [DecidableEq α] (E : EqOn S e n) {st : Sto} {a b : D} {x y : α} (ha : getD' st a = e x) (hb : getD' st b = e y) (hx : S x) (hy : S y) (hn : n ≤ 60 := by decide) : eqB st a b = some (decide (x = y)) := by
  rw [eqB_of (by rw [ha]; exact E.ok hn hx) (by rw [hb]; exact E.ok hn hy), ha, hb]
  congr 1
  by_cases h : x = y
  · rw [decide_eq_true h]
    exact (E.eq x y hx hy).mpr h
  · rw [decide_eq_false h]
    cases e' : PyData.eqv (e x).py (e y).py with
    | false => rfl
    | true => exact absurd ((E.eq x y hx hy).mp e') h
theorem EqOn.fEq [DecidableEq α] (E : EqOn S e n) {st : Sto} {a b : D} {x y : α} (ha : getD' st a = e x) (hb : getD' st b = e y) (hx : S x) (hy : S y) (hn : n ≤ 60 := by decide) : fEq a b st = .ok (.bl (decide (x = y))) st := by
  unfold Wt.fEq
  rw [E.eqB ha hb hx hy hn]
theorem EqOn.fNe [DecidableEq α] (E : EqOn S e n) {st : Sto} {a b : D} {x y : α} (ha : getD' st a = e x) (hb : getD' st b = e y) (hx : S x) (hy : S y) (hn : n ≤ 60 := by decide) : fNe a b st = .ok (.bl (!decide (x = y))) st := by
  unfold Wt.fNe
  rw [E.eqB ha hb hx hy hn]
end
section
variable {st : Sto} (l m : List D) (d : D)
@[simp] theorem fEq_scr : fEq (.scr l) d st = fEq (.lst l) d st := (rfl)
@[simp] theorem fNe_scr : fNe (.scr l) d st = fNe (.lst l) d st := (rfl)
theorem fEq_loc {n : Nat} (h : st[n]? = some (.list l)) : fEq (.loc n) d st = fEq (.lst l) d st := by
  unfold fEq eqB
  simp [getD', h]
theorem fNe_loc {n : Nat} (h : st[n]? = some (.list l)) : fNe (.loc n) d st = fNe (.lst l) d st := by
  unfold fNe eqB
  simp [getD', h]
end
abbrev lints (l : List Int) : D := .lst (l.map .int)
theorem EqInts : EqOn (fun l : List Int => ∀ x ∈ l, True) lints 1 := EqOn.int.lst
@[simp] theorem fEq_ints (l m : List Int) (st : Sto) : fEq (.lst (l.map .int)) (.lst (m.map .int)) st = .ok (.bl (decide (l = m))) st := EqInts.fEq (x := l) (y := m) rfl rfl (fun _ _ => trivial) (fun _ _ => trivial)
@[simp] theorem fNe_ints (l m : List Int) (st : Sto) : fNe (.lst (l.map .int)) (.lst (m.map .int)) st = .ok (.bl (!decide (l = m))) st := EqInts.fNe (x := l) (y := m) rfl rfl (fun _ _ => trivial) (fun _ _ => trivial)
@[simp] theorem fNe_nil (l : List Int) (st : Sto) : fNe (.lst (l.map .int)) (.lst []) st = .ok (.bl (!decide (l = []))) st := fNe_ints l [] st
@[simp] theorem fEq_nil (l : List Int) (st : Sto) : fEq (.lst (l.map .int)) (.lst []) st = .ok (.bl (decide (l = []))) st := fEq_ints l [] st
theorem EqPair : EqOn (fun _ : Int × Int => True ∧ True) (fun q => D.tup [.int q.1, .int q.2]) 1 := EqOn.int.tup2 EqOn.int
/-! ### lists of rows -/
theorem rng_map : ∀ (n : Nat) (lo : Int), rngD lo n = (List.range n).map fun k : Nat => D.int (lo + k)
  | 0, _ => rfl
  | n + 1, lo => by
    show D.int lo :: rngD (lo + 1) n = _
    rw [rng_map n (lo + 1), List.range_succ_eq_map, List.map_cons, List.map_map]
    congr 1
    · simp
    · exact List.map_congr_left fun k _ => by show D.int _ = D.int _; congr 1; show lo + 1 + (k : Int) = lo + ((k + 1 : Nat) : Int); omega
theorem rng0_map (n : Nat) : rngD 0 n = (List.range n).map fun k : Nat => D.int (k : Int) := by
  rw [rng_map]
  exact List.map_congr_left fun k _ => by rw [Int.zero_add]
theorem zipIx_map : ∀ (l : List D) (i : Int), zipIx i l = (l.zip (List.range l.length)).map fun q : D × Nat => D.tup [.int (i + q.2), q.1]
  | [], _ => rfl
  | x :: r, i => by
    show D.tup [.int i, x] :: zipIx (i + 1) r = _
    rw [zipIx_map r (i + 1), List.length_cons, List.range_succ_eq_map, List.zip_cons_cons, List.map_cons, List.zip_map_right, List.map_map]
    congr 1
    · simp
    · exact List.map_congr_left fun q _ => by
        show D.tup [.int _, _] = D.tup [.int _, _]
        congr 3
        show i + 1 + (q.2 : Int) = i + ((q.2 + 1 : Nat) : Int)
        omega
end Wt

namespace Wt
open PySem PySem.Spec PyProof.Rows L2
/-- a loop that goes through -/
theorem for_fold {α σ : Type} {keep : Sto → Bool} {g : DenG} {B : DenS} {enc : α → D} (Re : σ → En) (Rt : σ → Sto) (step : σ → α → σ) (Inv : σ → Prop) (hk : ∀ s, Inv s → keep (Rt s) = true) : ∀ (xs : List α) (s : σ), Inv s →
    (∀ s, Inv s → ∀ x ∈ xs, ∃ e1, g (enc x) (Re s) = some e1 ∧ B e1 (Rt s) = .nx (Re (step s x)) (Rt (step s x)) ∧ Inv (step s x)) →
    forIt keep g B (xs.map enc) (Re s) (Rt s) = .nx (Re (xs.foldl step s)) (Rt (xs.foldl step s)) ∧ Inv (xs.foldl step s)
  | [], s, hi, _ => by
    refine ⟨?_, hi⟩
    show (if keep _ then _ else _) = _
    rw [if_pos (hk s hi)]
    rfl
  | x :: r, s, hi, h => by
    obtain ⟨e1, h1, h2, h3⟩ := h s hi x (List.mem_cons_self ..)
    obtain ⟨q1, q2⟩ := for_fold Re Rt step Inv hk r (step s x) h3 fun s hs y hy => h s hs y (List.mem_cons_of_mem _ hy)
    refine ⟨?_, q2⟩
    show (if keep _ then _ else _) = _
    rw [if_pos (hk s hi), h1]
    show (match B e1 (Rt s) with | .nx e s => _ | .ct e s => _ | .bk e s => _ | o => o) = _
    rw [h2]
    exact q1
/-- a loop that gathers into one own list -/
theorem for_app {α : Type} {keep : Sto → Bool} {g : DenG} {B : DenS} {enc : α → D} {f : α → D} {n : Nat} {st sr : Sto} (E : Option D → En) (xs : List α)
    (h : ∀ x ∈ xs, ∀ v acc, acc.length ≤ n + xs.length → ∃ e1 v', g (enc x) (E v) = some e1 ∧ B e1 (st ++ .list acc :: sr) = .nx (E v') (st ++ .list (acc ++ [f x]) :: sr))
    (hk : ∀ acc, keep (st ++ .list acc :: sr) = true) (v : Option D) (acc : List D) (hn : acc.length ≤ n) :
    ∃ v', forIt keep g B (xs.map enc) (E v) (st ++ .list acc :: sr) = .nx (E v') (st ++ .list (acc ++ xs.map f) :: sr) := by
  induction xs generalizing v acc n with
  | nil =>
    refine ⟨v, ?_⟩
    show (if keep _ then _ else _) = _
    rw [if_pos (hk acc), List.map_nil, List.append_nil]
  | cons x r ih =>
    obtain ⟨e1, v1, h1, h2⟩ := h x (List.mem_cons_self ..) v acc (by omega)
    obtain ⟨v', h'⟩ := ih (n := n + 1) (fun y hy v acc ha => h y (List.mem_cons_of_mem _ hy) v acc (by rw [List.length_cons]; omega)) v1 (acc ++ [f x]) (by rw [List.length_append, List.length_singleton]; omega)
    refine ⟨v', ?_⟩
    show (if keep _ then _ else _) = _
    rw [if_pos (hk acc), h1]
    show (match B e1 _ with | .nx e s => _ | .ct e s => _ | .bk e s => _ | o => o) = _
    rw [h2]
    show forIt keep g B (r.map enc) (E v1) _ = _
    rw [h', List.map_cons, List.append_assoc]
    rfl
theorem atI_int {l : List Int} {k : Int} (h0 : 0 ≤ k) (h1 : k < l.length) : atI (l.map D.int) k = some (.int (l.getD k.toNat 0)) := by
  refine atI_of h0 ?_
  have hk : k.toNat < l.length := by omega
  rw [List.getElem?_map, List.getElem?_eq_getElem hk, List.getD_eq_getElem?_getD, List.getElem?_eq_getElem hk]
  rfl
theorem log2_small {x : Int} (h : x.natAbs < 2 ^ 200) : x.natAbs.log2 < 9000 := log2_lt (a := 9000) (Nat.lt_of_lt_of_le h (Nat.pow_le_pow_right (by decide) (by omega))) (by omega)
@[simp] theorem fDiv_ok {i j : Int} {st : Sto} (h0 : 0 < j) (h1 : j < 1000000000000000000000000000000000000000000000000000) : fDiv (.int i) (.int j) st = .ok (.int (i / j)) st := by
  rw [fDiv_int, decide_eq_true h0, decide_eq_true (log2_small (by omega))]
  rfl
def absI (x : Int) : Int := if x < 0 then -x else x
@[simp] theorem absI_of (x : Int) : (if x < 0 then -x else x) = absI x := (rfl)
theorem absI_nonneg (x : Int) : 0 ≤ absI x := by unfold absI; split <;> omega
/-- the law's numbers -/
def numL (c a w : Int) : Int :=
  if 10 ^ 18 ≤ c then c / (1 + a % 7) else
    let b := ((c + 977 * a) * 48271 + w) % 2147483647
    b * (c + 31 * a + 7) * (b + c + 5) * (b * b + 11) / (1009 + a)
def at0 (l : List Int) (k : Int) : Int := l.getD k.toNat 0
theorem atI_at0 {l : List Int} {k : Int} (h0 : 0 ≤ k) (h1 : k < l.length) : atI (l.map D.int) k = some (.int (at0 l k)) := atI_int h0 h1
theorem at0_mem {l : List Int} {k : Int} (h0 : 0 ≤ k) (h1 : k < l.length) : at0 l k ∈ l := by
  have hk : k.toNat < l.length := by omega
  unfold at0
  rw [List.getD_eq_getElem?_getD, List.getElem?_eq_getElem hk]
  exact List.getElem_mem _
section
variable {s r : Sto} {a b c x : Cell}
@[simp] theorem get_at0 : (s ++ a :: r)[s.length]? = some a := by rw [List.getElem?_append_right (Nat.le_refl _), Nat.sub_self]; rfl
@[simp] theorem get_at1 : (s ++ a :: b :: r)[s.length + 1]? = some b := by rw [List.getElem?_append_right (Nat.le_succ _), show s.length + 1 - s.length = 1 by omega]; rfl
@[simp] theorem get_at2 : (s ++ a :: b :: c :: r)[s.length + 2]? = some c := by rw [List.getElem?_append_right (by omega), show s.length + 2 - s.length = 2 by omega]; rfl
@[simp] theorem set_at0 : (s ++ a :: r).set s.length x = s ++ x :: r := by rw [List.set_append_right _ _ (Nat.le_refl _), Nat.sub_self]; rfl
@[simp] theorem set_at1 : (s ++ a :: b :: r).set (s.length + 1) x = s ++ a :: x :: r := by rw [List.set_append_right _ _ (Nat.le_succ _), show s.length + 1 - s.length = 1 by omega]; rfl
@[simp] theorem set_at2 : (s ++ a :: b :: c :: r).set (s.length + 2) x = s ++ a :: b :: x :: r := by rw [List.set_append_right _ _ (by omega), show s.length + 2 - s.length = 2 by omega]; rfl
theorem get_old {n : Nat} (h : s[n]? = some a) : (s ++ r)[n]? = some a := by
  rw [List.getElem?_append_left (List.getElem?_eq_some_iff.mp h).1, h]
end
@[simp] theorem fNe_nil0 (st : Sto) : fNe (.lst []) (.lst []) st = .ok (.bl false) st := fNe_ints [] [] st
@[simp] theorem fEq_nil0 (st : Sto) : fEq (.lst []) (.lst []) st = .ok (.bl true) st := fEq_ints [] [] st
/-- d is a list -/
structure IsL (st : Sto) (d : D) (l : List D) : Prop where
  g : getL st d = some l
theorem IsL.gs {st : Sto} {d : D} {l : List D} (h : IsL st d l) : getS st d = some l := by
  have := h.g
  cases d <;> simp_all [getS, getL]
theorem IsL.ty {st : Sto} {d : D} {l : List D} (h : IsL st d l) : tyD st d = some .lst := by
  have := h.g
  cases d with
  | loc n =>
    simp only [getL_loc] at this
    simp only [tyD_loc]
    cases e : st[n]? with
    | none => rw [e] at this; cases this
    | some c => cases c <;> simp_all [lstAt, tyAt]
  | _ => simp_all [tyD, getL]
theorem IsL.kp {st : Sto} {d : D} {l : List D} (h : IsL st d l) : keepL d l st = true := by
  have := h.g
  cases d with
  | loc n => rw [keepL_loc, this]; exact D.beqs_refl l
  | _ => rfl
theorem IsL.loc {st : Sto} {n : Nat} {l : List D} (h : st[n]? = some (.list l)) : IsL st (.loc n) l := ⟨by rw [getL_loc, h]; rfl⟩
theorem IsL.lst {st : Sto} {l : List D} : IsL st (.lst l) l := ⟨rfl⟩
theorem IsL.scr {st : Sto} {l : List D} : IsL st (.scr l) l := ⟨rfl⟩
theorem lc_ints {α : Type} {keep : Sto → Bool} {vs : List Nat} {g : DenG} {A : Den} {env : En} {st : Sto} {enc : α → D} (f : α → Int) (xs : List α)
    (h : ∀ x ∈ xs, ∃ e1, g (enc x) (wipeE env vs) = some e1 ∧ A e1 st = .ok (.int (f x)) st) (hl : xs.length ≤ 16777216) (hk : keep st = true) :
    lcIt keep vs g bYes A env (xs.map enc) [] st = .ok ((xs.map f).map .int) st := by
  rw [lc_map (fun x => D.int (f x)) xs h hl hk, List.map_map]; rfl
theorem lc_bls {α : Type} {keep : Sto → Bool} {vs : List Nat} {g : DenG} {A : Den} {env : En} {st : Sto} {enc : α → D} (f : α → Bool) (xs : List α)
    (h : ∀ x ∈ xs, ∃ e1, g (enc x) (wipeE env vs) = some e1 ∧ A e1 st = .ok (.bl (f x)) st) (hl : xs.length ≤ 16777216) (hk : keep st = true) :
    lcIt keep vs g bYes A env (xs.map enc) [] st = .ok ((xs.map f).map .bl) st := by
  rw [lc_map (fun x => D.bl (f x)) xs h hl hk, List.map_map]; rfl
@[simp] theorem ix_command : ixOf "command" (nms 1) = some 0 := (rfl)
@[simp] theorem ix_place : ixOf "place" (nms 2) = some 0 := (rfl)
@[simp] theorem ix_pairs : ixOf "pairs" (nms 2) = some 1 := by decide +kernel
@[simp] theorem ix_line : ixOf "line" (nms 4) = some 0 := (rfl)
@[simp] theorem ix_length : ixOf "length" (nms 5) = some 0 := (rfl)
@[simp] theorem ix_known : ixOf "known" (nms 5) = some 1 := by decide +kernel
@[simp] theorem ix_letters : ixOf "letters" (nms 5) = some 2 := by decide +kernel
@[simp] theorem ix_now : ixOf "now" (nms 5) = some 3 := by decide +kernel
@[simp] theorem ix_lines : ixOf "lines" (nms 5) = some 4 := by decide +kernel
def bodyK (k : DenS) (r : Fl) : Fl := match r with | .nx e s => k e s | .ct e s => k e s | .bk e s => .nx e s | o => o
def entK (o : Option En) (f : En → Fl) : Fl := match o with | some e => f e | none => .bad
section
variable {keep : Sto → Bool} {g : DenG} {B : DenS} {env : En} {st : Sto} {x : D} {r : List D}
theorem forIt_nil (hk : keep st = true) : forIt keep g B [] env st = .nx env st := if_pos hk
theorem forIt_cons (hk : keep st = true) : forIt keep g B (x :: r) env st = entK (g x env) fun e1 => bodyK (forIt keep g B r) (B e1 st) := by
  show (if keep st then _ else _) = _
  rw [if_pos hk]
  cases g x env with
  | none => rfl
  | some e => show (match B e st with | .nx e s => _ | .ct e s => _ | .bk e s => _ | o => o) = bodyK _ (B e st); cases B e st <;> rfl
@[simp] theorem entK_some (e : En) (f : En → Fl) : entK (some e) f = f e := (rfl)
@[simp] theorem bodyK_nx (k : DenS) : bodyK k (.nx env st) = k env st := (rfl)
@[simp] theorem bodyK_ct (k : DenS) : bodyK k (.ct env st) = k env st := (rfl)
@[simp] theorem bodyK_bk (k : DenS) : bodyK k (.bk env st) = .nx env st := (rfl)
@[simp] theorem bodyK_rt (k : DenS) (d : D) : bodyK k (.rt d st) = .rt d st := (rfl)
@[simp] theorem bodyK_exc (k : DenS) (c : Nat) : bodyK k (.exc c env st) = .exc c env st := (rfl)
end
theorem allB_map {α : Type} (l : List α) (f : α → Bool) : allB (l.map f) = l.all f := by unfold allB; rw [List.all_map]; rfl
theorem anyB_map {α : Type} (l : List α) (f : α → Bool) : anyB (l.map f) = l.any f := by unfold anyB; rw [List.any_map]; rfl
theorem anyB_not {α : Type} (l : List α) (f : α → Bool) : anyB (l.map fun x => !f x) = !l.all f := by
  rw [anyB_map]
  induction l with
  | nil => rfl
  | cons x r ih => rw [List.any_cons, List.all_cons, ih]; cases f x <;> rfl
theorem allB_true {α : Type} {l : List α} {f : α → Bool} (h : ∀ x ∈ l, f x = true) : allB (l.map f) = true := by rw [allB_map]; exact List.all_eq_true.mpr h
@[simp] theorem allB_one {α : Type} (l : List α) : allB (l.map fun _ => true) = true := allB_true fun _ _ => rfl
theorem IsL.app {st r : Sto} {d : D} {l : List D} (h : IsL st d l) : IsL (st ++ r) d l := by
  have hg := h.g
  refine ⟨?_⟩
  cases d with
  | loc n =>
    rw [getL_loc] at hg ⊢
    cases e : st[n]? with
    | none => rw [e] at hg; cases hg
    | some c => rw [get_old e, ← e]; exact hg
  | _ => exact hg
theorem insD_app {st r : Sto} {d : D} {q : Nat × List D} (h : insD st d = some q) : insD (st ++ r) d = some q := by
  cases d with
  | loc n =>
    rw [insD_loc] at h ⊢
    cases e : st[n]? with
    | none => rw [e] at h; cases h
    | some c => rw [get_old e, ← e]; exact h
  | _ => exact h
/-- a loop that changes its own names alone -/
theorem for_pass {α : Type} {keep : Sto → Bool} {g : DenG} {B : DenS} {enc : α → D} {st : Sto} (E : Option D → En) (hk : keep st = true) : ∀ (xs : List α), (∀ x ∈ xs, ∀ v, ∃ e1 v', g (enc x) (E v) = some e1 ∧ B e1 st = .nx (E v') st) →
    ∀ v, ∃ v', forIt keep g B (xs.map enc) (E v) st = .nx (E v') st
  | [], _, v => ⟨v, forIt_nil hk⟩
  | x :: r, h, v => by
    obtain ⟨e1, v1, h1, h2⟩ := h x (List.mem_cons_self ..) v
    obtain ⟨v', h3⟩ := for_pass E hk r (fun y hy => h y (List.mem_cons_of_mem _ hy)) v1
    exact ⟨v', by rw [List.map_cons, forIt_cons hk, h1, entK_some, h2, bodyK_nx, h3]⟩
@[simp] theorem subC_eq (c d : Nat) : subC c d = (decide (c = d) || (decide (d = 6) && decide (c < 5))) := by
  have h1 : ∀ a b : Nat, Nat.beq a b = decide (a = b) := fun a b => by
    by_cases h : a = b
    · subst h; simp
    · rw [decide_eq_false h]; cases e : Nat.beq a b with
      | false => rfl
      | true => exact absurd (Nat.eq_of_beq_eq_true e) h
  have h2 : ∀ a b : Nat, Nat.blt a b = decide (a < b) := fun a b => by
    by_cases h : a < b
    · rw [decide_eq_true h]; simpa using h
    · rw [decide_eq_false h]; cases e : Nat.blt a b with
      | false => rfl
      | true => exact absurd (by simpa using e) h
  unfold subC
  rw [h1, h1, h2]
end Wt

namespace Wt
open PySem PySem.Spec PyProof.Rows L2
/-! ## places, pairs, least jumps: plain -/
def dist (pl : List Int) (p : Int) : Int := (pl.map fun x => absI (x - p)).sum
theorem sum_app (l m : List Int) : (l ++ m).sum = l.sum + m.sum := by
  induction l with
  | nil => simp
  | cons x r ih => simp only [List.cons_append, List.sum_cons, ih]; omega
theorem sum_perm {l m : List Int} (p : l.Perm m) : l.sum = m.sum := by
  induction p with
  | nil => rfl
  | cons x _ ih => simp only [List.sum_cons, ih]
  | swap x y l => simp only [List.sum_cons]; omega
  | trans _ _ h1 h2 => exact h1.trans h2
theorem sum_le {α : Type} {l : List α} {f g : α → Int} (h : ∀ x ∈ l, f x ≤ g x) : (l.map f).sum ≤ (l.map g).sum := by
  induction l with
  | nil => exact Int.le_refl _
  | cons x r ih =>
    simp only [List.map_cons, List.sum_cons]
    have := h x (List.mem_cons_self ..)
    have := ih fun y hy => h y (List.mem_cons_of_mem _ hy)
    omega
theorem dist_perm {l m : List Int} (p : l.Perm m) (s : Int) : dist l s = dist m s := sum_perm (p.map _)
/-- a row's sum, from both ends at once -/
theorem sum_fold : ∀ (n : Nat) (f : Nat → Int), ((List.range n).map f).sum = ((List.range (n / 2)).map fun i => f i + f (n - 1 - i)).sum + if n % 2 = 1 then f (n / 2) else 0
  | 0, _ => rfl
  | 1, f => by simp
  | n + 2, f => by
    have ih := sum_fold n fun i => f (i + 1)
    have h1 : List.range (n + 2) = 0 :: ((List.range n).map (· + 1) ++ [n + 1]) := by
      rw [List.range_succ, List.range_succ_eq_map]
      rfl
    have h2 : (n + 2) / 2 = n / 2 + 1 := by omega
    have h3 : (n + 2) % 2 = n % 2 := by omega
    rw [h1, h2, h3, List.range_succ_eq_map]
    simp only [List.map_cons, List.map_append, List.map_map, List.map_nil, List.sum_cons, sum_app, List.sum_nil, Function.comp_def]
    rw [ih]
    have h4 : ((List.range (n / 2)).map fun i => f (i + 1) + f (n - 1 - i + 1)).sum = ((List.range (n / 2)).map fun i => f (i.succ) + f (n + 2 - 1 - i.succ)).sum := by
      congr 1
      refine List.map_congr_left fun i hi => ?_
      have := List.mem_range.mp hi
      congr 2
      omega
    rw [h4]
    show f 0 + (_ + _ + (f (n + 1) + 0)) = f 0 + f (n + 2 - 1 - 0) + _ + _
    rw [show n + 2 - 1 - 0 = n + 1 by omega]
    split <;> omega
theorem map_range {α : Type} (l : List α) (d : α) : l = (List.range l.length).map fun i => l.getD i d := by
  refine List.ext_getElem? fun i => ?_
  rw [List.getElem?_map]
  by_cases h : i < l.length
  · rw [List.getElem?_range h, List.getElem?_eq_getElem h]
    show _ = some (l.getD i d)
    rw [List.getD_eq_getElem?_getD, List.getElem?_eq_getElem h]
    rfl
  · rw [List.getElem?_eq_none (by omega), List.getElem?_eq_none (by rw [List.length_range]; omega)]
    rfl
/-- what the pairs of a row are apart, outermost first -/
def apart (l : List Int) : Int := ((List.range (l.length / 2)).map fun i => absI (l.getD i 0 - l.getD (l.length - 1 - i) 0)).sum
theorem absI_add (a b s : Int) : absI (a - b) ≤ absI (a - s) + absI (b - s) := by unfold absI; split <;> split <;> split <;> omega
theorem absI_mid {a b s : Int} (h1 : a ≤ s) (h2 : s ≤ b) : absI (a - s) + absI (b - s) = absI (a - b) := by unfold absI; split <;> split <;> split <;> omega
theorem dist_range (l : List Int) (s : Int) : dist l s = ((List.range l.length).map fun i => absI (l.getD i 0 - s)).sum := by
  unfold dist
  conv => lhs; rw [map_range l 0]
  rw [List.map_map]
  rfl
theorem dist_ge (l : List Int) (s : Int) : apart l ≤ dist l s := by
  rw [dist_range, sum_fold]
  have h := sum_le (l := List.range (l.length / 2)) (f := fun i => absI (l.getD i 0 - l.getD (l.length - 1 - i) 0)) (g := fun i => absI (l.getD i 0 - s) + absI (l.getD (l.length - 1 - i) 0 - s)) fun i _ => absI_add _ _ _
  unfold apart
  have := absI_nonneg (l.getD (l.length / 2) 0 - s)
  split <;> omega
abbrev leI (i j : Int) : Bool := decide (i ≤ j)
theorem srd_get {l : List Int} (h : Srd leI l) {i j : Nat} (hij : i ≤ j) (hj : j < l.length) : l.getD i 0 ≤ l.getD j 0 := by
  rw [List.getD_eq_getElem?_getD, List.getD_eq_getElem?_getD, List.getElem?_eq_getElem (by omega), List.getElem?_eq_getElem hj]
  show l[i] ≤ l[j]
  by_cases e : i = j
  · subst e; exact Int.le_refl _
  · exact of_decide_eq_true (List.pairwise_iff_getElem.mp h i j (by omega) hj (by omega))
theorem dist_mid {l : List Int} (h : Srd leI l) : dist l (l.getD (l.length / 2) 0) = apart l := by
  rw [dist_range, sum_fold]
  unfold apart
  have h1 : ((List.range (l.length / 2)).map fun i => absI (l.getD i 0 - l.getD (l.length / 2) 0) + absI (l.getD (l.length - 1 - i) 0 - l.getD (l.length / 2) 0)) = (List.range (l.length / 2)).map fun i => absI (l.getD i 0 - l.getD (l.length - 1 - i) 0) :=
    List.map_congr_left fun i hi => by
      have := List.mem_range.mp hi
      exact absI_mid (srd_get h (by omega) (by omega)) (srd_get h (by omega) (by omega))
  rw [h1, Int.sub_self]
  show _ + (if _ then absI 0 else 0) = _
  have : absI 0 = 0 := rfl
  rw [this]
  split <;> omega
/-! ### numbers and their places, sorted -/
abbrev leP (p q : Int × Int) : Bool := decide (p.1 < q.1 ∨ (p.1 = q.1 ∧ p.2 ≤ q.2))
theorem lePO : TotPre leP := ⟨fun x y => by simp only [decide_eq_true_eq]; omega, fun x y z => by simp only [decide_eq_true_eq]; omega⟩
abbrev pairD (q : Int × Int) : D := .tup [.int q.1, .int q.2]
theorem leD_pair (p q : Int × Int) : leD (pairD p) (pairD q) = leP p q := by
  show (!PySem.W.dataLt (.tuple [.int q.1, .int q.2]) (.tuple [.int p.1, .int p.2])) = _
  rw [PySem.W.dataLt_tuple]
  have hi : ∀ (a b : Int) (r t : List PyData), PyProof.Rows.lexLt PyProof.Rows.itemOrd (PySem.W.keyToksAll (.int a :: r)) (PySem.W.keyToksAll (.int b :: t)) = if a = b then PyProof.Rows.lexLt PyProof.Rows.itemOrd (PySem.W.keyToksAll r) (PySem.W.keyToksAll t) else decide (a < b) := fun a b r t => by
    by_cases e : a = b
    · subst e
      rw [if_pos rfl]
      exact PySem.W.dataLt_all_yes (by simp [PySem.W.alike]) (by simp [PyData.eqv])
    · rw [if_neg e, ← PySem.W.dataLt_int]
      exact PySem.W.dataLt_all_no (by simp [PySem.W.alike]) (by simp [PyData.eqv, e])
  rw [hi, hi]
  have hn : PyProof.Rows.lexLt PyProof.Rows.itemOrd (PySem.W.keyToksAll []) (PySem.W.keyToksAll []) = false := PyProof.Rows.lex_irrefl _
  rw [hn]
  by_cases h1 : q.1 = p.1
  · rw [if_pos h1]
    by_cases h2 : q.2 = p.2
    · rw [if_pos h2]
      exact (decide_eq_true (by omega)).symm
    · rw [if_neg h2]
      by_cases h3 : q.2 < p.2
      · rw [decide_eq_true h3]; exact (decide_eq_false (by omega)).symm
      · rw [decide_eq_false h3]; exact (decide_eq_true (by omega)).symm
  · rw [if_neg h1]
    by_cases h3 : q.1 < p.1
    · rw [decide_eq_true h3]; exact (decide_eq_false (by omega)).symm
    · rw [decide_eq_false h3]; exact (decide_eq_true (by omega)).symm
def atsL (pl : List Int) : List (Int × Int) := (List.range pl.length).map fun i : Nat => (pl.getD i 0, (i : Int))
theorem zipIx_ints (pl : List Int) : zipIx 0 (pl.map D.int) = (atsL pl).map fun q => D.tup [.int q.2, .int q.1] := by
  rw [zipIx_map, atsL, List.map_map, List.length_map]
  refine List.ext_getElem? fun i => ?_
  rw [List.getElem?_map, List.getElem?_map]
  by_cases h : i < pl.length
  · have hz : ((pl.map D.int).zip (List.range pl.length))[i]? = some (D.int (pl.getD i 0), i) := List.getElem?_zip_eq_some.mpr ⟨by
      rw [List.getElem?_map, List.getElem?_eq_getElem h, List.getD_eq_getElem?_getD, List.getElem?_eq_getElem h]; rfl, List.getElem?_range h⟩
    rw [List.getElem?_range h, hz]
    simp
  · rw [List.getElem?_eq_none (by rw [List.length_zip, List.length_map, List.length_range]; omega), List.getElem?_eq_none (by rw [List.length_range]; omega)]
    rfl
def lineL (pl : List Int) : List (Int × Int) := isort leP (atsL pl)
theorem line_len (pl : List Int) : (lineL pl).length = pl.length := by rw [lineL, isort_length, atsL, List.length_map, List.length_range]
theorem ats_fst (pl : List Int) : (atsL pl).map Prod.fst = pl := by
  rw [atsL, List.map_map]
  exact (map_range pl 0).symm
theorem line_fst (pl : List Int) : (lineL pl).map Prod.fst = isort leI pl := by
  refine srd_uniq (le := leI) (fun x y h1 h2 => by have := of_decide_eq_true h1; have := of_decide_eq_true h2; omega) ?_ ?_ (isort_srd intsO pl)
  · exact (((isortPerm (le := leP) (atsL pl)).map Prod.fst).trans (by rw [ats_fst])).trans (isortPerm pl).symm
  · exact List.pairwise_map.mpr ((isort_srd lePO (atsL pl)).imp fun h => by
      have := of_decide_eq_true h
      exact decide_eq_true (by omega))
theorem line_mem {pl : List Int} {q : Int × Int} (h : q ∈ lineL pl) : 0 ≤ q.2 ∧ q.2 < pl.length ∧ pl.getD q.2.toNat 0 = q.1 := by
  obtain ⟨i, hi, rfl⟩ := List.mem_map.mp ((isortPerm (atsL pl)).mem_iff.mp h)
  have := List.mem_range.mp hi
  refine ⟨Int.natCast_nonneg _, by show (i : Int) < _; omega, ?_⟩
  show pl.getD (i : Int).toNat 0 = pl.getD i 0
  rw [Int.toNat_natCast]
theorem line_nodup (pl : List Int) : ((lineL pl).map Prod.snd).Nodup := by
  refine ((isortPerm (le := leP) (atsL pl)).map Prod.snd).nodup_iff.mpr ?_
  rw [atsL, List.map_map]
  exact List.pairwise_map.mpr (List.nodup_range.imp fun {a b} h e => h (by have e' : (a : Int) = (b : Int) := e; omega))
/-- the pairs that meet gives -/
def prsL (pl : List Int) : List (Int × Int) := (List.range (pl.length / 2)).map fun i => (((lineL pl).getD i (0, 0)).2, ((lineL pl).getD (pl.length - 1 - i) (0, 0)).2)
def midL (pl : List Int) : Int := (isort leI pl).getD (pl.length / 2) 0
def metL (prs : List (Int × Int)) : List Int := prs.flatMap fun q => [q.1, q.2]
def pairsApart (pl : List Int) (prs : List (Int × Int)) : Int := (prs.map fun q => absI (pl.getD q.1.toNat 0 - pl.getD q.2.toNat 0)).sum
def meetsF (pl : List Int) (p : Int) (prs : List (Int × Int)) : Bool :=
  decide ((metL prs).Nodup) && (metL prs).all (fun x => decide (0 ≤ x) && decide (x < pl.length)) && decide (dist pl p = pairsApart pl prs)
theorem line_at (pl : List Int) {i : Nat} (h : i < pl.length) : (lineL pl).getD i (0, 0) ∈ lineL pl := by
  rw [List.getD_eq_getElem?_getD, List.getElem?_eq_getElem (by rw [line_len]; exact h)]
  exact List.getElem_mem _
theorem line_at_fst (pl : List Int) {i : Nat} (h : i < pl.length) : pl.getD ((lineL pl).getD i (0, 0)).2.toNat 0 = (isort leI pl).getD i 0 := by
  rw [(line_mem (line_at pl h)).2.2, ← line_fst, List.getD_eq_getElem?_getD, List.getD_eq_getElem?_getD, List.getElem?_map, List.getElem?_eq_getElem (by rw [line_len]; exact h)]
  rfl
theorem prs_apart (pl : List Int) : pairsApart pl (prsL pl) = apart (isort leI pl) := by
  unfold pairsApart prsL apart
  rw [List.map_map, isort_length]
  congr 1
  refine List.map_congr_left fun i hi => ?_
  have := List.mem_range.mp hi
  show absI (pl.getD ((lineL pl).getD i (0, 0)).2.toNat 0 - pl.getD ((lineL pl).getD (pl.length - 1 - i) (0, 0)).2.toNat 0) = _
  rw [line_at_fst pl (by omega), line_at_fst pl (by omega)]
theorem line_inj {pl : List Int} {i j : Nat} (hi : i < pl.length) (hj : j < pl.length) (h : ((lineL pl).getD i (0, 0)).2 = ((lineL pl).getD j (0, 0)).2) : i = j := by
  have hn := line_nodup pl
  have e1 : ((lineL pl).map Prod.snd)[i]? = some ((lineL pl).getD i (0, 0)).2 := by
    rw [List.getElem?_map, List.getD_eq_getElem?_getD, List.getElem?_eq_getElem (by rw [line_len]; exact hi)]; rfl
  have e2 : ((lineL pl).map Prod.snd)[j]? = some ((lineL pl).getD j (0, 0)).2 := by
    rw [List.getElem?_map, List.getD_eq_getElem?_getD, List.getElem?_eq_getElem (by rw [line_len]; exact hj)]; rfl
  exact (List.getElem?_inj (by rw [List.length_map, line_len]; exact hi) hn).mp (by rw [e1, e2, h])
theorem prs_nodup (pl : List Int) : (metL (prsL pl)).Nodup := by
  unfold metL prsL
  rw [List.flatMap_map]
  refine List.pairwise_flatMap.mpr ⟨fun i hi => ?_, ?_⟩
  · have := List.mem_range.mp hi
    refine List.pairwise_cons.mpr ⟨fun y hy => ?_, List.pairwise_singleton _ _⟩
    rw [List.mem_singleton.mp hy]
    exact fun e => absurd (line_inj (by omega) (by omega) e) (by omega)
  · refine (List.pairwise_lt_range (n := pl.length / 2)).imp_of_mem fun {i j} hi hj hij x hx y hy => ?_
    have := List.mem_range.mp hi
    have := List.mem_range.mp hj
    rcases List.mem_cons.mp hx with rfl | hx <;> rcases List.mem_cons.mp hy with rfl | hy
    · exact fun e => absurd (line_inj (by omega) (by omega) e) (by omega)
    · rw [List.mem_singleton.mp hy]
      exact fun e => absurd (line_inj (by omega) (by omega) e) (by omega)
    · rw [List.mem_singleton.mp hx]
      exact fun e => absurd (line_inj (by omega) (by omega) e) (by omega)
    · rw [List.mem_singleton.mp hx, List.mem_singleton.mp hy]
      exact fun e => absurd (line_inj (by omega) (by omega) e) (by omega)
theorem prs_in (pl : List Int) : ∀ x ∈ metL (prsL pl), 0 ≤ x ∧ x < pl.length := fun x hx => by
  obtain ⟨q, hq, hx⟩ := List.mem_flatMap.mp hx
  obtain ⟨i, hi, rfl⟩ := List.mem_map.mp hq
  have := List.mem_range.mp hi
  rcases List.mem_cons.mp hx with rfl | hx
  · have h := line_mem (line_at pl (i := i) (by omega)); exact ⟨h.1, h.2.1⟩
  · rw [List.mem_singleton.mp hx]
    have h := line_mem (line_at pl (i := pl.length - 1 - i) (by omega)); exact ⟨h.1, h.2.1⟩
theorem meets_true (pl : List Int) : meetsF pl (midL pl) (prsL pl) = true := by
  unfold meetsF
  rw [decide_eq_true (prs_nodup pl), List.all_eq_true.mpr fun x hx => by rw [decide_eq_true (prs_in pl x hx).1, decide_eq_true (prs_in pl x hx).2]; rfl]
  refine decide_eq_true ?_
  rw [prs_apart, ← dist_mid (isort_srd intsO pl), isort_length, dist_perm (isortPerm pl)]
  rfl
theorem meets_more (pl : List Int) (p : Int) (prs : List (Int × Int)) : meetsF pl p (prs ++ [(0, 0)]) = false := by
  have h : ¬ (metL (prs ++ [(0, 0)])).Nodup := by
    unfold metL
    rw [List.flatMap_append]
    intro h
    have h2 := (List.nodup_append.mp h).2.1
    exact absurd h2 (by decide)
  unfold meetsF
  rw [decide_eq_false h]
  rfl
theorem least_eq (pl : List Int) : dist (isort leI pl) (midL pl) = dist pl (midL pl) := dist_perm (isortPerm pl) _
theorem least_le (pl : List Int) (s : Int) : dist pl (midL pl) ≤ dist pl s := by
  have h := dist_ge (isort leI pl) s
  rw [dist_perm (isortPerm pl)] at h
  rw [← dist_perm (isortPerm (le := leI) pl), midL, ← isort_length (le := leI) pl, dist_mid (isort_srd intsO pl)]
  exact h
/-! ### numbers told apart -/
theorem ossStep (ks : List Int) (a : Int) : step_dedup ks a = if a ∈ ks then ks else ks ++ [a] := by
  unfold step_dedup
  simp
theorem nDist_nodup {l : List Int} : nDist l = l.length ↔ l.Nodup := by
  unfold nDist
  suffices h : ∀ (l ks : List Int), ks.Nodup → ((l.foldl step_dedup ks).length ≤ ks.length + l.length) ∧ ((l.foldl step_dedup ks).length = ks.length + l.length ↔ (ks ++ l).Nodup) by
    have := (h l [] List.nodup_nil).2
    simpa using this
  intro l
  induction l with
  | nil => intro ks hk; simp [hk]
  | cons x r ih =>
    intro ks hk
    rw [List.foldl_cons, ossStep]
    by_cases hx : x ∈ ks
    · rw [if_pos hx]
      obtain ⟨h1, h2⟩ := ih ks hk
      refine ⟨by rw [List.length_cons]; omega, ⟨fun e => ?_, fun e => ?_⟩⟩
      · rw [List.length_cons] at e; omega
      · exact absurd rfl ((List.nodup_append.mp e).2.2 x hx x (List.mem_cons_self ..))
    · rw [if_neg hx]
      have hk2 : (ks ++ [x]).Nodup := List.nodup_append.mpr ⟨hk, List.pairwise_singleton _ _, fun a ha b hb e => hx (by rw [← List.mem_singleton.mp hb, ← e]; exact ha)⟩
      obtain ⟨h1, h2⟩ := ih (ks ++ [x]) hk2
      rw [List.length_append, List.length_singleton] at h1 h2
      rw [List.append_assoc] at h2
      refine ⟨by rw [List.length_cons]; omega, ?_⟩
      rw [List.length_cons, ← Nat.add_assoc, Nat.add_right_comm, h2]
      exact Iff.rfl
end Wt

namespace Wt
open PySem PySem.Spec PyProof.Rows L2
def tabAt (o : Option Cell) : Option (List (List Key × D)) := match o with | some (.dT t) => some t | some (.lT t) => some t | _ => none
def getK (kvs : List (List Key × D)) (k : List Key) (s : Sto) : Rs D := match valD kvs k with | some d => .ok d s | none => .bad
def putK' (env : En) (y d : D) (k : Option (List Key)) (s : Sto) : Fl := match d, k with
  | .loc i, some ks => match s[i]? with
    | some (.dT kvs) => if szOk (kvs.length + 1) then .nx env (s.set i (.dT (putD kvs ks y))) else .bad
    | _ => .bad
  | _, _ => .bad
def rng3K (l : List D) (s : Sto) : Rs Itm := match l with
  | [.int i, .int j, .int c] => if decide (c ≠ 0) && decide (c.natAbs < 1073741824) && Builtin.Range.small i j c && decide (Builtin.Range.rangeSize i j c = ((Builtin.Range.rangeSize i j c).toNat : Int)) then .ok (stepD i c (Builtin.Range.rangeSize i j c).toNat, fun _ => true) s else .bad
  | _ => .bad
def lctK (vs : List Nat) (g : DenG) (P : DenB) (A : Den) (env : En) (n : Nat) (st : Sto) (o : Option Cell) : Rs (List D) := match o with
  | some (.dT kvs) => (noX (lcIt (fun _ => true) vs g P A env (kvs.map fun p => keyTup p.1) [] (st.set n (.lT kvs)))).bind fun l s => match s[n]? with
      | some (.lT _) => .ok l (s.set n (.dT kvs))
      | _ => .bad
  | _ => .bad
section
variable {env : En} {st s : Sto} {A B C : Den} {As : DenL}
@[simp] theorem tabAt_dT (t : List (List Key × D)) : tabAt (some (.dT t)) = some t := (rfl)
@[simp] theorem tabAt_lT (t : List (List Key × D)) : tabAt (some (.lT t)) = some t := (rfl)
@[simp] theorem getT_loc (n : Nat) : getT st (.loc n) = tabAt st[n]? := by
  unfold getT tabAt
  cases h : st[n]? with
  | none => simp [h]
  | some c => cases c <;> simp [h]
@[simp] theorem dGetT_ap : dGetT A B env st = (A env st).bind fun x s => (B env s).bind fun y s => optB (getT s x) fun kvs => optB (tupKey y) fun k => getK kvs k s := by
  unfold dGetT optB getK
  congr
  funext x s
  congr
  funext y s
  cases getT s x <;> cases tupKey y <;> rfl
@[simp] theorem dGetT2_ap : dGetT2 A B C env st = (A env st).bind fun x s => optB (getT s x) fun _ => (B env s).bind fun y s => (C env s).bind fun z s => optB (getT s x) fun kvs => optB (tupKey y) fun k => .ok ((valD kvs k).getD z) s := by
  unfold dGetT2 optB
  congr
  funext x s
  cases getT s x with
  | none => rfl
  | some k0 =>
    show Rs.bind _ _ = Rs.bind _ _
    congr
    funext y s
    congr
    funext z s
    cases getT s x <;> cases tupKey y <;> rfl
@[simp] theorem sPutT_ap (I : Den) : sPutT A I B env st = (B env st).then env fun y s => (A env s).then env fun d s => (I env s).then env fun k s => putK' env y d (tupKey k) s := by
  unfold sPutT
  (congr) <;> (funext y s; (congr) <;> (funext d s; (congr) <;> (funext k s; unfold putK'; cases d <;> cases tupKey k <;> rfl)))
@[simp] theorem dNewT_ap : dNewT env st = .ok (.loc st.length) (st ++ [.dT []]) := (rfl)
theorem putK_loc {n : Nat} {ks : List Key} {y : D} {t : List (List Key × D)} (h : s[n]? = some (.dT t)) (hl : t.length ≤ 16777215) : putK' env y (.loc n) (some ks) s = .nx env (s.set n (.dT (putD t ks y))) := by
  have hz : szOk (t.length + 1) = true := szOk_of (by omega)
  simp only [putK', h, hz, if_true]
@[simp] theorem iRng3D_ap : iRng3D As env st = (As env st).bind fun l s => rng3K l s := (rfl)
@[simp] theorem tupKey_ii (i j : Int) : tupKey (.tup [.int i, .int j]) = some [.inl i, .inl j] := (rfl)
theorem lLcT_at {i n : Nat} {vs : List Nat} {g : DenG} {P : DenB} {A : Den} (h : env[i]? = some (some (.loc n))) : lLcT i vs g P A env st = lctK vs g P A env n st st[n]? := by
  cases h2 : st[n]? with
  | none => simp [lLcT, lctK, h, h2]
  | some c => cases c <;> simp [lLcT, lctK, h, h2] <;> rfl
theorem lctK_of {n : Nat} {vs : List Nat} {g : DenG} {P : DenB} {A : Den} {kvs : List (List Key × D)} {l : List D} (hn : n < st.length) (h : lcIt (fun _ => true) vs g P A env (kvs.map fun p => keyTup p.1) [] (st.set n (.lT kvs)) = .ok l (st.set n (.lT kvs))) :
    lctK vs g P A env n st (some (.dT kvs)) = .ok l (st.set n (.dT kvs)) := by
  show (noX _).bind _ = _
  rw [h]
  show (match (st.set n (.lT kvs))[n]? with | some (.lT _) => _ | _ => _) = _
  rw [List.getElem?_set_self hn]
  simp
end
end Wt

namespace Wt
open PySem PySem.Spec PyProof.Rows L2
/-! ## commands -/
abbrev Cmd := Int × Int × Str × Int
abbrev cmdD (c : Cmd) : D := .tup [.int c.1, .int c.2.1, .str c.2.2.1, .int c.2.2.2]
abbrev leC (x y : Cmd) : Bool := leD (cmdD x) (cmdD y)
theorem leCO : TotPre leC := ⟨fun x y => leD_pre.tot _ _, fun x y z => leD_pre.tr _ _ _⟩
theorem lex_int (a b : Int) (r t : List PyData) : PyProof.Rows.lexLt PyProof.Rows.itemOrd (PySem.W.keyToksAll (.int a :: r)) (PySem.W.keyToksAll (.int b :: t)) = if a = b then PyProof.Rows.lexLt PyProof.Rows.itemOrd (PySem.W.keyToksAll r) (PySem.W.keyToksAll t) else decide (a < b) := by
  by_cases e : a = b
  · subst e
    rw [if_pos rfl]
    exact PySem.W.dataLt_all_yes (by simp [PySem.W.alike]) (by simp [PyData.eqv])
  · rw [if_neg e, ← PySem.W.dataLt_int]
    exact PySem.W.dataLt_all_no (by simp [PySem.W.alike]) (by simp [PyData.eqv, e])
theorem leC_tick {x y : Cmd} (h : leC x y = true) : x.1 ≤ y.1 := by
  unfold leC leD at h
  have h' : PySem.W.dataLt (cmdD y).py (cmdD x).py = false := by
    cases e : PySem.W.dataLt (cmdD y).py (cmdD x).py with
    | false => rfl
    | true => rw [e] at h; cases h
  rw [show (cmdD y).py = .tuple [.int y.1, .int y.2.1, .str y.2.2.1, .int y.2.2.2] from by simp [D.py, D.pys], show (cmdD x).py = .tuple [.int x.1, .int x.2.1, .str x.2.2.1, .int x.2.2.2] from by simp [D.py, D.pys], PySem.W.dataLt_tuple, lex_int] at h'
  by_cases e : y.1 = x.1
  · omega
  · rw [if_neg e] at h'
    have := of_decide_eq_false h'
    omega
theorem toks_int {a b : Int} {r t : List PyData} (h : PySem.W.keyToksAll (.int a :: r) = PySem.W.keyToksAll (.int b :: t)) : a = b ∧ PySem.W.keyToksAll r = PySem.W.keyToksAll t := by
  rw [PySem.W.toks_all_cons, PySem.W.toks_all_cons] at h
  simp only [PySem.W.keyToks, List.cons_append, List.nil_append, List.cons.injEq, true_and, Sum.inl.injEq] at h
  exact h
theorem toks_str {a b : Str} {r t : List PyData} (h : PySem.W.keyToksAll (.str a :: r) = PySem.W.keyToksAll (.str b :: t)) : a = b ∧ PySem.W.keyToksAll r = PySem.W.keyToksAll t := by
  rw [PySem.W.toks_all_cons, PySem.W.toks_all_cons] at h
  simp only [PySem.W.keyToks, List.cons_append, List.nil_append, List.cons.injEq, true_and, Sum.inr.injEq] at h
  exact ⟨PySem.W.str_of_cps h.1, h.2⟩
theorem leC_anti (x y : Cmd) (h1 : leC x y = true) (h2 : leC y x = true) : x = y := by
  have h := leD_toks h1 h2
  simp only [D.py, D.pys, PySem.W.keyToks] at h
  obtain ⟨e1, h⟩ := toks_int h
  obtain ⟨e2, h⟩ := toks_int h
  obtain ⟨e3, h⟩ := toks_str h
  obtain ⟨e4, _⟩ := toks_int h
  exact Prod.ext e1 (Prod.ext e2 (Prod.ext e3 e4))
theorem sortOk_cmds (l : List Cmd) : sortOk (l.map cmdD) = true := sortOk_map (fun _ _ => rfl) (fun _ => by simp [D.py, D.pys, PyData.depth, PyData.depthAll]) nofun
theorem isort_cmds (l : List Cmd) : isort leD (l.map cmdD) = (isort leC l).map cmdD := isortMap (fun _ _ => rfl) l
theorem EqCmd : EqOn (fun c : Cmd => True ∧ True ∧ PyData.strOk c.2.2.1 = true ∧ True) cmdD 1 := EqOn.int.tup4 EqOn.int EqOn.str EqOn.int
def okC (c : Cmd) : Prop := PyData.strOk c.2.2.1 = true
/-! ### where a film stands -/
abbrev kMove : Str := "move"
abbrev kGo : Str := "go"
abbrev kHold : Str := "hold"
def minL (a b : Int) : Int := if b < a then b else a
@[simp] theorem minL_of (a b : Int) : (if b < a then b else a) = minL a b := (rfl)
def stepC (L : Int) (s : Int × Bool × Int) (c : Cmd) : Int × Bool × Int :=
  if c.2.2.1 = kMove then (c.2.2.2, s.2.1, c.1) else (if s.2.1 then minL L (s.1 + c.1 - s.2.2) else s.1, decide (c.2.2.1 = kGo), c.1)
def endC (L t : Int) (s : Int × Bool × Int) : Int × Bool := (if s.2.1 then minL L (s.1 + t - s.2.2) else s.1, s.2.1)
def runC (L : Int) (cs : List Cmd) : Int × Bool × Int := cs.foldl (stepC L) (0, false, 0)
def standL (L : Int) (cs : List Cmd) (t : Int) : Int × Bool := endC L t (runC L ((isort leC cs).takeWhile fun c => decide (c.1 ≤ t)))
theorem stand_filter (cs : List Cmd) (t : Int) : isort leC (cs.filter fun c => decide (c.1 ≤ t)) = (isort leC cs).takeWhile fun c => decide (c.1 ≤ t) := by
  rw [isort_filter leCO]
  exact srd_take (fun x y h hy => by
    have := leC_tick h
    have := of_decide_eq_true hy
    exact decide_eq_true (by omega)) (isort_srd leCO cs)
theorem stand_perm (L : Int) {cs ds : List Cmd} (h : cs.Perm ds) (t : Int) : standL L cs t = standL L ds t := by
  unfold standL
  rw [isort_eq leCO leC_anti h]
/-! ### a table of commands -/
abbrev Row := (Int × Int) × (Str × Int)
def putC (t : List Row) (r : Row) : List Row := if (t.any fun p => decide (p.1 = r.1)) = true then t.map (fun p => if p.1 = r.1 then (p.1, r.2) else p) else t ++ [r]
def rowK (k : Int × Int) : List Key := [.inl k.1, .inl k.2]
def rowD (r : Row) : List Key × D := (rowK r.1, .tup [.str r.2.1, .int r.2.2])
def rowC (r : Row) : Cmd := (r.1.1, r.1.2, r.2.1, r.2.2)
theorem rowK_inj (a b : Int × Int) : rowK a = rowK b ↔ a = b := by
  unfold rowK
  rw [Prod.ext_iff]
  simp
theorem put_rows (t : List Row) (r : Row) : putD (t.map rowD) (rowK r.1) (rowD r).2 = (putC t r).map rowD := by
  have h : ((t.map rowD).any fun kv => decide (kv.1 = rowK r.1)) = t.any fun p => decide (p.1 = r.1) := by
    rw [List.any_map]
    congr 1
    funext p
    show decide (rowK p.1 = rowK r.1) = _
    rw [decide_eq_decide]
    exact rowK_inj _ _
  unfold putD putC
  rw [h]
  split
  · rw [List.map_map, List.map_map]
    refine List.map_congr_left fun p _ => ?_
    show (if rowK p.1 = rowK r.1 then _ else _) = rowD (if p.1 = r.1 then _ else _)
    by_cases e : p.1 = r.1
    · rw [if_pos e, if_pos ((rowK_inj _ _).mpr e)]
      rfl
    · rw [if_neg e, if_neg fun z => e ((rowK_inj _ _).mp z)]
  · rw [List.map_append]
    rfl
theorem put_keys (t : List Row) (r : Row) (h : (t.map (·.1)).Nodup) : ((putC t r).map (·.1)).Nodup := by
  unfold putC
  split
  · rw [List.map_map]
    have : (t.map ((fun x : Row => x.1) ∘ fun p => if p.1 = r.1 then (p.1, r.2) else p)) = t.map (·.1) := List.map_congr_left fun p _ => by
      show (if p.1 = r.1 then (p.1, r.2) else p).1 = p.1
      split <;> rfl
    rw [this]
    exact h
  · rename_i hz
    rw [List.map_append]
    refine List.nodup_append.mpr ⟨h, List.pairwise_singleton _ _, fun a ha b hb e => hz ?_⟩
    obtain ⟨p, hp, rfl⟩ := List.mem_map.mp ha
    have hb' : b = r.1 := by simpa using hb
    exact List.any_eq_true.mpr ⟨p, hp, decide_eq_true (by rw [e, hb'])⟩
theorem put_len (t : List Row) (r : Row) : (putC t r).length ≤ t.length + 1 := by
  unfold putC
  split
  · rw [List.length_map]; omega
  · rw [List.length_append]; exact Nat.le_refl _
theorem put_mem {t : List Row} {r p : Row} (h : p ∈ putC t r) : p ∈ t ∨ p = r := by
  unfold putC at h
  split at h
  · obtain ⟨q, hq, rfl⟩ := List.mem_map.mp h
    by_cases e : q.1 = r.1
    · rw [if_pos e]; exact .inr (Prod.ext e rfl)
    · rw [if_neg e]; exact .inl hq
  · rcases List.mem_append.mp h with h | h
    · exact .inl h
    · exact .inr (List.mem_singleton.mp h)
theorem val_rows : ∀ {t : List Row} {r : Row}, (t.map (·.1)).Nodup → r ∈ t → valD (t.map rowD) (rowK r.1) = some (.tup [.str r.2.1, .int r.2.2])
  | p :: t, r, hn, hr => by
    rw [List.map_cons] at hn
    obtain ⟨h1, h2⟩ := List.pairwise_cons.mp hn
    unfold valD
    rw [List.map_cons, List.find?_cons]
    rcases List.mem_cons.mp hr with rfl | hr
    · rw [show decide ((rowD r).1 = rowK r.1) = true from decide_eq_true rfl]
      rfl
    · have hne : ¬ rowK p.1 = rowK r.1 := fun e => h1 r.1 (List.mem_map.mpr ⟨r, hr, rfl⟩) ((rowK_inj _ _).mp e)
      rw [show decide ((rowD p).1 = rowK r.1) = false from decide_eq_false hne]
      exact val_rows h2 hr
def tabL (f : Nat → Row) (n : Nat) : List Row := (List.range n).foldl (fun t i => putC t (f i)) []
theorem tab_succ (f : Nat → Row) (n : Nat) : tabL f (n + 1) = putC (tabL f n) (f n) := by
  unfold tabL
  rw [List.range_succ, List.foldl_append]
  rfl
theorem tab_keys (f : Nat → Row) : ∀ n, ((tabL f n).map (·.1)).Nodup
  | 0 => List.nodup_nil
  | n + 1 => by rw [tab_succ]; exact put_keys _ _ (tab_keys f n)
theorem tab_len (f : Nat → Row) : ∀ n, (tabL f n).length ≤ n
  | 0 => Nat.le_refl _
  | n + 1 => by
    rw [tab_succ]
    have := put_len (tabL f n) (f n)
    have := tab_len f n
    omega
theorem tab_mem (f : Nat → Row) : ∀ n, ∀ p ∈ tabL f n, ∃ i, i < n ∧ p = f i
  | 0, p, h => (nomatch h)
  | n + 1, p, h => by
    rw [tab_succ] at h
    rcases put_mem h with h | h
    · obtain ⟨i, hi, e⟩ := tab_mem f n p h
      exact ⟨i, by omega, e⟩
    · exact ⟨n, by omega, h⟩
end Wt

namespace Wt
open PySem PySem.Spec PyProof.Rows L2
section
variable {α : Type} {S : α → Prop} {e : α → D} {n : Nat}
theorem EqOn.anyD [DecidableEq α] (E : EqOn S e n) {x : α} (hx : S x) : ∀ l : List α, (∀ z ∈ l, S z) → ((l.map e).any fun z => PyData.eqv z.py (e x).py) = decide (x ∈ l)
  | [], _ => rfl
  | y :: l, h => by
    have h1 := h y (List.mem_cons_self ..)
    rw [List.map_cons, List.any_cons, EqOn.anyD E hx l fun z hz => h z (List.mem_cons_of_mem _ hz)]
    by_cases hxy : y = x
    · subst hxy
      rw [(E.eq y y h1 h1).mpr rfl]
      simp
    · have : PyData.eqv (e y).py (e x).py = false := by
        cases e' : PyData.eqv (e y).py (e x).py with
        | false => rfl
        | true => exact absurd ((E.eq y x h1 hx).mp e') hxy
      rw [this, Bool.false_or, decide_eq_decide]
      simp [Ne.symm hxy]
theorem EqOn.inB [DecidableEq α] (E : EqOn S e n) {st : Sto} {y : D} {l : List α} {x : α} [Decidable (x ∈ l)] (hy : IsL st y (l.map e)) (hx : S x) (hl : ∀ z ∈ l, S z) (hn : n ≤ 59 := by decide) : inB st (e x) y = some (decide (x ∈ l)) := by
  have o1 : (e x).okEq = true := E.ok (by omega) hx
  have o2 : (D.lst (l.map e)).okEq = true := E.lst.ok (by omega) hl
  have hg := hy.g
  have key : (getD' st y).okEq = true ∧ ∀ m, y ≠ .tup m := by
    cases y with
    | lst m =>
      cases (Option.some.inj hg)
      exact ⟨o2, nofun⟩
    | scr m =>
      cases (Option.some.inj hg)
      exact ⟨o2, nofun⟩
    | loc k =>
      rw [getL_loc] at hg
      cases h : st[k]? with
      | none => rw [h] at hg; cases hg
      | some c =>
        rw [h] at hg
        cases c with
        | list m =>
          have hg' : some m = some (l.map e) := hg
          cases (Option.some.inj hg')
          refine ⟨?_, nofun⟩
          simp only [getD', h]
          exact o2
        | _ => exact absurd hg (by simp [lstAt])
    | _ => cases hg
  unfold Wt.inB
  split
  · exact absurd rfl (key.2 _)
  · rw [o1, key.1, hg]
    show some ((l.map e).any fun z => PyData.eqv z.py (e x).py) = _
    rw [E.anyD hx l hl]
    exact congrArg some (decide_eq_decide.mpr Iff.rfl)
theorem EqOn.fIn [DecidableEq α] (E : EqOn S e n) {st : Sto} {y : D} {l : List α} {x : α} [Decidable (x ∈ l)] (hy : IsL st y (l.map e)) (hx : S x) (hl : ∀ z ∈ l, S z) (hn : n ≤ 59 := by decide) : fIn (e x) y st = .ok (.bl (decide (x ∈ l))) st := by
  unfold Wt.fIn
  rw [E.inB hy hx hl hn]
theorem EqOn.fNotIn [DecidableEq α] (E : EqOn S e n) {st : Sto} {y : D} {l : List α} {x : α} [Decidable (x ∈ l)] (hy : IsL st y (l.map e)) (hx : S x) (hl : ∀ z ∈ l, S z) (hn : n ≤ 59 := by decide) : fNotIn (e x) y st = .ok (.bl (!decide (x ∈ l))) st := by
  unfold Wt.fNotIn
  rw [E.inB hy hx hl hn]
end
theorem leave_inst {n c : Nat} {st s : Sto} {l : List D} (hn : st.length ≤ n) (h : (st ++ s)[n]? = some (.inst c l)) (hc : D.caps st.length l = true) : leave st (.ok (.loc n) (st ++ s)) = .ok (.ins c l) st := by
  have hf : frzD st.length (st ++ s) (.loc n) = some (.ins c l) := by
    show (if Nat.blt n st.length then _ else _) = _
    rw [if_neg (by rw [Nat.blt_eq]; omega), h]
    show (if _ then _ else _) = _
    rw [if_pos hc]
  show (match frzD st.length (st ++ s) (.loc n) with | some d' => _ | none => _) = _
  rw [hf]
  simp
@[simp] theorem fEq_bl (a b : Bool) (st : Sto) : fEq (.bl a) (.bl b) st = .ok (.bl (decide (a = b))) st := EqOn.bl.fEq (x := a) (y := b) rfl rfl trivial trivial
@[simp] theorem fNe_bl (a b : Bool) (st : Sto) : fNe (.bl a) (.bl b) st = .ok (.bl (!decide (a = b))) st := EqOn.bl.fNe (x := a) (y := b) rfl rfl trivial trivial
theorem okC_eq {c : Cmd} (h : okC c) : True ∧ True ∧ PyData.strOk c.2.2.1 = true ∧ True := ⟨trivial, trivial, h, trivial⟩
theorem fIn_cmd {st : Sto} {y : D} {l : List Cmd} {c : Cmd} (hy : IsL st y (l.map cmdD)) (hc : okC c) (hl : ∀ z ∈ l, okC z) : fIn (cmdD c) y st = .ok (.bl (decide (c ∈ l))) st := EqCmd.fIn hy (okC_eq hc) fun z hz => okC_eq (hl z hz)
theorem fNe_cmd {st : Sto} {c d : Cmd} (hc : okC c) (hd : okC d) : fNe (cmdD c) (cmdD d) st = .ok (.bl (!decide (c = d))) st := EqCmd.fNe (x := c) (y := d) rfl rfl (okC_eq hc) (okC_eq hd)
theorem fEq_cmd {st : Sto} {c d : Cmd} (hc : okC c) (hd : okC d) : fEq (cmdD c) (cmdD d) st = .ok (.bl (decide (c = d))) st := EqCmd.fEq (x := c) (y := d) rfl rfl (okC_eq hc) (okC_eq hd)
theorem at_c0 (a b c d : D) : atI [a, b, c, d] 0 = some a := (rfl)
theorem at_c1 (a b c d : D) : atI [a, b, c, d] 1 = some b := (rfl)
theorem at_c2 (a b c d : D) : atI [a, b, c, d] 2 = some c := (rfl)
theorem at_c3 (a b c d : D) : atI [a, b, c, d] 3 = some d := (rfl)
theorem at_p0 (a b : D) : atI [a, b] 0 = some a := (rfl)
theorem at_p1 (a b : D) : atI [a, b] 1 = some b := (rfl)
theorem fMax1_ints (n : Int) (r : List Int) (st : Sto) : fMax1 [.lst ((n :: r).map D.int)] st = .ok (.int (gMax n r)) st := by
  have h : (getL st (.lst ((n :: r).map D.int))).bind intsOf = some (n :: r) := intsOf_map (n :: r)
  simp only [fMax1, h]
end Wt

namespace Wt
open PySem PySem.Spec PyProof.Rows L2
/-! ## more of where a film stands -/
/-- a command of a film of that length -/
structure Vc (L : Int) (c : Cmd) : Prop where
  t0 : 0 ≤ c.1
  h0 : 0 ≤ c.2.1
  h4 : c.2.1 < 4
  k : c.2.2.1 = kHold ∨ c.2.2.1 = kGo ∨ c.2.2.1 = kMove
  p0 : 0 ≤ c.2.2.2
  p1 : if c.2.2.1 = kMove then c.2.2.2 ≤ L else c.2.2.2 = 0
theorem step_le {L : Int} {s : Int × Bool × Int} {c : Cmd} (hc : Vc L c) (h : s.1 ≤ L) : (stepC L s c).1 ≤ L := by
  unfold stepC
  have := hc.p1
  by_cases hm : c.2.2.1 = kMove
  · rw [if_pos hm] at this ⊢
    exact this
  · rw [if_neg hm]
    show (if s.2.1 then minL L (s.1 + c.1 - s.2.2) else s.1) ≤ L
    split
    · unfold minL; split <;> omega
    · exact h
theorem step_twice {L : Int} {s : Int × Bool × Int} {c : Cmd} (hc : Vc L c) (h : s.1 ≤ L) : stepC L (stepC L s c) c = stepC L s c := by
  have h1 := step_le hc h
  unfold stepC at *
  by_cases hm : c.2.2.1 = kMove
  · rw [if_pos hm, if_pos hm]
  · rw [if_neg hm] at h1
    rw [if_neg hm, if_neg hm]
    have hz : (if s.2.1 then minL L (s.1 + c.1 - s.2.2) else s.1) ≤ L := h1
    generalize (if s.2.1 then minL L (s.1 + c.1 - s.2.2) else s.1) = p at *
    refine Prod.ext ?_ rfl
    show (if decide (c.2.2.1 = kGo) = true then minL L (p + c.1 - c.1) else p) = p
    split
    · unfold minL; split <;> omega
    · rfl
/-- one more time the same command, in a sorted row -/
theorem ins_again (c : Cmd) : ∀ {l : List Cmd}, Srd leC l → c ∈ l → ∃ A B, l = A ++ c :: B ∧ ins leC c l = A ++ c :: c :: B
  | x :: r, hs, hc => by
    obtain ⟨h1, h2⟩ := List.pairwise_cons.mp hs
    by_cases e : leC c x = true
    · have hx : x = c := by
        rcases List.mem_cons.mp hc with rfl | hc
        · rfl
        · exact leC_anti _ _ (h1 c hc) e
      subst hx
      exact ⟨[], r, rfl, if_pos e⟩
    · have hcr : c ∈ r := by
        rcases List.mem_cons.mp hc with rfl | hc
        · exact absurd ((leCO.tot c c).elim id id) e
        · exact hc
      obtain ⟨A, B, e1, e2⟩ := ins_again c h2 hcr
      refine ⟨x :: A, B, by rw [e1]; rfl, ?_⟩
      show (if leC c x = true then _ else _) = _
      rw [if_neg e, e2]
      rfl
theorem fold_le {L : Int} : ∀ (l : List Cmd) (s : Int × Bool × Int), (∀ c ∈ l, Vc L c) → s.1 ≤ L → (l.foldl (stepC L) s).1 ≤ L
  | [], _, _, h => h
  | c :: r, s, hv, h => fold_le r (stepC L s c) (fun x hx => hv x (List.mem_cons_of_mem _ hx)) (step_le (hv c (List.mem_cons_self ..)) h)
theorem stand_again {L : Int} {cs : List Cmd} (hL : 0 ≤ L) (hv : ∀ c ∈ cs, Vc L c) {c : Cmd} (hc : c ∈ cs) (t : Int) : standL L (c :: cs) t = standL L cs t := by
  obtain ⟨A, B, e1, e2⟩ := ins_again c (isort_srd leCO cs) (isort_mem.mpr hc)
  unfold standL
  rw [show isort leC (c :: cs) = A ++ c :: c :: B from e2, e1]
  have hA : ∀ x ∈ A, Vc L x := fun x hx => hv x (isort_mem.mp (by rw [e1]; exact List.mem_append_left _ hx))
  congr 1
  unfold runC
  rw [List.takeWhile_append, List.takeWhile_append]
  by_cases hall : (List.takeWhile (fun c => decide (c.1 ≤ t)) A).length = A.length
  · rw [if_pos hall, if_pos hall, List.foldl_append, List.foldl_append]
    have hle := fold_le A (0, false, 0) hA hL
    generalize A.foldl (stepC L) (0, false, 0) = s at *
    by_cases ht : c.1 ≤ t
    · rw [List.takeWhile_cons, if_pos (decide_eq_true ht), List.takeWhile_cons, if_pos (decide_eq_true ht), List.foldl_cons, List.foldl_cons, List.foldl_cons, step_twice (hv c hc) hle]
    · rw [List.takeWhile_cons, if_neg (by simpa using ht), List.takeWhile_cons, if_neg (by simpa using ht)]
  · rw [if_neg hall, if_neg hall]
theorem stand_twice {L : Int} {cs : List Cmd} (hL : 0 ≤ L) (hv : ∀ c ∈ cs, Vc L c) (t : Int) : ∀ ds : List Cmd, (∀ c ∈ ds, c ∈ cs) → standL L (ds ++ cs) t = standL L cs t
  | [], _ => rfl
  | d :: ds, h => by
    have hd := h d (List.mem_cons_self ..)
    rw [List.cons_append, stand_again hL (fun c hc => by
      rcases List.mem_append.mp hc with hc | hc
      · exact hv c (h c (List.mem_cons_of_mem _ hc))
      · exact hv c hc) (List.mem_append_right _ hd), stand_twice hL hv t ds fun c hc => h c (List.mem_cons_of_mem _ hc)]
end Wt

namespace Wt
open PySem PySem.Spec PyProof.Rows L2
theorem stepD_map (c : Int) : ∀ (n : Nat) (lo : Int), stepD lo c n = (List.range n).map fun i : Nat => D.int (lo + (i : Int) * c)
  | 0, _ => rfl
  | n + 1, lo => by
    rw [stepD, stepD_map c n, List.range_succ_eq_map, List.map_cons, List.map_map]
    congr 1
    · simp
    · exact List.map_congr_left fun i _ => by
        show D.int _ = D.int _
        congr 1
        show lo + c + (i : Int) * c = lo + ((i + 1 : Nat) : Int) * c
        rw [Int.natCast_succ, Int.add_mul]
        omega
theorem rng3_ok {lo hi c : Int} (h0 : 0 ≤ lo) (h1 : lo ≤ 1000000) (h2 : 0 ≤ hi) (h3 : hi ≤ 1000000) (c0 : 1 ≤ c) (c1 : c ≤ 1000000) (s : Sto) :
    ∃ n : Nat, rng3K [.int lo, .int hi, .int c] s = .ok ((List.range n).map (fun i : Nat => D.int (lo + (i : Int) * c)), fun _ => true) s ∧ n ≤ 1000000 ∧ ∀ i : Nat, i < n → lo + (i : Int) * c < hi := by
  have hp : c > 0 := by omega
  have hs : Builtin.Range.rangeSize lo hi c = if lo < hi then (hi - lo - 1) / c + 1 else 0 := if_pos hp
  have hd : lo < hi → 0 ≤ (hi - lo - 1) / c ∧ (hi - lo - 1) / c ≤ hi - lo - 1 := fun h => ⟨Int.ediv_nonneg (by omega) (by omega), Int.ediv_le_self _ (by omega)⟩
  have hm : lo < hi → (hi - lo - 1) / c * c ≤ hi - lo - 1 := fun h => Int.ediv_mul_le _ (by omega)
  have h5 : Builtin.Range.rangeSize lo hi c = ((Builtin.Range.rangeSize lo hi c).toNat : Int) := by
    rw [hs]
    split
    · have := hd ‹_›; omega
    · rfl
  have hsm : Builtin.Range.small lo hi c = true := by
    unfold Builtin.Range.small
    rw [hs]
    simp only [Builtin.Range.rangeFitsLong, Bool.and_eq_true, Bool.or_eq_true, decide_eq_true_eq, beq_iff_eq, hp, if_true]
    by_cases h : lo < hi
    · have := hd h
      have := hm h
      simp only [h, if_true]
      omega
    · simp only [h, if_false]
      omega
  refine ⟨(Builtin.Range.rangeSize lo hi c).toNat, ?_, ?_, fun i hi' => ?_⟩
  · have hc : decide (c ≠ 0) = true := decide_eq_true (by omega)
    have hc2 : decide (c.natAbs < 1073741824) = true := decide_eq_true (by omega)
    show (if _ then _ else _) = _
    rw [hc, hc2, hsm, decide_eq_true h5, if_pos (show (true && true && true && true) = true from rfl), stepD_map]
  · rw [hs]
    split
    · have := hd ‹_›; omega
    · decide
  · rw [hs] at hi'
    by_cases h : lo < hi
    · rw [if_pos h] at hi'
      have h6 := hd h
      have h7 := hm h
      have h8 : (i : Int) ≤ (hi - lo - 1) / c := by omega
      have h9 : (i : Int) * c ≤ (hi - lo - 1) / c * c := Int.mul_le_mul_of_nonneg_right h8 (by omega)
      omega
    · rw [if_neg h] at hi'
      exact absurd hi' (Nat.not_lt_zero _)
end Wt

namespace Wt
open PySem PySem.Spec PyProof.Rows L2
/-! ## loops by an invariant of the items left -/
def Nx (r : Fl) (P : En → Sto → Prop) : Prop := match r with | .nx e s => P e s | _ => False
@[simp] theorem Nx_nx {e : En} {s : Sto} {P : En → Sto → Prop} : Nx (.nx e s) P = P e s := (rfl)
theorem Nx.ex {r : Fl} {P : En → Sto → Prop} (h : Nx r P) : ∃ e s, r = .nx e s ∧ P e s := by
  cases r with
  | nx e s => exact ⟨e, s, rfl, h⟩
  | _ => exact False.elim h
theorem Nx.imp {r : Fl} {P Q : En → Sto → Prop} (h : Nx r P) (i : ∀ e s, P e s → Q e s) : Nx r Q := by
  cases r with
  | nx e s => exact i e s h
  | _ => exact False.elim h
theorem Nx.seq {r : Fl} {P Q : En → Sto → Prop} {B : DenS} (h : Nx r P) (i : ∀ e s, P e s → Nx (B e s) Q) : Nx (seqK r B) Q := by
  cases r with
  | nx e s => exact i e s h
  | _ => exact False.elim h
theorem for_nx {α : Type} {keep : Sto → Bool} {g : DenG} {B : DenS} {enc : α → D} (I : List α → En → Sto → Prop) (hk : ∀ r e s, I r e s → keep s = true)
    (h : ∀ x r e s, I (x :: r) e s → Nx (entK (g (enc x) e) fun e1 => B e1 s) (I r)) : ∀ (xs : List α) (e : En) (s : Sto), I xs e s → Nx (forIt keep g B (xs.map enc) e s) (I [])
  | [], e, s, hi => by
    rw [List.map_nil, forIt_nil (hk _ _ _ hi)]
    exact hi
  | x :: r, e, s, hi => by
    have h1 := h x r e s hi
    rw [List.map_cons, forIt_cons (hk _ _ _ hi)]
    cases e1 : g (enc x) e with
    | none => rw [e1] at h1; exact False.elim h1
    | some e2 =>
      rw [e1] at h1
      obtain ⟨e3, s3, h2, h3⟩ := h1.ex
      show Nx (bodyK _ (B e2 s)) _
      rw [show B e2 s = .nx e3 s3 from h2]
      exact for_nx I hk h r e3 s3 h3
/-- a loop whose items are of one kind and whose invariant stays -/
theorem for_all {α : Type} {keep : Sto → Bool} {g : DenG} {B : DenS} {enc : α → D} (I : En → Sto → Prop) (S : α → Prop) (hk : ∀ e s, I e s → keep s = true)
    (h : ∀ x e s, S x → I e s → Nx (entK (g (enc x) e) fun e1 => B e1 s) I) (xs : List α) (e : En) (s : Sto) (hS : ∀ x ∈ xs, S x) (hi : I e s) : Nx (forIt keep g B (xs.map enc) e s) I :=
  (for_nx (fun r e s => (∀ x ∈ r, S x) ∧ I e s) (fun _ e s q => hk e s q.2) (fun x r e s q => (h x e s (q.1 x (List.mem_cons_self ..)) q.2).imp fun e' s' i => ⟨fun y hy => q.1 y (List.mem_cons_of_mem _ hy), i⟩) xs e s ⟨hS, hi⟩).imp fun _ _ q => q.2
/-- where one stands, told -/
abbrev standD (q : Int × Bool) : D := .tup [.int q.1, .bl q.2]
theorem EqStand : EqOn (fun _ : Int × Bool => True ∧ True) standD 1 := EqOn.int.tup2 EqOn.bl
@[simp] theorem fNe_stand (a c : Int) (b d : Bool) (st : Sto) : fNe (.tup [.int a, .bl b]) (.tup [.int c, .bl d]) st = .ok (.bl (!decide ((a, b) = (c, d)))) st := EqStand.fNe (x := (a, b)) (y := (c, d)) rfl rfl ⟨trivial, trivial⟩ ⟨trivial, trivial⟩
@[simp] theorem fEq_stand (a c : Int) (b d : Bool) (st : Sto) : fEq (.tup [.int a, .bl b]) (.tup [.int c, .bl d]) st = .ok (.bl (decide ((a, b) = (c, d)))) st := EqStand.fEq (x := (a, b)) (y := (c, d)) rfl rfl ⟨trivial, trivial⟩ ⟨trivial, trivial⟩
theorem EqCmds : EqOn (fun l : List Cmd => ∀ x ∈ l, True ∧ True ∧ PyData.strOk x.2.2.1 = true ∧ True) (fun l => D.lst (l.map cmdD)) 2 := EqCmd.lst
theorem okCs {l : List Cmd} (h : ∀ c ∈ l, okC c) : ∀ x ∈ l, True ∧ True ∧ PyData.strOk x.2.2.1 = true ∧ True := fun x hx => okC_eq (h x hx)
theorem getD_of {st : Sto} {d : D} {l : List D} (h : IsL st d l) : getD' st d = .lst l ∨ getD' st d = .scr l := by
  have hg := h.g
  cases d with
  | lst m => cases Option.some.inj hg; exact .inl rfl
  | scr m => cases Option.some.inj hg; exact .inr rfl
  | loc n =>
    rw [getL_loc] at hg
    cases e : st[n]? with
    | none => rw [e] at hg; cases hg
    | some c =>
      cases c with
      | list m =>
        rw [e] at hg
        cases Option.some.inj hg
        left
        simp [getD', e]
      | _ => rw [e] at hg; cases hg
  | _ => cases hg
theorem eqB_L {st : Sto} {d e : D} {l m : List D} (hd : IsL st d l) (he : IsL st e m) : eqB st d e = eqB st (.lst l) (.lst m) := by
  have h1 : ∀ {x : D} {l : List D}, getD' st x = .lst l ∨ getD' st x = .scr l → (getD' st x).okEq = (D.lst l).okEq ∧ (getD' st x).py = (D.lst l).py := by
    intro x l h
    rcases h with h | h <;> rw [h] <;> exact ⟨rfl, rfl⟩
  obtain ⟨o1, p1⟩ := h1 (getD_of hd)
  obtain ⟨o2, p2⟩ := h1 (getD_of he)
  have key : ∀ (x y : D), (∀ i j, ¬ (x = .int i ∧ y = .int j)) → eqB st x y = if (getD' st x).okEq && (getD' st y).okEq then some (PyData.eqv (getD' st x).py (getD' st y).py) else none := by
    intro x y hn
    unfold eqB
    split
    · exact absurd ⟨rfl, rfl⟩ (hn _ _)
    · rfl
  have hg1 := hd.g
  rw [key d e (fun i j ⟨z, _⟩ => by rw [z] at hg1; cases hg1), key (.lst l) (.lst m) (fun i j ⟨z, _⟩ => by cases z), o1, o2, p1, p2]
  rfl
theorem fNe_L {st : Sto} {d e : D} {l m : List D} (hd : IsL st d l) (he : IsL st e m) : fNe d e st = fNe (.lst l) (.lst m) st := by
  unfold fNe
  rw [eqB_L hd he]
theorem fEq_L {st : Sto} {d e : D} {l m : List D} (hd : IsL st d l) (he : IsL st e m) : fEq d e st = fEq (.lst l) (.lst m) st := by
  unfold fEq
  rw [eqB_L hd he]
theorem fNe_cmds {st : Sto} {d e : D} {l m : List Cmd} (hd : IsL st d (l.map cmdD)) (he : IsL st e (m.map cmdD)) (h1 : ∀ c ∈ l, okC c) (h2 : ∀ c ∈ m, okC c) : fNe d e st = .ok (.bl (!decide (l = m))) st := by
  rw [fNe_L hd he]
  exact EqCmds.fNe (x := l) (y := m) rfl rfl (okCs h1) (okCs h2)
theorem fEq_cmds {st : Sto} {d e : D} {l m : List Cmd} (hd : IsL st d (l.map cmdD)) (he : IsL st e (m.map cmdD)) (h1 : ∀ c ∈ l, okC c) (h2 : ∀ c ∈ m, okC c) : fEq d e st = .ok (.bl (decide (l = m))) st := by
  rw [fEq_L hd he]
  exact EqCmds.fEq (x := l) (y := m) rfl rfl (okCs h1) (okCs h2)
theorem fNe_bls (l m : List Bool) (st : Sto) : fNe (.lst (l.map .bl)) (.lst (m.map .bl)) st = .ok (.bl (!decide (l = m))) st := EqOn.bl.lst.fNe (x := l) (y := m) rfl rfl (fun _ _ => trivial) (fun _ _ => trivial)
theorem fEq_bls (l m : List Bool) (st : Sto) : fEq (.lst (l.map .bl)) (.lst (m.map .bl)) st = .ok (.bl (decide (l = m))) st := EqOn.bl.lst.fEq (x := l) (y := m) rfl rfl (fun _ _ => trivial) (fun _ _ => trivial)
end Wt

/-! Core 13: sets of tuples whose members are keys of any one kind; sorted(set(xs)), len(set(xs)). -/
namespace Wt
open PySem PySem.Spec PyProof.Rows L2
section
variable {P : Program} {w : World} {κ : Type} [DecidableEq κ] (kd : PySem.KeyKind P w κ)
abbrev Tp (h : Heap) (k : List κ) (a : Addr) : Prop := IsTupleKey kd h k a
abbrev hsh (k : List κ) : Int := tupleKeyHash kd k
/-- the members are told apart without a class statement -/
def Qt : Prop := ∀ (k : κ) (v : Value) (n : Nat), kd.is k v = true → ofAClassStatement n v = pure false ∧ ∃ b, hashByValue n v = pure b
def rws (L : List (Addr × List κ)) : List (Int × Value) := L.map fun z => (hsh kd z.2, Value.ref z.1)
variable {kd} {A : Around} {E : Value → Shared → Prop} {s : Shared}
theorem mem_is : ∀ {k : List κ} {vs : List Value}, ItemsAre kd k vs → ∀ v ∈ vs, ∃ x, kd.is x v = true
  | _, _, .nil => nofun
  | _, _, .cons h t => fun v hv => (List.mem_cons.mp hv).elim (fun e => ⟨_, e ▸ h⟩) (mem_is t v)
theorem cls_tp (q : Qt kd) {k : List κ} {b : Addr} {Q : Bool → Shared → Prop} (hk : Tp kd s.heap k b) (hQ : Q false s) : wpAny (model P w) A (ofAClassStatement 8 (.ref b)) Q E s := by
  have ty := hk.typeIs
  obtain ⟨o, its, n, ho, _, hd, hi⟩ := hk
  unfold ofAClassStatement
  refine wpAny_bind (wpAny_typeOf ty ?_)
  dsimp only
  have e0 : (("tuple" : String) == "tuple") = true := by decide
  simp only [e0, if_true, Bool.not_true, Bool.false_eq_true, if_false]
  try refine wpAny_bind (wpAny_pure ?_)
  try simp only [Bool.not_true, Bool.false_eq_true, if_false]
  show wpAny _ _ (seqItems? (.ref b) >>= _) _ _ s
  refine wpAny_bind (wpAny_seqItems ho hd ?_)
  dsimp only
  refine wpAny_bind (?_ : wpAny _ _ (forIn its _ _) _ _ s)
  rw [← Array.forIn_toList]
  refine wpAny_forIn_list _ (fun l r t => r.1 = none ∧ t = s ∧ ∀ v ∈ l, ∃ x, kd.is x v = true) _ ?_ ?_ _ _ ⟨rfl, rfl, mem_is hi⟩
  · rintro v l r t ⟨hr, rfl, al⟩
    obtain ⟨x, hx⟩ := al v (List.mem_cons_self ..)
    rw [(q x v _ hx).1]
    refine wpAny_bind (wpAny_pure ?_)
    simp only [Bool.false_eq_true, if_false]
    exact wpAny_pure ⟨rfl, rfl, fun u hu => al u (List.mem_cons_of_mem _ hu)⟩
  · rintro ⟨r1, r2⟩ t ⟨hr, rfl, _⟩
    dsimp only at hr
    subst hr
    exact wpAny_pure hQ
theorem hbv_tp (q : Qt kd) {k : List κ} {b : Addr} {Q : Bool → Shared → Prop} (hk : Tp kd s.heap k b) (hQ : ∀ z, Q z s) : wpAny (model P w) A (hashByValue 8 (.ref b)) Q E s := by
  have ty := hk.typeIs
  obtain ⟨o, its, n, ho, _, hd, hi⟩ := hk
  unfold hashByValue
  refine wpAny_bind (wpAny_specialOf ty F.slot_tuple_hash.lookup ?_)
  show wpAny _ _ (seqItems? (.ref b) >>= _) _ _ s
  refine wpAny_bind (wpAny_seqItems ho hd ?_)
  refine wpAny_bind (?_ : wpAny _ _ (forIn its _ _) _ _ s)
  rw [← Array.forIn_toList]
  refine wpAny_forIn_list _ (fun l r t => t = s ∧ ∀ v ∈ l, ∃ x, kd.is x v = true) _ ?_ ?_ _ _ ⟨rfl, mem_is hi⟩
  · rintro v l r t ⟨rfl, al⟩
    obtain ⟨x, hx⟩ := al v (List.mem_cons_self ..)
    obtain ⟨z, hz⟩ := (q x v _ hx).2
    rw [hz]
    refine wpAny_bind (wpAny_pure ?_)
    cases z
    · simp only [Bool.not_false, if_true]
      exact wpAny_pure (wpAny_pure (hQ _))
    · simp only [Bool.not_true, Bool.false_eq_true, if_false]
      exact wpAny_pure ⟨rfl, fun u hu => al u (List.mem_cons_of_mem _ hu)⟩
  · rintro ⟨r1, r2⟩ t ⟨rfl, _⟩
    cases r1 with
    | none => exact wpAny_pure (hQ _)
    | some z => exact wpAny_pure (hQ _)
/-- a search shows nothing -/
theorem seen_tp (q : Qt kd) {k : List κ} {b : Addr} {Q : Bool → Shared → Prop} (hk : Tp kd s.heap k b) {ys : List Value} (hy : ∀ y ∈ ys, ∃ k' c, y = Value.ref c ∧ Tp kd s.heap k' c) (hQ : Q false s) :
    wpAny (model P w) A (searchCouldBeSeen (.ref b) ys) Q E s := by
  unfold searchCouldBeSeen
  refine wpAny_bind (wpAny_forIn_list _ (fun l r t => r.1 = none ∧ t = s ∧ ∀ y ∈ l, ∃ k' c, y = Value.ref c ∧ Tp kd s.heap k' c) _ ?_ ?_ _ _ ⟨rfl, rfl, hy⟩)
  · rintro v l r t ⟨hr, rfl, al⟩
    obtain ⟨k', c, rfl, hc⟩ := al v (List.mem_cons_self ..)
    have al' : ∀ y ∈ l, ∃ k' c, y = Value.ref c ∧ Tp kd t.heap k' c := fun u hu => al u (List.mem_cons_of_mem _ hu)
    dsimp only
    by_cases hv : (b == c || (carriedByValue (.ref b) && carriedByValue (.ref c))) = true
    · exact wp_if_pos hv (wpAny_pure ⟨rfl, rfl, al'⟩)
    · refine wp_if_neg hv (wpAny_bind (wpAny_eqIsQuiet_tuple hk ?_))
      simp only [Bool.not_true, Bool.false_eq_true, if_false]
      refine wpAny_bind (wpAny_eqIsQuiet_tuple hc ?_)
      simp only [Bool.not_true, Bool.false_eq_true, if_false]
      refine wpAny_bind (cls_tp q hk ?_)
      simp only [Bool.false_eq_true, if_false]
      refine wpAny_bind (cls_tp q hc ?_)
      simp only [Bool.false_eq_true, if_false]
      exact wpAny_pure ⟨rfl, rfl, al'⟩
  · rintro ⟨r1, r2⟩ t ⟨hr, rfl, _⟩
    dsimp only at hr
    subst hr
    exact wpAny_pure hQ

/-! ### the set -/
variable (kd) in
structure Sg (h : Heap) (a : Addr) (L : List (Addr × List κ)) (es : Array (Int × Value)) (ep : Nat) (t : SetTable) : Prop where
  ob : ∃ o, h.get? a = some o ∧ o.ExactSet ∧ o.data = .set es ep t
  rw : es.toList = rws kd L
  tab : TabOk t (L.map fun z => hsh kd z.2)
  nd : (L.map (·.2)).Nodup
  tp : ∀ z ∈ L, Tp kd h z.2 z.1
  ld : w.params.followText "set-order" = true ∨ t.led = true
  rm : L.length * 5 < t.mask * 3
  fw : L.length < 64
variable {a : Addr} {L : List (Addr × List κ)} {es : Array (Int × Value)} {ep : Nat} {t : SetTable}
theorem rws_len {L : List (Addr × List κ)} {es : Array (Int × Value)} (h : es.toList = rws kd L) : es.size = L.length := by
  have := congrArg List.length h
  rwa [Array.length_toList, rws, List.length_map] at this
theorem Sg.sz (R : Sg kd s.heap a L es ep t) : es.size = L.length := rws_len R.rw
theorem Sg.fit (R : Sg kd s.heap a L es ep t) : t.fits es.size = true := by
  have a1 := R.tab.sz
  have a2 := R.sz
  have a3 := R.rm
  rw [List.length_map] at a1
  unfold SetTable.fits SetTable.fill
  rw [R.tab.dm, Bool.and_eq_true, beq_iff_eq, decide_eq_true_eq]
  show t.place.size = es.size ∧ t.place.size + 0 ≤ t.mask
  exact ⟨by omega, by omega⟩
theorem rws_at {L : List (Addr × List κ)} {es : Array (Int × Value)} (h : es.toList = rws kd L) {i : Nat} {z : Addr × List κ} (hz : L[i]? = some z) : es[i]? = some (hsh kd z.2, Value.ref z.1) := by
  rw [← Array.getElem?_toList, h, rws, List.getElem?_map, hz]
  rfl
theorem Sg.gw (R : Sg kd s.heap a L es ep t) : ¬ t.gaveWay = true := by
  unfold SetTable.gaveWay
  rw [mask_odd R.tab.mok]
  decide
/-- the c-th stop on the way of k -/
abbrev stop (kd : PySem.KeyKind P w κ) (t : SetTable) (k : List κ) (c : Nat) : SetTable.Probe := nth t.mask (runAt t.mask (SetTable.bits (hsh kd k) % (t.mask + 1)) (SetTable.bits (hsh kd k))) c
abbrev wy (kd : PySem.KeyKind P w κ) (t : SetTable) (k : List κ) (c : Nat) : Nat := way t.mask (hsh kd k) c
theorem stop_dm (kd : PySem.KeyKind P w κ) (t : SetTable) (k : List κ) (c : Nat) : (stop kd t k c).dummy = none := by
  suffices h : ∀ (n : Nat) (p : SetTable.Probe), p.dummy = none → (nth t.mask p n).dummy = none from h c _ rfl
  intro n
  induction n with
  | zero => exact fun p h => h
  | succ n ih => exact fun p h => ih (adv t.mask p) (by unfold adv; split <;> exact h)
theorem srch_from (q : Qt kd) (R : Sg kd s.heap a L es ep t) {x : Addr} {k : List κ} (hx : Tp kd s.heap k x) (hu : A.units < cLine) {K : Nat} (hf1 : K < 10 * SetTable.turns t.mask) (hK : wy kd t k K ∉ t.place.toList) (hb : ∀ c, c < K → wy kd t k c ∈ t.place.toList)
    {Q : SetFound → Shared → Prop} (yes : k ∈ L.map (·.2) → Q (.there none) s) (no : k ∉ L.map (·.2) → Q (.free (wy kd t k K) false) s) : ∀ (f c : Nat) (st : Option SetTable.Probe), st.getD (t.probeStart (hsh kd k)) = stop kd t k c → c ≤ K → K - c < f →
      (∀ (i : Nat) z, L[i]? = some z → z.2 = k → ∃ c', c ≤ c' ∧ c' < K ∧ t.place.toList[i]? = some (wy kd t k c')) → wpAny (model P w) A (setSearchFrom a (.ref x) (hsh kd k) true f st) Q E s
  | 0, c, _, _, _, hf, _ => absurd hf (by omega)
  | f + 1, c, st, hst, hc, hf, hre => by
    obtain ⟨o, ho, hex, hd⟩ := R.ob
    rw [setSearchFrom_succ]
    refine wpAny_bind (wpAny_setState_of ho hd R.fit ?_)
    dsimp only
    refine wp_if_neg R.gw ?_
    try refine wpAny_bind (wpAny_pure ?_)
    have sh : ∀ z, nth t.mask (stop kd t k c) z = stop kd t k (c + z) := fun z => (nth_add t.mask c _ z).symm
    have ej : ∀ z, (nth t.mask (stop kd t k c) z).j = wy kd t k (c + z) := fun z => congrArg SetTable.Probe.j (sh z)
    have spec := go_spec t R.tab.ris R.tab.dm (fun i => (es[i]?.map (·.1)).getD 0) (hsh kd k) (10 * SetTable.turns t.mask) (K - c) (stop kd t k c) (stop_dm kd t k c) (by omega)
      (fun z hz => by rw [ej]; exact hb (c + z) (by omega)) (by rw [ej, show c + (K - c) = K by omega]; exact hK)
    have ha : ∀ (i : Nat) z, L[i]? = some z → (fun i => (es[i]?.map (·.1)).getD 0) i = hsh kd z.2 := fun i z hz => by
      show (es[i]?.map (·.1)).getD 0 = _
      rw [rws_at R.rw hz]
      rfl
    rcases spec with ⟨z, i, hz, hi, hh, hno, hpr⟩ | ⟨hno, hpr⟩
    · have hpr' : t.probe (fun i => (es[i]?.map (·.1)).getD 0) (hsh kd k) (st.getD (t.probeStart (hsh kd k))) = some (.candidate (wy kd t k (c + z)) i (stop kd t k (c + (z + 1)))) := by
        rw [hst, ← ej, ← sh]
        exact hpr
      rw [hpr']
      dsimp only
      rw [ej] at hi
      have hil : i < L.length := by
        have b1 : i < t.place.toList.length := (List.getElem?_eq_some_iff.mp hi).1
        have b2 := R.tab.sz
        rw [List.length_map] at b2
        rw [Array.length_toList] at b1
        omega
      have hp : L[i]? = some L[i] := List.getElem?_eq_getElem hil
      generalize hpe : L[i] = y at hp
      have hm : y ∈ L := List.mem_of_getElem? hp
      have rest : wpAny (model P w) A (searchRest a (.ref x) (hsh kd k) true f es t (wy kd t k (c + z)) i (stop kd t k (c + (z + 1)))) Q E s := by
        unfold searchRest
        rw [rws_at R.rw hp]
        dsimp only
        refine wpAny_bind (wpAny_holding (wpAny_eqBool_tuple hu (R.tp y hm) hx (wpAny_bind (wpAny_setState_of ho hd R.fit ?_))))
        dsimp only
        by_cases hkk : y.2 = k
        · exact wp_if_pos (by simp [hkk]) (wpAny_pure (yes (List.mem_map.mpr ⟨y, hm, hkk⟩)))
        · refine wp_if_neg (by simp [hkk]) ?_
          try refine wpAny_bind (wpAny_pure ?_)
          rw [sameMem]
          dsimp only
          have hsl : t.slot (wy kd t k (c + z)) = .live i := slot_live R.tab.ris hi
          simp only [if_true, hsl, rws_at R.rw hp]
          refine wpAny_bind (wpAny_isSame_ref_self (wpAny_bind (wpAny_pure ?_)))
          simp only [if_true]
          refine wp_if_neg (by simp [hkk]) (srch_from q R hx hu hf1 hK hb yes no f (c + (z + 1)) _ rfl (by omega) (by omega) fun i0 y0 h0 hk0 => ?_)
          obtain ⟨c', b1, b2, b3⟩ := hre i0 y0 h0 hk0
          refine ⟨c', ?_, b2, b3⟩
          by_cases l1 : c' < c + z
          · exact absurd ((ha i0 y0 h0).trans (congrArg (hsh kd) hk0)) (hno (c' - c) i0 (by omega) (by rw [ej, show c + (c' - c) = c' by omega]; exact b3))
          · by_cases l2 : c' = c + z
            · rw [l2] at b3
              have s0 := slot_live R.tab.ris b3
              rw [hsl] at s0
              injection s0 with s0
              rw [← s0, hp] at h0
              exact absurd ((congrArg Prod.snd (Option.some.inj h0)).trans hk0) hkk
            · omega
      by_cases hl : t.led = true
      · refine wp_if_neg (by simp [hl]) ?_
        try refine wpAny_bind (wpAny_pure ?_)
        exact rest
      · refine wp_if_pos (by simp [hl]) (wpAny_bind (seen_tp q hx (fun y hy => ?_) ?_))
        · obtain ⟨e, he, ee⟩ := List.mem_map.mp hy
          have he1 : e ∈ es ∧ e.1 = hsh kd k := by simpa using he
          have he2 : e ∈ es.toList := by simpa using he1.1
          rw [R.rw] at he2
          obtain ⟨p2, hp2, e2⟩ := List.mem_map.mp he2
          exact ⟨p2.2, p2.1, by rw [← ee, ← e2], R.tp p2 hp2⟩
        · refine wp_if_neg (by decide) ?_
          try refine wpAny_bind (wpAny_pure ?_)
          exact rest
    · have hpr' : t.probe (fun i => (es[i]?.map (·.1)).getD 0) (hsh kd k) (st.getD (t.probeStart (hsh kd k))) = some (.empty (wy kd t k K) none) := by
        have e2 : wy kd t k K = (nth t.mask (stop kd t k c) (K - c)).j := by rw [ej, show c + (K - c) = K by omega]
        rw [hst, e2]
        exact hpr
      rw [hpr']
      dsimp only
      refine wpAny_pure (no fun hm => ?_)
      obtain ⟨p0, h0, hk0⟩ := List.mem_map.mp hm
      obtain ⟨i0, hi0, e0⟩ := List.getElem_of_mem h0
      have h00 : L[i0]? = some p0 := by rw [List.getElem?_eq_getElem hi0, e0]
      obtain ⟨c', b1, b2, b3⟩ := hre i0 p0 h00 hk0
      exact hno (c' - c) i0 (by omega) (by rw [ej, show c + (c' - c) = c' by omega]; exact b3) ((ha i0 p0 h00).trans (congrArg (hsh kd) hk0))
theorem srch_at (q : Qt kd) (R : Sg kd s.heap a L es ep t) {x : Addr} {k : List κ} (hx : Tp kd s.heap k x) (hu : A.units < cLine) {Q : SetFound → Shared → Prop} (yes : k ∈ L.map (·.2) → Q (.there none) s)
    (no : ∀ K, k ∉ L.map (·.2) → wy kd t k K ∉ t.place.toList → (∀ c, c < K → wy kd t k c ∈ t.place.toList) → Q (.free (wy kd t k K) false) s) : wpAny (model P w) A (setSearch a (.ref x) (hsh kd k) true) Q E s := by
  have hroom := R.rm
  obtain ⟨K, hf, hK, hb⟩ := R.tab.first (by rw [List.length_map]; omega) (hsh kd k)
  have hbig : K < 100000 := by
    have : 10 * SetTable.turns t.mask ≤ 1420 := by
      unfold SetTable.turns
      rcases R.tab.mok with e | e | e <;> omega
    omega
  unfold setSearch
  refine srch_from q R hx hu hf hK hb yes (fun hn => no K hn hK hb) 100000 0 none rfl (Nat.zero_le _) (by omega) fun i z hz hk => ?_
  have hi : (L.map fun z => hsh kd z.2)[i]? = some (hsh kd k) := by rw [List.getElem?_map, hz, ← hk]; rfl
  have hil : i < t.place.toList.length := by
    have b1 : i < L.length := (List.getElem?_eq_some_iff.mp hz).1
    have b2 := R.tab.sz
    rw [List.length_map] at b2
    rw [Array.length_toList]
    omega
  have hj := List.getElem?_eq_getElem hil
  obtain ⟨c, hc, e⟩ := R.tab.before hK hi hj
  exact ⟨c, Nat.zero_le _, hc, by rw [hj]; exact congrArg some e.symm⟩
/-- a tuple isn't the set -/
theorem tp_same {h h' : Heap} {k : List κ} {a b : Addr} {o : Obj} {es : Array (Int × Value)} {ep : Nat} {t : SetTable} (hb : Tp kd h k b) (ho : h.get? a = some o) (hd : o.data = .set es ep t) (hs : Heap.SameBut a h h') : Tp kd h' k b := by
  obtain ⟨u, its, n, hu, hc, hd', hi⟩ := hb
  refine ⟨u, its, n, (hs.2 b ?_).trans hu, hc, hd', hi⟩
  rintro rfl
  rw [Option.some.inj (hu.symm.trans ho), hd] at hd'
  cases hd'
theorem rws_order (L : List (Addr × List κ)) (es : Array (Int × Value)) (order : Array Nat) (hr : es.toList = rws kd L) (hp : order.toList.Perm (List.range L.length)) :
    ∃ M, (order.filterMap (es[·]?)).toList = rws kd M ∧ M.Perm L ∧ (M.map fun z => hsh kd z.2) = order.toList.map fun i => (es.map (·.1)).getD i 0 := by
  have hsz := rws_len hr
  have ent : ∀ i (h : i < L.length), es[i]? = some (hsh kd (L[i]).2, Value.ref (L[i]).1) := fun i h => rws_at hr (List.getElem?_eq_getElem h)
  have key : ∀ l : List Nat, (∀ i ∈ l, i < L.length) → ∃ M : List (Addr × List κ), l.filterMap (fun i => es[i]?) = rws kd M ∧ M = l.filterMap (fun i => L[i]?) ∧ (M.map fun z => hsh kd z.2) = l.map fun i => (es.map (·.1)).getD i 0 := by
    intro l
    induction l with
    | nil => exact fun _ => ⟨[], rfl, rfl, rfl⟩
    | cons i l ih =>
      intro hl
      have hi := hl i (List.mem_cons_self ..)
      obtain ⟨M, e1, e2, e3⟩ := ih fun j hj => hl j (List.mem_cons_of_mem _ hj)
      have e5 : (es.map (·.1))[i]? = some (hsh kd (L[i]).2) := by rw [Array.getElem?_map, ent i hi]; rfl
      exact ⟨L[i] :: M, by rw [List.filterMap_cons_some (ent i hi), e1]; rfl, by rw [List.filterMap_cons_some (List.getElem?_eq_getElem hi), e2], by rw [List.map_cons, List.map_cons, e3]; simp [Array.getD_eq_getD_getElem?, e5]⟩
  obtain ⟨M, e1, e2, e3⟩ := key order.toList fun i hi => List.mem_range.mp (hp.mem_iff.mp hi)
  refine ⟨M, by first | (rw [Array.toList_filterMap]; exact e1) | simpa using e1, ?_, e3⟩
  have h1 : M.Perm ((List.range L.length).filterMap fun i => L[i]?) := e2 ▸ hp.filterMap _
  have key2 : ∀ n, n ≤ L.length → (List.range n).filterMap (fun i => L[i]?) = L.take n := by
    intro n
    induction n with
    | zero => exact fun _ => rfl
    | succ n ih =>
      intro hn
      rw [List.range_succ, List.filterMap_append, ih (Nat.le_of_lt hn), List.take_succ, List.getElem?_eq_getElem hn, List.filterMap_cons_some (List.getElem?_eq_getElem hn)]
      rfl
  rwa [key2 L.length (Nat.le_refl _), List.take_length] at h1
theorem relay_tp {o : Obj} (ho : s.heap.get? a = some o) (hex : o.ExactSet) (hd : o.data = .set es ep t) (hr : es.toList = rws kd L) (hsz : t.place.size = es.size) (hdm : t.dummies = #[]) (hfl : es.size ≤ t.mask) (nd : (L.map (·.2)).Nodup) (tp : ∀ z ∈ L, Tp kd s.heap z.2 z.1)
    (ld : w.params.followText "set-order" = true ∨ t.led = true) (fw : L.length < 64) {wd M : Nat} (hw : SetTable.sizeAbove wd - 1 = M) (hM : MaskOk M) (hw2 : SetTable.sizeAbove wd ≤ 128) (hn : L.length * 5 < M * 3) {Q : Unit → Shared → Prop}
    (hQ : ∀ h' L' es' ep' t', Heap.SameBut a s.heap h' → Sg kd h' a L' es' ep' t' → L'.Perm L → Q () { s with heap := h' }) : wpAny (model P w) A (setRelay a wd) Q E s := by
  have hsl := rws_len hr
  have hfit : t.fits es.size = true := by
    unfold SetTable.fits SetTable.fill
    rw [hdm, Bool.and_eq_true, beq_iff_eq, decide_eq_true_eq]
    exact ⟨hsz, by show t.place.size + 0 ≤ t.mask; omega⟩
  obtain ⟨t', order, e, hp, T, em, el, ep', ed⟩ := relaid_ok t (hs := es.map (·.1)) (wanted := wd) hw hM (by rw [Array.size_map, hsl]; omega)
  rw [Array.size_map, hsl] at hp
  obtain ⟨N, r1, r2, r3⟩ := rws_order L es order hr hp
  rw [← r3] at T
  have hs2 : (order.filterMap (es[·]?)).size = es.size := by rw [rws_len r1, r2.length_eq, hsl]
  rw [setRelay_eq]
  refine wpAny_bind (wpAny_setState_of ho hd hfit ?_)
  dsimp only
  refine wp_if_neg (by rw [sizeLine_eq]; omega) ?_
  try refine wpAny_bind (wpAny_pure ?_)
  rw [e]
  dsimp only
  refine wpAny_bind (wp_if_neg (by rw [hs2]; simp) ?_)
  try refine wpAny_bind (wpAny_pure ?_)
  refine wpAny_pure ?_
  dsimp only
  have sb : Heap.SameBut a s.heap (s.heap.update a (Obj.putSet (order.filterMap (es[·]?)) t')) := Heap.SameBut.update ..
  refine wpAny_storeSet_of ho hd (hQ _ N (order.filterMap (es[·]?)) (ep + 1) t' sb ⟨⟨_, store_at ho hd, ⟨hex.1, hex.2.1, hex.2.2⟩, rfl⟩, r1, T, (r2.map (·.2)).nodup_iff.mpr nd, fun z hz => tp_same (tp z (r2.mem_iff.mp hz)) ho hd sb, by rw [el]; exact ld, by rw [r2.length_eq, em]; exact hn, by rw [r2.length_eq]; exact fw⟩ r2) (by rw [hs2, hsl, sizeLine_eq]; omega)
theorem add_tp (q : Qt kd) (R : Sg kd s.heap a L es ep t) {x : Addr} {k : List κ} (hx : Tp kd s.heap k x) (hu : A.units < cLine) (fw : L.length + 1 < 64) {Q : Bool → Shared → Prop}
    (hQ : ∀ b h' L' es' ep' t', Heap.SameBut a s.heap h' → Sg kd h' a L' es' ep' t' → (k ∈ L.map (·.2) → L' = L) → (k ∉ L.map (·.2) → L'.Perm ((x, k) :: L)) → Q b { s with heap := h' }) : wpAny (model P w) A (setAddHashed a (.ref x) (hsh kd k)) Q E s := by
  obtain ⟨o, ho, hex, hd⟩ := R.ob
  have hsl := R.sz
  have hroom := R.rm
  unfold setAddHashed
  refine wpAny_holding ?_
  rw [show (100000 : Nat) = 99999 + 1 from rfl, setAddHashedIn_succ]
  refine wpAny_bind (wpAny_setState_of ho hd R.fit ?_)
  dsimp only
  refine wp_if_neg (by simp [byScan, Value.scannable]) ?_
  try refine wpAny_bind (wpAny_pure ?_)
  refine wpAny_bind (srch_at q R hx hu (fun hm => ?_) fun K hm hK hb => ?_)
  · dsimp only
    exact wpAny_pure (hQ false s.heap L es ep t (Heap.SameBut.refl a s.heap) R (fun _ => rfl) fun z => absurd hm z)
  · dsimp only
    refine wpAny_bind (wpAny_setState_of ho hd R.fit ?_)
    dsimp only
    obtain ⟨q1, q2, q3, q4, q5, q6, q7, q8, q9⟩ := R.tab.put hK hb
    generalize hpt : t.put (wy kd t k K) = pt at q1 q3 q4 q5 q6 q7 q8 q9 ⊢
    obtain ⟨t0, p⟩ := pt
    dsimp only at q1 q3 q4 q5 q6 q7 q8 q9 ⊢
    subst q1
    suffices rest : ∀ t1 : SetTable, (t1 = t0 ∨ t1 = { t0 with plain := false }) → wpAny (model P w) A (do
        storeSet a (SetTable.insertAt es (SetTable.below t.place (wy kd t k K)) (hsh kd k, Value.ref x)) t1
        if !false && t1.tooFull then setRelay a (SetTable.grown (es.size + 1))
        return true) Q E s by
      by_cases hp1 : t0.plain = true
      · first
          | exact wpAny_bind (wp_if_pos hp1 (hbv_tp q hx fun z => by cases z; exact rest _ (.inr rfl); exact rest _ (.inl rfl)))
          | exact wp_if_pos hp1 (wpAny_bind (hbv_tp q hx fun z => by cases z; exact rest _ (.inr rfl); exact rest _ (.inl rfl)))
      · first
          | exact wpAny_bind (wp_if_neg hp1 (wpAny_pure (rest _ (.inl rfl))))
          | exact wp_if_neg hp1 (wpAny_bind (wpAny_pure (rest _ (.inl rfl))))
    intro t1 ht1
    have u3 : ∀ l, TabOk t0 l → TabOk t1 l := fun l h => by
      rcases ht1 with rfl | rfl
      · exact h
      · exact ⟨h.ris, h.dm, h.sz, h.mok, h.bd, h.reach⟩
    replace q3 := u3 _ q3
    replace q4 : t1.mask = t.mask := by rcases ht1 with rfl | rfl <;> exact q4
    replace q5 : t1.led = t.led := by rcases ht1 with rfl | rfl <;> exact q5
    have u9 : t1.fill = t0.fill := by rcases ht1 with rfl | rfl <;> rfl
    rw [← u9] at q9
    clear q6 q7 q8 ht1
    have hin : (SetTable.insertAt es (SetTable.below t.place (wy kd t k K)) (hsh kd k, Value.ref x)).toList = rws kd (L.take (SetTable.below t.place (wy kd t k K)) ++ (x, k) :: L.drop (SetTable.below t.place (wy kd t k K))) := by
      rw [SetTable.toList_insertAt, R.rw]
      simp [rws, List.map_take, List.map_drop]
    generalize hpp : SetTable.below t.place (wy kd t k K) = p at q2 q3 hin ⊢
    have pm := put_perm L p (x, k)
    have hlen : (L.take p ++ (x, k) :: L.drop p).length = L.length + 1 := pm.length_eq
    have hhs : (L.take p ++ (x, k) :: L.drop p).map (fun z => hsh kd z.2) = (L.map fun z => hsh kd z.2).take p ++ hsh kd k :: (L.map fun z => hsh kd z.2).drop p := by
      rw [List.map_append, List.map_cons, List.map_take, List.map_drop]
    rw [← hhs] at q3
    have nd1 : ((L.take p ++ (x, k) :: L.drop p).map (·.2)).Nodup := (pm.map (·.2)).nodup_iff.mpr (List.nodup_cons.mpr ⟨hm, R.nd⟩)
    have hes := rws_len hin
    rw [hlen] at hes
    generalize SetTable.insertAt es p (hsh kd k, Value.ref x) = es1 at hin hes ⊢
    generalize L.take p ++ (x, k) :: L.drop p = L1 at pm hlen q3 nd1 hin
    refine wpAny_bind (wpAny_storeSet_of ho hd ?_ (by rw [hes, sizeLine_eq]; omega))
    have sb : Heap.SameBut a s.heap (s.heap.update a (Obj.putSet es1 t1)) := Heap.SameBut.update ..
    have ho1 := store_at (es' := es1) (t' := t1) ho hd
    generalize s.heap.update a (Obj.putSet es1 t1) = h1 at sb ho1 ⊢
    have tp1 : ∀ z ∈ L1, Tp kd h1 z.2 z.1 := fun z hz => (List.mem_cons.mp (pm.mem_iff.mp hz)).elim (fun e => by rw [e]; exact tp_same hx ho hd sb) fun hz => tp_same (R.tp z hz) ho hd sb
    have ld1 : w.params.followText "set-order" = true ∨ t1.led = true := by rw [q5]; exact R.ld
    by_cases hf : t1.tooFull = true
    · first | refine wpAny_bind (wp_if_pos (by simp [hf]) ?_) | refine wp_if_pos (by simp [hf]) (wpAny_bind ?_)
      have hfull : (L.length + 1) * 5 ≥ t1.mask * 3 := by
        have h := hf
        unfold SetTable.tooFull at h
        rwa [decide_eq_true_eq, q9, List.length_map] at h
      rw [hsl]
      have hsz1 : t1.place.size = es1.size := by
        have h := q3.sz
        rw [List.length_map, hlen] at h
        rw [h, hes]
      have two : (t.mask = 7 ∧ L.length = 4) ∨ (t.mask = 31 ∧ L.length = 18) := by
        rw [q4] at hfull
        rcases R.tab.mok with e | e | e <;> rw [e] at hfull hroom
        · exact .inl ⟨e, by omega⟩
        · exact .inr ⟨e, by omega⟩
        · omega
      have go : ∀ M, SetTable.sizeAbove (SetTable.grown (L.length + 1)) - 1 = M → MaskOk M → SetTable.sizeAbove (SetTable.grown (L.length + 1)) ≤ 128 → (L.length + 1) * 5 < M * 3 →
          wpAny (model P w) A (setRelay a (SetTable.grown (L.length + 1))) (fun _ s' => wpAny (model P w) A (pure true) Q E s') E { s with heap := h1 } := fun M g1 g2 g3 g4 =>
        relay_tp (s := { s with heap := h1 }) ho1 ⟨hex.1, hex.2.1, hex.2.2⟩ rfl hin hsz1 q3.dm (by rw [hes, q4]; omega) nd1 tp1 ld1 (by rw [hlen]; exact fw) g1 g2 g3 (by rw [hlen]; exact g4)
          fun h2 L2 es2 ep2 t2 sb2 R2 pm2 => wpAny_pure (hQ true h2 L2 es2 ep2 t2 (sb.trans sb2) R2 (fun z => absurd z hm) fun _ => pm2.trans pm)
      rcases two with ⟨_, e2⟩ | ⟨_, e2⟩
      · exact go 31 (by rw [e2, size_20]) (.inr (.inl rfl)) (by rw [e2, size_20]; decide) (by omega)
      · exact go 127 (by rw [e2, size_76]) (.inr (.inr rfl)) (by rw [e2, size_76]; decide) (by omega)
    · have h := hf
      unfold SetTable.tooFull at h
      rw [decide_eq_true_eq, q9, List.length_map] at h
      first | refine wp_if_neg (by simp [hf]) ?_ | refine wpAny_bind (wp_if_neg (by simp [hf]) (wpAny_pure ?_))
      exact wpAny_pure (hQ true h1 L1 es1 (ep + 1) t1 sb ⟨⟨_, ho1, ⟨hex.1, hex.2.1, hex.2.2⟩, rfl⟩, hin, q3, nd1, tp1, ld1, by rw [hlen]; omega, by rw [hlen]; exact fw⟩ (fun z => absurd z hm) fun _ => pm)
end
theorem perm_unmap {α β : Type} {f : α → β} : ∀ {l : List β} {m : List α}, l.Perm (m.map f) → ∃ bs : List α, bs.Perm m ∧ bs.map f = l
  | [], m, h => by
    have := h.length_eq
    rw [List.length_map] at this
    exact ⟨[], by rw [List.eq_nil_of_length_eq_zero this.symm], rfl⟩
  | x :: l, m, h => by
    obtain ⟨y, hy, e⟩ := List.mem_map.mp (h.mem_iff.mp (List.mem_cons_self ..))
    obtain ⟨u, v, rfl⟩ := List.append_of_mem hy
    have h2 : l.Perm ((u ++ v).map f) := by
      have h3 : (x :: l).Perm (x :: (u ++ v).map f) := by
        refine h.trans ?_
        rw [List.map_append, List.map_append, List.map_cons, e]
        exact List.perm_middle
      exact (List.perm_cons _).mp h3
    obtain ⟨bs, p, e2⟩ := perm_unmap h2
    exact ⟨y :: bs, (p.cons y).trans List.perm_middle.symm, by rw [List.map_cons, e, e2]⟩
/-! ### a set from a list -/
section
variable {κ : Type} [DecidableEq κ]
structure Gt (ks : List (Addr × List κ)) (i : Nat) (L : List (Addr × List κ)) : Prop where
  sub : ∀ z ∈ L, z ∈ ks.take i
  all : ∀ z ∈ ks.take i, z.2 ∈ L.map (·.2)
  len : L.length ≤ i
theorem Gt.zero (ks : List (Addr × List κ)) : Gt ks 0 [] := ⟨nofun, nofun, Nat.le_refl _⟩
theorem take_suc {α : Type} {l : List α} {i : Nat} {x : α} (h : l[i]? = some x) : l.take (i + 1) = l.take i ++ [x] := by
  rw [List.take_succ, h]
  rfl
theorem Gt.old {ks L : List (Addr × List κ)} {i : Nat} {x : Addr × List κ} (g : Gt ks i L) (h : ks[i]? = some x) (hm : x.2 ∈ L.map (·.2)) : Gt ks (i + 1) L := by
  refine ⟨fun z hz => ?_, fun z hz => ?_, Nat.le_succ_of_le g.len⟩ <;> rw [take_suc h] at *
  · exact List.mem_append_left _ (g.sub z hz)
  · exact (List.mem_append.mp hz).elim (g.all z) fun e => by rw [List.mem_singleton.mp e]; exact hm
theorem Gt.new {ks L M : List (Addr × List κ)} {i : Nat} {x : Addr × List κ} (g : Gt ks i L) (h : ks[i]? = some x) (pm : M.Perm (x :: L)) : Gt ks (i + 1) M := by
  refine ⟨fun z hz => ?_, fun z hz => ?_, by rw [pm.length_eq]; exact Nat.succ_le_succ g.len⟩
  · rw [take_suc h]
    exact (List.mem_cons.mp (pm.mem_iff.mp hz)).elim (fun e => List.mem_append_right _ (List.mem_singleton.mpr e)) fun e => List.mem_append_left _ (g.sub z e)
  · rw [take_suc h] at hz
    rw [(pm.map (·.2)).mem_iff, List.map_cons]
    exact (List.mem_append.mp hz).elim (fun e => List.mem_cons_of_mem _ (g.all z e)) fun e => by rw [List.mem_singleton.mp e]; exact List.mem_cons_self ..
variable {P : Program} {w : World} {kd : PySem.KeyKind P w κ} {A : Around} {E : Value → Shared → Prop} {s : Shared}
theorem tp_keep {h h' : Heap} {k : List κ} {b : Addr} (x : Tp kd h k b) (hk : ∀ c o, h.get? c = some o → h'.get? c = some o) : Tp kd h' k b := by
  obtain ⟨o, its, n, ho, r⟩ := x
  exact ⟨o, its, n, hk b o ho, r⟩
theorem Sg.keep {h h' : Heap} {a : Addr} {L : List (Addr × List κ)} {es : Array (Int × Value)} {ep : Nat} {t : SetTable} (R : Sg kd h a L es ep t) (ha : ∀ o, h.get? a = some o → h'.get? a = some o) (ht : ∀ z ∈ L, Tp kd h' z.2 z.1) : Sg kd h' a L es ep t := by
  obtain ⟨o, ho, r⟩ := R.ob
  exact { R with ob := ⟨o, ha o ho, r⟩, tp := ht }
abbrev newSet (w : World) : Obj := { cls := .type "set", dict := none, data := .set #[] 0 (.fresh 0 0 (!w.params.followText "set-order")) }
theorem sg_new {h : Heap} {a : Addr} (ho : h.get? a = some (newSet w)) : Sg kd h a [] #[] 0 (.fresh 0 0 (!w.params.followText "set-order")) where
  ob := ⟨_, ho, ⟨rfl, rfl, rfl⟩, rfl⟩
  rw := rfl
  tab := ⟨List.Pairwise.nil, rfl, rfl, .inl rfl, nofun, fun i h j hi => by simp at hi⟩
  nd := List.nodup_nil
  tp := nofun
  ld := by
    show _ ∨ (!w.params.followText "set-order") = true
    cases w.params.followText "set-order" <;> simp
  rm := show 0 * 5 < 7 * 3 by decide
  fw := show 0 < 64 by decide
theorem upd_tps (q : Qt kd) {I : Addr} {fp wr : List Addr} {G : Array GenState → Array GenState → Prop} {n : Nat} {Pv : Nat → Value → Prop} {St : Nat → Shared → Prop} {R : Result → Shared → Prop} (W : WalksS P w A.in1 I fp wr G n Pv St) (S : Addr) (hSf : S ∉ fp)
    (ks : List (Addr × List κ)) (hn : n = ks.length) (hfew : ks.length < 64) (hval : ∀ i v, Pv i v → ∃ z, ks[i]? = some z ∧ v = .ref z.1) (h0 : Heap) (hk : ∀ z ∈ ks, Tp kd h0 z.2 z.1) (hS0 : h0.get? S = none) (hw0 : ∀ b ∈ wr, h0.get? b = none) (hu : A.in1.units < cLine) :
    ∀ (m i : Nat) (s : Shared), n - i = m → i ≤ n → St i s → (∀ b o, h0.get? b = some o → s.heap.get? b = some o) → (∃ L es ep t, Sg kd s.heap S L es ep t ∧ Gt ks i L) →
      (∀ s' L es ep t, Moved (S :: wr) G s s' → Sg kd s'.heap S L es ep t → Gt ks n L → (∀ b o, h0.get? b = some o → s'.heap.get? b = some o) → R (.ok (.ret .none)) s') →
      codeAny (model P w) A (.builtin "set.update.loop" ⟨[.ref S, .ref I], []⟩) R s := by
  have hSw : S ∉ wr := fun h => hSf (W.sub _ h)
  have hsub : ∀ b ∈ wr, b ∈ S :: wr := fun b hb => List.mem_cons_of_mem _ hb
  have kp : ∀ {s s' : Shared}, Moved wr G s s' → (∀ b o, h0.get? b = some o → s.heap.get? b = some o) → ∀ b o, h0.get? b = some o → s'.heap.get? b = some o := fun hm hkp b o e =>
    hm.heap b o (fun hb => by rw [hw0 b hb] at e; cases e) (hkp b o e)
  intro m
  induction m with
  | zero =>
    intro i s hm0 hi hst hkp ⟨L, es, ep, t, hS, g⟩ hR
    obtain rfl : i = n := by omega
    refine codeAny_builtin F.entry_set_update_loop ?_
    rw [Around.under_plainId F.plain_set_update_loop _]
    show wpAny _ A.in1 (pyNext (.ref I) >>= _) _ _ s
    refine wpAny_bind (W.done s _ _ hst fun s' hm => (?_ : wpAny _ A.in1 (ret Value.none) _ _ s'))
    have hkp' := kp hm hkp
    exact wpAny_pure (hR s' L es ep t (hm.mono hsub) (hS.keep (fun o e => hm.heap S o hSw e) fun z hz => tp_keep (hk z (List.mem_of_mem_take (g.sub z hz))) hkp') g hkp')
  | succ m ih =>
    intro i s hm0 hi hst hkp ⟨L, es, ep, t, hS, g⟩ hR
    have hlt : i < n := by omega
    refine codeAny_builtin F.entry_set_update_loop ?_
    rw [Around.under_plainId F.plain_set_update_loop _]
    show wpAny _ A.in1 (pyNext (.ref I) >>= _) _ _ s
    refine wpAny_bind (W.item i s _ _ hlt hst fun v s' hP hst' hm => ?_)
    obtain ⟨p, hp, rfl⟩ := hval i v hP
    have hkp' := kp hm hkp
    have hS' : Sg kd s'.heap S L es ep t := hS.keep (fun o e => hm.heap S o hSw e) fun z hz => tp_keep (hk z (List.mem_of_mem_take (g.sub z hz))) hkp'
    have hx : Tp kd s'.heap p.2 p.1 := tp_keep (hk p (List.mem_of_getElem? hp)) hkp'
    show wpAny _ A.in1 (holding [Value.ref p.1] (setAdd S (.ref p.1)) >>= _) _ _ s'
    refine wpAny_bind (wpAny_holding ?_)
    unfold setAdd
    refine wpAny_holding (wpAny_bind (wpAny_pyHash_tuple hu hx ?_))
    refine add_tp q (s := { s' with toks := s'.toks + (p.2.length + 1) }) hS' hx hu (by have := g.len; omega) fun b h' L' es' ep' t' hsb hS2 c1 c2 => ?_
    have g' : Gt ks (i + 1) L' := by
      by_cases c : p.2 ∈ L.map (·.2)
      · rw [c1 c]; exact g.old hp c
      · exact g.new hp (c2 c)
    have hkp2 : ∀ b o, h0.get? b = some o → h'.get? b = some o := fun b o e => (hsb.2 b (fun z => by rw [z, hS0] at e; cases e)).trans (hkp' b o e)
    refine wpAny_pure ⟨plainId_quiet F.plain_set_update_loop _, ih (i + 1) _ (by omega) hlt (W.frame _ s' _ _ hst' (Nat.le_add_right _ _) fun b hb o e => ?_) hkp2 ⟨L', es', ep', t', hS2, g'⟩ fun s2 L2 es2 ep2 t2 hm2 hS3 g2 hkp3 => ?_⟩
    · rw [hsb.2 b (fun h : b = S => hSf (h ▸ hb))]; exact e
    · refine hR s2 L2 es2 ep2 t2 (Moved.trans W.gtrans ((hm.mono hsub).then_heap (Nat.le_add_right _ _) fun b o hb e => ?_) hm2) hS3 g2 hkp3
      rw [hsb.2 b (fun h : b = S => hb (h ▸ List.mem_cons_self ..))]; exact e
set_option maxHeartbeats 8000000 in
theorem call_tps (q : Qt kd) {l : Addr} {its : Array Value} (ks : List (Addr × List κ)) {Q : Value → Shared → Prop} (hh : A.handled = none) (hl : s.heap.IsList l its) (hit : its.toList = ks.map fun z => Value.ref z.1) (hk : ∀ z ∈ ks, Tp kd s.heap z.2 z.1) (hfew : ks.length < 64) (hu : A.units + 3 < cLine)
    (hQ : ∀ (h' : Heap) (tk : Nat) L es ep t, Sg kd h' s.heap.objs.size L es ep t → Gt ks ks.length L → (∀ b o, s.heap.get? b = some o → h'.get? b = some o) → Q (.ref s.heap.objs.size) { s with heap := h', toks := tk }) : wpAny (model P w) A (call (.type "set") [.ref l]) Q E s := by
  have isz : its.size = ks.length := by
    have z := congrArg List.length hit
    rwa [Array.length_toList, List.length_map] at z
  obtain ⟨c, tl, hmro⟩ := F.called_set.mro
  have hmade := F.called_set.made
  have hsb := F.called_set.sub
  refine wpAny_call (codeAny_of_tree (?_ : wpAny _ _ (callAny (.type "set") _) _ _ _))
  refine wpAny_pure ⟨Code.quiet_builtin _ (by decide +kernel), codeAny_builtin F.entry_type_call ?_⟩
  rw [Around.under_plain (weight_type_call_type "set" [.ref l] []) rfl]
  have n1 := F.called_set.notType
  have n2 := F.called_set.canCreate
  have n3 := F.typeCall_set_1 (.ref l)
  repeat (any_goals (first | assumption | wp_step))
  refine codeAny_mono (code_set_led1 (.ref l) (E := E) (Q₁ := fun obj s₁ => obj = .ref s.heap.objs.size ∧ s₁ = { s with heap := s.heap.push (newSet w) }) ⟨rfl, rfl⟩) fun r s₁ hr => ?_
  cases r with
  | error e => exact hr
  | ok fl =>
    cases fl with
    | ret obj =>
      obtain ⟨rfl, rfl⟩ := hr
      have hS : (s.heap.push (newSet w)).get? s.heap.objs.size = some (newSet w) := Heap.get?_push_size _ rfl
      have hT : Shared.TypeIs { s with heap := s.heap.push (newSet w) } (.ref s.heap.objs.size) "set" := ⟨_, hS, rfl⟩
      have hli := F.called_set.init.lookup
      have hbi := F.called_set.init.bind (.ref s.heap.objs.size)
      repeat (any_goals (first | assumption | wp_step))
      refine codeAny_mono (codeAny_call_builtin (R := wants (fun r s₂ => r = .none ∧ ∃ h' tk L es ep t, s₂ = { s with heap := h', toks := tk } ∧ Sg kd h' s.heap.objs.size L es ep t ∧ Gt ks ks.length L ∧
          (∀ b o, s.heap.get? b = some o → h'.get? b = some o)) E) F.called_set.init.plain F.entry_set_init (check_set_init_1 hT ?_)) fun r₂ s₂ hr₂ => ?_
      · obtain ⟨ol, hol, hcl, nl, hdl⟩ := hl
        obtain ⟨ocls, odict, odata, oslots⟩ := ol
        dsimp only at hcl hdl
        subst hcl hdl
        have hol' : (s.heap.push (newSet w)).get? l = some { cls := .type "list", dict := odict, data := .seq its nl, slots := oslots } := Heap.get?_push_of_some _ hol
        have k1 := F.sub_list_set
        have k2 := F.sub_list_frozenset
        have k3 : (Value.type "list" == Value.type "dict") = false := by decide
        have hl1 : (s.heap.push (newSet w)).IsList l its := ⟨_, hol', rfl, nl, rfl⟩
        unfold Builtin.«set.__init__» noKeywords Builtin.Frozenset.updateFrom
        generalize hPI : pyIter = PI
        wp_walk
        subst hPI
        refine wpAny_pyIter_list hl1 (wpAny_bind (wpAny_runValue ?_))
        have hlS : l < s.heap.objs.size := Heap.lt_size hol
        have h3 : A.in1.in1.in1.handled = none := by simp [hh]
        have hneI : l ≠ (s.heap.push (newSet w)).objs.size := by rw [Heap.size_push]; exact Nat.ne_of_lt (Nat.lt_succ_of_lt hlS)
        have hSf : s.heap.objs.size ∉ [(s.heap.push (newSet w)).objs.size, l] := by
          rw [Heap.size_push]; simp only [List.mem_cons, List.not_mem_nil, or_false, not_or]
          exact And.intro (Nat.ne_of_lt (Nat.lt_succ_self _)) (Nat.ne_of_gt hlS)
        have hval : ∀ (i : Nat) (v : Value), its[i]? = some v → ∃ z, ks[i]? = some z ∧ v = .ref z.1 := fun i v hv => by
          have z : its.toList[i]? = some v := by rw [Array.getElem?_toList]; exact hv
          rw [hit, List.getElem?_map] at z
          cases e : ks[i]? with
          | none => rw [e] at z; cases z
          | some p => rw [e] at z; exact ⟨p, rfl, (Option.some.inj z).symm⟩
        have fresh : ∀ b, s.heap.objs.size ≤ b → s.heap.get? b = none := fun b hb => by
          cases e : s.heap.get? b with
          | none => rfl
          | some o => exact absurd (Nat.lt_of_lt_of_le (Heap.lt_size e) hb) (Nat.lt_irrefl _)
        refine upd_tps q ((Walks.list h3 _ l hneI its).toS) s.heap.objs.size hSf ks isz hfew hval s.heap hk (fresh _ (Nat.le_refl _)) (fun b hb => fresh b (by rw [List.mem_singleton.mp hb, Heap.size_push]; exact Nat.le_succ _)) hu (its.size - 0) 0 _ (by omega) (Nat.zero_le _)
          ⟨⟨_, Heap.get?_push_size _ rfl, rfl, rfl⟩, (hl1.push _)⟩ (fun b o e => Heap.get?_push_of_some _ (Heap.get?_push_of_some _ e)) ⟨[], #[], 0, _, sg_new (Heap.get?_push_of_some _ hS), Gt.zero ks⟩ fun s' L es ep t hm hS' g' hkp => ?_
        obtain ⟨h', g2, d', tk', os'⟩ := s'
        have eg : g2 = s.gens := hm.gens
        have ed : d' = s.drawn := hm.drawn
        have eo : os' = s.os := hm.os
        subst eg ed eo
        rw [isz] at g'
        show wpAny _ _ _ _ _ _
        refine wpAny_pure (?_ : wpAny _ _ (ret Value.none) _ _ _)
        exact wpAny_pure ⟨rfl, h', tk', L, es, ep, t, rfl, hS', g', hkp⟩
      · cases r₂ with
        | error e => exact hr₂
        | ok fl₂ =>
          cases fl₂ with
          | ret r =>
            obtain ⟨rfl, h', tk, L, es, ep, t, rfl, hS', g', hk'⟩ := hr₂
            repeat (any_goals (first | assumption | wp_step))
            exact hQ _ _ _ _ _ _ hS' g' hk'
          | _ => exact hr₂.elim
    | _ => exact hr.elim
end
end Wt

/-! Core 14: sorted(set(xs)), xs a list of tuples of ints and texts. -/
namespace Wt
open PySem PySem.Spec PyProof.Rows L2
def dupK {α : Type} [DecidableEq α] : List α → List α
  | [] => []
  | x :: r => if x ∈ dupK r then dupK r else x :: dupK r
theorem dupK_mem {α : Type} [DecidableEq α] : ∀ {l : List α} {x : α}, x ∈ dupK l ↔ x ∈ l
  | [], _ => Iff.rfl
  | y :: r, x => by
    unfold dupK
    split
    · rename_i h
      rw [dupK_mem, List.mem_cons]
      exact ⟨.inr, fun h' => h'.elim (fun e => e ▸ dupK_mem.mp h) id⟩
    · rw [List.mem_cons, List.mem_cons, dupK_mem]
theorem dupK_nd {α : Type} [DecidableEq α] : ∀ l : List α, (dupK l).Nodup
  | [] => List.nodup_nil
  | y :: r => by
    unfold dupK
    split
    · exact dupK_nd r
    · exact List.nodup_cons.mpr ⟨by assumption, dupK_nd r⟩
theorem dupK_map {α β : Type} [DecidableEq α] [DecidableEq β] {f : α → β} (hf : ∀ a b, f a = f b → a = b) : ∀ l : List α, dupK (l.map f) = (dupK l).map f
  | [] => rfl
  | x :: r => by
    have h : f x ∈ (dupK r).map f ↔ x ∈ dupK r := ⟨fun h => by
      obtain ⟨y, hy, e⟩ := List.mem_map.mp h
      exact hf _ _ e ▸ hy, fun h => List.mem_map.mpr ⟨x, h, rfl⟩⟩
    rw [List.map_cons]
    unfold dupK
    rw [dupK_map hf r]
    by_cases e : x ∈ dupK r
    · rw [if_pos (h.mpr e), if_pos e]
    · rw [if_neg (fun z => e (h.mp z)), if_neg e, List.map_cons]
/-! ### keys in order -/
abbrev leK (a b : List Key) : Bool := leD (keyTup a) (keyTup b)
theorem leKO : TotPre leK := ⟨fun _ _ => leD_pre.tot _ _, fun _ _ _ => leD_pre.tr _ _ _⟩
theorem toks_keys : ∀ (a b : List Key), PySem.W.keyToksAll (D.pys (a.map keyToD)) = PySem.W.keyToksAll (D.pys (b.map keyToD)) → a = b
  | [], [], _ => rfl
  | [], y :: b, h => by simp [D.pys, PySem.W.keyToksAll] at h
  | x :: a, [], h => by simp [D.pys, PySem.W.keyToksAll] at h
  | x :: a, y :: b, h => by
    simp only [List.map_cons, D.pys] at h
    rw [PySem.W.toks_all_cons, PySem.W.toks_all_cons] at h
    cases x <;> cases y <;> simp only [keyToD, D.py, PySem.W.keyToks, List.cons_append, List.nil_append, List.cons.injEq, true_and, Sum.inl.injEq, Sum.inr.injEq, reduceCtorEq, false_and] at h
    · rw [h.1, toks_keys a b h.2]
    · rw [PySem.W.str_of_cps h.1, toks_keys a b h.2]
theorem leK_anti (a b : List Key) (h1 : leK a b = true) (h2 : leK b a = true) : a = b := by
  have h := leD_toks h1 h2
  simp only [keyTup, D.py, PySem.W.keyToks] at h
  exact toks_keys a b h
/-! ### the kind of ints and texts -/
section
variable {P : Program} {w : World} {A : Around} {E : Value → Shared → Prop} {s : Shared}
theorem qt_mix : Qt (mixKind P w) := fun k v n h => by
  rcases keyIs_shape h with ⟨i, t, rfl, rfl⟩ | ⟨x, t, rfl, rfl⟩ <;> cases n <;> exact ⟨rfl, _, rfl⟩
theorem rd_items {h : Heap} : ∀ {k : List Key} {vs : List Value}, ItemsAre (mixKind P w) k vs → ReadsAll h vs (D.pys (k.map keyToD)) []
  | _, _, .nil => by simpa [D.pys] using ReadsAll.nil
  | _, _, @ItemsAre.cons _ _ _ _ _ k0 v ks vs hi t => by
    have ih := rd_items (h := h) t
    rcases keyIs_shape hi with ⟨i, tk, rfl, rfl⟩ | ⟨x, tk, rfl, rfl⟩ <;> simp only [List.map_cons, D.pys, keyToD, D.py]
    · exact ReadsAll.cons (.int _ _) ih
    · exact ReadsAll.cons (.str _ _) ih
theorem rd_tp {h : Heap} {k : List Key} {b : Addr} (x : Tp (mixKind P w) h k b) : Reads h (.ref b) (keyTup k).py [] := by
  obtain ⟨o, its, n, ho, hc, hd, hi⟩ := x
  simp only [keyTup, D.py]
  exact .tuple ho hc hd (rd_items hi)
theorem each_refs : ∀ (L : List (Addr × List Key)), PySem.W.EachIs (fun v (z : Addr × List Key) => v = Value.ref z.1) (L.map fun z => Value.ref z.1) L
  | [] => .nil
  | z :: L => .cons rfl (each_refs L)
theorem refs_each : ∀ {out : List Value} {L : List (Addr × List Key)}, PySem.W.EachIs (fun v (z : Addr × List Key) => v = Value.ref z.1) out L → out = L.map fun z => Value.ref z.1
  | _, _, .nil => rfl
  | _, _, .cons h t => by rw [h, refs_each t]; rfl
theorem sorted_tps {a : Addr} {L : List (Addr × List Key)} {es : Array (Int × Value)} {ep : Nat} {t : SetTable} {Q : Value → Shared → Prop} (R : Sg (mixKind P w) s.heap a L es ep t) (hh : A.handled = none) (hu : A.units + 65 < cLine)
    (hal : PySem.W.AllAlike (L.map fun z => (keyTup z.2).py)) (hso : PySem.W.Sortable (L.map fun z => (keyTup z.2).py)) (hdp : ∀ z ∈ L, (keyTup z.2).py.depth ≤ 60)
    (hQ : ∀ s' p (out : Array Value) (c : Nat) (M : List (Addr × List Key)), (∀ b o, s.heap.get? b = some o → s'.heap.get? b = some o) → s'.gens = s.gens → s'.os = s.os → s.heap.objs.size ≤ p →
      s'.heap.get? p = some (seqObj "list" out c) → out.toList = M.map (fun z => Value.ref z.1) → M.Perm L → Srd leK (M.map (·.2)) → Q (.ref p) s') : wpAny (model P w) A (call (.builtin "sorted") [.ref a]) Q E s := by
  obtain ⟨o, ho, hex, hd⟩ := R.ob
  have hsz := R.sz
  have hfew := R.fw
  refine Calls.call_function_entry kind_sorted plain_sorted entry_sorted (args_sorted1 _) ?_
  unfold Builtin.«sorted»
  refine wpAny_bind (m := checkCount "sorted" 1 1 _) (wpAny_pure (wpAny_bind ?_))
  refine collect_set (A := A.in1) hh ⟨o, ho, hex.1, hd⟩ R.fit (by unfold scanBound; omega) R.tab.ris R.ld fun s1 vs k1 hz g1 o1 pm => ?_
  have hes : es.toList.map (·.2) = L.map fun z => Value.ref z.1 := by
    rw [R.rw, rws, List.map_map]
    rfl
  rw [hes] at pm
  obtain ⟨bs, pb, rfl⟩ := perm_unmap pm
  have hbl : bs.length < 64 := by rw [pb.length_eq]; exact hfew
  have hvl : (bs.map fun z => Value.ref z.1).length < 64 := by rw [List.length_map]; exact hbl
  refine wpAny_bind (wpAny_newList ?_ (by rw [sizeLine_eq]; omega))
  have hoL : (s1.heap.push (seqObj "list" (bs.map fun z => Value.ref z.1).toArray 0)).get? s1.heap.objs.size = some (seqObj "list" (bs.map fun z => Value.ref z.1).toArray 0) := Heap.get?_push_size _ rfl
  have er : PySem.W.EachIs (fun v (z : Addr × List Key) => ∃ as, Reads (s1.heap.push (seqObj "list" (bs.map fun z => Value.ref z.1).toArray 0)) v (keyTup z.2).py as ∧ s1.heap.objs.size ∉ as) (bs.map fun z => Value.ref z.1) bs :=
    each_with (each_refs bs) fun v z hz' e => ⟨[], by
      rw [e]
      exact rd_tp (P := P) (w := w) (tp_keep (R.tp z (pb.mem_iff.mp hz')) fun b u e => Heap.get?_push_of_some _ (k1 b u e)), List.not_mem_nil⟩
  have hal' : PySem.W.AllAlike (bs.map fun z => (keyTup z.2).py) := fun x hx y hy => hal x ((pb.map _).mem_iff.mp hx) y ((pb.map _).mem_iff.mp hy)
  have hso' : PySem.W.Sortable (bs.map fun z => (keyTup z.2).py) := hso.imp (fun h x hx => h x ((pb.map _).mem_iff.mp hx)) fun h x hx => h x ((pb.map _).mem_iff.mp hx)
  refine wpAny_bind (wpAny_holding (PySem.W.list_sort_data (s := { s1 with heap := s1.heap.push (seqObj "list" (bs.map fun z => Value.ref z.1).toArray 0) }) (R := fun v (z : Addr × List Key) => v = Value.ref z.1) (enc := fun z : Addr × List Key => (keyTup z.2).py) hoL (each_refs bs) er hal' hso' (by rw [sizeLine_eq]; omega) (fun z hz' => by
    have := hdp z (pb.mem_iff.mp hz')
    show A.units + 1 + 1 + _ < cLine
    omega) fun out ho' hR => ?_))
  have em : bs.mergeSort (PySem.W.dataLe false fun z : Addr × List Key => (keyTup z.2).py) = isort (fun x y : Addr × List Key => leK x.2 y.2) bs := mergeSort_eq (le := fun x y : Addr × List Key => leK x.2 y.2) (fun a b c => leD_trans (keyTup a.2) (keyTup b.2) (keyTup c.2)) (fun a b => leD_total (keyTup a.2) (keyTup b.2)) bs
  rw [em] at hR
  obtain ⟨c, hc⟩ := sortedHeap_at (vs := bs.map fun z => Value.ref z.1) (out := List.toArray out) hoL
  refine wpAny_pure ⟨_, rfl, hQ _ s1.heap.objs.size (List.toArray out) c (isort (fun x y : Addr × List Key => leK x.2 y.2) bs) (fun b u e => ?_) g1 o1 hz hc (refs_each hR) ((isortPerm bs).trans pb) ?_⟩
  · have q := k1 b u e
    have hlt := Heap.lt_size q
    show (sortedHeap _ _ _ _).get? b = some u
    rw [sortedHeap_old (Nat.ne_of_lt hlt) (by rw [size_push']; exact Nat.lt_succ_of_lt hlt)]
    exact Heap.get?_push_of_some _ q
  · rw [← isortMap (le := fun x y : Addr × List Key => leK x.2 y.2) (leb := leK) (f := fun z : Addr × List Key => z.2) (fun _ _ => rfl)]
    exact isort_srd leKO _
end
/-! ### the rule -/
def tSortSetK (K : PySem.W.Frag) (ta : TE) : TE := fun σ H Q => ta σ H fun x H1 => ∃ (l : Addr) (ks : List (Addr × List Key)), x = .ref l ∧ SqL K H1 l (ks.map fun z => V.ref z.1) ∧ (∀ z ∈ ks, H1 z.1 = some (.tup (z.2.map kV))) ∧ ks.length < 64 ∧
  sortOk (ks.map fun z => keyTup z.2) = true ∧ ∀ (M : List (Addr × List Key)) p, M.map (·.2) = isort leK (dupK (ks.map (·.2))) → (∀ z ∈ M, z ∈ ks) → H1 p = none → Q (.ref p) (upd H1 p (.lst (M.map fun z => V.ref z.1)))
theorem sortOk_of {α : Type} {e : α → D} {l : List α} (h : sortOk (l.map e) = true) {L : List α} (hs : ∀ z ∈ L, z ∈ l) : PySem.W.AllAlike (L.map fun z => (e z).py) ∧ PySem.W.Sortable (L.map fun z => (e z).py) ∧ ∀ z ∈ L, (e z).py.depth ≤ 60 := by
  cases l with
  | nil =>
    have : L = [] := List.eq_nil_iff_forall_not_mem.mpr fun z hz => by cases hs z hz
    subst this
    exact ⟨nofun, .inl nofun, nofun⟩
  | cons x r =>
    rw [List.map_cons] at h
    unfold sortOk at h
    rw [Bool.and_eq_true] at h
    have fm : ∀ z ∈ L, (e x).form (e z) = true ∧ (e z).py.depth ≤ 60 := fun z hz => by
      have := List.all_eq_true.mp h.2 (e z) (by rw [← List.map_cons]; exact List.mem_map.mpr ⟨z, hs z hz, rfl⟩)
      rw [Bool.and_eq_true] at this
      exact ⟨this.1, Nat.le_of_ble_eq_true this.2⟩
    refine ⟨fun a ha b hb => ?_, ?_, fun z hz => (fm z hz).2⟩
    · obtain ⟨z, hz, rfl⟩ := List.mem_map.mp ha
      obtain ⟨y, hy, rfl⟩ := List.mem_map.mp hb
      exact D.form_alike _ _ _ (fm z hz).1 (fm y hy).1
    · cases ex : e x with
      | tup xs =>
        rw [ex] at h
        cases xs with
        | nil => simp at h
        | cons x0 xr =>
          refine .inl fun d hd => ?_
          obtain ⟨z, hz, rfl⟩ := List.mem_map.mp hd
          have hf := (fm z hz).1
          rw [ex] at hf
          cases eb : e z <;> rw [eb] at hf <;> simp [D.form] at hf
          rename_i ys
          cases ys <;> simp [D.forms] at hf
          simp [eb, D.py, D.pys]
      | _ =>
        refine .inr fun d hd => ?_
        obtain ⟨z, hz, rfl⟩ := List.mem_map.mp hd
        have hf := (fm z hz).1
        rw [ex] at hf
        cases eb : e z <;> rw [eb] at hf <;> simp [D.form] at hf <;> simp [eb, D.py]
theorem srd_dup {M : List (Addr × List Key)} {l : List (List Key)} (hn : (M.map (·.2)).Nodup) (hm : ∀ k, k ∈ M.map (·.2) ↔ k ∈ l) (hs : Srd leK (M.map (·.2))) : M.map (·.2) = isort leK (dupK l) := by
  have p : (M.map (·.2)).Perm (dupK l) := (List.perm_ext_iff_of_nodup hn (dupK_nd l)).mpr fun k => by rw [hm, dupK_mem]
  rw [← isort_srd_self hs]
  exact isort_eq leKO leK_anti p
theorem refs_of_vals_k : ∀ {ks : List (Addr × List Key)} {us : List Value}, Vals (ks.map fun z => V.ref z.1) us → us = ks.map fun z => Value.ref z.1
  | [], _, .nil => rfl
  | z :: ks, _, .cons r t => by
    cases r
    rw [refs_of_vals_k t]
    rfl
theorem vals_of_refs_k : ∀ (ks : List (Addr × List Key)), Vals (ks.map fun z => V.ref z.1) (ks.map fun z => Value.ref z.1)
  | [] => .nil
  | _ :: ks => .cons rfl (vals_of_refs_k ks)
theorem pe_sortSetK {X : Cx} {a : Expr} {ta : TE} {p p2 q pos : Pos} (hg : Gl X "sorted") (hm : X.mg "sorted" = none) (hg2 : Gl X "set") (hm2 : X.mg "set" = none) (ha : PE X a ta) (hu : X.A.units + 65 < cLine) (hc : X.calm = true := by rfl)
    (na : starEach [a] X.env = (false, eval a X.env) :: starEach [] X.env := by rfl) : PE X (.Call (.Name "sorted" p) [.Call (.Name "set" p2) [a] [] q] [] pos) (tSortSetK X.K ta) := by
  refine ⟨fun pins s σ H Q I h => ?_⟩
  refine Call_ (ld_blt I hg hm (by rfl) ?_)
  refine PyProof.Rows.callWith_builtin1 (PyProof.Rows.args_cons ?_ rfl) rfl rfl
  refine Call_ (ld_blt I hg2 hm2 boot_set ?_)
  refine PyProof.Rows.callWith_type1 (PyProof.Rows.args_cons (thn (ha.run pins s σ H _ I h) fun v s1 ⟨x, H1, I1, r1, q1⟩ => PyProof.Rows.args_nil ?_) na) na rfl
  obtain ⟨l, ks, rfl, hl, hk, hf, ho, q1⟩ := q1
  cases r1
  obtain ⟨its, rv, pl, hz⟩ := I1.list hl
  have hd := I1.ok.hd hc
  refine call_tps (P := X.prog) (w := X.w) (kd := mixKind X.prog X.w) qt_mix ks hd pl.isList (by simpa using refs_of_vals_k rv) (fun z hz => key_of I1.hok (hk z hz)) hf (by omega) fun h' tk L es ep t R g kp => ?_
  refine PyProof.Rows.args_nil ?_
  have I2 : Inv X pins σ H1 { s1 with heap := h', toks := tk } := I1.kept fun b o e => kp b o e
  have sub : ∀ z ∈ L, z ∈ ks := fun z hz => List.mem_of_mem_take (g.sub z hz)
  obtain ⟨o1, o2, o3⟩ := sortOk_of ho sub
  refine sorted_tps (s := { s1 with heap := h', toks := tk }) R hd hu o1 o2 o3 fun s' p out c M k ge oe hp hget hout pm ps => ?_
  have hfew : M.length < 64 := by rw [pm.length_eq]; exact R.fw
  have hlen : (M.map fun z => V.ref z.1).length ≤ sizeLine := by rw [List.length_map, sizeLine_eq]; omega
  have hn : H1 p = none := I2.hok.fresh hp
  have hv : Vals (M.map fun z => V.ref z.1) out.toList := by rw [hout]; exact vals_of_refs_k M
  have J : Inv X pins σ (upd H1 p (.lst (M.map fun z => V.ref z.1))) { ({ s1 with heap := h', toks := tk } : Shared) with heap := s'.heap, gens := s'.gens, drawn := s'.drawn, toks := s'.toks } :=
    I2.call (ch := []) (Un.laid k hp hn) (I2.hok.laid k hp ⟨hlen, out.toList, c, hv, hget⟩) (by rw [ge]; exact I2.bare) (fun _ z => nomatch z)
  have e : s' = { s1 with heap := s'.heap, gens := s'.gens, drawn := s'.drawn, toks := s'.toks } := by
    cases s'
    cases s1
    cases oe
    rfl
  rw [e]
  refine ⟨.ref p, _, J, rfl, q1 M p (srd_dup ((pm.map (·.2)).nodup_iff.mpr R.nd) (fun x => ?_) ps) (fun z hz => sub z (pm.mem_iff.mp hz)) hn⟩
  rw [(pm.map (·.2)).mem_iff]
  refine ⟨fun hx => ?_, fun hx => ?_⟩
  · obtain ⟨z, hz, e⟩ := List.mem_map.mp hx
    exact List.mem_map.mpr ⟨z, sub z hz, e⟩
  · obtain ⟨z, hz, rfl⟩ := List.mem_map.mp hx
    exact g.all z (by rw [List.take_length]; exact hz)
/-! ### the denotation -/
def keyLs : List D → Option (List (List Key))
  | [] => some []
  | d :: r => match tupKey d, keyLs r with
    | some k, some ks => some (k :: ks)
    | _, _ => none
def lSortSet (A : Den) : DenL := fun env st => (A env st).bind fun d s => match (getL s d).bind keyLs with
  | some ks => if Nat.blt ks.length 64 && sortOk (ks.map keyTup) then .ok ((isort leK (dupK ks)).map keyTup) s else .bad
  | none => .bad
theorem keys_at {K : PySem.W.Frag} {G : GT} {H : Hp} {S : Vw} : ∀ {l : List D} {vs : List V} {ks : List (List Key)}, Reps K G H S l vs → keyLs l = some ks → ∃ zs : List (Addr × List Key), zs.map (·.2) = ks ∧ vs = zs.map (fun z => V.ref z.1) ∧ ∀ z ∈ zs, H z.1 = some (.tup (z.2.map kV))
  | [], vs, ks, r, e => by
    cases e
    exact ⟨[], rfl, r.of_nil, nofun⟩
  | d :: l, vs, ks, r, e => by
    obtain ⟨v, ws, rfl, rd, rl⟩ := r.of_cons
    unfold keyLs at e
    cases h1 : tupKey d with
    | none => rw [h1] at e; cases e
    | some k =>
      cases h2 : keyLs l with
      | none => rw [h1, h2] at e; cases e
      | some ks' =>
        rw [h1, h2] at e
        cases e
        obtain ⟨b, rfl, hb⟩ := key_at rd h1
        obtain ⟨zs, e1, e2, e3⟩ := keys_at rl h2
        exact ⟨(b, k) :: zs, by rw [List.map_cons, e1], by rw [e2]; rfl, fun z hz => (List.mem_cons.mp hz).elim (fun e => by rw [e]; exact hb) (e3 z)⟩
theorem rep_keyTup {K : PySem.W.Frag} {G : GT} {H : Hp} {S : Vw} {b : Addr} {k : List Key} (h : H b = some (.tup (k.map kV))) : Rep K G H S (keyTup k) (.ref b) := by
  simp only [keyTup, Rep]
  exact ⟨b, _, rfl, h, mk_keys k⟩
theorem reps_keyTup {K : PySem.W.Frag} {G : GT} {H : Hp} {S : Vw} : ∀ {M : List (Addr × List Key)}, (∀ z ∈ M, H z.1 = some (.tup (z.2.map kV))) → Reps K G H S ((M.map (·.2)).map keyTup) (M.map fun z => V.ref z.1)
  | [], _ => .nil
  | z :: M, h => .cons (rep_keyTup (h z (List.mem_cons_self ..))) (reps_keyTup fun y hy => h y (List.mem_cons_of_mem _ hy))
theorem el_sortSet {X : Cx} {G : GT} {W : WX} {A : Den} {a : Expr} {p p2 q pos : Pos} (hm : X.mg "sorted" = none) (hm2 : X.mg "set" = none) (ha : ED X G W A a) (hu : X.A.units + 65 < cLine) (hg : Gl X "sorted" := by rfl) (hg2 : Gl X "set" := by rfl) (hc : X.calm = true := by rfl)
    (na : starEach [a] X.env = (false, eval a X.env) :: starEach [] X.env := by rfl) : EL X G W (lSortSet A) (.Call (.Name "sorted" p) [.Call (.Name "set" p2) [a] [] q] [] pos) :=
  PE.imp (pe_sortSetK hg hm hg2 hm2 ha hu hc na) fun σ H Q ⟨S, env, st, m, q⟩ => ⟨S, env, st, m, Post.imp (Post.bind q) fun S1 H1 d s1 l1 w1 q v rv => by
    cases el : getL s1 d with
    | none => rw [el] at q; exact q.elim
    | some l =>
      cases ek : keyLs l with
      | none => rw [el, Option.bind_some, ek] at q; exact q.elim
      | some ks =>
        rw [el, Option.bind_some, ek] at q
        dsimp only at q
        split at q
        · rename_i hz
          rw [Bool.and_eq_true] at hz
          obtain ⟨a, vs, rfl, h1, h2⟩ := getL_at w1 rv el
          obtain ⟨zs, e1, rfl, e3⟩ := keys_at h2 ek
          refine ⟨a, zs, rfl, h1, e3, ?_, ?_, fun M p hM hs hp => ?_⟩
          · have := blt_of hz.1
            rwa [← e1, List.length_map] at this
          · rw [← e1, List.map_map] at hz
            exact hz.2
          · refine Post.ok q w1 _ p ?_ hp
            rw [← e1, ← hM]
            exact reps_keyTup fun z hz => e3 z (hs z hz)
        · exact q.elim⟩
@[simp] theorem lSortSet_ap {A : Den} {env : En} {st : Sto} : lSortSet A env st = (A env st).bind fun d s => optB ((getL s d).bind keyLs) fun ks => if Nat.blt ks.length 64 && sortOk (ks.map keyTup) then .ok ((isort leK (dupK ks)).map keyTup) s else .bad := by
  unfold lSortSet optB
  congr
  funext d s
  cases (getL s d).bind keyLs <;> rfl
end Wt

/-! Core 15: dicts with keys that are ints and texts. -/
namespace Wt
open PySem PySem.Spec PyProof.Rows L2
def keyOfD : D → Option Key
  | .int i => some (.inl i)
  | .str x => some (.inr x)
  | _ => none
def valS (kvs : List (Key × D)) (k : Key) : Option D := (kvs.find? fun kv => decide (kv.1 = k)).map (·.2)
def putS (kvs : List (Key × D)) (k : Key) (d : D) : List (Key × D) :=
  if (kvs.any fun kv => decide (kv.1 = k)) = true then kvs.map (fun kv => if kv.1 = k then (kv.1, d) else kv) else kvs ++ [(k, d)]
def mrgS (kvs : List (Key × D)) : List (Key × D) := kvs.foldl (fun acc kv => putS acc kv.1 kv.2) []
def getS' (st : Sto) : D → Option (List (Key × D))
  | .loc i => match st[i]? with
    | some (.dK kvs) => some kvs
    | _ => none
  | _ => none
section
variable {K : PySem.W.Frag} {G : GT} {H : Hp} {S : Vw}
theorem keyOfD_at {d : D} {v : V} {k : Key} (r : Rep K G H S d v) (e : keyOfD d = some k) : v = kV k := by
  cases d <;> simp only [keyOfD, Option.some.injEq, reduceCtorEq] at e
  · subst e; exact rep_int r
  · subst e; exact rep_str r
theorem KRep.valS {kvs : List (Key × D)} {us : List (Key × V)} {k : Key} (h : KRep K G H S kvs us) : (∀ d, valS kvs k = some d → ∃ v, valV us k = some v ∧ Rep K G H S d v) ∧ (Wt.valS kvs k = none → valV us k = none) := by
  unfold KRep at h
  induction h with
  | nil => exact ⟨fun d e => (nomatch e), fun _ => rfl⟩
  | @cons p q ps qs h t ih =>
    obtain ⟨h1, h2⟩ := h
    unfold Wt.valS valV at *
    rw [List.find?_cons, List.find?_cons]
    by_cases e : p.1 = k
    · rw [decide_eq_true e, decide_eq_true (h1 ▸ e)]
      exact ⟨fun d ed => by cases ed; exact ⟨_, rfl, h2⟩, nofun⟩
    · rw [decide_eq_false e, decide_eq_false (fun z => e (h1.trans z))]
      exact ih
theorem KRep.anyS {kvs : List (Key × D)} {us : List (Key × V)} {k : Key} (h : KRep K G H S kvs us) : (kvs.any fun kv => decide (kv.1 = k)) = us.any fun kv => decide (kv.1 = k) := by
  unfold KRep at h
  induction h with
  | nil => rfl
  | @cons p q ps qs h t ih => rw [List.any_cons, List.any_cons, ih, h.1]
theorem KRep.putS {kvs : List (Key × D)} {us : List (Key × V)} {k : Key} {d : D} {v : V} (h : KRep K G H S kvs us) (r : Rep K G H S d v) : KRep K G H S (putS kvs k d) (putK us k v) := by
  unfold Wt.putS putK
  rw [h.anyS]
  unfold KRep at h ⊢
  split
  · rename_i hz
    clear hz
    induction h with
    | nil => exact .nil
    | @cons p q ps qs h t ih =>
      rw [List.map_cons, List.map_cons]
      refine .cons ?_ ih
      by_cases e : p.1 = k
      · rw [if_pos e, if_pos (h.1 ▸ e)]
        exact ⟨h.1, r⟩
      · rw [if_neg e, if_neg (fun z => e (h.1.trans z))]
        exact h
  · rename_i hz
    clear hz
    induction h with
    | nil => exact .cons ⟨rfl, r⟩ .nil
    | @cons p q ps qs h t ih => exact .cons h ih
theorem KRep.mrg : ∀ {more : List (Key × D)} {rs : List (Key × V)} {kvs : List (Key × D)} {us : List (Key × V)}, KRep K G H S more rs → KRep K G H S kvs us → KRep K G H S (more.foldl (fun acc kv => Wt.putS acc kv.1 kv.2) kvs) (mergeK us rs) := by
  intro more rs kvs us h
  unfold KRep at h
  induction h generalizing kvs us with
  | nil => exact id
  | @cons p q ps qs h t ih =>
    intro z
    have z' := z.putS (k := p.1) h.2
    exact ih (us := putK us q.1 q.2) (by rw [← h.1]; exact z')
theorem getS'_at {d : D} {v : V} {st : Sto} {kvs : List (Key × D)} (w : Ws K G H S st) (r : Rep K G H S d v) (e : getS' st d = some kvs) : ∃ a us, v = .ref a ∧ H a = some (.dK us) ∧ KRep K G H S kvs us := by
  cases d with
  | loc i =>
    simp only [Rep] at r
    obtain ⟨a, rfl, hi⟩ := r
    simp only [getS'] at e
    cases hk : st[i]? with
    | none => rw [hk] at e; cases e
    | some c =>
      rw [hk] at e
      cases c with
      | dK k =>
        cases e
        obtain ⟨us, h1, h2⟩ := w.cr _ a _ hi hk
        exact ⟨a, us, rfl, h1, h2⟩
      | _ => cases e
  | _ => cases e
end
def dGetS (A B : Den) : Den := fun env st => (A env st).bind fun x s => (B env s).bind fun y s => match getS' s x, keyOfD y with
  | some kvs, some k => match valS kvs k with
    | some d => .ok d s
    | none => .bad
  | _, _ => .bad
def dGetS2 (A B C : Den) : Den := fun env st => (A env st).bind fun x s => match getS' s x with
  | some _ => (B env s).bind fun y s => (C env s).bind fun z s => match getS' s x, keyOfD y with
    | some kvs, some k => .ok ((valS kvs k).getD z) s
    | _, _ => .bad
  | none => .bad
def sPutS (A I B : Den) : DenS := fun env st => (B env st).then env fun y s => (A env s).then env fun d s => (I env s).then env fun k s => match d, keyOfD k with
  | .loc i, some ks => match s[i]? with
    | some (.dK kvs) => if szOk (kvs.length + 1) then .nx env (s.set i (.dK (putS kvs ks y))) else .bad
    | _ => .bad
  | _, _ => .bad
/-- {"a": x, ..}: the new dict stands empty while the values are made -/
def dDisp (ks : List Str) (As : DenL) : Den := fun env st => (As env (st ++ [.dK []])).bind fun l s => match s[st.length]? with
  | some (.dK []) => if Nat.beq l.length ks.length && Nat.ble l.length 15 then .ok (.loc st.length) (s.set st.length (.dK (mrgS ((ks.map Sum.inr).zip l)))) else .bad
  | _ => .bad
section
variable {X : Cx} {G : GT} {W : WX} {pos pos' apos cpos : Pos} {e f o i : Expr} {A B C : Den}
theorem ed_getS (ho : ED X G W A o) (hi : ED X G W B i) (hu : X.A.units + 65 < cLine) (hs : NoSl i := by exact fun _ _ => rfl) : ED X G W (dGetS A B) (.Subscript o i pos) :=
  PE.imp (pe_dget (by omega) ho hi hs) fun σ H Q ⟨S, env, st, m, q⟩ => ⟨S, env, st, m, Post.imp (Post.bind q) fun S1 H1 x s1 l1 w1 q v rv => ⟨S1, env, s1, m.later l1 w1, Post.imp (Post.bind q) fun S2 H2 y s2 l2 w2 q u ru => by
    cases e1 : getS' s2 x with
    | none => rw [e1] at q; exact q.elim
    | some kvs =>
      cases e2 : keyOfD y with
      | none => rw [e1, e2] at q; exact q.elim
      | some k =>
        rw [e1, e2] at q
        dsimp only at q
        cases e3 : valS kvs k with
        | none => rw [e3] at q; exact q.elim
        | some d =>
          rw [e3] at q
          obtain ⟨a, us, rfl, h1, h2⟩ := getS'_at w2 (rv.mono l2) e1
          obtain rfl := keyOfD_at ru e2
          obtain ⟨w, h4, h5⟩ := (h2.valS (k := k)).1 d e3
          exact ⟨a, w, rfl, by rw [← h4]; exact DGet.k h1, Post.ok q w2 w h5⟩⟩⟩
theorem ed_getS2 (ho : ED X G W A o) (he : ED X G W B e) (hf : ED X G W C f) (hu : X.A.units + 65 < cLine) (m : M2 X o "get" apos e f cpos := by exact ⟨rfl, rfl, rfl, rfl⟩) : ED X G W (dGetS2 A B C) (.Call (.Attribute o "get" apos) [e, f] [] cpos) :=
  PE.imp (pe_dget2 (by omega) ho he hf m) fun σ H Q ⟨S, env, st, m, q⟩ => ⟨S, env, st, m, Post.imp (Post.bind q) fun S1 H1 x s1 l1 w1 q v rv => by
    cases e0 : getS' s1 x with
    | none => rw [e0] at q; exact q.elim
    | some kvs0 =>
      rw [e0] at q
      dsimp only at q
      obtain ⟨a, us0, rfl, h0, h00⟩ := getS'_at w1 rv e0
      refine ⟨a, rfl, .inl ⟨us0, .inl h0⟩, S1, env, s1, m.later l1 w1, Post.imp (Post.bind q) fun S2 H2 y s2 l2 w2 q u ru => ⟨S2, env, s2, (m.later l1 w1).later l2 w2, Post.imp (Post.bind q) fun S3 H3 z s3 l3 w3 q t rt => ?_⟩⟩
      cases e1 : getS' s3 x with
      | none => rw [e1] at q; exact q.elim
      | some kvs =>
        cases e2 : keyOfD y with
        | none => rw [e1, e2] at q; exact q.elim
        | some k =>
          rw [e1, e2] at q
          dsimp only at q
          obtain ⟨a', us, ea, h1, h2⟩ := getS'_at w3 ((rv.mono l2).mono l3) e1
          cases ea
          obtain rfl := keyOfD_at (ru.mono l3) e2
          refine ⟨valV us k, DGet.k h1, Post.ok q w3 _ ?_⟩
          cases e3 : valS kvs k with
          | none => rw [(h2.valS (k := k)).2 e3]; exact rt
          | some d =>
            obtain ⟨w, h4, h5⟩ := (h2.valS (k := k)).1 d e3
            rw [h4]
            exact h5⟩
theorem es_putS (ho : ED X G W A o) (hi : ED X G W B i) (hv : ED X G W C e) (hu : X.A.units + 65 < cLine) (hs : swapsWith e (some (.Subscript o i pos')) pos.line X.env = pure false := by rfl) : ES X G W (sPutS A B C) (.Assign [.Subscript o i pos'] e pos) :=
  PS.imp (ps_dput (by omega) ho hi hv hs) fun E σ H ⟨S, env, st, m, q⟩ => ⟨S, env, st, m, Post.imp (Post.then m.er q) fun S1 H1 y s1 l1 w1 q v rv => ⟨S1, env, s1, m.later l1 w1, Post.imp (Post.then (m.er.mono l1) q) fun S2 H2 d s2 l2 w2 q u ru =>
    ⟨S2, env, s2, (m.later l1 w1).later l2 w2, Post.imp (Post.then ((m.er.mono l1).mono l2) q) fun S3 H3 k s3 l3 w3 q z rz => by
      cases d with
      | loc i =>
        cases ek : keyOfD k with
        | none => simp only [ek] at q; exact q.elim
        | some ks =>
          simp only [ek] at q
          cases ec : s3[i]? with
          | none => simp only [ec] at q; exact q.elim
          | some c =>
            cases c with
            | dK kvs =>
              simp only [ec] at q
              split at q
              · rename_i hz
                simp only [Rep] at ru
                obtain ⟨a, rfl, ha⟩ := ru
                have ha3 := l3.toLatR.ix ha
                obtain ⟨us, h1, h2⟩ := w3.cr i a _ ha3 ec
                obtain rfl := keyOfD_at rz ek
                have rv3 := (rv.mono l2).mono l3
                have nt := nt_of h1 rfl
                have lt := (w3.write (o := .dK (putK us ks v)) (c' := .dead) ec ha3 (by intro z; cases z) nt trivial).1
                obtain ⟨_, w4⟩ := w3.write (o := .dK (putK us ks v)) (c' := .dK (putS kvs ks y)) ec ha3 (by intro z; cases z) nt ⟨_, upd_same, (h2.putS rv3).mono lt.toLatR⟩
                have hl := szOk.ok hz
                rw [h2.len] at hl
                exact ⟨a, _, rfl, DPut.k h1 (by omega), q S3 _ σ lt ⟨w4, (((m.er.mono l1).mono l2).mono l3).mono lt⟩⟩
              · exact q.elim
            | _ => simp only [ec] at q; exact q.elim
      | _ => cases ek : keyOfD k <;> simp only [ek] at q <;> exact q.elim⟩⟩⟩
end
/-! ### a display -/
/-- the pairs' rules: keys are written texts -/
def EPs (X : Cx) (G : GT) (W : WX) (ks : List Str) (As : DenL) (keys : List (Option Expr)) (values : List Expr) : Prop :=
  ∃ trs : List (TE × TE), (∀ pos, PPs X pos keys values trs) ∧ ∀ (S : Vw) (σ : L2.St) (H : Hp) (env : En) (st : Sto) (k : List (V × V) → Hp → Prop), Sm X.K G S σ H env st →
    (Post X.K G W σ S H (As env st) fun S' H' l _ => ∀ vs, Reps X.K G H' S' l vs → k ((ks.map V.str).zip vs) H') → tPairs trs σ H k
section
variable {X : Cx} {G : GT} {W : WX} {pos : Pos}
theorem eps_nil : EPs X G W [] aNil [] [] := ⟨[], fun _ => pps_nil, fun S σ H env st k m q => Post.ok q m.ws [] Reps.nil⟩
theorem eps_cons {x : Str} {j : Nat} {p : Pos} {ks : List Str} {A : Den} {As : DenL} {e : Expr} {keys : List (Option Expr)} {values : List Expr} (h : ED X G W A e) (t : EPs X G W ks As keys values) : EPs X G W (x :: ks) (aCons A As) (some (.Constant (.str x) j p) :: keys) (e :: values) := by
  obtain ⟨trs, h1, h2⟩ := t
  refine ⟨(tC (.str x), tD X.K G W A) :: trs, fun pos => pps_cons pe_str h (h1 pos), fun S σ H env st k m q => ?_⟩
  show tD X.K G W A σ H _
  refine ⟨S, env, st, m, Post.imp (Post.bind q) fun S1 H1 d s1 l1 w1 q v rv => ?_⟩
  refine h2 S1 σ H1 env s1 _ (m.later l1 w1) (Post.imp (Post.bind q) fun S2 H2 l s2 l2 w2 q vs rvs => ?_)
  exact Post.ok q w2 (v :: vs) (.cons (rv.mono l2) rvs)
theorem zip_keys : ∀ (ks : List Str) (vs : List V), (ks.map V.str).zip vs = ((ks.map (Sum.inr : Str → Key)).zip vs).map fun kv => (kV kv.1, kv.2)
  | [], _ => rfl
  | _ :: _, [] => rfl
  | k :: ks, v :: vs => by
    simp only [List.map_cons, List.zip_cons_cons]
    rw [zip_keys ks vs]
    rfl
theorem zip_rep {K : PySem.W.Frag} {H : Hp} {S : Vw} : ∀ {ks : List Key} {l : List D} {vs : List V}, Reps K G H S l vs → KRep K G H S (ks.zip l) (ks.zip vs)
  | [], _, _, _ => .nil
  | _ :: _, [], _, r => by rw [r.of_nil]; exact .nil
  | k :: ks, d :: l, _, r => by
    obtain ⟨v, ws, rfl, h1, h2⟩ := r.of_cons
    exact .cons ⟨rfl, h1⟩ (zip_rep h2)
theorem ed_disp {ks : List Str} {As : DenL} {keys : List (Option Expr)} {values : List Expr} (h : EPs X G W ks As keys values) (hall : keys.all (·.isSome) = true := by rfl) (hl : keys.length = values.length := by rfl) (h0 : keys ≠ [] := by simp)
    (h15 : keys.length ≤ 15 := by decide) : ED X G W (dDisp ks As) (.Dict keys values pos) := by
  obtain ⟨trs, h1, h2⟩ := h
  refine PE.imp (pe_disp (h1 pos) hall hl h0 h15) fun σ H Q ⟨S, env, st, m, q⟩ p hp => ?_
  have w1 : Ws X.K G (upd H p (.dK [])) (S.add p) (st ++ [.dK []]) := m.ws.newC hp ⟨[], upd_same, .nil⟩
  have l1 : Lat H S (upd H p (.dK [])) (S.add p) := Lat.newC hp
  refine h2 (S.add p) σ _ env (st ++ [.dK []]) _ (m.later l1 w1) (Post.later (Post.bind q) l1 fun S2 H2 l s l2 w2 q vs rvs => ?_)
  have hix := l2.toLatR.ix (Vw.add_ix m.ws (p := p))
  cases ec : s[st.length]? with
  | none => rw [ec] at q; exact q.elim
  | some c =>
    cases c with
    | dK kk =>
      cases kk with
      | nil =>
        rw [ec] at q
        dsimp only at q
        split at q
        · rename_i hz
          rw [Bool.and_eq_true] at hz
          obtain ⟨us, g1, g2⟩ := w2.cr _ p _ hix ec
          obtain rfl : us = [] := by cases g2; rfl
          have nt := nt_of g1 rfl
          have hk : KRep X.K G H2 S2 (mrgS ((ks.map Sum.inr).zip l)) (mergeK [] ((ks.map Sum.inr).zip vs)) := (zip_rep (ks := ks.map Sum.inr) rvs).mrg .nil
          have lt := (w2.write (o := .dK (mergeK [] ((ks.map Sum.inr).zip vs))) (c' := .dead) ec hix (by intro z; cases z) nt trivial).1
          obtain ⟨_, w4⟩ := w2.write (o := .dK (mergeK [] ((ks.map Sum.inr).zip vs))) (c' := .dK (mrgS ((ks.map Sum.inr).zip l))) ec hix (by intro z; cases z) nt ⟨_, upd_same, hk.mono lt.toLatR⟩
          have hb := Nat.le_of_ble_eq_true hz.2
          refine ⟨g1, (ks.map Sum.inr).zip vs, zip_keys ks vs, ?_, ?_⟩
          · rw [List.length_zip, ← rvs.length]
            omega
          · refine q S2 _ lt w4 _ ?_
            simp only [Rep]
            exact ⟨p, rfl, hix⟩
        · exact q.elim
      | cons _ _ => rw [ec] at q; exact q.elim
    | _ => rw [ec] at q; exact q.elim
end
end Wt

/-! Core 16: try .. except X as n; what the caught error is. -/
namespace Wt
open PySem PySem.Spec PyProof.Rows L2
/-! ### another table of classes, alike below 90 -/
def Cell.nc : Cell → Bool
  | .list l => D.ncs l
  | .inst c fs => Nat.blt c 90 && D.ncs fs
  | .dK kvs => kvs.all fun kv => kv.2.nc
  | .dT kvs => kvs.all fun kv => kv.2.nc
  | .lT kvs => kvs.all fun kv => kv.2.nc
  | .dead => true
def enC (e : En) : Bool := e.all fun o => match o with | some d => d.nc | none => true
def stC (s : Sto) : Bool := s.all Cell.nc
structure AlikeG (G G' : GT) : Prop where
  cl : ∀ n, n < 90 → G' n = G n
  lam : G'.lam = G.lam
  own : G'.own = G.own
  tab : G'.tab = G.tab
  cd : G'.cd = G.cd
  cv : G'.cv = G.cv
theorem AlikeG.symm {G G' : GT} (h : AlikeG G G') : AlikeG G' G := ⟨fun n hn => (h.cl n hn).symm, h.lam.symm, h.own.symm, h.tab.symm, h.cd.symm, h.cv.symm⟩
section
variable {K : PySem.W.Frag} {G G' : GT} {H : Hp} {S : Vw} (g : AlikeG G G')
include g
mutual
theorem Rep.swap : ∀ {d : D} {v : V}, d.nc = true → Rep K G H S d v → Rep K G' H S d v
  | .non, _, _, h => by simpa [Rep] using h
  | .bl _, _, _, h => by simpa [Rep] using h
  | .int _, _, _, h => by simpa [Rep] using h
  | .str _, _, _, h => by simpa [Rep] using h
  | .tup ds, _, n, h => by
    simp only [D.nc] at n
    simp only [Rep] at h ⊢
    obtain ⟨a, vs, e, h1, h2⟩ := h
    exact ⟨a, vs, e, h1, Reps.swap n h2⟩
  | .lst ds, _, n, h => by
    simp only [D.nc] at n
    simp only [Rep] at h ⊢
    obtain ⟨a, vs, e, f, h1, h2⟩ := h
    exact ⟨a, vs, e, f, h1, Reps.swap n h2⟩
  | .scr ds, _, n, h => by
    simp only [D.nc] at n
    simp only [Rep] at h ⊢
    obtain ⟨a, vs, e, h1, h2⟩ := h
    exact ⟨a, vs, e, h1, Reps.swap n h2⟩
  | .ins c ds, _, n, h => by
    simp only [D.nc, Bool.and_eq_true] at n
    simp only [Rep] at h ⊢
    obtain ⟨a, dx, vs, e, f, h1, h2⟩ := h
    exact ⟨a, dx, vs, e, f, by rw [g.cl c (blt_of n.1)]; exact h1, Reps.swap n.2 h2⟩
  | .loc i, _, _, h => by simpa [Rep] using h
  | .cls c, _, n, h => by
    simp only [D.nc] at n
    simp only [Rep] at h ⊢
    rw [g.cl c (blt_of n)]
    exact h
  | .lam _, _, _, h => by
    simp only [Rep] at h ⊢
    rw [g.lam, g.own]
    exact h
theorem Reps.swap : ∀ {ds : List D} {vs : List V}, D.ncs ds = true → Reps K G H S ds vs → Reps K G' H S ds vs
  | [], _, _, h => by simpa [Reps] using h
  | d :: ds, _, n, h => by
    simp only [D.ncs, Bool.and_eq_true] at n
    simp only [Reps] at h ⊢
    obtain ⟨v, ws, e, r, t⟩ := h
    exact ⟨v, ws, e, Rep.swap n.1 r, Reps.swap n.2 t⟩
end
theorem KRep.swap {κ : Type} : ∀ {ds : List (κ × D)} {vs : List (κ × V)}, (ds.all fun kv => kv.2.nc) = true → KRep K G H S ds vs → KRep K G' H S ds vs
  | _, _, _, .nil => .nil
  | _, _, n, .cons h t => by
    rw [List.all_cons, Bool.and_eq_true] at n
    exact .cons ⟨h.1, Rep.swap g n.1 h.2⟩ (KRep.swap n.2 t)
theorem CRep.swap {c : Cell} {a : Addr} (n : c.nc = true) (h : CRep K G H S c a) : CRep K G' H S c a := by
  cases c with
  | list ds =>
    obtain ⟨vs, h1, h2⟩ := h
    exact ⟨vs, h1, Reps.swap g n h2⟩
  | inst c fs =>
    simp only [Cell.nc, Bool.and_eq_true] at n
    obtain ⟨dx, vs, h1, h2, h3⟩ := h
    exact ⟨dx, vs, by rw [g.cl c (blt_of n.1)]; exact h1, Reps.swap g n.2 h2, h3⟩
  | dK kvs =>
    obtain ⟨us, h1, h2⟩ := h
    exact ⟨us, h1, KRep.swap g n h2⟩
  | dT kvs =>
    obtain ⟨us, h1, h2⟩ := h
    exact ⟨us, h1, KRep.swap g n h2⟩
  | lT kvs =>
    obtain ⟨us, o, h1, h2⟩ := h
    exact ⟨us, o, h1, KRep.swap g n h2⟩
  | dead => trivial
theorem Ws.swap {st : Sto} (n : stC st = true) (w : Ws K G H S st) : Ws K G' H S st :=
  ⟨w.len, w.nd, w.rl, w.nf, w.np, w.dj, w.pf, fun i a c h1 h2 => (w.cr i a c h1 h2).swap g (List.all_eq_true.mp n c (List.mem_of_getElem? h2)), w.fr, by rw [g.tab]; exact w.tb, by rw [g.cd, g.cv]; exact Reps.swap g G.cn w.cp⟩
theorem ERep.swap {σ : L2.St} {env : En} (n : enC env = true) (e : ERep K G H S σ env) : ERep K G' H S σ env :=
  ⟨e.len, fun i d h => by
    obtain ⟨v, h1, h2⟩ := e.at_ i d h
    exact ⟨v, h1, h2.swap g (List.all_eq_true.mp n (some d) (List.mem_of_getElem? h))⟩⟩
theorem Sm.swap {σ : L2.St} {env : En} {st : Sto} (n : enC env = true) (n2 : stC st = true) (m : Sm K G S σ H env st) : Sm K G' S σ H env st := ⟨m.ws.swap g n2, m.er.swap g n⟩
end
/-- the caught error stands as the class 99 -/
def Gat (G : GT) (a : Addr) : GT := { G with f := fun n => if n = 99 then a else G n }
theorem gat_alike (G : GT) (a : Addr) : AlikeG G (Gat G a) := ⟨fun n hn => if_neg (by omega), rfl, rfl, rfl, rfl, rfl⟩
theorem gat_99 (G : GT) (a : Addr) : Gat G a 99 = a := by
  show (if 99 = 99 then a else G.f 99) = a
  exact if_pos rfl
def asOut (i : Nat) (r : Fl) : Fl := match r with
  | .nx e s => if enC (e.set i none) && stC s then .nx (e.set i none) s else .bad
  | .rt d s => if d.nc && stC s then .rt d s else .bad
  | _ => .bad
def sTryAs (es : List Nat) (ec i : Nat) (B : DenS) (B2 : Nat → DenS) : DenS := fun env st => match B env st with
  | .exc c e s => if es.contains c then (if subE c ec then (if enC e && stC s then asOut i (B2 c (e.set i (some (.cls 99))) s) else .bad) else .exc c e s) else .bad
  | r => r
section
variable {X : Cx} {G : GT} {W : WX} {ec i : Nat} {es : List Nat} {x n : Str} {np pos pos' : Pos} {body suite : List Stmt} {b₀ : Stmt} {B : DenS} {B2 : Nat → DenS}
theorem es_tryAs (hs : X.stack = X.env :: X.outer) (hf : X.env.frame = some X.env.locals) (hN : X.N.Nodup) (hmx : X.mg x = some (.ref (G ec))) (tk : L2N.Takes X W) (ok : ∀ c ∈ es, PySem.W.exmOne X.K (.ref (G c)) (.ref (G ec)) = some (subE c ec))
    (hb : ∀ (W : WX) (pn : List (Addr × Obj)) (xe : Value → Shared → Prop), L2N.Takes (X.tr pn xe) W → PassesOwn (model X.prog X.w) X.A X.env xe → ESs (X.tr pn xe) G W B body)
    (hsu : ∀ (a : Addr) (oe : Obj) (pn : List (Addr × Obj)) (c : Nat), c ∈ es → L2N.Zn (.ref (G c)) none oe → (∃ vs, oe.data = .fields vs) → ESs (X.suite a ((a, oe) :: pn)) (Gat G a) W0 (B2 c) (b₀ :: suite))
    (hi : X.N[i]? = some n := by rfl) (hln : X.env.kindOf n = some .local := by rfl) (hgx : Gl X x := by rfl) (hdb : (x == ("__debug__" : Str)) = false := by decide) :
    ES X G W (sTryAs es ec i B B2) (.Try body [.ExceptHandler (some (.Name x np)) (some n) (b₀ :: suite) pos'] [] [] pos) :=
  PS.imp (L2N.ps_try_as (i := i) (tb := fun W => tS X.K G W B) (ts := fun a cls d E σ H => d = none ∧ ∃ c, c ∈ es ∧ cls = .ref (G c) ∧ tS X.K (Gat G a) W0 (B2 c) E σ H) hs hf hN hi hln ⟨hgx, hdb, .inl hmx⟩ tk hb
    fun a oe cls d pn hz hf => ⟨fun pins s σ H E I ⟨hd, c, hc, e, q⟩ => (hsu a oe pn c hc (by rw [← e, ← hd]; exact hz) hf).run pins s σ H E I q⟩) fun E σ H ⟨S, env, st, m, q⟩ => ⟨S, env, st, m, by
    unfold sTryAs at q
    cases e : B env st with
    | exc c e' s =>
      rw [e] at q
      dsimp only at q
      split at q
      · rename_i hz
        have hc : c ∈ es := by simpa using hz
        intro S' H' σ' l m'
        refine ⟨subE c ec, ok c hc, fun hs a ha => ⟨rfl, c, hc, rfl, ?_⟩, fun hs => ?_⟩
        · rw [hs, if_pos rfl] at q
          split at q
          · rename_i hn
            rw [Bool.and_eq_true] at hn
            have m2 := m'.swap (gat_alike G a) hn.1 hn.2
            refine ⟨S', e'.set i (some (.cls 99)), s, ⟨m2.ws, m2.er.set (by simp only [Rep]; rw [gat_99])⟩, ?_⟩
            have q' := PostS.later q l
            cases eb : B2 c (e'.set i (some (.cls 99))) s with
            | nx e2 s2 =>
              rw [eb] at q'
              unfold asOut at q'
              dsimp only at q'
              split at q'
              · rename_i hn2
                rw [Bool.and_eq_true] at hn2
                intro S3 H3 σ3 l3 m3
                exact q' S3 H3 _ l3 (Sm.swap (gat_alike G a).symm hn2.1 hn2.2 ⟨m3.ws, m3.er.unset⟩)
              · exact q'.elim
            | rt d s2 =>
              rw [eb] at q'
              unfold asOut at q'
              dsimp only at q'
              split at q'
              · rename_i hn2
                rw [Bool.and_eq_true] at hn2
                intro S3 H3 v l3 w3 r3
                exact q' S3 H3 v l3 (w3.swap (gat_alike G a).symm hn2.2) (r3.swap (gat_alike G a).symm hn2.1)
              · exact q'.elim
            | bk e2 s2 => rw [eb] at q'; exact q'.elim
            | ct e2 s2 => rw [eb] at q'; exact q'.elim
            | exc c2 e2 s2 => rw [eb] at q'; exact q'.elim
            | bad => rw [eb] at q'; exact q'.elim
          · exact q.elim
        · rw [hs, if_neg (by decide)] at q
          exact q S' H' σ' l m'
      · exact q.elim
    | nx e' s => rw [e] at q; exact q
    | rt d s => rw [e] at q; exact q
    | bk e' s => rw [e] at q; exact q
    | ct e' s => rw [e] at q; exact q
    | bad => rw [e] at q; exact q⟩
end
/-! ### isinstance of the caught error -/
/-- what the walk asks of a class of errors for that -/
def EExc (K : PySem.W.Frag) (G : GT) (es : List Nat) : Prop := ∀ c ∈ es, ExcC K (G c)
/-- .. and of the class that is asked for -/
def EIs (K : PySem.W.Frag) (mg : Str → Option Value) (G : GT) (es : List Nat) (x : Str) (k : Nat) : Prop := (∀ c ∈ es, PySem.W.kitOne K (.ref (G c)) (.ref (G k)) = some (subE c k)) ∧ mg x = some (.ref (G k))
def EIsV (K : PySem.W.Frag) (G : GT) (es : List Nat) : Prop := ∀ c ∈ es, PySem.W.kitOne K (.ref (G c)) (.type "ValueError") = some true
def dErrIs (b : Bool) (A : Den) : Den := fun env st => (A env st).bind fun d s => match d with
  | .cls c => if Nat.beq c 99 then .ok (.bl b) s else .bad
  | _ => .bad
section
variable {X : Cx} {G : GT} {W : WX} {A : Den} {a : Expr} {p p2 pos : Pos} {x : Str} {ea : Addr} {oe : Obj} {pn : List (Addr × Obj)} {c k : Nat} {es : List Nat}
theorem err_end {cv : Value} {v' : V} {b : Bool} (hcv : ∀ u, RelV v' u → u = cv) (hk : PySem.W.kitOne X.K (.ref (G c)) cv = some b) {σ : L2.St} {H : Hp} {Q : VK} {S : Vw} {env : En} {st : Sto} (m : Sm X.K (Gat G ea) S σ H env st) (q : Post X.K (Gat G ea) W σ S H (dErrIs b A env st) fun S' H' d _ => ∀ v, Rep X.K (Gat G ea) H' S' d v → Q v H') :
    tD X.K (Gat G ea) W A σ H fun x1 H1 => rIsE X.K (G c) ea [x1, v'] H1 Q := ⟨S, env, st, m, Post.imp (Post.bind q) fun S1 H1 d s1 l1 w1 q v rv => by
  cases d with
  | cls c' =>
    dsimp only at q
    split at q
    · rename_i hz
      obtain rfl : c' = 99 := Nat.eq_of_beq_eq_true hz
      simp only [Rep] at rv
      rw [gat_99] at rv
      subst rv
      exact ⟨v', cv, b, rfl, hcv, hk, Post.ok q w1 _ mk_bl⟩
    · exact q.elim
  | _ => exact q.elim⟩
theorem ed_errIs (C : EExc X.K G es) (I : EIs X.K X.mg G es x k) (hc : c ∈ es) (hz : L2N.Zn (.ref (G c)) none oe) (hf : ∃ vs, oe.data = .fields vs) (hm : X.mg "isinstance" = none) (ha : ED (X.suite ea ((ea, oe) :: pn)) (Gat G ea) W A a) (hg : Gl (X.suite ea ((ea, oe) :: pn)) "isinstance" := by rfl) (hgx : Gl (X.suite ea ((ea, oe) :: pn)) x := by rfl)
    (hdb : (x == ("__debug__" : Str)) = false := by decide)
    (he : starEach (a :: [.Name x p2]) X.env = (false, eval a X.env) :: starEach [.Name x p2] X.env := by rfl) (hpl : (backTo pos (starEach [.Name x p2] X.env)).any (·.1) = false := by rfl) (he2 : starEach ([.Name x p2]) X.env = (false, eval (.Name x p2) X.env) :: starEach [] X.env := by rfl) :
    ED (X.suite ea ((ea, oe) :: pn)) (Gat G ea) W (dErrIs (subE c k) A) (.Call (.Name "isinstance" p) [a, .Name x p2] [] pos) :=
  PE.imp (pe_callB (X := X.suite ea ((ea, oe) :: pn)) (call_isE (C c hc) hz.zc hf) hg hm (by decide +kernel) (pa_cons ha (pa_cons (pe_glob (v := .ref (G k)) hgx I.2 rfl hdb) pa_nil he2) he) (by decide) (by decide) he hpl) fun σ H Q ⟨S, env, st, m, q⟩ =>
    err_end (v' := .ref (G k)) (cv := .ref (G k)) (fun u r => r) (I.1 c hc) m q
theorem ed_errIsV (C : EExc X.K G es) (I : EIsV X.K G es) (hc : c ∈ es) (hz : L2N.Zn (.ref (G c)) none oe) (hf : ∃ vs, oe.data = .fields vs) (hm : X.mg "isinstance" = none) (hmv : X.mg "ValueError" = none) (ha : ED (X.suite ea ((ea, oe) :: pn)) (Gat G ea) W A a) (hg : Gl (X.suite ea ((ea, oe) :: pn)) "isinstance" := by rfl) (hgx : Gl (X.suite ea ((ea, oe) :: pn)) "ValueError" := by rfl)
    (he : starEach (a :: [.Name "ValueError" p2]) X.env = (false, eval a X.env) :: starEach [.Name "ValueError" p2] X.env := by rfl) (hpl : (backTo pos (starEach [.Name "ValueError" p2] X.env)).any (·.1) = false := by rfl) (he2 : starEach ([.Name "ValueError" p2]) X.env = (false, eval (.Name "ValueError" p2) X.env) :: starEach [] X.env := by rfl) :
    ED (X.suite ea ((ea, oe) :: pn)) (Gat G ea) W (dErrIs true A) (.Call (.Name "isinstance" p) [a, .Name "ValueError" p2] [] pos) :=
  PE.imp (pe_callB (X := X.suite ea ((ea, oe) :: pn)) (call_isE (C c hc) hz.zc hf) hg hm (by decide +kernel) (pa_cons ha (pa_cons (pe_bltn (v := .ty "ValueError") hgx hmv (by decide +kernel) rfl (by decide) (by decide)) pa_nil he2) he) (by decide) (by decide) he hpl) fun σ H Q ⟨S, env, st, m, q⟩ =>
    err_end (v' := .ty "ValueError") (cv := .type "ValueError") (fun u r => r) (I c hc) m q
end
/-- what an except clause asks of its class -/
def Tryf (K : PySem.W.Frag) (mg : Str → Option Value) (G : GT) (es : List Nat) (x : Str) (ec : Nat) : Prop := (∀ c ∈ es, PySem.W.exmOne K (.ref (G c)) (.ref (G ec)) = some (subE c ec)) ∧ mg x = some (.ref (G ec))
section
variable {X : Cx} {G : GT} {W : WX} {ec i : Nat} {es : List Nat} {x n : Str} {np pos pos' : Pos} {body suite : List Stmt} {b₀ : Stmt} {B B3 : DenS} {B2 : Nat → DenS}
theorem es_trf (T : Tryf X.K X.mg G es x ec) (tk : L2N.Takes X W)
    (hb : ∀ (W : WX) (pn : List (Addr × Obj)) (xe : Value → Shared → Prop), L2N.Takes (X.tr pn xe) W → PassesOwn (model X.prog X.w) X.A X.env xe → ESs (X.tr pn xe) G W B body)
    (hsu : ∀ (a : Addr) (oe : Obj) (pn : List (Addr × Obj)), ESs (X.suite a ((a, oe) :: pn)) G W0 B3 (b₀ :: suite)) (hs : X.stack = X.env :: X.outer := by rfl) (hf : X.env.frame = some X.env.locals := by rfl) (hgx : Gl X x := by rfl) (hdb : (x == ("__debug__" : Str)) = false := by decide) :
    ES X G W (sTry es ec B fun _ => B3) (.Try body [.ExceptHandler (some (.Name x np)) none (b₀ :: suite) pos'] [] [] pos) := es_try hs hf T.2 tk T.1 hb hsu hgx hdb
theorem es_trfAs (hN : X.N.Nodup) (T : Tryf X.K X.mg G es x ec) (tk : L2N.Takes X W)
    (hb : ∀ (W : WX) (pn : List (Addr × Obj)) (xe : Value → Shared → Prop), L2N.Takes (X.tr pn xe) W → PassesOwn (model X.prog X.w) X.A X.env xe → ESs (X.tr pn xe) G W B body)
    (hsu : ∀ (a : Addr) (oe : Obj) (pn : List (Addr × Obj)) (c : Nat), c ∈ es → L2N.Zn (.ref (G c)) none oe → (∃ vs, oe.data = .fields vs) → ESs (X.suite a ((a, oe) :: pn)) (Gat G a) W0 (B2 c) (b₀ :: suite))
    (hs : X.stack = X.env :: X.outer := by rfl) (hf : X.env.frame = some X.env.locals := by rfl) (hi : X.N[i]? = some n := by rfl) (hln : X.env.kindOf n = some .local := by rfl) (hgx : Gl X x := by rfl) (hdb : (x == ("__debug__" : Str)) = false := by decide) :
    ES X G W (sTryAs es ec i B B2) (.Try body [.ExceptHandler (some (.Name x np)) (some n) (b₀ :: suite) pos'] [] [] pos) := es_tryAs hs hf hN T.2 tk T.1 hb hsu hi hln hgx hdb
end
end Wt

/-! Core 17: sorted(set(xs)), xs a list of ints. -/
namespace Wt
open PySem PySem.Spec PyProof.Rows L2
section
variable {P : Program} {w : World} {A : Around} {E : Value → Shared → Prop} {s : Shared}
set_option maxHeartbeats 8000000 in
theorem call_set_li {l : Addr} {its : Array Value} (ns : List Int) {Q : Value → Shared → Prop} (hh : A.handled = none) (hl : s.heap.IsList l its) (hit : IntsAre its.toList ns) (hfew : ns.length + 1 < scanBound)
    (hQ : ∀ (h' : Heap) (tk c : Nat), SetR w h' s.heap.objs.size (fun j => decide (j ∈ ns)) c → c ≤ ns.length → (∀ b o, s.heap.get? b = some o → h'.get? b = some o) → Q (.ref s.heap.objs.size) { s with heap := h', toks := tk }) : wpAny (model P w) A (call (.type "set") [.ref l]) Q E s := by
  have isz : its.size = ns.length := by
    have z := IntsAre.length hit
    rwa [Array.length_toList] at z
  obtain ⟨c, tl, hmro⟩ := F.called_set.mro
  have hmade := F.called_set.made
  have hsb := F.called_set.sub
  refine wpAny_call (codeAny_of_tree (?_ : wpAny _ _ (callAny (.type "set") _) _ _ _))
  refine wpAny_pure ⟨Code.quiet_builtin _ (by decide +kernel), codeAny_builtin F.entry_type_call ?_⟩
  rw [Around.under_plain (weight_type_call_type "set" [.ref l] []) rfl]
  have n1 := F.called_set.notType
  have n2 := F.called_set.canCreate
  have n3 := F.typeCall_set_1 (.ref l)
  repeat (any_goals (first | assumption | wp_step))
  refine codeAny_mono (code_set_led1 (.ref l) (E := E) (Q₁ := fun obj s₁ => obj = .ref s.heap.objs.size ∧ s₁ = { s with heap := s.heap.push (newSet w) }) ⟨rfl, rfl⟩) fun r s₁ hr => ?_
  cases r with
  | error e => exact hr
  | ok fl =>
    cases fl with
    | ret obj =>
      obtain ⟨rfl, rfl⟩ := hr
      have hS : (s.heap.push (newSet w)).get? s.heap.objs.size = some (newSet w) := Heap.get?_push_size _ rfl
      have hT : Shared.TypeIs { s with heap := s.heap.push (newSet w) } (.ref s.heap.objs.size) "set" := ⟨_, hS, rfl⟩
      have hli := F.called_set.init.lookup
      have hbi := F.called_set.init.bind (.ref s.heap.objs.size)
      repeat (any_goals (first | assumption | wp_step))
      refine codeAny_mono (codeAny_call_builtin (R := wants (fun r s₂ => r = .none ∧ ∃ h' tk c, s₂ = { s with heap := h', toks := tk } ∧ SetR w h' s.heap.objs.size (fun j => decide (j ∈ ns)) c ∧ c ≤ ns.length ∧
          (∀ b o, s.heap.get? b = some o → h'.get? b = some o)) E) F.called_set.init.plain F.entry_set_init (check_set_init_1 hT ?_)) fun r₂ s₂ hr₂ => ?_
      · obtain ⟨ol, hol, hcl, nl, hdl⟩ := hl
        obtain ⟨ocls, odict, odata, oslots⟩ := ol
        dsimp only at hcl hdl
        subst hcl hdl
        have hol' : (s.heap.push (newSet w)).get? l = some { cls := .type "list", dict := odict, data := .seq its nl, slots := oslots } := Heap.get?_push_of_some _ hol
        have k1 := F.sub_list_set
        have k2 := F.sub_list_frozenset
        have k3 : (Value.type "list" == Value.type "dict") = false := by decide
        have hl1 : (s.heap.push (newSet w)).IsList l its := ⟨_, hol', rfl, nl, rfl⟩
        unfold Builtin.«set.__init__» noKeywords Builtin.Frozenset.updateFrom
        generalize hPI : pyIter = PI
        wp_walk
        subst hPI
        refine wpAny_pyIter_list hl1 (wpAny_bind (wpAny_runValue ?_))
        have hlS : l < s.heap.objs.size := Heap.lt_size hol
        have h3 : A.in1.in1.in1.handled = none := by simp [hh]
        have hneI : l ≠ (s.heap.push (newSet w)).objs.size := by rw [Heap.size_push]; exact Nat.ne_of_lt (Nat.lt_succ_of_lt hlS)
        have hSf : s.heap.objs.size ∉ [(s.heap.push (newSet w)).objs.size, l] := by
          rw [Heap.size_push]; simp only [List.mem_cons, List.not_mem_nil, or_false, not_or]
          exact And.intro (Nat.ne_of_lt (Nat.lt_succ_self _)) (Nat.ne_of_gt hlS)
        have hval : ∀ (i : Nat) (v : Value), its[i]? = some v → ∃ k t, ns[i]? = some k ∧ v = .int k t := fun i v hv => by
          have hi : i < ns.length := by rw [← isz]; exact (Array.getElem?_eq_some_iff.mp hv).1
          obtain ⟨t, e⟩ := PyProof.Rows.IntsAre.int_at hit i v (by rw [Array.getElem?_toList, hv])
          exact ⟨ns[i], t, List.getElem?_eq_getElem hi, by rw [e, List.getD_eq_getElem?_getD, List.getElem?_eq_getElem hi]; rfl⟩
        refine set_update_ints ((Walks.list h3 _ l hneI its).toS) s.heap.objs.size hSf ns isz hfew hval (its.size - 0) 0 _ (by omega) (Nat.zero_le _)
          ⟨⟨_, Heap.get?_push_size _ rfl, rfl, rfl⟩, (hl1.push _)⟩ ⟨0, Nat.le_refl 0, setR_new_at (Heap.get?_push_of_some _ hS)⟩ fun s' c' hm hc' hS' => ?_
        obtain ⟨h', g2, d', tk', os'⟩ := s'
        have eg : g2 = s.gens := hm.gens
        have ed : d' = s.drawn := hm.drawn
        have eo : os' = s.os := hm.os
        subst eg ed eo
        rw [isz] at hc'
        show wpAny _ _ _ _ _ _
        refine wpAny_pure (?_ : wpAny _ _ (ret Value.none) _ _ _)
        refine wpAny_pure ⟨rfl, h', tk', c', rfl, hS', hc', fun b o e => ?_⟩
        have n1 : b < s.heap.objs.size := Heap.lt_size e
        refine hm.heap b o ?_ (Heap.get?_push_of_some _ (Heap.get?_push_of_some _ e))
        rw [Heap.size_push]
        simp only [List.mem_cons, List.not_mem_nil, or_false, not_or]
        exact And.intro (Nat.ne_of_lt n1) (Nat.ne_of_lt (Nat.lt_succ_of_lt n1))
      · cases r₂ with
        | error e => exact hr₂
        | ok fl₂ =>
          cases fl₂ with
          | ret r =>
            obtain ⟨rfl, h', tk, c', rfl, hS', g', hk'⟩ := hr₂
            repeat (any_goals (first | assumption | wp_step))
            exact hQ _ _ _ hS' g' hk'
          | _ => exact hr₂.elim
    | _ => exact hr.elim
end
/-! ### the rule -/
abbrev leZ (i j : Int) : Bool := decide (i ≤ j)
theorem leZO : TotPre leZ := intsO
def tSortSetI (K : PySem.W.Frag) (ta : TE) : TE := fun σ H Q => ta σ H fun x H1 => ∃ (l : Addr) (ns : List Int), x = .ref l ∧ SqL K H1 l (ns.map V.int) ∧ ns.length < 64 ∧ ∀ p, H1 p = none → Q (.ref p) (upd H1 p (.lst ((isort leZ (dupK ns)).map V.int)))
theorem lt_srd : ∀ {l : List Int}, l.Pairwise (· < ·) → Srd leZ l ∧ l.Nodup := fun h => ⟨h.imp fun h => decide_eq_true (Int.le_of_lt h), h.imp fun h e => by omega⟩
theorem ints_dup {ns l : List Int} (h : ns.Pairwise (· < ·)) (hm : ∀ k, k ∈ ns ↔ decide (k ∈ l) = true) : ns = isort leZ (dupK l) := by
  obtain ⟨h1, h2⟩ := lt_srd h
  have p : ns.Perm (dupK l) := (List.perm_ext_iff_of_nodup h2 (dupK_nd l)).mpr fun k => by rw [hm, dupK_mem, decide_eq_true_eq]
  rw [← isort_srd_self h1]
  exact isort_eq leZO (fun x y a b => by have := of_decide_eq_true a; have := of_decide_eq_true b; omega) p
theorem pe_sortSetI {X : Cx} {a : Expr} {ta : TE} {p p2 q pos : Pos} (hg : Gl X "sorted") (hm : X.mg "sorted" = none) (hg2 : Gl X "set") (hm2 : X.mg "set" = none) (ha : PE X a ta) (hc : X.calm = true := by rfl)
    (na : starEach [a] X.env = (false, eval a X.env) :: starEach [] X.env := by rfl) : PE X (.Call (.Name "sorted" p) [.Call (.Name "set" p2) [a] [] q] [] pos) (tSortSetI X.K ta) := by
  refine ⟨fun pins s σ H Q I h => ?_⟩
  refine Call_ (ld_blt I hg hm (by rfl) ?_)
  refine PyProof.Rows.callWith_builtin1 (PyProof.Rows.args_cons ?_ rfl) rfl rfl
  refine Call_ (ld_blt I hg2 hm2 boot_set ?_)
  refine PyProof.Rows.callWith_type1 (PyProof.Rows.args_cons (thn (ha.run pins s σ H _ I h) fun v s1 ⟨x, H1, I1, r1, q1⟩ => PyProof.Rows.args_nil ?_) na) na rfl
  obtain ⟨l, ns, rfl, hl, hf, q1⟩ := q1
  cases r1
  obtain ⟨its, rv, pl, hz⟩ := I1.list hl
  have hd := I1.ok.hd hc
  refine call_set_li (P := X.prog) (w := X.w) ns hd pl.isList (by simpa using rv.ints) (by unfold scanBound; omega) fun h' tk c hS hcl kp => ?_
  refine PyProof.Rows.args_nil ?_
  have I2 : Inv X pins σ H1 { s1 with heap := h', toks := tk } := I1.kept fun b o e => kp b o e
  refine sorted_set (s := { s1 with heap := h', toks := tk }) hS hd (by omega) fun s' p out c M k ge oe hp hget hi hpw hmem hlen => ?_
  have hn : H1 p = none := I2.hok.fresh hp
  obtain rfl := ints_dup hpw hmem
  have hv : Vals ((isort leZ (dupK ns)).map V.int) out.toList := by
    revert hi
    generalize isort leZ (dupK ns) = m
    generalize out.toList = us
    intro hi
    induction hi with
    | nil => exact .nil
    | cons k t _ ih => exact .cons ⟨t, rfl⟩ ih
  have hlz : ((isort leZ (dupK ns)).map V.int).length ≤ sizeLine := by rw [List.length_map, sizeLine_eq]; omega
  have J : Inv X pins σ (upd H1 p (.lst ((isort leZ (dupK ns)).map V.int))) { ({ s1 with heap := h', toks := tk } : Shared) with heap := s'.heap, gens := s'.gens, drawn := s'.drawn, toks := s'.toks } :=
    I2.call (ch := []) (Un.laid k hp hn) (I2.hok.laid k hp ⟨hlz, out.toList, c, hv, hget⟩) (by rw [ge]; exact I2.bare) (fun _ z => nomatch z)
  have e : s' = { s1 with heap := s'.heap, gens := s'.gens, drawn := s'.drawn, toks := s'.toks } := by
    cases s'
    cases s1
    cases oe
    rfl
  rw [e]
  exact ⟨.ref p, _, J, rfl, q1 p hn⟩
def lSortSetI (A : Den) : DenL := fun env st => (A env st).bind fun d s => match (getL s d).bind intsOf with
  | some ns => if Nat.blt ns.length 64 then .ok ((isort leZ (dupK ns)).map .int) s else .bad
  | none => .bad
theorem el_sortSetI {X : Cx} {G : GT} {W : WX} {A : Den} {a : Expr} {p p2 q pos : Pos} (hm : X.mg "sorted" = none) (hm2 : X.mg "set" = none) (ha : ED X G W A a) (hg : Gl X "sorted" := by rfl) (hg2 : Gl X "set" := by rfl) (hc : X.calm = true := by rfl)
    (na : starEach [a] X.env = (false, eval a X.env) :: starEach [] X.env := by rfl) : EL X G W (lSortSetI A) (.Call (.Name "sorted" p) [.Call (.Name "set" p2) [a] [] q] [] pos) :=
  PE.imp (pe_sortSetI hg hm hg2 hm2 ha hc na) fun σ H Q ⟨S, env, st, m, q⟩ => ⟨S, env, st, m, Post.imp (Post.bind q) fun S1 H1 d s1 l1 w1 q v rv => by
    cases e : (getL s1 d).bind intsOf with
    | none => rw [e] at q; exact q.elim
    | some ns =>
      rw [e] at q
      dsimp only at q
      split at q
      · rename_i hz
        obtain ⟨a, rfl, h1⟩ := ints_at w1 rv e
        exact ⟨a, ns, rfl, h1, blt_of hz, fun p hp => Post.ok q w1 _ p Reps.of_ints hp⟩
      · exact q.elim⟩
@[simp] theorem lSortSetI_ap {A : Den} {env : En} {st : Sto} : lSortSetI A env st = (A env st).bind fun d s => optB ((getL s d).bind intsOf) fun ns => if Nat.blt ns.length 64 then .ok ((isort leZ (dupK ns)).map .int) s else .bad := by
  unfold lSortSetI optB
  congr
  funext d s
  cases (getL s d).bind intsOf <;> rfl
end Wt

namespace Wt
open PySem PySem.Spec PyProof.Rows L2
/-- while, at most n turns -/
def whIt (P : DenB) (B : DenS) : Nat → DenS
  | 0, _, _ => .bad
  | n + 1, env, st => (P env st).then env fun b s => if b then (match B env s with
    | .nx e s => whIt P B n e s
    | .ct e s => whIt P B n e s
    | .bk e s => .nx e s
    | o => o) else .nx env s
def sWhile (P : DenB) (B : DenS) : DenS := whIt P B 1000
section
variable {X : Cx} {G : GT} {W : WX} {pos : Pos} {P : DenB} {B : DenS} {c : Expr} {body : List Stmt}
theorem es_while (hp : PassesOwn (model X.prog X.w) X.A X.env X.xe) (h : EB X G W P c) (hb : ESs X G W B body) : ES X G W (sWhile P B) (.While c body [] pos) :=
  PS.imp (ps_while hp h hb) fun E σ H ⟨S, env, st, m, q⟩ => ⟨fun n σ H => ∃ S env st, Sm X.K G S σ H env st ∧ PostS X.K G W S H (whIt P B n env st) E, ⟨1000, S, env, st, m, q⟩, fun n σ H ⟨S, env, st, m, q⟩ => by
    cases n with
    | zero => exact q.elim
    | succ n =>
      rw [whIt] at q
      refine ⟨S, env, st, m, Post.imp (Post.then m.er q) fun S' H' k s1 l1 w1 q => ?_⟩
      cases k with
      | false =>
        rw [if_neg (by decide)] at q ⊢
        exact q S' H' σ .refl (m.later l1 w1)
      | true =>
        rw [if_pos rfl] at q ⊢
        refine ⟨fun σ H => ∃ S env st, Sm X.K G S σ H env st ∧ PostS X.K G W S H (whIt P B n env st) E, fun σ' H' h => ⟨n, Nat.lt_succ_self _, h⟩, S', env, s1, m.later l1 w1, ?_⟩
        cases eb : B env s1 with
        | nx e s =>
          rw [eb] at q
          exact fun S3 H3 σ3 l3 sm3 => ⟨S3, e, s, sm3, PostS.later q l3⟩
        | ct e s =>
          rw [eb] at q
          exact fun S3 H3 σ3 l3 sm3 => ⟨S3, e, s, sm3, PostS.later q l3⟩
        | bk e s =>
          rw [eb] at q
          exact fun S3 H3 σ3 l3 sm3 => q S3 H3 σ3 l3 sm3
        | rt d s =>
          rw [eb] at q
          exact fun S3 H3 v l3 w3 r3 => q S3 H3 v l3 w3 r3
        | exc c e s =>
          rw [eb] at q
          exact fun S3 H3 σ3 l3 sm3 => q S3 H3 σ3 l3 sm3
        | bad => rw [eb] at q; exact q⟩
end

/-- list(range(n)) -/
def lRg1 (A : Den) : DenL := fun env st => (A env st).bind fun d s => match d with
  | .int j => if decide (0 ≤ j) && decide (j ≤ 16777216) then .ok (((List.range j.toNat).map fun i : Nat => (i : Int)).map .int) s else .bad
  | _ => .bad
theorem el_rg1 {X : Cx} {G : GT} {W : WX} {A : Den} {a : Expr} {p p2 q pos : Pos} (hm : X.mg "list" = none) (hm2 : X.mg "range" = none) (ha : ED X G W A a) (hg : Gl X "list" := by rfl) (hg2 : Gl X "range" := by rfl) (hc : X.calm = true := by rfl)
    (na : starEach [a] X.env = (false, eval a X.env) :: starEach [] X.env := by rfl) (na2 : starEach [.Call (.Name "range" p2) [a] [] q] X.env = (false, eval (.Call (.Name "range" p2) [a] [] q) X.env) :: starEach [] X.env := by rfl) : EL X G W (lRg1 A) (.Call (.Name "list" p) [.Call (.Name "range" p2) [a] [] q] [] pos) :=
  PE.imp (pe_listRg hc hg hm (prg_1 hg2 hm2 ha na) na2) fun σ H Q ⟨S, env, st, m, q⟩ => ⟨S, env, st, m, Post.imp (Post.bind q) fun S1 H1 d s1 l1 w1 q v rv => by
    split at q
    · rename_i j
      split at q
      · rename_i hz
        simp only [Bool.and_eq_true, decide_eq_true_eq] at hz
        refine ⟨j, rep_int rv, RgOk.of_le (by decide) hz.2 (by decide) hz.1, fun p hp => ?_⟩
        have e : rgV 0 j = ((List.range j.toNat).map fun i : Nat => (i : Int)).map V.int := by
          rw [rgV, Int.sub_zero, List.map_map]
          exact List.map_congr_left fun i _ => by rw [Int.zero_add]; rfl
        rw [e]
        exact Post.ok q w1 _ p Reps.of_ints hp
      · exact q.elim
    · exact q.elim⟩
@[simp] theorem lRg1_ap {A : Den} {env : En} {st : Sto} {j : Int} {s : Sto} (h : A env st = .ok (.int j) s) (h0 : 0 ≤ j) (h1 : j ≤ 16777216) : lRg1 A env st = .ok (((List.range j.toNat).map fun i : Nat => (i : Int)).map .int) s := by
  unfold lRg1
  rw [h]
  show (if decide (0 ≤ j) && decide (j ≤ 16777216) then _ else _) = _
  rw [decide_eq_true h0, decide_eq_true h1]
  rfl
end Wt

/-! Core 19: len(set(xs)) of tuples whose members are ints or truth values. -/
namespace Wt
open PySem PySem.Spec PyProof.Rows L2 PpSet
def numIs (k : Int) : Value → Bool
  | .int i _ => i == k
  | .bool b => b2 b == k
  | _ => false
theorem numIs_shape {k : Int} {v : Value} (h : numIs k v = true) : (∃ t, v = .int k t) ∨ ∃ b, v = .bool b ∧ b2 b = k := by
  cases v <;> first
    | exact .inl ⟨_, by rw [eq_of_beq h]⟩
    | exact .inr ⟨_, rfl, eq_of_beq h⟩
    | exact absurd h Bool.false_ne_true
theorem numIs_inj (v : Value) (a b : Int) (ha : numIs a v = true) (hb : numIs b v = true) : a = b := by
  cases v <;> first
    | exact (eq_of_beq ha).symm.trans (eq_of_beq hb)
    | exact absurd ha Bool.false_ne_true
theorem beq_decI (a b : Int) : (a == b) = decide (a = b) := by
  by_cases h : a = b
  · subst h; simp
  · rw [decide_eq_false h]; exact beq_eq_false_iff_ne.mpr h
theorem b2_beq (a b : Bool) : (a == b) = decide (b2 a = b2 b) := by cases a <;> cases b <;> rfl
def numK (prog : Program) (w : World) : PySem.KeyKind prog w Int where
  is := numIs
  hash := hashInt
  inj := numIs_inj
  byValue := fun k v h => by rcases numIs_shape h with ⟨t, rfl⟩ | ⟨b, rfl, _⟩ <;> rfl
  pyHash := fun hv h => by
    rcases numIs_shape hv with ⟨t, rfl⟩ | ⟨b, rfl, rfl⟩
    · exact wpAny_pyHash_int h
    · exact pyHash_bool h
  eqBool := fun {A E s a b u v Q} hu hv h => by
    rcases numIs_shape hu with ⟨t, rfl⟩ | ⟨x, rfl, rfl⟩ <;> rcases numIs_shape hv with ⟨t', rfl⟩ | ⟨y, rfl, rfl⟩
    · exact wpAny_eqBool_int (by rw [beq_decI]; exact h)
    · exact SeqAt.EqAt.int_bool a t y _ _ _ _ (by rw [beq_decI]; exact h)
    · exact SeqAt.EqAt.bool_int x b t' _ _ _ _ (by rw [beq_decI]; exact h)
    · exact SeqAt.EqAt.bool_bool x y _ _ _ _ (by rw [b2_beq]; exact h)
  «strs» := fun k x t v h => absurd h Bool.false_ne_true
theorem qt_num {P : Program} {w : World} : Qt (numK P w) := fun k v n h => by
  rcases numIs_shape h with ⟨t, rfl⟩ | ⟨x, rfl, rfl⟩ <;> cases n <;> exact ⟨rfl, _, rfl⟩
/-! the values -/
def vNum : V → Option Int
  | .int i => some i
  | .bl b => some (b2 b)
  | _ => none
def dNum : D → Option Int
  | .int i => some i
  | .bl b => some (b2 b)
  | _ => none
def dNums : List D → Option (List Int)
  | [] => some []
  | d :: r => match dNum d, dNums r with
    | some k, some ks => some (k :: ks)
    | _, _ => none
def tupNum : D → Option (List Int)
  | .tup l => dNums l
  | _ => none
def tupNums : List D → Option (List (List Int))
  | [] => some []
  | d :: r => match tupNum d, tupNums r with
    | some k, some ks => some (k :: ks)
    | _, _ => none
inductive NumVs : List V → List Int → Prop
  | nil : NumVs [] []
  | cons {v : V} {k : Int} {vs : List V} {ks : List Int} : vNum v = some k → NumVs vs ks → NumVs (v :: vs) (k :: ks)
theorem num_items {P : Program} {w : World} : ∀ {vs : List V} {us : List Value} {ks : List Int}, Vals vs us → NumVs vs ks → ItemsAre (numK P w) ks us
  | [], _, _, .nil, .nil => .nil
  | _ :: _, _, _, .cons r t, .cons h q => .cons (by
      rename_i v _ _ _ k _
      cases v <;> simp only [vNum, Option.some.injEq, reduceCtorEq] at h
      · subst h
        cases r
        unfold numK
        simp [numIs]
      · subst h
        obtain ⟨t, rfl⟩ := r
        unfold numK
        simp [numIs]) (num_items t q)
theorem num_tp {P : Program} {w : World} {H : Hp} {h : Heap} {a : Addr} {vs : List V} {ks : List Int} (ok : HOk P w H h) (e : H a = some (.tup vs)) (n : NumVs vs ks) : Tp (numK P w) h ks a := by
  obtain ⟨_, its, r, o, h1, h2, n', h3⟩ := (show ObjOk P w H h a (.tup vs) from ok a _ e)
  exact ⟨o, its.toArray, n', h1, h2, h3, by simpa using num_items r n⟩
theorem nums_at {K : PySem.W.Frag} {G : GT} {H : Hp} {S : Vw} : ∀ {l : List D} {vs : List V} {ks : List Int}, Reps K G H S l vs → dNums l = some ks → NumVs vs ks
  | [], vs, ks, r, e => by
    cases e
    rw [r.of_nil]
    exact .nil
  | d :: l, vs, ks, r, e => by
    obtain ⟨v, ws, rfl, rd, rl⟩ := r.of_cons
    unfold dNums at e
    cases h1 : dNum d with
    | none => rw [h1] at e; cases e
    | some k =>
      cases h2 : dNums l with
      | none => rw [h1, h2] at e; cases e
      | some ks' =>
        rw [h1, h2] at e
        cases e
        refine .cons ?_ (nums_at rl h2)
        cases d <;> simp only [dNum, Option.some.injEq, reduceCtorEq] at h1
        · subst h1
          rw [rep_bl rd]; rfl
        · subst h1
          rw [rep_int rd]; rfl
theorem tups_at {K : PySem.W.Frag} {G : GT} {H : Hp} {S : Vw} : ∀ {l : List D} {vs : List V} {ks : List (List Int)}, Reps K G H S l vs → tupNums l = some ks → ∃ zs : List (Addr × List Int), zs.map (·.2) = ks ∧ vs = zs.map (fun z => V.ref z.1) ∧ ∀ z ∈ zs, ∃ us, H z.1 = some (.tup us) ∧ NumVs us z.2
  | [], vs, ks, r, e => by
    cases e
    exact ⟨[], rfl, r.of_nil, nofun⟩
  | d :: l, vs, ks, r, e => by
    obtain ⟨v, ws, rfl, rd, rl⟩ := r.of_cons
    unfold tupNums at e
    cases h1 : tupNum d with
    | none => rw [h1] at e; cases e
    | some k =>
      cases h2 : tupNums l with
      | none => rw [h1, h2] at e; cases e
      | some ks' =>
        rw [h1, h2] at e
        cases e
        cases d <;> simp only [tupNum, reduceCtorEq] at h1
        simp only [Rep] at rd
        obtain ⟨b, us, rfl, hb, hu⟩ := rd
        obtain ⟨zs, e1, e2, e3⟩ := tups_at rl h2
        exact ⟨(b, k) :: zs, by rw [List.map_cons, e1], by rw [e2]; rfl, fun z hz => (List.mem_cons.mp hz).elim (fun e => by rw [e]; exact ⟨us, hb, nums_at hu h1⟩) (e3 z)⟩
/-! the rule -/
theorem refs_of_vals_n {α : Type} : ∀ {ks : List (Addr × α)} {us : List Value}, Vals (ks.map fun z => V.ref z.1) us → us = ks.map fun z => Value.ref z.1
  | [], _, .nil => rfl
  | z :: ks, _, .cons r t => by
    cases r
    rw [refs_of_vals_n t]
    rfl
def tLenSetT (K : PySem.W.Frag) (ta : TE) : TE := fun σ H Q => ta σ H fun x H1 => ∃ (l : Addr) (ks : List (Addr × List Int)), x = .ref l ∧ SqL K H1 l (ks.map fun z => V.ref z.1) ∧ (∀ z ∈ ks, ∃ us, H1 z.1 = some (.tup us) ∧ NumVs us z.2) ∧ ks.length < 64 ∧ Q (.int ((dupK (ks.map (·.2))).length : Nat)) H1
theorem pe_lenSetT {X : Cx} {a : Expr} {ta : TE} {p p2 q pos : Pos} (hg : Gl X "len") (hm : X.mg "len" = none) (hg2 : Gl X "set") (hm2 : X.mg "set" = none) (ha : PE X a ta) (hu : X.A.units + 65 < cLine) (hc : X.calm = true := by rfl)
    (na : starEach [a] X.env = (false, eval a X.env) :: starEach [] X.env := by rfl) : PE X (.Call (.Name "len" p) [.Call (.Name "set" p2) [a] [] q] [] pos) (tLenSetT X.K ta) := by
  refine ⟨fun pins s σ H Q I h => ?_⟩
  refine Call_ (ld_blt I hg hm boot_len ?_)
  refine PyProof.Rows.callWith_builtin1 (PyProof.Rows.args_cons ?_ rfl) rfl rfl
  refine Call_ (ld_blt I hg2 hm2 boot_set ?_)
  refine PyProof.Rows.callWith_type1 (PyProof.Rows.args_cons (thn (ha.run pins s σ H _ I h) fun v s1 ⟨x, H1, I1, r1, q1⟩ => PyProof.Rows.args_nil ?_) na) na rfl
  obtain ⟨l, ks, rfl, hl, hk, hf, q1⟩ := q1
  cases r1
  obtain ⟨its, rv, pl, hz⟩ := I1.list hl
  have hd := I1.ok.hd hc
  refine call_tps (P := X.prog) (w := X.w) (kd := numK X.prog X.w) qt_num ks hd pl.isList (by simpa using refs_of_vals_n rv) (fun z hz => by
    obtain ⟨us, h1, h2⟩ := hk z hz
    exact num_tp I1.hok h1 h2) hf (by omega) fun h' tk L es ep t R g kp => ?_
  refine PyProof.Rows.args_nil ?_
  have I2 : Inv X pins σ H1 { s1 with heap := h', toks := tk } := I1.kept fun b o e => kp b o e
  obtain ⟨o, ho, hex, hdt⟩ := R.ob
  have hsz := Sg.sz (s := { s1 with heap := h', toks := tk }) R
  have hfw := R.fw
  have hlen : es.size = (dupK (ks.map (·.2))).length := by
    have pm : (L.map (·.2)).Perm (dupK (ks.map (·.2))) := (List.perm_ext_iff_of_nodup R.nd (dupK_nd _)).mpr fun x => by
      rw [dupK_mem]
      refine ⟨fun hx => ?_, fun hx => ?_⟩
      · obtain ⟨z, hz, e⟩ := List.mem_map.mp hx
        exact List.mem_map.mpr ⟨z, List.mem_of_mem_take (g.sub z hz), e⟩
      · obtain ⟨z, hz, rfl⟩ := List.mem_map.mp hx
        exact g.all z (by rw [List.take_length]; exact hz)
    rw [hsz, ← pm.length_eq, List.length_map]
  exact call_len_set (s := { s1 with heap := h', toks := tk }) ho hex hdt (Sg.fit (s := { s1 with heap := h', toks := tk }) R) (by omega) ⟨.int ((dupK (ks.map (·.2))).length : Nat), H1, I2.tok _, ⟨_, by rw [hlen]⟩, q1⟩
def dLenSetT (A : Den) : Den := fun env st => (A env st).bind fun d s => match (getL s d).bind tupNums with
  | some ks => if Nat.blt ks.length 64 then .ok (.int ((dupK ks).length : Nat)) s else .bad
  | none => .bad
theorem ed_lenSetT {X : Cx} {G : GT} {W : WX} {A : Den} {a : Expr} {p p2 q pos : Pos} (hm : X.mg "len" = none) (hm2 : X.mg "set" = none) (ha : ED X G W A a) (hu : X.A.units + 65 < cLine) (hg : Gl X "len" := by rfl) (hg2 : Gl X "set" := by rfl) (hc : X.calm = true := by rfl)
    (na : starEach [a] X.env = (false, eval a X.env) :: starEach [] X.env := by rfl) : ED X G W (dLenSetT A) (.Call (.Name "len" p) [.Call (.Name "set" p2) [a] [] q] [] pos) :=
  PE.imp (pe_lenSetT hg hm hg2 hm2 ha hu hc na) fun σ H Q ⟨S, env, st, m, q⟩ => ⟨S, env, st, m, Post.imp (Post.bind q) fun S1 H1 d s1 l1 w1 q v rv => by
    cases el : getL s1 d with
    | none => rw [el] at q; exact q.elim
    | some l =>
      cases ek : tupNums l with
      | none => rw [el, Option.bind_some, ek] at q; exact q.elim
      | some ks =>
        rw [el, Option.bind_some, ek] at q
        dsimp only at q
        split at q
        · rename_i hz
          obtain ⟨a, vs, rfl, h1, h2⟩ := getL_at w1 rv el
          obtain ⟨zs, e1, rfl, e3⟩ := tups_at h2 ek
          refine ⟨a, zs, rfl, h1, e3, ?_, ?_⟩
          · have := blt_of hz
            rwa [← e1, List.length_map] at this
          · rw [e1]
            exact Post.ok q w1 _ mk_int
        · exact q.elim⟩
@[simp] theorem dLenSetT_ap {A : Den} {env : En} {st : Sto} : dLenSetT A env st = (A env st).bind fun d s => optB ((getL s d).bind tupNums) fun ks => if Nat.blt ks.length 64 then .ok (.int ((dupK ks).length : Nat)) s else .bad := by
  unfold dLenSetT optB
  congr
  funext d s
  cases (getL s d).bind tupNums <;> rfl
end Wt

/-! Core 20: a lambda is made. -/
namespace Wt
open PySem PySem.Spec PyProof.Rows L2
section
variable {X : Cx} {G : GT} {W : WX}
/-- what the making asks of the running def: its code object at c, its table at P, told in G.tab -/
structure Maker (X : Cx) (G : GT) (q : Str) : Prop where
  ex : ∃ c P, LamX.TabB X.base X.mg c P ∧ X.env.code = .ref c ∧ (P, q) ∈ G.tab ∧ X.env.qual ++ "<lambda>" = q ∧ ∀ p ∈ G.tab, p.1 = P → p.2 = q
/-- a maker's table gets one more code object -/
theorem tab_write {K : PySem.W.Frag} {H : Hp} {S : Vw} {st : Sto} {P c' : Addr} {q : Str} {ps : Array Value} {pos : Pos} (w : Ws K G H S st) (hm : (P, q) ∈ G.tab) (hu : ∀ p ∈ G.tab, p.1 = P → p.2 = q) (hP : H P = some (.tbl ps)) (hc : H c' = some (LamX.CodeO c' q)) :
    Lat H S (upd H P (.tbl (ps ++ #[rawInt pos.line, rawInt pos.col, .ref c']))) S ∧ Ws K G (upd H P (.tbl (ps ++ #[rawInt pos.line, rawInt pos.col, .ref c']))) S st := by
  obtain ⟨⟨nF, nP, nR⟩, ps0, hP0, ht, hco⟩ := w.tb _ hm
  have hP0 : H P = some (.tbl ps0) := hP0
  obtain rfl : ps = ps0 := by
    rw [hP] at hP0
    cases hP0
    rfl
  have at_ : ∀ {x : Addr} {o : HO}, H x = some o → x ≠ P → upd H P (.tbl (ps ++ #[rawInt pos.line, rawInt pos.col, .ref c'])) x = some o := fun e n => by rw [upd_ne n]; exact e
  have ne : ∀ {x : Addr} {o : HO}, H x = some o → (∀ ps, o ≠ .tbl ps) → x ≠ P := fun e n z => by
    rw [z, hP] at e
    exact n _ (Option.some.inj e).symm
  have l : Lat H S (upd H P (.tbl (ps ++ #[rawInt pos.line, rawInt pos.col, .ref c']))) S := {
    fz := fun x o f e => ⟨f, at_ e fun z => nF (z ▸ f)⟩
    pp := fun x o f e => ⟨f, at_ e fun z => nP (z ▸ f)⟩
    tp := fun x xs e => at_ e (ne e nofun)
    fr := fun x o u e => at_ e (ne e nofun)
    ex := fun x u e => at_ e (ne e nofun)
    pr := List.prefix_rfl }
  have eL : (ps ++ #[rawInt pos.line, rawInt pos.col, .ref c']).toList = ps.toList ++ [rawInt pos.line, rawInt pos.col, .ref c'] := by simp
  refine ⟨l, ⟨w.len, w.nd, fun i a h => ?_, w.nf, w.np, w.dj, fun a f => ?_, fun i a c h1 h2 => (w.cr i a c h1 h2).mono l fun u e => at_ e fun z => nR (z ▸ List.mem_of_getElem? h1), fun a f => ?_, fun p hp => ?_, w.cp.mono l⟩⟩
  · obtain ⟨o, e⟩ := w.rl i a h
    exact ⟨o, at_ e fun z => nR (z ▸ List.mem_of_getElem? h)⟩
  · obtain ⟨o, e⟩ := w.pf a f
    exact ⟨o, at_ e fun z => nP (z ▸ f)⟩
  · obtain ⟨o, e⟩ := w.fr a f
    exact ⟨o, at_ e fun z => nF (z ▸ f)⟩
  · obtain ⟨n, ps1, g1, g2, g3⟩ := w.tb p hp
    by_cases hb : p.1 = P
    · have hq := hu p hp hb
      rw [hb] at n ⊢
      rw [hq]
      refine ⟨n, _, upd_same, by rw [eL]; exact PySem.TriplesOk_snoc _ _ _ _ ht, fun pos' cv e => ?_⟩
      rw [eL] at e
      rcases LamX.among_app _ ht e with z | z
      · obtain ⟨c0, e1, e2⟩ := hco pos' cv z
        exact ⟨c0, e1, l.ex _ _ e2⟩
      · exact ⟨c', z, l.ex _ _ hc⟩
    · refine ⟨n, ps1, by rw [upd_ne hb]; exact g1, g2, fun pos' cv e => ?_⟩
      obtain ⟨c0, e1, e2⟩ := g3 pos' cv e
      exact ⟨c0, e1, l.ex _ _ e2⟩
theorem upd_comm {H : Hp} {a b : Addr} {o u : HO} (h : a ≠ b) : upd (upd H a o) b u = upd (upd H b u) a o := by
  funext x
  by_cases h1 : x = b
  · subst h1
    rw [upd_same, upd_ne (Ne.symm h), upd_same]
  · rw [upd_ne h1]
    by_cases h2 : x = a
    · subst h2
      rw [upd_same, upd_same]
    · rw [upd_ne h2, upd_ne h2, upd_ne h1]
/-- one new function object, and what the table got -/
theorem LamO.obj {P : Program} {w : World} {H : Hp} {h : Heap} {a : Addr} {L : LamT} {cl : List (Str × Addr)} {c' : Addr} {pm ctv : Value} (e : h.get? a = some (PySem.W.kla_obj "<lambda>" L.q L.params L.body L.scope cl pm c' ctv)) : ObjOk P w H h a (LamO a L cl c') := by
  unfold LamO
  exact ⟨⟨pm, ctv, e⟩, ⟨_, e⟩, fun h1 h2 ⟨p2, t2, z⟩ st => ⟨p2, t2, st _ z⟩⟩
theorem ed_lam {k : Nat} {L : LamT} {pos : Pos} (hk : G.lam k = some L) (M : Maker X G L.q) (hcl : cloFrom X.env.cells L.scope.names [] = cloFrom G.own L.scope.names []) (hfree : ∀ y ∈ L.scope.names, y.2 = .free → X.env.scope.names.lookup y.1 = some .cell ∨ X.env.scope.names.lookup y.1 = some .free)
    (hdef : defaultsOf L.params X.env = ([], [])) : ED X G W (dC (.lam k)) (.Lambda L.params L.body L.scope pos) := by
  refine ⟨fun pins s σ H Q I ⟨S, env, st, m, q⟩ => ?_⟩
  obtain ⟨c, P, B, hc, hm, hq, hu⟩ := M.ex
  obtain ⟨hnP, ps, hP, ht, hco⟩ := m.ws.tb _ hm
  have hfr : ∀ y ∈ L.scope.names, y.2 = .free → ∃ a, X.env.cells.lookup y.1 = some a := fun y hy e => (hfree y hy e).elim (fun z => I.ok.has _ (.inl z)) fun z => I.ok.has _ (.inr z)
  have hb : s.heap.BuiltinsAt X.mg P := B.bm.keeps I.bk
  have hPs : s.heap.get? P = some { cls := .none, data := .fields ps } := I.hok P _ hP
  have qk : ∀ S' H', Lat H S H' S' → Ws X.K G H' S' st → ∀ v, Rep X.K G H' S' (.lam k) v → Q v H' := q
  refine PySem.W.kla_eval hdef ?_
  rw [hq]
  cases hf : codeAmong pos ps.toList with
  | none =>
    refine PySem.W.kla_makeFunction (c := c) (P := P) (mg := X.mg) (ps := ps) (closure_ok hfr) I.ok.glob (I.mod.glob.keeps I.bk) hc (B.code.keeps I.bk) hPs ht hf B.gP hb fun c' ctv h' tk hx hge hlt hrec htb => ?_
    obtain ⟨c2, oc, vs, t, ec, hoc, hd, hv⟩ := hrec
    cases ec
    have nC : H c' = none := I.hok.fresh hge
    have I1 := LamX.inv_table (q := L.q) (more := #[rawInt pos.line, rawInt pos.col, .ref c']) (h' := h') (t' := tk) I hP (fun b o hb e => hx b o hb e) htb hge ⟨oc, vs, t, hoc, hd, hv⟩
    have nF := I1.hok.fresh (Nat.le_refl h'.objs.size)
    have I2 := I1.laid (a := h'.objs.size) (t' := tk) (o := LamO h'.objs.size L (cloFrom X.env.cells L.scope.names []) c') (fun b u e => Heap.get?_push_of_some (PySem.W.kla_obj "<lambda>" L.q L.params L.body L.scope (cloFrom X.env.cells L.scope.names []) ((X.mg "__name__").getD .none) c' ctv) e) (Nat.le_refl _) (LamO.obj (Heap.get?_push_size _ rfl))
    have w0 := m.ws.new (o := LamX.CodeO c' L.q) nC
    have nPc : P ≠ c' := ne_of_none hP nC
    obtain ⟨l1, w1⟩ := tab_write (pos := pos) w0 hm hu (by rw [upd_ne nPc]; exact hP) upd_same
    rw [upd_comm nPc.symm] at l1 w1
    have w2 := w1.new (o := LamO h'.objs.size L (cloFrom X.env.cells L.scope.names []) c') nF
    refine ⟨.ref h'.objs.size, _, I2, rfl, qk S _ (((Lat.new nC).trans l1).trans (Lat.new nF)) w2 _ ?_⟩
    simp only [Rep]
    exact ⟨L, _, c', hk, rfl, by rw [← hcl]; exact upd_same, by rw [upd_ne (Nat.ne_of_lt hlt)]; exact upd_same⟩
  | some cv =>
    obtain ⟨c', rfl, hcc⟩ := hco pos cv hf
    refine PySem.W.kla_makeFunctionHit (c := c) (P := P) (mg := X.mg) (ps := ps) (closure_ok hfr) I.ok.glob (I.mod.glob.keeps I.bk) hc (B.code.keeps I.bk) hPs ht hf hb fun ctv h' tk hx hsz => ?_
    have I1 : Inv X pins σ H { s with heap := h', toks := tk } := I.kept hx
    have nF := I1.hok.fresh (Nat.le_refl h'.objs.size)
    have I2 := I1.laid (a := h'.objs.size) (t' := tk) (o := LamO h'.objs.size L (cloFrom X.env.cells L.scope.names []) c') (fun b u e => Heap.get?_push_of_some (PySem.W.kla_obj "<lambda>" L.q L.params L.body L.scope (cloFrom X.env.cells L.scope.names []) ((X.mg "__name__").getD .none) c' ctv) e) (Nat.le_refl _) (LamO.obj (Heap.get?_push_size _ rfl))
    refine ⟨.ref h'.objs.size, _, I2, rfl, qk S _ (Lat.new nF) (m.ws.new nF) _ ?_⟩
    simp only [Rep]
    exact ⟨L, _, c', hk, rfl, by rw [← hcl]; exact upd_same, by rw [upd_ne (ne_of_none hcc nF)]; exact hcc⟩
end
end Wt

/-! Core 21: a lambda is called. -/
namespace Wt
open PySem PySem.Spec PyProof.Rows L2
/-- the captured cells hold what G tells -/
def CapAt (G : GT) (h : Heap) (H : Hp) : Prop := NdefX.CellsAt G.own G.fr (G.cv.map some) h H
theorem CapAt.none {G : GT} {h : Heap} {H : Hp} (h1 : G.own = []) (h2 : G.fr = []) (h3 : G.cv = []) : CapAt G h H := by
  unfold CapAt
  rw [h1, h2, h3]
  exact ⟨rfl, fun y c e => (by cases e), fun x y c e => (by cases e), fun i y e => (by cases i <;> cases e)⟩
abbrev lamNF (L : LamT) (cl : List (Str × Addr)) (c' : Addr) : NdefX.NF := ⟨"<lambda>", L.q, L.params, [], L.scope, cl, c'⟩
/-- a call of the lambda i does d -/
def LOk (P : Program) (w : World) (K : PySem.W.Frag) (mg : Str → Option Value) (base : Heap) (G : GT) (k i n : Nat) (d : DenF) : Prop :=
  ∀ (L : LamT) (A : Around) (outer : List Env) (s : Shared) (H : Hp) (f c' : Addr) (us : List Value) (vs : List V) (Q : VK) (E : XK), G.lam i = some L → Room k A → Env0 P w K mg base A outer s H →
    H f = some (LamO f L (cloFrom G.own L.scope.names []) c') → H c' = some (LamX.CodeO c' L.q) → CapAt G s.heap H → Vals vs us → spD K G n d vs H Q E →
    codeAny (model P w) A (.call (.ref f) ⟨us, []⟩) (CR (L2N.CX P w) outer P w H s Q E) s
/-- what the text of a lambda must be -/
structure LScope (N ps : List Str) (fr : List Str) (L : LamT) : Prop where
  sc : NdefX.NScope N ps fr L.scope
  hb : ∀ (q : Str) (cl : List (Str × Addr)) (pm cv ctv : Value) (us : List Value), us.length = ps.length → bindArgs (PySem.W.kla_fn "<lambda>" q L.params L.body L.scope cl pm cv ctv) ⟨us, []⟩ = pure (ps.zip us)
theorem lok_of {P : Program} {w : World} {K : PySem.W.Frag} {mg : Str → Option Value} {base : Heap} {G : GT} {k i n nN : Nat} {L : LamT} {N ps fr : List Str} {B : Den} (hL : G.lam i = some L) (S : LScope N ps fr L) (hn : ps.length = n) (hN : N.length = nN)
    (hsub : ∀ (h : Heap) (H : Hp), CapAt G h H → NdefX.CellsAt (cloFrom G.own L.scope.names []) fr (G.cv.map some) h H)
    (hbody : ∀ (cl : List (Str × Addr)) (c' f : Addr) (A : Around) (outer : List Env) (s : Shared) (H : Hp) (E : XK), Room k (A.deeper (NdefX.envF (lamNF L cl c') f s.heap.objs.size)) → ED (NdefX.ncx (L2N.CX P w) P w K mg base N (lamNF L cl c') f A outer s H E) G (fun cls d _ H => E cls d H) B L.body) :
    LOk P w K mg base G (k + 1) i n fun ds st => B ((ds ++ G.cd).map some ++ List.replicate (nN - (ds ++ G.cd).length) none) st := by
  subst hN
  intro L' A outer s H f c' us vs Q E hL' hr e0 hf hc hcap r hsp
  rw [hL] at hL'
  cases hL'
  obtain ⟨Sv, ds, st, ws, rd, hl, q⟩ := hsp
  obtain ⟨⟨pm, ctv, ho⟩, _, _⟩ := e0.hok f _ hf
  have hvl : vs.length = ps.length := by rw [← rd.length, hl, hn]
  have lim : s.heap.NoLimit := e0.mod.nolimit.keeps fun b o e => (e0.bs b o e).1
  refine PySem.W.kla_callFunE hr.depth ho rfl S.sc.co S.sc.gen rfl (NdefX.codeO_at e0.hok hc) ?_
  rw [S.hb _ _ _ _ _ us (by rw [← r.length]; exact hvl)]
  refine wpAny_pure (wpAny_newFunctionEnv S.sc.nocell (fun ⟨n, _⟩ hy => S.sc.par n (List.of_mem_zip hy).1) (fun h₁ hns hsb => ⟨lim.fresh _ hsb, ?_⟩) S.sc.kind)
  show codeAny _ _ (.expr L.body (NdefX.envF (lamNF L (cloFrom G.own L.scope.names []) c') f s.heap.objs.size)) _ _
  have kp : ∀ b o, s.heap.get? b = some o → h₁.get? b = some o := fun b o e => hsb.extBut b o (Nat.ne_of_lt (Heap.lt_size e)) (Heap.get?_push_of_some _ e)
  have I : Inv (NdefX.ncx (L2N.CX P w) P w K mg base N (lamNF L (cloFrom G.own L.scope.names []) c') f A outer s H E) [] (NdefX.startF N vs (G.cv.map some)) H { s with heap := h₁, toks := s.toks + (ps.zip us).length } := NdefX.inv_startN S.sc hr.hd e0 hvl r (hsub _ _ hcap) hns kp
  have hq := hbody (cloFrom G.own L.scope.names []) c' f A outer s H E (hr.deeper _)
  have rdc := rd.append ws.cp
  have hst : NdefX.startF N vs (G.cv.map some) = L2.start N (vs ++ G.cv) := by
    unfold NdefX.startF L2.start
    rw [List.map_append, List.append_assoc, List.length_append, List.length_map, Nat.sub_sub]
  have q' : PostF K G Sv H (B ((ds ++ G.cd).map some ++ List.replicate (N.length - (ds ++ G.cd).length) none) st) Q E := q
  have hE : tD K G (fun cls d _ H => E cls d H) B (NdefX.startF N vs (G.cv.map some)) H Q := by
    refine ⟨Sv, _, st, ⟨ws, by rw [hst]; exact ERep.start rdc⟩, ?_⟩
    cases eb : B ((ds ++ G.cd).map some ++ List.replicate (N.length - (ds ++ G.cd).length) none) st with
    | ok d s2 => rw [eb] at q'; exact fun S' H' l w v r => q' S' H' v l w r
    | exc c s2 => rw [eb] at q'; exact q'
    | bad => rw [eb] at q'; exact q'.elim
  refine PySem.W.kla_codeExpr (wpAny_mono (hq.run [] _ _ H Q I hE) (fun v s' hv => ?_) fun e s' hq => hq)
  obtain ⟨w', H', J, rv, q3⟩ := hv
  exact ⟨w', H', J.os, J.bare, J.base, J.hok, rv, q3⟩
/-- a call of a name that holds a lambda -/
def dLamC (ld : Nat → Option DenF) (j : Nat) (As : DenL) : Den := fun env st => match env[j]? with
  | some (some (.lam i)) => match ld i with
    | some d => (As env st).bind fun l s => if Nat.beq l.length 1 then d l s else .bad
    | none => .bad
  | _ => .bad
section
variable {X : Cx} {G : GT} {W : WX} {k j : Nat} {x : Str} {p pos : Pos} {e : Expr} {es : List Expr} {As : DenL} {ld : Nat → Option DenF}
theorem ed_lamC (T : ∀ i d, ld i = some d → LOk X.prog X.w X.K X.mg X.base G k i 1 d) (hcap : ∀ pins σ H s, Inv X pins σ H s → CapAt G s.heap H) (hr : Room k X.A) (hN : X.N[j]? = some x) (hv : Vis X.env.scope x) (tk : L2N.Takes X W) (ha : EA X G W As (e :: es))
    (hdb : (x == ("__debug__" : Str)) = false := by decide) (hcd : (x == ("__classdict__" : Str)) = false := by decide) (he : starEach (e :: es) X.env = (false, eval e X.env) :: starEach es X.env := by rfl) (hpl : (backTo pos (starEach es X.env)).any (·.1) = false := by rfl) :
    ED X G W (dLamC ld j As) (.Call (.Name x p) (e :: es) [] pos) := by
  refine ⟨fun pins s σ H Q I ⟨S, env, st, m, q⟩ => ?_⟩
  unfold dLamC at q
  split at q
  · rename_i i hi
    cases hd : ld i with
    | none => rw [hd] at q; exact q.elim
    | some d =>
      rw [hd] at q
      dsimp only at q
      obtain ⟨v, hs, rv⟩ := m.er.at_ _ _ hi
      simp only [Rep] at rv
      obtain ⟨L, a, c', hL, rfl, h1, h2⟩ := rv
      refine wpAny_Call_Name_kw (thn ((pe_var (pos := p) hN hv hdb hcd).run pins s σ H (fun v H1 => v = .ref a ∧ H1 = H) I ⟨.ref a, hs, rfl, rfl⟩) fun u s1 ⟨v, H1, I1, r1, q1⟩ => ?_)
      obtain ⟨ev, eH⟩ := q1
      subst ev
      rw [eH] at I1
      obtain rfl : u = Value.ref a := r1
      have fnAt : ∀ {s : Shared} {H : Hp} {σ : L2.St}, Inv X pins σ H s → H a = some (LamO a L (cloFrom G.own L.scope.names []) c') → PySem.W.FnAt a s.heap := fun I e => by
        obtain ⟨⟨pm, ctv, ho⟩, _, _⟩ := I.hok a _ e
        exact ⟨_, _, _, _, ho⟩
      refine PySem.W.callWith_F (first := []) (fnAt I1 h1) (thn (ha.run pos pins s1 σ H (fun vs H2 => ∃ S2 s2 l, Lat H S H2 S2 ∧ Ws X.K G H2 S2 s2 ∧ Reps X.K G H2 S2 l vs ∧ l.length = 1 ∧ PostF X.K G S2 H2 (d l s2) Q (WE W σ)) I1 ⟨S, env, st, m, Post.imp (Post.bind q) fun S1 H1 l s1 l1 w1 q vs rvs => ?_⟩)
        fun us s2 ⟨vs, H2, I2, r, S2, st2, l, l2, w2, rl, hl, q2⟩ => ⟨fnAt I2 (l2.ex _ _ h1), ?_⟩) he hpl
      · split at q
        · rename_i hz
          exact ⟨S1, s1, l, l1, w1, rvs, Nat.eq_of_beq_eq_true hz, PostF.of q⟩
        · exact q.elim
      · show wpAny _ _ (call (.ref a) us) _ _ _
        refine wpAny_call (codeAny_mono (T i d hd L X.A X.stack s2 H2 a c' us vs Q (WE W σ) hL hr I2.env0 (l2.ex _ _ h1) (l2.ex _ _ h2) (hcap _ _ _ _ I2) r ⟨S2, l, st2, w2, rl, hl, q2⟩) fun r s' hq => ?_)
        cases r with
        | error e => exact L2N.passAt tk σ pins H2 s2 e s' I2 hq
        | ok fl =>
          cases fl with
          | ret u => exact I2.after hq
          | next => exact False.elim hq
          | brk => exact False.elim hq
          | cont => exact False.elim hq
  · exact q.elim
end
end Wt

/-! Core 22: makers of lambdas, items of a list or a tuple, the end with tables. -/
namespace Wt
open PySem PySem.Spec PyProof.Rows L2
/-! ### what stands in a text -/
def nilE : Expr := .Tuple [] 0 ⟨0, 0, 0, 0⟩
def nilS : Stmt := .Pass ⟨0, 0, 0, 0⟩
def kidE : Expr → Nat → Expr
  | .BoolOp _ vs _, i => vs.getD i nilE
  | .BinOp l _ _ _, 0 => l
  | .BinOp _ _ r _, _ => r
  | .UnaryOp _ x _, _ => x
  | .IfExp t _ _ _, 0 => t
  | .IfExp _ b _ _, 1 => b
  | .IfExp _ _ o _, _ => o
  | .Compare l _ _ _, 0 => l
  | .Compare _ _ cs _, i + 1 => cs.getD i nilE
  | .Call f _ _ _, 0 => f
  | .Call _ es _ _, i + 1 => es.getD i nilE
  | .List es _, i => es.getD i nilE
  | .Tuple es _ _, i => es.getD i nilE
  | .Attribute v _ _, _ => v
  | .Subscript v _ _, 0 => v
  | .Subscript _ s _, _ => s
  | _, _ => nilE
def exS : Stmt → Expr
  | .If t _ _ _ => t
  | .While t _ _ _ => t
  | .Return (some v) _ => v
  | .Assign _ v _ => v
  | .Expr v _ => v
  | .For _ it _ _ _ => it
  | _ => nilE
def kidS : Stmt → Nat → Stmt
  | .If _ b _ _, i => b.getD i nilS
  | .While _ b _ _, i => b.getD i nilS
  | .For _ _ b _ _, i => b.getD i nilS
  | .Try b _ _ _ _, i => b.getD i nilS
  | _, _ => nilS
def elS : Stmt → Nat → Stmt
  | .If _ _ o _, i => o.getD i nilS
  | _, _ => nilS
def lamT (e : Expr) (q : Str) : LamT := match e with
  | .Lambda a b s _ => ⟨a, b, s, q⟩
  | _ => ⟨⟨[], [], none, [], [], none, []⟩, nilE, ⟨.function, [], false, false, []⟩, q⟩
/-! ### makers -/
/-- the def's code object and its table -/
structure MakerF (base : Heap) (mg : Str → Option Value) (G : GT) (fd : FuncData) (q : Str) : Prop where
  ex : ∃ c P, LamX.TabB base mg c P ∧ fd.code = .ref c ∧ (P, q) ∈ G.tab ∧ ∀ p ∈ G.tab, p.1 = P → p.2 = q
section
variable {P : Program} {w : World} {K : PySem.W.Frag} {mg : Str → Option Value} {base : Heap} {G : GT}
theorem MakerF.at_ {q qual : Str} {fd : FuncData} {CX : CXT} {N : List Str} {sc : Scope} {f : Addr} {A : Around} {outer : List Env} {s : Shared} {H : Hp} {E : XK} (M : MakerF base mg G fd q) (hq : (envOfC qual sc s.heap.objs.size f fd.code).qual ++ "<lambda>" = q) :
    Maker (cxOf CX P w K mg base N qual sc f fd.code A outer s H E) G q :=
  let ⟨c, P, h1, h2, h3, h4⟩ := M.ex; ⟨c, P, h1, h2, h3, hq, h4⟩
theorem clo_nofree {cells : List (Str × Addr)} : ∀ {names : List (Str × NameKind)}, (∀ y ∈ names, y.2 ≠ .free) → ∀ acc, cloFrom cells names acc = acc
  | [], _, acc => rfl
  | (n, k) :: r, h, acc => by
    have hk : (k == NameKind.free) = false := by
      have := h (n, k) (List.mem_cons_self ..)
      cases k <;> first | rfl | exact absurd rfl this
    rw [cloFrom, hk, if_neg (by decide)]
    exact clo_nofree (fun y hy => h y (List.mem_cons_of_mem _ hy)) acc
def noFree (sc : Scope) : Bool := sc.names.all fun y => !decide (y.2 = .free)
theorem noFree_of {sc : Scope} (h : noFree sc = true) : ∀ y ∈ sc.names, y.2 ≠ .free := fun y hy e => by
  have := List.all_eq_true.mp h y hy
  rw [decide_eq_true e] at this
  cases this
theorem clo_eq0 {sc : Scope} {c1 c2 : List (Str × Addr)} (h : noFree sc = true) : cloFrom c1 sc.names [] = cloFrom c2 sc.names [] := by
  rw [clo_nofree (noFree_of h), clo_nofree (noFree_of h)]
/-- a lambda that captures nothing -/
theorem cap0 {L : LamT} (h : noFree L.scope = true) (h3 : G.cv = []) (hp : Heap) (H : Hp) (_ : CapAt G hp H) : NdefX.CellsAt (cloFrom G.own L.scope.names []) [] (G.cv.map some) hp H := by
  rw [clo_nofree (noFree_of h), h3]
  exact ⟨rfl, fun y c e => (by cases e), fun x y c e => (by cases e), fun i y e => (by cases i <;> cases e)⟩
/-- as fd_of, of a def that makes lambdas -/
theorem fd_ofC {x qual : Str} {st : Stmt} {f : Addr} {fd : FuncData} {N ps : List Str} {k n nN : Nat} {B : DenS} (F : Fun K x qual st f fd) (Sc : FnScope N ps (defScope st)) (hn : ps.length = n) (hN : N.length = nN) (hb : Binds K fd ps [])
    (hbody : ∀ (A : Around) (outer : List Env) (s : Shared) (H : Hp) (E : XK), Room k (A.deeper (envOfC qual (defScope st) s.heap.objs.size f fd.code)) →
      ESs (cxOf (L2N.CX P w) P w K mg base N qual (defScope st) f fd.code A outer s H E) G (fun cls d _ H => E cls d H) B (defBody st)) : FD P w K mg base G (k + 1) f n (run nN B) := by
  subst hN
  obtain ⟨oc, od, kV, doc, pm, an, cdv, ct, osl, rfl, lk, hcd⟩ := F.ex
  refine ⟨_, ps, fn_of lk hcd Sc (fun vs H Q E h => ?_) (fun A outer s H vs Q E hr h => ⟨_, hbody A outer s H E hr, ?_⟩), hb⟩
  · obtain ⟨S, ds, st, _, r, hl, _⟩ := h
    rw [← r.length, hl, hn]
  · obtain ⟨S, ds, st, w, r, hl, q⟩ := h
    refine ⟨S, _, st, ⟨w, ERep.start r⟩, ?_⟩
    unfold run at q
    cases e : B (ds.map some ++ List.replicate (N.length - ds.length) none) st with
    | nx env s =>
      rw [e] at q
      exact fun S' H' σ' l m => q S' H' .non l m.ws mk_non
    | rt d s =>
      rw [e] at q
      exact q
    | exc c env s =>
      rw [e] at q
      exact fun S' H' σ' l m => q S' H' l m.ws
    | bk _ _ => rw [e] at q; exact q.elim
    | ct _ _ => rw [e] at q; exact q.elim
    | bad => rw [e] at q; exact q
end
/-! ### the items of a list or of a tuple -/
def iSeqD (A : Den) : DenI := fun env st => match A env st with
  | .ok (.tup _) _ => iTupD A env st
  | _ => iLst A env st
theorem ei_seq {X : Cx} {G : GT} {W : WX} {A : Den} {tg e : Expr} (h : ED X G W A e) : EI X G W (iSeqD A) tg e := by
  have key : ∀ σ H R, tI X.K G W (iSeqD A) σ H R → tI X.K G W (iTupD A) σ H R ∨ tI X.K G W (iLst A) σ H R := fun σ H R ⟨S, env, st, m, q⟩ => by
    unfold iSeqD at q
    split at q
    · exact .inl ⟨S, env, st, m, q⟩
    · exact .inr ⟨S, env, st, m, q⟩
  exact ⟨fun pins s σ H R I q => (key σ H R q).elim (fun q => (ei_tup h).run pins s σ H R I q) fun q => (ei_list h).run pins s σ H R I q⟩
/-! ### the end -/
/-- the tables of all defs of the top are empty -/
def OwnTabs (q : Program) (K : PySem.W.Frag) (mg : Str → Option Value) (h : Heap) : Prop :=
  ∀ (x : Str) (a : Addr), ((recsOf q).any fun e => e.name == x) = true → mg x = some (.ref a) → LamX.OwnTab K a h
theorem walk_lam {l : PySem.W.OpenLaw} {n k : Nat} {q : Program} {loose : List Str} {XP : (Str → Option Value) → Heap → Prop} {YP : World → Heap → Prop} {d : DefRec} {K : Params → PySem.W.Frag} {CX : World → CXT} {x : Str} (hn : l.most = some n) (hn2 : n ≤ sizeLine) (hdf : d.params.defaults = []) (hr : Room k callerA)
    (hY : ∀ (w : World) (h : Heap), YP w h → (K w.params).In h) (F : ∀ (w : World) (mg : Str → Option Value) (fa : Addr) (h : Heap), (K w.params).In h → h.Ns mainGlobals mg → mg d.name = some (.ref fa) → OwnTabs q (K w.params) mg h → LamX.LawAtS l w (K w.params) (CX w) k n x mg fa h)
    (hCX : ∀ (w : World) (H : Hp) (s : Shared) (e : Value) (s' : Shared), CX w [] H s (fun _ _ _ => False) e s' → False) : PySem.W.WalkO q loose XP YP l.row.toRowW d [] (fun f vs => PySem.call f vs) := by
  refine Att.attach_callB hn hdf ?_
  intro w s0 s1 mg mb fa o pm cd doc a vs ns T Y ho hd hcd hmg hobj hints hlen hbits hg
  have KX := hY w _ Y
  have tabs : OwnTabs q (K w.params) mg s1.heap := by
    intro x b hx hb c P o1 f1 e dd v1 sl k1 k2 k3 k4 k5
    obtain ⟨r, hr1, hr2⟩ := List.any_eq_true.mp hx
    have hn1 : r.name = x := beq_iff_eq.mp hr2
    obtain ⟨a2, o2, f2, c2, P2, g1, g2, g3, g4, g5, ⟨⟨oc, vc, e1, _, e3, e4⟩, hP⟩⟩ := T.T.tab r hr1
    rw [hn1, hb] at g1
    cases g1
    rw [KX _ _ k1] at g2
    cases g2
    rw [k2] at g3
    cases g3
    rw [k3] at g4
    cases g4
    rw [KX _ _ k4] at e1
    cases e1
    cases e3
    rw [k5] at e4
    cases e4
    exact hP
  obtain ⟨fd, cs, sp, t1, t2, t3, hb, hs, hF⟩ := F w mg fa _ KX T.T.g hmg tabs
  exact LamX.law_callTs KX T.T.g T.T.b T.T.builtins T.T.nolimit hg t1 t2 t3 T.T.bmain hobj hints
    (Nat.le_trans hlen hn2) hr hF hb (fun H h1 h2 => hs H a ns hlen hbits h1 h2) fun H e s' => hCX w H s1 e s'
/-- what a law with lambdas is shown -/
def LawT (P : Program) (w : World) (K : PySem.W.Frag) (mg : Str → Option Value) (h : Heap) (k : Nat) (fa : Addr) (x : Str) : Prop :=
  ∃ (fd : FuncData) (cs : List (Addr × Addr)) (T : List (Addr × Str)), (∀ p ∈ T, ∃ c, (c, p.1) ∈ cs) ∧ (∀ p ∈ cs, h.get? p.2 = some { cls := .none, data := .fields #[] }) ∧ (∀ p ∈ cs, K.lookup p.2 = none) ∧ (∀ p ∈ cs, PySem.W.CodeHd h p.1 p.2) ∧
    (∀ (s : Shared) (u : Value), BindsTo s fd ⟨[u], []⟩ [(x, u)]) ∧ ∀ base : Heap, K.In base → base.Ns mainGlobals mg → (∀ p ∈ cs, LamX.TabB base mg p.1 p.2) → FnOk P w K mg base (L2N.CX P w) k fa fd [x] (spLaw K T)
theorem law_packT {P : Program} {w : World} {K : PySem.W.Frag} {mg : Str → Option Value} {h : Heap} {k : Nat} {fa : Addr} {x n q : Str} {st : Stmt} {fd : FuncData} (_ : Fun K n q st fa fd) {cs : List (Addr × Addr)} {T : List (Addr × Str)} (h0 : ∀ p ∈ T, ∃ c, (c, p.1) ∈ cs) (h1 : ∀ p ∈ cs, h.get? p.2 = some { cls := .none, data := .fields #[] })
    (h2 : ∀ p ∈ cs, K.lookup p.2 = none) (h3 : ∀ p ∈ cs, PySem.W.CodeHd h p.1 p.2) (hb : ∀ (s : Shared) (u : Value), BindsTo s fd ⟨[u], []⟩ [(x, u)]) (hF : ∀ base : Heap, K.In base → base.Ns mainGlobals mg → (∀ p ∈ cs, LamX.TabB base mg p.1 p.2) → FnOk P w K mg base (L2N.CX P w) k fa fd [x] (spLaw K T)) : LawT P w K mg h k fa x :=
  ⟨fd, cs, T, h0, h1, h2, h3, hb, hF⟩
theorem LawT.at_ {l : PySem.W.OpenLaw} {w : World} {K : PySem.W.Frag} {mg : Str → Option Value} {h : Heap} {k : Nat} {fa : Addr} {x : Str} (L : LawT l.prog w K mg h k fa x) : LamX.LawAtS l w K (L2N.CX l.prog w) k 63 x mg fa h := by
  obtain ⟨fd, cs, T, h0, h1, h2, h3, hb, hF⟩ := L
  refine ⟨fd, cs, spLaw K T, h1, h2, h3, hb, fun H a ns hl hbits ht hs => ?_, hF⟩
  refine ⟨a, ns, rfl, hl, hbits, fun p hp => ?_, hs, fun _ => rfl⟩
  obtain ⟨c, hc⟩ := h0 p hp
  exact ht _ hc
theorem LOk.mono {P : Program} {w : World} {K : PySem.W.Frag} {mg : Str → Option Value} {base : Heap} {G : GT} {j k i n : Nat} {d : DenF} (h : LOk P w K mg base G j i n d) (hk : j ≤ k) : LOk P w K mg base G k i n d :=
  fun L A outer s H f c' us vs Q E hL hr => h L A outer s H f c' us vs Q E hL (hr.mono hk)
/-- nothing is promised -/
theorem FD.none {P : Program} {w : World} {K : PySem.W.Frag} {mg : Str → Option Value} {base : Heap} {G : GT} {k n : Nat} {a : Addr} {fd : FuncData} {ps : List Str} (b : Binds K fd ps []) : FD P w K mg base G k a n (fun _ _ => .bad) :=
  ⟨fd, ps, ⟨fun vs H Q E h => by
    obtain ⟨S, ds, st, _, _, _, q⟩ := h
    exact q.elim, fun A outer s H args us vs Q E _ _ _ _ h => by
    obtain ⟨S, ds, st, _, _, _, q⟩ := h
    exact q.elim⟩, b⟩
theorem su64 {k : Nat} {A : Around} {v : Option Value} (r : Room k A) : (A.mark v).units + 64 < cLine := by
  have z := hu64 r
  exact z
theorem su65 {k : Nat} {A : Around} {v : Option Value} (r : Room k A) : (A.mark v).units + 65 < cLine := by
  have z := hu65 r
  exact z
end Wt

/-! Core 23: a new list over range(n), made where an exception is handled. -/
namespace Wt
open PySem PySem.Spec PyProof.Rows L2
section
variable {X : Cx} {pins : List (Addr × Obj)} {σ : L2.St} {H : Hp} {s : Shared}
/-- the handled exception, seen from within the block -/
theorem blk_pin {sc : Scope} {ce : Env} {fp : List Addr} {ps : List (Addr × Obj)} {p : Addr × Obj} {H0 H1 : Hp} {s0 s1 : Shared} {σ1 : L2.St} (I0 : Inv X pins σ H0 s0) (hp : p ∈ X.pn) (hf : p.1 ∉ fp) (hl : s0.heap.objs.size ≤ ce.locals) (I1 : Inv (X.blk s0 H0 sc ce fp) ps σ1 H1 s1) :
    Inv (X.blk s0 H0 sc ce fp) [p] σ1 H1 s1 := by
  obtain ⟨g, n, e1, e2, nc⟩ := I0.pin p (List.mem_append_left _ hp)
  have hfs : p.1 ∉ (X.blk s0 H0 sc ce fp).fs := fun z => (List.mem_cons.mp (I0.stkSub _ z)).elim (fun z => e1 z) fun z => e2 z
  refine I1.pins_of fun q hq => ?_
  rw [List.mem_singleton.mp hq]
  refine ⟨I1.base.keep _ _ g n hfs hf, I1.base.free _ _ g n hf, fun z => ?_, hfs, nc⟩
  have lt := Heap.lt_size g
  have z' : p.1 = ce.locals := z
  rw [z'] at lt
  exact absurd lt (Nat.not_lt.mpr hl)
/-- a block's list, the iterator one that turns where an exception is handled -/
theorem pe_lcH {elt tg iter : Expr} {ifs : List Expr} {scope : Scope} {own : List (Str × Nat)} {pos : Pos} {wi : TI} {g : TG} {tt : TT} {te : TE} (hot : L2H.HotC X) (hN : X.N.Nodup) (hi : L2H.PIH X tg iter wi) (ok : BlkOk X.N X.env.scope scope own)
    (hg : ∀ (s : Shared) (H : Hp) (C : Addr) (cl : List (Str × Addr)) (fp : List Addr), PG (X.blk s H scope (compEnvC scope cl C X.env) fp) tg g) (ht : ∀ (s : Shared) (H : Hp) (C : Addr) (cl : List (Str × Addr)) (fp : List Addr), PTs (X.blk s H scope (compEnvC scope cl C X.env) fp) ifs tt)
    (he : ∀ (s : Shared) (H : Hp) (C : Addr) (cl : List (Str × Addr)) (fp : List Addr), PE (X.blk s H scope (compEnvC scope cl C X.env) fp) elt te) (hs : ∀ x, foldedSetIterable iter X.env x = pure x := by intro _; rfl) :
    PE X (.ListComp elt [⟨tg, iter, ifs, 0⟩] scope pos) (tLc wi g tt te (own.map (·.2))) := by
  obtain ⟨p, hp1, hpm⟩ := hot
  refine ⟨fun pins s σ H Q I h => ?_⟩
  rw [eval_ListComp]
  have hfr : ∀ y ∈ scope.names, y.2 = .free → ∃ c, X.env.cells.lookup y.1 = some c := fun y hy e => (ok.free y hy e).elim (fun k => I.ok.has _ (.inl k)) fun k => I.ok.has _ (.inr k)
  refine wpAny_comprehension_free rfl hs (closure_ok hfr) ok.kind (fun y hy e => by rw [ok.uniq y hy, e]) (thn (hi.run pins s σ H _ I h) fun xv sa hx => thn hx fun itv sb hb => ?_)
  obtain ⟨it, fp, tn, J, Hb, rfl, Ib, T, stb, fb, q⟩ := hb
  refine wpAny_newObj_type (newEnv_comp ?_) (by show 0 ≤ sizeLine; decide)
  obtain ⟨D, hD⟩ : ∃ D, sb.heap.objs.size = D := ⟨_, rfl⟩
  have hDn : Hb D = none := Ib.hok.fresh (Nat.le_of_eq hD)
  obtain ⟨W, ⟨m0, w0⟩, turn⟩ := q D hDn
  obtain ⟨sc, hsc⟩ : ∃ x : Shared, ({ sb with heap := sb.heap.push { cls := .type "list", data := .seq ([] : List Value).toArray } } : Shared) = x := ⟨_, rfl⟩
  have hh : sc.heap = sb.heap.push { cls := .type "list", data := .seq ([] : List Value).toArray } := by rw [← hsc]
  have Ic : Inv X pins σ (upd Hb D (.lst [])) sc := by
    rw [← hsc]
    refine Ib.laid (t' := sb.toks) (fun b o e => Heap.get?_push_of_some _ e) (Nat.le_of_eq hD) ⟨Nat.zero_le _, [], 0, .nil, ?_⟩
    rw [← hD]
    exact Heap.get?_push_size _ rfl
  have fc : ∀ b ∈ fp, FpOk X pins (upd Hb D (.lst [])) b ∧ b < sc.heap.objs.size := fun b hb => by
    obtain ⟨o, e, _⟩ := T.obj _ _ stb b hb
    have lt := Heap.lt_size e
    exact ⟨⟨by rw [upd_ne (Nat.ne_of_lt (hD ▸ lt))]; exact (fb b hb).1, (fb b hb).2⟩, by rw [hh, Heap.size_push]; exact Nat.lt_succ_of_lt lt⟩
  have npf : p.1 ∉ fp := fun z => (fb _ z).2.2.2.2.2 p (List.mem_append_left _ hpm) rfl
  have stc : tn 0 sc.heap := T.keep _ _ _ stb fun b _ o e => by rw [hh]; exact Heap.get?_push_of_some _ e
  have Id := block_start Ic ok hN fc
  have pg := hg sc (upd Hb D (.lst [])) sc.heap.objs.size (cellsFrom (sc.heap.objs.size + 1) scope.names (cloFrom X.env.cells scope.names [])) fp
  have pt := ht sc (upd Hb D (.lst [])) sc.heap.objs.size (cellsFrom (sc.heap.objs.size + 1) scope.names (cloFrom X.env.cells scope.names [])) fp
  have pe := he sc (upd Hb D (.lst [])) sc.heap.objs.size (cellsFrom (sc.heap.objs.size + 1) scope.names (cloFrom X.env.cells scope.names [])) fp
  rw [hD, hsc]
  show codeAny _ _ (.compStart _ 0 (.ref it) (.ref D) (compEnvC scope (cellsFrom (sc.heap.objs.size + 1) scope.names (cloFrom X.env.cells scope.names [])) sc.heap.objs.size X.env)) (compPost (model X.prog X.w) X.A X.xe none _ (.ref D) sc.heap.objs.size) _
  have nf0 : ∀ b ∈ fp, (upd Hb D (.lst [])) b = none := fun b hb => (fc b hb).1.1
  obtain ⟨ce, hce⟩ : ∃ ce, compEnvC scope (cellsFrom (sc.heap.objs.size + 1) scope.names (cloFrom X.env.cells scope.names [])) sc.heap.objs.size X.env = ce := ⟨_, rfl⟩
  have hcl : ce.locals = sc.heap.objs.size := by rw [← hce]; rfl
  rw [hce] at Id pg pt pe ⊢
  obtain ⟨Hc, hHc⟩ : ∃ x, upd Hb D (.lst []) = x := ⟨_, rfl⟩
  rw [hHc] at Ic Id pg pt pe w0 nf0 fc
  obtain ⟨sd, hsd⟩ : ∃ x : Shared, ({ sc with heap := pushCells (sc.heap.push { cls := .type "dict", data := .dict #[] }) scope.names } : Shared) = x := ⟨_, rfl⟩
  have std : tn 0 sd.heap := T.keep _ _ _ stc fun b _ o e => by rw [← hsd]; exact pushCells_keeps _ _ _ _ (Heap.get?_push_of_some _ e)
  rw [hsd] at Id ⊢
  -- the handled exception goes with the block
  have withp : ∀ {ps : List (Addr × Obj)} {σ1 : L2.St} {H1 : Hp} {s1 : Shared}, Inv (X.blk sc Hc scope ce fp) ps σ1 H1 s1 → Inv (X.blk sc Hc scope ce fp) [p] σ1 H1 s1 := fun I1 => blk_pin Ic hpm npf (Nat.le_of_eq hcl.symm) I1
  have hotB : L2H.HotC ((X.blk sc Hc scope ce fp).tr ([] ++ [p]) (fun _ _ => False)) := ⟨p, hp1, List.mem_singleton.mpr rfl⟩
  have fpB : ∀ {ps : List (Addr × Obj)} {σ1 : L2.St} {H1 : Hp} {s1 : Shared}, Inv (X.blk sc Hc scope ce fp) ps σ1 H1 s1 → (∀ b ∈ fp, H1 b = none) → ∀ b ∈ fp, FpOk (X.blk sc Hc scope ce fp) [p] H1 b := fun {ps σ1 H1 s1} I1 n b hb =>
    ⟨n b hb, (I1.ok.exf b hb).1, I1.ok.exfs b hb, .inl hb, fun x c e => (I1.ok.exf b hb).2 x c e, fun r hr => by
      rw [List.mem_singleton.mp (show r ∈ [p] from hr)]
      exact fun z => npf (z ▸ hb)⟩
  have loop : codeAny (model X.prog X.w) X.A (.compLoop (.ListComp elt [⟨tg, iter, ifs, 0⟩] scope pos) 0 (.ref it) (.ref D) ce) (compPost (model X.prog X.w) X.A X.xe none (EP X pins σ Q) (.ref D) sc.heap.objs.size) sd := by
    refine compLoop_any (fun n s' => ∃ i H', Inv (X.blk sc Hc scope ce fp) [p] (wipe σ (own.map (·.2))) H' s' ∧ tn i s'.heap ∧ (∀ b ∈ fp, H' b = none) ∧ W i n H') ?_ m0 ⟨0, Hc, withp Id, std, nf0, w0⟩
    rintro n s1 ⟨i, H1, I1, st1, n1, w1⟩
    have I1t := I1.toTry (fun _ _ => False)
    have f1t : ∀ b ∈ fp, FpOk ((X.blk sc Hc scope ce fp).tr ([] ++ [p]) (fun _ _ => False)) [] H1 b := fun b hb => by
      obtain ⟨a1, a2, a3, a4, a5, a6⟩ := fpB I1 n1 b hb
      exact ⟨a1, a2, a3, a4, a5, fun r hr => a6 r (by simpa using hr)⟩
    rcases turn i n H1 w1 with ⟨stop, qq⟩ | ⟨go, Nx, hNx, step⟩
    · refine thnF (T.done ((X.blk sc Hc scope ce fp).tr ([] ++ [p]) (fun _ _ => False)) rfl rfl rfl hotB i [] s1 _ H1 (fun _ _ => False) I1t f1t st1 stop) fun r s2 ⟨hr, I2t⟩ => ?_
      subst hr
      have I2 : Inv (X.blk sc Hc scope ce fp) [p] (wipe σ (own.map (·.2))) H1 s2 := I2t.ofTry I1.ok
      have I3 : Inv X pins σ H1 s2 := Ic.call' (ch := fp) I2.os I2.base I2.hok I2.bare fun b hb => ⟨(fc b hb).1.2.2.2.1, (fc b hb).1.2.1, (fc b hb).1.2.2.2.2.1, (fc b hb).1.2.2.2.2.2⟩
      have nC : H1 sc.heap.objs.size = none := by
        have z : H1 ce.locals = none := I2.free
        rw [hcl] at z
        exact z
      obtain ⟨m, hn, _⟩ := I2.loc
      have hn : s2.heap.Ns ce.locals m := hn
      rw [hcl] at hn
      obtain ⟨f0, f1, f2, f3, f4, f5⟩ := Ic.fpOk (H' := H1) (Nat.le_refl _) nC
      exact ⟨m, hn, fun h2 sb => ⟨.ref D, H1, I3.turned (t' := s2.toks) (fun b o hb e => (sb.2 b hb).trans e) f0 f1 f3 f4 f5, rfl, qq⟩⟩
    · refine thnF (T.item ((X.blk sc Hc scope ce fp).tr ([] ++ [p]) (fun _ _ => False)) rfl rfl rfl hotB i [] s1 _ H1 (fun _ _ => False) I1t f1t st1 go) fun r s2 ⟨u, hr, h2⟩ => ?_
      subst hr
      refine thnF h2 fun _ s3 ⟨x, H3, I3t, r3, y3, st3, n3⟩ => ?_
      have I3 : Inv (X.blk sc Hc scope ce fp) [p] (wipe σ (own.map (·.2))) H3 s3 := I3t.ofTry I1.ok
      have I3p := I3.pinned (fpB I3 n3) (T.obj _ _ st3)
      refine thnF (pg.run _ s3 _ H3 x u _ I3p r3 (step x H3 y3)) fun _ s4 ⟨σ4, H4, I4, hw4, q4⟩ => ?_
      refine thnF (pt.run _ s4 σ4 H4 _ I4 q4) fun b s5 ⟨H5, I5, q5⟩ => ?_
      have next : ∀ {s' : Shared} {H' : Hp}, Inv (X.blk sc Hc scope ce fp) ([p] ++ pinsAt fp s3.heap) σ4 H' s' → Nx H' → ∃ m, m < n ∧ ∃ i H', Inv (X.blk sc Hc scope ce fp) [p] (wipe σ (own.map (·.2))) H' s' ∧ tn i s'.heap ∧ (∀ b ∈ fp, H' b = none) ∧ W i m H' := fun {s' H'} I' nx => by
        obtain ⟨m', hm, w'⟩ := hNx H' nx
        have here : ∀ b ∈ fp, ∀ o, s3.heap.get? b = some o → s'.heap.get? b = some o ∧ H' b = none := fun b hb o e => by
          obtain ⟨z1, z2, _⟩ := I'.pin (b, o) (List.mem_append_right _ (List.mem_append_right _ (mem_pinsAt hb e)))
          exact ⟨z1, z2⟩
        refine ⟨m', hm, i + 1, H', (I'.unpinned (pins := [p])).weak (by rw [← hw4, wipe_length]) (fun j v e => ?_), T.keep _ _ _ st3 fun b hb o e => (here b hb o e).1, fun b hb => ?_, w'⟩
        · rw [← hw4] at e
          exact (wipe_some e).1
        · obtain ⟨o, e, _⟩ := T.obj _ _ st3 b hb
          exact (here b hb o e).2
      cases b with
      | false => exact next I5 q5
      | true =>
        refine thnF (pe.run _ s5 σ4 H5 _ I5 q5) fun z s6 ⟨yv, H6, I6, r6, acc, hD6, hz6, nx⟩ => ?_
        exact app_ok (X := X.blk sc Hc scope ce fp) I6 hD6 hz6 r6 fun s7 I7 => next I7 nx
  exact codeAny_compStart_list loop (T.self X.A 0 _ _ _ std loop)
end
theorem PIH.imp {X : Cx} {tg e : Expr} {t t' : TI} (h : L2H.PIH X tg e t) (i : ∀ σ H R, t' σ H R → t σ H R) : L2H.PIH X tg e t' := ⟨fun pins s σ H R I q => h.run pins s σ H R I (i σ H R q)⟩
section
variable {X : Cx} {G : GT} {W : WX} {a elt tg : Expr} {p pos pos2 : Pos} {As : DenL} {A : Den} {g : DenG} {P : DenB} {ifs : List Expr} {scope : Scope} {own : List (Str × Nat)}
theorem ei_rng1H (hg : Gl X "range") (hm : X.mg "range" = none) (ha : EA X G W As [a]) (hs : starEach [a] X.env = [(false, eval a X.env)] := by rfl) : L2H.PIH X tg (.Call (.Name "range" p) [a] [] pos) (tI X.K G W (iRng1D As)) :=
  PIH.imp (L2H.pi_range1H hg hm ha hs) fun σ H R ⟨S, env, st, m, q⟩ => ⟨S, env, st, m, Post.imp (Post.bind q) fun S1 H1 l s1 l1 w1 q vs rv => by
    split at q
    · rename_i j
      split at q
      · rename_i hz
        simp only [Bool.and_eq_true, decide_eq_true_eq] at hz
        obtain ⟨v, rfl, r⟩ := rv.one
        exact ⟨j, by rw [rep_int r], hz.1, hz.2, Post.ok q w1 _ wk_rng⟩
      · exact q.elim
    · exact q.elim⟩
/-- where a caught error is handled -/
theorem hot_suite {Y : Cx} {ea : Addr} {oe : Obj} {pn : List (Addr × Obj)} {cls : Value} {d : Option Addr} (hz : L2N.Zn cls d oe) (hf : ∃ vs, oe.data = .fields vs) : L2H.HotC (Y.suite ea ((ea, oe) :: pn)) := by
  obtain ⟨vs, e⟩ := hf
  exact ⟨(ea, oe), ⟨rfl, vs, e, hz.2.2 vs e⟩, List.mem_cons_self ..⟩
theorem el_lcH (hot : L2H.HotC X) (hN : X.N.Nodup) (hi : L2H.PIH X tg (.Call (.Name "range" p) [a] [] pos2) (tI X.K G W (iRng1D As))) (ok : BlkOk X.N X.env.scope scope own)
    (hgt : ∀ (s : Shared) (H : Hp) (C : Addr) (cl : List (Str × Addr)) (fp : List Addr), EGw (X.blk s H scope (compEnvC scope cl C X.env) fp) G g (own.map (·.2)) tg) (ht : ∀ (s : Shared) (H : Hp) (C : Addr) (cl : List (Str × Addr)) (fp : List Addr), EBs (X.blk s H scope (compEnvC scope cl C X.env) fp) G W0 P ifs)
    (he : ∀ (s : Shared) (H : Hp) (C : Addr) (cl : List (Str × Addr)) (fp : List Addr), ED (X.blk s H scope (compEnvC scope cl C X.env) fp) G W0 A elt) (hs : ∀ x, foldedSetIterable (.Call (.Name "range" p) [a] [] pos2) X.env x = pure x := by intro _; rfl) :
    EL X G W (lLc (iRng1D As) (own.map (·.2)) g P A) (.ListComp elt [⟨tg, .Call (.Name "range" p) [a] [] pos2, ifs, 0⟩] scope pos) :=
  PE.imp (pe_lcH hot hN hi ok hgt ht he hs) fun σ H Q h => tLc_of (fun _ q => q) h
end
end Wt

namespace Wt
open PySem PySem.Spec PyProof.Rows L2
/-! ## two who know commands, plain -/
/-- behind all commands of ticks to t -/
def runT (L : Int) (cs : List Cmd) (t : Int) : Int × Bool × Int := runC L ((isort leC cs).takeWhile fun c => decide (c.1 ≤ t))
theorem stand_run (L : Int) (cs : List Cmd) (t : Int) : standL L cs t = endC L t (runT L cs t) := rfl
theorem runT_perm {L : Int} {cs ds : List Cmd} (h : cs.Perm ds) (t : Int) : runT L cs t = runT L ds t := by unfold runT; rw [isort_eq leCO leC_anti h]
theorem run_again {L : Int} {cs : List Cmd} (hL : 0 ≤ L) (hv : ∀ c ∈ cs, Vc L c) {c : Cmd} (hc : c ∈ cs) (t : Int) : runT L (c :: cs) t = runT L cs t := by
  obtain ⟨A, B, e1, e2⟩ := ins_again c (isort_srd leCO cs) (isort_mem.mpr hc)
  unfold runT
  rw [show isort leC (c :: cs) = A ++ c :: c :: B from e2, e1]
  have hA : ∀ x ∈ A, Vc L x := fun x hx => hv x (isort_mem.mp (by rw [e1]; exact List.mem_append_left _ hx))
  unfold runC
  rw [List.takeWhile_append, List.takeWhile_append]
  by_cases hall : (List.takeWhile (fun c => decide (c.1 ≤ t)) A).length = A.length
  · rw [if_pos hall, if_pos hall, List.foldl_append, List.foldl_append]
    have hle := fold_le A (0, false, 0) hA hL
    generalize A.foldl (stepC L) (0, false, 0) = s at *
    by_cases ht : c.1 ≤ t
    · rw [List.takeWhile_cons, if_pos (decide_eq_true ht), List.takeWhile_cons, if_pos (decide_eq_true ht), List.foldl_cons, List.foldl_cons, List.foldl_cons, step_twice (hv c hc) hle]
    · rw [List.takeWhile_cons, if_neg (by simpa using ht), List.takeWhile_cons, if_neg (by simpa using ht)]
  · rw [if_neg hall, if_neg hall]
theorem run_twice {L : Int} {cs : List Cmd} (hL : 0 ≤ L) (hv : ∀ c ∈ cs, Vc L c) (t : Int) : ∀ ds : List Cmd, (∀ c ∈ ds, c ∈ cs) → runT L (ds ++ cs) t = runT L cs t
  | [], _ => rfl
  | d :: ds, h => by
    rw [List.cons_append, run_again hL (fun c hc => (List.mem_append.mp hc).elim (fun hc => hv c (h c (List.mem_cons_of_mem _ hc))) (hv c)) (List.mem_append_right _ (h d (List.mem_cons_self ..))), run_twice hL hv t ds fun c hc => h c (List.mem_cons_of_mem _ hc)]
theorem tw_tw {α : Type} {p q : α → Bool} (h : ∀ c, p c = true → q c = true) : ∀ l : List α, (l.takeWhile q).takeWhile p = l.takeWhile p
  | [] => rfl
  | x :: r => by
    rw [List.takeWhile_cons (p := q), List.takeWhile_cons (p := p)]
    by_cases hp : p x = true
    · rw [if_pos (h x hp), if_pos hp, List.takeWhile_cons, if_pos hp, tw_tw h r]
    · rw [if_neg hp]
      split
      · rw [List.takeWhile_cons, if_neg hp]
      · rfl
theorem run_cut (L : Int) (cs : List Cmd) (t : Int) : runT L (cs.filter fun c => decide (c.1 ≤ t)) t = runT L cs t := by
  unfold runT
  rw [stand_filter]
  rw [tw_tw fun _ h => h]
/-- who know the same up to t -/
theorem run_same {L : Int} (hL : 0 ≤ L) {cs ds : List Cmd} (h1 : ∀ c ∈ cs, Vc L c) (h2 : ∀ c ∈ ds, Vc L c) {t : Int} (h : ∀ c : Cmd, c.1 ≤ t → (c ∈ cs ↔ c ∈ ds)) : runT L cs t = runT L ds t := by
  rw [← run_cut L cs, ← run_cut L ds]
  have a1 : ∀ c ∈ cs.filter (fun c => decide (c.1 ≤ t)), c ∈ ds.filter (fun c => decide (c.1 ≤ t)) := fun c hc => by
    obtain ⟨m, e⟩ := List.mem_filter.mp hc
    exact List.mem_filter.mpr ⟨(h c (of_decide_eq_true e)).mp m, e⟩
  have a2 : ∀ c ∈ ds.filter (fun c => decide (c.1 ≤ t)), c ∈ cs.filter (fun c => decide (c.1 ≤ t)) := fun c hc => by
    obtain ⟨m, e⟩ := List.mem_filter.mp hc
    exact List.mem_filter.mpr ⟨(h c (of_decide_eq_true e)).mpr m, e⟩
  have b1 := run_twice hL (fun c hc => h2 c (List.mem_filter.mp hc).1) t _ a1
  have b2 := run_twice hL (fun c hc => h1 c (List.mem_filter.mp hc).1) t _ a2
  rw [← b1, ← b2]
  exact runT_perm List.perm_append_comm t
theorem stand_same {L : Int} (hL : 0 ≤ L) {cs ds : List Cmd} (h1 : ∀ c ∈ cs, Vc L c) (h2 : ∀ c ∈ ds, Vc L c) {t : Int} (h : ∀ c : Cmd, c.1 ≤ t → (c ∈ cs ↔ c ∈ ds)) : standL L cs t = standL L ds t := by
  rw [stand_run, stand_run, run_same hL h1 h2 h]
/-! ### what just one knows -/
def unL (one other : List Cmd) (t : Int) : List Cmd := (one.filter fun c => !decide (c ∈ other) && decide (c.1 ≤ t)) ++ other.filter fun c => !decide (c ∈ one) && decide (c.1 ≤ t)
def unS (one other : List Cmd) (t : Int) : List Cmd := isort leC (dupK (unL one other t))
theorem un_mem {one other : List Cmd} {t : Int} {c : Cmd} : c ∈ unL one other t ↔ ((c ∈ one ∧ c ∉ other) ∨ (c ∈ other ∧ c ∉ one)) ∧ c.1 ≤ t := by
  unfold unL
  simp only [List.mem_append, List.mem_filter, Bool.and_eq_true, Bool.not_eq_true', decide_eq_false_iff_not, decide_eq_true_eq]
  exact ⟨fun h => h.elim (fun ⟨a, b, c⟩ => ⟨.inl ⟨a, b⟩, c⟩) fun ⟨a, b, c⟩ => ⟨.inr ⟨a, b⟩, c⟩, fun ⟨h, c⟩ => h.elim (fun ⟨a, b⟩ => .inl ⟨a, b, c⟩) fun ⟨a, b⟩ => .inr ⟨a, b, c⟩⟩
theorem uns_mem {one other : List Cmd} {t : Int} {c : Cmd} : c ∈ unS one other t ↔ c ∈ unL one other t := isort_mem.trans dupK_mem
theorem uns_nil {one other : List Cmd} {t : Int} : unS one other t = [] ↔ unL one other t = [] := by
  rw [List.eq_nil_iff_forall_not_mem, List.eq_nil_iff_forall_not_mem]
  exact forall_congr' fun c => not_congr uns_mem
theorem un_same {one other : List Cmd} {t : Int} (h : unL one other t = []) (c : Cmd) (hc : c.1 ≤ t) : c ∈ one ↔ c ∈ other := by
  have := List.eq_nil_iff_forall_not_mem.mp h c
  rw [un_mem] at this
  by_cases h1 : c ∈ one <;> by_cases h2 : c ∈ other <;> simp_all
/-- the first tick of what just one knows, -1 if there is none -/
def firT (one other : List Cmd) (t : Int) : Int := match unS one other t with | [] => -1 | c :: _ => c.1
def atT (one other : List Cmd) (t : Int) : Int := match unS one other t with | [] => 0 | c :: _ => t - c.1
theorem fir_cases (one other : List Cmd) (t : Int) : (unL one other t = [] ∧ firT one other t = -1 ∧ atT one other t = 0) ∨ ∃ c r, unS one other t = c :: r ∧ c ∈ unL one other t ∧ (∀ d ∈ unL one other t, c.1 ≤ d.1) ∧ firT one other t = c.1 ∧ atT one other t = t - c.1 := by
  unfold firT atT
  cases h : unS one other t with
  | nil => exact .inl ⟨uns_nil.mp h, rfl, rfl⟩
  | cons c r =>
    refine .inr ⟨c, r, rfl, uns_mem.mp (by rw [h]; exact List.mem_cons_self ..), fun d hd => ?_, rfl, rfl⟩
    have hs := isort_srd leCO (dupK (unL one other t))
    have h' : isort leC (dupK (unL one other t)) = c :: r := h
    rw [h'] at hs
    have hd' := uns_mem.mpr hd
    rw [h] at hd'
    rcases List.mem_cons.mp hd' with rfl | hd'
    · exact Int.le_refl _
    · exact leC_tick ((List.pairwise_cons.mp hs).1 d hd')
theorem fir_uniq {one other : List Cmd} {t : Int} {m : Int} (h1 : ∃ c ∈ unL one other t, c.1 = m) (h2 : ∀ c ∈ unL one other t, m ≤ c.1) : firT one other t = m := by
  rcases fir_cases one other t with ⟨e, _⟩ | ⟨c, r, _, hc, hm, e, _⟩
  · obtain ⟨c, hc, _⟩ := h1
    rw [e] at hc
    cases hc
  · obtain ⟨d, hd, rfl⟩ := h1
    have := hm d hd
    have := h2 c hc
    omega
theorem un_comm_mem {one other : List Cmd} {t : Int} {c : Cmd} : c ∈ unL one other t ↔ c ∈ unL other one t := by
  rw [un_mem, un_mem]
  constructor <;> rintro ⟨h | h, e⟩ <;> first | exact ⟨.inr h, e⟩ | exact ⟨.inl h, e⟩
theorem at_comm (one other : List Cmd) (t : Int) : atT one other t = atT other one t := by
  rcases fir_cases one other t with ⟨e, _, e2⟩ | ⟨c, r, _, hc, hm, e, e2⟩
  · have : unL other one t = [] := List.eq_nil_iff_forall_not_mem.mpr fun c hc => by
      have := un_comm_mem.mpr hc
      rw [e] at this
      cases this
    rcases fir_cases other one t with ⟨_, _, e3⟩ | ⟨c, r, _, hc, _⟩
    · rw [e2, e3]
    · rw [this] at hc; cases hc
  · have h := fir_uniq (one := other) (other := one) (t := t) ⟨c, un_comm_mem.mp hc, rfl⟩ fun d hd => hm d (un_comm_mem.mpr hd)
    rcases fir_cases other one t with ⟨e4, _⟩ | ⟨d, r', _, hd, _, e5, e6⟩
    · have := un_comm_mem.mp hc
      rw [e4] at this
      cases this
    · rw [e2, e6]
      omega
theorem at_self (one : List Cmd) (t : Int) : atT one one t = 0 := by
  rcases fir_cases one one t with ⟨_, _, e⟩ | ⟨c, r, _, hc, _⟩
  · exact e
  · have := (un_mem.mp hc).1
    rcases this with ⟨a, b⟩ | ⟨a, b⟩ <;> exact absurd a b
/-- up to the first unlike tick they stand alike -/
theorem fir_before {L : Int} (hL : 0 ≤ L) {one other : List Cmd} (h1 : ∀ c ∈ one, Vc L c) (h2 : ∀ c ∈ other, Vc L c) {t f : Int} (hf : f ≤ t + 1) (h : ∀ c ∈ unL one other t, f ≤ c.1) : runT L one (f - 1) = runT L other (f - 1) :=
  run_same hL h1 h2 fun c hc => by
    by_cases m1 : c ∈ one <;> by_cases m2 : c ∈ other
    · exact ⟨fun _ => m2, fun _ => m1⟩
    · have := h c (un_mem.mpr ⟨.inl ⟨m1, m2⟩, by omega⟩); omega
    · have := h c (un_mem.mpr ⟨.inr ⟨m2, m1⟩, by omega⟩); omega
    · exact ⟨fun z => absurd z m1, fun z => absurd z m2⟩
/-! ### no further apart, where neither is moved -/
theorem end_le {L : Int} {s : Int × Bool × Int} {u t : Int} (hs : s.1 ≤ L) (hu : s.2.2 ≤ u) (ht : u ≤ t) : (endC L u s).1 ≤ (endC L t s).1 ∧ (endC L t s).1 ≤ (endC L u s).1 + (t - u) := by
  unfold endC minL
  cases s.2.1 <;> simp only [if_true, Bool.false_eq_true, if_false]
  · omega
  · split <;> split <;> omega
theorem fold_apart {L t : Int} : ∀ (r : List Cmd) (s : Int × Bool × Int) (u : Int), s.1 ≤ L → s.2.2 ≤ u → u ≤ t → (r.Pairwise fun a b => a.1 ≤ b.1) → (∀ c ∈ r, u ≤ c.1 ∧ c.1 ≤ t ∧ c.2.2.1 ≠ kMove) →
    (endC L u s).1 ≤ (endC L t (r.foldl (stepC L) s)).1 ∧ (endC L t (r.foldl (stepC L) s)).1 ≤ (endC L u s).1 + (t - u)
  | [], s, u, h1, h2, h3, _, _ => end_le h1 h2 h3
  | c :: r, s, u, h1, h2, h3, hp, hc => by
    obtain ⟨c1, c2, c3⟩ := hc c (List.mem_cons_self ..)
    obtain ⟨p1, p2⟩ := List.pairwise_cons.mp hp
    have hst : stepC L s c = ((endC L c.1 s).1, decide (c.2.2.1 = kGo), c.1) := by
      unfold stepC endC
      rw [if_neg c3]
    have hle : (endC L c.1 s).1 ≤ L := by
      unfold endC minL
      cases s.2.1 <;> simp only [if_true, Bool.false_eq_true, if_false]
      · exact h1
      · split <;> omega
    have he := end_le h1 h2 c1
    have hself : (endC L c.1 (stepC L s c)).1 = (endC L c.1 s).1 := by
      rw [hst]
      generalize (endC L c.1 s).1 = p at *
      unfold endC minL
      show (if decide (c.2.2.1 = kGo) = true then if p + c.1 - c.1 < L then p + c.1 - c.1 else L else p) = p
      split
      · split <;> omega
      · rfl
    have ih := fold_apart (L := L) (t := t) r (stepC L s c) c.1 (by rw [hst]; exact hle) (by rw [hst]; exact Int.le_refl _) c2 p2 fun d hd => ⟨p1 d hd, (hc d (List.mem_cons_of_mem _ hd)).2⟩
    rw [hself] at ih
    rw [List.foldl_cons]
    omega
theorem run_last {L : Int} : ∀ (r : List Cmd) (s : Int × Bool × Int) (u : Int), s.2.2 ≤ u → (∀ c ∈ r, c.1 ≤ u) → (r.foldl (stepC L) s).2.2 ≤ u
  | [], _, _, h, _ => h
  | c :: r, s, u, h, hc => by
    refine run_last r (stepC L s c) u ?_ fun d hd => hc d (List.mem_cons_of_mem _ hd)
    have := hc c (List.mem_cons_self ..)
    unfold stepC
    split <;> exact this
theorem srd_drop {u : Int} : ∀ {l : List Cmd}, Srd leC l → ∀ c ∈ l.dropWhile (fun c => decide (c.1 ≤ u)), u < c.1
  | [], _, c, h => by cases h
  | x :: r, hs, c, h => by
    obtain ⟨h1, h2⟩ := List.pairwise_cons.mp hs
    rw [List.dropWhile_cons] at h
    by_cases hx : x.1 ≤ u
    · rw [if_pos (decide_eq_true hx)] at h
      exact srd_drop h2 c h
    · rw [if_neg (by simpa using hx)] at h
      rcases List.mem_cons.mp h with rfl | h
      · omega
      · have := leC_tick (h1 c h); omega
theorem stand_span {L : Int} (hL : 0 ≤ L) {cs : List Cmd} (hv : ∀ c ∈ cs, Vc L c ∧ c.2.2.1 ≠ kMove) {f t : Int} (h0 : 0 ≤ f) (hf : f ≤ t) : (endC L f (runT L cs (f - 1))).1 ≤ (standL L cs t).1 ∧ (standL L cs t).1 ≤ (endC L f (runT L cs (f - 1))).1 + (t - f) := by
  have hs := isort_srd leCO cs
  obtain ⟨l, hl⟩ : ∃ l, l = (isort leC cs).takeWhile fun c => decide (c.1 ≤ t) := ⟨_, rfl⟩
  have hls : Srd leC l := by rw [hl]; exact hs.sublist (List.takeWhile_sublist _)
  have hlm : ∀ c ∈ l, Vc L c ∧ c.2.2.1 ≠ kMove ∧ c.1 ≤ t := fun c hc => by
    rw [hl] at hc
    have m := hv c (isort_mem.mp ((List.takeWhile_sublist _).subset hc))
    have := List.all_eq_true.mp (List.all_takeWhile (l := isort leC cs) (p := fun c => decide (c.1 ≤ t))) c hc
    exact ⟨m.1, m.2, of_decide_eq_true this⟩
  have e1 : (isort leC cs).takeWhile (fun c => decide (c.1 ≤ f - 1)) = l.takeWhile fun c => decide (c.1 ≤ f - 1) := by
    rw [hl, tw_tw fun c h => decide_eq_true (by have := of_decide_eq_true h; omega)]
  have e2 : l = (l.takeWhile fun c => decide (c.1 ≤ f - 1)) ++ l.dropWhile fun c => decide (c.1 ≤ f - 1) := List.takeWhile_append_dropWhile.symm
  have e3 : standL L cs t = endC L t (((l.dropWhile fun c => decide (c.1 ≤ f - 1))).foldl (stepC L) (runT L cs (f - 1))) := by
    rw [stand_run]
    unfold runT
    rw [← hl, e1]
    conv => lhs; rw [e2]
    unfold runC
    rw [List.foldl_append]
  rw [e3]
  have htw : ∀ c ∈ l.takeWhile (fun c => decide (c.1 ≤ f - 1)), c ∈ l ∧ c.1 ≤ f - 1 := fun c hc => ⟨(List.takeWhile_sublist _).subset hc, of_decide_eq_true (List.all_eq_true.mp List.all_takeWhile c hc)⟩
  refine fold_apart _ _ f ?_ ?_ hf ?_ fun c hc => ?_
  · unfold runT runC
    rw [e1]
    exact fold_le _ _ (fun c hc => (hlm c (htw c hc).1).1) hL
  · unfold runT runC
    rw [e1]
    exact run_last _ _ _ h0 fun c hc => by have := (htw c hc).2; omega
  · exact (hls.sublist (List.dropWhile_sublist _)).imp fun h => leC_tick h
  · have m := hlm c ((List.dropWhile_sublist _).subset hc)
    have := srd_drop hls c hc
    exact ⟨by omega, m.2.2, m.2.1⟩
theorem at_bound {L : Int} (hL : 0 ≤ L) {one other : List Cmd} (h1 : ∀ c ∈ one, Vc L c ∧ c.2.2.1 ≠ kMove) (h2 : ∀ c ∈ other, Vc L c ∧ c.2.2.1 ≠ kMove) {t : Int} : absI ((standL L one t).1 - (standL L other t).1) ≤ atT one other t := by
  rcases fir_cases one other t with ⟨e, _, e2⟩ | ⟨c, r, _, hc, hm, _, e2⟩
  · rw [e2, stand_same hL (fun c hc => (h1 c hc).1) (fun c hc => (h2 c hc).1) fun c hc => un_same e c hc, Int.sub_self]
    decide
  · have hct := (un_mem.mp hc).2
    have h0 : 0 ≤ c.1 := by
      rcases (un_mem.mp hc).1 with ⟨a, _⟩ | ⟨a, _⟩
      · exact (h1 c a).1.t0
      · exact (h2 c a).1.t0
    have b1 := stand_span hL h1 h0 hct
    have b2 := stand_span hL h2 h0 hct
    rw [fir_before hL (fun c hc => (h1 c hc).1) (fun c hc => (h2 c hc).1) (by omega) hm] at b1
    rw [e2]
    unfold absI
    split <;> omega
/-! ### as data -/
def keyK (c : Cmd) : List Key := [.inl c.1, .inl c.2.1, .inr c.2.2.1, .inl c.2.2.2]
theorem keyK_tup (c : Cmd) : keyTup (keyK c) = cmdD c := rfl
theorem keyK_inj (a b : Cmd) (h : keyK a = keyK b) : a = b := by
  unfold keyK at h
  simp only [List.cons.injEq, Sum.inl.injEq, Sum.inr.injEq, and_true] at h
  exact Prod.ext h.1 (Prod.ext h.2.1 (Prod.ext h.2.2.1 h.2.2.2))
theorem keyLs_cmds : ∀ l : List Cmd, keyLs (l.map cmdD) = some (l.map keyK)
  | [] => rfl
  | c :: l => by
    rw [List.map_cons, List.map_cons]
    show (match tupKey (cmdD c), keyLs (l.map cmdD) with | some k, some ks => some (k :: ks) | _, _ => none) = _
    rw [keyLs_cmds l]
    rfl
theorem sortSet_cmds {A : Den} {env : En} {st : Sto} {l : List Cmd} (hA : A env st = .ok (.lst (l.map cmdD)) st) (hl : l.length < 64) : lSortSet A env st = .ok ((isort leC (dupK l)).map cmdD) st := by
  have h1 : Nat.blt (l.map keyK).length 64 = true := by rw [Nat.blt_eq, List.length_map]; exact hl
  have h2 : ((l.map keyK).map keyTup) = l.map cmdD := by rw [List.map_map]; rfl
  have h3 : (isort leK (dupK (l.map keyK))).map keyTup = (isort leC (dupK l)).map cmdD := by
    rw [dupK_map keyK_inj, isortMap (le := leC) (leb := leK) (f := keyK) (fun _ _ => rfl), List.map_map]
    rfl
  simp only [lSortSet_ap, hA, bind_ok, getL_lst, Option.bind_some, keyLs_cmds, optB_some, h1, h2, h3, sortOk_cmds, Bool.and_true, if_true]
end Wt

namespace Wt.Lk12
open PySem PySem.Spec PyProof.Rows L2 Wt
def B_is_whole : DenS :=
 (sRet (dAnd (dIsB .int (dVar 0)) (dNot (dIsB .bool (dVar 0)))))
def d_is_whole : DenF := pureF (run 1 B_is_whole)
def B_asked_length : DenS :=
 (sIf (bOr (bNot (dTest (dFn 1 d_is_whole (aCons (dVar 0) aNil)))) (bNot (dTest (dChain fLe fLe (dC (.int 1)) (dVar 0) (dC (.int 1000000000))))))
 (sRaise 11)
 sNil)
def d_asked_length : DenF := pureF (run 1 B_asked_length)
def L_is_command_1 : DenL :=
 (lLc (iTupD (dTup (aCons (dVar 2) (aCons (dVar 3) (aCons (dVar 5) aNil))))) [6] (gVar 6) bYes (dFn 1 d_is_whole (aCons (dVar 6) aNil)))
def X_is_command_1 : Den :=
 (dIf (dTest (dOp fEq (dVar 4) (dC (.str "move")))) (dChain fLe fLe (dC (.int 0)) (dVar 5) (dVar 0)) (dOp fEq (dVar 5) (dC (.int 0))))
def B_is_command : DenS :=
 (sSeq (sIf (bOr (bNot (dTest (dIsB .tup (dVar 1)))) (bOr (dTest (dOp fNe (dCall fLen (aCons (dVar 1) aNil)) (dC (.int 4)))) (bOr (bNot (dTest (dIsB .str (dOp fIx (dVar 1) (dC (.int 2)))))) (dTest (dOp fNotIn (dOp fIx (dVar 1) (dC (.int 2))) (dC (.tup ((["hold", "go", "move"] : List Str).map .str))))))))
 (sRet (dC (.bl false)))
 sNil)
 (sSeq (sAsg (gTupV [2, 3, 4, 5]) (dVar 1))
 (sSeq (sIf (bOr (bNot (dTest (dCall fAll (aCons (dDat L_is_command_1) aNil)))) (bOr (dTest (dOp fLt (dVar 2) (dC (.int 0)))) (bNot (dTest (dChain fLe fLt (dC (.int 0)) (dVar 3) (dC (.int 4)))))))
 (sRet (dC (.bl false)))
 sNil)
 (sRet X_is_command_1))))
def d_is_command : DenF := pureF (run 7 B_is_command)
def L_asked_commands_1 : DenL :=
 (lLc (iLst (dVar 1)) [3] (gVar 3) bYes (dFn 2 d_is_command (aCons (dVar 0) (aCons (dVar 3) aNil))))
def F_asked_commands_1 : DenS :=
 (sSeq (sIf (dTest (dOp fNe (dGetT2 (dVar 2) (dSl (dVar 3) oNone (oSome (dC (.int 2)))) (dVar 3)) (dVar 3)))
 (sRaise 12)
 sNil)
 (sPutT (dVar 2) (dSl (dVar 3) oNone (oSome (dC (.int 2)))) (dVar 3)))
def B_asked_commands : DenS :=
 (sSeq (sIf (bOr (bNot (dTest (dIsB .lst (dVar 1)))) (dTest (dOp fGt (dCall fLen (aCons (dVar 1) aNil)) (dC (.int 300)))))
 (sRaise 12)
 sNil)
 (sSeq (sIf (bNot (dTest (dCall fAll (aCons (dDat L_asked_commands_1) aNil))))
 (sRaise 12)
 sNil)
 (sSeq (sAsg (gVar 2) dNewT)
 (sFor (iLst (dVar 1)) (gVar 3)
 F_asked_commands_1))))
def d_asked_commands : DenF := pureF (run 4 B_asked_commands)
def B_asked_tick : DenS :=
 (sIf (bOr (bNot (dTest (dFn 1 d_is_whole (aCons (dVar 0) aNil)))) (dTest (dOp fLt (dVar 0) (dC (.int 0)))))
 (sRaise 13)
 sNil)
def d_asked_tick : DenF := pureF (run 1 B_asked_tick)
def L_stand_of_1 : DenL :=
 (lLc (iLst (dVar 1)) [10] (gVar 10) (dTest (dOp fLe (dOp fIx (dVar 10) (dC (.int 0))) (dVar 2))) (dVar 10))
def F_stand_of_1 : DenS :=
 (sSeq (sIf (dTest (dVar 4))
 (sAsg (gVar 3) (dCall fMin2 (aCons (dVar 0) (aCons (dOp fSub (dOp fAdd (dVar 3) (dVar 6)) (dVar 5)) aNil))))
 sNil)
 (sSeq (sAsg (gVar 5) (dVar 6))
 (sIf (dTest (dOp fEq (dVar 8) (dC (.str "move"))))
 (sAsg (gVar 3) (dVar 9))
 (sAsg (gVar 4) (dOp fEq (dVar 8) (dC (.str "go")))))))
def B_stand_of : DenS :=
 (sSeq (sAsg (gTupV [3, 4, 5]) (dTup (aCons (dC (.int 0)) (aCons (dC (.bl false)) (aCons (dC (.int 0)) aNil)))))
 (sSeq (sFor (iLst (dDat (lCall gSorted (aCons (dDat L_stand_of_1) aNil)))) (gTupV [6, 7, 8, 9])
 F_stand_of_1)
 (sSeq (sIf (dTest (dVar 4))
 (sAsg (gVar 3) (dCall fMin2 (aCons (dVar 0) (aCons (dOp fSub (dOp fAdd (dVar 3) (dVar 2)) (dVar 5)) aNil))))
 sNil)
 (sRet (dTup (aCons (dVar 3) (aCons (dVar 4) aNil)))))))
def d_stand_of : DenF := pureF (run 11 B_stand_of)
def B_stand : DenS :=
 (sSeq (sExpr (dFn 1 d_asked_length (aCons (dVar 0) aNil)))
 (sSeq (sExpr (dFn 2 d_asked_commands (aCons (dVar 0) (aCons (dVar 1) aNil))))
 (sSeq (sExpr (dFn 1 d_asked_tick (aCons (dVar 2) aNil)))
 (sRet (dFn 3 d_stand_of (aCons (dVar 0) (aCons (dVar 1) (aCons (dVar 2) aNil))))))))
def d_stand : DenF := pureF (run 3 B_stand)
def L_unlike_1 : DenL :=
 (lLc (iLst (dVar 0)) [4] (gVar 4) (bAnd (dTest (dOp fNotIn (dVar 4) (dVar 1))) (dTest (dOp fLe (dOp fIx (dVar 4) (dC (.int 0))) (dVar 2)))) (dVar 4))
def L_unlike_2 : DenL :=
 (lLc (iLst (dVar 1)) [5] (gVar 5) (bAnd (dTest (dOp fNotIn (dVar 5) (dVar 0))) (dTest (dOp fLe (dOp fIx (dVar 5) (dC (.int 0))) (dVar 2)))) (dVar 5))
def B_unlike : DenS :=
 (sSeq (sAsg (gVar 3) (dDat L_unlike_1))
 (sRet (dDat (lSortSet (dOp fAdd (dVar 3) (dDat L_unlike_2))))))
def d_unlike : DenF := pureF (run 6 B_unlike)
def B_asked_two : DenS :=
 (sSeq (sExpr (dFn 1 d_asked_length (aCons (dVar 0) aNil)))
 (sSeq (sExpr (dFn 2 d_asked_commands (aCons (dVar 0) (aCons (dVar 1) aNil))))
 (sSeq (sExpr (dFn 2 d_asked_commands (aCons (dVar 0) (aCons (dVar 2) aNil))))
 (sExpr (dFn 1 d_asked_tick (aCons (dVar 3) aNil))))))
def d_asked_two : DenF := pureF (run 4 B_asked_two)
def X_at_most_1 : Den :=
 (dIf (dTest (dOp fNe (dVar 4) (dDat (lLst aNil)))) (dOp fSub (dVar 3) (dOp fIx (dOp fIx (dVar 4) (dC (.int 0))) (dC (.int 0)))) (dC (.int 0)))
def B_at_most : DenS :=
 (sSeq (sExpr (dFn 4 d_asked_two (aCons (dVar 0) (aCons (dVar 1) (aCons (dVar 2) (aCons (dVar 3) aNil))))))
 (sSeq (sAsg (gVar 4) (dFn 3 d_unlike (aCons (dVar 1) (aCons (dVar 2) (aCons (dVar 3) aNil)))))
 (sRet X_at_most_1)))
def d_at_most : DenF := pureF (run 5 B_at_most)
def B_Together_shows : DenS :=
 (sRet (dOp fEq (dOp fIx (dFn 3 d_stand_of (aCons (dVar 1) (aCons (dVar 2) (aCons (dVar 4) aNil)))) (dC (.int 0))) (dOp fIx (dFn 3 d_stand_of (aCons (dVar 1) (aCons (dVar 3) (aCons (dVar 4) aNil)))) (dC (.int 0)))))
def d_Together_shows : DenF := pureF (run 5 B_Together_shows)
def B_Apart_init : DenS :=
 (sFldD "command" (dVar 0) (dVar 1))
def d_Apart_init : DenF := run 2 B_Apart_init
def B_Apart_shows : DenS :=
 (sSeq (sIf (dTest (dOp fEq (dOp fIx (dFn 3 d_stand_of (aCons (dVar 1) (aCons (dVar 2) (aCons (dVar 4) aNil)))) (dC (.int 0))) (dOp fIx (dFn 3 d_stand_of (aCons (dVar 1) (aCons (dVar 3) (aCons (dVar 4) aNil)))) (dC (.int 0)))))
 (sRet (dC (.bl false)))
 sNil)
 (sRet (dAnd (dOp fNe (dOp fIn (dFld "command" (dVar 0)) (dVar 2)) (dOp fIn (dFld "command" (dVar 0)) (dVar 3))) (dOp fLe (dOp fIx (dFld "command" (dVar 0)) (dC (.int 0))) (dVar 4)))))
def d_Apart_shows : DenF := pureF (run 5 B_Apart_shows)
def B_Meet_init : DenS :=
 (sSeq (sFldD "place" (dVar 0) (dVar 1))
 (sFldD "pairs" (dVar 0) (dDat (lCall gList (aCons (dVar 2) aNil)))))
def d_Meet_init : DenF := run 3 B_Meet_init
def F_Meet_shows_1 : DenS :=
 (sExpr (dLm mExtend (dVar 2) (aCons (dDat (lLst (aCons (dVar 3) (aCons (dVar 4) aNil)))) aNil)))
def L_Meet_shows_1 : DenL :=
 (lLc (iLst (dVar 2)) [3] (gVar 3) bYes (dChain fLe fLt (dC (.int 0)) (dVar 3) (dCall fLen (aCons (dVar 1) aNil))))
def L_Meet_shows_2 : DenL :=
 (lLc (iLst (dFld "pairs" (dVar 0))) [3, 4] (gTupV [3, 4]) bYes (dCall fAbs (aCons (dOp fSub (dOp fIx (dVar 1) (dVar 3)) (dOp fIx (dVar 1) (dVar 4))) aNil)))
def L_Meet_shows_3 : DenL :=
 (lLc (iLst (dVar 1)) [3] (gVar 3) bYes (dCall fAbs (aCons (dOp fSub (dVar 3) (dFld "place" (dVar 0))) aNil)))
def B_Meet_shows : DenS :=
 (sSeq (sAsg (gVar 2) (dCel (lLst aNil)))
 (sSeq (sFor (iLst (dFld "pairs" (dVar 0))) (gTupV [3, 4])
 F_Meet_shows_1)
 (sSeq (sIf (bOr (dTest (dOp fNe (dLenSet (dVar 2)) (dCall fLen (aCons (dVar 2) aNil)))) (bNot (dTest (dCall fAll (aCons (dDat L_Meet_shows_1) aNil)))))
 (sRet (dC (.bl false)))
 sNil)
 (sSeq (sAsg (gVar 5) (dCall fSum (aCons (dDat L_Meet_shows_2) aNil)))
 (sRet (dOp fEq (dCall fSum (aCons (dDat L_Meet_shows_3) aNil)) (dVar 5)))))))
def d_Meet_shows : DenF := pureF (run 6 B_Meet_shows)
def B_judged : DenS :=
 (sSeq (sExpr (dFn 4 d_asked_two (aCons (dVar 0) (aCons (dVar 1) (aCons (dVar 2) (aCons (dVar 3) aNil))))))
 (sSeq (sIf (dTest (dOp fEq (dOp fIx (dFn 3 d_stand_of (aCons (dVar 0) (aCons (dVar 1) (aCons (dVar 3) aNil)))) (dC (.int 0))) (dOp fIx (dFn 3 d_stand_of (aCons (dVar 0) (aCons (dVar 2) (aCons (dVar 3) aNil)))) (dC (.int 0)))))
 (sRet (dMk0 0))
 sNil)
 (sRet (dPure (dMk 1 2 d_Apart_init (aCons (dOp fIx (dFn 3 d_unlike (aCons (dVar 1) (aCons (dVar 2) (aCons (dVar 3) aNil)))) (dC (.int 0))) aNil))))))
def d_judged : DenF := pureF (run 4 B_judged)
def L_asked_places_1 : DenL :=
 (lLc (iLst (dVar 0)) [1] (gVar 1) bYes (dAnd (dFn 1 d_is_whole (aCons (dVar 1) aNil)) (dChain fLe fLe (dC (.int 0)) (dVar 1) (dC (.int 1000000000)))))
def B_asked_places : DenS :=
 (sSeq (sIf (bOr (bNot (dTest (dIsB .lst (dVar 0)))) (bNot (dTest (dChain fLe fLe (dC (.int 1)) (dCall fLen (aCons (dVar 0) aNil)) (dC (.int 40))))))
 (sRaise 14)
 sNil)
 (sIf (bNot (dTest (dCall fAll (aCons (dDat L_asked_places_1) aNil))))
 (sRaise 14)
 sNil))
def d_asked_places : DenF := pureF (run 2 B_asked_places)
def L_meet_1 : DenL :=
 (lLc (iEnumD (aCons (dVar 0) aNil)) [4, 5] (gTupV [4, 5]) bYes (dTup (aCons (dVar 5) (aCons (dVar 4) aNil))))
def L_meet_2 : DenL :=
 (lLc (iRng1D (aCons (dOp fDiv (dVar 2) (dC (.int 2))) aNil)) [4] (gVar 4) bYes (dTup (aCons (dOp fIx (dOp fIx (dVar 1) (dVar 4)) (dC (.int 1))) (aCons (dOp fIx (dOp fIx (dVar 1) (dOp fSub (dOp fSub (dVar 2) (dC (.int 1))) (dVar 4))) (dC (.int 1))) aNil))))
def B_meet : DenS :=
 (sSeq (sExpr (dFn 1 d_asked_places (aCons (dVar 0) aNil)))
 (sSeq (sAsg (gVar 1) (dDat (lCall gSorted (aCons (dDat L_meet_1) aNil))))
 (sSeq (sAsg (gVar 2) (dCall fLen (aCons (dVar 1) aNil)))
 (sSeq (sAsg (gVar 3) (dDat L_meet_2))
 (sRet (dPure (dMk 2 3 d_Meet_init (aCons (dOp fIx (dOp fIx (dVar 1) (dOp fDiv (dVar 2) (dC (.int 2)))) (dC (.int 0))) (aCons (dVar 3) aNil)))))))))
def d_meet : DenF := pureF (run 6 B_meet)
def L_least_jumps_1 : DenL :=
 (lLc (iLst (dVar 1)) [2] (gVar 2) bYes (dCall fAbs (aCons (dOp fSub (dVar 2) (dOp fIx (dVar 1) (dOp fDiv (dCall fLen (aCons (dVar 1) aNil)) (dC (.int 2))))) aNil)))
def B_least_jumps : DenS :=
 (sSeq (sExpr (dFn 1 d_asked_places (aCons (dVar 0) aNil)))
 (sSeq (sAsg (gVar 1) (dDat (lCall gSorted (aCons (dVar 0) aNil))))
 (sRet (dCall fSum (aCons (dDat L_least_jumps_1) aNil)))))
def d_least_jumps : DenF := pureF (run 3 B_least_jumps)
def L_Room_init_1 : DenL :=
 (lLc (iRng1D (aCons (dVar 2) aNil)) [3] (gVar 3) bYes (dCel (lLst aNil)))
def B_Room_init : DenS :=
 (sSeq (sExpr (dFn 1 d_asked_length (aCons (dVar 1) aNil)))
 (sSeq (sIf (bOr (bNot (dTest (dFn 1 d_is_whole (aCons (dVar 2) aNil)))) (bNot (dTest (dChain fLe fLe (dC (.int 1)) (dVar 2) (dC (.int 4))))))
 (sRaise 15)
 sNil)
 (sSeq (sFldD "length" (dVar 0) (dVar 1))
 (sSeq (sFldD "known" (dVar 0) (dDat L_Room_init_1))
 (sSeq (sFldD "letters" (dVar 0) (dCel (lLst aNil)))
 (sSeq (sFldD "now" (dVar 0) (dC (.int 0)))
 (sFldD "lines" (dVar 0) (dCel (lLst aNil)))))))))
def d_Room_init : DenF := run 4 B_Room_init
def B_Room_asked_watcher : DenS :=
 (sIf (bOr (bNot (dTest (dFn 1 d_is_whole (aCons (dVar 1) aNil)))) (bNot (dTest (dChain fLe fLt (dC (.int 0)) (dVar 1) (dCall fLen (aCons (dFld "known" (dVar 0)) aNil))))))
 (sRaise 15)
 sNil)
def d_Room_asked_watcher : DenF := pureF (run 2 B_Room_asked_watcher)
def ms_asked_watcher : Mths
  | 5 => some (2, d_Room_asked_watcher)
  | _ => none
def X_Room_order_1 : Den :=
 (dIf (dTest (dOp fEq (dVar 2) (dC (.str "move")))) (dFld "length" (dVar 0)) (dC (.int 0)))
def L_Room_order_1 : DenL :=
 (lLc (iLst (dFld "letters" (dVar 0))) [4] (gVar 4) bYes (dSl (dVar 4) oNone (oSome (dC (.int 2)))))
def B_Room_order : DenS :=
 (sSeq (sExpr (dMeth ms_asked_watcher (dVar 0) (aCons (dVar 1) aNil)))
 (sSeq (sIf (bOr (bNot (dTest (dIsB .str (dVar 2)))) (dTest (dOp fNotIn (dVar 2) (dC (.tup ((["hold", "go", "move"] : List Str).map .str))))))
 (sRaise 16)
 sNil)
 (sSeq (sIf (bOr (bNot (dTest (dFn 1 d_is_whole (aCons (dVar 3) aNil)))) (bNot (dTest (dChain fLe fLe (dC (.int 0)) (dVar 3) X_Room_order_1))))
 (sRaise 17)
 sNil)
 (sSeq (sIf (bOr (dTest (dOp fIn (dTup (aCons (dFld "now" (dVar 0)) (aCons (dVar 1) aNil))) (dDat L_Room_order_1))) (dTest (dOp fGe (dCall fLen (aCons (dFld "letters" (dVar 0)) aNil)) (dC (.int 300)))))
 (sRaise 20)
 sNil)
 (sSeq (sExpr (dLm mAppend (dFld "letters" (dVar 0)) (aCons (dTup (aCons (dFld "now" (dVar 0)) (aCons (dVar 1) (aCons (dVar 2) (aCons (dVar 3) aNil))))) aNil)))
 (sSeq (sExpr (dLm mAppend (dOp fIx (dFld "known" (dVar 0)) (dVar 1)) (aCons (dOp fIx (dFld "letters" (dVar 0)) (dUn fNeg (dC (.int 1)))) aNil)))
 (sSeq (sExpr (dLm mAppend (dFld "lines" (dVar 0)) (aCons (dTup (aCons (dC (.str "order")) (aCons (dVar 1) (aCons (dVar 2) (aCons (dVar 3) aNil))))) aNil)))
 (sRet (dOp fSub (dCall fLen (aCons (dFld "letters" (dVar 0)) aNil)) (dC (.int 1)))))))))))
def d_Room_order : DenF := run 5 B_Room_order
def B_Room_bring : DenS :=
 (sSeq (sIf (bOr (bNot (dTest (dFn 1 d_is_whole (aCons (dVar 1) aNil)))) (bNot (dTest (dChain fLe fLt (dC (.int 0)) (dVar 1) (dCall fLen (aCons (dFld "letters" (dVar 0)) aNil))))))
 (sRaise 18)
 sNil)
 (sSeq (sExpr (dMeth ms_asked_watcher (dVar 0) (aCons (dVar 2) aNil)))
 (sSeq (sAsg (gVar 3) (dOp fNotIn (dOp fIx (dFld "letters" (dVar 0)) (dVar 1)) (dOp fIx (dFld "known" (dVar 0)) (dVar 2))))
 (sSeq (sIf (dTest (dVar 3))
 (sExpr (dLm mAppend (dOp fIx (dFld "known" (dVar 0)) (dVar 2)) (aCons (dOp fIx (dFld "letters" (dVar 0)) (dVar 1)) aNil)))
 sNil)
 (sSeq (sExpr (dLm mAppend (dFld "lines" (dVar 0)) (aCons (dTup (aCons (dC (.str "bring")) (aCons (dVar 1) (aCons (dVar 2) aNil)))) aNil)))
 (sRet (dVar 3)))))))
def d_Room_bring : DenF := run 4 B_Room_bring
def B_Room_tick : DenS :=
 (sSeq (sIf (bOr (bNot (dTest (dFn 1 d_is_whole (aCons (dVar 1) aNil)))) (dTest (dOp fLt (dVar 1) (dC (.int 1)))))
 (sRaise 13)
 sNil)
 (sSeq (sFldD "now" (dVar 0) (dOp fAdd (dFld "now" (dVar 0)) (dVar 1)))
 (sSeq (sExpr (dLm mAppend (dFld "lines" (dVar 0)) (aCons (dTup (aCons (dC (.str "tick")) (aCons (dVar 1) aNil))) aNil)))
 (sRet (dFld "now" (dVar 0))))))
def d_Room_tick : DenF := run 2 B_Room_tick
def B_Room_stands : DenS :=
 (sSeq (sExpr (dMeth ms_asked_watcher (dVar 0) (aCons (dVar 1) aNil)))
 (sRet (dFn 3 d_stand_of (aCons (dFld "length" (dVar 0)) (aCons (dOp fIx (dFld "known" (dVar 0)) (dVar 1)) (aCons (dFld "now" (dVar 0)) aNil))))))
def d_Room_stands : DenF := pureF (run 2 B_Room_stands)
def B_Room_knows : DenS :=
 (sSeq (sExpr (dMeth ms_asked_watcher (dVar 0) (aCons (dVar 1) aNil)))
 (sRet (dDat (lCall gSorted (aCons (dOp fIx (dFld "known" (dVar 0)) (dVar 1)) aNil)))))
def d_Room_knows : DenF := pureF (run 2 B_Room_knows)
def L_Room_at_rest_1 : DenL :=
 (lLc (iLst (dFld "known" (dVar 0))) [1] (gVar 1) bYes (dOp fEq (dCall fLen (aCons (dVar 1) aNil)) (dCall fLen (aCons (dFld "letters" (dVar 0)) aNil))))
def B_Room_at_rest : DenS :=
 (sRet (dCall fAll (aCons (dDat L_Room_at_rest_1) aNil)))
def d_Room_at_rest : DenF := pureF (run 2 B_Room_at_rest)
def B_Room_tale : DenS :=
 (sRet (dDat (lCall gList (aCons (dFld "lines" (dVar 0)) aNil))))
def d_Room_tale : DenF := pureF (run 1 B_Room_tale)
def L_is_line_1 : DenL :=
 (lLc (iTupD (dSl (dVar 0) (oSome (dC (.int 1))) oNone)) [2] (gVar 2) bYes (dFn 1 d_is_whole (aCons (dVar 2) aNil)))
def B_is_line : DenS :=
 (sSeq (sIf (bOr (bNot (dTest (dIsB .tup (dVar 0)))) (bOr (dTest (dOp fEq (dVar 0) (dTup aNil))) (bNot (dTest (dIsB .str (dOp fIx (dVar 0) (dC (.int 0))))))))
 (sRet (dC (.bl false)))
 sNil)
 (sSeq (sIf (dTest (dOp fEq (dOp fIx (dVar 0) (dC (.int 0))) (dC (.str "order"))))
 (sRet (dAnd (dOp fEq (dCall fLen (aCons (dVar 0) aNil)) (dC (.int 4))) (dAnd (dFn 1 d_is_whole (aCons (dOp fIx (dVar 0) (dC (.int 1))) aNil)) (dAnd (dIsB .str (dOp fIx (dVar 0) (dC (.int 2)))) (dFn 1 d_is_whole (aCons (dOp fIx (dVar 0) (dC (.int 3))) aNil))))))
 sNil)
 (sSeq (sAsg (gVar 1) (dDisp ["bring", "tick", "seen"] (aCons (dC (.int 3)) (aCons (dC (.int 2)) (aCons (dC (.int 3)) aNil)))))
 (sRet (dAnd (dOp fEq (dGetS2 (dVar 1) (dOp fIx (dVar 0) (dC (.int 0))) (dC (.int 0))) (dCall fLen (aCons (dVar 0) aNil))) (dCall fAll (aCons (dDat L_is_line_1) aNil)))))))
def d_is_line : DenF := pureF (run 3 B_is_line)
def ms_order : Mths
  | 5 => some (4, d_Room_order)
  | _ => none
def ms_bring : Mths
  | 5 => some (3, d_Room_bring)
  | _ => none
def ms_tick : Mths
  | 5 => some (2, d_Room_tick)
  | _ => none
def ms_stands : Mths
  | 5 => some (2, d_Room_stands)
  | _ => none
def B_can_come : DenS :=
 (sTry [11, 12, 13, 14, 15, 16, 17, 18, 19, 20] 10
 (sSeq (sIf (dTest (dOp fEq (dOp fIx (dVar 1) (dC (.int 0))) (dC (.str "order"))))
 (sRet (dOp fGe (dMeth ms_order (dVar 0) (aCons (dOp fIx (dVar 1) (dC (.int 1))) (aCons (dOp fIx (dVar 1) (dC (.int 2))) (aCons (dOp fIx (dVar 1) (dC (.int 3))) aNil)))) (dC (.int 0))))
 sNil)
 (sSeq (sIf (dTest (dOp fEq (dOp fIx (dVar 1) (dC (.int 0))) (dC (.str "bring"))))
 (sRet (dOp fIn (dMeth ms_bring (dVar 0) (aCons (dOp fIx (dVar 1) (dC (.int 1))) (aCons (dOp fIx (dVar 1) (dC (.int 2))) aNil))) (dTup (aCons (dC (.bl true)) (aCons (dC (.bl false)) aNil)))))
 sNil)
 (sSeq (sIf (dTest (dOp fEq (dOp fIx (dVar 1) (dC (.int 0))) (dC (.str "tick"))))
 (sRet (dOp fGt (dMeth ms_tick (dVar 0) (aCons (dOp fIx (dVar 1) (dC (.int 1))) aNil)) (dC (.int 0))))
 sNil)
 (sRet (dOp fEq (dOp fIx (dMeth ms_stands (dVar 0) (aCons (dOp fIx (dVar 1) (dC (.int 1))) aNil)) (dC (.int 0))) (dOp fIx (dVar 1) (dC (.int 2))))))))
 fun _ => (sRet (dC (.bl false))))
def d_can_come : DenF := run 2 B_can_come
def F_first_wrong_1 : DenS :=
 (sIf (bNot (dTest (dFn 2 d_can_come (aCons (dVar 3) (aCons (dVar 5) aNil)))))
 (sRet (dVar 4))
 sNil)
def B_first_wrong : DenS :=
 (sSeq (sAsg (gVar 3) (dMk 5 3 d_Room_init (aCons (dVar 0) (aCons (dVar 1) aNil))))
 (sSeq (sFor (iEnumD (aCons (dVar 2) aNil)) (gTupV [4, 5])
 F_first_wrong_1)
 (sRet (dC .non))))
def d_first_wrong : DenF := pureF (run 6 B_first_wrong)
def B_Right_shows : DenS :=
 (sRet (dOp fIsN (dFn 3 d_first_wrong (aCons (dVar 1) (aCons (dVar 2) (aCons (dVar 3) aNil)))) (dC .non)))
def d_Right_shows : DenF := pureF (run 4 B_Right_shows)
def B_Wrong_init : DenS :=
 (sFldD "line" (dVar 0) (dVar 1))
def d_Wrong_init : DenF := run 2 B_Wrong_init
def B_Wrong_shows : DenS :=
 (sSeq (sAsg (gVar 4) (dFn 3 d_first_wrong (aCons (dVar 1) (aCons (dVar 2) (aCons (dVar 3) aNil)))))
 (sRet (dAnd (dOp fNotN (dVar 4) (dC .non)) (dOp fEq (dFld "line" (dVar 0)) (dVar 4)))))
def d_Wrong_shows : DenF := pureF (run 5 B_Wrong_shows)
def L_tale_judged_1 : DenL :=
 (lLc (iLst (dVar 2)) [4] (gVar 4) bYes (dFn 1 d_is_line (aCons (dVar 4) aNil)))
def X_tale_judged_1 : Den :=
 (dIf (dTest (dOp fIsN (dVar 3) (dC .non))) (dMk0 3) (dPure (dMk 4 2 d_Wrong_init (aCons (dVar 3) aNil))))
def B_tale_judged : DenS :=
 (sSeq (sExpr (dMk 5 3 d_Room_init (aCons (dVar 0) (aCons (dVar 1) aNil))))
 (sSeq (sIf (bOr (bNot (dTest (dIsB .lst (dVar 2)))) (bOr (dTest (dOp fGt (dCall fLen (aCons (dVar 2) aNil)) (dC (.int 60)))) (bNot (dTest (dCall fAll (aCons (dDat L_tale_judged_1) aNil))))))
 (sRaise 19)
 sNil)
 (sSeq (sAsg (gVar 3) (dFn 3 d_first_wrong (aCons (dVar 0) (aCons (dVar 1) (aCons (dVar 2) aNil)))))
 (sRet X_tale_judged_1))))
def d_tale_judged : DenF := pureF (run 5 B_tale_judged)
def B_lam0 : Den :=
 (dFn 3 d_stand (aCons (dC (.int 9)) (aCons (dVar 0) (aCons (dC .non) aNil))))
def d_lam0 (cd : List D) : DenF := fun ds st => B_lam0 ((ds ++ cd).map some ++ List.replicate (1 - (ds ++ cd).length) none) st
def B_lam1 : Den :=
 (dFn 4 d_at_most (aCons (dC (.int 9)) (aCons (dDat (lLst aNil)) (aCons (dVar 0) (aCons (dC .non) aNil)))))
def d_lam1 (cd : List D) : DenF := fun ds st => B_lam1 ((ds ++ cd).map some ++ List.replicate (1 - (ds ++ cd).length) none) st
def B_lam2 : Den :=
 (dMeth ms_order (dMk 5 3 d_Room_init (aCons (dC (.int 9)) (aCons (dC (.int 1)) aNil))) (aCons (dC (.int 0)) (aCons (dVar 0) (aCons (dC .non) aNil))))
def d_lam2 (cd : List D) : DenF := fun ds st => B_lam2 ((ds ++ cd).map some ++ List.replicate (1 - (ds ++ cd).length) none) st
def B_lam3 : Den :=
 (dFn 3 d_tale_judged (aCons (dC (.int 9)) (aCons (dC (.int 1)) (aCons (dVar 0) aNil))))
def d_lam3 (cd : List D) : DenF := fun ds st => B_lam3 ((ds ++ cd).map some ++ List.replicate (1 - (ds ++ cd).length) none) st
def ld : Nat → Option DenF
  | 0 => some (d_lam0 [])
  | 1 => some (d_lam1 [])
  | 2 => some (d_lam2 [])
  | 3 => some (d_lam3 [])
  | _ => none
def L_law_refused_1 : DenL :=
 (lLc (iRng1D (aCons (dC (.int 10)) aNil)) [5] (gVar 5) bYes (dOp fEq (dVar 5) (dVar 2)))
def H_law_refused_1 (c : Nat) : DenS :=
 (sSeq (sAsg (gVar 4) (dCel (lLst (aCons (dErrIs (subE c 11) (dVar 3)) (aCons (dErrIs (subE c 12) (dVar 3)) (aCons (dErrIs (subE c 13) (dVar 3)) aNil))))))
 (sSeq (sAsg (gVar 4) (dCel (lCat (dVar 4) (dDat (lLst (aCons (dErrIs (subE c 14) (dVar 3)) (aCons (dErrIs (subE c 15) (dVar 3)) (aCons (dErrIs (subE c 16) (dVar 3)) aNil))))))))
 (sSeq (sAsg (gVar 4) (dCel (lCat (dVar 4) (dDat (lLst (aCons (dErrIs (subE c 17) (dVar 3)) (aCons (dErrIs (subE c 18) (dVar 3)) (aCons (dErrIs (subE c 19) (dVar 3)) aNil))))))))
 (sSeq (sExpr (dLm mAppend (dVar 4) (aCons (dErrIs (subE c 20) (dVar 3)) aNil)))
 (sRet (dAnd (dOp fEq (dVar 4) (dDat L_law_refused_1)) (dErrIs true (dVar 3))))))))
def B_law_refused : DenS :=
 (sSeq (sTryAs [11, 12, 13, 14, 15, 16, 17, 18, 19, 20] 10 3
 (sExpr (dLamC ld 0 (aCons (dVar 1) aNil)))
 H_law_refused_1)
 (sRet (dC (.bl false))))
def d_law_refused : DenF := pureF (run 6 B_law_refused)
def B_law_number : DenS :=
 (sSeq (sIf (dTest (dOp fGe (dVar 0) (dOp fPow (dC (.int 10)) (dC (.int 18)))))
 (sRet (dOp fDiv (dVar 0) (dOp fAdd (dC (.int 1)) (dOp fMod (dVar 1) (dC (.int 7))))))
 sNil)
 (sSeq (sAsg (gVar 3) (dOp fMod (dOp fAdd (dOp fMul (dOp fAdd (dVar 0) (dOp fMul (dC (.int 977)) (dVar 1))) (dC (.int 48271))) (dVar 2)) (dC (.int 2147483647))))
 (sSeq (sAsg (gVar 4) (dOp fMul (dVar 3) (dOp fAdd (dOp fAdd (dVar 0) (dOp fMul (dC (.int 31)) (dVar 1))) (dC (.int 7)))))
 (sRet (dOp fDiv (dOp fMul (dOp fMul (dVar 4) (dOp fAdd (dOp fAdd (dVar 3) (dVar 0)) (dC (.int 5)))) (dOp fAdd (dOp fMul (dVar 3) (dVar 3)) (dC (.int 11)))) (dOp fAdd (dC (.int 1009)) (dVar 1)))))))
def d_law_number : DenF := pureF (run 5 B_law_number)
def X_law_commands_1 : Den :=
 (dIf (dTest (dOp fNe (dVar 0) (dDat (lLst aNil)))) (dSl (dVar 0) oNone (oSome (dC (.int 63)))) (dDat (lLst (aCons (dC (.int 5)) aNil))))
def X_law_commands_2 : Den :=
 (dIf (dTest (dOp fEq (dVar 12) (dC (.str "move")))) (dOp fMod (dVar 14) (dOp fAdd (dVar 3) (dC (.int 1)))) (dC (.int 0)))
def F_law_commands_1 : DenS :=
 (sSeq (sAsg (gVar 10) (dOp fAdd (dOp fIx (dVar 5) (dOp fMod (dOp fAdd (dVar 9) (dVar 1)) (dCall fLen (aCons (dVar 5) aNil)))) (dOp fDiv (dVar 9) (dCall fLen (aCons (dVar 5) aNil)))))
 (sSeq (sAsg (gVar 11) (dOp fDiv (dCall fAbs (aCons (dFn 3 d_law_number (aCons (dVar 10) (aCons (dOp fAdd (dVar 9) (dVar 1)) (aCons (dVar 6) aNil)))) aNil)) (dC (.int 3))))
 (sSeq (sAsg (gVar 12) (dOp fIx (dTup (aCons (dC (.str "go")) (aCons (dC (.str "hold")) (aCons (dC (.str "go")) (aCons (dC (.str "move")) aNil))))) (dOp fMod (dVar 11) (dC (.int 4)))))
 (sSeq (sIf (bAnd (dTest (dOp fEq (dVar 12) (dC (.str "move")))) (bNot (dTest (dVar 4))))
 (sAsg (gVar 12) (dC (.str "hold")))
 sNil)
 (sSeq (sPar [13, 14] (aCons (dOp fMod (dOp fDiv (dVar 11) (dC (.int 4))) (dC (.int 4))) (aCons (dOp fDiv (dOp fDiv (dVar 11) (dC (.int 16))) (dVar 8)) aNil)))
 (sSeq (sAsg (gVar 15) X_law_commands_2)
 (sPutT (dVar 7) (dTup (aCons (dOp fMod (dOp fDiv (dVar 11) (dC (.int 16))) (dVar 8)) (aCons (dVar 13) aNil))) (dTup (aCons (dVar 12) (aCons (dVar 15) aNil))))))))))
def L_law_commands_1 : DenL :=
 (lLcT 7 [16] (gVar 16) bYes (dOp fAdd (dVar 16) (dGetT (dVar 7) (dVar 16))))
def B_law_commands : DenS :=
 (sSeq (sAsg (gVar 5) X_law_commands_1)
 (sSeq (sAsg (gTupV [6, 7]) (dTup (aCons (dOp fAdd (dCall fAbs (aCons (dCall fSum (aCons (dVar 5) aNil)) aNil)) (dOp fMul (dC (.int 7)) (dVar 1))) (aCons dNewT aNil))))
 (sSeq (sAsg (gVar 8) (dOp fIx (dTup (aCons (dC (.int 9)) (aCons (dC (.int 60)) (aCons (dOp fPow (dC (.int 10)) (dC (.int 6))) (aCons (dOp fPow (dC (.int 10)) (dC (.int 30))) aNil))))) (dOp fMod (dOp fDiv (dVar 6) (dC (.int 4))) (dC (.int 4)))))
 (sSeq (sFor (iRng1D (aCons (dOp fMod (dOp fDiv (dVar 6) (dC (.int 16))) (dOp fAdd (dVar 2) (dC (.int 1)))) aNil)) (gVar 9)
 F_law_commands_1)
 (sRet (dDat L_law_commands_1))))))
def d_law_commands : DenF := pureF (run 17 B_law_commands)
def B_law_length : DenS :=
 (sSeq (sAsg (gVar 1) (dOp fDiv (dVar 0) (dC (.int 4))))
 (sRet (dOp fIx (dTup (aCons (dOp fAdd (dC (.int 1)) (dOp fMod (dVar 1) (dC (.int 30)))) (aCons (dOp fPow (dC (.int 10)) (dC (.int 9))) (aCons (dOp fAdd (dC (.int 1)) (dOp fMod (dVar 1) (dC (.int 1000)))) (aCons (dC (.int 60)) aNil))))) (dOp fMod (dVar 0) (dC (.int 4))))))
def d_law_length : DenF := pureF (run 2 B_law_length)
def X_law_places_1 : Den :=
 (dIf (dTest (dOp fNe (dVar 0) (dDat (lLst aNil)))) (dSl (dVar 0) oNone (oSome (dC (.int 63)))) (dDat (lLst (aCons (dC (.int 5)) aNil))))
def F_law_places_1 : DenS :=
 (sExpr (dLm mAppend (dVar 5) (aCons (dOp fMod (dOp fDiv (dCall fAbs (aCons (dFn 3 d_law_number (aCons (dOp fIx (dVar 3) (dOp fMod (dOp fAdd (dVar 7) (dVar 1)) (dCall fLen (aCons (dVar 3) aNil)))) (aCons (dOp fAdd (dVar 7) (dVar 1)) (aCons (dVar 4) aNil)))) aNil)) (dC (.int 3))) (dVar 6)) aNil)))
def B_law_places : DenS :=
 (sSeq (sAsg (gVar 3) X_law_places_1)
 (sSeq (sPar [4, 5] (aCons (dOp fAdd (dCall fAbs (aCons (dCall fSum (aCons (dVar 3) aNil)) aNil)) (dOp fMul (dC (.int 7)) (dVar 1))) (aCons (dCel (lLst aNil)) aNil)))
 (sSeq (sAsg (gVar 6) (dOp fIx (dTup (aCons (dC (.int 4)) (aCons (dC (.int 60)) (aCons (dOp fAdd (dOp fPow (dC (.int 10)) (dC (.int 9))) (dC (.int 1))) (aCons (dC (.int 2)) aNil))))) (dOp fMod (dVar 4) (dC (.int 4)))))
 (sSeq (sFor (iRng1D (aCons (dOp fAdd (dC (.int 1)) (dOp fMod (dOp fDiv (dVar 4) (dC (.int 4))) (dVar 2))) aNil)) (gVar 7)
 F_law_places_1)
 (sRet (dVar 5))))))
def d_law_places : DenF := pureF (run 8 B_law_places)
def L_law_plain_1 (rc : DenF) : DenL :=
 (lLc (iSeqD (dVar 0)) [1] (gVar 1) bYes (dFn 1 rc (aCons (dVar 1) aNil)))
def B_law_plain (rc : DenF) : DenS :=
 (sSeq (sIf (bOr (dTest (dIsB .lst (dVar 0))) (dTest (dIsB .tup (dVar 0))))
 (sRet (dCall fAll (aCons (dDat (L_law_plain_1 rc)) aNil)))
 sNil)
 (sRet (dOr (dOp fIsN (dVar 0) (dC .non)) (dOr (dIsB .str (dVar 0)) (dAnd (dIsB .int (dVar 0)) (dNot (dIsB .bool (dVar 0))))))))
def d_law_plain : Nat → DenF
  | 0 => fun _ _ => .bad
  | n + 1 => pureF (run 2 (B_law_plain (d_law_plain n)))
def L_law_truths_1 : DenL :=
 (lLc (iLst (dVar 0)) [1] (gVar 1) bYes (dIsB .bool (dVar 1)))
def B_law_truths : DenS :=
 (sRet (dCall fAll (aCons (dDat L_law_truths_1) aNil)))
def d_law_truths : DenF := pureF (run 2 B_law_truths)
def ms_shows : Mths
  | 0 => some (5, d_Together_shows)
  | 1 => some (5, d_Apart_shows)
  | 2 => some (2, d_Meet_shows)
  | 3 => some (4, d_Right_shows)
  | 4 => some (4, d_Wrong_shows)
  | _ => none
def B_law_told_right : DenS :=
 (sSeq (sAsg (gTupV [5, 6]) (dFn 3 d_stand (aCons (dVar 0) (aCons (dVar 1) (aCons (dVar 3) aNil)))))
 (sSeq (sPar [7, 8] (aCons (dFn 4 d_judged (aCons (dVar 0) (aCons (dVar 1) (aCons (dVar 2) (aCons (dVar 3) aNil))))) (aCons (dFn 1 d_meet (aCons (dVar 4) aNil)) aNil)))
 (sSeq (sAsg (gVar 9) (dCel (lLst (aCons (dVar 5) (aCons (dFn 4 d_at_most (aCons (dVar 0) (aCons (dVar 1) (aCons (dVar 2) (aCons (dVar 3) aNil))))) (aCons (dFn 1 d_least_jumps (aCons (dVar 4) aNil)) (aCons (dFld "place" (dVar 8)) (aCons (dFld "pairs" (dVar 8)) aNil))))))))
 (sSeq (sIf (dTest (dIsC [0, 1, 2, 5, 3, 4] 1 (dVar 7)))
 (sExpr (dLm mAppend (dVar 9) (aCons (dFld "command" (dVar 7)) aNil)))
 sNil)
 (sSeq (sIf (bOr (bNot (dTest (dFn 1 (d_law_plain 6) (aCons (dVar 9) aNil)))) (bNot (dTest (dIsB .tup (dFn 3 d_stand (aCons (dVar 0) (aCons (dVar 1) (aCons (dVar 3) aNil))))))))
 (sRet (dC (.bl false)))
 sNil)
 (sSeq (sAsg (gVar 10) (dDat (lLst (aCons (dVar 6) (aCons (dMeth ms_shows (dVar 7) (aCons (dVar 0) (aCons (dVar 1) (aCons (dVar 2) (aCons (dVar 3) aNil))))) (aCons (dMeth ms_shows (dVar 8) (aCons (dVar 4) aNil)) (aCons (dMeth ms_shows (dPure (dMk 2 3 d_Meet_init (aCons (dC (.int 0)) (aCons (dDat (lLst aNil)) aNil)))) (aCons (dVar 4) aNil)) aNil)))))))
 (sRet (dFn 1 d_law_truths (aCons (dOp fAdd (dVar 10) (dDat (lLst (aCons (dMeth ms_shows (dMk0 0) (aCons (dVar 0) (aCons (dVar 1) (aCons (dVar 2) (aCons (dVar 3) aNil))))) aNil)))) aNil)))))))))
def d_law_told_right : DenF := pureF (run 11 B_law_told_right)
def ms_at_rest : Mths
  | 5 => some (1, d_Room_at_rest)
  | _ => none
def ms_knows : Mths
  | 5 => some (2, d_Room_knows)
  | _ => none
def ms_tale : Mths
  | 5 => some (1, d_Room_tale)
  | _ => none
def F_law_room_right_1 : DenS :=
 (sSeq (sAsg (gTupV [5, 6]) (dMeth ms_stands (dVar 1) (aCons (dVar 4) aNil)))
 (sPar [2, 3] (aCons (dOp fAdd (dVar 2) (dDat (lLst (aCons (dVar 5) (aCons (dMeth ms_knows (dVar 1) (aCons (dVar 4) aNil)) aNil))))) (aCons (dOp fAdd (dVar 3) (dDat (lLst (aCons (dVar 6) aNil)))) aNil))))
def B_law_room_right : DenS :=
 (sSeq (sAsg (gVar 1) (dMk 5 3 d_Room_init (aCons (dC (.int 9)) (aCons (dC (.int 2)) aNil))))
 (sSeq (sAsg (gVar 2) (dDat (lLst (aCons (dMeth ms_order (dVar 1) (aCons (dC (.int 0)) (aCons (dC (.str "go")) (aCons (dC (.int 0)) aNil)))) (aCons (dMeth ms_order (dVar 1) (aCons (dC (.int 1)) (aCons (dC (.str "move")) (aCons (dOp fMod (dVar 0) (dC (.int 10))) aNil)))) (aCons (dMeth ms_tick (dVar 1) (aCons (dC (.int 1)) aNil)) (aCons (dMeth ms_order (dVar 1) (aCons (dC (.int 0)) (aCons (dC (.str "hold")) (aCons (dC (.int 0)) aNil)))) aNil)))))))
 (sSeq (sAsg (gVar 3) (dDat (lLst (aCons (dMeth ms_bring (dVar 1) (aCons (dC (.int 0)) (aCons (dC (.int 1)) aNil))) (aCons (dMeth ms_bring (dVar 1) (aCons (dC (.int 0)) (aCons (dC (.int 1)) aNil))) (aCons (dMeth ms_at_rest (dVar 1) aNil) aNil))))))
 (sSeq (sFor (iLst (dDat (lLst (aCons (dC (.int 0)) (aCons (dC (.int 1)) aNil))))) (gVar 4)
 F_law_room_right_1)
 (sSeq (sAsg (gVar 7) (dFn 3 d_tale_judged (aCons (dC (.int 9)) (aCons (dC (.int 2)) (aCons (dDat (lLst (aCons (dTup (aCons (dC (.str "order")) (aCons (dC (.int 0)) (aCons (dC (.str "go")) (aCons (dC (.int 0)) aNil))))) (aCons (dTup (aCons (dC (.str "seen")) (aCons (dC (.int 0)) (aCons (dC (.int 9)) aNil)))) aNil)))) aNil)))))
 (sSeq (sAsg (gVar 2) (dOp fAdd (dVar 2) (dDat (lLst (aCons (dMeth ms_tale (dVar 1) aNil) (aCons (dFld "line" (dVar 7)) aNil))))))
 (sSeq (sIf (bNot (dTest (dFn 1 (d_law_plain 6) (aCons (dVar 2) aNil))))
 (sRet (dC (.bl false)))
 sNil)
 (sRet (dFn 1 d_law_truths (aCons (dOp fAdd (dVar 3) (dDat (lLst (aCons (dMeth ms_shows (dVar 7) (aCons (dC (.int 9)) (aCons (dC (.int 2)) (aCons (dDat (lLst aNil)) aNil)))) (aCons (dMeth ms_shows (dMk0 3) (aCons (dC (.int 9)) (aCons (dC (.int 2)) (aCons (dDat (lLst aNil)) aNil)))) aNil))))) aNil))))))))))
def d_law_room_right : DenF := pureF (run 8 B_law_room_right)
def F_law_line_ends_right_1 : DenS :=
 (sSeq (sIf (bNot (dTest (dFn 3 d_law_refused (aCons (dC (.lam 0)) (aCons (dDat (lLst (aCons (dTup (aCons (dC (.int 3)) (aCons (dC (.int 1)) (aCons (dVar 0) (aCons (dC (.int 0)) aNil))))) aNil))) (aCons (dC (.int 1)) aNil))))))
 (sRet (dC (.bl false)))
 sNil)
 (sSeq (sIf (bNot (dTest (dFn 3 d_law_refused (aCons (dC (.lam 1)) (aCons (dDat (lLst (aCons (dTup (aCons (dC (.int 3)) (aCons (dC (.int 1)) (aCons (dVar 0) (aCons (dC (.int 0)) aNil))))) aNil))) (aCons (dC (.int 1)) aNil))))))
 (sRet (dC (.bl false)))
 sNil)
 (sSeq (sIf (bNot (dTest (dFn 3 d_law_refused (aCons (dC (.lam 2)) (aCons (dVar 0) (aCons (dC (.int 5)) aNil))))))
 (sRet (dC (.bl false)))
 sNil)
 (sSeq (sAsg (gVar 1) (dFn 3 d_tale_judged (aCons (dC (.int 9)) (aCons (dC (.int 1)) (aCons (dDat (lLst (aCons (dTup (aCons (dC (.str "tick")) (aCons (dC (.int 1)) aNil))) (aCons (dTup (aCons (dC (.str "order")) (aCons (dC (.int 0)) (aCons (dVar 0) (aCons (dC (.int 0)) aNil))))) aNil)))) aNil)))))
 (sIf (bOr (bNot (dTest (dIsC [0, 1, 2, 5, 3, 4] 4 (dVar 1)))) (dTest (dOp fNe (dFld "line" (dVar 1)) (dC (.int 1)))))
 (sRet (dC (.bl false)))
 sNil)))))
def F_law_line_ends_right_2 : DenS :=
 (sIf (bNot (dTest (dFn 3 d_law_refused (aCons (dC (.lam 3)) (aCons (dDat (lLst (aCons (dTup (aCons (dC (.str "tick")) (aCons (dC (.int 1)) aNil))) (aCons (dVar 2) aNil)))) (aCons (dC (.int 8)) aNil))))))
 (sRet (dC (.bl false)))
 sNil)
def B_law_line_ends_right : DenS :=
 (sSeq (sFor (iLst (dDat (lLst (aCons (dC (.str "go\n")) (aCons (dC (.str "move\n")) (aCons (dC (.str "hold\n")) (aCons (dC (.str "\n")) (aCons (dC (.str "go ")) aNil)))))))) (gVar 0)
 F_law_line_ends_right_1)
 (sSeq (sFor (iLst (dDat (lLst (aCons (dTup (aCons (dC (.str "seen\n")) (aCons (dC (.int 0)) (aCons (dC (.int 0)) aNil)))) (aCons (dTup (aCons (dC (.str "tick\n")) (aCons (dC (.int 1)) aNil))) (aCons (dTup (aCons (dC (.str "order\n")) (aCons (dC (.int 0)) (aCons (dC (.str "go")) (aCons (dC (.int 0)) aNil))))) (aCons (dTup (aCons (dC (.str "bring\n")) (aCons (dC (.int 0)) (aCons (dC (.int 0)) aNil)))) aNil))))))) (gVar 2)
 F_law_line_ends_right_2)
 (sRet (dC (.bl true)))))
def d_law_line_ends_right : DenF := pureF (run 3 B_law_line_ends_right)
def F_law_moves_right_1 : DenS :=
 (sIf (dTest (dOp fNe (dMeth ms_shows (dPure (dMk 1 2 d_Apart_init (aCons (dTup (aCons (dC (.int 2)) (aCons (dC (.int 0)) (aCons (dC (.str "move")) (aCons (dVar 5) aNil))))) aNil))) (aCons (dC (.int 9)) (aCons (dVar 3) (aCons (dVar 4) (aCons (dC (.int 6)) aNil))))) (dVar 6)))
 (sRet (dC (.bl false)))
 sNil)
def B_law_moves_right : DenS :=
 (sSeq (sPar [1, 2] (aCons (dOp fMod (dVar 0) (dC (.int 9))) (aCons (dOp fAdd (dOp fMod (dVar 0) (dC (.int 9))) (dC (.int 1))) aNil)))
 (sSeq (sPar [3, 4] (aCons (dDat (lLst (aCons (dTup (aCons (dC (.int 2)) (aCons (dC (.int 0)) (aCons (dC (.str "move")) (aCons (dVar 1) aNil))))) aNil))) (aCons (dDat (lLst (aCons (dTup (aCons (dC (.int 2)) (aCons (dC (.int 0)) (aCons (dC (.str "move")) (aCons (dVar 2) aNil))))) aNil))) aNil)))
 (sSeq (sIf (bOr (dTest (dOp fNe (dFn 4 d_at_most (aCons (dC (.int 9)) (aCons (dVar 3) (aCons (dVar 4) (aCons (dC (.int 6)) aNil))))) (dC (.int 4)))) (bNot (dTest (dIsC [0, 1, 2, 5, 3, 4] 1 (dFn 4 d_judged (aCons (dC (.int 9)) (aCons (dVar 3) (aCons (dVar 4) (aCons (dC (.int 6)) aNil)))))))))
 (sRet (dC (.bl false)))
 sNil)
 (sSeq (sFor (iLst (dDat (lLst (aCons (dTup (aCons (dVar 1) (aCons (dC (.bl true)) aNil))) (aCons (dTup (aCons (dVar 2) (aCons (dC (.bl true)) aNil))) (aCons (dTup (aCons (dOp fMod (dOp fAdd (dOp fMod (dVar 0) (dC (.int 9))) (dC (.int 5))) (dC (.int 10))) (aCons (dC (.bl false)) aNil))) aNil)))))) (gTupV [5, 6])
 F_law_moves_right_1)
 (sSeq (sAsg (gVar 7) (dDat (lLst (aCons (dTup (aCons (dC (.int 3)) (aCons (dC (.int 1)) (aCons (dC (.str "move")) (aCons (dC (.int 8)) aNil))))) aNil))))
 (sSeq (sIf (bNot (dTest (dIsC [0, 1, 2, 5, 3, 4] 0 (dFn 4 d_judged (aCons (dC (.int 9)) (aCons (dOp fAdd (dVar 3) (dVar 7)) (aCons (dOp fAdd (dVar 4) (dVar 7)) (aCons (dC (.int 6)) aNil))))))))
 (sRet (dC (.bl false)))
 sNil)
 (sSeq (sIf (dTest (dOp fNe (dFn 4 d_at_most (aCons (dC (.int 9)) (aCons (dOp fAdd (dVar 3) (dVar 7)) (aCons (dOp fAdd (dVar 4) (dVar 7)) (aCons (dC (.int 6)) aNil))))) (dC (.int 4))))
 (sRet (dC (.bl false)))
 sNil)
 (sSeq (sPar [8, 9] (aCons (dCel (lLst (aCons (dC (.int 1)) (aCons (dC (.int 5)) (aCons (dC (.int 100)) aNil))))) (aCons (dOp fAdd (dC (.int 6)) (dOp fMod (dVar 0) (dC (.int 90)))) aNil)))
 (sSeq (sAsg (gVar 10) (dFn 1 d_meet (aCons (dVar 8) aNil)))
 (sSeq (sIf (bOr (dTest (dOp fNe (dFld "place" (dVar 10)) (dC (.int 5)))) (dTest (dOp fNe (dFn 1 d_least_jumps (aCons (dVar 8) aNil)) (dC (.int 99)))))
 (sRet (dC (.bl false)))
 sNil)
 (sSeq (sSetL (dVar 8) (dC (.int 1)) (dVar 9))
 (sSeq (sIf (bOr (dTest (dOp fNe (dFld "place" (dFn 1 d_meet (aCons (dVar 8) aNil))) (dVar 9))) (bOr (dTest (dOp fNe (dFn 1 d_least_jumps (aCons (dVar 8) aNil)) (dC (.int 99)))) (dTest (dOp fIsNot (dMeth ms_shows (dVar 10) (aCons (dVar 8) aNil)) (dC (.bl false))))))
 (sRet (dC (.bl false)))
 sNil)
 (sSeq (sSetL (dVar 8) (dC (.int 1)) (dC (.int 5)))
 (sSeq (sIf (dTest (dOp fIsNot (dMeth ms_shows (dVar 10) (aCons (dVar 8) aNil)) (dC (.bl true))))
 (sRet (dC (.bl false)))
 sNil)
 (sSeq (sSetL (dVar 8) (dC (.int 2)) (dC (.int 6)))
 (sRet (dOp fEq (dFn 1 d_least_jumps (aCons (dVar 8) aNil)) (dC (.int 5)))))))))))))))))))
def d_law_moves_right : DenF := pureF (run 11 B_law_moves_right)
def F_law_1 : DenS :=
 (sSeq (sPar [4, 5] (aCons (dFn 5 d_law_commands (aCons (dVar 0) (aCons (dVar 3) (aCons (dC (.int 5)) (aCons (dVar 2) (aCons (dC (.bl true)) aNil)))))) (aCons (dFn 5 d_law_commands (aCons (dVar 0) (aCons (dOp fAdd (dVar 3) (dC (.int 2))) (aCons (dC (.int 5)) (aCons (dVar 2) (aCons (dC (.bl true)) aNil)))))) aNil)))
 (sIf (bNot (dTest (dFn 5 d_law_told_right (aCons (dVar 2) (aCons (dVar 4) (aCons (dVar 5) (aCons (dOp fIx (dTup (aCons (dC (.int 0)) (aCons (dC (.int 9)) (aCons (dC (.int 200)) aNil)))) (dOp fMod (dOp fAdd (dVar 1) (dVar 3)) (dC (.int 3)))) (aCons (dFn 3 d_law_places (aCons (dVar 0) (aCons (dVar 3) (aCons (dC (.int 8)) aNil)))) aNil))))))))
 (sRet (dC (.bl false)))
 sNil))
def B_law : DenS :=
 (sSeq (sAsg (gVar 1) (dCall fAbs (aCons (dCall fSum (aCons (dSl (dVar 0) oNone (oSome (dC (.int 63)))) aNil)) aNil)))
 (sSeq (sAsg (gVar 2) (dFn 1 d_law_length (aCons (dVar 1) aNil)))
 (sSeq (sFor (iLst (dDat (lLst (aCons (dC (.int 0)) (aCons (dC (.int 1)) (aCons (dC (.int 3)) aNil)))))) (gVar 3)
 F_law_1)
 (sRet (dAnd (dFn 1 d_law_room_right (aCons (dVar 1) aNil)) (dAnd (dFn 0 d_law_line_ends_right aNil) (dFn 1 d_law_moves_right (aCons (dVar 1) aNil))))))))
def d_law : DenF := run 6 B_law
end Wt.Lk12

namespace Wt.Lk12
open PySem PySem.Spec PyProof.Rows L2 Wt
theorem law_number_eq {c a w : Int} {n : Nat} (hn : n ≤ 2000000) (h20 : 20 ≤ n) (hc : Bd n c) (ha : 0 ≤ a) (ha2 : a < 1000000) (st : Sto) : d_law_number [.int c, .int a, .int w] st = .ok (.int (numL c a w)) st := by
  have hm : Bd 31 (((c + 977 * a) * 48271 + w) % 2147483647) := emod_bd (by decide) (by decide)
  have hA : Bd 20 a := by unfold Bd; show a.natAbs < 1048576; omega
  have h1 : MulOk 977 a = true := Bd.mulOk (a := 10) (b := 20) (by unfold Bd; decide) hA (by decide)
  have h2 : MulOk (c + 977 * a) 48271 = true := Bd.mulOk (hc.add ((Bd.of (a := 10) (by decide)).mul hA)) (Bd.of (a := 16) (by decide)) (by omega) (by omega)
  have h3 : MulOk 31 a = true := Bd.mulOk (a := 5) (b := 20) (by unfold Bd; decide) hA (by decide)
  have hb := hc.add ((Bd.of (x := 31) (a := 5) (by decide)).mul hA)
  have hb := hb.add (Bd.of (x := 7) (a := 3) (by decide))
  have h4 := hm.mulOk hb (by omega) (by decide) (by omega)
  have hmore := hm.mul hb
  have hd := (hm.add hc).add (Bd.of (x := 5) (a := 3) (by decide))
  have h5 := hmore.mulOk hd (by omega) (by omega) (by omega)
  have h6 := hm.mulOk hm (by decide)
  have he := (hm.mul hm).add (Bd.of (x := 11) (a := 4) (by decide))
  have h7 := (hmore.mul hd).mulOk he (by omega) (by omega) (by omega)
  by_cases hbig : 1000000000000000000 ≤ c
  · have hp : 0 < 1 + a % 7 := by omega
    have hl : 1 + a % 7 < 1000000000000000000000000000000000000000000000000000 := by omega
    simp [d_law_number, pureF_ap, run_ap, B_law_number, hbig, hp, hl, numL]
  · have hp : 0 < 1009 + a := by omega
    have hl : 1009 + a < 1000000000000000000000000000000000000000000000000000 := by omega
    simp [d_law_number, pureF_ap, run_ap, B_law_number, hbig, hp, hl, h1, h2, h3, h4, h5, h6, h7, numL]
theorem eq_kind {a b : Str} (ha : PyData.strOk a = true) (hb : PyData.strOk b = true) (st : Sto) : fEq (.str a) (.str b) st = .ok (.bl (decide (a = b))) st := EqOn.str.fEq (x := a) (y := b) rfl rfl ha hb
theorem ok_move : PyData.strOk kMove = true := by decide +kernel
theorem ok_go : PyData.strOk kGo = true := by decide +kernel
theorem ok_hold : PyData.strOk kHold = true := by decide +kernel
theorem stand_loop {keep : Sto → Bool} {L t : Int} {d : D} {st : Sto} (hk : keep st = true) : ∀ (r : List Cmd) (s : Int × Bool × Int) (v6 v7 v8 v9 : Option D), (∀ c ∈ r, okC c) →
    ∃ w6 w7 w8 w9, forIt keep (gTupV [6, 7, 8, 9]) F_stand_of_1 (r.map cmdD) [some (.int L), some d, some (.int t), some (.int s.1), some (.bl s.2.1), some (.int s.2.2), v6, v7, v8, v9, none] st =
      .nx [some (.int L), some d, some (.int t), some (.int (r.foldl (stepC L) s).1), some (.bl (r.foldl (stepC L) s).2.1), some (.int (r.foldl (stepC L) s).2.2), w6, w7, w8, w9, none] st
  | [], s, v6, v7, v8, v9, _ => ⟨v6, v7, v8, v9, by simp [forIt_nil hk]⟩
  | c :: r, s, v6, v7, v8, v9, h => by
    have hc : PyData.strOk c.2.2.1 = true := h c (List.mem_cons_self ..)
    obtain ⟨w6, w7, w8, w9, ih⟩ := stand_loop hk r (stepC L s c) (some (.int c.1)) (some (.int c.2.1)) (some (.str c.2.2.1)) (some (.int c.2.2.2)) fun x hx => h x (List.mem_cons_of_mem _ hx)
    refine ⟨w6, w7, w8, w9, ?_⟩
    rw [List.foldl_cons, ← ih, List.map_cons, forIt_cons hk]
    have e1 := eq_kind hc ok_move
    have e2 := eq_kind hc ok_go
    by_cases hm : c.2.2.1 = kMove
    · have e3 : ∀ st, fEq (.str c.2.2.1) (.str kMove) st = .ok (.bl true) st := fun st => by rw [e1, decide_eq_true hm]
      rw [show stepC L s c = (c.2.2.2, s.2.1, c.1) from if_pos hm]
      cases hg : s.2.1 <;> simp [F_stand_of_1, hg, e3]
    · have e3 : ∀ st, fEq (.str c.2.2.1) (.str kMove) st = .ok (.bl false) st := fun st => by rw [e1, decide_eq_false hm]
      rw [show stepC L s c = (if s.2.1 then minL L (s.1 + c.1 - s.2.2) else s.1, decide (c.2.2.1 = kGo), c.1) from if_neg hm]
      cases hg : s.2.1 <;> simp [F_stand_of_1, hg, e3, e2]
theorem stand_of_eq {L t : Int} {cs : List Cmd} {d : D} {st : Sto} (hd : IsL st d (cs.map cmdD)) (hc : ∀ c ∈ cs, okC c) (hl : cs.length ≤ 10000) : d_stand_of [.int L, d, .int t] st = .ok (.tup [.int (standL L cs t).1, .bl (standL L cs t).2]) st := by
  have h1 : ∀ v3 v4 v5 v6 v7 v8 v9, L_stand_of_1 [some (.int L), some d, some (.int t), v3, v4, v5, v6, v7, v8, v9, none] st = .ok ((cs.filter fun c => decide (c.1 ≤ t)).map cmdD) st := fun v3 v4 v5 v6 v7 v8 v9 => by
    have := lc_filter (keep := keepL d (cs.map cmdD)) (vs := [10]) (g := gVar 10) (P := dTest (dOp fLe (dOp fIx (dVar 10) (dC (.int 0))) (dVar 2))) (A := dVar 10) (env := [some (.int L), some d, some (.int t), v3, v4, v5, v6, v7, v8, v9, none]) (st := st) (enc := cmdD) (fun c => decide (c.1 ≤ t)) cmdD cs
      (fun c hx => ⟨_, rfl, by
        have e0 : atI [D.int c.1, D.int c.2.1, D.str c.2.2.1, D.int c.2.2.2] 0 = some (.int c.1) := rfl
        simp [wipeE, e0], fun _ => by simp [wipeE]⟩) (by omega) hd.kp
    simp [L_stand_of_1, hd.g, this]
  obtain ⟨w6, w7, w8, w9, hlo⟩ := stand_loop (L := L) (t := t) (d := d) (st := st) (keep := fun _ => true) rfl (isort leC (cs.filter fun c => decide (c.1 ≤ t))) (0, false, 0) none none none none (fun c hx => hc c (List.mem_filter.mp (isort_mem.mp hx)).1)
  have hz := srtK_some (sortOk_cmds (cs.filter fun c => decide (c.1 ≤ t)))
  have hr : (isort leC (cs.filter fun c => decide (c.1 ≤ t))).foldl (stepC L) (0, false, 0) = runC L ((isort leC cs).takeWhile fun c => decide (c.1 ≤ t)) := by rw [stand_filter]; rfl
  rw [hr] at hlo
  have hres : standL L cs t = endC L t (runC L ((isort leC cs).takeWhile fun c => decide (c.1 ≤ t))) := rfl
  rw [hres]
  generalize runC L ((isort leC cs).takeWhile fun c => decide (c.1 ≤ t)) = s at *
  have hs := isort_cmds (cs.filter fun c => decide (c.1 ≤ t))
  have hle : ∀ (a : Int) (b : Bool), leave st (.ok (.tup [.int a, .bl b]) st) = .ok (.tup [.int a, .bl b]) st := fun a b => leave_ok0 rfl nofun
  cases hg : s.2.1 <;> rw [hg] at hlo <;> simp [d_stand_of, pureF_ap, run_ap, B_stand_of, h1, hz, hs, hlo, endC, hg, hle]
end Wt.Lk12

namespace Wt.Lk12
open PySem PySem.Spec PyProof.Rows L2 Wt
def wholeL (ns : List Int) (by_ : Int) : Int := absI (cells ns).sum + 7 * by_
def kindL (num : Int) : Str := if num % 4 = 0 then kGo else if num % 4 = 1 then kHold else if num % 4 = 2 then kGo else kMove
theorem kind_at (num : Int) : atI [D.str "go", D.str "hold", D.str "go", D.str "move"] (num % 4) = some (.str (kindL num)) := by
  unfold kindL
  have h : num % 4 = 0 ∨ num % 4 = 1 ∨ num % 4 = 2 ∨ num % 4 = 3 := by omega
  rcases h with h | h | h | h <;> rw [h] <;> rfl
theorem kind_ok (num : Int) : PyData.strOk (kindL num) = true := by
  unfold kindL
  split
  · exact ok_go
  · split
    · exact ok_hold
    · split
      · exact ok_go
      · exact ok_move
def wideC (w : Int) : Int := at0 [9, 60, 1000000, 1000000000000000000000000000000] (w / 4 % 4)
theorem wideC_pos (w : Int) : 1 ≤ wideC w ∧ wideC w ≤ 1000000000000000000000000000000 := by
  have h := at0_mem (l := [9, 60, 1000000, 1000000000000000000000000000000]) (k := w / 4 % 4) (by omega) (by show _ < (4 : Int); omega)
  unfold wideC
  generalize at0 [9, 60, 1000000, 1000000000000000000000000000000] (w / 4 % 4) = x at h
  simp only [List.mem_cons, List.not_mem_nil, or_false] at h
  omega
def cellC (ns : List Int) (by_ : Int) (at_ : Nat) : Int := at0 (cells ns) (((at_ : Int) + by_) % (cells ns).length) + (at_ : Int) / (cells ns).length
def numC (ns : List Int) (by_ : Int) (at_ : Nat) : Int := absI (numL (cellC ns by_ at_) (at_ + by_) (wholeL ns by_)) / 3
def kindC (mv : Bool) (num : Int) : Str := if kindL num = kMove ∧ mv = false then kHold else kindL num
def farC (ns : List Int) (by_ : Int) (at_ : Nat) : Int := numC ns by_ at_ / 16 / wideC (wholeL ns by_)
def placeC (L : Int) (k : Str) (far : Int) : Int := if k = kMove then far % (L + 1) else 0
def rowL (ns : List Int) (by_ L : Int) (mv : Bool) (at_ : Nat) : Row :=
  ((numC ns by_ at_ / 16 % wideC (wholeL ns by_), numC ns by_ at_ / 4 % 4), (kindC mv (numC ns by_ at_), placeC L (kindC mv (numC ns by_ at_)) (farC ns by_ at_)))
theorem cmds_step {ns : List Int} (hns : ∀ z ∈ ns, Bd 1048576 z) {by_ most L : Int} {mv : Bool} (hb : 0 ≤ by_) (hb2 : by_ ≤ 100) (hL : 0 ≤ L) {at_ : Nat} (hat : at_ ≤ 1000) {st : Sto} {t : List Row} (ht : t.length ≤ 10000) (v9 v10 v11 v12 v13 v14 v15 : Option D) :
    ∃ w10 w11 w12 w13 w14 w15, F_law_commands_1 [some (.scr (ns.map .int)), some (.int by_), some (.int most), some (.int L), some (.bl mv), some (.lst ((cells ns).map .int)), some (.int (wholeL ns by_)), some (.loc st.length), some (.int (wideC (wholeL ns by_))), some (.int at_), v10, v11, v12, v13, v14, v15, none] (st ++ [.dT (t.map rowD)]) =
      .nx [some (.scr (ns.map .int)), some (.int by_), some (.int most), some (.int L), some (.bl mv), some (.lst ((cells ns).map .int)), some (.int (wholeL ns by_)), some (.loc st.length), some (.int (wideC (wholeL ns by_))), some (.int at_), w10, w11, w12, w13, w14, w15, none] (st ++ [.dT ((putC t (rowL ns by_ L mv at_)).map rowD)]) := by
  have hc := cells_bd (by omega) hns
  have hcl := cells_ne ns
  have hcl2 := cells_le ns
  have h0 := Int.emod_nonneg ((at_ : Int) + by_) (by omega : ((cells ns).length : Int) ≠ 0)
  have h1 := Int.emod_lt_of_pos ((at_ : Int) + by_) (by omega : (0 : Int) < (cells ns).length)
  have hd0 : (0 : Int) ≤ (at_ : Int) / (cells ns).length := Int.ediv_nonneg (by omega) (by omega)
  have hd1 : (at_ : Int) / (cells ns).length ≤ at_ := Int.ediv_le_self _ (by omega)
  have hBd : Bd (max 1048576 10 + 1) (cellC ns by_ at_) := (hc _ (at0_mem h0 h1)).add (by unfold Bd; omega)
  have hn := law_number_eq (c := cellC ns by_ at_) (a := at_ + by_) (w := wholeL ns by_) (n := max 1048576 10 + 1) (by omega) (by omega) hBd (by omega) (by omega)
  have hat' := atI_at0 h0 h1
  have hcell : at0 (cells ns) (((at_ : Int) + by_) % (cells ns).length) + (at_ : Int) / (cells ns).length = cellC ns by_ at_ := rfl
  have hnum : absI (numL (cellC ns by_ at_) (at_ + by_) (wholeL ns by_)) / 3 = numC ns by_ at_ := rfl
  have hfar : numC ns by_ at_ / 16 / wideC (wholeL ns by_) = farC ns by_ at_ := rfl
  have hw := wideC_pos (wholeL ns by_)
  have hw1 : 0 < wideC (wholeL ns by_) := by omega
  have hw2 : wideC (wholeL ns by_) < 1000000000000000000000000000000000000000000000000000 := by omega
  have hlz : ((cells ns).length : Int) < 1000000000000000000000000000000000000000000000000000 := by omega
  have hdv : ∀ s, fDiv (.int at_) (.int ((cells ns).length : Int)) s = .ok (.int ((at_ : Int) / (cells ns).length)) s := fun s => fDiv_ok (by omega) hlz
  have hmd : ∀ s, fMod (.int ((at_ : Int) + by_)) (.int ((cells ns).length : Int)) s = .ok (.int (((at_ : Int) + by_) % (cells ns).length)) s := fun s => by rw [fMod_int, decide_eq_true (by omega)]; rfl
  have hL1 : 0 < L + 1 := by omega
  have hk := kind_at (numC ns by_ at_)
  have e1 := eq_kind (kind_ok (numC ns by_ at_)) ok_move
  have e2 := eq_kind ok_hold ok_move
  have hhm : ¬ kHold = kMove := by decide +kernel
  have e3 : ∀ st, fEq (.str kHold) (.str kMove) st = .ok (.bl false) st := fun st => by rw [e2, decide_eq_false hhm]
  have hput : ∀ (y : D) (env : En), y = (rowD (rowL ns by_ L mv at_)).2 → putK' env y (.loc st.length) (some [.inl (numC ns by_ at_ / 16 % wideC (wholeL ns by_)), .inl (numC ns by_ at_ / 4 % 4)]) (st ++ [.dT (t.map rowD)]) = .nx env (st ++ [.dT ((putC t (rowL ns by_ L mv at_)).map rowD)]) := fun y env hy => by
    rw [putK_loc (t := t.map rowD) get_at0 (by rw [List.length_map]; omega), set_at0, ← put_rows, hy]
    rfl
  by_cases hm : kindL (numC ns by_ at_) = kMove
  · have e4 : ∀ st, fEq (.str (kindL (numC ns by_ at_))) (.str kMove) st = .ok (.bl true) st := fun st => by rw [e1, decide_eq_true hm]
    cases mv with
    | true =>
      have hkc : kindC true (numC ns by_ at_) = kindL (numC ns by_ at_) := if_neg (by simp)
      have hy : D.tup [.str (kindL (numC ns by_ at_)), .int (farC ns by_ at_ % (L + 1))] = (rowD (rowL ns by_ L true at_)).2 := by
        show _ = D.tup [.str (kindC true _), .int (placeC L (kindC true _) _)]
        rw [hkc, placeC, if_pos hm]
      iterate 6 apply Exists.intro
      simp [F_law_commands_1, X_law_commands_2, hat', hdv, hmd, hcell, hn, hnum, hk, e4, hw1, hw2, hfar, hL1, hput _ _ hy]
      exact ⟨rfl, rfl, rfl, rfl, rfl, rfl⟩
    | false =>
      have hkc : kindC false (numC ns by_ at_) = kHold := if_pos ⟨hm, rfl⟩
      have hy : D.tup [.str kHold, .int 0] = (rowD (rowL ns by_ L false at_)).2 := by
        show _ = D.tup [.str (kindC false _), .int (placeC L (kindC false _) _)]
        rw [hkc, placeC, if_neg hhm]
      iterate 6 apply Exists.intro
      simp [F_law_commands_1, X_law_commands_2, hat', hdv, hmd, hcell, hn, hnum, hk, e4, e3, hw1, hw2, hfar, hL1, hput _ _ hy]
      exact ⟨rfl, rfl, rfl, rfl, rfl, rfl⟩
  · have e4 : ∀ st, fEq (.str (kindL (numC ns by_ at_))) (.str kMove) st = .ok (.bl false) st := fun st => by rw [e1, decide_eq_false hm]
    have hkc : kindC mv (numC ns by_ at_) = kindL (numC ns by_ at_) := if_neg (fun h => hm h.1)
    have hy : D.tup [.str (kindL (numC ns by_ at_)), .int 0] = (rowD (rowL ns by_ L mv at_)).2 := by
      show _ = D.tup [.str (kindC mv _), .int (placeC L (kindC mv _) _)]
      rw [hkc, placeC, if_neg hm]
    iterate 6 apply Exists.intro
    simp [F_law_commands_1, X_law_commands_2, hat', hdv, hmd, hcell, hn, hnum, hk, e4, hw1, hw2, hfar, hL1, hput _ _ hy]
    exact ⟨rfl, rfl, rfl, rfl, rfl, rfl⟩
theorem cmds_loop {ns : List Int} (hns : ∀ z ∈ ns, Bd 1048576 z) {by_ most L : Int} {mv : Bool} (hb : 0 ≤ by_) (hb2 : by_ ≤ 100) (hL : 0 ≤ L) {st : Sto} : ∀ (is : List Nat) (t : List Row) (v9 v10 v11 v12 v13 v14 v15 : Option D), (∀ i ∈ is, i ≤ 1000) → t.length + is.length ≤ 10000 →
    ∃ w9 w10 w11 w12 w13 w14 w15, forIt (fun _ => true) (gVar 9) F_law_commands_1 (is.map fun k : Nat => D.int (k : Int)) [some (.scr (ns.map .int)), some (.int by_), some (.int most), some (.int L), some (.bl mv), some (.lst ((cells ns).map .int)), some (.int (wholeL ns by_)), some (.loc st.length), some (.int (wideC (wholeL ns by_))), v9, v10, v11, v12, v13, v14, v15, none] (st ++ [.dT (t.map rowD)]) =
      .nx [some (.scr (ns.map .int)), some (.int by_), some (.int most), some (.int L), some (.bl mv), some (.lst ((cells ns).map .int)), some (.int (wholeL ns by_)), some (.loc st.length), some (.int (wideC (wholeL ns by_))), w9, w10, w11, w12, w13, w14, w15, none] (st ++ [.dT ((is.foldl (fun t i => putC t (rowL ns by_ L mv i)) t).map rowD)])
  | [], t, v9, v10, v11, v12, v13, v14, v15, _, _ => ⟨v9, v10, v11, v12, v13, v14, v15, forIt_nil rfl⟩
  | i :: is, t, v9, v10, v11, v12, v13, v14, v15, hi, hl => by
    rw [List.length_cons] at hl
    obtain ⟨u10, u11, u12, u13, u14, u15, h1⟩ := cmds_step (most := most) (mv := mv) (st := st) hns hb hb2 hL (hi i (List.mem_cons_self ..)) (t := t) (by omega) v9 v10 v11 v12 v13 v14 v15
    obtain ⟨w9, w10, w11, w12, w13, w14, w15, h2⟩ := cmds_loop (most := most) (mv := mv) (st := st) hns hb hb2 hL is (putC t (rowL ns by_ L mv i)) (some (.int i)) u10 u11 u12 u13 u14 u15 (fun j hj => hi j (List.mem_cons_of_mem _ hj)) (by have := put_len t (rowL ns by_ L mv i); omega)
    refine ⟨w9, w10, w11, w12, w13, w14, w15, ?_⟩
    rw [List.foldl_cons, ← h2, List.map_cons, forIt_cons rfl]
    simp [h1]
def tabC (ns : List Int) (by_ most L : Int) (mv : Bool) : List Row := tabL (rowL ns by_ L mv) (wholeL ns by_ / 16 % (most + 1)).toNat
/-- the law's commands -/
def cmdsL (ns : List Int) (by_ most L : Int) (mv : Bool) : List Cmd := (tabC ns by_ most L mv).map rowC
theorem law_commands_eq {ns : List Int} (hns : ∀ z ∈ ns, Bd 1048576 z) {by_ most L : Int} {mv : Bool} (hb : 0 ≤ by_) (hb2 : by_ ≤ 100) (hm : 0 ≤ most) (hm2 : most ≤ 900) (hL : 0 ≤ L) (st : Sto) :
    d_law_commands [.scr (ns.map .int), .int by_, .int most, .int L, .bl mv] st = .ok (.lst ((cmdsL ns by_ most L mv).map cmdD)) st := by
  have h7 : MulOk 7 by_ = true := Bd.mulOk (a := 3) (b := 7) (by unfold Bd; decide) (by unfold Bd; omega) (by decide)
  have hw0 := wideC_pos (wholeL ns by_)
  have hcnt := Int.emod_nonneg (wholeL ns by_ / 16) (by omega : most + 1 ≠ 0)
  have hcnt2 := Int.emod_lt_of_pos (wholeL ns by_ / 16) (by omega : 0 < most + 1)
  have hix : atI [D.int 9, D.int 60, D.int 1000000, D.int 1000000000000000000000000000000] (wholeL ns by_ / 4 % 4) = some (.int (wideC (wholeL ns by_))) := atI_at0 (l := [9, 60, 1000000, 1000000000000000000000000000000]) (by omega) (by show _ < (4 : Int); omega)
  have hcells : (∀ v, ∀ s, X_law_commands_1 [some (.scr (ns.map .int)), some (.int by_), some (.int most), some (.int L), some (.bl mv), none, none, none, none, none, none, none, none, none, none, none, v] s = .ok (.lst ((cells ns).map .int)) s) := fun v s => by
    unfold cells X_law_commands_1
    by_cases h : ns = []
    · subst h; simp
    · have := cutD_take (ns.map D.int) 63
      simp [h] at this ⊢
      exact this
  obtain ⟨n, hn⟩ : ∃ n, n = (wholeL ns by_ / 16 % (most + 1)).toNat := ⟨_, rfl⟩
  have hn2 : n ≤ 1000 := by omega
  obtain ⟨w9, w10, w11, w12, w13, w14, w15, hloop⟩ := cmds_loop (most := most) (mv := mv) (st := st) hns hb hb2 hL (List.range n) [] none none none none none none none (fun i hi => by have := List.mem_range.mp hi; omega) (by rw [List.length_range]; simp; omega)
  have hr : rngD 0 (wholeL ns by_ / 16 % (most + 1)).toNat = (List.range n).map fun k : Nat => D.int (k : Int) := by rw [hn]; exact rng0_map _
  have htab : (List.range n).foldl (fun t i => putC t (rowL ns by_ L mv i)) [] = tabC ns by_ most L mv := by rw [hn]; rfl
  rw [htab] at hloop
  have hkeys : ((tabC ns by_ most L mv).map (·.1)).Nodup := tab_keys _ _
  have hlen : (tabC ns by_ most L mv).length ≤ n := by rw [hn]; exact tab_len _ _
  obtain ⟨T, hT⟩ : ∃ T, T = tabC ns by_ most L mv := ⟨_, rfl⟩
  rw [← hT] at hloop hkeys hlen
  have hwh : absI (cells ns).sum + 7 * by_ = wholeL ns by_ := rfl
  have hb1 : (-4611686018427387904 : Int) ≤ wholeL ns by_ / 16 % (most + 1) ∧ wholeL ns by_ / 16 % (most + 1) < 4611686018427387904 := by omega
  have hcomp : L_law_commands_1 [some (.scr (ns.map .int)), some (.int by_), some (.int most), some (.int L), some (.bl mv), some (.lst ((cells ns).map .int)), some (.int (wholeL ns by_)), some (.loc st.length), some (.int (wideC (wholeL ns by_))), w9, w10, w11, w12, w13, w14, w15, none] (st ++ [.dT (T.map rowD)]) = .ok ((T.map rowC).map cmdD) (st ++ [.dT (T.map rowD)]) := by
    have hset : (st ++ [Cell.dT (T.map rowD)]).set st.length (.lT (T.map rowD)) = st ++ [.lT (T.map rowD)] := set_at0
    have hset2 : (st ++ [Cell.dT (T.map rowD)]).set st.length (.dT (T.map rowD)) = st ++ [.dT (T.map rowD)] := set_at0
    have := lc_map (keep := fun _ => true) (vs := [16]) (g := gVar 16) (A := (dOp fAdd (dVar 16) (dGetT (dVar 7) (dVar 16)))) (env := [some (.scr (ns.map .int)), some (.int by_), some (.int most), some (.int L), some (.bl mv), some (.lst ((cells ns).map .int)), some (.int (wholeL ns by_)), some (.loc st.length), some (.int (wideC (wholeL ns by_))), w9, w10, w11, w12, w13, w14, w15, none]) (st := st ++ [.lT (T.map rowD)])
      (enc := fun r : Row => keyTup (rowK r.1)) (fun r => cmdD (rowC r)) T (fun r hr => ⟨_, rfl, by
        have hv := val_rows hkeys hr
        have hg : ∀ s, getK (T.map rowD) [.inl r.1.1, .inl r.1.2] s = .ok (.tup [.str r.2.1, .int r.2.2]) s := fun s => by
          unfold getK
          rw [show valD (T.map rowD) [.inl r.1.1, .inl r.1.2] = some (.tup [.str r.2.1, .int r.2.2]) from hv]
        simp [wipeE, keyTup, rowK, keyToD, hg, rowC]⟩) (by omega) rfl
    unfold L_law_commands_1
    rw [lLcT_at (n := st.length) rfl, get_at0, lctK_of (l := (T.map rowC).map cmdD) (by simp) (by rw [hset, List.map_map, List.map_map]; exact this), hset2]
  have hle : leave st (.ok (.lst ((T.map rowC).map cmdD)) (st ++ [.dT (T.map rowD)])) = .ok (.lst ((T.map rowC).map cmdD)) st := leave_ok (caps_map fun _ _ => rfl) nofun
  have hm1 : 0 < most + 1 := by omega
  rw [show cmdsL ns by_ most L mv = T.map rowC from by rw [hT]; rfl]
  simp only [List.map_nil] at hloop
  simp [d_law_commands, pureF_ap, run_ap, B_law_commands, hcells, hwh, h7, hix, hm1, hb1, hr, hloop, hcomp, hle, -List.map_map]
def lenL (w : Int) : Int := at0 [1 + w / 4 % 30, 1000000000, 1 + w / 4 % 1000, 60] (w % 4)
theorem len_in (w : Int) : 1 ≤ lenL w ∧ lenL w ≤ 1000000000 := by
  have h := at0_mem (l := [1 + w / 4 % 30, 1000000000, 1 + w / 4 % 1000, 60]) (k := w % 4) (by omega) (by show _ < (4 : Int); omega)
  unfold lenL
  generalize at0 [1 + w / 4 % 30, 1000000000, 1 + w / 4 % 1000, 60] (w % 4) = x at h
  simp only [List.mem_cons, List.not_mem_nil, or_false] at h
  omega
theorem law_length_eq (w : Int) (st : Sto) : d_law_length [.int w] st = .ok (.int (lenL w)) st := by
  have hix : atI [D.int (1 + w / 4 % 30), D.int 1000000000, D.int (1 + w / 4 % 1000), D.int 60] (w % 4) = some (.int (lenL w)) := atI_at0 (l := [1 + w / 4 % 30, 1000000000, 1 + w / 4 % 1000, 60]) (by omega) (by show _ < (4 : Int); omega)
  simp [d_law_length, pureF_ap, run_ap, B_law_length, hix]
theorem kindC_ok (mv : Bool) (num : Int) : PyData.strOk (kindC mv num) = true := by
  unfold kindC
  split
  · exact ok_hold
  · exact kind_ok num
theorem cmds_ok (ns : List Int) (by_ most L : Int) (mv : Bool) : ∀ c ∈ cmdsL ns by_ most L mv, okC c := fun c hc => by
  obtain ⟨r, hr, rfl⟩ := List.mem_map.mp hc
  obtain ⟨i, _, rfl⟩ := tab_mem _ _ r hr
  exact kindC_ok mv _
theorem cmds_len (ns : List Int) (by_ L : Int) (mv : Bool) {most : Int} (hm : 0 ≤ most) : (cmdsL ns by_ most L mv).length ≤ most.toNat := by
  have h1 := tab_len (rowL ns by_ L mv) (wholeL ns by_ / 16 % (most + 1)).toNat
  have := Int.emod_nonneg (wholeL ns by_ / 16) (by omega : most + 1 ≠ 0)
  have := Int.emod_lt_of_pos (wholeL ns by_ / 16) (by omega : 0 < most + 1)
  rw [cmdsL, List.length_map, tabC]
  omega
end Wt.Lk12

namespace Wt.Lk12
open PySem PySem.Spec PyProof.Rows L2 Wt
theorem is_whole_int (x : Int) (st : Sto) : d_is_whole [.int x] st = .ok (.bl true) st := by
  simp [d_is_whole, pureF_ap, run_ap, B_is_whole, Ty.sub]
theorem asked_length_ok {L : Int} (h1 : 1 ≤ L) (h2 : L ≤ 1000000000) (st : Sto) : d_asked_length [.int L] st = .ok .non st := by
  simp [d_asked_length, pureF_ap, run_ap, B_asked_length, is_whole_int, h1, h2]
theorem asked_tick_ok {t : Int} (h : 0 ≤ t) (st : Sto) : d_asked_tick [.int t] st = .ok .non st := by
  have : ¬ t < 0 := by omega
  simp [d_asked_tick, pureF_ap, run_ap, B_asked_tick, is_whole_int, this]
theorem kinds_in {k : Str} (h : k = kHold ∨ k = kGo ∨ k = kMove) (st : Sto) : fNotIn (.str k) (.tup [.str "hold", .str "go", .str "move"]) st = .ok (.bl false) st := by
  have hb : inB st (.str k) (.tup [.str "hold", .str "go", .str "move"]) = some true := by
    rcases h with rfl | rfl | rfl <;> simp [inB, D.flat, D.py, PyData.eqv]
  simp only [fNotIn, hb]
  rfl
theorem is_command_ok {L : Int} {c : Cmd} (h : Vc L c) (st : Sto) : d_is_command [.int L, cmdD c] st = .ok (.bl true) st := by
  have hk := kinds_in h.k st
  have hok : PyData.strOk c.2.2.1 = true := by rcases h.k with e | e | e <;> rw [e] <;> decide +kernel
  have e1 := eq_kind hok ok_move
  have hL : ∀ v6, L_is_command_1 [some (.int L), some (cmdD c), some (.int c.1), some (.int c.2.1), some (.str c.2.2.1), some (.int c.2.2.2), v6] st = .ok (([c.1, c.2.1, c.2.2.2].map fun _ => true).map .bl) st := fun v6 => by
    have := lc_bls (keep := fun _ => true) (vs := [6]) (g := gVar 6) (A := dFn 1 d_is_whole (aCons (dVar 6) aNil)) (env := [some (.int L), some (cmdD c), some (.int c.1), some (.int c.2.1), some (.str c.2.2.1), some (.int c.2.2.2), v6]) (st := st) (enc := D.int) (fun _ => true) [c.1, c.2.1, c.2.2.2]
      (fun x hx => ⟨_, rfl, by simp [wipeE, is_whole_int]⟩) (by show (3 : Nat) ≤ _; decide) rfl
    simp only [List.map_cons, List.map_nil, cmdD] at this
    simp [L_is_command_1, this]
  have hall : blsOf [D.bl true, D.bl true, D.bl true] = some [true, true, true] := rfl
  have hall2 : allB [true, true, true] = true := rfl
  have n0 : ¬ c.1 < 0 := by have := h.t0; omega
  have p0 := h.p0
  have p1 := h.p1
  simp only [List.map_cons, List.map_nil, cmdD] at hL
  by_cases hm : c.2.2.1 = kMove
  · have e3 : ∀ st, fEq (.str c.2.2.1) (.str kMove) st = .ok (.bl true) st := fun st => by rw [e1, decide_eq_true hm]
    rw [if_pos hm] at p1
    simp [d_is_command, pureF_ap, run_ap, B_is_command, X_is_command_1, at_c2, Ty.sub, hk, hL, hall, hall2, n0, h.h0, h.h4, e3, p0, p1]
  · have e3 : ∀ st, fEq (.str c.2.2.1) (.str kMove) st = .ok (.bl false) st := fun st => by rw [e1, decide_eq_false hm]
    rw [if_neg hm] at p1
    have e4 : ∀ st, fEq (.int c.2.2.2) (.int 0) st = .ok (.bl true) st := fun st => by rw [fEq_int, decide_eq_true p1]
    simp only [cmdD]
    simp [d_is_command, pureF_ap, run_ap, B_is_command, X_is_command_1, at_c2, Ty.sub, hk, hL, hall, hall2, n0, h.h0, h.h4, e3, e4, -fEq_int]
end Wt.Lk12

namespace Wt.Lk12
open PySem PySem.Spec PyProof.Rows L2 Wt
theorem valD_put (kvs : List (List Key × D)) (k : List Key) (d : D) (k' : List Key) : valD (putD kvs k d) k' = if k = k' then some d else valD kvs k' := by
  unfold putD
  split
  · rename_i h
    induction kvs with
    | nil => simp at h
    | cons p r ih =>
      unfold valD at *
      rw [List.map_cons, List.find?_cons, List.find?_cons]
      by_cases e : p.1 = k
      · rw [if_pos e]
        by_cases e2 : k = k'
        · rw [if_pos e2, show decide ((p.1, d).1 = k') = true from decide_eq_true (e.trans e2)]
          rfl
        · rw [if_neg e2, show decide ((p.1, d).1 = k') = false from decide_eq_false (fun z => e2 (e.symm.trans z))]
          by_cases hr : (r.any fun kv => decide (kv.1 = k)) = true
          · have := ih hr
            rw [if_neg e2] at this
            exact this
          · have hid : r.map (fun kv => if kv.1 = k then (kv.1, d) else kv) = r := by
              conv => rhs; rw [← List.map_id r]
              refine List.map_congr_left fun q hq => ?_
              rw [if_neg (fun z => hr (List.any_eq_true.mpr ⟨q, hq, decide_eq_true z⟩))]
              rfl
            rw [hid]
      · rw [if_neg e]
        have hr : (r.any fun kv => decide (kv.1 = k)) = true := by
          rw [List.any_cons, decide_eq_false e, Bool.false_or] at h
          exact h
        have ih' := ih hr
        by_cases e3 : p.1 = k'
        · rw [show decide (p.1 = k') = true from decide_eq_true e3, if_neg (fun z => e (e3.trans z.symm))]
        · rw [show decide (p.1 = k') = false from decide_eq_false e3]
          exact ih'
  · rename_i h
    unfold valD
    rw [List.find?_append]
    by_cases e2 : k = k'
    · subst e2
      rw [if_pos rfl, List.find?_eq_none.mpr (fun q hq hz => h (List.any_eq_true.mpr ⟨q, hq, hz⟩))]
      simp
    · rw [if_neg e2, List.find?_cons, show decide ((k, d).1 = k') = false from decide_eq_false e2]
      simp
theorem putD_len (kvs : List (List Key × D)) (k : List Key) (d : D) : (putD kvs k d).length ≤ kvs.length + 1 := by
  unfold putD
  split
  · rw [List.length_map]; omega
  · rw [List.length_append]; exact Nat.le_refl _
def keyC (c : Cmd) : List Key := [.inl c.1, .inl c.2.1]
/-- commands that stand may be asked of -/
structure Vcs (L : Int) (cs : List Cmd) : Prop where
  v : ∀ c ∈ cs, Vc L c
  u : ∀ c ∈ cs, ∀ d ∈ cs, keyC c = keyC d → c = d
  l : cs.length ≤ 300
theorem vc_ok {L : Int} {c : Cmd} (h : Vc L c) : okC c := by
  unfold okC
  rcases h.k with e | e | e <;> rw [e] <;> decide +kernel
theorem sl2 (a b c d : D) (st : Sto) : fSl (.tup [a, b, c, d]) none (some 2) st = .ok (.tup [a, b]) st := (rfl)
theorem asked_loop {L : Int} {d : D} {st : Sto} {cs : List Cmd} (V : Vcs L cs) {keep : Sto → Bool} (hk : ∀ t, keep (st ++ [.dT t]) = true) : ∀ (r : List Cmd) (t : List (List Key × D)) (v : Option D), (∀ c ∈ r, c ∈ cs) → t.length + r.length ≤ 1000 → (∀ c ∈ cs, valD t (keyC c) = none ∨ valD t (keyC c) = some (cmdD c)) →
    ∃ t' v', forIt keep (gVar 3) F_asked_commands_1 (r.map cmdD) [some (.int L), some d, some (.loc st.length), v] (st ++ [.dT t]) = .nx [some (.int L), some d, some (.loc st.length), v'] (st ++ [.dT t'])
  | [], t, v, _, _, _ => ⟨t, v, forIt_nil (hk t)⟩
  | c :: r, t, v, hr, hl, hv => by
    rw [List.length_cons] at hl
    have hc := hr c (List.mem_cons_self ..)
    have hget : (valD t (keyC c)).getD (cmdD c) = cmdD c := by rcases hv c hc with e | e <;> rw [e] <;> rfl
    obtain ⟨t', v', ih⟩ := asked_loop (d := d) V hk r (putD t (keyC c) (cmdD c)) (some (cmdD c)) (fun x hx => hr x (List.mem_cons_of_mem _ hx)) (by have := putD_len t (keyC c) (cmdD c); omega) (fun x hx => by
      rw [valD_put]
      by_cases e : keyC c = keyC x
      · rw [if_pos e, V.u c hc x hx e]; exact .inr rfl
      · rw [if_neg e]; exact hv x hx)
    refine ⟨t', v', ?_⟩
    rw [List.map_cons, forIt_cons (hk t), ← ih]
    have hne := fNe_cmd (st := st ++ [.dT t]) (vc_ok (V.v c hc)) (vc_ok (V.v c hc))
    have hput : ∀ env, putK' env (cmdD c) (.loc st.length) (some (keyC c)) (st ++ [.dT t]) = .nx env (st ++ [.dT (putD t (keyC c) (cmdD c))]) := fun env => by
      rw [putK_loc (t := t) get_at0 (by omega), set_at0]
    simp only [keyC, cmdD] at hget hput hne
    simp [F_asked_commands_1, sl2, hget, hne, hput]
    rfl
theorem asked_ok {L : Int} {cs : List Cmd} (V : Vcs L cs) {d : D} {st : Sto} (hd : IsL st d (cs.map cmdD)) : d_asked_commands [.int L, d] st = .ok .non st := by
  have hl := V.l
  have h1 : ∀ v2 v3, L_asked_commands_1 [some (.int L), some d, v2, v3] st = .ok ((cs.map fun _ => true).map .bl) st := fun v2 v3 => by
    have := lc_bls (keep := keepL d (cs.map cmdD)) (vs := [3]) (g := gVar 3) (A := (dFn 2 d_is_command (aCons (dVar 0) (aCons (dVar 3) aNil)))) (env := [some (.int L), some d, v2, v3]) (st := st) (enc := cmdD) (fun _ => true) cs
      (fun c hc => ⟨_, rfl, by have := is_command_ok (V.v c hc) st; simp only [cmdD] at this; simp [wipeE, this]⟩) (by omega) hd.kp
    simp [L_asked_commands_1, hd.g, this, -List.map_map]
  obtain ⟨t', v', hlo⟩ := asked_loop (d := d) (st := st) V (keep := keepL d (cs.map cmdD)) (fun t => hd.app.kp) cs [] none (fun _ h => h) (by simp; omega) (fun c _ => .inl rfl)
  have hg : ¬ (300 : Int) < (cs.length : Int) := by omega
  have hd1 := (hd.app (r := [.dT []])).g
  simp [d_asked_commands, pureF_ap, run_ap, B_asked_commands, hd.ty, hd.gs, Ty.sub, hg, h1, blsOf_map, hd1, hlo, -List.map_map]
theorem stand_eq {L t : Int} {cs : List Cmd} (h1 : 1 ≤ L) (h2 : L ≤ 1000000000) (V : Vcs L cs) (ht : 0 ≤ t) {d : D} {st : Sto} (hd : IsL st d (cs.map cmdD)) : d_stand [.int L, d, .int t] st = .ok (standD (standL L cs t)) st := by
  have a1 := asked_length_ok h1 h2 st
  have a2 := asked_ok V hd
  have a3 := asked_tick_ok ht st
  have a4 := stand_of_eq (L := L) (t := t) hd (fun c hc => (vc_ok (V.v c hc))) (by have := V.l; omega)
  have hle : ∀ (a : Int) (b : Bool), leave st (.ok (.tup [.int a, .bl b]) st) = .ok (.tup [.int a, .bl b]) st := fun a b => leave_ok0 rfl nofun
  simp [d_stand, pureF_ap, run_ap, B_stand, a1, a2, a3, a4, hle]
theorem fNotIn_cmd {st : Sto} {y : D} {l : List Cmd} {c : Cmd} (hy : IsL st y (l.map cmdD)) (hc : okC c) (hl : ∀ z ∈ l, okC z) : fNotIn (cmdD c) y st = .ok (.bl (!decide (c ∈ l))) st := EqCmd.fNotIn hy (okC_eq hc) fun z hz => okC_eq (hl z hz)
theorem Vcs.sub {L : Int} {cs ds : List Cmd} (V : Vcs L cs) (h : ∀ c ∈ ds, c ∈ cs) (hl : ds.length ≤ 300) : Vcs L ds := ⟨fun c hc => V.v c (h c hc), fun c hc d hd => V.u c (h c hc) d (h d hd), hl⟩
theorem Vcs.ok {L : Int} {cs : List Cmd} (V : Vcs L cs) : ∀ c ∈ cs, okC c := fun c hc => vc_ok (V.v c hc)
theorem keyC_inj {c d : Cmd} (h : keyC c = keyC d) : c.1 = d.1 ∧ c.2.1 = d.2.1 := by
  unfold keyC at h
  simpa using h
theorem unlike_eq {t : Int} {one other : List Cmd} {d e : D} {st : Sto} (hd : IsL st d (one.map cmdD)) (he : IsL st e (other.map cmdD)) (h1 : ∀ c ∈ one, okC c) (h2 : ∀ c ∈ other, okC c) (l1 : one.length ≤ 10000) (l2 : other.length ≤ 10000) (hl : (unL one other t).length < 64) :
    d_unlike [d, e, .int t] st = .ok (.lst ((unS one other t).map cmdD)) st := by
  have c1 : ∀ v3 v4 v5, L_unlike_1 [some d, some e, some (.int t), v3, v4, v5] st = .ok ((one.filter fun c => !decide (c ∈ other) && decide (c.1 ≤ t)).map cmdD) st := fun v3 v4 v5 => by
    have := lc_filter (keep := keepL d (one.map cmdD)) (vs := [4]) (g := gVar 4) (P := (bAnd (dTest (dOp fNotIn (dVar 4) (dVar 1))) (dTest (dOp fLe (dOp fIx (dVar 4) (dC (.int 0))) (dVar 2))))) (A := dVar 4) (env := [some d, some e, some (.int t), v3, v4, v5]) (st := st) (enc := cmdD) (fun c => !decide (c ∈ other) && decide (c.1 ≤ t)) cmdD one
      (fun c hc => ⟨_, rfl, by
        have := fNotIn_cmd he (h1 c hc) h2
        by_cases m : c ∈ other <;> simp only [m, decide_true, decide_false] at this <;> simp [wipeE, at_c0, this, m], fun _ => by simp [wipeE]⟩) (by omega) hd.kp
    simp [L_unlike_1, hd.g, this]
  have c2 : ∀ v3 v4 v5, L_unlike_2 [some d, some e, some (.int t), v3, v4, v5] st = .ok ((other.filter fun c => !decide (c ∈ one) && decide (c.1 ≤ t)).map cmdD) st := fun v3 v4 v5 => by
    have := lc_filter (keep := keepL e (other.map cmdD)) (vs := [5]) (g := gVar 5) (P := (bAnd (dTest (dOp fNotIn (dVar 5) (dVar 0))) (dTest (dOp fLe (dOp fIx (dVar 5) (dC (.int 0))) (dVar 2))))) (A := dVar 5) (env := [some d, some e, some (.int t), v3, v4, v5]) (st := st) (enc := cmdD) (fun c => !decide (c ∈ one) && decide (c.1 ≤ t)) cmdD other
      (fun c hc => ⟨_, rfl, by
        have := fNotIn_cmd hd (h2 c hc) h1
        by_cases m : c ∈ one <;> simp only [m, decide_true, decide_false] at this <;> simp [wipeE, at_c0, this, m], fun _ => by simp [wipeE]⟩) (by omega) he.kp
    simp [L_unlike_2, he.g, this]
  have n1 : (one.filter fun c => !decide (c ∈ other) && decide (c.1 ≤ t)).length ≤ one.length := List.length_filter_le _ _
  have n2 : (other.filter fun c => !decide (c ∈ one) && decide (c.1 ≤ t)).length ≤ other.length := List.length_filter_le _ _
  have hS : ∀ v4 v5, lSortSet (dOp fAdd (dVar 3) (dDat L_unlike_2)) [some d, some e, some (.int t), some (.lst ((one.filter fun c => !decide (c ∈ other) && decide (c.1 ≤ t)).map cmdD)), v4, v5] st = .ok ((unS one other t).map cmdD) st := fun v4 v5 => by
    refine sortSet_cmds ?_ hl
    have hz : szOk (((one.filter fun c => !decide (c ∈ other) && decide (c.1 ≤ t)).map cmdD).length + ((other.filter fun c => !decide (c ∈ one) && decide (c.1 ≤ t)).map cmdD).length) = true := szOk_of (by rw [List.length_map, List.length_map]; omega)
    simp only [dOp_ap, dVar_ap, List.getElem?_cons_succ, List.getElem?_cons_zero, getV_some, bind_ok, dDat_ap, c2, fAdd_lst, hz, if_true, noX_ok, unL, List.map_append]
  have hle := leave_ok0 (d := .lst ((unS one other t).map cmdD)) (st := st) (caps_map fun _ _ => rfl) nofun
  simp [d_unlike, pureF_ap, run_ap, B_unlike, c1, hS, hle, -lSortSet_ap]
theorem asked_two_ok {L t : Int} (h1 : 1 ≤ L) (h2 : L ≤ 1000000000) {one other : List Cmd} (V : Vcs L one) (W : Vcs L other) (ht : 0 ≤ t) {d e : D} {st : Sto} (hd : IsL st d (one.map cmdD)) (he : IsL st e (other.map cmdD)) : d_asked_two [.int L, d, e, .int t] st = .ok .non st := by
  have a1 := asked_length_ok h1 h2 st
  have a2 := asked_ok V hd
  have a3 := asked_ok W he
  have a4 := asked_tick_ok ht st
  simp [d_asked_two, pureF_ap, run_ap, B_asked_two, a1, a2, a3, a4]
def vcB (L : Int) (c : Cmd) : Bool := decide (0 ≤ c.1) && decide (0 ≤ c.2.1) && decide (c.2.1 < 4) && (decide (c.2.2.1 = kHold) || decide (c.2.2.1 = kGo) || decide (c.2.2.1 = kMove)) && decide (0 ≤ c.2.2.2) && if c.2.2.1 = kMove then decide (c.2.2.2 ≤ L) else decide (c.2.2.2 = 0)
def vcsB (L : Int) (cs : List Cmd) : Bool := cs.all (vcB L) && cs.all (fun c => cs.all fun d => !(decide (c.1 = d.1) && decide (c.2.1 = d.2.1)) || decide (c = d)) && decide (cs.length ≤ 300)
theorem vc_of {L : Int} {c : Cmd} (h : vcB L c = true) : Vc L c := by
  unfold vcB at h
  simp only [Bool.and_eq_true, Bool.or_eq_true, decide_eq_true_eq] at h
  obtain ⟨⟨⟨⟨⟨h1, h2⟩, h3⟩, h4⟩, h5⟩, h6⟩ := h
  refine ⟨h1, h2, h3, h4.elim (fun h => h.elim .inl fun e => .inr (.inl e)) fun e => .inr (.inr e), h5, ?_⟩
  by_cases e : c.2.2.1 = kMove
  · rw [if_pos e] at h6 ⊢
    exact of_decide_eq_true h6
  · rw [if_neg e] at h6 ⊢
    exact of_decide_eq_true h6
theorem vcs_of {L : Int} {cs : List Cmd} (h : vcsB L cs = true) : Vcs L cs := by
  unfold vcsB at h
  rw [Bool.and_eq_true, Bool.and_eq_true] at h
  refine ⟨fun c hc => vc_of (List.all_eq_true.mp h.1.1 c hc), fun c hc d hd e => ?_, of_decide_eq_true h.2⟩
  have := List.all_eq_true.mp (List.all_eq_true.mp h.1.2 c hc) d hd
  obtain ⟨e1, e2⟩ := keyC_inj e
  rw [decide_eq_true e1, decide_eq_true e2] at this
  simpa using this
theorem at_most_eq {L t : Int} (h1 : 1 ≤ L) (h2 : L ≤ 1000000000) {one other : List Cmd} (V : Vcs L one) (W : Vcs L other) (ht : 0 ≤ t) {d e : D} {st : Sto} (hd : IsL st d (one.map cmdD)) (he : IsL st e (other.map cmdD)) (hl : (unL one other t).length < 64) :
    d_at_most [.int L, d, e, .int t] st = .ok (.int (atT one other t)) st := by
  have l1 := V.l
  have l2 := W.l
  have a1 := asked_two_ok h1 h2 V W ht hd he
  have a2 := unlike_eq (t := t) hd he V.ok W.ok (by omega) (by omega) hl
  unfold atT
  cases hu : unS one other t with
  | nil =>
    rw [hu] at a2
    simp [d_at_most, pureF_ap, run_ap, B_at_most, X_at_most_1, a1, a2]
  | cons c r =>
    have hok : ∀ x ∈ c :: r, okC x := fun x hx => by
      rw [← hu] at hx
      rcases (un_mem.mp (uns_mem.mp hx)).1 with ⟨m, _⟩ | ⟨m, _⟩
      · exact V.ok x m
      · exact W.ok x m
    have hne := fNe_cmds (st := st) (IsL.lst (l := (c :: r).map cmdD)) (IsL.lst (l := ([] : List Cmd).map cmdD)) hok nofun
    rw [hu] at a2
    have e0 : atI (cmdD c :: r.map cmdD) 0 = some (cmdD c) := atI_nat (k := 0) rfl
    simp only [List.map_cons, List.map_nil, cmdD] at a2 hne e0
    simp [d_at_most, pureF_ap, run_ap, B_at_most, X_at_most_1, a1, a2, hne, e0, at_c0]
theorem at_s0 (q : Int × Bool) : atI [D.int q.1, D.bl q.2] 0 = some (.int q.1) := (rfl)
def apartB (L : Int) (one other : List Cmd) (t : Int) (c : Cmd) : Bool :=
  if (standL L one t).1 = (standL L other t).1 then false else (decide (c ∈ one) != decide (c ∈ other)) && decide (c.1 ≤ t)
theorem bne_dec (a b : Bool) : (!decide (a = b)) = (a != b) := by cases a <;> cases b <;> rfl
section
variable {L t : Int} {one other : List Cmd} {d e : D} {st : Sto}
theorem together_eq (hd : IsL st d (one.map cmdD)) (he : IsL st e (other.map cmdD)) (h1 : ∀ c ∈ one, okC c) (h2 : ∀ c ∈ other, okC c) (l1 : one.length ≤ 10000) (l2 : other.length ≤ 10000) (s : D) :
    d_Together_shows [s, .int L, d, e, .int t] st = .ok (.bl (decide ((standL L one t).1 = (standL L other t).1))) st := by
  have a1 := stand_of_eq (L := L) (t := t) hd h1 l1
  have a2 := stand_of_eq (L := L) (t := t) he h2 l2
  simp [d_Together_shows, pureF_ap, run_ap, B_Together_shows, a1, a2, at_p0]
theorem apart_eq (hd : IsL st d (one.map cmdD)) (he : IsL st e (other.map cmdD)) (h1 : ∀ c ∈ one, okC c) (h2 : ∀ c ∈ other, okC c) (l1 : one.length ≤ 10000) (l2 : other.length ≤ 10000) {c : Cmd} (hc : okC c) :
    d_Apart_shows [.ins 1 [cmdD c], .int L, d, e, .int t] st = .ok (.bl (apartB L one other t c)) st := by
  have a1 := stand_of_eq (L := L) (t := t) hd h1 l1
  have a2 := stand_of_eq (L := L) (t := t) he h2 l2
  have a3 := fIn_cmd hd hc h1
  have a4 := fIn_cmd he hc h2
  unfold apartB
  by_cases hs : (standL L one t).1 = (standL L other t).1
  · simp [d_Apart_shows, pureF_ap, run_ap, B_Apart_shows, a1, a2, at_p0, hs]
  · rw [if_neg hs]
    simp only [cmdD] at a3 a4 ⊢
    by_cases m1 : c ∈ one <;> by_cases m2 : c ∈ other <;> simp [d_Apart_shows, pureF_ap, run_ap, B_Apart_shows, a1, a2, at_p0, hs, a3, a4, at_c0, m1, m2]
end
theorem apart_init (c : Cmd) (st : Sto) : d_Apart_init [.loc st.length, cmdD c] (st ++ [.inst 1 []]) = .ok .non (st ++ [.inst 1 [cmdD c]]) := by
  simp [d_Apart_init, run_ap, B_Apart_init]
theorem apart_new (c : Cmd) (st : Sto) : leave st (mkK st.length (d_Apart_init [.loc st.length, cmdD c] (st ++ [.inst 1 []]))) = .ok (.ins 1 [cmdD c]) st := by
  rw [apart_init, mkK_ok]
  exact leave_inst (Nat.le_refl _) get_at0 rfl
/-- what is told of two -/
def judgD (L : Int) (one other : List Cmd) (t : Int) : D := if (standL L one t).1 = (standL L other t).1 then .ins 0 [] else match unS one other t with | c :: _ => .ins 1 [cmdD c] | [] => .ins 0 []
theorem judg_cases {L : Int} (hL : 0 ≤ L) {one other : List Cmd} (h1 : ∀ c ∈ one, Vc L c) (h2 : ∀ c ∈ other, Vc L c) (t : Int) : ((standL L one t).1 = (standL L other t).1 ∧ judgD L one other t = .ins 0 []) ∨ (¬ (standL L one t).1 = (standL L other t).1 ∧ ∃ c r, unS one other t = c :: r ∧ judgD L one other t = .ins 1 [cmdD c] ∧ apartB L one other t c = true ∧ okC c ∧ Vc L c) := by
  unfold judgD apartB
  by_cases hs : (standL L one t).1 = (standL L other t).1
  · exact .inl ⟨hs, if_pos hs⟩
  · refine .inr ⟨hs, ?_⟩
    rw [if_neg hs]
    cases hu : unS one other t with
    | nil => exact absurd (by rw [stand_same hL h1 h2 fun c hc => un_same (uns_nil.mp hu) c hc]) hs
    | cons c r =>
      have hm := un_mem.mp (uns_mem.mp (by rw [hu]; exact List.mem_cons_self ..) : c ∈ unL one other t)
      have hv : Vc L c := by
        rcases hm.1 with ⟨a, _⟩ | ⟨a, _⟩
        · exact h1 c a
        · exact h2 c a
      refine ⟨c, r, rfl, rfl, ?_, vc_ok hv, hv⟩
      rw [if_neg hs, decide_eq_true hm.2]
      rcases hm.1 with ⟨a, b⟩ | ⟨a, b⟩ <;> simp [a, b]
theorem judged_eq {L t : Int} (h1 : 1 ≤ L) (h2 : L ≤ 1000000000) {one other : List Cmd} (V : Vcs L one) (W : Vcs L other) (ht : 0 ≤ t) {d e : D} {st : Sto} (hd : IsL st d (one.map cmdD)) (he : IsL st e (other.map cmdD)) (hl : (unL one other t).length < 64) :
    d_judged [.int L, d, e, .int t] st = .ok (judgD L one other t) st := by
  have l1 := V.l
  have l2 := W.l
  have a1 := asked_two_ok h1 h2 V W ht hd he
  have a2 := unlike_eq (t := t) hd he V.ok W.ok (by omega) (by omega) hl
  have a3 := stand_of_eq (L := L) (t := t) hd V.ok (by omega)
  have a4 := stand_of_eq (L := L) (t := t) he W.ok (by omega)
  have hle : leave st (.ok (.ins 0 []) st) = .ok (.ins 0 []) st := leave_ok0 rfl nofun
  rcases judg_cases (by omega) V.v W.v t with ⟨hs, e⟩ | ⟨hs, c, r, hu, e, _⟩
  · rw [e]
    simp [d_judged, pureF_ap, run_ap, B_judged, a1, a3, a4, at_p0, hs, hle]
  · rw [e]
    rw [hu] at a2
    have e0 : atI (cmdD c :: r.map cmdD) 0 = some (cmdD c) := atI_nat (k := 0) rfl
    have a5 := apart_new c st
    have hle2 : leave st (.ok (.ins 1 [cmdD c]) st) = .ok (.ins 1 [cmdD c]) st := leave_ok0 rfl nofun
    simp only [List.map_cons, cmdD] at a2 e0 a5 hle2
    simp [d_judged, pureF_ap, run_ap, B_judged, a1, a2, a3, a4, at_p0, hs, e0, a5, hle2]
end Wt.Lk12

namespace Wt.Lk12
open PySem PySem.Spec PyProof.Rows L2 Wt
theorem cmds_vc (ns : List Int) {by_ most L : Int} (mv : Bool) (hL : 0 ≤ L) : ∀ c ∈ cmdsL ns by_ most L mv, Vc L c := fun c hc => by
  obtain ⟨r, hr, rfl⟩ := List.mem_map.mp hc
  obtain ⟨i, _, rfl⟩ := tab_mem _ _ r hr
  have hw := wideC_pos (wholeL ns by_)
  have hk : kindC mv (numC ns by_ i) = kHold ∨ kindC mv (numC ns by_ i) = kGo ∨ kindC mv (numC ns by_ i) = kMove := by
    have hl : kindL (numC ns by_ i) = kHold ∨ kindL (numC ns by_ i) = kGo ∨ kindL (numC ns by_ i) = kMove := by
      unfold kindL
      split
      · exact .inr (.inl rfl)
      · split
        · exact .inl rfl
        · split
          · exact .inr (.inl rfl)
          · exact .inr (.inr rfl)
    unfold kindC
    by_cases e : kindL (numC ns by_ i) = kMove ∧ mv = false
    · rw [if_pos e]; exact .inl rfl
    · rw [if_neg e]; exact hl
  refine ⟨Int.emod_nonneg _ (by omega), Int.emod_nonneg _ (by decide), Int.emod_lt_of_pos _ (by decide), hk, ?_, ?_⟩
  · show 0 ≤ placeC L (kindC mv (numC ns by_ i)) (farC ns by_ i)
    unfold placeC
    split
    · exact Int.emod_nonneg _ (by omega)
    · exact Int.le_refl _
  · show if kindC mv (numC ns by_ i) = kMove then placeC L (kindC mv (numC ns by_ i)) (farC ns by_ i) ≤ L else placeC L (kindC mv (numC ns by_ i)) (farC ns by_ i) = 0
    unfold placeC
    by_cases e : kindC mv (numC ns by_ i) = kMove
    · rw [if_pos e, if_pos e]
      have := Int.emod_lt_of_pos (farC ns by_ i) (by omega : 0 < L + 1)
      omega
    · rw [if_neg e, if_neg e]
theorem nodup_inj {α β : Type} {f : α → β} : ∀ {l : List α}, (l.map f).Nodup → ∀ a ∈ l, ∀ b ∈ l, f a = f b → a = b
  | x :: r, h, a, ha, b, hb, e => by
    rw [List.map_cons] at h
    obtain ⟨h1, h2⟩ := List.pairwise_cons.mp h
    rcases List.mem_cons.mp ha with ea | ha
    · rcases List.mem_cons.mp hb with eb | hb
      · rw [ea, eb]
      · exact absurd (ea ▸ e) (h1 _ (List.mem_map.mpr ⟨b, hb, rfl⟩))
    · rcases List.mem_cons.mp hb with eb | hb
      · exact absurd (eb ▸ e).symm (h1 _ (List.mem_map.mpr ⟨a, ha, rfl⟩))
      · exact nodup_inj h2 a ha b hb e
theorem cmds_vcs (ns : List Int) {by_ most L : Int} (mv : Bool) (hL : 0 ≤ L) (hm : 0 ≤ most) (hm2 : most ≤ 300) : Vcs L (cmdsL ns by_ most L mv) := by
  refine ⟨cmds_vc ns mv hL, fun c hc d hd e => ?_, by have := cmds_len ns by_ L mv hm; omega⟩
  obtain ⟨p, hp, rfl⟩ := List.mem_map.mp hc
  obtain ⟨q, hq, rfl⟩ := List.mem_map.mp hd
  have hk : p.1 = q.1 := (rowK_inj _ _).mp e
  rw [nodup_inj (tab_keys (rowL ns by_ L mv) _) p hp q hq hk]
theorem stand_next {L : Int} {cs : List Cmd} {t : Int} (h : ∀ c ∈ cs, c.1 ≠ t + 1) : standL L cs (t + 1) = (if (standL L cs t).2 then minL L ((standL L cs t).1 + 1) else (standL L cs t).1, (standL L cs t).2) := by
  have e : ((isort leC cs).takeWhile fun c => decide (c.1 ≤ t + 1)) = (isort leC cs).takeWhile fun c => decide (c.1 ≤ t) := by
    rw [← stand_filter, ← stand_filter]
    congr 1
    refine List.filter_congr fun c hc => ?_
    have := h c hc
    rw [decide_eq_decide]
    omega
  unfold standL
  rw [e]
  generalize runC L _ = s
  unfold endC
  cases hg : s.2.1
  · simp
  · simp only [if_true]
    refine Prod.ext ?_ rfl
    show minL L (s.1 + (t + 1) - s.2.2) = minL L (minL L (s.1 + t - s.2.2) + 1)
    unfold minL
    split <;> split <;> (try split) <;> omega
def wideL (w : Int) : Int := at0 [4, 60, 1000000001, 2] (w % 4)
theorem wide_pos (w : Int) : 1 ≤ wideL w ∧ wideL w ≤ 1000000001 := by
  have h := at0_mem (l := [4, 60, 1000000001, 2]) (k := w % 4) (by omega) (by show _ < (4 : Int); omega)
  unfold wideL
  generalize at0 [4, 60, 1000000001, 2] (w % 4) = x at h
  simp only [List.mem_cons, List.not_mem_nil, or_false] at h
  omega
def placeL (ns : List Int) (by_ : Int) (at_ : Nat) : Int := absI (numL (at0 (cells ns) (((at_ : Int) + by_) % (cells ns).length)) (at_ + by_) (wholeL ns by_)) / 3 % wideL (wholeL ns by_)
def placesL (ns : List Int) (by_ most : Int) : List Int := (List.range (1 + wholeL ns by_ / 4 % most).toNat).map (placeL ns by_)
theorem places_len (ns : List Int) (by_ : Int) {most : Int} (hm : 0 < most) : 1 ≤ (placesL ns by_ most).length ∧ (placesL ns by_ most).length ≤ most.toNat := by
  have := Int.emod_nonneg (wholeL ns by_ / 4) (by omega : most ≠ 0)
  have := Int.emod_lt_of_pos (wholeL ns by_ / 4) hm
  rw [placesL, List.length_map, List.length_range]
  omega
theorem places_in (ns : List Int) (by_ most : Int) : ∀ x ∈ placesL ns by_ most, 0 ≤ x ∧ x ≤ 1000000000 := fun x hx => by
  obtain ⟨i, _, rfl⟩ := List.mem_map.mp hx
  have h := wide_pos (wholeL ns by_)
  unfold placeL
  generalize absI _ / 3 = y
  have := Int.emod_nonneg y (by omega : wideL (wholeL ns by_) ≠ 0)
  have := Int.emod_lt_of_pos y (by omega : 0 < wideL (wholeL ns by_))
  omega
theorem law_places_eq {ns : List Int} (hns : ∀ z ∈ ns, Bd 1048576 z) {by_ most : Int} (hb : 0 ≤ by_) (hb2 : by_ ≤ 100) (hm : 0 < most) (hm2 : most ≤ 1000) (st : Sto) :
    d_law_places [.scr (ns.map .int), .int by_, .int most] st = .ok (.lst ((placesL ns by_ most).map .int)) st := by
  have hc := cells_bd (by omega) hns
  have hcl := cells_ne ns
  have h7 : MulOk 7 by_ = true := Bd.mulOk (a := 3) (b := 7) (by unfold Bd; decide) (by unfold Bd; omega) (by decide)
  have hw0 := wide_pos (wholeL ns by_)
  have hcnt := Int.emod_nonneg (wholeL ns by_ / 4) (by omega : most ≠ 0)
  have hcnt2 := Int.emod_lt_of_pos (wholeL ns by_ / 4) hm
  have hix : atI [D.int 4, D.int 60, D.int 1000000001, D.int 2] (wholeL ns by_ % 4) = some (.int (wideL (wholeL ns by_))) := atI_at0 (l := [4, 60, 1000000001, 2]) (by omega) (by show _ < (4 : Int); omega)
  have hcells : (∀ s, X_law_places_1 [some (.scr (ns.map .int)), some (.int by_), some (.int most), none, none, none, none, none] s = .ok (.lst ((cells ns).map .int)) s) := fun s => by
    unfold cells X_law_places_1
    by_cases h : ns = []
    · subst h; simp
    · have := cutD_take (ns.map D.int) 63
      simp [h] at this ⊢
      exact this
  obtain ⟨v', hloop⟩ := for_app (n := 0) (st := st) (sr := []) (keep := fun _ => true) (g := gVar 7) (f := fun at_ : Nat => D.int (placeL ns by_ at_))
    (B := F_law_places_1) (enc := fun k : Nat => D.int (k : Int))
    (fun v => [some (.scr (ns.map .int)), some (.int by_), some (.int most), some (.lst ((cells ns).map .int)), some (.int (wholeL ns by_)), some (.loc st.length), some (.int (wideL (wholeL ns by_))), v])
    (List.range (1 + wholeL ns by_ / 4 % most).toNat) (fun x hx v acc ha => by
      have hx := List.mem_range.mp hx
      rw [List.length_range] at ha
      have h0 := Int.emod_nonneg ((x : Int) + by_) (by omega : ((cells ns).length : Int) ≠ 0)
      have h1 := Int.emod_lt_of_pos ((x : Int) + by_) (by omega : (0 : Int) < (cells ns).length)
      have hn := law_number_eq (c := at0 (cells ns) (((x : Int) + by_) % (cells ns).length)) (a := x + by_) (w := wholeL ns by_) (n := 1048576) (by omega) (by omega) (hc _ (at0_mem h0 h1)) (by omega) (by omega)
      have hsz : acc.length ≤ 16777215 := by omega
      have hat := atI_at0 h0 h1
      exact ⟨_, some (.int x), rfl, by simp [F_law_places_1, hat, hn, hcl, hsz, placeL, show 0 < wideL (wholeL ns by_) by omega]⟩) (fun _ => rfl) none [] (Nat.le_refl _)
  have hr := rng0_map (1 + wholeL ns by_ / 4 % most).toNat
  have hle := leave_list (n := st.length) (st := st) (l := (placesL ns by_ most).map D.int) (s := [.list ((placesL ns by_ most).map D.int)]) (Nat.le_refl _) (by simp) (by simp)
  have hb1 : (-4611686018427387904 : Int) ≤ 1 + wholeL ns by_ / 4 % most ∧ 1 + wholeL ns by_ / 4 % most < 4611686018427387904 := by omega
  have hwh : absI (cells ns).sum + 7 * by_ = wholeL ns by_ := rfl
  have hpl : (placesL ns by_ most).map D.int = (List.range (1 + wholeL ns by_ / 4 % most).toNat).map fun at_ : Nat => D.int (placeL ns by_ at_) := List.map_map
  rw [hpl] at hle ⊢
  simp only [List.nil_append] at hloop
  simp [d_law_places, pureF_ap, run_ap, B_law_places, hcells, hwh, h7, hm, hix, hb1, hr, hloop, hle]
/-- one to forty places from nought to a milliard -/
structure Pls (pl : List Int) : Prop where
  l1 : 1 ≤ pl.length
  l2 : pl.length ≤ 40
  b : ∀ x ∈ pl, 0 ≤ x ∧ x ≤ 1000000000
theorem asked_pl_ok {pl : List Int} (h : Pls pl) {d : D} {st : Sto} (hd : IsL st d (pl.map .int)) : d_asked_places [d] st = .ok .non st := by
  have h1 : L_asked_places_1 [some d, none] st = .ok ((pl.map fun _ => true).map .bl) st := by
    have := lc_bls (keep := keepL d (pl.map .int)) (vs := [1]) (g := gVar 1) (A := (dAnd (dFn 1 d_is_whole (aCons (dVar 1) aNil)) (dChain fLe fLe (dC (.int 0)) (dVar 1) (dC (.int 1000000000))))) (env := [some d, none]) (st := st) (enc := D.int) (fun _ => true) pl
      (fun x hx => ⟨_, rfl, by simp [wipeE, is_whole_int, (h.b x hx).1, (h.b x hx).2]⟩) (by have := h.l2; omega) hd.kp
    simp [L_asked_places_1, hd.g, this]
  have := h.l1
  have := h.l2
  have e1 : (1 : Int) ≤ (pl.length : Int) := by omega
  have e2 : (pl.length : Int) ≤ 40 := by omega
  simp [d_asked_places, pureF_ap, run_ap, B_asked_places, hd.ty, hd.gs, h1, Ty.sub, e1, e2, blsOf_map, -List.map_map]
theorem least_ok {pl : List Int} (h : Pls pl) {d : D} {st : Sto} (hd : IsL st d (pl.map .int)) : d_least_jumps [d] st = .ok (.int (dist pl (midL pl))) st := by
  have hl : (isort leI pl).length = pl.length := isort_length pl
  have := h.l1
  have := h.l2
  have hat : atI ((isort leI pl).map D.int) ((pl.length : Int) / 2) = some (.int (midL pl)) := by
    have := atI_int (l := isort leI pl) (k := (pl.length : Int) / 2) (by omega) (by rw [hl]; omega)
    rw [this]
    rfl
  have h1 : ∀ st, L_least_jumps_1 [some d, some (.lst ((isort leI pl).map .int)), none] st = .ok (((isort leI pl).map fun x => absI (x - midL pl)).map .int) st := fun st => by
    have := lc_ints (keep := fun _ => true) (vs := [2]) (g := gVar 2) (A := (dCall fAbs (aCons (dOp fSub (dVar 2) (dOp fIx (dVar 1) (dOp fDiv (dCall fLen (aCons (dVar 1) aNil)) (dC (.int 2))))) aNil))) (env := [some d, some (.lst ((isort leI pl).map .int)), none]) (st := st) (enc := D.int) (fun x => absI (x - midL pl)) (isort leI pl)
      (fun x hx => ⟨_, rfl, by simp [wipeE, hl, hat]⟩) (by omega) rfl
    simp [L_least_jumps_1, this]
  have hs : isort leD (pl.map .int) = (isort leI pl).map .int := isort_ints pl
  have hd2 : ((isort leI pl).map fun x => absI (x - midL pl)).sum = dist pl (midL pl) := least_eq pl
  simp [d_least_jumps, pureF_ap, run_ap, B_least_jumps, asked_pl_ok h hd, hd.g, srtK_some (sortOk_ints _), hs, h1, intsOf_map, -List.map_map, hd2]
theorem sortOk_pairs (l : List (Int × Int)) : sortOk (l.map pairD) = true := sortOk_map (fun _ _ => rfl) (fun _ => by simp [D.py, D.pys, PyData.depth, PyData.depthAll]) nofun
theorem meet_1 {pl : List Int} (h : Pls pl) {d : D} {st : Sto} (hd : IsL st d (pl.map .int)) : L_meet_1 [some d, none, none, none, none, none] st = .ok ((atsL pl).map pairD) st := by
  have := h.l2
  have := lc_map (keep := keepL d (pl.map .int)) (vs := [4, 5]) (g := gTupV [4, 5]) (A := (dTup (aCons (dVar 5) (aCons (dVar 4) aNil)))) (env := [some d, none, none, none, none, none]) (st := st) (enc := fun q : Int × Int => D.tup [.int q.2, .int q.1]) pairD (atsL pl)
      (fun x hx => ⟨_, rfl, by simp [wipeE]⟩) (by rw [atsL, List.length_map, List.length_range]; omega) hd.kp
  simp [L_meet_1, hd.g, zipIx_ints, this]
theorem line_get (pl : List Int) : ∀ i : Nat, i < pl.length → atI ((lineL pl).map pairD) (i : Int) = some (pairD ((lineL pl).getD i (0, 0))) := fun i hi => atI_nat (by
  have hl := line_len pl
  rw [List.getElem?_map, List.getElem?_eq_getElem (by omega), List.getD_eq_getElem?_getD, List.getElem?_eq_getElem (by omega)]; rfl)
theorem meet_2 {pl : List Int} (h : Pls pl) {d : D} {st : Sto} : L_meet_2 [some d, some (.lst ((lineL pl).map pairD)), some (.int pl.length), none, none, none] st = .ok ((prsL pl).map pairD) st := by
  have := h.l1
  have := h.l2
  have hb : (-4611686018427387904 : Int) ≤ (pl.length : Int) / 2 ∧ (pl.length : Int) / 2 < 4611686018427387904 := by omega
  have hr : rngD 0 ((pl.length : Int) / 2).toNat = (List.range (pl.length / 2)).map fun k : Nat => D.int (k : Int) := by
    rw [show ((pl.length : Int) / 2).toNat = pl.length / 2 by omega]
    exact rng0_map _
  have := lc_map (keep := fun _ => true) (vs := [4]) (g := gVar 4) (A := (dTup (aCons (dOp fIx (dOp fIx (dVar 1) (dVar 4)) (dC (.int 1))) (aCons (dOp fIx (dOp fIx (dVar 1) (dOp fSub (dOp fSub (dVar 2) (dC (.int 1))) (dVar 4))) (dC (.int 1))) aNil)))) (env := [some d, some (.lst ((lineL pl).map pairD)), some (.int pl.length), none, none, none]) (st := st)
      (enc := fun k : Nat => D.int (k : Int)) (fun i => pairD (((lineL pl).getD i (0, 0)).2, ((lineL pl).getD (pl.length - 1 - i) (0, 0)).2)) (List.range (pl.length / 2))
      (fun x hx => ⟨_, rfl, by
        have := List.mem_range.mp hx
        have e1 := line_get pl x (by omega)
        have e2 := line_get pl (pl.length - 1 - x) (by omega)
        rw [show ((pl.length - 1 - x : Nat) : Int) = (pl.length : Int) - 1 - x by omega] at e2
        have e3 : ∀ a b : Int, atI [D.int a, D.int b] 1 = some (.int b) := fun a b => rfl
        simp [wipeE, e1, e2, e3, -List.getD_eq_getElem?_getD]⟩) (by rw [List.length_range]; omega) rfl
  simp only [L_meet_2, lLc_ap, iRng1D_ap, aCons_ap, dOp_ap, dVar_ap, dC_ap, aNil_ap]
  simp [hb, hr, this, prsL, -List.getD_eq_getElem?_getD]
theorem mid_line {pl : List Int} (h : Pls pl) : ((lineL pl).getD (pl.length / 2) (0, 0)).1 = midL pl := by
  have hl := line_len pl
  have := h.l1
  rw [midL, ← line_fst, List.getD_eq_getElem?_getD, List.getD_eq_getElem?_getD, List.getElem?_map, List.getElem?_eq_getElem (by omega)]; rfl
theorem meet_init (st : Sto) (m : Int) {d : D} {prs : List D} (hd : ∀ r, IsL (st ++ r) d prs) : d_Meet_init [.loc st.length, .int m, d] (st ++ [.inst 2 []]) = .ok .non (st ++ [.inst 2 [.int m, .lst prs]]) := by
  simp [d_Meet_init, run_ap, B_Meet_init, (hd _).gs]
theorem meet_new (st : Sto) (m : Int) {d : D} {prs : List (Int × Int)} (hd : ∀ r, IsL (st ++ r) d (prs.map pairD)) : leave st (mkK st.length (d_Meet_init [.loc st.length, .int m, d] (st ++ [.inst 2 []]))) = .ok (.ins 2 [.int m, .lst (prs.map pairD)]) st := by
  rw [meet_init st m hd, mkK_ok]
  exact leave_inst (Nat.le_refl _) get_at0 (by
    have : D.caps st.length (prs.map pairD) = true := caps_map fun _ _ => rfl
    simp [this])
theorem meet_ok {pl : List Int} (h : Pls pl) {d : D} {st : Sto} (hd : IsL st d (pl.map .int)) : d_meet [d] st = .ok (.ins 2 [.int (midL pl), .lst ((prsL pl).map pairD)]) st := by
  have hl := line_len pl
  have := h.l1
  have := h.l2
  have hs : isort leD ((atsL pl).map pairD) = (lineL pl).map pairD := isortMap leD_pair _
  have hat3 := line_get pl (pl.length / 2) (by omega)
  rw [show ((pl.length / 2 : Nat) : Int) = (pl.length : Int) / 2 by omega] at hat3
  have e0 : ∀ a b : Int, atI [D.int a, D.int b] 0 = some (.int a) := fun a b => rfl
  have hnew := meet_new st (midL pl) (fun r => IsL.lst (st := st ++ r) (l := (prsL pl).map pairD))
  have hle : leave st (.ok (.ins 2 [.int (midL pl), .lst ((prsL pl).map pairD)]) st) = .ok (.ins 2 [.int (midL pl), .lst ((prsL pl).map pairD)]) st := leave_ok0 (by
    have : D.caps st.length ((prsL pl).map pairD) = true := caps_map fun _ _ => rfl
    simp [this]) nofun
  simp [d_meet, pureF_ap, run_ap, B_meet, asked_pl_ok h hd, meet_1 h hd, srtK_some (sortOk_pairs _), hs, hl, meet_2 h, hat3, e0, mid_line h, hnew, hle, -List.getD_eq_getElem?_getD]
theorem at_pair0 (q : Int × Int) : atI [D.int q.1, D.int q.2] 0 = some (.int q.1) := (rfl)
theorem at_pair1 (q : Int × Int) : atI [D.int q.1, D.int q.2] 1 = some (.int q.2) := (rfl)
theorem met_cons (q : Int × Int) (r : List (Int × Int)) : metL (q :: r) = q.1 :: q.2 :: metL r := (rfl)
theorem met_len (prs : List (Int × Int)) : (metL prs).length = 2 * prs.length := by
  induction prs with
  | nil => rfl
  | cons q r ih => rw [met_cons, List.length_cons, List.length_cons, List.length_cons, ih]; omega
def inR (n : Nat) (x : Int) : Bool := decide (0 ≤ x) && decide (x < (n : Int))
theorem met_mem {prs : List (Int × Int)} {q : Int × Int} (h : q ∈ prs) : q.1 ∈ metL prs ∧ q.2 ∈ metL prs :=
  ⟨List.mem_flatMap.mpr ⟨q, h, by simp⟩, List.mem_flatMap.mpr ⟨q, h, by simp⟩⟩
theorem shows_loop {keep : Sto → Bool} {d e : D} {st : Sto} (hk : ∀ acc, keep (st ++ [.list acc]) = true) : ∀ (r : List (Int × Int)) (acc : List Int) (v w : Option D), acc.length + 2 * r.length ≤ 1000 →
    ∃ v' w', forIt keep (gTupV [3, 4]) F_Meet_shows_1 (r.map pairD) [some d, some e, some (.loc st.length), v, w, none] (st ++ [.list (acc.map .int)]) = .nx [some d, some e, some (.loc st.length), v', w', none] (st ++ [.list ((acc ++ metL r).map .int)])
  | [], acc, v, w, _ => ⟨v, w, by simp [forIt_nil (hk _), metL]⟩
  | q :: r, acc, v, w, h => by
    rw [List.length_cons] at h
    obtain ⟨v', w', ih⟩ := shows_loop hk r (acc ++ [q.1, q.2]) (some (.int q.1)) (some (.int q.2)) (by rw [List.length_append]; show _ + 2 + _ ≤ _; omega)
    refine ⟨v', w', ?_⟩
    have h1 : acc.length ≤ 16777214 := by omega
    rw [List.append_assoc] at ih
    simp only [List.map_append, List.map_cons, List.map_nil] at ih
    rw [met_cons, List.map_cons, forIt_cons (hk _)]
    simp [F_Meet_shows_1, h1]
    exact ih
/-- what Meet shows -/
theorem shows_ok {pl : List Int} {prs : List (Int × Int)} {m : Int} (hl : pl.length ≤ 100) (hp : prs.length ≤ 100) {d s e : D} {st : Sto} (hd : IsL st d (pl.map .int)) (hs : insD st s = some (2, [.int m, e])) (he : IsL st e (prs.map pairD)) :
    d_Meet_shows [s, d] st = .ok (.bl (meetsF pl m prs)) st := by
  have hml := met_len prs
  have hs1 : ∀ r, insD (st ++ r) s = some (2, [.int m, e]) := fun r => insD_app hs
  have he1 : ∀ r, IsL (st ++ r) e (prs.map pairD) := fun r => he.app
  have hd1 : ∀ r, IsL (st ++ r) d (pl.map .int) := fun r => hd.app
  obtain ⟨v', w', hlo⟩ := shows_loop (d := s) (e := d) (st := st) (keep := keepL e (prs.map pairD)) (fun acc => (he1 _).kp) prs [] none none (by simp; omega)
  simp only [List.nil_append, List.map_nil] at hlo
  have h1 : ∀ v w, L_Meet_shows_1 [some s, some d, some (.loc st.length), v, w, none] (st ++ [.list ((metL prs).map .int)]) = .ok (((metL prs).map fun x => inR pl.length x).map .bl) (st ++ [.list ((metL prs).map .int)]) := fun v w => by
    have hL : IsL (st ++ [.list ((metL prs).map D.int)]) (.loc st.length) ((metL prs).map D.int) := IsL.loc (by simp)
    have := lc_bls (keep := keepL (.loc st.length) ((metL prs).map .int)) (vs := [3]) (g := gVar 3) (A := (dChain fLe fLt (dC (.int 0)) (dVar 3) (dCall fLen (aCons (dVar 1) aNil)))) (env := [some s, some d, some (.loc st.length), v, w, none]) (st := st ++ [.list ((metL prs).map .int)]) (enc := D.int) (fun x => inR pl.length x) (metL prs)
      (fun x hx => ⟨_, rfl, by
        by_cases h0 : 0 ≤ x
        · simp [wipeE, (hd1 _).gs, h0, inR]
        · simp [wipeE, (hd1 _).gs, h0, inR]⟩) (by omega) hL.kp
    simp [L_Meet_shows_1, this, -List.map_map]
  have h2 : ∀ v w v5, L_Meet_shows_3 [some s, some d, some (.loc st.length), v, w, v5] (st ++ [.list ((metL prs).map .int)]) = .ok ((pl.map fun x => absI (x - m)).map .int) (st ++ [.list ((metL prs).map .int)]) := fun v w v5 => by
    have := lc_ints (keep := keepL d (pl.map .int)) (vs := [3]) (g := gVar 3) (A := (dCall fAbs (aCons (dOp fSub (dVar 3) (dFld "place" (dVar 0))) aNil))) (env := [some s, some d, some (.loc st.length), v, w, v5]) (st := st ++ [.list ((metL prs).map .int)]) (enc := D.int) (fun x => absI (x - m)) pl
      (fun x hx => ⟨_, rfl, by simp [wipeE, hs1]⟩) (by omega) (hd1 _).kp
    simp [L_Meet_shows_3, (hd1 _).g, this, -List.map_map]
  have h3 : ∀ v w, (∀ q ∈ prs, (0 ≤ q.1 ∧ q.1 < pl.length) ∧ 0 ≤ q.2 ∧ q.2 < pl.length) → L_Meet_shows_2 [some s, some d, some (.loc st.length), v, w, none] (st ++ [.list ((metL prs).map .int)]) = .ok ((prs.map fun q => absI (pl.getD q.1.toNat 0 - pl.getD q.2.toNat 0)).map .int) (st ++ [.list ((metL prs).map .int)]) := fun v w hin => by
    have := lc_ints (keep := keepL e (prs.map pairD)) (vs := [3, 4]) (g := gTupV [3, 4]) (A := (dCall fAbs (aCons (dOp fSub (dOp fIx (dVar 1) (dVar 3)) (dOp fIx (dVar 1) (dVar 4))) aNil))) (env := [some s, some d, some (.loc st.length), v, w, none]) (st := st ++ [.list ((metL prs).map .int)]) (enc := pairD) (fun q => absI (pl.getD q.1.toNat 0 - pl.getD q.2.toNat 0)) prs
      (fun q hq => ⟨_, rfl, by
        have a1 := atI_int (hin q hq).1.1 (hin q hq).1.2
        have a2 := atI_int (hin q hq).2.1 (hin q hq).2.2
        simp [wipeE, (hd1 _).gs, a1, a2, -List.getD_eq_getElem?_getD]⟩) (by omega) (he1 _).kp
    simp [L_Meet_shows_2, hs1, (he1 _).g, this, -List.map_map, -List.getD_eq_getElem?_getD]
  have hn : (metL prs).length ≤ 4000 := by omega
  by_cases hnd : (metL prs).Nodup
  · have hnd' := nDist_nodup.mpr hnd
    cases ha : (metL prs).all (inR pl.length) with
    | true =>
      have hin : ∀ q ∈ prs, (0 ≤ q.1 ∧ q.1 < pl.length) ∧ 0 ≤ q.2 ∧ q.2 < pl.length := fun q hq => by
        have ha := List.all_eq_true.mp ha
        have a1 := ha _ (met_mem hq).1
        have a2 := ha _ (met_mem hq).2
        simp only [inR, Bool.and_eq_true, decide_eq_true_eq] at a1 a2
        exact ⟨a1, a2⟩
      have hres : meetsF pl m prs = decide (dist pl m = pairsApart pl prs) := by
        unfold meetsF
        rw [decide_eq_true hnd, show (metL prs).all (fun x => decide (0 ≤ x) && decide (x < pl.length)) = true from ha]
        rfl
      rw [hres]
      simp [d_Meet_shows, pureF_ap, run_ap, B_Meet_shows, hs1, (he1 _).g, hlo, hn, hnd', h1, h2, h3 _ _ hin, blsOf_map, intsOf_map, allB_map, ha, -List.map_map, -List.getD_eq_getElem?_getD, dist, pairsApart]
      rfl
    | false =>
      have hres : meetsF pl m prs = false := by
        unfold meetsF
        rw [show (metL prs).all (fun x => decide (0 ≤ x) && decide (x < pl.length)) = false from ha]
        simp
      rw [hres]
      simp [d_Meet_shows, pureF_ap, run_ap, B_Meet_shows, hs1, (he1 _).g, hlo, hn, hnd', h1, blsOf_map, allB_map, ha, -List.map_map]
  · have hnd2 : ¬ (nDist (metL prs) : Int) = ((metL prs).length : Int) := fun e => hnd (nDist_nodup.mp (by omega))
    have hres : meetsF pl m prs = false := by
      unfold meetsF
      rw [decide_eq_false hnd]
      rfl
    rw [hres]
    simp [d_Meet_shows, pureF_ap, run_ap, B_Meet_shows, hs1, (he1 _).g, hlo, hn, hnd2]
end Wt.Lk12

namespace Wt.Lk12
open PySem PySem.Spec PyProof.Rows L2 Wt
section
variable {x y : Int} {α : Type}
/-- does not see which of two numbers comes first -/
def SeeD (x y : Int) (A : En → Sto → Rs α) : Prop := ∀ r s, A (some (.int x) :: r) s = A (some (.int y) :: r) s
inductive FlS (x y : Int) : Fl → Fl → Prop
  | nx (r : En) (s : Sto) : FlS x y (.nx (some (.int x) :: r) s) (.nx (some (.int y) :: r) s)
  | ct (r : En) (s : Sto) : FlS x y (.ct (some (.int x) :: r) s) (.ct (some (.int y) :: r) s)
  | bk (r : En) (s : Sto) : FlS x y (.bk (some (.int x) :: r) s) (.bk (some (.int y) :: r) s)
  | rt (d : D) (s : Sto) : FlS x y (.rt d s) (.rt d s)
  | exc (c : Nat) (r : En) (s : Sto) : FlS x y (.exc c (some (.int x) :: r) s) (.exc c (some (.int y) :: r) s)
  | bad : FlS x y .bad .bad
def SeeS (x y : Int) (B : DenS) : Prop := ∀ r s, FlS x y (B (some (.int x) :: r) s) (B (some (.int y) :: r) s)
def SeeG (x y : Int) (g : DenG) : Prop := ∀ d r, (g d (some (.int x) :: r) = none ∧ g d (some (.int y) :: r) = none) ∨ ∃ r', g d (some (.int x) :: r) = some (some (.int x) :: r') ∧ g d (some (.int y) :: r) = some (some (.int y) :: r')
variable {A A2 A3 : Den} {As : DenL} {P R : DenB} {B B2 : DenS} {g : DenG} {I : DenI}
theorem sd_c (d : D) : SeeD x y (dC d) := fun _ _ => rfl
theorem sd_var (i : Nat) : SeeD x y (dVar (i + 1)) := fun _ _ => rfl
theorem sd_nil : SeeD x y aNil := fun _ _ => rfl
theorem sd_mk0 (c : Nat) : SeeD x y (dMk0 c) := fun _ _ => rfl
theorem sd_mod {m : Int} (h : x % 90 = y % 90) (hm : m ∣ 90) (h0 : 0 < m) : SeeD x y (dOp fMod (dVar 0) (dC (.int m))) := fun r s => by
  have e : x % m = y % m := by rw [← Int.emod_emod_of_dvd x hm, h, Int.emod_emod_of_dvd y hm]
  show noX (fMod (.int x) (.int m) s) = noX (fMod (.int y) (.int m) s)
  rw [fMod_int, fMod_int, e]
theorem sd_op {f : D → D → Sto → Rs D} (h : SeeD x y A) (h2 : SeeD x y A2) : SeeD x y (dOp f A A2) := fun r s => by simp only [dOp, h r, h2 r]
theorem sd_cons (h : SeeD x y A) (h2 : SeeD x y As) : SeeD x y (aCons A As) := fun r s => by simp only [aCons, h r, h2 r]
theorem sd_tup (h : SeeD x y As) : SeeD x y (dTup As) := fun r s => by simp only [dTup, h r]
theorem sd_lst (h : SeeD x y As) : SeeD x y (lLst As) := fun r s => by simp only [lLst, h r]
theorem sd_dat (h : SeeD x y As) : SeeD x y (dDat As) := fun r s => by simp only [dDat, h r]
theorem sd_cel (h : SeeD x y As) : SeeD x y (dCel As) := fun r s => by simp only [dCel, h r]
theorem sd_fn {n : Nat} {d : DenF} (h : SeeD x y As) : SeeD x y (dFn n d As) := fun r s => by simp only [dFn, h r]
theorem sd_meth {ms : Mths} (h : SeeD x y A) (h2 : SeeD x y As) : SeeD x y (dMeth ms A As) := fun r s => by simp only [dMeth, h r, h2 r]
theorem sd_mk {c n : Nat} {d : DenF} (h : SeeD x y As) : SeeD x y (dMk c n d As) := fun r s => by simp only [dMk, h r]
theorem sd_pure (h : SeeD x y A) : SeeD x y (dPure A) := fun r s => by simp only [dPure, h r]
theorem sd_fld {f : Str} (h : SeeD x y A) : SeeD x y (dFld f A) := fun r s => by simp only [dFld, h r]
theorem sd_isc {cs : List Nat} {c : Nat} (h : SeeD x y A) : SeeD x y (dIsC cs c A) := fun r s => by simp only [dIsC, h r]
theorem sd_test (h : SeeD x y A) : SeeD x y (dTest A) := fun r s => by simp only [dTest, h r]
theorem sd_or (h : SeeD x y P) (h2 : SeeD x y R) : SeeD x y (bOr P R) := fun r s => by simp only [bOr, h r, h2 r]
theorem sd_not (h : SeeD x y P) : SeeD x y (bNot P) := fun r s => by simp only [bNot, h r]
theorem sd_items (h : SeeD x y A) : SeeD x y (iLst A) := fun r s => by simp only [iLst, h r]
theorem sg_var (i : Nat) : SeeG x y (gVar (i + 1)) := fun d r => .inr ⟨r.set i (some d), rfl, rfl⟩
theorem sg_vars : ∀ (is : List Nat) (ds : List D) (r : En), (∀ i ∈ is, i ≠ 0) → (gVars is ds (some (.int x) :: r) = none ∧ gVars is ds (some (.int y) :: r) = none) ∨ ∃ r', gVars is ds (some (.int x) :: r) = some (some (.int x) :: r') ∧ gVars is ds (some (.int y) :: r) = some (some (.int y) :: r')
  | [], [], r, _ => .inr ⟨r, rfl, rfl⟩
  | [], _ :: _, r, _ => .inl ⟨rfl, rfl⟩
  | _ :: _, [], r, _ => .inl ⟨rfl, rfl⟩
  | 0 :: _, _ :: _, r, h => absurd rfl (h 0 (List.mem_cons_self ..))
  | (i + 1) :: is, d :: ds, r, h => sg_vars is ds (r.set i (some d)) fun j hj => h j (List.mem_cons_of_mem _ hj)
theorem sg_tup {is : List Nat} (h : ∀ i ∈ is, i ≠ 0) : SeeG x y (gTupV is) := fun d r => by
  cases d <;> first | exact .inl ⟨rfl, rfl⟩ | exact sg_vars is _ r h
theorem ss_then {a : Rs α} {f f2 : α → Sto → Fl} {r : En} (h : ∀ d s, FlS x y (f d s) (f2 d s)) : FlS x y (a.then (some (.int x) :: r) f) (a.then (some (.int y) :: r) f2) := by
  cases a with
  | ok d s => exact h d s
  | exc c s => exact .exc c r s
  | bad => exact .bad
theorem ss_nil : SeeS x y sNil := fun r s => .nx r s
theorem ss_seq (h : SeeS x y B) (h2 : SeeS x y B2) : SeeS x y (sSeq B B2) := fun r s => by
  have := h r s
  unfold sSeq
  generalize B (some (.int x) :: r) s = a at this
  generalize B (some (.int y) :: r) s = b at this
  cases this with
  | nx r s => exact h2 r s
  | ct r s => exact .ct r s
  | bk r s => exact .bk r s
  | rt d s => exact .rt d s
  | exc c r s => exact .exc c r s
  | bad => exact .bad
theorem ss_g (h : SeeG x y g) (r : En) (d : D) (s : Sto) : FlS x y (match g d (some (.int x) :: r) with | some e => Fl.nx e s | none => .bad) (match g d (some (.int y) :: r) with | some e => Fl.nx e s | none => .bad) := by
  rcases h d r with ⟨a, b⟩ | ⟨r', a, b⟩
  · rw [a, b]; exact .bad
  · rw [a, b]; exact .nx r' s
theorem ss_asg (h : SeeG x y g) (h2 : SeeD x y A) : SeeS x y (sAsg g A) := fun r s => by
  unfold sAsg
  rw [h2 r s]
  exact ss_then fun d s => ss_g h r d s
theorem ss_par {is : List Nat} (h : ∀ i ∈ is, i ≠ 0) (h2 : SeeD x y As) : SeeS x y (sPar is As) := fun r s => by
  unfold sPar
  rw [h2 r s]
  refine ss_then fun d s => ?_
  rcases sg_vars is d r h with ⟨a, b⟩ | ⟨r', a, b⟩
  · rw [a, b]; exact .bad
  · rw [a, b]; exact .nx r' s
theorem ss_if (h : SeeD x y P) (h1 : SeeS x y B) (h2 : SeeS x y B2) : SeeS x y (sIf P B B2) := fun r s => by
  unfold sIf
  rw [h r s]
  refine ss_then fun d s => ?_
  cases d
  · exact h2 r s
  · exact h1 r s
theorem ss_ret (h : SeeD x y A) : SeeS x y (sRet A) := fun r s => by
  unfold sRet
  rw [h r s]
  exact ss_then fun d s => .rt d s
theorem ss_expr (h : SeeD x y A) : SeeS x y (sExpr A) := fun r s => by
  unfold sExpr
  rw [h r s]
  exact ss_then fun d s => .nx r s
theorem ss_it {keep : Sto → Bool} (hg : SeeG x y g) (h : SeeS x y B) : ∀ (l : List D) (r : En) (s : Sto), FlS x y (forIt keep g B l (some (.int x) :: r) s) (forIt keep g B l (some (.int y) :: r) s)
  | [], r, s => by
    unfold forIt
    split
    · exact .nx r s
    · exact .bad
  | d :: l, r, s => by
    unfold forIt
    split
    · rcases hg d r with ⟨a, b⟩ | ⟨r', a, b⟩
      · rw [a, b]; exact .bad
      · rw [a, b]
        have := h r' s
        dsimp only
        generalize B (some (.int x) :: r') s = p at this
        generalize B (some (.int y) :: r') s = q at this
        cases this with
        | nx r s => exact ss_it hg h l r s
        | ct r s => exact ss_it hg h l r s
        | bk r s => exact .nx r s
        | rt d s => exact .rt d s
        | exc c r s => exact .exc c r s
        | bad => exact .bad
    · exact .bad
theorem ss_for (hi : SeeD x y I) (hg : SeeG x y g) (h : SeeS x y B) : SeeS x y (sFor I g B) := fun r s => by
  unfold sFor
  rw [hi r s]
  exact ss_then fun i s => ss_it hg h _ r s
theorem ss_setl (h : SeeD x y A) (h2 : SeeD x y A2) (h3 : SeeD x y A3) : SeeS x y (sSetL A A2 A3) := fun r s => by
  unfold sSetL
  simp only [h r, h2 r, h3 r]
  refine ss_then fun v s => ss_then fun d s => ss_then fun k s => ?_
  split
  · split
    · split
      · exact .nx r _
      · exact .bad
    · exact .bad
  · exact .bad
theorem see_run {n : Nat} (h : SeeS x y B) (s : Sto) : run n B [.int x] s = run n B [.int y] s := by
  unfold run
  have := h (List.replicate (n - 1) none) s
  simp only [List.map_cons, List.map_nil, List.cons_append, List.nil_append, List.length_cons, List.length_nil, Nat.zero_add]
  generalize B (some (.int x) :: List.replicate (n - 1) none) s = p at this
  generalize B (some (.int y) :: List.replicate (n - 1) none) s = q at this
  cases this <;> rfl
end
theorem see_room {x y : Int} (h : x % 90 = y % 90) : SeeS x y B_law_room_right := by
  unfold B_law_room_right
  repeat' first | exact sd_mod h (by decide) (by decide) | exact sd_c _ | exact sd_var _ | exact sd_nil | exact sd_mk0 _ | apply sd_op | apply sd_cons | apply sd_tup | apply sd_lst | apply sd_dat | apply sd_cel | apply sd_fn | apply sd_meth | apply sd_mk | apply sd_pure | apply sd_fld | apply sd_isc | apply sd_test | apply sd_or | apply sd_not | apply sd_items | exact sg_var _ | exact sg_tup (by decide) | exact ss_nil | apply ss_seq | apply ss_asg | apply ss_par (by decide) | apply ss_if | apply ss_ret | apply ss_expr | apply ss_for | apply ss_setl
theorem see_moves {x y : Int} (h : x % 90 = y % 90) : SeeS x y B_law_moves_right := by
  unfold B_law_moves_right
  repeat' first | exact sd_mod h (by decide) (by decide) | exact sd_c _ | exact sd_var _ | exact sd_nil | exact sd_mk0 _ | apply sd_op | apply sd_cons | apply sd_tup | apply sd_lst | apply sd_dat | apply sd_cel | apply sd_fn | apply sd_meth | apply sd_mk | apply sd_pure | apply sd_fld | apply sd_isc | apply sd_test | apply sd_or | apply sd_not | apply sd_items | exact sg_var _ | exact sg_tup (by decide) | exact ss_nil | apply ss_seq | apply ss_asg | apply ss_par (by decide) | apply ss_if | apply ss_ret | apply ss_expr | apply ss_for | apply ss_setl
def isT0 (r : Rs D) : Bool := match r with | .ok (.bl true) [] => true | _ => false
theorem isT0_eq {r : Rs D} (h : isT0 r = true) : r = .ok (.bl true) [] := by
  unfold isT0 at h
  split at h
  · rfl
  · cases h
theorem line_ends_ok : d_law_line_ends_right [] [] = .ok (.bl true) [] := isT0_eq (by decide +kernel)
theorem room_all : ∀ k : Fin 90, isT0 (d_law_room_right [.int (k.val : Int)] []) = true := by decide +kernel
theorem moves_all : ∀ k : Fin 90, isT0 (d_law_moves_right [.int (k.val : Int)] []) = true := by decide +kernel
theorem fin90 (w : Int) : ∃ k : Fin 90, w % 90 = (k.val : Int) % 90 := by
  have h0 := Int.emod_nonneg w (by decide : (90 : Int) ≠ 0)
  have h1 := Int.emod_lt_of_pos w (by decide : (0 : Int) < 90)
  exact ⟨⟨(w % 90).toNat, by omega⟩, by show _ = (((w % 90).toNat : Nat) : Int) % 90; omega⟩
theorem room_ok (w : Int) : d_law_room_right [.int w] [] = .ok (.bl true) [] := by
  obtain ⟨k, hk⟩ := fin90 w
  rw [← isT0_eq (room_all k)]
  show leave [] _ = leave [] _
  rw [see_run (see_room hk)]
theorem moves_ok (w : Int) : d_law_moves_right [.int w] [] = .ok (.bl true) [] := by
  obtain ⟨k, hk⟩ := fin90 w
  rw [← isT0_eq (moves_all k)]
  show leave [] _ = leave [] _
  rw [see_run (see_moves hk)]
end Wt.Lk12

namespace Wt.Lk12
open PySem PySem.Spec PyProof.Rows L2 Wt
/-- is plain, seen to this depth -/
def Pl (n : Nat) (d : D) : Prop := ∀ st, d_law_plain n [d] st = .ok (.bl true) st
theorem plain_int (n : Nat) (x : Int) : Pl (n + 1) (.int x) := fun st => by
  simp [d_law_plain, pureF_ap, run_ap, B_law_plain, Ty.sub]
theorem plain_str (n : Nat) (x : Str) : Pl (n + 1) (.str x) := fun st => by
  simp [d_law_plain, pureF_ap, run_ap, B_law_plain, Ty.sub]
theorem seq_l {st : Sto} {d : D} {l : List D} (hd : IsL st d l) (r : En) : iSeqD (dVar 0) (some d :: r) st = .ok (l, keepL d l) st := by
  have hg := hd.g
  cases d with
  | tup m => cases hg
  | _ => simp [iSeqD, hg]
theorem seq_t {st : Sto} {l : List D} (r : En) : iSeqD (dVar 0) (some (.tup l) :: r) st = .ok (l, fun _ => true) st := (rfl)
theorem plain_l {n : Nat} {l : List D} (h : ∀ x ∈ l, Pl n x) (hl : l.length ≤ 10000) {d : D} {st : Sto} (hd : IsL st d l) : d_law_plain (n + 1) [d] st = .ok (.bl true) st := by
  have h1 : L_law_plain_1 (d_law_plain n) [some d, none] st = .ok ((l.map fun _ => true).map .bl) st := by
    have := lc_bls (keep := keepL d l) (vs := [1]) (g := gVar 1) (A := dFn 1 (d_law_plain n) (aCons (dVar 1) aNil)) (env := [some d, none]) (st := st) (enc := id) (fun _ => true) l
      (fun x hx => ⟨_, rfl, by have := h x hx st; simp [wipeE, this]⟩) (by omega) (hd.kp)
    simp [L_law_plain_1, seq_l hd, List.map_id] at this ⊢
    exact this
  simp [d_law_plain, pureF_ap, run_ap, B_law_plain, hd.ty, Ty.sub, h1, blsOf_map, -List.map_map]
theorem plain_lst {n : Nat} {l : List D} (h : ∀ x ∈ l, Pl n x) (hl : l.length ≤ 10000) : Pl (n + 1) (.lst l) := fun _ => plain_l h hl IsL.lst
theorem plain_tup {n : Nat} {l : List D} (h : ∀ x ∈ l, Pl n x) (hl : l.length ≤ 10000) : Pl (n + 1) (.tup l) := fun st => by
  have h1 : L_law_plain_1 (d_law_plain n) [some (.tup l), none] st = .ok ((l.map fun _ => true).map .bl) st := by
    have := lc_bls (keep := fun _ => true) (vs := [1]) (g := gVar 1) (A := dFn 1 (d_law_plain n) (aCons (dVar 1) aNil)) (env := [some (.tup l), none]) (st := st) (enc := id) (fun _ => true) l
      (fun x hx => ⟨_, rfl, by have := h x hx st; simp [wipeE, this]⟩) (by omega) rfl
    simp [L_law_plain_1, seq_t, List.map_id] at this ⊢
    exact this
  simp [d_law_plain, pureF_ap, run_ap, B_law_plain, Ty.sub, h1, blsOf_map, -List.map_map]
theorem plain_cmd (n : Nat) (c : Cmd) : Pl (n + 2) (cmdD c) := plain_tup (fun x hx => by
  simp only [List.mem_cons, List.not_mem_nil, or_false] at hx
  rcases hx with rfl | rfl | rfl | rfl
  · exact plain_int n _
  · exact plain_int n _
  · exact plain_str n _
  · exact plain_int n _) (by show (4 : Nat) ≤ _; decide)
theorem plain_prs (n : Nat) {l : List (Int × Int)} (hl : l.length ≤ 10000) : Pl (n + 3) (.lst (l.map pairD)) := plain_lst (fun x hx => by
  obtain ⟨q, _, rfl⟩ := List.mem_map.mp hx
  refine plain_tup (fun x hx => ?_) (by show (2 : Nat) ≤ _; decide)
  simp only [List.mem_cons, List.not_mem_nil, or_false] at hx
  rcases hx with rfl | rfl <;> exact plain_int n _) (by rw [List.length_map]; exact hl)
theorem truths_ok (l : List Bool) (hl : l.length ≤ 1000) (st : Sto) : d_law_truths [.lst (l.map .bl)] st = .ok (.bl true) st := by
  have h1 : L_law_truths_1 [some (.lst (l.map .bl)), none] st = .ok ((l.map fun _ => true).map .bl) st := by
    have := lc_bls (keep := fun _ => true) (vs := [1]) (g := gVar 1) (A := dIsB .bool (dVar 1)) (env := [some (.lst (l.map .bl)), none]) (st := st) (enc := D.bl) (fun _ => true) l
      (fun x hx => ⟨_, rfl, by simp [wipeE, Ty.sub]⟩) (by omega) rfl
    simp [L_law_truths_1, this, -List.map_map]
  simp [d_law_truths, pureF_ap, run_ap, B_law_truths, h1, blsOf_map, -List.map_map]
theorem told_ok {L t : Int} (h1 : 1 ≤ L) (h2 : L ≤ 1000000000) {one other : List Cmd} (V : Vcs L one) (W : Vcs L other) (ht : 0 ≤ t) (hl : (unL one other t).length < 64) {pl : List Int} (P : Pls pl) (st : Sto) :
    d_law_told_right [.int L, .lst (one.map cmdD), .lst (other.map cmdD), .int t, .lst (pl.map .int)] st = .ok (.bl true) st := by
  have l1 := V.l
  have l2 := W.l
  have i1 : ∀ s, IsL s (.lst (one.map cmdD)) (one.map cmdD) := fun _ => IsL.lst
  have i2 : ∀ s, IsL s (.lst (other.map cmdD)) (other.map cmdD) := fun _ => IsL.lst
  have i3 : ∀ s, IsL s (.lst (pl.map .int)) (pl.map .int) := fun _ => IsL.lst
  have a1 := fun s => stand_eq h1 h2 V ht (i1 s)
  have a2 := fun s => judged_eq h1 h2 V W ht (i1 s) (i2 s) hl
  have a3 := fun s => meet_ok P (i3 s)
  have a4 := fun s => at_most_eq h1 h2 V W ht (i1 s) (i2 s) hl
  have a5 := fun s => least_ok P (i3 s)
  have hp : (prsL pl).length ≤ 100 := by
    have := P.l2
    rw [prsL, List.length_map, List.length_range]
    omega
  have hp2 : pl.length ≤ 100 := by have := P.l2; omega
  have a6 := fun s => shows_ok (m := midL pl) hp2 hp (s := .ins 2 [.int (midL pl), .lst ((prsL pl).map pairD)]) (i3 s) rfl IsL.lst
  have a7 := fun s => meet_new s 0 (fun r => IsL.lst (st := s ++ r) (l := ([] : List (Int × Int)).map pairD))
  have a8 := fun s => shows_ok (m := 0) (prs := []) hp2 (by decide) (s := .ins 2 [.int 0, .lst []]) (i3 s) rfl IsL.lst
  have a9 := fun s z => together_eq (L := L) (t := t) (i1 s) (i2 s) V.ok W.ok (by omega) (by omega) z
  obtain ⟨q, hq⟩ : ∃ q, q = standL L one t := ⟨_, rfl⟩
  rw [← hq] at a1
  obtain ⟨p, g⟩ := q
  simp only [standD] at a1
  clear hq
  simp only [List.map_nil] at a7 a8
  have pl4 : ∀ x ∈ [D.int p, .int (atT one other t), .int (dist pl (midL pl)), .int (midL pl), .lst ((prsL pl).map pairD)], Pl 5 x := fun x hx => by
    simp only [List.mem_cons, List.not_mem_nil, or_false] at hx
    rcases hx with rfl | rfl | rfl | rfl | rfl
    · exact plain_int 4 _
    · exact plain_int 4 _
    · exact plain_int 4 _
    · exact plain_int 4 _
    · exact plain_prs 2 (by omega)
  rcases judg_cases (by omega) V.v W.v t with ⟨hs, e⟩ | ⟨hs, c, r, hu, e, hap, hc, _⟩
  · have b1 := plain_l pl4 (by show (5 : Nat) ≤ _; decide) (d := .loc st.length) (st := st ++ [.list [D.int p, .int (atT one other t), .int (dist pl (midL pl)), .int (midL pl), .lst ((prsL pl).map pairD)]]) (IsL.loc (by simp))
    have b2 := fun x y z w u s => truths_ok [x, y, z, w, u] (by show (5 : Nat) ≤ _; decide) s
    simp only [List.map_cons, List.map_nil] at b2
    rw [e] at a2
    simp [d_law_told_right, pureF_ap, run_ap, B_law_told_right, a1, a2, a3, a4, a5, a6, a7, a8, a9, b1, b2, ms_shows, Ty.sub]
  · have b1 := plain_l (l := [D.int p, .int (atT one other t), .int (dist pl (midL pl)), .int (midL pl), .lst ((prsL pl).map pairD), cmdD c]) (fun x hx => by
      rw [show [D.int p, .int (atT one other t), .int (dist pl (midL pl)), .int (midL pl), .lst ((prsL pl).map pairD), cmdD c] = [D.int p, .int (atT one other t), .int (dist pl (midL pl)), .int (midL pl), .lst ((prsL pl).map pairD)] ++ [cmdD c] from rfl] at hx
      rcases List.mem_append.mp hx with hx | hx
      · exact pl4 x hx
      · rw [List.mem_singleton.mp hx]; exact plain_cmd 3 c) (by show (6 : Nat) ≤ _; decide) (d := .loc st.length) (st := st ++ [.list [D.int p, .int (atT one other t), .int (dist pl (midL pl)), .int (midL pl), .lst ((prsL pl).map pairD), cmdD c]]) (IsL.loc (by simp))
    have b2 := fun x y z w u s => truths_ok [x, y, z, w, u] (by show (5 : Nat) ≤ _; decide) s
    have b3 := fun s => apart_eq (L := L) (t := t) (i1 s) (i2 s) V.ok W.ok (by omega) (by omega) hc
    simp only [List.map_cons, List.map_nil] at b2
    rw [e] at a2
    simp only [cmdD] at a2 b1 b3
    simp [d_law_told_right, pureF_ap, run_ap, B_law_told_right, a1, a2, a3, a4, a5, a6, a7, a8, a9, b1, b2, b3, ms_shows, Ty.sub]
end Wt.Lk12

namespace Wt.Lk12
open PySem PySem.Spec PyProof.Rows L2 Wt
theorem Nx.of {r : Fl} {e : En} {s : Sto} {P : En → Sto → Prop} (h : r = .nx e s) (p : P e s) : Nx r P := by rw [h]; exact p
theorem Nx.it {keep : Sto → Bool} {g : DenG} {B : DenS} {x : D} {r : List D} {e e1 : En} {s : Sto} {P Q : En → Sto → Prop} (hk : keep s = true) (hg : g x e = some e1) (h : Nx (B e1 s) Q) (k : ∀ e s, Q e s → Nx (forIt keep g B r e s) P) : Nx (forIt keep g B (x :: r) e s) P := by
  obtain ⟨e2, s2, h1, h2⟩ := h.ex
  rw [forIt_cons hk, hg, entK_some, h1, bodyK_nx]
  exact k _ _ h2
theorem un_short {one other : List Cmd} {t : Int} {n m : Nat} (h : one.length ≤ n) (h2 : other.length ≤ m) : (unL one other t).length ≤ n + m := by
  have n1 : (one.filter fun c => !decide (c ∈ other) && decide (c.1 ≤ t)).length ≤ one.length := List.length_filter_le _ _
  have n2 : (other.filter fun c => !decide (c ∈ one) && decide (c.1 ≤ t)).length ≤ other.length := List.length_filter_le _ _
  unfold unL
  rw [List.length_append]
  omega
theorem law_F {ns : List Int} (hns : ∀ z ∈ ns, Bd 1048576 z) (wh : Int) {bi : Int} (b0 : 0 ≤ bi) (b1 : bi ≤ 3) (s : Sto) (v4 v5 : Option D) :
    Nx (F_law_1 [some (.scr (ns.map .int)), some (.int wh), some (.int (lenL wh)), some (.int bi), v4, v5] s) (fun e s' => ∃ v3 v4 v5, e = [some (.scr (ns.map .int)), some (.int wh), some (.int (lenL wh)), v3, v4, v5] ∧ s' = s) := by
  obtain ⟨L, hL⟩ : ∃ L, L = lenL wh := ⟨_, rfl⟩
  have L1 := (len_in wh).1
  have L2 := (len_in wh).2
  rw [← hL] at L1 L2 ⊢
  have e1 := law_commands_eq hns (by_ := bi) (most := 5) (L := L) (mv := true) b0 (by omega) (by decide) (by decide) (by omega)
  have e2 := law_commands_eq hns (by_ := bi + 2) (most := 5) (L := L) (mv := true) (by omega) (by omega) (by decide) (by decide) (by omega)
  have e3 := law_places_eq hns (by_ := bi) (most := 8) b0 (by omega) (by decide) (by decide)
  have n1 := cmds_len ns bi L true (most := 5) (by decide)
  have n2 := cmds_len ns (bi + 2) L true (most := 5) (by decide)
  have n4 := places_len ns bi (most := 8) (by decide)
  have n5 := places_in ns bi 8
  have c1 := cmds_vcs ns (by_ := bi) (most := 5) (L := L) true (by omega) (by decide) (by decide)
  have c2 := cmds_vcs ns (by_ := bi + 2) (most := 5) (L := L) true (by omega) (by decide) (by decide)
  have P : Pls (placesL ns bi 8) := ⟨n4.1, by have : (placesL ns bi 8).length ≤ 8 := n4.2; omega, n5⟩
  obtain ⟨t, ht, hat⟩ : ∃ t : Int, 0 ≤ t ∧ atI [D.int 0, D.int 9, D.int 200] ((wh + bi) % 3) = some (.int t) := by
    have h : (wh + bi) % 3 = 0 ∨ (wh + bi) % 3 = 1 ∨ (wh + bi) % 3 = 2 := by omega
    rcases h with h | h | h <;> rw [h]
    · exact ⟨0, by decide, rfl⟩
    · exact ⟨9, by decide, rfl⟩
    · exact ⟨200, by decide, rfl⟩
  have hu : (unL (cmdsL ns bi 5 L true) (cmdsL ns (bi + 2) 5 L true) t).length < 64 := by
    have := un_short (t := t) n1 n2
    have h5 : (5 : Int).toNat = 5 := rfl
    omega
  have a1 := told_ok L1 L2 c1 c2 ht hu P
  generalize cmdsL ns bi 5 L true = one at *
  generalize cmdsL ns (bi + 2) 5 L true = other at *
  generalize placesL ns bi 8 = pl at *
  refine Nx.of (s := s) (e := [some (.scr (ns.map .int)), some (.int wh), some (.int L), some (.int bi), some (.lst (one.map cmdD)), some (.lst (other.map cmdD))]) ?_ ⟨_, _, _, rfl, rfl⟩
  generalize D.scr (ns.map D.int) = d at *
  generalize one.map cmdD = m1 at *
  generalize other.map cmdD = m2 at *
  generalize pl.map D.int = m3 at *
  simp [F_law_1, e1, e2, e3, hat, a1]
theorem law_true : ∀ ns : List Int, ns.length ≤ 63 → (∀ z ∈ ns, Builtin.Int.intBits z ≤ 1048576) → ∃ st, d_law [.scr (ns.map .int)] [] = .ok (.bl true) st := fun ns hl hb => by
  have hns : ∀ z ∈ ns, Bd 1048576 z := fun z hz => Bd.bits (hb z hz)
  have hcut : cutD (ns.map D.int) none (some 63) = (ns.take 63).map D.int := by rw [List.map_take]; exact cutD_take _ 63
  obtain ⟨wh, hwh⟩ : ∃ w, w = absI (ns.take 63).sum := ⟨_, rfl⟩
  have hlen := fun s => law_length_eq wh s
  have h : Nx (forIt (fun _ => true) (gVar 3) F_law_1 [.int 0, .int 1, .int 3] [some (.scr (ns.map .int)), some (.int wh), some (.int (lenL wh)), none, none, none] []) (fun e s => ∃ v3 v4 v5, e = [some (.scr (ns.map .int)), some (.int wh), some (.int (lenL wh)), v3, v4, v5] ∧ s = []) := by
    refine Nx.it rfl rfl (law_F hns wh (bi := 0) (by decide) (by decide) [] none none) ?_
    rintro e s5 ⟨v3, v4, v5, rfl, rfl⟩
    refine Nx.it rfl rfl (law_F hns wh (bi := 1) (by decide) (by decide) [] v4 v5) ?_
    rintro e s5 ⟨v3, v4, v5, rfl, rfl⟩
    refine Nx.it rfl rfl (law_F hns wh (bi := 3) (by decide) (by decide) [] v4 v5) ?_
    rintro e s5 ⟨v3, v4, v5, rfl, rfl⟩
    rw [forIt_nil rfl]
    exact ⟨_, _, _, rfl, rfl⟩
  obtain ⟨e, s', hf, v3, v4, v5, rfl, rfl⟩ := h.ex
  have r1 := room_ok wh
  have r2 := moves_ok wh
  have r3 := line_ends_ok
  refine ⟨[], ?_⟩
  simp [d_law, run_ap, B_law, hcut, ← hwh, hlen, hf, r1, r2, r3, -List.map_take]
end Wt.Lk12

namespace Wt.Lk12
open PySem PySem.Spec PyProof.Rows L2 Wt
def topS (i : Nat) : Stmt := PySem.Challenge.pw_watchtogether_k12_whole_numbers.main.body.getD i (.Pass ⟨0, 0, 0, 0⟩)
section
variable {P : Program} {w : World} {K : PySem.W.Frag} {mg : Str → Option Value} {base : Heap} {G : GT}
abbrev s_law_line_ends_right : Stmt := topS 58
def LT_0 : LamT := lamT (kidE (kidE (exS (kidS ((defBody s_law_line_ends_right).getD 0 nilS) 0)) 0) 1) "_law_line_ends_right.<locals>.<lambda>"
abbrev n_lam0 : List Str := ["_law_one"]
theorem ls_0 : LScope n_lam0 ["_law_one"] [] LT_0 := ⟨NdefX.nscope_by (by decide +kernel), fun q cl pm cv ctv us hl => match us, hl with | [_], _ => rfl⟩
theorem ok_lam0 (hL : G.lam 0 = some LT_0) (hv : G.cv = []) (c_stand : Cal P w K mg base G "stand" 4 3 d_stand) :
  LOk P w K mg base G 5 0 1 (d_lam0 G.cd) := by
  refine lok_of (nN := 1) (B := B_lam0) hL ls_0 rfl rfl (cap0 (by decide +kernel) hv) ?_
  intro cl c' f A outer s H E hr
  refine ed_cal c_stand (hr.mono (by decide)) (L2N.takes_of rfl rfl rfl rfl) ?_
  refine ea_cons ?_ ?_
  exact ed_int
  refine ea_cons ?_ ?_
  exact ed_var 0
  refine ea_cons ?_ ?_
  exact ed_non
  exact ea_nil
def LT_1 : LamT := lamT (kidE (kidE (exS (kidS ((defBody s_law_line_ends_right).getD 0 nilS) 1)) 0) 1) "_law_line_ends_right.<locals>.<lambda>"
abbrev n_lam1 : List Str := ["_law_two"]
theorem ls_1 : LScope n_lam1 ["_law_two"] [] LT_1 := ⟨NdefX.nscope_by (by decide +kernel), fun q cl pm cv ctv us hl => match us, hl with | [_], _ => rfl⟩
theorem ok_lam1 (hL : G.lam 1 = some LT_1) (hv : G.cv = []) (c_at_most : Cal P w K mg base G "at_most" 5 4 d_at_most) :
  LOk P w K mg base G 6 1 1 (d_lam1 G.cd) := by
  refine lok_of (nN := 1) (B := B_lam1) hL ls_1 rfl rfl (cap0 (by decide +kernel) hv) ?_
  intro cl c' f A outer s H E hr
  refine ed_cal c_at_most (hr.mono (by decide)) (L2N.takes_of rfl rfl rfl rfl) ?_
  refine ea_cons ?_ ?_
  exact ed_int
  refine ea_cons ?_ ?_
  refine ed_dat ?_
  refine el_lst ?_
  exact ea_nil
  refine ea_cons ?_ ?_
  exact ed_var 0
  refine ea_cons ?_ ?_
  exact ed_non
  exact ea_nil
def LT_2 : LamT := lamT (kidE (kidE (exS (kidS ((defBody s_law_line_ends_right).getD 0 nilS) 2)) 0) 1) "_law_line_ends_right.<locals>.<lambda>"
abbrev n_lam2 : List Str := ["_law_this"]
theorem ls_2 : LScope n_lam2 ["_law_this"] [] LT_2 := ⟨NdefX.nscope_by (by decide +kernel), fun q cl pm cv ctv us hl => match us, hl with | [_], _ => rfl⟩
theorem ok_lam2 (hL : G.lam 2 = some LT_2) (hv : G.cv = []) (h_order : MD P w K mg base G 3 "order" ms_order) (m_Room : Mkr P w K mg base G "Room" 5 3 3 d_Room_init) :
  LOk P w K mg base G 5 2 1 (d_lam2 G.cd) := by
  refine lok_of (nN := 1) (B := B_lam2) hL ls_2 rfl rfl (cap0 (by decide +kernel) hv) ?_
  intro cl c' f A outer s H E hr
  refine ed_meth (pl := _) h_order ?_ (hr.mono (by decide)) (L2N.takes_of rfl rfl rfl rfl) ?_
  refine ed_mkr m_Room (hr.mono (by decide)) (L2N.takes_of rfl rfl rfl rfl) ?_
  refine ea_cons ?_ ?_
  exact ed_int
  refine ea_cons ?_ ?_
  exact ed_int
  exact ea_nil
  refine ea_cons ?_ ?_
  exact ed_int
  refine ea_cons ?_ ?_
  exact ed_var 0
  refine ea_cons ?_ ?_
  exact ed_non
  exact ea_nil
def LT_3 : LamT := lamT (kidE (kidE (exS (kidS ((defBody s_law_line_ends_right).getD 1 nilS) 0)) 0) 1) "_law_line_ends_right.<locals>.<lambda>"
abbrev n_lam3 : List Str := ["_law_tale"]
theorem ls_3 : LScope n_lam3 ["_law_tale"] [] LT_3 := ⟨NdefX.nscope_by (by decide +kernel), fun q cl pm cv ctv us hl => match us, hl with | [_], _ => rfl⟩
theorem ok_lam3 (hL : G.lam 3 = some LT_3) (hv : G.cv = []) (c_tale_judged : Cal P w K mg base G "tale_judged" 6 3 d_tale_judged) :
  LOk P w K mg base G 7 3 1 (d_lam3 G.cd) := by
  refine lok_of (nN := 1) (B := B_lam3) hL ls_3 rfl rfl (cap0 (by decide +kernel) hv) ?_
  intro cl c' f A outer s H E hr
  refine ed_cal c_tale_judged (hr.mono (by decide)) (L2N.takes_of rfl rfl rfl rfl) ?_
  refine ea_cons ?_ ?_
  exact ed_int
  refine ea_cons ?_ ?_
  exact ed_int
  refine ea_cons ?_ ?_
  exact ed_var 0
  exact ea_nil
abbrev s_is_whole : Stmt := topS 17
abbrev n_is_whole : List Str := ["thing"]
theorem sc_is_whole : FnScope n_is_whole ["thing"] (defScope s_is_whole) := ⟨rfl, rfl, rfl, by decide +kernel, rfl, by decide +kernel, by decide +kernel⟩
theorem ok_is_whole {a : Addr} {fd : FuncData} (F : Fun K "is_whole" "is_whole" s_is_whole a fd) (b : Binds K fd ["thing"] []) (b_bool : mg "bool" = none) (b_int : mg "int" = none) (b_isinstance : mg "isinstance" = none) :
  FD P w K mg base G 1 a 1 d_is_whole := by
  apply FD.pure
  refine fd_of (nN := 1) (B := B_is_whole) F sc_is_whole rfl rfl b ?_
  intro cdv A outer s H E hr
  refine ess_one ?_
  refine es_ret ?_
  refine ed_and ?_ ?_
  refine ed_isB (t := .int) b_isinstance (by decide) b_int (by decide +kernel) ?_
  exact ed_var 0
  refine ed_one ?_
  refine ed_not ?_
  refine ed_isB (t := .bool) b_isinstance (by decide) b_bool (by decide +kernel) ?_
  exact ed_var 0
abbrev s_asked_length : Stmt := topS 18
abbrev n_asked_length : List Str := ["length"]
theorem sc_asked_length : FnScope n_asked_length ["length"] (defScope s_asked_length) := ⟨rfl, rfl, rfl, by decide +kernel, rfl, by decide +kernel, by decide +kernel⟩
theorem ok_asked_length {a : Addr} {fd : FuncData} (F : Fun K "asked_length" "asked_length" s_asked_length a fd) (b : Binds K fd ["length"] []) (c_is_whole : Cal P w K mg base G "is_whole" 1 1 d_is_whole) (e_BadLength : Err K mg G "BadLength" 11) (g_GREATEST : ∃ t, mg "GREATEST" = some (.int 1000000000 t)) :
  FD P w K mg base G 2 a 1 d_asked_length := by
  apply FD.pure
  refine fd_of (nN := 1) (B := B_asked_length) F sc_asked_length rfl rfl b ?_
  intro cdv A outer s H E hr
  refine ess_one ?_
  refine es_if ?_ ?_ ?_
  refine eb_w ?_
  refine ew_or ?_ ?_
  refine eb_not ?_
  refine eb_val ?_
  refine ed_cal c_is_whole (hr.mono (by decide)) (L2N.takes_of rfl rfl rfl rfl) ?_
  refine ea_cons ?_ ?_
  exact ed_var 0
  exact ea_nil
  refine ew_or1 ?_
  refine eb_not ?_
  refine eb_chain opc_le opc_le op_le op_le ?_ ?_ ?_
  exact ed_int
  exact ed_var 0
  exact ed_gnum g_GREATEST
  refine ess_one ?_
  exact es_err e_BadLength (L2N.takes_of rfl rfl rfl rfl)
  exact ess_nil
abbrev s_is_command : Stmt := topS 19
abbrev n_is_command : List Str := ["length", "thing", "tick", "hand", "kind", "place", "one"]
theorem sc_is_command : FnScope n_is_command ["length", "thing"] (defScope s_is_command) := ⟨rfl, rfl, rfl, by decide +kernel, rfl, by decide +kernel, by decide +kernel⟩
theorem ok_is_command {a : Addr} {fd : FuncData} (F : Fun K "is_command" "is_command" s_is_command a fd) (b : Binds K fd ["length", "thing"] []) (b_all : mg "all" = none) (b_isinstance : mg "isinstance" = none) (b_len : mg "len" = none) (b_str : mg "str" = none) (b_tuple : mg "tuple" = none) (c_is_whole : Cal P w K mg base G "is_whole" 1 1 d_is_whole) (g_HANDS : ∃ t, mg "HANDS" = some (.int 4 t)) (g_KINDS : TupIn K mg "KINDS" ["hold", "go", "move"]) :
  FD P w K mg base G 2 a 2 d_is_command := by
  apply FD.pure
  refine fd_of (nN := 7) (B := B_is_command) F sc_is_command rfl rfl b ?_
  intro cdv A outer s H E hr
  refine ess_cons ?_ ?_
  refine es_if ?_ ?_ ?_
  refine eb_w ?_
  refine ew_or ?_ ?_
  refine eb_not ?_
  refine eb_val ?_
  refine ed_isB (t := .tup) b_isinstance (by decide) b_tuple (by decide +kernel) ?_
  exact ed_var 1
  refine ew_or ?_ ?_
  refine eb_cmp opc_ne (op_neD (hu64 hr)) ?_ ?_ (nomark _)
  refine ed_callB cac_len call_len_seq (by rfl) b_len (by decide +kernel) ?_
  refine ea_cons ?_ ?_
  exact ed_var 1
  exact ea_nil
  exact ed_int
  refine ew_or ?_ ?_
  refine eb_not ?_
  refine eb_val ?_
  refine ed_isB (t := .str) b_isinstance (by decide) b_str (by decide +kernel) ?_
  refine ed_ix ?_ ?_
  exact ed_var 1
  exact ed_int
  refine ew_or1 ?_
  refine eb_notInG g_KINDS ?_ (by with_unfolding_all rfl)
  refine ed_ix ?_ ?_
  exact ed_var 1
  exact ed_int
  refine ess_one ?_
  refine es_ret ?_
  exact ed_bl
  exact ess_nil
  refine ess_cons ?_ ?_
  refine es_asg ?_ ?_
  exact ed_var 1
  refine eg_tup rfl ?_
  refine egs_cons (i := 2) ?_ ?_
  exact eg_var (i := 2) sc_is_command.nd
  refine egs_cons (i := 3) ?_ ?_
  exact eg_var (i := 3) sc_is_command.nd
  refine egs_cons (i := 4) ?_ ?_
  exact eg_var (i := 4) sc_is_command.nd
  refine egs_cons (i := 5) ?_ ?_
  exact eg_var (i := 5) sc_is_command.nd
  exact egs_nil
  refine ess_cons ?_ ?_
  refine es_if ?_ ?_ ?_
  refine eb_w ?_
  refine ew_or ?_ ?_
  refine eb_not ?_
  refine eb_val ?_
  refine ed_callB cac_all (cr_all rfl) (by rfl) b_all (by decide +kernel) ?_
  refine ea_cons ?_ ?_
  refine ed_dat ?_
  refine el_lc (own := [("one" , 6)]) rfl sc_is_command.nd ?_ (blkOk_by (own := [("one" , 6)]) (N := n_is_command) (sc := defScope s_is_command) (by decide +kernel)) ?_ ?_ ?_
  refine ei_tup ?_
  refine ed_tup ?_
  refine ea_cons ?_ ?_
  exact ed_var 2
  refine ea_cons ?_ ?_
  exact ed_var 3
  refine ea_cons ?_ ?_
  exact ed_var 5
  exact ea_nil
  intro _ _ _ _ _
  exact egw_var (i := 6) sc_is_command.nd
  intro _ _ _ _ _
  exact ebs_nil
  intro _ _ _ _ _
  refine ed_cal c_is_whole (hr.mono (by decide)) takesN0 ?_
  refine ea_cons ?_ ?_
  exact ed_var 6
  exact ea_nil
  exact ea_nil
  refine ew_or ?_ ?_
  refine eb_cmp opc_lt op_lt ?_ ?_ (nomark _)
  exact ed_var 2
  exact ed_int
  refine ew_or1 ?_
  refine eb_not ?_
  refine eb_chain opc_le opc_lt op_le op_lt ?_ ?_ ?_
  exact ed_int
  exact ed_var 3
  exact ed_gnum g_HANDS
  refine ess_one ?_
  refine es_ret ?_
  exact ed_bl
  exact ess_nil
  refine ess_one ?_
  refine es_ret ?_
  refine ed_if ?_ ?_ ?_
  refine eb_cmp opc_eq (op_eqD (hu64 hr)) ?_ ?_ (nomark _)
  exact ed_var 4
  exact ed_str
  refine ed_chain opc_le opc_le op_le op_le ?_ ?_ ?_
  exact ed_int
  exact ed_var 5
  exact ed_var 0
  refine ed_cmp opc_eq (op_eqD (hu64 hr)) ?_ ?_ (nomark _)
  exact ed_var 5
  exact ed_int
abbrev s_asked_commands : Stmt := topS 20
abbrev n_asked_commands : List Str := ["length", "commands", "known", "one"]
theorem sc_asked_commands : FnScope n_asked_commands ["length", "commands"] (defScope s_asked_commands) := ⟨rfl, rfl, rfl, by decide +kernel, rfl, by decide +kernel, by decide +kernel⟩
theorem ok_asked_commands {a : Addr} {fd : FuncData} (F : Fun K "asked_commands" "asked_commands" s_asked_commands a fd) (b : Binds K fd ["length", "commands"] []) (b_all : mg "all" = none) (b_isinstance : mg "isinstance" = none) (b_len : mg "len" = none) (b_list : mg "list" = none) (c_is_command : Cal P w K mg base G "is_command" 2 2 d_is_command) (e_BadCommands : Err K mg G "BadCommands" 12) (g_MOST_COMMANDS : ∃ t, mg "MOST_COMMANDS" = some (.int 300 t)) :
  FD P w K mg base G 3 a 2 d_asked_commands := by
  apply FD.pure
  refine fd_of (nN := 4) (B := B_asked_commands) F sc_asked_commands rfl rfl b ?_
  intro cdv A outer s H E hr
  refine ess_cons ?_ ?_
  refine es_if ?_ ?_ ?_
  refine eb_w ?_
  refine ew_or ?_ ?_
  refine eb_not ?_
  refine eb_val ?_
  refine ed_isB (t := .lst) b_isinstance (by decide) b_list (by decide +kernel) ?_
  exact ed_var 1
  refine ew_or1 ?_
  refine eb_cmp opc_gt op_gt ?_ ?_ (nomark _)
  refine ed_callB cac_len call_len_seq (by rfl) b_len (by decide +kernel) ?_
  refine ea_cons ?_ ?_
  exact ed_var 1
  exact ea_nil
  exact ed_gnum g_MOST_COMMANDS
  refine ess_one ?_
  exact es_err e_BadCommands (L2N.takes_of rfl rfl rfl rfl)
  exact ess_nil
  refine ess_cons ?_ ?_
  refine es_if ?_ ?_ ?_
  refine eb_not ?_
  refine eb_val ?_
  refine ed_callB cac_all (cr_all rfl) (by rfl) b_all (by decide +kernel) ?_
  refine ea_cons ?_ ?_
  refine ed_dat ?_
  refine el_lc (own := [("one" , 3)]) rfl sc_asked_commands.nd ?_ (blkOk_by (own := [("one" , 3)]) (N := n_asked_commands) (sc := defScope s_asked_commands) (by decide +kernel)) ?_ ?_ ?_
  refine ei_list ?_
  exact ed_var 1
  intro _ _ _ _ _
  exact egw_var (i := 3) sc_asked_commands.nd
  intro _ _ _ _ _
  exact ebs_nil
  intro _ _ _ _ _
  refine ed_cal c_is_command (hr.mono (by decide)) takesN0 ?_
  refine ea_cons ?_ ?_
  exact ed_var 0
  refine ea_cons ?_ ?_
  exact ed_var 3
  exact ea_nil
  exact ea_nil
  refine ess_one ?_
  exact es_err e_BadCommands (L2N.takes_of rfl rfl rfl rfl)
  exact ess_nil
  refine ess_cons ?_ ?_
  refine es_set (i := 2) sc_asked_commands.nd ?_
  exact ed_newT
  refine ess_one ?_
  refine es_for (passes_of rfl) rfl ?_ ?_ ?_
  refine ei_list ?_
  exact ed_var 1
  exact eg_var (i := 3) sc_asked_commands.nd
  refine ess_cons ?_ ?_
  refine es_if ?_ ?_ ?_
  refine eb_cmp opc_ne (op_neD (hu64 hr)) ?_ ?_ (nomark _)
  refine ed_getT2 ?_ ?_ ?_ (hu65 hr)
  exact ed_var 2
  refine ed_sl ?_ ?_ ?_
  exact ed_var 3
  exact eo_none
  refine eo_some ?_
  exact ed_int
  exact ed_var 3
  exact ed_var 3
  refine ess_one ?_
  exact es_err e_BadCommands (L2N.takes_of rfl rfl rfl rfl)
  exact ess_nil
  refine ess_one ?_
  refine es_putT ?_ ?_ ?_ (hu65 hr)
  exact ed_var 2
  refine ed_sl ?_ ?_ ?_
  exact ed_var 3
  exact eo_none
  refine eo_some ?_
  exact ed_int
  exact ed_var 3
abbrev s_asked_tick : Stmt := topS 21
abbrev n_asked_tick : List Str := ["tick"]
theorem sc_asked_tick : FnScope n_asked_tick ["tick"] (defScope s_asked_tick) := ⟨rfl, rfl, rfl, by decide +kernel, rfl, by decide +kernel, by decide +kernel⟩
theorem ok_asked_tick {a : Addr} {fd : FuncData} (F : Fun K "asked_tick" "asked_tick" s_asked_tick a fd) (b : Binds K fd ["tick"] []) (c_is_whole : Cal P w K mg base G "is_whole" 1 1 d_is_whole) (e_BadTick : Err K mg G "BadTick" 13) :
  FD P w K mg base G 2 a 1 d_asked_tick := by
  apply FD.pure
  refine fd_of (nN := 1) (B := B_asked_tick) F sc_asked_tick rfl rfl b ?_
  intro cdv A outer s H E hr
  refine ess_one ?_
  refine es_if ?_ ?_ ?_
  refine eb_w ?_
  refine ew_or ?_ ?_
  refine eb_not ?_
  refine eb_val ?_
  refine ed_cal c_is_whole (hr.mono (by decide)) (L2N.takes_of rfl rfl rfl rfl) ?_
  refine ea_cons ?_ ?_
  exact ed_var 0
  exact ea_nil
  refine ew_or1 ?_
  refine eb_cmp opc_lt op_lt ?_ ?_ (nomark _)
  exact ed_var 0
  exact ed_int
  refine ess_one ?_
  exact es_err e_BadTick (L2N.takes_of rfl rfl rfl rfl)
  exact ess_nil
abbrev s_stand_of : Stmt := topS 22
abbrev n_stand_of : List Str := ["length", "commands", "tick", "place", "going", "last", "when", "hand", "kind", "spot", "one"]
theorem sc_stand_of : FnScope n_stand_of ["length", "commands", "tick"] (defScope s_stand_of) := ⟨rfl, rfl, rfl, by decide +kernel, rfl, by decide +kernel, by decide +kernel⟩
theorem ok_stand_of {a : Addr} {fd : FuncData} (F : Fun K "stand_of" "stand_of" s_stand_of a fd) (b : Binds K fd ["length", "commands", "tick"] []) (b_min : mg "min" = none) (b_sorted : mg "sorted" = none) :
  FD P w K mg base G 1 a 3 d_stand_of := by
  apply FD.pure
  refine fd_of (nN := 11) (B := B_stand_of) F sc_stand_of rfl rfl b ?_
  intro cdv A outer s H E hr
  refine ess_cons ?_ ?_
  refine es_asg ?_ ?_
  refine ed_tup ?_
  refine ea_cons ?_ ?_
  exact ed_int
  refine ea_cons ?_ ?_
  exact ed_bl
  refine ea_cons ?_ ?_
  exact ed_int
  exact ea_nil
  refine eg_tup rfl ?_
  refine egs_cons (i := 3) ?_ ?_
  exact eg_var (i := 3) sc_stand_of.nd
  refine egs_cons (i := 4) ?_ ?_
  exact eg_var (i := 4) sc_stand_of.nd
  refine egs_cons (i := 5) ?_ ?_
  exact eg_var (i := 5) sc_stand_of.nd
  exact egs_nil
  refine ess_cons ?_ ?_
  refine es_for (passes_of rfl) rfl ?_ ?_ ?_
  refine ei_list ?_
  refine ed_dat ?_
  refine el_callB clc_sorted (cr_sortB (hu64 hr)) (by rfl) b_sorted (by decide +kernel) ?_
  refine ea_cons ?_ ?_
  refine ed_dat ?_
  refine el_lc (own := [("one" , 10)]) rfl sc_stand_of.nd ?_ (blkOk_by (own := [("one" , 10)]) (N := n_stand_of) (sc := defScope s_stand_of) (by decide +kernel)) ?_ ?_ ?_
  refine ei_list ?_
  exact ed_var 1
  intro _ _ _ _ _
  exact egw_var (i := 10) sc_stand_of.nd
  intro _ _ _ _ _
  refine ebs_one ?_
  refine eb_cmp opc_le op_le ?_ ?_ (nomark _)
  refine ed_ix ?_ ?_
  exact ed_var 10
  exact ed_int
  exact ed_var 2
  intro _ _ _ _ _
  exact ed_var 10
  exact ea_nil
  refine eg_tup rfl ?_
  refine egs_cons (i := 6) ?_ ?_
  exact eg_var (i := 6) sc_stand_of.nd
  refine egs_cons (i := 7) ?_ ?_
  exact eg_var (i := 7) sc_stand_of.nd
  refine egs_cons (i := 8) ?_ ?_
  exact eg_var (i := 8) sc_stand_of.nd
  refine egs_cons (i := 9) ?_ ?_
  exact eg_var (i := 9) sc_stand_of.nd
  exact egs_nil
  refine ess_cons ?_ ?_
  refine es_if ?_ ?_ ?_
  refine eb_val ?_
  exact ed_var 4
  refine ess_one ?_
  refine es_set (i := 3) sc_stand_of.nd ?_
  refine ed_callB cac_min2 (call_min2 rfl) (by rfl) b_min (by decide +kernel) ?_
  refine ea_cons ?_ ?_
  exact ed_var 0
  refine ea_cons ?_ ?_
  refine ed_op opc_sub op_sub ?_ ?_
  refine ed_op opc_add op_add3 ?_ ?_
  exact ed_var 3
  exact ed_var 6
  exact ed_var 5
  exact ea_nil
  exact ess_nil
  refine ess_cons ?_ ?_
  refine es_set (i := 5) sc_stand_of.nd ?_
  exact ed_var 6
  refine ess_one ?_
  refine es_if ?_ ?_ ?_
  refine eb_cmp opc_eq (op_eqD (hu64 hr)) ?_ ?_ (nomark _)
  exact ed_var 8
  exact ed_str
  refine ess_one ?_
  refine es_set (i := 3) sc_stand_of.nd ?_
  exact ed_var 9
  refine ess_one ?_
  refine es_set (i := 4) sc_stand_of.nd ?_
  refine ed_cmp opc_eq (op_eqD (hu64 hr)) ?_ ?_ (nomark _)
  exact ed_var 8
  exact ed_str
  refine ess_cons ?_ ?_
  refine es_if ?_ ?_ ?_
  refine eb_val ?_
  exact ed_var 4
  refine ess_one ?_
  refine es_set (i := 3) sc_stand_of.nd ?_
  refine ed_callB cac_min2 (call_min2 rfl) (by rfl) b_min (by decide +kernel) ?_
  refine ea_cons ?_ ?_
  exact ed_var 0
  refine ea_cons ?_ ?_
  refine ed_op opc_sub op_sub ?_ ?_
  refine ed_op opc_add op_add3 ?_ ?_
  exact ed_var 3
  exact ed_var 2
  exact ed_var 5
  exact ea_nil
  exact ess_nil
  refine ess_one ?_
  refine es_ret ?_
  refine ed_tup ?_
  refine ea_cons ?_ ?_
  exact ed_var 3
  refine ea_cons ?_ ?_
  exact ed_var 4
  exact ea_nil
abbrev s_stand : Stmt := topS 23
abbrev n_stand : List Str := ["length", "commands", "tick"]
theorem sc_stand : FnScope n_stand ["length", "commands", "tick"] (defScope s_stand) := ⟨rfl, rfl, rfl, by decide +kernel, rfl, by decide +kernel, by decide +kernel⟩
theorem ok_stand {a : Addr} {fd : FuncData} (F : Fun K "stand" "stand" s_stand a fd) (b : Binds K fd ["length", "commands", "tick"] []) (c_asked_commands : Cal P w K mg base G "asked_commands" 3 2 d_asked_commands) (c_asked_length : Cal P w K mg base G "asked_length" 2 1 d_asked_length) (c_asked_tick : Cal P w K mg base G "asked_tick" 2 1 d_asked_tick) (c_stand_of : Cal P w K mg base G "stand_of" 1 3 d_stand_of) :
  FD P w K mg base G 4 a 3 d_stand := by
  apply FD.pure
  refine fd_of (nN := 3) (B := B_stand) F sc_stand rfl rfl b ?_
  intro cdv A outer s H E hr
  refine ess_cons ?_ ?_
  refine es_expr ?_
  refine ed_cal c_asked_length (hr.mono (by decide)) (L2N.takes_of rfl rfl rfl rfl) ?_
  refine ea_cons ?_ ?_
  exact ed_var 0
  exact ea_nil
  refine ess_cons ?_ ?_
  refine es_expr ?_
  refine ed_cal c_asked_commands (hr.mono (by decide)) (L2N.takes_of rfl rfl rfl rfl) ?_
  refine ea_cons ?_ ?_
  exact ed_var 0
  refine ea_cons ?_ ?_
  exact ed_var 1
  exact ea_nil
  refine ess_cons ?_ ?_
  refine es_expr ?_
  refine ed_cal c_asked_tick (hr.mono (by decide)) (L2N.takes_of rfl rfl rfl rfl) ?_
  refine ea_cons ?_ ?_
  exact ed_var 2
  exact ea_nil
  refine ess_one ?_
  refine es_ret ?_
  refine ed_cal c_stand_of (hr.mono (by decide)) (L2N.takes_of rfl rfl rfl rfl) ?_
  refine ea_cons ?_ ?_
  exact ed_var 0
  refine ea_cons ?_ ?_
  exact ed_var 1
  refine ea_cons ?_ ?_
  exact ed_var 2
  exact ea_nil
abbrev s_unlike : Stmt := topS 24
abbrev n_unlike : List Str := ["one", "other", "tick", "found", "mine", "theirs"]
theorem sc_unlike : FnScope n_unlike ["one", "other", "tick"] (defScope s_unlike) := ⟨rfl, rfl, rfl, by decide +kernel, rfl, by decide +kernel, by decide +kernel⟩
theorem ok_unlike {a : Addr} {fd : FuncData} (F : Fun K "unlike" "unlike" s_unlike a fd) (b : Binds K fd ["one", "other", "tick"] []) (b_set : mg "set" = none) (b_sorted : mg "sorted" = none) :
  FD P w K mg base G 1 a 3 d_unlike := by
  apply FD.pure
  refine fd_of (nN := 6) (B := B_unlike) F sc_unlike rfl rfl b ?_
  intro cdv A outer s H E hr
  refine ess_cons ?_ ?_
  refine es_setLd (i := 3) (own := [("mine" , 4)]) rfl sc_unlike.nd rfl (sw_true rfl rfl rfl (by decide +kernel)) ?_ (blkOk_by (own := [("mine" , 4)]) (N := n_unlike) (sc := defScope s_unlike) (by decide +kernel)) ?_ ?_ ?_
  refine ei_list ?_
  exact ed_var 0
  intro _ _ _ _ _
  exact egw_var (i := 4) sc_unlike.nd
  intro _ _ _ _ _
  refine ebs_one ?_
  refine eb_w ?_
  refine ew_and ?_ ?_
  refine eb_cmp opc_notIn (op_notIn2 (hu65 hr)) ?_ ?_ (by with_unfolding_all rfl)
  exact ed_var 4
  exact ed_var 1
  refine ew_and1 ?_
  refine eb_cmp opc_le op_le ?_ ?_ (nomark _)
  refine ed_ix ?_ ?_
  exact ed_var 4
  exact ed_int
  exact ed_var 2
  intro _ _ _ _ _
  exact ed_var 4
  refine ess_one ?_
  refine es_ret ?_
  refine ed_dat ?_
  refine el_sortSet b_sorted b_set ?_ (hu65 hr)
  refine ed_op opc_add op_add3 ?_ ?_
  exact ed_var 3
  refine ed_dat ?_
  refine el_lc (own := [("theirs" , 5)]) rfl sc_unlike.nd ?_ (blkOk_by (own := [("theirs" , 5)]) (N := n_unlike) (sc := defScope s_unlike) (by decide +kernel)) ?_ ?_ ?_
  refine ei_list ?_
  exact ed_var 1
  intro _ _ _ _ _
  exact egw_var (i := 5) sc_unlike.nd
  intro _ _ _ _ _
  refine ebs_one ?_
  refine eb_w ?_
  refine ew_and ?_ ?_
  refine eb_cmp opc_notIn (op_notIn2 (hu65 hr)) ?_ ?_ (by with_unfolding_all rfl)
  exact ed_var 5
  exact ed_var 0
  refine ew_and1 ?_
  refine eb_cmp opc_le op_le ?_ ?_ (nomark _)
  refine ed_ix ?_ ?_
  exact ed_var 5
  exact ed_int
  exact ed_var 2
  intro _ _ _ _ _
  exact ed_var 5
abbrev s_asked_two : Stmt := topS 25
abbrev n_asked_two : List Str := ["length", "one", "other", "tick"]
theorem sc_asked_two : FnScope n_asked_two ["length", "one", "other", "tick"] (defScope s_asked_two) := ⟨rfl, rfl, rfl, by decide +kernel, rfl, by decide +kernel, by decide +kernel⟩
theorem ok_asked_two {a : Addr} {fd : FuncData} (F : Fun K "asked_two" "asked_two" s_asked_two a fd) (b : Binds K fd ["length", "one", "other", "tick"] []) (c_asked_commands : Cal P w K mg base G "asked_commands" 3 2 d_asked_commands) (c_asked_length : Cal P w K mg base G "asked_length" 2 1 d_asked_length) (c_asked_tick : Cal P w K mg base G "asked_tick" 2 1 d_asked_tick) :
  FD P w K mg base G 4 a 4 d_asked_two := by
  apply FD.pure
  refine fd_of (nN := 4) (B := B_asked_two) F sc_asked_two rfl rfl b ?_
  intro cdv A outer s H E hr
  refine ess_cons ?_ ?_
  refine es_expr ?_
  refine ed_cal c_asked_length (hr.mono (by decide)) (L2N.takes_of rfl rfl rfl rfl) ?_
  refine ea_cons ?_ ?_
  exact ed_var 0
  exact ea_nil
  refine ess_cons ?_ ?_
  refine es_expr ?_
  refine ed_cal c_asked_commands (hr.mono (by decide)) (L2N.takes_of rfl rfl rfl rfl) ?_
  refine ea_cons ?_ ?_
  exact ed_var 0
  refine ea_cons ?_ ?_
  exact ed_var 1
  exact ea_nil
  refine ess_cons ?_ ?_
  refine es_expr ?_
  refine ed_cal c_asked_commands (hr.mono (by decide)) (L2N.takes_of rfl rfl rfl rfl) ?_
  refine ea_cons ?_ ?_
  exact ed_var 0
  refine ea_cons ?_ ?_
  exact ed_var 2
  exact ea_nil
  refine ess_one ?_
  refine es_expr ?_
  refine ed_cal c_asked_tick (hr.mono (by decide)) (L2N.takes_of rfl rfl rfl rfl) ?_
  refine ea_cons ?_ ?_
  exact ed_var 3
  exact ea_nil
abbrev s_at_most : Stmt := topS 26
abbrev n_at_most : List Str := ["length", "one", "other", "tick", "found"]
theorem sc_at_most : FnScope n_at_most ["length", "one", "other", "tick"] (defScope s_at_most) := ⟨rfl, rfl, rfl, by decide +kernel, rfl, by decide +kernel, by decide +kernel⟩
theorem ok_at_most {a : Addr} {fd : FuncData} (F : Fun K "at_most" "at_most" s_at_most a fd) (b : Binds K fd ["length", "one", "other", "tick"] []) (c_asked_two : Cal P w K mg base G "asked_two" 4 4 d_asked_two) (c_unlike : Cal P w K mg base G "unlike" 1 3 d_unlike) :
  FD P w K mg base G 5 a 4 d_at_most := by
  apply FD.pure
  refine fd_of (nN := 5) (B := B_at_most) F sc_at_most rfl rfl b ?_
  intro cdv A outer s H E hr
  refine ess_cons ?_ ?_
  refine es_expr ?_
  refine ed_cal c_asked_two (hr.mono (by decide)) (L2N.takes_of rfl rfl rfl rfl) ?_
  refine ea_cons ?_ ?_
  exact ed_var 0
  refine ea_cons ?_ ?_
  exact ed_var 1
  refine ea_cons ?_ ?_
  exact ed_var 2
  refine ea_cons ?_ ?_
  exact ed_var 3
  exact ea_nil
  refine ess_cons ?_ ?_
  refine es_set (i := 4) sc_at_most.nd ?_
  refine ed_cal c_unlike (hr.mono (by decide)) (L2N.takes_of rfl rfl rfl rfl) ?_
  refine ea_cons ?_ ?_
  exact ed_var 1
  refine ea_cons ?_ ?_
  exact ed_var 2
  refine ea_cons ?_ ?_
  exact ed_var 3
  exact ea_nil
  refine ess_one ?_
  refine es_ret ?_
  refine ed_if ?_ ?_ ?_
  refine eb_cmp opc_ne (op_neD (hu64 hr)) ?_ ?_ (nomark _)
  exact ed_var 4
  refine ed_dat ?_
  refine el_lst ?_
  exact ea_nil
  refine ed_op opc_sub op_sub ?_ ?_
  exact ed_var 3
  refine ed_ix ?_ ?_
  refine ed_ix ?_ ?_
  exact ed_var 4
  exact ed_int
  exact ed_int
  exact ed_int
abbrev s_Together_shows : Stmt := inClass (topS 29) 0
abbrev n_Together_shows : List Str := ["self", "length", "one", "other", "tick"]
theorem sc_Together_shows : FnScope n_Together_shows ["self", "length", "one", "other", "tick"] (defScope s_Together_shows) := ⟨rfl, rfl, rfl, by decide +kernel, rfl, by decide +kernel, by decide +kernel⟩
theorem ok_Together_shows {a : Addr} {fd : FuncData} (F : Fun K "shows" "Together.shows" s_Together_shows a fd) (b : Binds K fd ["self", "length", "one", "other", "tick"] []) (c_stand_of : Cal P w K mg base G "stand_of" 1 3 d_stand_of) :
  FD P w K mg base G 2 a 5 d_Together_shows := by
  apply FD.pure
  refine fd_of (nN := 5) (B := B_Together_shows) F sc_Together_shows rfl rfl b ?_
  intro cdv A outer s H E hr
  refine ess_one ?_
  refine es_ret ?_
  refine ed_cmp opc_eq (op_eqD (hu64 hr)) ?_ ?_ (nomark _)
  refine ed_ix ?_ ?_
  refine ed_cal c_stand_of (hr.mono (by decide)) (L2N.takes_of rfl rfl rfl rfl) ?_
  refine ea_cons ?_ ?_
  exact ed_var 1
  refine ea_cons ?_ ?_
  exact ed_var 2
  refine ea_cons ?_ ?_
  exact ed_var 4
  exact ea_nil
  exact ed_int
  refine ed_ix ?_ ?_
  refine ed_cal c_stand_of (hr.mono (by decide)) (L2N.takes_of rfl rfl rfl rfl) ?_
  refine ea_cons ?_ ?_
  exact ed_var 1
  refine ea_cons ?_ ?_
  exact ed_var 3
  refine ea_cons ?_ ?_
  exact ed_var 4
  exact ea_nil
  exact ed_int
abbrev s_Apart_init : Stmt := inClass (topS 30) 0
abbrev n_Apart_init : List Str := ["self", "command"]
theorem sc_Apart_init : FnScope n_Apart_init ["self", "command"] (defScope s_Apart_init) := ⟨rfl, rfl, rfl, by decide +kernel, rfl, by decide +kernel, by decide +kernel⟩
theorem ok_Apart_init {a : Addr} {fd : FuncData} (F : Fun K "__init__" "Apart.__init__" s_Apart_init a fd) (b : Binds K fd ["self", "command"] []) (f_command : FldOk K G "command") :
  FD P w K mg base G 1 a 2 d_Apart_init := by
  refine fd_of (nN := 2) (B := B_Apart_init) F sc_Apart_init rfl rfl b ?_
  intro cdv A outer s H E hr
  refine ess_one ?_
  refine es_fld f_command ?_ ?_
  exact ed_var 0
  exact ed_var 1
abbrev s_Apart_shows : Stmt := inClass (topS 30) 1
abbrev n_Apart_shows : List Str := ["self", "length", "one", "other", "tick"]
theorem sc_Apart_shows : FnScope n_Apart_shows ["self", "length", "one", "other", "tick"] (defScope s_Apart_shows) := ⟨rfl, rfl, rfl, by decide +kernel, rfl, by decide +kernel, by decide +kernel⟩
theorem ok_Apart_shows {a : Addr} {fd : FuncData} (F : Fun K "shows" "Apart.shows" s_Apart_shows a fd) (b : Binds K fd ["self", "length", "one", "other", "tick"] []) (c_stand_of : Cal P w K mg base G "stand_of" 1 3 d_stand_of) (f_command : FldOk K G "command") :
  FD P w K mg base G 2 a 5 d_Apart_shows := by
  apply FD.pure
  refine fd_of (nN := 5) (B := B_Apart_shows) F sc_Apart_shows rfl rfl b ?_
  intro cdv A outer s H E hr
  refine ess_cons ?_ ?_
  refine es_if ?_ ?_ ?_
  refine eb_cmp opc_eq (op_eqD (hu64 hr)) ?_ ?_ (nomark _)
  refine ed_ix ?_ ?_
  refine ed_cal c_stand_of (hr.mono (by decide)) (L2N.takes_of rfl rfl rfl rfl) ?_
  refine ea_cons ?_ ?_
  exact ed_var 1
  refine ea_cons ?_ ?_
  exact ed_var 2
  refine ea_cons ?_ ?_
  exact ed_var 4
  exact ea_nil
  exact ed_int
  refine ed_ix ?_ ?_
  refine ed_cal c_stand_of (hr.mono (by decide)) (L2N.takes_of rfl rfl rfl rfl) ?_
  refine ea_cons ?_ ?_
  exact ed_var 1
  refine ea_cons ?_ ?_
  exact ed_var 3
  refine ea_cons ?_ ?_
  exact ed_var 4
  exact ea_nil
  exact ed_int
  refine ess_one ?_
  refine es_ret ?_
  exact ed_bl
  exact ess_nil
  refine ess_one ?_
  refine es_ret ?_
  refine ed_and ?_ ?_
  refine ed_cmp opc_ne (op_neD (hu64 hr)) ?_ ?_ (nomark _)
  refine ed_cmp opc_in (op_in2 (hu65 hr)) ?_ ?_ (by with_unfolding_all rfl)
  refine ed_fld f_command ?_
  exact ed_var 0
  exact ed_var 2
  refine ed_cmp opc_in (op_in2 (hu65 hr)) ?_ ?_ (by with_unfolding_all rfl)
  refine ed_fld f_command ?_
  exact ed_var 0
  exact ed_var 3
  refine ed_one ?_
  refine ed_cmp opc_le op_le ?_ ?_ (nomark _)
  refine ed_ix ?_ ?_
  refine ed_fld f_command ?_
  exact ed_var 0
  exact ed_int
  exact ed_var 4
abbrev s_Meet_init : Stmt := inClass (topS 31) 0
abbrev n_Meet_init : List Str := ["self", "place", "pairs"]
theorem sc_Meet_init : FnScope n_Meet_init ["self", "place", "pairs"] (defScope s_Meet_init) := ⟨rfl, rfl, rfl, by decide +kernel, rfl, by decide +kernel, by decide +kernel⟩
theorem ok_Meet_init {a : Addr} {fd : FuncData} (F : Fun K "__init__" "Meet.__init__" s_Meet_init a fd) (b : Binds K fd ["self", "place", "pairs"] []) (b_list : mg "list" = none) (f_pairs : FldOk K G "pairs") (f_place : FldOk K G "place") :
  FD P w K mg base G 1 a 3 d_Meet_init := by
  refine fd_of (nN := 3) (B := B_Meet_init) F sc_Meet_init rfl rfl b ?_
  intro cdv A outer s H E hr
  refine ess_cons ?_ ?_
  refine es_fld f_place ?_ ?_
  exact ed_var 0
  exact ed_var 1
  refine ess_one ?_
  refine es_fld f_pairs ?_ ?_
  exact ed_var 0
  refine ed_dat ?_
  refine el_callTy clc_list call_list_of (by rfl) b_list (by decide +kernel) ?_
  refine ea_cons ?_ ?_
  exact ed_var 2
  exact ea_nil
abbrev s_Meet_shows : Stmt := inClass (topS 31) 1
abbrev n_Meet_shows : List Str := ["self", "places", "met", "one", "other", "apart"]
theorem sc_Meet_shows : FnScope n_Meet_shows ["self", "places"] (defScope s_Meet_shows) := ⟨rfl, rfl, rfl, by decide +kernel, rfl, by decide +kernel, by decide +kernel⟩
theorem ok_Meet_shows {a : Addr} {fd : FuncData} (F : Fun K "shows" "Meet.shows" s_Meet_shows a fd) (b : Binds K fd ["self", "places"] []) (b_abs : mg "abs" = none) (b_all : mg "all" = none) (b_len : mg "len" = none) (b_set : mg "set" = none) (b_sum : mg "sum" = none) (f_pairs : FldOk K G "pairs") (f_place : FldOk K G "place") :
  FD P w K mg base G 1 a 2 d_Meet_shows := by
  apply FD.pure
  refine fd_of (nN := 6) (B := B_Meet_shows) F sc_Meet_shows rfl rfl b ?_
  intro cdv A outer s H E hr
  refine ess_cons ?_ ?_
  refine es_set (i := 2) sc_Meet_shows.nd ?_
  refine ed_cel ?_
  refine el_lst ?_
  exact ea_nil
  refine ess_cons ?_ ?_
  refine es_for (passes_of rfl) rfl ?_ ?_ ?_
  refine ei_list ?_
  refine ed_fld f_pairs ?_
  exact ed_var 0
  refine eg_tup rfl ?_
  refine egs_cons (i := 3) ?_ ?_
  exact eg_var (i := 3) sc_Meet_shows.nd
  refine egs_cons (i := 4) ?_ ?_
  exact eg_var (i := 4) sc_Meet_shows.nd
  exact egs_nil
  refine ess_one ?_
  refine es_expr ?_
  refine ed_lm lmc_extend PySem.F.slot_list_extend PySem.F.type_list_extend mt_extend ?_ ?_
  exact ed_var 2
  refine ea_cons ?_ ?_
  refine ed_dat ?_
  refine el_lst ?_
  refine ea_cons ?_ ?_
  exact ed_var 3
  refine ea_cons ?_ ?_
  exact ed_var 4
  exact ea_nil
  exact ea_nil
  refine ess_cons ?_ ?_
  refine es_if ?_ ?_ ?_
  refine eb_w ?_
  refine ew_or ?_ ?_
  refine eb_cmp opc_ne (op_neD (hu64 hr)) ?_ ?_ (nomark _)
  refine ed_lenSet b_len b_set ?_
  exact ed_var 2
  refine ed_callB cac_len call_len_seq (by rfl) b_len (by decide +kernel) ?_
  refine ea_cons ?_ ?_
  exact ed_var 2
  exact ea_nil
  refine ew_or1 ?_
  refine eb_not ?_
  refine eb_val ?_
  refine ed_callB cac_all (cr_all rfl) (by rfl) b_all (by decide +kernel) ?_
  refine ea_cons ?_ ?_
  refine ed_dat ?_
  refine el_lc (own := [("one" , 3)]) rfl sc_Meet_shows.nd ?_ (blkOk_by (own := [("one" , 3)]) (N := n_Meet_shows) (sc := defScope s_Meet_shows) (by decide +kernel)) ?_ ?_ ?_
  refine ei_list ?_
  exact ed_var 2
  intro _ _ _ _ _
  exact egw_var (i := 3) sc_Meet_shows.nd
  intro _ _ _ _ _
  exact ebs_nil
  intro _ _ _ _ _
  refine ed_chain opc_le opc_lt op_le op_lt ?_ ?_ ?_
  exact ed_int
  exact ed_var 3
  refine ed_callB cac_len call_len_seq (by rfl) b_len (by decide +kernel) ?_
  refine ea_cons ?_ ?_
  exact ed_var 1
  exact ea_nil
  exact ea_nil
  refine ess_one ?_
  refine es_ret ?_
  exact ed_bl
  exact ess_nil
  refine ess_cons ?_ ?_
  refine es_set (i := 5) sc_Meet_shows.nd ?_
  refine ed_callB cac_sum (cr_sum rfl) (by rfl) b_sum (by decide +kernel) ?_
  refine ea_cons ?_ ?_
  refine ed_dat ?_
  refine el_lc (own := [("one" , 3) , ("other" , 4)]) rfl sc_Meet_shows.nd ?_ (blkOk_by (own := [("one" , 3) , ("other" , 4)]) (N := n_Meet_shows) (sc := defScope s_Meet_shows) (by decide +kernel)) ?_ ?_ ?_
  refine ei_list ?_
  refine ed_fld f_pairs ?_
  exact ed_var 0
  intro _ _ _ _ _
  refine egw_tup rfl ?_
  refine egws_cons (i := 3) ?_ ?_
  exact egw_var (i := 3) sc_Meet_shows.nd
  refine egws_cons (i := 4) ?_ ?_
  exact egw_var (i := 4) sc_Meet_shows.nd
  exact egws_nil
  intro _ _ _ _ _
  exact ebs_nil
  intro _ _ _ _ _
  refine ed_callB cac_abs call_abs (by rfl) b_abs (by decide +kernel) ?_
  refine ea_cons ?_ ?_
  refine ed_op opc_sub op_sub ?_ ?_
  refine ed_ix ?_ ?_
  exact ed_var 1
  exact ed_var 3
  refine ed_ix ?_ ?_
  exact ed_var 1
  exact ed_var 4
  exact ea_nil
  exact ea_nil
  refine ess_one ?_
  refine es_ret ?_
  refine ed_cmp opc_eq (op_eqD (hu64 hr)) ?_ ?_ (nomark _)
  refine ed_callB cac_sum (cr_sum rfl) (by rfl) b_sum (by decide +kernel) ?_
  refine ea_cons ?_ ?_
  refine ed_dat ?_
  refine el_lc (own := [("one" , 3)]) rfl sc_Meet_shows.nd ?_ (blkOk_by (own := [("one" , 3)]) (N := n_Meet_shows) (sc := defScope s_Meet_shows) (by decide +kernel)) ?_ ?_ ?_
  refine ei_list ?_
  exact ed_var 1
  intro _ _ _ _ _
  exact egw_var (i := 3) sc_Meet_shows.nd
  intro _ _ _ _ _
  exact ebs_nil
  intro _ _ _ _ _
  refine ed_callB cac_abs call_abs (by rfl) b_abs (by decide +kernel) ?_
  refine ea_cons ?_ ?_
  refine ed_op opc_sub op_sub ?_ ?_
  exact ed_var 3
  refine ed_fld f_place ?_
  exact ed_var 0
  exact ea_nil
  exact ea_nil
  exact ed_var 5
abbrev s_judged : Stmt := topS 34
abbrev n_judged : List Str := ["length", "one", "other", "tick"]
theorem sc_judged : FnScope n_judged ["length", "one", "other", "tick"] (defScope s_judged) := ⟨rfl, rfl, rfl, by decide +kernel, rfl, by decide +kernel, by decide +kernel⟩
theorem ok_judged {a : Addr} {fd : FuncData} (F : Fun K "judged" "judged" s_judged a fd) (b : Binds K fd ["length", "one", "other", "tick"] []) (c_asked_two : Cal P w K mg base G "asked_two" 4 4 d_asked_two) (c_stand_of : Cal P w K mg base G "stand_of" 1 3 d_stand_of) (c_unlike : Cal P w K mg base G "unlike" 1 3 d_unlike) (m_Apart : Mkr P w K mg base G "Apart" 1 1 2 d_Apart_init) (m_Together : Mkr0 K mg G "Together" 0) :
  FD P w K mg base G 5 a 4 d_judged := by
  apply FD.pure
  refine fd_of (nN := 4) (B := B_judged) F sc_judged rfl rfl b ?_
  intro cdv A outer s H E hr
  refine ess_cons ?_ ?_
  refine es_expr ?_
  refine ed_cal c_asked_two (hr.mono (by decide)) (L2N.takes_of rfl rfl rfl rfl) ?_
  refine ea_cons ?_ ?_
  exact ed_var 0
  refine ea_cons ?_ ?_
  exact ed_var 1
  refine ea_cons ?_ ?_
  exact ed_var 2
  refine ea_cons ?_ ?_
  exact ed_var 3
  exact ea_nil
  refine ess_cons ?_ ?_
  refine es_if ?_ ?_ ?_
  refine eb_cmp opc_eq (op_eqD (hu64 hr)) ?_ ?_ (nomark _)
  refine ed_ix ?_ ?_
  refine ed_cal c_stand_of (hr.mono (by decide)) (L2N.takes_of rfl rfl rfl rfl) ?_
  refine ea_cons ?_ ?_
  exact ed_var 0
  refine ea_cons ?_ ?_
  exact ed_var 1
  refine ea_cons ?_ ?_
  exact ed_var 3
  exact ea_nil
  exact ed_int
  refine ed_ix ?_ ?_
  refine ed_cal c_stand_of (hr.mono (by decide)) (L2N.takes_of rfl rfl rfl rfl) ?_
  refine ea_cons ?_ ?_
  exact ed_var 0
  refine ea_cons ?_ ?_
  exact ed_var 2
  refine ea_cons ?_ ?_
  exact ed_var 3
  exact ea_nil
  exact ed_int
  refine ess_one ?_
  refine es_ret ?_
  exact ed_mkr0 m_Together
  exact ess_nil
  refine ess_one ?_
  refine es_ret ?_
  refine ed_pure ?_
  refine ed_mkr m_Apart (hr.mono (by decide)) (L2N.takes_of rfl rfl rfl rfl) ?_
  refine ea_cons ?_ ?_
  refine ed_ix ?_ ?_
  refine ed_cal c_unlike (hr.mono (by decide)) (L2N.takes_of rfl rfl rfl rfl) ?_
  refine ea_cons ?_ ?_
  exact ed_var 1
  refine ea_cons ?_ ?_
  exact ed_var 2
  refine ea_cons ?_ ?_
  exact ed_var 3
  exact ea_nil
  exact ed_int
  exact ea_nil
abbrev s_asked_places : Stmt := topS 35
abbrev n_asked_places : List Str := ["places", "one"]
theorem sc_asked_places : FnScope n_asked_places ["places"] (defScope s_asked_places) := ⟨rfl, rfl, rfl, by decide +kernel, rfl, by decide +kernel, by decide +kernel⟩
theorem ok_asked_places {a : Addr} {fd : FuncData} (F : Fun K "asked_places" "asked_places" s_asked_places a fd) (b : Binds K fd ["places"] []) (b_all : mg "all" = none) (b_isinstance : mg "isinstance" = none) (b_len : mg "len" = none) (b_list : mg "list" = none) (c_is_whole : Cal P w K mg base G "is_whole" 1 1 d_is_whole) (e_BadPlaces : Err K mg G "BadPlaces" 14) (g_GREATEST : ∃ t, mg "GREATEST" = some (.int 1000000000 t)) (g_MOST_PLACES : ∃ t, mg "MOST_PLACES" = some (.int 40 t)) :
  FD P w K mg base G 2 a 1 d_asked_places := by
  apply FD.pure
  refine fd_of (nN := 2) (B := B_asked_places) F sc_asked_places rfl rfl b ?_
  intro cdv A outer s H E hr
  refine ess_cons ?_ ?_
  refine es_if ?_ ?_ ?_
  refine eb_w ?_
  refine ew_or ?_ ?_
  refine eb_not ?_
  refine eb_val ?_
  refine ed_isB (t := .lst) b_isinstance (by decide) b_list (by decide +kernel) ?_
  exact ed_var 0
  refine ew_or1 ?_
  refine eb_not ?_
  refine eb_chain opc_le opc_le op_le op_le ?_ ?_ ?_
  exact ed_int
  refine ed_callB cac_len call_len_seq (by rfl) b_len (by decide +kernel) ?_
  refine ea_cons ?_ ?_
  exact ed_var 0
  exact ea_nil
  exact ed_gnum g_MOST_PLACES
  refine ess_one ?_
  exact es_err e_BadPlaces (L2N.takes_of rfl rfl rfl rfl)
  exact ess_nil
  refine ess_one ?_
  refine es_if ?_ ?_ ?_
  refine eb_not ?_
  refine eb_val ?_
  refine ed_callB cac_all (cr_all rfl) (by rfl) b_all (by decide +kernel) ?_
  refine ea_cons ?_ ?_
  refine ed_dat ?_
  refine el_lc (own := [("one" , 1)]) rfl sc_asked_places.nd ?_ (blkOk_by (own := [("one" , 1)]) (N := n_asked_places) (sc := defScope s_asked_places) (by decide +kernel)) ?_ ?_ ?_
  refine ei_list ?_
  exact ed_var 0
  intro _ _ _ _ _
  exact egw_var (i := 1) sc_asked_places.nd
  intro _ _ _ _ _
  exact ebs_nil
  intro _ _ _ _ _
  refine ed_and ?_ ?_
  refine ed_cal c_is_whole (hr.mono (by decide)) takesN0 ?_
  refine ea_cons ?_ ?_
  exact ed_var 1
  exact ea_nil
  refine ed_one ?_
  refine ed_chain opc_le opc_le op_le op_le ?_ ?_ ?_
  exact ed_int
  exact ed_var 1
  exact ed_gnum g_GREATEST
  exact ea_nil
  refine ess_one ?_
  exact es_err e_BadPlaces (L2N.takes_of rfl rfl rfl rfl)
  exact ess_nil
abbrev s_meet : Stmt := topS 36
abbrev n_meet : List Str := ["places", "line", "many", "pairs", "at", "place"]
theorem sc_meet : FnScope n_meet ["places"] (defScope s_meet) := ⟨rfl, rfl, rfl, by decide +kernel, rfl, by decide +kernel, by decide +kernel⟩
theorem ok_meet {a : Addr} {fd : FuncData} (F : Fun K "meet" "meet" s_meet a fd) (b : Binds K fd ["places"] []) (b_enumerate : mg "enumerate" = none) (b_len : mg "len" = none) (b_range : mg "range" = none) (b_sorted : mg "sorted" = none) (c_asked_places : Cal P w K mg base G "asked_places" 2 1 d_asked_places) (m_Meet : Mkr P w K mg base G "Meet" 2 1 3 d_Meet_init) :
  FD P w K mg base G 3 a 1 d_meet := by
  apply FD.pure
  refine fd_of (nN := 6) (B := B_meet) F sc_meet rfl rfl b ?_
  intro cdv A outer s H E hr
  refine ess_cons ?_ ?_
  refine es_expr ?_
  refine ed_cal c_asked_places (hr.mono (by decide)) (L2N.takes_of rfl rfl rfl rfl) ?_
  refine ea_cons ?_ ?_
  exact ed_var 0
  exact ea_nil
  refine ess_cons ?_ ?_
  refine es_set (i := 1) sc_meet.nd ?_
  refine ed_dat ?_
  refine el_callB clc_sorted (cr_sortB (hu64 hr)) (by rfl) b_sorted (by decide +kernel) ?_
  refine ea_cons ?_ ?_
  refine ed_dat ?_
  refine el_lc (own := [("at" , 4) , ("place" , 5)]) rfl sc_meet.nd ?_ (blkOk_by (own := [("at" , 4) , ("place" , 5)]) (N := n_meet) (sc := defScope s_meet) (by decide +kernel)) ?_ ?_ ?_
  refine ei_enum (by rfl) b_enumerate ?_
  refine ea_cons ?_ ?_
  exact ed_var 0
  exact ea_nil
  intro _ _ _ _ _
  refine egw_tup rfl ?_
  refine egws_cons (i := 4) ?_ ?_
  exact egw_var (i := 4) sc_meet.nd
  refine egws_cons (i := 5) ?_ ?_
  exact egw_var (i := 5) sc_meet.nd
  exact egws_nil
  intro _ _ _ _ _
  exact ebs_nil
  intro _ _ _ _ _
  refine ed_tup ?_
  refine ea_cons ?_ ?_
  exact ed_var 5
  refine ea_cons ?_ ?_
  exact ed_var 4
  exact ea_nil
  exact ea_nil
  refine ess_cons ?_ ?_
  refine es_set (i := 2) sc_meet.nd ?_
  refine ed_callB cac_len call_len_seq (by rfl) b_len (by decide +kernel) ?_
  refine ea_cons ?_ ?_
  exact ed_var 1
  exact ea_nil
  refine ess_cons ?_ ?_
  refine es_setLd (i := 3) (own := [("at" , 4)]) rfl sc_meet.nd rfl (sw_true rfl rfl rfl (by decide +kernel)) ?_ (blkOk_by (own := [("at" , 4)]) (N := n_meet) (sc := defScope s_meet) (by decide +kernel)) ?_ ?_ ?_
  refine ei_rng1 (by rfl) b_range ?_
  refine ea_cons ?_ ?_
  refine ed_op opc_div op_fdivW ?_ ?_
  exact ed_var 2
  exact ed_int
  exact ea_nil
  intro _ _ _ _ _
  exact egw_var (i := 4) sc_meet.nd
  intro _ _ _ _ _
  exact ebs_nil
  intro _ _ _ _ _
  refine ed_tup ?_
  refine ea_cons ?_ ?_
  refine ed_ix ?_ ?_
  refine ed_ix ?_ ?_
  exact ed_var 1
  exact ed_var 4
  exact ed_int
  refine ea_cons ?_ ?_
  refine ed_ix ?_ ?_
  refine ed_ix ?_ ?_
  exact ed_var 1
  refine ed_op opc_sub op_sub ?_ ?_
  refine ed_op opc_sub op_sub ?_ ?_
  exact ed_var 2
  exact ed_int
  exact ed_var 4
  exact ed_int
  exact ea_nil
  refine ess_one ?_
  refine es_ret ?_
  refine ed_pure ?_
  refine ed_mkr m_Meet (hr.mono (by decide)) (L2N.takes_of rfl rfl rfl rfl) ?_
  refine ea_cons ?_ ?_
  refine ed_ix ?_ ?_
  refine ed_ix ?_ ?_
  exact ed_var 1
  refine ed_op opc_div op_fdivW ?_ ?_
  exact ed_var 2
  exact ed_int
  exact ed_int
  refine ea_cons ?_ ?_
  exact ed_var 3
  exact ea_nil
abbrev s_least_jumps : Stmt := topS 37
abbrev n_least_jumps : List Str := ["places", "line", "place"]
theorem sc_least_jumps : FnScope n_least_jumps ["places"] (defScope s_least_jumps) := ⟨rfl, rfl, rfl, by decide +kernel, rfl, by decide +kernel, by decide +kernel⟩
theorem ok_least_jumps {a : Addr} {fd : FuncData} (F : Fun K "least_jumps" "least_jumps" s_least_jumps a fd) (b : Binds K fd ["places"] []) (b_abs : mg "abs" = none) (b_len : mg "len" = none) (b_sorted : mg "sorted" = none) (b_sum : mg "sum" = none) (c_asked_places : Cal P w K mg base G "asked_places" 2 1 d_asked_places) :
  FD P w K mg base G 3 a 1 d_least_jumps := by
  apply FD.pure
  refine fd_of (nN := 3) (B := B_least_jumps) F sc_least_jumps rfl rfl b ?_
  intro cdv A outer s H E hr
  refine ess_cons ?_ ?_
  refine es_expr ?_
  refine ed_cal c_asked_places (hr.mono (by decide)) (L2N.takes_of rfl rfl rfl rfl) ?_
  refine ea_cons ?_ ?_
  exact ed_var 0
  exact ea_nil
  refine ess_cons ?_ ?_
  refine es_set (i := 1) sc_least_jumps.nd ?_
  refine ed_dat ?_
  refine el_callB clc_sorted (cr_sortB (hu64 hr)) (by rfl) b_sorted (by decide +kernel) ?_
  refine ea_cons ?_ ?_
  exact ed_var 0
  exact ea_nil
  refine ess_one ?_
  refine es_ret ?_
  refine ed_callB cac_sum (cr_sum rfl) (by rfl) b_sum (by decide +kernel) ?_
  refine ea_cons ?_ ?_
  refine ed_dat ?_
  refine el_lc (own := [("place" , 2)]) rfl sc_least_jumps.nd ?_ (blkOk_by (own := [("place" , 2)]) (N := n_least_jumps) (sc := defScope s_least_jumps) (by decide +kernel)) ?_ ?_ ?_
  refine ei_list ?_
  exact ed_var 1
  intro _ _ _ _ _
  exact egw_var (i := 2) sc_least_jumps.nd
  intro _ _ _ _ _
  exact ebs_nil
  intro _ _ _ _ _
  refine ed_callB cac_abs call_abs (by rfl) b_abs (by decide +kernel) ?_
  refine ea_cons ?_ ?_
  refine ed_op opc_sub op_sub ?_ ?_
  exact ed_var 2
  refine ed_ix ?_ ?_
  exact ed_var 1
  refine ed_op opc_div op_fdivW ?_ ?_
  refine ed_callB cac_len call_len_seq (by rfl) b_len (by decide +kernel) ?_
  refine ea_cons ?_ ?_
  exact ed_var 1
  exact ea_nil
  exact ed_int
  exact ea_nil
  exact ea_nil
abbrev s_Room_init : Stmt := inClass (topS 39) 0
abbrev n_Room_init : List Str := ["self", "length", "watchers", "watcher"]
theorem sc_Room_init : FnScope n_Room_init ["self", "length", "watchers"] (defScope s_Room_init) := ⟨rfl, rfl, rfl, by decide +kernel, rfl, by decide +kernel, by decide +kernel⟩
theorem ok_Room_init {a : Addr} {fd : FuncData} (F : Fun K "__init__" "Room.__init__" s_Room_init a fd) (b : Binds K fd ["self", "length", "watchers"] []) (b_range : mg "range" = none) (c_asked_length : Cal P w K mg base G "asked_length" 2 1 d_asked_length) (c_is_whole : Cal P w K mg base G "is_whole" 1 1 d_is_whole) (e_BadWatcher : Err K mg G "BadWatcher" 15) (f_known : FldOk K G "known") (f_length : FldOk K G "length") (f_letters : FldOk K G "letters") (f_lines : FldOk K G "lines") (f_now : FldOk K G "now") (g_HANDS : ∃ t, mg "HANDS" = some (.int 4 t)) :
  FD P w K mg base G 3 a 3 d_Room_init := by
  refine fd_of (nN := 4) (B := B_Room_init) F sc_Room_init rfl rfl b ?_
  intro cdv A outer s H E hr
  refine ess_cons ?_ ?_
  refine es_expr ?_
  refine ed_cal c_asked_length (hr.mono (by decide)) (L2N.takes_of rfl rfl rfl rfl) ?_
  refine ea_cons ?_ ?_
  exact ed_var 1
  exact ea_nil
  refine ess_cons ?_ ?_
  refine es_if ?_ ?_ ?_
  refine eb_w ?_
  refine ew_or ?_ ?_
  refine eb_not ?_
  refine eb_val ?_
  refine ed_cal c_is_whole (hr.mono (by decide)) (L2N.takes_of rfl rfl rfl rfl) ?_
  refine ea_cons ?_ ?_
  exact ed_var 2
  exact ea_nil
  refine ew_or1 ?_
  refine eb_not ?_
  refine eb_chain opc_le opc_le op_le op_le ?_ ?_ ?_
  exact ed_int
  exact ed_var 2
  exact ed_gnum g_HANDS
  refine ess_one ?_
  exact es_err e_BadWatcher (L2N.takes_of rfl rfl rfl rfl)
  exact ess_nil
  refine ess_cons ?_ ?_
  refine es_fld f_length ?_ ?_
  exact ed_var 0
  exact ed_var 1
  refine ess_cons ?_ ?_
  refine es_fld f_known ?_ ?_
  exact ed_var 0
  refine ed_dat ?_
  refine el_lc (own := [("watcher" , 3)]) rfl sc_Room_init.nd ?_ (blkOk_by (own := [("watcher" , 3)]) (N := n_Room_init) (sc := defScope s_Room_init) (by decide +kernel)) ?_ ?_ ?_
  refine ei_rng1 (by rfl) b_range ?_
  refine ea_cons ?_ ?_
  exact ed_var 2
  exact ea_nil
  intro _ _ _ _ _
  exact egw_var (i := 3) sc_Room_init.nd
  intro _ _ _ _ _
  exact ebs_nil
  intro _ _ _ _ _
  refine ed_cel ?_
  refine el_lst ?_
  exact ea_nil
  refine ess_cons ?_ ?_
  refine es_fld f_letters ?_ ?_
  exact ed_var 0
  refine ed_cel ?_
  refine el_lst ?_
  exact ea_nil
  refine ess_cons ?_ ?_
  refine es_fld f_now ?_ ?_
  exact ed_var 0
  exact ed_int
  refine ess_one ?_
  refine es_fld f_lines ?_ ?_
  exact ed_var 0
  refine ed_cel ?_
  refine el_lst ?_
  exact ea_nil
abbrev s_Room_asked_watcher : Stmt := inClass (topS 39) 1
abbrev n_Room_asked_watcher : List Str := ["self", "watcher"]
theorem sc_Room_asked_watcher : FnScope n_Room_asked_watcher ["self", "watcher"] (defScope s_Room_asked_watcher) := ⟨rfl, rfl, rfl, by decide +kernel, rfl, by decide +kernel, by decide +kernel⟩
theorem ok_Room_asked_watcher {a : Addr} {fd : FuncData} (F : Fun K "asked_watcher" "Room.asked_watcher" s_Room_asked_watcher a fd) (b : Binds K fd ["self", "watcher"] []) (b_len : mg "len" = none) (c_is_whole : Cal P w K mg base G "is_whole" 1 1 d_is_whole) (e_BadWatcher : Err K mg G "BadWatcher" 15) (f_known : FldOk K G "known") :
  FD P w K mg base G 2 a 2 d_Room_asked_watcher := by
  apply FD.pure
  refine fd_of (nN := 2) (B := B_Room_asked_watcher) F sc_Room_asked_watcher rfl rfl b ?_
  intro cdv A outer s H E hr
  refine ess_one ?_
  refine es_if ?_ ?_ ?_
  refine eb_w ?_
  refine ew_or ?_ ?_
  refine eb_not ?_
  refine eb_val ?_
  refine ed_cal c_is_whole (hr.mono (by decide)) (L2N.takes_of rfl rfl rfl rfl) ?_
  refine ea_cons ?_ ?_
  exact ed_var 1
  exact ea_nil
  refine ew_or1 ?_
  refine eb_not ?_
  refine eb_chain opc_le opc_lt op_le op_lt ?_ ?_ ?_
  exact ed_int
  exact ed_var 1
  refine ed_callB cac_len call_len_seq (by rfl) b_len (by decide +kernel) ?_
  refine ea_cons ?_ ?_
  refine ed_fld f_known ?_
  exact ed_var 0
  exact ea_nil
  refine ess_one ?_
  exact es_err e_BadWatcher (L2N.takes_of rfl rfl rfl rfl)
  exact ess_nil
abbrev s_Room_order : Stmt := inClass (topS 39) 2
abbrev n_Room_order : List Str := ["self", "watcher", "kind", "place", "one"]
theorem sc_Room_order : FnScope n_Room_order ["self", "watcher", "kind", "place"] (defScope s_Room_order) := ⟨rfl, rfl, rfl, by decide +kernel, rfl, by decide +kernel, by decide +kernel⟩
theorem ok_Room_order {a : Addr} {fd : FuncData} (F : Fun K "order" "Room.order" s_Room_order a fd) (b : Binds K fd ["self", "watcher", "kind", "place"] []) (b_isinstance : mg "isinstance" = none) (b_len : mg "len" = none) (b_str : mg "str" = none) (c_is_whole : Cal P w K mg base G "is_whole" 1 1 d_is_whole) (e_BadKind : Err K mg G "BadKind" 16) (e_BadPlace : Err K mg G "BadPlace" 17) (e_Busy : Err K mg G "Busy" 20) (f_known : FldOk K G "known") (f_length : FldOk K G "length") (f_letters : FldOk K G "letters") (f_lines : FldOk K G "lines") (f_now : FldOk K G "now") (g_KINDS : TupIn K mg "KINDS" ["hold", "go", "move"]) (g_MOST_COMMANDS : ∃ t, mg "MOST_COMMANDS" = some (.int 300 t)) (h_asked_watcher : MD P w K mg base G 2 "asked_watcher" ms_asked_watcher) :
  FD P w K mg base G 3 a 4 d_Room_order := by
  refine fd_of (nN := 5) (B := B_Room_order) F sc_Room_order rfl rfl b ?_
  intro cdv A outer s H E hr
  refine ess_cons ?_ ?_
  refine es_expr ?_
  refine ed_meth (pl := _) h_asked_watcher ?_ (hr.mono (by decide)) (L2N.takes_of rfl rfl rfl rfl) ?_
  exact ed_var 0
  refine ea_cons ?_ ?_
  exact ed_var 1
  exact ea_nil
  refine ess_cons ?_ ?_
  refine es_if ?_ ?_ ?_
  refine eb_w ?_
  refine ew_or ?_ ?_
  refine eb_not ?_
  refine eb_val ?_
  refine ed_isB (t := .str) b_isinstance (by decide) b_str (by decide +kernel) ?_
  exact ed_var 2
  refine ew_or1 ?_
  refine eb_notInG g_KINDS ?_ (by with_unfolding_all rfl)
  exact ed_var 2
  refine ess_one ?_
  exact es_err e_BadKind (L2N.takes_of rfl rfl rfl rfl)
  exact ess_nil
  refine ess_cons ?_ ?_
  refine es_if ?_ ?_ ?_
  refine eb_w ?_
  refine ew_or ?_ ?_
  refine eb_not ?_
  refine eb_val ?_
  refine ed_cal c_is_whole (hr.mono (by decide)) (L2N.takes_of rfl rfl rfl rfl) ?_
  refine ea_cons ?_ ?_
  exact ed_var 3
  exact ea_nil
  refine ew_or1 ?_
  refine eb_not ?_
  refine eb_chain opc_le opc_le op_le op_le ?_ ?_ ?_
  exact ed_int
  exact ed_var 3
  refine ed_if ?_ ?_ ?_
  refine eb_cmp opc_eq (op_eqD (hu64 hr)) ?_ ?_ (nomark _)
  exact ed_var 2
  exact ed_str
  refine ed_fld f_length ?_
  exact ed_var 0
  exact ed_int
  refine ess_one ?_
  exact es_err e_BadPlace (L2N.takes_of rfl rfl rfl rfl)
  exact ess_nil
  refine ess_cons ?_ ?_
  refine es_if ?_ ?_ ?_
  refine eb_w ?_
  refine ew_or ?_ ?_
  refine eb_cmp opc_in (op_in2 (hu65 hr)) ?_ ?_ (by with_unfolding_all rfl)
  refine ed_tup ?_
  refine ea_cons ?_ ?_
  refine ed_fld f_now ?_
  exact ed_var 0
  refine ea_cons ?_ ?_
  exact ed_var 1
  exact ea_nil
  refine ed_dat ?_
  refine el_lc (own := [("one" , 4)]) rfl sc_Room_order.nd ?_ (blkOk_by (own := [("one" , 4)]) (N := n_Room_order) (sc := defScope s_Room_order) (by decide +kernel)) ?_ ?_ ?_
  refine ei_list ?_
  refine ed_fld f_letters ?_
  exact ed_var 0
  intro _ _ _ _ _
  exact egw_var (i := 4) sc_Room_order.nd
  intro _ _ _ _ _
  exact ebs_nil
  intro _ _ _ _ _
  refine ed_sl ?_ ?_ ?_
  exact ed_var 4
  exact eo_none
  refine eo_some ?_
  exact ed_int
  refine ew_or1 ?_
  refine eb_cmp opc_ge op_ge ?_ ?_ (nomark _)
  refine ed_callB cac_len call_len_seq (by rfl) b_len (by decide +kernel) ?_
  refine ea_cons ?_ ?_
  refine ed_fld f_letters ?_
  exact ed_var 0
  exact ea_nil
  exact ed_gnum g_MOST_COMMANDS
  refine ess_one ?_
  exact es_err e_Busy (L2N.takes_of rfl rfl rfl rfl)
  exact ess_nil
  refine ess_cons ?_ ?_
  refine es_expr ?_
  refine ed_lm lmc_append PySem.F.slot_list_append PySem.F.type_list_append mt_append ?_ ?_
  refine ed_fld f_letters ?_
  exact ed_var 0
  refine ea_cons ?_ ?_
  refine ed_tup ?_
  refine ea_cons ?_ ?_
  refine ed_fld f_now ?_
  exact ed_var 0
  refine ea_cons ?_ ?_
  exact ed_var 1
  refine ea_cons ?_ ?_
  exact ed_var 2
  refine ea_cons ?_ ?_
  exact ed_var 3
  exact ea_nil
  exact ea_nil
  refine ess_cons ?_ ?_
  refine es_expr ?_
  refine ed_lm lmc_append PySem.F.slot_list_append PySem.F.type_list_append mt_append ?_ ?_
  refine ed_ix ?_ ?_
  refine ed_fld f_known ?_
  exact ed_var 0
  exact ed_var 1
  refine ea_cons ?_ ?_
  refine ed_ix ?_ ?_
  refine ed_fld f_letters ?_
  exact ed_var 0
  refine ed_un unc_neg un_neg ?_
  exact ed_int
  exact ea_nil
  refine ess_cons ?_ ?_
  refine es_expr ?_
  refine ed_lm lmc_append PySem.F.slot_list_append PySem.F.type_list_append mt_append ?_ ?_
  refine ed_fld f_lines ?_
  exact ed_var 0
  refine ea_cons ?_ ?_
  refine ed_tup ?_
  refine ea_cons ?_ ?_
  exact ed_str
  refine ea_cons ?_ ?_
  exact ed_var 1
  refine ea_cons ?_ ?_
  exact ed_var 2
  refine ea_cons ?_ ?_
  exact ed_var 3
  exact ea_nil
  exact ea_nil
  refine ess_one ?_
  refine es_ret ?_
  refine ed_op opc_sub op_sub ?_ ?_
  refine ed_callB cac_len call_len_seq (by rfl) b_len (by decide +kernel) ?_
  refine ea_cons ?_ ?_
  refine ed_fld f_letters ?_
  exact ed_var 0
  exact ea_nil
  exact ed_int
abbrev s_Room_bring : Stmt := inClass (topS 39) 3
abbrev n_Room_bring : List Str := ["self", "letter", "watcher", "new"]
theorem sc_Room_bring : FnScope n_Room_bring ["self", "letter", "watcher"] (defScope s_Room_bring) := ⟨rfl, rfl, rfl, by decide +kernel, rfl, by decide +kernel, by decide +kernel⟩
theorem ok_Room_bring {a : Addr} {fd : FuncData} (F : Fun K "bring" "Room.bring" s_Room_bring a fd) (b : Binds K fd ["self", "letter", "watcher"] []) (b_len : mg "len" = none) (c_is_whole : Cal P w K mg base G "is_whole" 1 1 d_is_whole) (e_BadLetter : Err K mg G "BadLetter" 18) (f_known : FldOk K G "known") (f_letters : FldOk K G "letters") (f_lines : FldOk K G "lines") (h_asked_watcher : MD P w K mg base G 2 "asked_watcher" ms_asked_watcher) :
  FD P w K mg base G 3 a 3 d_Room_bring := by
  refine fd_of (nN := 4) (B := B_Room_bring) F sc_Room_bring rfl rfl b ?_
  intro cdv A outer s H E hr
  refine ess_cons ?_ ?_
  refine es_if ?_ ?_ ?_
  refine eb_w ?_
  refine ew_or ?_ ?_
  refine eb_not ?_
  refine eb_val ?_
  refine ed_cal c_is_whole (hr.mono (by decide)) (L2N.takes_of rfl rfl rfl rfl) ?_
  refine ea_cons ?_ ?_
  exact ed_var 1
  exact ea_nil
  refine ew_or1 ?_
  refine eb_not ?_
  refine eb_chain opc_le opc_lt op_le op_lt ?_ ?_ ?_
  exact ed_int
  exact ed_var 1
  refine ed_callB cac_len call_len_seq (by rfl) b_len (by decide +kernel) ?_
  refine ea_cons ?_ ?_
  refine ed_fld f_letters ?_
  exact ed_var 0
  exact ea_nil
  refine ess_one ?_
  exact es_err e_BadLetter (L2N.takes_of rfl rfl rfl rfl)
  exact ess_nil
  refine ess_cons ?_ ?_
  refine es_expr ?_
  refine ed_meth (pl := _) h_asked_watcher ?_ (hr.mono (by decide)) (L2N.takes_of rfl rfl rfl rfl) ?_
  exact ed_var 0
  refine ea_cons ?_ ?_
  exact ed_var 2
  exact ea_nil
  refine ess_cons ?_ ?_
  refine es_set (i := 3) sc_Room_bring.nd ?_
  refine ed_cmp opc_notIn (op_notIn2 (hu65 hr)) ?_ ?_ (by with_unfolding_all rfl)
  refine ed_ix ?_ ?_
  refine ed_fld f_letters ?_
  exact ed_var 0
  exact ed_var 1
  refine ed_ix ?_ ?_
  refine ed_fld f_known ?_
  exact ed_var 0
  exact ed_var 2
  refine ess_cons ?_ ?_
  refine es_if ?_ ?_ ?_
  refine eb_val ?_
  exact ed_var 3
  refine ess_one ?_
  refine es_expr ?_
  refine ed_lm lmc_append PySem.F.slot_list_append PySem.F.type_list_append mt_append ?_ ?_
  refine ed_ix ?_ ?_
  refine ed_fld f_known ?_
  exact ed_var 0
  exact ed_var 2
  refine ea_cons ?_ ?_
  refine ed_ix ?_ ?_
  refine ed_fld f_letters ?_
  exact ed_var 0
  exact ed_var 1
  exact ea_nil
  exact ess_nil
  refine ess_cons ?_ ?_
  refine es_expr ?_
  refine ed_lm lmc_append PySem.F.slot_list_append PySem.F.type_list_append mt_append ?_ ?_
  refine ed_fld f_lines ?_
  exact ed_var 0
  refine ea_cons ?_ ?_
  refine ed_tup ?_
  refine ea_cons ?_ ?_
  exact ed_str
  refine ea_cons ?_ ?_
  exact ed_var 1
  refine ea_cons ?_ ?_
  exact ed_var 2
  exact ea_nil
  exact ea_nil
  refine ess_one ?_
  refine es_ret ?_
  exact ed_var 3
abbrev s_Room_tick : Stmt := inClass (topS 39) 4
abbrev n_Room_tick : List Str := ["self", "many"]
theorem sc_Room_tick : FnScope n_Room_tick ["self", "many"] (defScope s_Room_tick) := ⟨rfl, rfl, rfl, by decide +kernel, rfl, by decide +kernel, by decide +kernel⟩
theorem ok_Room_tick {a : Addr} {fd : FuncData} (F : Fun K "tick" "Room.tick" s_Room_tick a fd) (b : Binds K fd ["self", "many"] []) (c_is_whole : Cal P w K mg base G "is_whole" 1 1 d_is_whole) (e_BadTick : Err K mg G "BadTick" 13) (f_lines : FldOk K G "lines") (f_now : FldOk K G "now") :
  FD P w K mg base G 2 a 2 d_Room_tick := by
  refine fd_of (nN := 2) (B := B_Room_tick) F sc_Room_tick rfl rfl b ?_
  intro cdv A outer s H E hr
  refine ess_cons ?_ ?_
  refine es_if ?_ ?_ ?_
  refine eb_w ?_
  refine ew_or ?_ ?_
  refine eb_not ?_
  refine eb_val ?_
  refine ed_cal c_is_whole (hr.mono (by decide)) (L2N.takes_of rfl rfl rfl rfl) ?_
  refine ea_cons ?_ ?_
  exact ed_var 1
  exact ea_nil
  refine ew_or1 ?_
  refine eb_cmp opc_lt op_lt ?_ ?_ (nomark _)
  exact ed_var 1
  exact ed_int
  refine ess_one ?_
  exact es_err e_BadTick (L2N.takes_of rfl rfl rfl rfl)
  exact ess_nil
  refine ess_cons ?_ ?_
  refine es_fld f_now ?_ ?_
  exact ed_var 0
  refine ed_op opc_add op_add3 ?_ ?_
  refine ed_fld f_now ?_
  exact ed_var 0
  exact ed_var 1
  refine ess_cons ?_ ?_
  refine es_expr ?_
  refine ed_lm lmc_append PySem.F.slot_list_append PySem.F.type_list_append mt_append ?_ ?_
  refine ed_fld f_lines ?_
  exact ed_var 0
  refine ea_cons ?_ ?_
  refine ed_tup ?_
  refine ea_cons ?_ ?_
  exact ed_str
  refine ea_cons ?_ ?_
  exact ed_var 1
  exact ea_nil
  exact ea_nil
  refine ess_one ?_
  refine es_ret ?_
  refine ed_fld f_now ?_
  exact ed_var 0
abbrev s_Room_stands : Stmt := inClass (topS 39) 5
abbrev n_Room_stands : List Str := ["self", "watcher"]
theorem sc_Room_stands : FnScope n_Room_stands ["self", "watcher"] (defScope s_Room_stands) := ⟨rfl, rfl, rfl, by decide +kernel, rfl, by decide +kernel, by decide +kernel⟩
theorem ok_Room_stands {a : Addr} {fd : FuncData} (F : Fun K "stands" "Room.stands" s_Room_stands a fd) (b : Binds K fd ["self", "watcher"] []) (c_stand_of : Cal P w K mg base G "stand_of" 1 3 d_stand_of) (f_known : FldOk K G "known") (f_length : FldOk K G "length") (f_now : FldOk K G "now") (h_asked_watcher : MD P w K mg base G 2 "asked_watcher" ms_asked_watcher) :
  FD P w K mg base G 3 a 2 d_Room_stands := by
  apply FD.pure
  refine fd_of (nN := 2) (B := B_Room_stands) F sc_Room_stands rfl rfl b ?_
  intro cdv A outer s H E hr
  refine ess_cons ?_ ?_
  refine es_expr ?_
  refine ed_meth (pl := _) h_asked_watcher ?_ (hr.mono (by decide)) (L2N.takes_of rfl rfl rfl rfl) ?_
  exact ed_var 0
  refine ea_cons ?_ ?_
  exact ed_var 1
  exact ea_nil
  refine ess_one ?_
  refine es_ret ?_
  refine ed_cal c_stand_of (hr.mono (by decide)) (L2N.takes_of rfl rfl rfl rfl) ?_
  refine ea_cons ?_ ?_
  refine ed_fld f_length ?_
  exact ed_var 0
  refine ea_cons ?_ ?_
  refine ed_ix ?_ ?_
  refine ed_fld f_known ?_
  exact ed_var 0
  exact ed_var 1
  refine ea_cons ?_ ?_
  refine ed_fld f_now ?_
  exact ed_var 0
  exact ea_nil
abbrev s_Room_knows : Stmt := inClass (topS 39) 6
abbrev n_Room_knows : List Str := ["self", "watcher"]
theorem sc_Room_knows : FnScope n_Room_knows ["self", "watcher"] (defScope s_Room_knows) := ⟨rfl, rfl, rfl, by decide +kernel, rfl, by decide +kernel, by decide +kernel⟩
theorem ok_Room_knows {a : Addr} {fd : FuncData} (F : Fun K "knows" "Room.knows" s_Room_knows a fd) (b : Binds K fd ["self", "watcher"] []) (b_sorted : mg "sorted" = none) (f_known : FldOk K G "known") (h_asked_watcher : MD P w K mg base G 2 "asked_watcher" ms_asked_watcher) :
  FD P w K mg base G 3 a 2 d_Room_knows := by
  apply FD.pure
  refine fd_of (nN := 2) (B := B_Room_knows) F sc_Room_knows rfl rfl b ?_
  intro cdv A outer s H E hr
  refine ess_cons ?_ ?_
  refine es_expr ?_
  refine ed_meth (pl := _) h_asked_watcher ?_ (hr.mono (by decide)) (L2N.takes_of rfl rfl rfl rfl) ?_
  exact ed_var 0
  refine ea_cons ?_ ?_
  exact ed_var 1
  exact ea_nil
  refine ess_one ?_
  refine es_ret ?_
  refine ed_dat ?_
  refine el_callB clc_sorted (cr_sortB (hu64 hr)) (by rfl) b_sorted (by decide +kernel) ?_
  refine ea_cons ?_ ?_
  refine ed_ix ?_ ?_
  refine ed_fld f_known ?_
  exact ed_var 0
  exact ed_var 1
  exact ea_nil
abbrev s_Room_at_rest : Stmt := inClass (topS 39) 7
abbrev n_Room_at_rest : List Str := ["self", "some"]
theorem sc_Room_at_rest : FnScope n_Room_at_rest ["self"] (defScope s_Room_at_rest) := ⟨rfl, rfl, rfl, by decide +kernel, rfl, by decide +kernel, by decide +kernel⟩
theorem ok_Room_at_rest {a : Addr} {fd : FuncData} (F : Fun K "at_rest" "Room.at_rest" s_Room_at_rest a fd) (b : Binds K fd ["self"] []) (b_all : mg "all" = none) (b_len : mg "len" = none) (f_known : FldOk K G "known") (f_letters : FldOk K G "letters") :
  FD P w K mg base G 1 a 1 d_Room_at_rest := by
  apply FD.pure
  refine fd_of (nN := 2) (B := B_Room_at_rest) F sc_Room_at_rest rfl rfl b ?_
  intro cdv A outer s H E hr
  refine ess_one ?_
  refine es_ret ?_
  refine ed_callB cac_all (cr_all rfl) (by rfl) b_all (by decide +kernel) ?_
  refine ea_cons ?_ ?_
  refine ed_dat ?_
  refine el_lc (own := [("some" , 1)]) rfl sc_Room_at_rest.nd ?_ (blkOk_by (own := [("some" , 1)]) (N := n_Room_at_rest) (sc := defScope s_Room_at_rest) (by decide +kernel)) ?_ ?_ ?_
  refine ei_list ?_
  refine ed_fld f_known ?_
  exact ed_var 0
  intro _ _ _ _ _
  exact egw_var (i := 1) sc_Room_at_rest.nd
  intro _ _ _ _ _
  exact ebs_nil
  intro _ _ _ _ _
  refine ed_cmp opc_eq (op_eqD (hu64 hr)) ?_ ?_ (nomark _)
  refine ed_callB cac_len call_len_seq (by rfl) b_len (by decide +kernel) ?_
  refine ea_cons ?_ ?_
  exact ed_var 1
  exact ea_nil
  refine ed_callB cac_len call_len_seq (by rfl) b_len (by decide +kernel) ?_
  refine ea_cons ?_ ?_
  refine ed_fld f_letters ?_
  exact ed_var 0
  exact ea_nil
  exact ea_nil
abbrev s_Room_tale : Stmt := inClass (topS 39) 8
abbrev n_Room_tale : List Str := ["self"]
theorem sc_Room_tale : FnScope n_Room_tale ["self"] (defScope s_Room_tale) := ⟨rfl, rfl, rfl, by decide +kernel, rfl, by decide +kernel, by decide +kernel⟩
theorem ok_Room_tale {a : Addr} {fd : FuncData} (F : Fun K "tale" "Room.tale" s_Room_tale a fd) (b : Binds K fd ["self"] []) (b_list : mg "list" = none) (f_lines : FldOk K G "lines") :
  FD P w K mg base G 1 a 1 d_Room_tale := by
  apply FD.pure
  refine fd_of (nN := 1) (B := B_Room_tale) F sc_Room_tale rfl rfl b ?_
  intro cdv A outer s H E hr
  refine ess_one ?_
  refine es_ret ?_
  refine ed_dat ?_
  refine el_callTy clc_list call_list_of (by rfl) b_list (by decide +kernel) ?_
  refine ea_cons ?_ ?_
  refine ed_fld f_lines ?_
  exact ed_var 0
  exact ea_nil
abbrev s_is_line : Stmt := topS 42
abbrev n_is_line : List Str := ["thing", "sizes", "one"]
theorem sc_is_line : FnScope n_is_line ["thing"] (defScope s_is_line) := ⟨rfl, rfl, rfl, by decide +kernel, rfl, by decide +kernel, by decide +kernel⟩
theorem ok_is_line {a : Addr} {fd : FuncData} (F : Fun K "is_line" "is_line" s_is_line a fd) (b : Binds K fd ["thing"] []) (b_all : mg "all" = none) (b_isinstance : mg "isinstance" = none) (b_len : mg "len" = none) (b_str : mg "str" = none) (b_tuple : mg "tuple" = none) (c_is_whole : Cal P w K mg base G "is_whole" 1 1 d_is_whole) :
  FD P w K mg base G 2 a 1 d_is_line := by
  apply FD.pure
  refine fd_of (nN := 3) (B := B_is_line) F sc_is_line rfl rfl b ?_
  intro cdv A outer s H E hr
  refine ess_cons ?_ ?_
  refine es_if ?_ ?_ ?_
  refine eb_w ?_
  refine ew_or ?_ ?_
  refine eb_not ?_
  refine eb_val ?_
  refine ed_isB (t := .tup) b_isinstance (by decide) b_tuple (by decide +kernel) ?_
  exact ed_var 0
  refine ew_or ?_ ?_
  refine eb_cmp opc_eq (op_eqD (hu64 hr)) ?_ ?_ (nomark _)
  exact ed_var 0
  refine ed_tup ?_
  exact ea_nil
  refine ew_or1 ?_
  refine eb_not ?_
  refine eb_val ?_
  refine ed_isB (t := .str) b_isinstance (by decide) b_str (by decide +kernel) ?_
  refine ed_ix ?_ ?_
  exact ed_var 0
  exact ed_int
  refine ess_one ?_
  refine es_ret ?_
  exact ed_bl
  exact ess_nil
  refine ess_cons ?_ ?_
  refine es_if ?_ ?_ ?_
  refine eb_cmp opc_eq (op_eqD (hu64 hr)) ?_ ?_ (nomark _)
  refine ed_ix ?_ ?_
  exact ed_var 0
  exact ed_int
  exact ed_str
  refine ess_one ?_
  refine es_ret ?_
  refine ed_and ?_ ?_
  refine ed_cmp opc_eq (op_eqD (hu64 hr)) ?_ ?_ (nomark _)
  refine ed_callB cac_len call_len_seq (by rfl) b_len (by decide +kernel) ?_
  refine ea_cons ?_ ?_
  exact ed_var 0
  exact ea_nil
  exact ed_int
  refine ed_and ?_ ?_
  refine ed_cal c_is_whole (hr.mono (by decide)) (L2N.takes_of rfl rfl rfl rfl) ?_
  refine ea_cons ?_ ?_
  refine ed_ix ?_ ?_
  exact ed_var 0
  exact ed_int
  exact ea_nil
  refine ed_and ?_ ?_
  refine ed_isB (t := .str) b_isinstance (by decide) b_str (by decide +kernel) ?_
  refine ed_ix ?_ ?_
  exact ed_var 0
  exact ed_int
  refine ed_one ?_
  refine ed_cal c_is_whole (hr.mono (by decide)) (L2N.takes_of rfl rfl rfl rfl) ?_
  refine ea_cons ?_ ?_
  refine ed_ix ?_ ?_
  exact ed_var 0
  exact ed_int
  exact ea_nil
  exact ess_nil
  refine ess_cons ?_ ?_
  refine es_set (i := 1) sc_is_line.nd ?_
  refine ed_disp ?_
  refine eps_cons ?_ ?_
  exact ed_int
  refine eps_cons ?_ ?_
  exact ed_int
  refine eps_cons ?_ ?_
  exact ed_int
  exact eps_nil
  refine ess_one ?_
  refine es_ret ?_
  refine ed_and ?_ ?_
  refine ed_cmp opc_eq (op_eqD (hu64 hr)) ?_ ?_ (nomark _)
  refine ed_getS2 ?_ ?_ ?_ (hu65 hr)
  exact ed_var 1
  refine ed_ix ?_ ?_
  exact ed_var 0
  exact ed_int
  exact ed_int
  refine ed_callB cac_len call_len_seq (by rfl) b_len (by decide +kernel) ?_
  refine ea_cons ?_ ?_
  exact ed_var 0
  exact ea_nil
  refine ed_one ?_
  refine ed_callB cac_all (cr_all rfl) (by rfl) b_all (by decide +kernel) ?_
  refine ea_cons ?_ ?_
  refine ed_dat ?_
  refine el_lc (own := [("one" , 2)]) rfl sc_is_line.nd ?_ (blkOk_by (own := [("one" , 2)]) (N := n_is_line) (sc := defScope s_is_line) (by decide +kernel)) ?_ ?_ ?_
  refine ei_tup ?_
  refine ed_sl ?_ ?_ ?_
  exact ed_var 0
  refine eo_some ?_
  exact ed_int
  exact eo_none
  intro _ _ _ _ _
  exact egw_var (i := 2) sc_is_line.nd
  intro _ _ _ _ _
  exact ebs_nil
  intro _ _ _ _ _
  refine ed_cal c_is_whole (hr.mono (by decide)) takesN0 ?_
  refine ea_cons ?_ ?_
  exact ed_var 2
  exact ea_nil
  exact ea_nil
abbrev s_can_come : Stmt := topS 43
abbrev n_can_come : List Str := ["room", "line"]
theorem sc_can_come : FnScope n_can_come ["room", "line"] (defScope s_can_come) := ⟨rfl, rfl, rfl, by decide +kernel, rfl, by decide +kernel, by decide +kernel⟩
theorem ok_can_come {a : Addr} {fd : FuncData} (F : Fun K "can_come" "can_come" s_can_come a fd) (b : Binds K fd ["room", "line"] []) (h_bring : MD P w K mg base G 3 "bring" ms_bring) (h_order : MD P w K mg base G 3 "order" ms_order) (h_stands : MD P w K mg base G 3 "stands" ms_stands) (h_tick : MD P w K mg base G 2 "tick" ms_tick) (t_WatchError : Tryf K mg G [11, 12, 13, 14, 15, 16, 17, 18, 19, 20] "WatchError" 10) :
  FD P w K mg base G 4 a 2 d_can_come := by
  refine fd_of (nN := 2) (B := B_can_come) F sc_can_come rfl rfl b ?_
  intro cdv A outer s H E hr
  refine ess_one ?_
  refine es_trf t_WatchError (L2N.takes_of rfl rfl rfl rfl) ?_ ?_
  intro W0 pn0 xe0 tk0 hp0
  refine ess_cons ?_ ?_
  refine es_if ?_ ?_ ?_
  refine eb_cmp opc_eq (op_eqD (hu64 hr)) ?_ ?_ (nomark _)
  refine ed_ix ?_ ?_
  exact ed_var 1
  exact ed_int
  exact ed_str
  refine ess_one ?_
  refine es_ret ?_
  refine ed_cmp opc_ge op_ge ?_ ?_ (nomark _)
  refine ed_meth (pl := _) h_order ?_ (hr.mono (by decide)) tk0 ?_
  exact ed_var 0
  refine ea_cons ?_ ?_
  refine ed_ix ?_ ?_
  exact ed_var 1
  exact ed_int
  refine ea_cons ?_ ?_
  refine ed_ix ?_ ?_
  exact ed_var 1
  exact ed_int
  refine ea_cons ?_ ?_
  refine ed_ix ?_ ?_
  exact ed_var 1
  exact ed_int
  exact ea_nil
  exact ed_int
  exact ess_nil
  refine ess_cons ?_ ?_
  refine es_if ?_ ?_ ?_
  refine eb_cmp opc_eq (op_eqD (hu64 hr)) ?_ ?_ (nomark _)
  refine ed_ix ?_ ?_
  exact ed_var 1
  exact ed_int
  exact ed_str
  refine ess_one ?_
  refine es_ret ?_
  refine ed_cmp opc_in (op_in2 (hu65 hr)) ?_ ?_ (by with_unfolding_all rfl)
  refine ed_meth (pl := _) h_bring ?_ (hr.mono (by decide)) tk0 ?_
  exact ed_var 0
  refine ea_cons ?_ ?_
  refine ed_ix ?_ ?_
  exact ed_var 1
  exact ed_int
  refine ea_cons ?_ ?_
  refine ed_ix ?_ ?_
  exact ed_var 1
  exact ed_int
  exact ea_nil
  refine ed_tup ?_
  refine ea_cons ?_ ?_
  exact ed_bl
  refine ea_cons ?_ ?_
  exact ed_bl
  exact ea_nil
  exact ess_nil
  refine ess_cons ?_ ?_
  refine es_if ?_ ?_ ?_
  refine eb_cmp opc_eq (op_eqD (hu64 hr)) ?_ ?_ (nomark _)
  refine ed_ix ?_ ?_
  exact ed_var 1
  exact ed_int
  exact ed_str
  refine ess_one ?_
  refine es_ret ?_
  refine ed_cmp opc_gt op_gt ?_ ?_ (nomark _)
  refine ed_meth (pl := _) h_tick ?_ (hr.mono (by decide)) tk0 ?_
  exact ed_var 0
  refine ea_cons ?_ ?_
  refine ed_ix ?_ ?_
  exact ed_var 1
  exact ed_int
  exact ea_nil
  exact ed_int
  exact ess_nil
  refine ess_one ?_
  refine es_ret ?_
  refine ed_cmp opc_eq (op_eqD (hu64 hr)) ?_ ?_ (nomark _)
  refine ed_ix ?_ ?_
  refine ed_meth (pl := _) h_stands ?_ (hr.mono (by decide)) tk0 ?_
  exact ed_var 0
  refine ea_cons ?_ ?_
  refine ed_ix ?_ ?_
  exact ed_var 1
  exact ed_int
  exact ea_nil
  exact ed_int
  refine ed_ix ?_ ?_
  exact ed_var 1
  exact ed_int
  intro a0 oe0 qn0
  refine ess_one ?_
  refine es_ret ?_
  exact ed_bl
abbrev s_first_wrong : Stmt := topS 44
abbrev n_first_wrong : List Str := ["length", "watchers", "tale", "room", "place", "line"]
theorem sc_first_wrong : FnScope n_first_wrong ["length", "watchers", "tale"] (defScope s_first_wrong) := ⟨rfl, rfl, rfl, by decide +kernel, rfl, by decide +kernel, by decide +kernel⟩
theorem ok_first_wrong {a : Addr} {fd : FuncData} (F : Fun K "first_wrong" "first_wrong" s_first_wrong a fd) (b : Binds K fd ["length", "watchers", "tale"] []) (b_enumerate : mg "enumerate" = none) (c_can_come : Cal P w K mg base G "can_come" 4 2 d_can_come) (m_Room : Mkr P w K mg base G "Room" 5 3 3 d_Room_init) :
  FD P w K mg base G 5 a 3 d_first_wrong := by
  apply FD.pure
  refine fd_of (nN := 6) (B := B_first_wrong) F sc_first_wrong rfl rfl b ?_
  intro cdv A outer s H E hr
  refine ess_cons ?_ ?_
  refine es_set (i := 3) sc_first_wrong.nd ?_
  refine ed_mkr m_Room (hr.mono (by decide)) (L2N.takes_of rfl rfl rfl rfl) ?_
  refine ea_cons ?_ ?_
  exact ed_var 0
  refine ea_cons ?_ ?_
  exact ed_var 1
  exact ea_nil
  refine ess_cons ?_ ?_
  refine es_for (passes_of rfl) rfl ?_ ?_ ?_
  refine ei_enum (by rfl) b_enumerate ?_
  refine ea_cons ?_ ?_
  exact ed_var 2
  exact ea_nil
  refine eg_tup rfl ?_
  refine egs_cons (i := 4) ?_ ?_
  exact eg_var (i := 4) sc_first_wrong.nd
  refine egs_cons (i := 5) ?_ ?_
  exact eg_var (i := 5) sc_first_wrong.nd
  exact egs_nil
  refine ess_one ?_
  refine es_if ?_ ?_ ?_
  refine eb_not ?_
  refine eb_val ?_
  refine ed_cal c_can_come (hr.mono (by decide)) (L2N.takes_of rfl rfl rfl rfl) ?_
  refine ea_cons ?_ ?_
  exact ed_var 3
  refine ea_cons ?_ ?_
  exact ed_var 5
  exact ea_nil
  refine ess_one ?_
  refine es_ret ?_
  exact ed_var 4
  exact ess_nil
  refine ess_one ?_
  refine es_ret ?_
  exact ed_non
abbrev s_Right_shows : Stmt := inClass (topS 45) 0
abbrev n_Right_shows : List Str := ["self", "length", "watchers", "tale"]
theorem sc_Right_shows : FnScope n_Right_shows ["self", "length", "watchers", "tale"] (defScope s_Right_shows) := ⟨rfl, rfl, rfl, by decide +kernel, rfl, by decide +kernel, by decide +kernel⟩
theorem ok_Right_shows {a : Addr} {fd : FuncData} (F : Fun K "shows" "Right.shows" s_Right_shows a fd) (b : Binds K fd ["self", "length", "watchers", "tale"] []) (c_first_wrong : Cal P w K mg base G "first_wrong" 5 3 d_first_wrong) :
  FD P w K mg base G 6 a 4 d_Right_shows := by
  apply FD.pure
  refine fd_of (nN := 4) (B := B_Right_shows) F sc_Right_shows rfl rfl b ?_
  intro cdv A outer s H E hr
  refine ess_one ?_
  refine es_ret ?_
  refine ed_cmp opc_isN op_isN ?_ ?_ (nomark _)
  refine ed_cal c_first_wrong (hr.mono (by decide)) (L2N.takes_of rfl rfl rfl rfl) ?_
  refine ea_cons ?_ ?_
  exact ed_var 1
  refine ea_cons ?_ ?_
  exact ed_var 2
  refine ea_cons ?_ ?_
  exact ed_var 3
  exact ea_nil
  exact ed_non
abbrev s_Wrong_init : Stmt := inClass (topS 46) 0
abbrev n_Wrong_init : List Str := ["self", "line"]
theorem sc_Wrong_init : FnScope n_Wrong_init ["self", "line"] (defScope s_Wrong_init) := ⟨rfl, rfl, rfl, by decide +kernel, rfl, by decide +kernel, by decide +kernel⟩
theorem ok_Wrong_init {a : Addr} {fd : FuncData} (F : Fun K "__init__" "Wrong.__init__" s_Wrong_init a fd) (b : Binds K fd ["self", "line"] []) (f_line : FldOk K G "line") :
  FD P w K mg base G 1 a 2 d_Wrong_init := by
  refine fd_of (nN := 2) (B := B_Wrong_init) F sc_Wrong_init rfl rfl b ?_
  intro cdv A outer s H E hr
  refine ess_one ?_
  refine es_fld f_line ?_ ?_
  exact ed_var 0
  exact ed_var 1
abbrev s_Wrong_shows : Stmt := inClass (topS 46) 1
abbrev n_Wrong_shows : List Str := ["self", "length", "watchers", "tale", "place"]
theorem sc_Wrong_shows : FnScope n_Wrong_shows ["self", "length", "watchers", "tale"] (defScope s_Wrong_shows) := ⟨rfl, rfl, rfl, by decide +kernel, rfl, by decide +kernel, by decide +kernel⟩
theorem ok_Wrong_shows {a : Addr} {fd : FuncData} (F : Fun K "shows" "Wrong.shows" s_Wrong_shows a fd) (b : Binds K fd ["self", "length", "watchers", "tale"] []) (c_first_wrong : Cal P w K mg base G "first_wrong" 5 3 d_first_wrong) (f_line : FldOk K G "line") :
  FD P w K mg base G 6 a 4 d_Wrong_shows := by
  apply FD.pure
  refine fd_of (nN := 5) (B := B_Wrong_shows) F sc_Wrong_shows rfl rfl b ?_
  intro cdv A outer s H E hr
  refine ess_cons ?_ ?_
  refine es_set (i := 4) sc_Wrong_shows.nd ?_
  refine ed_cal c_first_wrong (hr.mono (by decide)) (L2N.takes_of rfl rfl rfl rfl) ?_
  refine ea_cons ?_ ?_
  exact ed_var 1
  refine ea_cons ?_ ?_
  exact ed_var 2
  refine ea_cons ?_ ?_
  exact ed_var 3
  exact ea_nil
  refine ess_one ?_
  refine es_ret ?_
  refine ed_and ?_ ?_
  refine ed_cmp opc_notN op_notN ?_ ?_ (nomark _)
  exact ed_var 4
  exact ed_non
  refine ed_one ?_
  refine ed_cmp opc_eq (op_eqD (hu64 hr)) ?_ ?_ (nomark _)
  refine ed_fld f_line ?_
  exact ed_var 0
  exact ed_var 4
abbrev s_tale_judged : Stmt := topS 47
abbrev n_tale_judged : List Str := ["length", "watchers", "tale", "place", "line"]
theorem sc_tale_judged : FnScope n_tale_judged ["length", "watchers", "tale"] (defScope s_tale_judged) := ⟨rfl, rfl, rfl, by decide +kernel, rfl, by decide +kernel, by decide +kernel⟩
theorem ok_tale_judged {a : Addr} {fd : FuncData} (F : Fun K "tale_judged" "tale_judged" s_tale_judged a fd) (b : Binds K fd ["length", "watchers", "tale"] []) (b_all : mg "all" = none) (b_isinstance : mg "isinstance" = none) (b_len : mg "len" = none) (b_list : mg "list" = none) (c_first_wrong : Cal P w K mg base G "first_wrong" 5 3 d_first_wrong) (c_is_line : Cal P w K mg base G "is_line" 2 1 d_is_line) (e_BadTale : Err K mg G "BadTale" 19) (g_LONGEST : ∃ t, mg "LONGEST" = some (.int 60 t)) (m_Right : Mkr0 K mg G "Right" 3) (m_Room : Mkr P w K mg base G "Room" 5 3 3 d_Room_init) (m_Wrong : Mkr P w K mg base G "Wrong" 4 1 2 d_Wrong_init) :
  FD P w K mg base G 6 a 3 d_tale_judged := by
  apply FD.pure
  refine fd_of (nN := 5) (B := B_tale_judged) F sc_tale_judged rfl rfl b ?_
  intro cdv A outer s H E hr
  refine ess_cons ?_ ?_
  refine es_expr ?_
  refine ed_mkr m_Room (hr.mono (by decide)) (L2N.takes_of rfl rfl rfl rfl) ?_
  refine ea_cons ?_ ?_
  exact ed_var 0
  refine ea_cons ?_ ?_
  exact ed_var 1
  exact ea_nil
  refine ess_cons ?_ ?_
  refine es_if ?_ ?_ ?_
  refine eb_w ?_
  refine ew_or ?_ ?_
  refine eb_not ?_
  refine eb_val ?_
  refine ed_isB (t := .lst) b_isinstance (by decide) b_list (by decide +kernel) ?_
  exact ed_var 2
  refine ew_or ?_ ?_
  refine eb_cmp opc_gt op_gt ?_ ?_ (nomark _)
  refine ed_callB cac_len call_len_seq (by rfl) b_len (by decide +kernel) ?_
  refine ea_cons ?_ ?_
  exact ed_var 2
  exact ea_nil
  exact ed_gnum g_LONGEST
  refine ew_or1 ?_
  refine eb_not ?_
  refine eb_val ?_
  refine ed_callB cac_all (cr_all rfl) (by rfl) b_all (by decide +kernel) ?_
  refine ea_cons ?_ ?_
  refine ed_dat ?_
  refine el_lc (own := [("line" , 4)]) rfl sc_tale_judged.nd ?_ (blkOk_by (own := [("line" , 4)]) (N := n_tale_judged) (sc := defScope s_tale_judged) (by decide +kernel)) ?_ ?_ ?_
  refine ei_list ?_
  exact ed_var 2
  intro _ _ _ _ _
  exact egw_var (i := 4) sc_tale_judged.nd
  intro _ _ _ _ _
  exact ebs_nil
  intro _ _ _ _ _
  refine ed_cal c_is_line (hr.mono (by decide)) takesN0 ?_
  refine ea_cons ?_ ?_
  exact ed_var 4
  exact ea_nil
  exact ea_nil
  refine ess_one ?_
  exact es_err e_BadTale (L2N.takes_of rfl rfl rfl rfl)
  exact ess_nil
  refine ess_cons ?_ ?_
  refine es_set (i := 3) sc_tale_judged.nd ?_
  refine ed_cal c_first_wrong (hr.mono (by decide)) (L2N.takes_of rfl rfl rfl rfl) ?_
  refine ea_cons ?_ ?_
  exact ed_var 0
  refine ea_cons ?_ ?_
  exact ed_var 1
  refine ea_cons ?_ ?_
  exact ed_var 2
  exact ea_nil
  refine ess_one ?_
  refine es_ret ?_
  refine ed_if ?_ ?_ ?_
  refine eb_cmp opc_isN op_isN ?_ ?_ (nomark _)
  exact ed_var 3
  exact ed_non
  exact ed_mkr0 m_Right
  refine ed_pure ?_
  refine ed_mkr m_Wrong (hr.mono (by decide)) (L2N.takes_of rfl rfl rfl rfl) ?_
  refine ea_cons ?_ ?_
  exact ed_var 3
  exact ea_nil
abbrev s_law_refused : Stmt := topS 49
abbrev n_law_refused : List Str := ["_law_ask", "_law_thing", "_law_due", "error", "_law_kinds", "_law_kind"]
theorem sc_law_refused : FnScope n_law_refused ["_law_ask", "_law_thing", "_law_due"] (defScope s_law_refused) := ⟨rfl, rfl, rfl, by decide +kernel, rfl, by decide +kernel, by decide +kernel⟩
theorem ok_law_refused {a : Addr} {fd : FuncData} (F : Fun K "_law_refused" "_law_refused" s_law_refused a fd) (b : Binds K fd ["_law_ask", "_law_thing", "_law_due"] []) (b_ValueError : mg "ValueError" = none) (b_isinstance : mg "isinstance" = none) (b_range : mg "range" = none) (t_WatchError : Tryf K mg G [11, 12, 13, 14, 15, 16, 17, 18, 19, 20] "WatchError" 10) (x_es : EExc K G [11, 12, 13, 14, 15, 16, 17, 18, 19, 20]) (y_BadCommands : EIs K mg G [11, 12, 13, 14, 15, 16, 17, 18, 19, 20] "BadCommands" 12) (y_BadKind : EIs K mg G [11, 12, 13, 14, 15, 16, 17, 18, 19, 20] "BadKind" 16) (y_BadLength : EIs K mg G [11, 12, 13, 14, 15, 16, 17, 18, 19, 20] "BadLength" 11) (y_BadLetter : EIs K mg G [11, 12, 13, 14, 15, 16, 17, 18, 19, 20] "BadLetter" 18) (y_BadPlace : EIs K mg G [11, 12, 13, 14, 15, 16, 17, 18, 19, 20] "BadPlace" 17) (y_BadPlaces : EIs K mg G [11, 12, 13, 14, 15, 16, 17, 18, 19, 20] "BadPlaces" 14) (y_BadTale : EIs K mg G [11, 12, 13, 14, 15, 16, 17, 18, 19, 20] "BadTale" 19) (y_BadTick : EIs K mg G [11, 12, 13, 14, 15, 16, 17, 18, 19, 20] "BadTick" 13) (y_BadWatcher : EIs K mg G [11, 12, 13, 14, 15, 16, 17, 18, 19, 20] "BadWatcher" 15) (y_Busy : EIs K mg G [11, 12, 13, 14, 15, 16, 17, 18, 19, 20] "Busy" 20) (y_V : EIsV K G [11, 12, 13, 14, 15, 16, 17, 18, 19, 20]) (zT : ∀ i d, ld i = some d → LOk P w K mg base G 7 i 1 d) (zz : G.own = [] ∧ G.fr = [] ∧ G.cv = []) :
  FD P w K mg base G 8 a 3 d_law_refused := by
  apply FD.pure
  refine fd_of (nN := 6) (B := B_law_refused) F sc_law_refused rfl rfl b ?_
  intro cdv A outer s H E hr
  refine ess_cons ?_ ?_
  refine es_trfAs (i := 3) sc_law_refused.nd t_WatchError (L2N.takes_of rfl rfl rfl rfl) ?_ ?_
  intro W0 pn0 xe0 tk0 hp0
  refine ess_one ?_
  refine es_expr ?_
  refine ed_lamC (j := 0) zT (fun _ _ _ _ _ => CapAt.none zz.1 zz.2.1 zz.2.2) (hr.mono (by decide)) rfl (by first | exact Or.inl rfl | exact Or.inr (Or.inl rfl) | exact Or.inr (Or.inr rfl)) tk0 ?_
  refine ea_cons ?_ ?_
  exact ed_var 1
  exact ea_nil
  intro a0 oe0 qn0 c0 hc0 hz0 hf0
  refine ess_cons ?_ ?_
  refine es_set (i := 4) sc_law_refused.nd ?_
  refine ed_cel ?_
  refine el_lst ?_
  refine ea_cons ?_ ?_
  refine ed_errIs x_es y_BadLength hc0 hz0 hf0 b_isinstance ?_
  exact ed_var 3
  refine ea_cons ?_ ?_
  refine ed_errIs x_es y_BadCommands hc0 hz0 hf0 b_isinstance ?_
  exact ed_var 3
  refine ea_cons ?_ ?_
  refine ed_errIs x_es y_BadTick hc0 hz0 hf0 b_isinstance ?_
  exact ed_var 3
  exact ea_nil
  refine ess_cons ?_ ?_
  refine es_set (i := 4) sc_law_refused.nd ?_
  refine ed_cel ?_
  refine el_cat ?_ ?_
  exact ed_var 4
  refine ed_dat ?_
  refine el_lst ?_
  refine ea_cons ?_ ?_
  refine ed_errIs x_es y_BadPlaces hc0 hz0 hf0 b_isinstance ?_
  exact ed_var 3
  refine ea_cons ?_ ?_
  refine ed_errIs x_es y_BadWatcher hc0 hz0 hf0 b_isinstance ?_
  exact ed_var 3
  refine ea_cons ?_ ?_
  refine ed_errIs x_es y_BadKind hc0 hz0 hf0 b_isinstance ?_
  exact ed_var 3
  exact ea_nil
  refine ess_cons ?_ ?_
  refine es_set (i := 4) sc_law_refused.nd ?_
  refine ed_cel ?_
  refine el_cat ?_ ?_
  exact ed_var 4
  refine ed_dat ?_
  refine el_lst ?_
  refine ea_cons ?_ ?_
  refine ed_errIs x_es y_BadPlace hc0 hz0 hf0 b_isinstance ?_
  exact ed_var 3
  refine ea_cons ?_ ?_
  refine ed_errIs x_es y_BadLetter hc0 hz0 hf0 b_isinstance ?_
  exact ed_var 3
  refine ea_cons ?_ ?_
  refine ed_errIs x_es y_BadTale hc0 hz0 hf0 b_isinstance ?_
  exact ed_var 3
  exact ea_nil
  refine ess_cons ?_ ?_
  refine es_expr ?_
  refine ed_lm lmc_append PySem.F.slot_list_append PySem.F.type_list_append mt_append ?_ ?_
  exact ed_var 4
  refine ea_cons ?_ ?_
  refine ed_errIs x_es y_Busy hc0 hz0 hf0 b_isinstance ?_
  exact ed_var 3
  exact ea_nil
  refine ess_one ?_
  refine es_ret ?_
  refine ed_and ?_ ?_
  refine ed_cmp opc_eq (op_eqD (su64 hr)) ?_ ?_ (nomark _)
  exact ed_var 4
  refine ed_dat ?_
  refine el_lcH (own := [("_law_kind" , 5)]) (hot_suite hz0 hf0) sc_law_refused.nd ?_ (blkOk_by (own := [("_law_kind" , 5)]) (N := n_law_refused) (sc := defScope s_law_refused) (by decide +kernel)) ?_ ?_ ?_
  refine ei_rng1H (by rfl) b_range ?_
  refine ea_cons ?_ ?_
  exact ed_int
  exact ea_nil
  intro _ _ _ _ _
  exact egw_var (i := 5) sc_law_refused.nd
  intro _ _ _ _ _
  exact ebs_nil
  intro _ _ _ _ _
  refine ed_cmp opc_eq (op_eqD (su64 hr)) ?_ ?_ (nomark _)
  exact ed_var 5
  exact ed_var 2
  refine ed_one ?_
  refine ed_errIsV x_es y_V hc0 hz0 hf0 b_isinstance b_ValueError ?_
  exact ed_var 3
  refine ess_one ?_
  refine es_ret ?_
  exact ed_bl
abbrev s_law_number : Stmt := topS 50
abbrev n_law_number : List Str := ["_law_cell", "_law_at", "_law_whole", "_law_blend", "_law_more"]
theorem sc_law_number : FnScope n_law_number ["_law_cell", "_law_at", "_law_whole"] (defScope s_law_number) := ⟨rfl, rfl, rfl, by decide +kernel, rfl, by decide +kernel, by decide +kernel⟩
theorem ok_law_number {a : Addr} {fd : FuncData} (F : Fun K "_law_number" "_law_number" s_law_number a fd) (b : Binds K fd ["_law_cell", "_law_at", "_law_whole"] [])  :
  FD P w K mg base G 1 a 3 d_law_number := by
  apply FD.pure
  refine fd_of (nN := 5) (B := B_law_number) F sc_law_number rfl rfl b ?_
  intro cdv A outer s H E hr
  refine ess_cons ?_ ?_
  refine es_if ?_ ?_ ?_
  refine eb_cmp opc_ge op_ge ?_ ?_ (nomark _)
  exact ed_var 0
  refine ed_op opc_pow op_pow ?_ ?_
  exact ed_int
  exact ed_int
  refine ess_one ?_
  refine es_ret ?_
  refine ed_op opc_div op_fdivW ?_ ?_
  exact ed_var 0
  refine ed_op opc_add op_add3 ?_ ?_
  exact ed_int
  refine ed_op opc_mod op_mod ?_ ?_
  exact ed_var 1
  exact ed_int
  exact ess_nil
  refine ess_cons ?_ ?_
  refine es_set (i := 3) sc_law_number.nd ?_
  refine ed_op opc_mod op_mod ?_ ?_
  refine ed_op opc_add op_add3 ?_ ?_
  refine ed_op opc_mul op_mul2 ?_ ?_
  refine ed_op opc_add op_add3 ?_ ?_
  exact ed_var 0
  refine ed_op opc_mul op_mul2 ?_ ?_
  exact ed_int
  exact ed_var 1
  exact ed_int
  exact ed_var 2
  exact ed_int
  refine ess_cons ?_ ?_
  refine es_set (i := 4) sc_law_number.nd ?_
  refine ed_op opc_mul op_mul2 ?_ ?_
  exact ed_var 3
  refine ed_op opc_add op_add3 ?_ ?_
  refine ed_op opc_add op_add3 ?_ ?_
  exact ed_var 0
  refine ed_op opc_mul op_mul2 ?_ ?_
  exact ed_int
  exact ed_var 1
  exact ed_int
  refine ess_one ?_
  refine es_ret ?_
  refine ed_op opc_div op_fdivW ?_ ?_
  refine ed_op opc_mul op_mul2 ?_ ?_
  refine ed_op opc_mul op_mul2 ?_ ?_
  exact ed_var 4
  refine ed_op opc_add op_add3 ?_ ?_
  refine ed_op opc_add op_add3 ?_ ?_
  exact ed_var 3
  exact ed_var 0
  exact ed_int
  refine ed_op opc_add op_add3 ?_ ?_
  refine ed_op opc_mul op_mul2 ?_ ?_
  exact ed_var 3
  exact ed_var 3
  exact ed_int
  refine ed_op opc_add op_add3 ?_ ?_
  exact ed_int
  exact ed_var 1
abbrev s_law_commands : Stmt := topS 51
abbrev n_law_commands : List Str := ["_law_script", "_law_by", "_law_most", "_law_length_here", "_law_moves", "_law_cells", "_law_whole", "_law_found", "_law_wide", "_law_at", "_law_cell", "_law_number_here", "_law_kind", "_law_hand", "_law_far", "_law_place", "_law_key"]
theorem sc_law_commands : FnScope n_law_commands ["_law_script", "_law_by", "_law_most", "_law_length_here", "_law_moves"] (defScope s_law_commands) := ⟨rfl, rfl, rfl, by decide +kernel, rfl, by decide +kernel, by decide +kernel⟩
theorem ok_law_commands {a : Addr} {fd : FuncData} (F : Fun K "_law_commands" "_law_commands" s_law_commands a fd) (b : Binds K fd ["_law_script", "_law_by", "_law_most", "_law_length_here", "_law_moves"] []) (b_abs : mg "abs" = none) (b_len : mg "len" = none) (b_range : mg "range" = none) (b_sum : mg "sum" = none) (c_law_number : Cal P w K mg base G "_law_number" 1 3 d_law_number) :
  FD P w K mg base G 2 a 5 d_law_commands := by
  apply FD.pure
  refine fd_of (nN := 17) (B := B_law_commands) F sc_law_commands rfl rfl b ?_
  intro cdv A outer s H E hr
  refine ess_cons ?_ ?_
  refine es_set (i := 5) sc_law_commands.nd ?_
  refine ed_if ?_ ?_ ?_
  refine eb_cmp opc_ne (op_neD (hu64 hr)) ?_ ?_ (nomark _)
  exact ed_var 0
  refine ed_dat ?_
  refine el_lst ?_
  exact ea_nil
  refine ed_sl ?_ ?_ ?_
  exact ed_var 0
  exact eo_none
  refine eo_some ?_
  exact ed_int
  refine ed_dat ?_
  refine el_lst ?_
  refine ea_cons ?_ ?_
  exact ed_int
  exact ea_nil
  refine ess_cons ?_ ?_
  refine es_asg ?_ ?_
  refine ed_tup ?_
  refine ea_cons ?_ ?_
  refine ed_op opc_add op_add3 ?_ ?_
  refine ed_callB cac_abs call_abs (by rfl) b_abs (by decide +kernel) ?_
  refine ea_cons ?_ ?_
  refine ed_callB cac_sum (cr_sum rfl) (by rfl) b_sum (by decide +kernel) ?_
  refine ea_cons ?_ ?_
  exact ed_var 5
  exact ea_nil
  exact ea_nil
  refine ed_op opc_mul op_mul2 ?_ ?_
  exact ed_int
  exact ed_var 1
  refine ea_cons ?_ ?_
  exact ed_newT
  exact ea_nil
  refine eg_tup rfl ?_
  refine egs_cons (i := 6) ?_ ?_
  exact eg_var (i := 6) sc_law_commands.nd
  refine egs_cons (i := 7) ?_ ?_
  exact eg_var (i := 7) sc_law_commands.nd
  exact egs_nil
  refine ess_cons ?_ ?_
  refine es_set (i := 8) sc_law_commands.nd ?_
  refine ed_ix ?_ ?_
  refine ed_tup ?_
  refine ea_cons ?_ ?_
  exact ed_int
  refine ea_cons ?_ ?_
  exact ed_int
  refine ea_cons ?_ ?_
  refine ed_op opc_pow op_pow ?_ ?_
  exact ed_int
  exact ed_int
  refine ea_cons ?_ ?_
  refine ed_op opc_pow op_pow ?_ ?_
  exact ed_int
  exact ed_int
  exact ea_nil
  refine ed_op opc_mod op_mod ?_ ?_
  refine ed_op opc_div op_fdivW ?_ ?_
  exact ed_var 6
  exact ed_int
  exact ed_int
  refine ess_cons ?_ ?_
  refine es_for (passes_of rfl) rfl ?_ ?_ ?_
  refine ei_rng1 (by rfl) b_range ?_
  refine ea_cons ?_ ?_
  refine ed_op opc_mod op_mod ?_ ?_
  refine ed_op opc_div op_fdivW ?_ ?_
  exact ed_var 6
  exact ed_int
  refine ed_op opc_add op_add3 ?_ ?_
  exact ed_var 2
  exact ed_int
  exact ea_nil
  exact eg_var (i := 9) sc_law_commands.nd
  refine ess_cons ?_ ?_
  refine es_set (i := 10) sc_law_commands.nd ?_
  refine ed_op opc_add op_add3 ?_ ?_
  refine ed_ix ?_ ?_
  exact ed_var 5
  refine ed_op opc_mod op_mod ?_ ?_
  refine ed_op opc_add op_add3 ?_ ?_
  exact ed_var 9
  exact ed_var 1
  refine ed_callB cac_len call_len_seq (by rfl) b_len (by decide +kernel) ?_
  refine ea_cons ?_ ?_
  exact ed_var 5
  exact ea_nil
  refine ed_op opc_div op_fdivW ?_ ?_
  exact ed_var 9
  refine ed_callB cac_len call_len_seq (by rfl) b_len (by decide +kernel) ?_
  refine ea_cons ?_ ?_
  exact ed_var 5
  exact ea_nil
  refine ess_cons ?_ ?_
  refine es_set (i := 11) sc_law_commands.nd ?_
  refine ed_op opc_div op_fdivW ?_ ?_
  refine ed_callB cac_abs call_abs (by rfl) b_abs (by decide +kernel) ?_
  refine ea_cons ?_ ?_
  refine ed_cal c_law_number (hr.mono (by decide)) (L2N.takes_of rfl rfl rfl rfl) ?_
  refine ea_cons ?_ ?_
  exact ed_var 10
  refine ea_cons ?_ ?_
  refine ed_op opc_add op_add3 ?_ ?_
  exact ed_var 9
  exact ed_var 1
  refine ea_cons ?_ ?_
  exact ed_var 6
  exact ea_nil
  exact ea_nil
  exact ed_int
  refine ess_cons ?_ ?_
  refine es_set (i := 12) sc_law_commands.nd ?_
  refine ed_ix ?_ ?_
  refine ed_tup ?_
  refine ea_cons ?_ ?_
  exact ed_str
  refine ea_cons ?_ ?_
  exact ed_str
  refine ea_cons ?_ ?_
  exact ed_str
  refine ea_cons ?_ ?_
  exact ed_str
  exact ea_nil
  refine ed_op opc_mod op_mod ?_ ?_
  exact ed_var 11
  exact ed_int
  refine ess_cons ?_ ?_
  refine es_if ?_ ?_ ?_
  refine eb_w ?_
  refine ew_and ?_ ?_
  refine eb_cmp opc_eq (op_eqD (hu64 hr)) ?_ ?_ (nomark _)
  exact ed_var 12
  exact ed_str
  refine ew_and1 ?_
  refine eb_not ?_
  refine eb_val ?_
  exact ed_var 4
  refine ess_one ?_
  refine es_set (i := 12) sc_law_commands.nd ?_
  exact ed_str
  exact ess_nil
  refine ess_cons ?_ ?_
  refine es_par2 (i := 13) (j := 14) rfl sc_law_commands.nd ?_
  refine ea_cons ?_ ?_
  refine ed_op opc_mod op_mod ?_ ?_
  refine ed_op opc_div op_fdivW ?_ ?_
  exact ed_var 11
  exact ed_int
  exact ed_int
  refine ea_cons ?_ ?_
  refine ed_op opc_div op_fdivW ?_ ?_
  refine ed_op opc_div op_fdivW ?_ ?_
  exact ed_var 11
  exact ed_int
  exact ed_var 8
  exact ea_nil
  refine ess_cons ?_ ?_
  refine es_set (i := 15) sc_law_commands.nd ?_
  refine ed_if ?_ ?_ ?_
  refine eb_cmp opc_eq (op_eqD (hu64 hr)) ?_ ?_ (nomark _)
  exact ed_var 12
  exact ed_str
  refine ed_op opc_mod op_mod ?_ ?_
  exact ed_var 14
  refine ed_op opc_add op_add3 ?_ ?_
  exact ed_var 3
  exact ed_int
  exact ed_int
  refine ess_one ?_
  refine es_putT ?_ ?_ ?_ (hu65 hr)
  exact ed_var 7
  refine ed_tup ?_
  refine ea_cons ?_ ?_
  refine ed_op opc_mod op_mod ?_ ?_
  refine ed_op opc_div op_fdivW ?_ ?_
  exact ed_var 11
  exact ed_int
  exact ed_var 8
  refine ea_cons ?_ ?_
  exact ed_var 13
  exact ea_nil
  refine ed_tup ?_
  refine ea_cons ?_ ?_
  exact ed_var 12
  refine ea_cons ?_ ?_
  exact ed_var 15
  exact ea_nil
  refine ess_one ?_
  refine es_ret ?_
  refine ed_dat ?_
  refine el_lcT (own := [("_law_key" , 16)]) 7 rfl sc_law_commands.nd (pe_vi 7) (blkOk_by (own := [("_law_key" , 16)]) (N := n_law_commands) (sc := defScope s_law_commands) (by decide +kernel)) ?_ ?_ ?_
  intro _ _ _ _ _
  exact egw_var (i := 16) sc_law_commands.nd
  intro _ _ _ _ _
  exact ebs_nil
  intro _ _ _ _ _
  refine ed_op opc_add op_add3 ?_ ?_
  exact ed_var 16
  refine ed_getT ?_ ?_ (hu65 hr)
  exact ed_var 7
  exact ed_var 16
abbrev s_law_length : Stmt := topS 52
abbrev n_law_length : List Str := ["_law_whole", "_law_far"]
theorem sc_law_length : FnScope n_law_length ["_law_whole"] (defScope s_law_length) := ⟨rfl, rfl, rfl, by decide +kernel, rfl, by decide +kernel, by decide +kernel⟩
theorem ok_law_length {a : Addr} {fd : FuncData} (F : Fun K "_law_length" "_law_length" s_law_length a fd) (b : Binds K fd ["_law_whole"] [])  :
  FD P w K mg base G 1 a 1 d_law_length := by
  apply FD.pure
  refine fd_of (nN := 2) (B := B_law_length) F sc_law_length rfl rfl b ?_
  intro cdv A outer s H E hr
  refine ess_cons ?_ ?_
  refine es_set (i := 1) sc_law_length.nd ?_
  refine ed_op opc_div op_fdivW ?_ ?_
  exact ed_var 0
  exact ed_int
  refine ess_one ?_
  refine es_ret ?_
  refine ed_ix ?_ ?_
  refine ed_tup ?_
  refine ea_cons ?_ ?_
  refine ed_op opc_add op_add3 ?_ ?_
  exact ed_int
  refine ed_op opc_mod op_mod ?_ ?_
  exact ed_var 1
  exact ed_int
  refine ea_cons ?_ ?_
  refine ed_op opc_pow op_pow ?_ ?_
  exact ed_int
  exact ed_int
  refine ea_cons ?_ ?_
  refine ed_op opc_add op_add3 ?_ ?_
  exact ed_int
  refine ed_op opc_mod op_mod ?_ ?_
  exact ed_var 1
  exact ed_int
  refine ea_cons ?_ ?_
  exact ed_int
  exact ea_nil
  refine ed_op opc_mod op_mod ?_ ?_
  exact ed_var 0
  exact ed_int
abbrev s_law_places : Stmt := topS 53
abbrev n_law_places : List Str := ["_law_script", "_law_by", "_law_most", "_law_cells", "_law_whole", "_law_found", "_law_wide", "_law_at"]
theorem sc_law_places : FnScope n_law_places ["_law_script", "_law_by", "_law_most"] (defScope s_law_places) := ⟨rfl, rfl, rfl, by decide +kernel, rfl, by decide +kernel, by decide +kernel⟩
theorem ok_law_places {a : Addr} {fd : FuncData} (F : Fun K "_law_places" "_law_places" s_law_places a fd) (b : Binds K fd ["_law_script", "_law_by", "_law_most"] []) (b_abs : mg "abs" = none) (b_len : mg "len" = none) (b_range : mg "range" = none) (b_sum : mg "sum" = none) (c_law_number : Cal P w K mg base G "_law_number" 1 3 d_law_number) :
  FD P w K mg base G 2 a 3 d_law_places := by
  apply FD.pure
  refine fd_of (nN := 8) (B := B_law_places) F sc_law_places rfl rfl b ?_
  intro cdv A outer s H E hr
  refine ess_cons ?_ ?_
  refine es_set (i := 3) sc_law_places.nd ?_
  refine ed_if ?_ ?_ ?_
  refine eb_cmp opc_ne (op_neD (hu64 hr)) ?_ ?_ (nomark _)
  exact ed_var 0
  refine ed_dat ?_
  refine el_lst ?_
  exact ea_nil
  refine ed_sl ?_ ?_ ?_
  exact ed_var 0
  exact eo_none
  refine eo_some ?_
  exact ed_int
  refine ed_dat ?_
  refine el_lst ?_
  refine ea_cons ?_ ?_
  exact ed_int
  exact ea_nil
  refine ess_cons ?_ ?_
  refine es_par2 (i := 4) (j := 5) rfl sc_law_places.nd ?_
  refine ea_cons ?_ ?_
  refine ed_op opc_add op_add3 ?_ ?_
  refine ed_callB cac_abs call_abs (by rfl) b_abs (by decide +kernel) ?_
  refine ea_cons ?_ ?_
  refine ed_callB cac_sum (cr_sum rfl) (by rfl) b_sum (by decide +kernel) ?_
  refine ea_cons ?_ ?_
  exact ed_var 3
  exact ea_nil
  exact ea_nil
  refine ed_op opc_mul op_mul2 ?_ ?_
  exact ed_int
  exact ed_var 1
  refine ea_cons ?_ ?_
  refine ed_cel ?_
  refine el_lst ?_
  exact ea_nil
  exact ea_nil
  refine ess_cons ?_ ?_
  refine es_set (i := 6) sc_law_places.nd ?_
  refine ed_ix ?_ ?_
  refine ed_tup ?_
  refine ea_cons ?_ ?_
  exact ed_int
  refine ea_cons ?_ ?_
  exact ed_int
  refine ea_cons ?_ ?_
  refine ed_op opc_add op_add3 ?_ ?_
  refine ed_op opc_pow op_pow ?_ ?_
  exact ed_int
  exact ed_int
  exact ed_int
  refine ea_cons ?_ ?_
  exact ed_int
  exact ea_nil
  refine ed_op opc_mod op_mod ?_ ?_
  exact ed_var 4
  exact ed_int
  refine ess_cons ?_ ?_
  refine es_for (passes_of rfl) rfl ?_ ?_ ?_
  refine ei_rng1 (by rfl) b_range ?_
  refine ea_cons ?_ ?_
  refine ed_op opc_add op_add3 ?_ ?_
  exact ed_int
  refine ed_op opc_mod op_mod ?_ ?_
  refine ed_op opc_div op_fdivW ?_ ?_
  exact ed_var 4
  exact ed_int
  exact ed_var 2
  exact ea_nil
  exact eg_var (i := 7) sc_law_places.nd
  refine ess_one ?_
  refine es_expr ?_
  refine ed_lm lmc_append PySem.F.slot_list_append PySem.F.type_list_append mt_append ?_ ?_
  exact ed_var 5
  refine ea_cons ?_ ?_
  refine ed_op opc_mod op_mod ?_ ?_
  refine ed_op opc_div op_fdivW ?_ ?_
  refine ed_callB cac_abs call_abs (by rfl) b_abs (by decide +kernel) ?_
  refine ea_cons ?_ ?_
  refine ed_cal c_law_number (hr.mono (by decide)) (L2N.takes_of rfl rfl rfl rfl) ?_
  refine ea_cons ?_ ?_
  refine ed_ix ?_ ?_
  exact ed_var 3
  refine ed_op opc_mod op_mod ?_ ?_
  refine ed_op opc_add op_add3 ?_ ?_
  exact ed_var 7
  exact ed_var 1
  refine ed_callB cac_len call_len_seq (by rfl) b_len (by decide +kernel) ?_
  refine ea_cons ?_ ?_
  exact ed_var 3
  exact ea_nil
  refine ea_cons ?_ ?_
  refine ed_op opc_add op_add3 ?_ ?_
  exact ed_var 7
  exact ed_var 1
  refine ea_cons ?_ ?_
  exact ed_var 4
  exact ea_nil
  exact ea_nil
  exact ed_int
  exact ed_var 6
  exact ea_nil
  refine ess_one ?_
  refine es_ret ?_
  exact ed_var 5
abbrev s_law_plain : Stmt := topS 54
abbrev n_law_plain : List Str := ["_law_thing", "_law_one"]
theorem sc_law_plain : FnScope n_law_plain ["_law_thing"] (defScope s_law_plain) := ⟨rfl, rfl, rfl, by decide +kernel, rfl, by decide +kernel, by decide +kernel⟩
theorem ok_law_plain {a : Addr} {fd : FuncData} (F : Fun K "_law_plain" "_law_plain" s_law_plain a fd) (b : Binds K fd ["_law_thing"] []) (hm : mg "_law_plain" = some (.ref a)) (hk : PySem.W.keepIn K (.ref a) = true) (b_all : mg "all" = none) (b_bool : mg "bool" = none) (b_int : mg "int" = none) (b_isinstance : mg "isinstance" = none) (b_list : mg "list" = none) (b_str : mg "str" = none) (b_tuple : mg "tuple" = none) :
  ∀ n, FD P w K mg base G (1 + n) a 1 (d_law_plain n)
  | 0 => FD.none b
  | n + 1 => by
    have c_rec : Cal P w K mg base G "_law_plain" (1 + n) 1 (d_law_plain n) := ⟨a, ok_law_plain F b hm hk b_all b_bool b_int b_isinstance b_list b_str b_tuple n, hm, hk⟩
    apply FD.pure
    refine fd_of (nN := 2) (B := B_law_plain (d_law_plain n)) F sc_law_plain rfl rfl b ?_
    intro cdv A outer s H E hr
    refine ess_cons ?_ ?_
    refine es_if ?_ ?_ ?_
    refine eb_w ?_
    refine ew_or ?_ ?_
    refine eb_val ?_
    refine ed_isB (t := .lst) b_isinstance (by decide) b_list (by decide +kernel) ?_
    exact ed_var 0
    refine ew_or1 ?_
    refine eb_val ?_
    refine ed_isB (t := .tup) b_isinstance (by decide) b_tuple (by decide +kernel) ?_
    exact ed_var 0
    refine ess_one ?_
    refine es_ret ?_
    refine ed_callB cac_all (cr_all rfl) (by rfl) b_all (by decide +kernel) ?_
    refine ea_cons ?_ ?_
    refine ed_dat ?_
    refine el_lc (own := [("_law_one" , 1)]) rfl sc_law_plain.nd ?_ (blkOk_by (own := [("_law_one" , 1)]) (N := n_law_plain) (sc := defScope s_law_plain) (by decide +kernel)) ?_ ?_ ?_
    refine ei_seq ?_
    exact ed_var 0
    intro _ _ _ _ _
    exact egw_var (i := 1) sc_law_plain.nd
    intro _ _ _ _ _
    exact ebs_nil
    intro _ _ _ _ _
    refine ed_cal c_rec (hr.mono (Nat.le_refl _)) takesN0 ?_
    refine ea_cons ?_ ?_
    exact ed_var 1
    exact ea_nil
    exact ea_nil
    exact ess_nil
    refine ess_one ?_
    refine es_ret ?_
    refine ed_or ?_ ?_
    refine ed_cmp opc_isN op_isN ?_ ?_ (nomark _)
    exact ed_var 0
    exact ed_non
    refine ed_or ?_ ?_
    refine ed_isB (t := .str) b_isinstance (by decide) b_str (by decide +kernel) ?_
    exact ed_var 0
    refine ed_one ?_
    refine ed_and ?_ ?_
    refine ed_isB (t := .int) b_isinstance (by decide) b_int (by decide +kernel) ?_
    exact ed_var 0
    refine ed_one ?_
    refine ed_not ?_
    refine ed_isB (t := .bool) b_isinstance (by decide) b_bool (by decide +kernel) ?_
    exact ed_var 0
abbrev s_law_truths : Stmt := topS 55
abbrev n_law_truths : List Str := ["_law_things", "_law_one"]
theorem sc_law_truths : FnScope n_law_truths ["_law_things"] (defScope s_law_truths) := ⟨rfl, rfl, rfl, by decide +kernel, rfl, by decide +kernel, by decide +kernel⟩
theorem ok_law_truths {a : Addr} {fd : FuncData} (F : Fun K "_law_truths" "_law_truths" s_law_truths a fd) (b : Binds K fd ["_law_things"] []) (b_all : mg "all" = none) (b_bool : mg "bool" = none) (b_isinstance : mg "isinstance" = none) :
  FD P w K mg base G 1 a 1 d_law_truths := by
  apply FD.pure
  refine fd_of (nN := 2) (B := B_law_truths) F sc_law_truths rfl rfl b ?_
  intro cdv A outer s H E hr
  refine ess_one ?_
  refine es_ret ?_
  refine ed_callB cac_all (cr_all rfl) (by rfl) b_all (by decide +kernel) ?_
  refine ea_cons ?_ ?_
  refine ed_dat ?_
  refine el_lc (own := [("_law_one" , 1)]) rfl sc_law_truths.nd ?_ (blkOk_by (own := [("_law_one" , 1)]) (N := n_law_truths) (sc := defScope s_law_truths) (by decide +kernel)) ?_ ?_ ?_
  refine ei_list ?_
  exact ed_var 0
  intro _ _ _ _ _
  exact egw_var (i := 1) sc_law_truths.nd
  intro _ _ _ _ _
  exact ebs_nil
  intro _ _ _ _ _
  refine ed_isB (t := .bool) b_isinstance (by decide) b_bool (by decide +kernel) ?_
  exact ed_var 1
  exact ea_nil
abbrev s_law_told_right : Stmt := topS 56
abbrev n_law_told_right : List Str := ["_law_length_here", "_law_one", "_law_other", "_law_tick", "_law_places_here", "_law_place", "_law_going", "_law_answer", "_law_told", "_law_found", "_law_shown"]
theorem sc_law_told_right : FnScope n_law_told_right ["_law_length_here", "_law_one", "_law_other", "_law_tick", "_law_places_here"] (defScope s_law_told_right) := ⟨rfl, rfl, rfl, by decide +kernel, rfl, by decide +kernel, by decide +kernel⟩
theorem ok_law_told_right {a : Addr} {fd : FuncData} (F : Fun K "_law_told_right" "_law_told_right" s_law_told_right a fd) (b : Binds K fd ["_law_length_here", "_law_one", "_law_other", "_law_tick", "_law_places_here"] []) (b_isinstance : mg "isinstance" = none) (b_tuple : mg "tuple" = none) (c_at_most : Cal P w K mg base G "at_most" 5 4 d_at_most) (c_judged : Cal P w K mg base G "judged" 5 4 d_judged) (c_law_plain : Cal P w K mg base G "_law_plain" 7 1 (d_law_plain 6)) (c_law_truths : Cal P w K mg base G "_law_truths" 1 1 d_law_truths) (c_least_jumps : Cal P w K mg base G "least_jumps" 3 1 d_least_jumps) (c_meet : Cal P w K mg base G "meet" 3 1 d_meet) (c_stand : Cal P w K mg base G "stand" 4 3 d_stand) (f_command : FldOk K G "command") (f_pairs : FldOk K G "pairs") (f_place : FldOk K G "place") (h_shows : MD P w K mg base G 6 "shows" ms_shows) (is_Apart : Isi K mg G [0, 1, 2, 5, 3, 4] "Apart" 1) (m_Meet : Mkr P w K mg base G "Meet" 2 1 3 d_Meet_init) (m_Together : Mkr0 K mg G "Together" 0) :
  FD P w K mg base G 8 a 5 d_law_told_right := by
  apply FD.pure
  refine fd_of (nN := 11) (B := B_law_told_right) F sc_law_told_right rfl rfl b ?_
  intro cdv A outer s H E hr
  refine ess_cons ?_ ?_
  refine es_asg ?_ ?_
  refine ed_cal c_stand (hr.mono (by decide)) (L2N.takes_of rfl rfl rfl rfl) ?_
  refine ea_cons ?_ ?_
  exact ed_var 0
  refine ea_cons ?_ ?_
  exact ed_var 1
  refine ea_cons ?_ ?_
  exact ed_var 3
  exact ea_nil
  refine eg_tup rfl ?_
  refine egs_cons (i := 5) ?_ ?_
  exact eg_var (i := 5) sc_law_told_right.nd
  refine egs_cons (i := 6) ?_ ?_
  exact eg_var (i := 6) sc_law_told_right.nd
  exact egs_nil
  refine ess_cons ?_ ?_
  refine es_par2 (i := 7) (j := 8) rfl sc_law_told_right.nd ?_
  refine ea_cons ?_ ?_
  refine ed_cal c_judged (hr.mono (by decide)) (L2N.takes_of rfl rfl rfl rfl) ?_
  refine ea_cons ?_ ?_
  exact ed_var 0
  refine ea_cons ?_ ?_
  exact ed_var 1
  refine ea_cons ?_ ?_
  exact ed_var 2
  refine ea_cons ?_ ?_
  exact ed_var 3
  exact ea_nil
  refine ea_cons ?_ ?_
  refine ed_cal c_meet (hr.mono (by decide)) (L2N.takes_of rfl rfl rfl rfl) ?_
  refine ea_cons ?_ ?_
  exact ed_var 4
  exact ea_nil
  exact ea_nil
  refine ess_cons ?_ ?_
  refine es_set (i := 9) sc_law_told_right.nd ?_
  refine ed_cel ?_
  refine el_lst ?_
  refine ea_cons ?_ ?_
  exact ed_var 5
  refine ea_cons ?_ ?_
  refine ed_cal c_at_most (hr.mono (by decide)) (L2N.takes_of rfl rfl rfl rfl) ?_
  refine ea_cons ?_ ?_
  exact ed_var 0
  refine ea_cons ?_ ?_
  exact ed_var 1
  refine ea_cons ?_ ?_
  exact ed_var 2
  refine ea_cons ?_ ?_
  exact ed_var 3
  exact ea_nil
  refine ea_cons ?_ ?_
  refine ed_cal c_least_jumps (hr.mono (by decide)) (L2N.takes_of rfl rfl rfl rfl) ?_
  refine ea_cons ?_ ?_
  exact ed_var 4
  exact ea_nil
  refine ea_cons ?_ ?_
  refine ed_fld f_place ?_
  exact ed_var 8
  refine ea_cons ?_ ?_
  refine ed_fld f_pairs ?_
  exact ed_var 8
  exact ea_nil
  refine ess_cons ?_ ?_
  refine es_if ?_ ?_ ?_
  refine eb_val ?_
  refine ed_isi is_Apart b_isinstance ?_
  exact ed_var 7
  refine ess_one ?_
  refine es_expr ?_
  refine ed_lm lmc_append PySem.F.slot_list_append PySem.F.type_list_append mt_append ?_ ?_
  exact ed_var 9
  refine ea_cons ?_ ?_
  refine ed_fld f_command ?_
  exact ed_var 7
  exact ea_nil
  exact ess_nil
  refine ess_cons ?_ ?_
  refine es_if ?_ ?_ ?_
  refine eb_w ?_
  refine ew_or ?_ ?_
  refine eb_not ?_
  refine eb_val ?_
  refine ed_cal c_law_plain (hr.mono (by decide)) (L2N.takes_of rfl rfl rfl rfl) ?_
  refine ea_cons ?_ ?_
  exact ed_var 9
  exact ea_nil
  refine ew_or1 ?_
  refine eb_not ?_
  refine eb_val ?_
  refine ed_isB (t := .tup) b_isinstance (by decide) b_tuple (by decide +kernel) ?_
  refine ed_cal c_stand (hr.mono (by decide)) (L2N.takes_of rfl rfl rfl rfl) ?_
  refine ea_cons ?_ ?_
  exact ed_var 0
  refine ea_cons ?_ ?_
  exact ed_var 1
  refine ea_cons ?_ ?_
  exact ed_var 3
  exact ea_nil
  refine ess_one ?_
  refine es_ret ?_
  exact ed_bl
  exact ess_nil
  refine ess_cons ?_ ?_
  refine es_set (i := 10) sc_law_told_right.nd ?_
  refine ed_dat ?_
  refine el_lst ?_
  refine ea_cons ?_ ?_
  exact ed_var 6
  refine ea_cons ?_ ?_
  refine ed_meth (pl := _) h_shows ?_ (hr.mono (by decide)) (L2N.takes_of rfl rfl rfl rfl) ?_
  exact ed_var 7
  refine ea_cons ?_ ?_
  exact ed_var 0
  refine ea_cons ?_ ?_
  exact ed_var 1
  refine ea_cons ?_ ?_
  exact ed_var 2
  refine ea_cons ?_ ?_
  exact ed_var 3
  exact ea_nil
  refine ea_cons ?_ ?_
  refine ed_meth (pl := _) h_shows ?_ (hr.mono (by decide)) (L2N.takes_of rfl rfl rfl rfl) ?_
  exact ed_var 8
  refine ea_cons ?_ ?_
  exact ed_var 4
  exact ea_nil
  refine ea_cons ?_ ?_
  refine ed_meth (pl := _) h_shows ?_ (hr.mono (by decide)) (L2N.takes_of rfl rfl rfl rfl) ?_
  refine ed_pure ?_
  refine ed_mkr m_Meet (hr.mono (by decide)) (L2N.takes_of rfl rfl rfl rfl) ?_
  refine ea_cons ?_ ?_
  exact ed_int
  refine ea_cons ?_ ?_
  refine ed_dat ?_
  refine el_lst ?_
  exact ea_nil
  exact ea_nil
  refine ea_cons ?_ ?_
  exact ed_var 4
  exact ea_nil
  exact ea_nil
  refine ess_one ?_
  refine es_ret ?_
  refine ed_cal c_law_truths (hr.mono (by decide)) (L2N.takes_of rfl rfl rfl rfl) ?_
  refine ea_cons ?_ ?_
  refine ed_op opc_add op_add3 ?_ ?_
  exact ed_var 10
  refine ed_dat ?_
  refine el_lst ?_
  refine ea_cons ?_ ?_
  refine ed_meth (pl := _) h_shows ?_ (hr.mono (by decide)) (L2N.takes_of rfl rfl rfl rfl) ?_
  exact ed_mkr0 m_Together
  refine ea_cons ?_ ?_
  exact ed_var 0
  refine ea_cons ?_ ?_
  exact ed_var 1
  refine ea_cons ?_ ?_
  exact ed_var 2
  refine ea_cons ?_ ?_
  exact ed_var 3
  exact ea_nil
  exact ea_nil
  exact ea_nil
abbrev s_law_room_right : Stmt := topS 57
abbrev n_law_room_right : List Str := ["_law_whole", "_law_room", "_law_found", "_law_truths_here", "_law_watcher", "_law_place", "_law_going", "_law_told"]
theorem sc_law_room_right : FnScope n_law_room_right ["_law_whole"] (defScope s_law_room_right) := ⟨rfl, rfl, rfl, by decide +kernel, rfl, by decide +kernel, by decide +kernel⟩
theorem ok_law_room_right {a : Addr} {fd : FuncData} (F : Fun K "_law_room_right" "_law_room_right" s_law_room_right a fd) (b : Binds K fd ["_law_whole"] []) (c_law_plain : Cal P w K mg base G "_law_plain" 7 1 (d_law_plain 6)) (c_law_truths : Cal P w K mg base G "_law_truths" 1 1 d_law_truths) (c_tale_judged : Cal P w K mg base G "tale_judged" 6 3 d_tale_judged) (f_line : FldOk K G "line") (h_at_rest : MD P w K mg base G 1 "at_rest" ms_at_rest) (h_bring : MD P w K mg base G 3 "bring" ms_bring) (h_knows : MD P w K mg base G 3 "knows" ms_knows) (h_order : MD P w K mg base G 3 "order" ms_order) (h_shows : MD P w K mg base G 6 "shows" ms_shows) (h_stands : MD P w K mg base G 3 "stands" ms_stands) (h_tale : MD P w K mg base G 1 "tale" ms_tale) (h_tick : MD P w K mg base G 2 "tick" ms_tick) (m_Right : Mkr0 K mg G "Right" 3) (m_Room : Mkr P w K mg base G "Room" 5 3 3 d_Room_init) :
  FD P w K mg base G 8 a 1 d_law_room_right := by
  apply FD.pure
  refine fd_of (nN := 8) (B := B_law_room_right) F sc_law_room_right rfl rfl b ?_
  intro cdv A outer s H E hr
  refine ess_cons ?_ ?_
  refine es_set (i := 1) sc_law_room_right.nd ?_
  refine ed_mkr m_Room (hr.mono (by decide)) (L2N.takes_of rfl rfl rfl rfl) ?_
  refine ea_cons ?_ ?_
  exact ed_int
  refine ea_cons ?_ ?_
  exact ed_int
  exact ea_nil
  refine ess_cons ?_ ?_
  refine es_set (i := 2) sc_law_room_right.nd ?_
  refine ed_dat ?_
  refine el_lst ?_
  refine ea_cons ?_ ?_
  refine ed_meth (pl := _) h_order ?_ (hr.mono (by decide)) (L2N.takes_of rfl rfl rfl rfl) ?_
  exact ed_var 1
  refine ea_cons ?_ ?_
  exact ed_int
  refine ea_cons ?_ ?_
  exact ed_str
  refine ea_cons ?_ ?_
  exact ed_int
  exact ea_nil
  refine ea_cons ?_ ?_
  refine ed_meth (pl := _) h_order ?_ (hr.mono (by decide)) (L2N.takes_of rfl rfl rfl rfl) ?_
  exact ed_var 1
  refine ea_cons ?_ ?_
  exact ed_int
  refine ea_cons ?_ ?_
  exact ed_str
  refine ea_cons ?_ ?_
  refine ed_op opc_mod op_mod ?_ ?_
  exact ed_var 0
  exact ed_int
  exact ea_nil
  refine ea_cons ?_ ?_
  refine ed_meth (pl := _) h_tick ?_ (hr.mono (by decide)) (L2N.takes_of rfl rfl rfl rfl) ?_
  exact ed_var 1
  refine ea_cons ?_ ?_
  exact ed_int
  exact ea_nil
  refine ea_cons ?_ ?_
  refine ed_meth (pl := _) h_order ?_ (hr.mono (by decide)) (L2N.takes_of rfl rfl rfl rfl) ?_
  exact ed_var 1
  refine ea_cons ?_ ?_
  exact ed_int
  refine ea_cons ?_ ?_
  exact ed_str
  refine ea_cons ?_ ?_
  exact ed_int
  exact ea_nil
  exact ea_nil
  refine ess_cons ?_ ?_
  refine es_set (i := 3) sc_law_room_right.nd ?_
  refine ed_dat ?_
  refine el_lst ?_
  refine ea_cons ?_ ?_
  refine ed_meth (pl := _) h_bring ?_ (hr.mono (by decide)) (L2N.takes_of rfl rfl rfl rfl) ?_
  exact ed_var 1
  refine ea_cons ?_ ?_
  exact ed_int
  refine ea_cons ?_ ?_
  exact ed_int
  exact ea_nil
  refine ea_cons ?_ ?_
  refine ed_meth (pl := _) h_bring ?_ (hr.mono (by decide)) (L2N.takes_of rfl rfl rfl rfl) ?_
  exact ed_var 1
  refine ea_cons ?_ ?_
  exact ed_int
  refine ea_cons ?_ ?_
  exact ed_int
  exact ea_nil
  refine ea_cons ?_ ?_
  refine ed_meth0 (pl := _) h_at_rest ?_ (hr.mono (by decide)) (L2N.takes_of rfl rfl rfl rfl)
  exact ed_var 1
  exact ea_nil
  refine ess_cons ?_ ?_
  refine es_for (passes_of rfl) rfl ?_ ?_ ?_
  refine ei_list ?_
  refine ed_dat ?_
  refine el_lst ?_
  refine ea_cons ?_ ?_
  exact ed_int
  refine ea_cons ?_ ?_
  exact ed_int
  exact ea_nil
  exact eg_var (i := 4) sc_law_room_right.nd
  refine ess_cons ?_ ?_
  refine es_asg ?_ ?_
  refine ed_meth (pl := _) h_stands ?_ (hr.mono (by decide)) (L2N.takes_of rfl rfl rfl rfl) ?_
  exact ed_var 1
  refine ea_cons ?_ ?_
  exact ed_var 4
  exact ea_nil
  refine eg_tup rfl ?_
  refine egs_cons (i := 5) ?_ ?_
  exact eg_var (i := 5) sc_law_room_right.nd
  refine egs_cons (i := 6) ?_ ?_
  exact eg_var (i := 6) sc_law_room_right.nd
  exact egs_nil
  refine ess_one ?_
  refine es_par2 (i := 2) (j := 3) rfl sc_law_room_right.nd ?_
  refine ea_cons ?_ ?_
  refine ed_op opc_add op_add3 ?_ ?_
  exact ed_var 2
  refine ed_dat ?_
  refine el_lst ?_
  refine ea_cons ?_ ?_
  exact ed_var 5
  refine ea_cons ?_ ?_
  refine ed_meth (pl := _) h_knows ?_ (hr.mono (by decide)) (L2N.takes_of rfl rfl rfl rfl) ?_
  exact ed_var 1
  refine ea_cons ?_ ?_
  exact ed_var 4
  exact ea_nil
  exact ea_nil
  refine ea_cons ?_ ?_
  refine ed_op opc_add op_add3 ?_ ?_
  exact ed_var 3
  refine ed_dat ?_
  refine el_lst ?_
  refine ea_cons ?_ ?_
  exact ed_var 6
  exact ea_nil
  exact ea_nil
  refine ess_cons ?_ ?_
  refine es_set (i := 7) sc_law_room_right.nd ?_
  refine ed_cal c_tale_judged (hr.mono (by decide)) (L2N.takes_of rfl rfl rfl rfl) ?_
  refine ea_cons ?_ ?_
  exact ed_int
  refine ea_cons ?_ ?_
  exact ed_int
  refine ea_cons ?_ ?_
  refine ed_dat ?_
  refine el_lst ?_
  refine ea_cons ?_ ?_
  refine ed_tup ?_
  refine ea_cons ?_ ?_
  exact ed_str
  refine ea_cons ?_ ?_
  exact ed_int
  refine ea_cons ?_ ?_
  exact ed_str
  refine ea_cons ?_ ?_
  exact ed_int
  exact ea_nil
  refine ea_cons ?_ ?_
  refine ed_tup ?_
  refine ea_cons ?_ ?_
  exact ed_str
  refine ea_cons ?_ ?_
  exact ed_int
  refine ea_cons ?_ ?_
  exact ed_int
  exact ea_nil
  exact ea_nil
  exact ea_nil
  refine ess_cons ?_ ?_
  refine es_set (i := 2) sc_law_room_right.nd ?_
  refine ed_op opc_add op_add3 ?_ ?_
  exact ed_var 2
  refine ed_dat ?_
  refine el_lst ?_
  refine ea_cons ?_ ?_
  refine ed_meth0 (pl := _) h_tale ?_ (hr.mono (by decide)) (L2N.takes_of rfl rfl rfl rfl)
  exact ed_var 1
  refine ea_cons ?_ ?_
  refine ed_fld f_line ?_
  exact ed_var 7
  exact ea_nil
  refine ess_cons ?_ ?_
  refine es_if ?_ ?_ ?_
  refine eb_not ?_
  refine eb_val ?_
  refine ed_cal c_law_plain (hr.mono (by decide)) (L2N.takes_of rfl rfl rfl rfl) ?_
  refine ea_cons ?_ ?_
  exact ed_var 2
  exact ea_nil
  refine ess_one ?_
  refine es_ret ?_
  exact ed_bl
  exact ess_nil
  refine ess_one ?_
  refine es_ret ?_
  refine ed_cal c_law_truths (hr.mono (by decide)) (L2N.takes_of rfl rfl rfl rfl) ?_
  refine ea_cons ?_ ?_
  refine ed_op opc_add op_add3 ?_ ?_
  exact ed_var 3
  refine ed_dat ?_
  refine el_lst ?_
  refine ea_cons ?_ ?_
  refine ed_meth (pl := _) h_shows ?_ (hr.mono (by decide)) (L2N.takes_of rfl rfl rfl rfl) ?_
  exact ed_var 7
  refine ea_cons ?_ ?_
  exact ed_int
  refine ea_cons ?_ ?_
  exact ed_int
  refine ea_cons ?_ ?_
  refine ed_dat ?_
  refine el_lst ?_
  exact ea_nil
  exact ea_nil
  refine ea_cons ?_ ?_
  refine ed_meth (pl := _) h_shows ?_ (hr.mono (by decide)) (L2N.takes_of rfl rfl rfl rfl) ?_
  exact ed_mkr0 m_Right
  refine ea_cons ?_ ?_
  exact ed_int
  refine ea_cons ?_ ?_
  exact ed_int
  refine ea_cons ?_ ?_
  refine ed_dat ?_
  refine el_lst ?_
  exact ea_nil
  exact ea_nil
  exact ea_nil
  exact ea_nil
abbrev n_law_line_ends_right : List Str := ["_law_kind", "_law_told", "_law_bad"]
theorem sc_law_line_ends_right : FnScope n_law_line_ends_right [] (defScope s_law_line_ends_right) := ⟨rfl, rfl, rfl, by decide +kernel, rfl, by decide +kernel, by decide +kernel⟩
theorem ok_law_line_ends_right {a : Addr} {fd : FuncData} (F : Fun K "_law_line_ends_right" "_law_line_ends_right" s_law_line_ends_right a fd) (b : Binds K fd [] []) (b_isinstance : mg "isinstance" = none) (c_law_refused : Cal P w K mg base G "_law_refused" 8 3 d_law_refused) (c_tale_judged : Cal P w K mg base G "tale_judged" 6 3 d_tale_judged) (f_line : FldOk K G "line") (is_Wrong : Isi K mg G [0, 1, 2, 5, 3, 4] "Wrong" 4) (zl_0 : G.lam 0 = some LT_0) (zl_1 : G.lam 1 = some LT_1) (zl_2 : G.lam 2 = some LT_2) (zl_3 : G.lam 3 = some LT_3) (zt_law_line_ends_right : MakerF base mg G fd "_law_line_ends_right.<locals>.<lambda>") :
  FD P w K mg base G 9 a 0 d_law_line_ends_right := by
  apply FD.pure
  refine fd_ofC (nN := 3) (B := B_law_line_ends_right) F sc_law_line_ends_right rfl rfl b ?_
  intro A outer s H E hr
  refine ess_cons ?_ ?_
  refine es_for (passes_of rfl) rfl ?_ ?_ ?_
  refine ei_list ?_
  refine ed_dat ?_
  refine el_lst ?_
  refine ea_cons ?_ ?_
  exact ed_str
  refine ea_cons ?_ ?_
  exact ed_str
  refine ea_cons ?_ ?_
  exact ed_str
  refine ea_cons ?_ ?_
  exact ed_str
  refine ea_cons ?_ ?_
  exact ed_str
  exact ea_nil
  exact eg_var (i := 0) sc_law_line_ends_right.nd
  refine ess_cons ?_ ?_
  refine es_if ?_ ?_ ?_
  refine eb_not ?_
  refine eb_val ?_
  refine ed_cal c_law_refused (hr.mono (by decide)) (L2N.takes_of rfl rfl rfl rfl) ?_
  refine ea_cons ?_ ?_
  exact ed_lam (k := 0) (L := LT_0) zl_0 (zt_law_line_ends_right.at_ rfl) (clo_eq0 (by decide +kernel)) (NdefX.ndef_free (sc := defScope s_law_line_ends_right) (fr := []) (by decide +kernel)) rfl
  refine ea_cons ?_ ?_
  refine ed_dat ?_
  refine el_lst ?_
  refine ea_cons ?_ ?_
  refine ed_tup ?_
  refine ea_cons ?_ ?_
  exact ed_int
  refine ea_cons ?_ ?_
  exact ed_int
  refine ea_cons ?_ ?_
  exact ed_var 0
  refine ea_cons ?_ ?_
  exact ed_int
  exact ea_nil
  exact ea_nil
  refine ea_cons ?_ ?_
  exact ed_int
  exact ea_nil
  refine ess_one ?_
  refine es_ret ?_
  exact ed_bl
  exact ess_nil
  refine ess_cons ?_ ?_
  refine es_if ?_ ?_ ?_
  refine eb_not ?_
  refine eb_val ?_
  refine ed_cal c_law_refused (hr.mono (by decide)) (L2N.takes_of rfl rfl rfl rfl) ?_
  refine ea_cons ?_ ?_
  exact ed_lam (k := 1) (L := LT_1) zl_1 (zt_law_line_ends_right.at_ rfl) (clo_eq0 (by decide +kernel)) (NdefX.ndef_free (sc := defScope s_law_line_ends_right) (fr := []) (by decide +kernel)) rfl
  refine ea_cons ?_ ?_
  refine ed_dat ?_
  refine el_lst ?_
  refine ea_cons ?_ ?_
  refine ed_tup ?_
  refine ea_cons ?_ ?_
  exact ed_int
  refine ea_cons ?_ ?_
  exact ed_int
  refine ea_cons ?_ ?_
  exact ed_var 0
  refine ea_cons ?_ ?_
  exact ed_int
  exact ea_nil
  exact ea_nil
  refine ea_cons ?_ ?_
  exact ed_int
  exact ea_nil
  refine ess_one ?_
  refine es_ret ?_
  exact ed_bl
  exact ess_nil
  refine ess_cons ?_ ?_
  refine es_if ?_ ?_ ?_
  refine eb_not ?_
  refine eb_val ?_
  refine ed_cal c_law_refused (hr.mono (by decide)) (L2N.takes_of rfl rfl rfl rfl) ?_
  refine ea_cons ?_ ?_
  exact ed_lam (k := 2) (L := LT_2) zl_2 (zt_law_line_ends_right.at_ rfl) (clo_eq0 (by decide +kernel)) (NdefX.ndef_free (sc := defScope s_law_line_ends_right) (fr := []) (by decide +kernel)) rfl
  refine ea_cons ?_ ?_
  exact ed_var 0
  refine ea_cons ?_ ?_
  exact ed_int
  exact ea_nil
  refine ess_one ?_
  refine es_ret ?_
  exact ed_bl
  exact ess_nil
  refine ess_cons ?_ ?_
  refine es_set (i := 1) sc_law_line_ends_right.nd ?_
  refine ed_cal c_tale_judged (hr.mono (by decide)) (L2N.takes_of rfl rfl rfl rfl) ?_
  refine ea_cons ?_ ?_
  exact ed_int
  refine ea_cons ?_ ?_
  exact ed_int
  refine ea_cons ?_ ?_
  refine ed_dat ?_
  refine el_lst ?_
  refine ea_cons ?_ ?_
  refine ed_tup ?_
  refine ea_cons ?_ ?_
  exact ed_str
  refine ea_cons ?_ ?_
  exact ed_int
  exact ea_nil
  refine ea_cons ?_ ?_
  refine ed_tup ?_
  refine ea_cons ?_ ?_
  exact ed_str
  refine ea_cons ?_ ?_
  exact ed_int
  refine ea_cons ?_ ?_
  exact ed_var 0
  refine ea_cons ?_ ?_
  exact ed_int
  exact ea_nil
  exact ea_nil
  exact ea_nil
  refine ess_one ?_
  refine es_if ?_ ?_ ?_
  refine eb_w ?_
  refine ew_or ?_ ?_
  refine eb_not ?_
  refine eb_val ?_
  refine ed_isi is_Wrong b_isinstance ?_
  exact ed_var 1
  refine ew_or1 ?_
  refine eb_cmp opc_ne (op_neD (hu64 hr)) ?_ ?_ (nomark _)
  refine ed_fld f_line ?_
  exact ed_var 1
  exact ed_int
  refine ess_one ?_
  refine es_ret ?_
  exact ed_bl
  exact ess_nil
  refine ess_cons ?_ ?_
  refine es_for (passes_of rfl) rfl ?_ ?_ ?_
  refine ei_list ?_
  refine ed_dat ?_
  refine el_lst ?_
  refine ea_cons ?_ ?_
  refine ed_tup ?_
  refine ea_cons ?_ ?_
  exact ed_str
  refine ea_cons ?_ ?_
  exact ed_int
  refine ea_cons ?_ ?_
  exact ed_int
  exact ea_nil
  refine ea_cons ?_ ?_
  refine ed_tup ?_
  refine ea_cons ?_ ?_
  exact ed_str
  refine ea_cons ?_ ?_
  exact ed_int
  exact ea_nil
  refine ea_cons ?_ ?_
  refine ed_tup ?_
  refine ea_cons ?_ ?_
  exact ed_str
  refine ea_cons ?_ ?_
  exact ed_int
  refine ea_cons ?_ ?_
  exact ed_str
  refine ea_cons ?_ ?_
  exact ed_int
  exact ea_nil
  refine ea_cons ?_ ?_
  refine ed_tup ?_
  refine ea_cons ?_ ?_
  exact ed_str
  refine ea_cons ?_ ?_
  exact ed_int
  refine ea_cons ?_ ?_
  exact ed_int
  exact ea_nil
  exact ea_nil
  exact eg_var (i := 2) sc_law_line_ends_right.nd
  refine ess_one ?_
  refine es_if ?_ ?_ ?_
  refine eb_not ?_
  refine eb_val ?_
  refine ed_cal c_law_refused (hr.mono (by decide)) (L2N.takes_of rfl rfl rfl rfl) ?_
  refine ea_cons ?_ ?_
  exact ed_lam (k := 3) (L := LT_3) zl_3 (zt_law_line_ends_right.at_ rfl) (clo_eq0 (by decide +kernel)) (NdefX.ndef_free (sc := defScope s_law_line_ends_right) (fr := []) (by decide +kernel)) rfl
  refine ea_cons ?_ ?_
  refine ed_dat ?_
  refine el_lst ?_
  refine ea_cons ?_ ?_
  refine ed_tup ?_
  refine ea_cons ?_ ?_
  exact ed_str
  refine ea_cons ?_ ?_
  exact ed_int
  exact ea_nil
  refine ea_cons ?_ ?_
  exact ed_var 2
  exact ea_nil
  refine ea_cons ?_ ?_
  exact ed_int
  exact ea_nil
  refine ess_one ?_
  refine es_ret ?_
  exact ed_bl
  exact ess_nil
  refine ess_one ?_
  refine es_ret ?_
  exact ed_bl
abbrev s_law_moves_right : Stmt := topS 59
abbrev n_law_moves_right : List Str := ["_law_whole", "_law_first", "_law_second", "_law_one", "_law_two", "_law_place", "_law_due", "_law_behind", "_law_places_here", "_law_middle", "_law_told"]
theorem sc_law_moves_right : FnScope n_law_moves_right ["_law_whole"] (defScope s_law_moves_right) := ⟨rfl, rfl, rfl, by decide +kernel, rfl, by decide +kernel, by decide +kernel⟩
theorem ok_law_moves_right {a : Addr} {fd : FuncData} (F : Fun K "_law_moves_right" "_law_moves_right" s_law_moves_right a fd) (b : Binds K fd ["_law_whole"] []) (b_isinstance : mg "isinstance" = none) (c_at_most : Cal P w K mg base G "at_most" 5 4 d_at_most) (c_judged : Cal P w K mg base G "judged" 5 4 d_judged) (c_least_jumps : Cal P w K mg base G "least_jumps" 3 1 d_least_jumps) (c_meet : Cal P w K mg base G "meet" 3 1 d_meet) (f_place : FldOk K G "place") (h_shows : MD P w K mg base G 6 "shows" ms_shows) (is_Apart : Isi K mg G [0, 1, 2, 5, 3, 4] "Apart" 1) (is_Together : Isi K mg G [0, 1, 2, 5, 3, 4] "Together" 0) (m_Apart : Mkr P w K mg base G "Apart" 1 1 2 d_Apart_init) :
  FD P w K mg base G 7 a 1 d_law_moves_right := by
  apply FD.pure
  refine fd_of (nN := 11) (B := B_law_moves_right) F sc_law_moves_right rfl rfl b ?_
  intro cdv A outer s H E hr
  refine ess_cons ?_ ?_
  refine es_par2 (i := 1) (j := 2) rfl sc_law_moves_right.nd ?_
  refine ea_cons ?_ ?_
  refine ed_op opc_mod op_mod ?_ ?_
  exact ed_var 0
  exact ed_int
  refine ea_cons ?_ ?_
  refine ed_op opc_add op_add3 ?_ ?_
  refine ed_op opc_mod op_mod ?_ ?_
  exact ed_var 0
  exact ed_int
  exact ed_int
  exact ea_nil
  refine ess_cons ?_ ?_
  refine es_par2 (i := 3) (j := 4) rfl sc_law_moves_right.nd ?_
  refine ea_cons ?_ ?_
  refine ed_dat ?_
  refine el_lst ?_
  refine ea_cons ?_ ?_
  refine ed_tup ?_
  refine ea_cons ?_ ?_
  exact ed_int
  refine ea_cons ?_ ?_
  exact ed_int
  refine ea_cons ?_ ?_
  exact ed_str
  refine ea_cons ?_ ?_
  exact ed_var 1
  exact ea_nil
  exact ea_nil
  refine ea_cons ?_ ?_
  refine ed_dat ?_
  refine el_lst ?_
  refine ea_cons ?_ ?_
  refine ed_tup ?_
  refine ea_cons ?_ ?_
  exact ed_int
  refine ea_cons ?_ ?_
  exact ed_int
  refine ea_cons ?_ ?_
  exact ed_str
  refine ea_cons ?_ ?_
  exact ed_var 2
  exact ea_nil
  exact ea_nil
  exact ea_nil
  refine ess_cons ?_ ?_
  refine es_if ?_ ?_ ?_
  refine eb_w ?_
  refine ew_or ?_ ?_
  refine eb_cmp opc_ne (op_neD (hu64 hr)) ?_ ?_ (nomark _)
  refine ed_cal c_at_most (hr.mono (by decide)) (L2N.takes_of rfl rfl rfl rfl) ?_
  refine ea_cons ?_ ?_
  exact ed_int
  refine ea_cons ?_ ?_
  exact ed_var 3
  refine ea_cons ?_ ?_
  exact ed_var 4
  refine ea_cons ?_ ?_
  exact ed_int
  exact ea_nil
  exact ed_int
  refine ew_or1 ?_
  refine eb_not ?_
  refine eb_val ?_
  refine ed_isi is_Apart b_isinstance ?_
  refine ed_cal c_judged (hr.mono (by decide)) (L2N.takes_of rfl rfl rfl rfl) ?_
  refine ea_cons ?_ ?_
  exact ed_int
  refine ea_cons ?_ ?_
  exact ed_var 3
  refine ea_cons ?_ ?_
  exact ed_var 4
  refine ea_cons ?_ ?_
  exact ed_int
  exact ea_nil
  refine ess_one ?_
  refine es_ret ?_
  exact ed_bl
  exact ess_nil
  refine ess_cons ?_ ?_
  refine es_for (passes_of rfl) rfl ?_ ?_ ?_
  refine ei_list ?_
  refine ed_dat ?_
  refine el_lst ?_
  refine ea_cons ?_ ?_
  refine ed_tup ?_
  refine ea_cons ?_ ?_
  exact ed_var 1
  refine ea_cons ?_ ?_
  exact ed_bl
  exact ea_nil
  refine ea_cons ?_ ?_
  refine ed_tup ?_
  refine ea_cons ?_ ?_
  exact ed_var 2
  refine ea_cons ?_ ?_
  exact ed_bl
  exact ea_nil
  refine ea_cons ?_ ?_
  refine ed_tup ?_
  refine ea_cons ?_ ?_
  refine ed_op opc_mod op_mod ?_ ?_
  refine ed_op opc_add op_add3 ?_ ?_
  refine ed_op opc_mod op_mod ?_ ?_
  exact ed_var 0
  exact ed_int
  exact ed_int
  exact ed_int
  refine ea_cons ?_ ?_
  exact ed_bl
  exact ea_nil
  exact ea_nil
  refine eg_tup rfl ?_
  refine egs_cons (i := 5) ?_ ?_
  exact eg_var (i := 5) sc_law_moves_right.nd
  refine egs_cons (i := 6) ?_ ?_
  exact eg_var (i := 6) sc_law_moves_right.nd
  exact egs_nil
  refine ess_one ?_
  refine es_if ?_ ?_ ?_
  refine eb_cmp opc_ne (op_neD (hu64 hr)) ?_ ?_ (nomark _)
  refine ed_meth (pl := _) h_shows ?_ (hr.mono (by decide)) (L2N.takes_of rfl rfl rfl rfl) ?_
  refine ed_pure ?_
  refine ed_mkr m_Apart (hr.mono (by decide)) (L2N.takes_of rfl rfl rfl rfl) ?_
  refine ea_cons ?_ ?_
  refine ed_tup ?_
  refine ea_cons ?_ ?_
  exact ed_int
  refine ea_cons ?_ ?_
  exact ed_int
  refine ea_cons ?_ ?_
  exact ed_str
  refine ea_cons ?_ ?_
  exact ed_var 5
  exact ea_nil
  exact ea_nil
  refine ea_cons ?_ ?_
  exact ed_int
  refine ea_cons ?_ ?_
  exact ed_var 3
  refine ea_cons ?_ ?_
  exact ed_var 4
  refine ea_cons ?_ ?_
  exact ed_int
  exact ea_nil
  exact ed_var 6
  refine ess_one ?_
  refine es_ret ?_
  exact ed_bl
  exact ess_nil
  refine ess_cons ?_ ?_
  refine es_set (i := 7) sc_law_moves_right.nd ?_
  refine ed_dat ?_
  refine el_lst ?_
  refine ea_cons ?_ ?_
  refine ed_tup ?_
  refine ea_cons ?_ ?_
  exact ed_int
  refine ea_cons ?_ ?_
  exact ed_int
  refine ea_cons ?_ ?_
  exact ed_str
  refine ea_cons ?_ ?_
  exact ed_int
  exact ea_nil
  exact ea_nil
  refine ess_cons ?_ ?_
  refine es_if ?_ ?_ ?_
  refine eb_not ?_
  refine eb_val ?_
  refine ed_isi is_Together b_isinstance ?_
  refine ed_cal c_judged (hr.mono (by decide)) (L2N.takes_of rfl rfl rfl rfl) ?_
  refine ea_cons ?_ ?_
  exact ed_int
  refine ea_cons ?_ ?_
  refine ed_op opc_add op_add3 ?_ ?_
  exact ed_var 3
  exact ed_var 7
  refine ea_cons ?_ ?_
  refine ed_op opc_add op_add3 ?_ ?_
  exact ed_var 4
  exact ed_var 7
  refine ea_cons ?_ ?_
  exact ed_int
  exact ea_nil
  refine ess_one ?_
  refine es_ret ?_
  exact ed_bl
  exact ess_nil
  refine ess_cons ?_ ?_
  refine es_if ?_ ?_ ?_
  refine eb_cmp opc_ne (op_neD (hu64 hr)) ?_ ?_ (nomark _)
  refine ed_cal c_at_most (hr.mono (by decide)) (L2N.takes_of rfl rfl rfl rfl) ?_
  refine ea_cons ?_ ?_
  exact ed_int
  refine ea_cons ?_ ?_
  refine ed_op opc_add op_add3 ?_ ?_
  exact ed_var 3
  exact ed_var 7
  refine ea_cons ?_ ?_
  refine ed_op opc_add op_add3 ?_ ?_
  exact ed_var 4
  exact ed_var 7
  refine ea_cons ?_ ?_
  exact ed_int
  exact ea_nil
  exact ed_int
  refine ess_one ?_
  refine es_ret ?_
  exact ed_bl
  exact ess_nil
  refine ess_cons ?_ ?_
  refine es_par2 (i := 8) (j := 9) rfl sc_law_moves_right.nd ?_
  refine ea_cons ?_ ?_
  refine ed_cel ?_
  refine el_lst ?_
  refine ea_cons ?_ ?_
  exact ed_int
  refine ea_cons ?_ ?_
  exact ed_int
  refine ea_cons ?_ ?_
  exact ed_int
  exact ea_nil
  refine ea_cons ?_ ?_
  refine ed_op opc_add op_add3 ?_ ?_
  exact ed_int
  refine ed_op opc_mod op_mod ?_ ?_
  exact ed_var 0
  exact ed_int
  exact ea_nil
  refine ess_cons ?_ ?_
  refine es_set (i := 10) sc_law_moves_right.nd ?_
  refine ed_cal c_meet (hr.mono (by decide)) (L2N.takes_of rfl rfl rfl rfl) ?_
  refine ea_cons ?_ ?_
  exact ed_var 8
  exact ea_nil
  refine ess_cons ?_ ?_
  refine es_if ?_ ?_ ?_
  refine eb_w ?_
  refine ew_or ?_ ?_
  refine eb_cmp opc_ne (op_neD (hu64 hr)) ?_ ?_ (nomark _)
  refine ed_fld f_place ?_
  exact ed_var 10
  exact ed_int
  refine ew_or1 ?_
  refine eb_cmp opc_ne (op_neD (hu64 hr)) ?_ ?_ (nomark _)
  refine ed_cal c_least_jumps (hr.mono (by decide)) (L2N.takes_of rfl rfl rfl rfl) ?_
  refine ea_cons ?_ ?_
  exact ed_var 8
  exact ea_nil
  exact ed_int
  refine ess_one ?_
  refine es_ret ?_
  exact ed_bl
  exact ess_nil
  refine ess_cons ?_ ?_
  refine es_setL ?_ ?_ ?_
  exact ed_var 8
  exact ed_int
  exact ed_var 9
  refine ess_cons ?_ ?_
  refine es_if ?_ ?_ ?_
  refine eb_w ?_
  refine ew_or ?_ ?_
  refine eb_cmp opc_ne (op_neD (hu64 hr)) ?_ ?_ (nomark _)
  refine ed_fld f_place ?_
  refine ed_cal c_meet (hr.mono (by decide)) (L2N.takes_of rfl rfl rfl rfl) ?_
  refine ea_cons ?_ ?_
  exact ed_var 8
  exact ea_nil
  exact ed_var 9
  refine ew_or ?_ ?_
  refine eb_cmp opc_ne (op_neD (hu64 hr)) ?_ ?_ (nomark _)
  refine ed_cal c_least_jumps (hr.mono (by decide)) (L2N.takes_of rfl rfl rfl rfl) ?_
  refine ea_cons ?_ ?_
  exact ed_var 8
  exact ea_nil
  exact ed_int
  refine ew_or1 ?_
  refine eb_cmp opc_isNot op_notBl ?_ ?_ (nomark _)
  refine ed_meth (pl := _) h_shows ?_ (hr.mono (by decide)) (L2N.takes_of rfl rfl rfl rfl) ?_
  exact ed_var 10
  refine ea_cons ?_ ?_
  exact ed_var 8
  exact ea_nil
  exact ed_bl
  refine ess_one ?_
  refine es_ret ?_
  exact ed_bl
  exact ess_nil
  refine ess_cons ?_ ?_
  refine es_setL ?_ ?_ ?_
  exact ed_var 8
  exact ed_int
  exact ed_int
  refine ess_cons ?_ ?_
  refine es_if ?_ ?_ ?_
  refine eb_cmp opc_isNot op_notBl ?_ ?_ (nomark _)
  refine ed_meth (pl := _) h_shows ?_ (hr.mono (by decide)) (L2N.takes_of rfl rfl rfl rfl) ?_
  exact ed_var 10
  refine ea_cons ?_ ?_
  exact ed_var 8
  exact ea_nil
  exact ed_bl
  refine ess_one ?_
  refine es_ret ?_
  exact ed_bl
  exact ess_nil
  refine ess_cons ?_ ?_
  refine es_setL ?_ ?_ ?_
  exact ed_var 8
  exact ed_int
  exact ed_int
  refine ess_one ?_
  refine es_ret ?_
  refine ed_cmp opc_eq (op_eqD (hu64 hr)) ?_ ?_ (nomark _)
  refine ed_cal c_least_jumps (hr.mono (by decide)) (L2N.takes_of rfl rfl rfl rfl) ?_
  refine ea_cons ?_ ?_
  exact ed_var 8
  exact ea_nil
  exact ed_int
abbrev s_law : Stmt := topS 60
abbrev n_law : List Str := ["_law_script", "_law_whole", "_law_length_here", "_law_by", "_law_one", "_law_other"]
theorem sc_law : FnScope n_law ["_law_script"] (defScope s_law) := ⟨rfl, rfl, rfl, by decide +kernel, rfl, by decide +kernel, by decide +kernel⟩
theorem ok_law {a : Addr} {fd : FuncData} (F : Fun K "law" "law" s_law a fd) (b_abs : mg "abs" = none) (b_sum : mg "sum" = none) (c_law_commands : Cal P w K mg base G "_law_commands" 2 5 d_law_commands) (c_law_length : Cal P w K mg base G "_law_length" 1 1 d_law_length) (c_law_line_ends_right : Cal P w K mg base G "_law_line_ends_right" 9 0 d_law_line_ends_right) (c_law_moves_right : Cal P w K mg base G "_law_moves_right" 7 1 d_law_moves_right) (c_law_places : Cal P w K mg base G "_law_places" 2 3 d_law_places) (c_law_room_right : Cal P w K mg base G "_law_room_right" 8 1 d_law_room_right) (c_law_told_right : Cal P w K mg base G "_law_told_right" 8 5 d_law_told_right) :
  FnOk P w K mg base (L2N.CX P w) 10 a fd ["_law_script"] (spD K G 1 (run 6 B_law)) := by
  refine fn_den (nN := 6) (B := B_law) F sc_law rfl rfl ?_
  intro cdv A outer s H E hr
  refine ess_cons ?_ ?_
  refine es_set (i := 1) sc_law.nd ?_
  refine ed_callB cac_abs call_abs (by rfl) b_abs (by decide +kernel) ?_
  refine ea_cons ?_ ?_
  refine ed_callB cac_sum (cr_sum rfl) (by rfl) b_sum (by decide +kernel) ?_
  refine ea_cons ?_ ?_
  refine ed_sl ?_ ?_ ?_
  exact ed_var 0
  exact eo_none
  refine eo_some ?_
  exact ed_int
  exact ea_nil
  exact ea_nil
  refine ess_cons ?_ ?_
  refine es_set (i := 2) sc_law.nd ?_
  refine ed_cal c_law_length (hr.mono (by decide)) (L2N.takes_of rfl rfl rfl rfl) ?_
  refine ea_cons ?_ ?_
  exact ed_var 1
  exact ea_nil
  refine ess_cons ?_ ?_
  refine es_for (passes_of rfl) rfl ?_ ?_ ?_
  refine ei_list ?_
  refine ed_dat ?_
  refine el_lst ?_
  refine ea_cons ?_ ?_
  exact ed_int
  refine ea_cons ?_ ?_
  exact ed_int
  refine ea_cons ?_ ?_
  exact ed_int
  exact ea_nil
  exact eg_var (i := 3) sc_law.nd
  refine ess_cons ?_ ?_
  refine es_par2 (i := 4) (j := 5) rfl sc_law.nd ?_
  refine ea_cons ?_ ?_
  refine ed_cal c_law_commands (hr.mono (by decide)) (L2N.takes_of rfl rfl rfl rfl) ?_
  refine ea_cons ?_ ?_
  exact ed_var 0
  refine ea_cons ?_ ?_
  exact ed_var 3
  refine ea_cons ?_ ?_
  exact ed_int
  refine ea_cons ?_ ?_
  exact ed_var 2
  refine ea_cons ?_ ?_
  exact ed_bl
  exact ea_nil
  refine ea_cons ?_ ?_
  refine ed_cal c_law_commands (hr.mono (by decide)) (L2N.takes_of rfl rfl rfl rfl) ?_
  refine ea_cons ?_ ?_
  exact ed_var 0
  refine ea_cons ?_ ?_
  refine ed_op opc_add op_add3 ?_ ?_
  exact ed_var 3
  exact ed_int
  refine ea_cons ?_ ?_
  exact ed_int
  refine ea_cons ?_ ?_
  exact ed_var 2
  refine ea_cons ?_ ?_
  exact ed_bl
  exact ea_nil
  exact ea_nil
  refine ess_one ?_
  refine es_if ?_ ?_ ?_
  refine eb_not ?_
  refine eb_val ?_
  refine ed_cal c_law_told_right (hr.mono (by decide)) (L2N.takes_of rfl rfl rfl rfl) ?_
  refine ea_cons ?_ ?_
  exact ed_var 2
  refine ea_cons ?_ ?_
  exact ed_var 4
  refine ea_cons ?_ ?_
  exact ed_var 5
  refine ea_cons ?_ ?_
  refine ed_ix ?_ ?_
  refine ed_tup ?_
  refine ea_cons ?_ ?_
  exact ed_int
  refine ea_cons ?_ ?_
  exact ed_int
  refine ea_cons ?_ ?_
  exact ed_int
  exact ea_nil
  refine ed_op opc_mod op_mod ?_ ?_
  refine ed_op opc_add op_add3 ?_ ?_
  exact ed_var 1
  exact ed_var 3
  exact ed_int
  refine ea_cons ?_ ?_
  refine ed_cal c_law_places (hr.mono (by decide)) (L2N.takes_of rfl rfl rfl rfl) ?_
  refine ea_cons ?_ ?_
  exact ed_var 0
  refine ea_cons ?_ ?_
  exact ed_var 3
  refine ea_cons ?_ ?_
  exact ed_int
  exact ea_nil
  exact ea_nil
  refine ess_one ?_
  refine es_ret ?_
  exact ed_bl
  exact ess_nil
  refine ess_one ?_
  refine es_ret ?_
  refine ed_and ?_ ?_
  refine ed_cal c_law_room_right (hr.mono (by decide)) (L2N.takes_of rfl rfl rfl rfl) ?_
  refine ea_cons ?_ ?_
  exact ed_var 1
  exact ea_nil
  refine ed_and ?_ ?_
  exact ed_cal0 c_law_line_ends_right (hr.mono (by decide)) (L2N.takes_of rfl rfl rfl rfl)
  refine ed_one ?_
  refine ed_cal c_law_moves_right (hr.mono (by decide)) (L2N.takes_of rfl rfl rfl rfl) ?_
  refine ea_cons ?_ ?_
  exact ed_var 1
  exact ea_nil
end
def lamTab : Nat → Option LamT
  | 0 => some LT_0
  | 1 => some LT_1
  | 2 => some LT_2
  | 3 => some LT_3
  | _ => none
def g_of (C10 : Addr) (C11 : Addr) (C12 : Addr) (C13 : Addr) (C14 : Addr) (C15 : Addr) (C16 : Addr) (C17 : Addr) (C18 : Addr) (C19 : Addr) (C20 : Addr) (C6 : Addr) (C0 : Addr) (C1 : Addr) (C2 : Addr) (C5 : Addr) (C3 : Addr) (C4 : Addr) : Nat → Addr
  | 10 => C10
  | 11 => C11
  | 12 => C12
  | 13 => C13
  | 14 => C14
  | 15 => C15
  | 16 => C16
  | 17 => C17
  | 18 => C18
  | 19 => C19
  | 20 => C20
  | 6 => C6
  | 0 => C0
  | 1 => C1
  | 2 => C2
  | 5 => C5
  | 3 => C3
  | 4 => C4
  | _ => 0
theorem fld_of {K : PySem.W.Frag} {G : GT} {f : Str} (h : ∀ c, f ∈ nms c → Cls K (G c) ∧ NoAttr K (G c) f) : FldOk K G f := h
theorem all_mk {P : Program} {w : World} {K : PySem.W.Frag} {h : Heap} {mg : Str → Option Value} {fa : Addr} (X : K.In h) (Gn : h.Ns mainGlobals mg) (hfa : mg "law" = some (.ref fa)) {qp : Program} (tabs : OwnTabs qp K mg h)
    {C10 : Addr} {C11 : Addr} {C12 : Addr} {C13 : Addr} {C14 : Addr} {C15 : Addr} {C16 : Addr} {C17 : Addr} {C18 : Addr} {C19 : Addr} {C20 : Addr} {C6 : Addr} {C0 : Addr} {C1 : Addr} {C2 : Addr} {C5 : Addr} {C3 : Addr} {C4 : Addr} {tk_GREATEST : Tok} {tk_HANDS : Tok} {ta_KINDS : Addr} {tt_KINDS_0 : Tok} {tt_KINDS_1 : Tok} {tt_KINDS_2 : Tok} {td_KINDS : Option Addr} {tn_KINDS : Nat} {ts_KINDS : Array (Option Value)} {tk_LONGEST : Tok} {tk_MOST_COMMANDS : Tok} {tk_MOST_PLACES : Tok} {a_is_whole : Addr} {a_asked_length : Addr} {a_is_command : Addr} {a_asked_commands : Addr} {a_asked_tick : Addr} {a_stand_of : Addr} {a_stand : Addr} {a_unlike : Addr} {a_asked_two : Addr} {a_at_most : Addr} {a_Together_shows : Addr} {a_Apart_init : Addr} {a_Apart_shows : Addr} {a_Meet_init : Addr} {a_Meet_shows : Addr} {a_judged : Addr} {a_asked_places : Addr} {a_meet : Addr} {a_least_jumps : Addr} {a_Room_init : Addr} {a_Room_asked_watcher : Addr} {a_Room_order : Addr} {a_Room_bring : Addr} {a_Room_tick : Addr} {a_Room_stands : Addr} {a_Room_knows : Addr} {a_Room_at_rest : Addr} {a_Room_tale : Addr} {a_is_line : Addr} {a_can_come : Addr} {a_first_wrong : Addr} {a_Right_shows : Addr} {a_Wrong_init : Addr} {a_Wrong_shows : Addr} {a_tale_judged : Addr} {a_law_refused : Addr} {a_law_number : Addr} {a_law_commands : Addr} {a_law_length : Addr} {a_law_places : Addr} {a_law_plain : Addr} {a_law_truths : Addr} {a_law_told_right : Addr} {a_law_room_right : Addr} {a_law_line_ends_right : Addr} {a_law_moves_right : Addr} {a_law : Addr}
    (ac10 : PySem.W.nsIn K mainGlobals "WatchError" = some (some (.ref C10)))
    (ac11 : PySem.W.nsIn K mainGlobals "BadLength" = some (some (.ref C11)))
    (ac12 : PySem.W.nsIn K mainGlobals "BadCommands" = some (some (.ref C12)))
    (ac13 : PySem.W.nsIn K mainGlobals "BadTick" = some (some (.ref C13)))
    (ac14 : PySem.W.nsIn K mainGlobals "BadPlaces" = some (some (.ref C14)))
    (ac15 : PySem.W.nsIn K mainGlobals "BadWatcher" = some (some (.ref C15)))
    (ac16 : PySem.W.nsIn K mainGlobals "BadKind" = some (some (.ref C16)))
    (ac17 : PySem.W.nsIn K mainGlobals "BadPlace" = some (some (.ref C17)))
    (ac18 : PySem.W.nsIn K mainGlobals "BadLetter" = some (some (.ref C18)))
    (ac19 : PySem.W.nsIn K mainGlobals "BadTale" = some (some (.ref C19)))
    (ac20 : PySem.W.nsIn K mainGlobals "Busy" = some (some (.ref C20)))
    (ac6 : PySem.W.nsIn K mainGlobals "Answer" = some (some (.ref C6)))
    (ac0 : PySem.W.nsIn K mainGlobals "Together" = some (some (.ref C0)))
    (ac1 : PySem.W.nsIn K mainGlobals "Apart" = some (some (.ref C1)))
    (ac2 : PySem.W.nsIn K mainGlobals "Meet" = some (some (.ref C2)))
    (ac5 : PySem.W.nsIn K mainGlobals "Room" = some (some (.ref C5)))
    (ac3 : PySem.W.nsIn K mainGlobals "Right" = some (some (.ref C3)))
    (ac4 : PySem.W.nsIn K mainGlobals "Wrong" = some (some (.ref C4)))
    (zb_ValueError : PySem.W.nsIn K mainGlobals "ValueError" = some none)
    (zb_abs : PySem.W.nsIn K mainGlobals "abs" = some none)
    (zb_all : PySem.W.nsIn K mainGlobals "all" = some none)
    (zb_bool : PySem.W.nsIn K mainGlobals "bool" = some none)
    (zb_enumerate : PySem.W.nsIn K mainGlobals "enumerate" = some none)
    (zb_int : PySem.W.nsIn K mainGlobals "int" = some none)
    (zb_isinstance : PySem.W.nsIn K mainGlobals "isinstance" = some none)
    (zb_len : PySem.W.nsIn K mainGlobals "len" = some none)
    (zb_list : PySem.W.nsIn K mainGlobals "list" = some none)
    (zb_min : PySem.W.nsIn K mainGlobals "min" = some none)
    (zb_range : PySem.W.nsIn K mainGlobals "range" = some none)
    (zb_set : PySem.W.nsIn K mainGlobals "set" = some none)
    (zb_sorted : PySem.W.nsIn K mainGlobals "sorted" = some none)
    (zb_str : PySem.W.nsIn K mainGlobals "str" = some none)
    (zb_sum : PySem.W.nsIn K mainGlobals "sum" = some none)
    (zb_tuple : PySem.W.nsIn K mainGlobals "tuple" = some none)
    (zg_GREATEST : PySem.W.nsIn K mainGlobals "GREATEST" = some (some (.int 1000000000 tk_GREATEST)))
    (zg_HANDS : PySem.W.nsIn K mainGlobals "HANDS" = some (some (.int 4 tk_HANDS)))
    (zg_KINDS : PySem.W.nsIn K mainGlobals "KINDS" = some (some (.ref ta_KINDS)))
    (yg_KINDS : K.lookup ta_KINDS = some ⟨.type "tuple", td_KINDS, .seq #[.str "hold" tt_KINDS_0, .str "go" tt_KINDS_1, .str "move" tt_KINDS_2] tn_KINDS, ts_KINDS⟩)
    (zg_LONGEST : PySem.W.nsIn K mainGlobals "LONGEST" = some (some (.int 60 tk_LONGEST)))
    (zg_MOST_COMMANDS : PySem.W.nsIn K mainGlobals "MOST_COMMANDS" = some (some (.int 300 tk_MOST_COMMANDS)))
    (zg_MOST_PLACES : PySem.W.nsIn K mainGlobals "MOST_PLACES" = some (some (.int 40 tk_MOST_PLACES)))
    (pg0 : PySem.W.plainGet K C0 Str.empty = true)
    (hd0 : PySem.W.hasDictIn K C0 = true)
    (po0 : PySem.W.plainOver K C0 = true)
    (sa0 : PySem.W.findIn K (.ref C0) "__setattr__" = some (some (.builtin "object.__setattr__")))
    (mk0 : PySem.W.makesIn K C0 = true)
    (kc0 : PySem.W.keepIn K (.ref C0) = true)
    (oi0 : PySem.W.findIn K (.ref C0) "__init__" = some (some (.builtin "object.__init__")))
    (pg1 : PySem.W.plainGet K C1 Str.empty = true)
    (hd1 : PySem.W.hasDictIn K C1 = true)
    (po1 : PySem.W.plainOver K C1 = true)
    (sa1 : PySem.W.findIn K (.ref C1) "__setattr__" = some (some (.builtin "object.__setattr__")))
    (mk1 : PySem.W.makesIn K C1 = true)
    (kc1 : PySem.W.keepIn K (.ref C1) = true)
    (nf1_command : PySem.W.findIn K (.ref C1) "command" = some none)
    (pg2 : PySem.W.plainGet K C2 Str.empty = true)
    (hd2 : PySem.W.hasDictIn K C2 = true)
    (po2 : PySem.W.plainOver K C2 = true)
    (sa2 : PySem.W.findIn K (.ref C2) "__setattr__" = some (some (.builtin "object.__setattr__")))
    (mk2 : PySem.W.makesIn K C2 = true)
    (kc2 : PySem.W.keepIn K (.ref C2) = true)
    (nf2_place : PySem.W.findIn K (.ref C2) "place" = some none)
    (nf2_pairs : PySem.W.findIn K (.ref C2) "pairs" = some none)
    (pg5 : PySem.W.plainGet K C5 Str.empty = true)
    (hd5 : PySem.W.hasDictIn K C5 = true)
    (po5 : PySem.W.plainOver K C5 = true)
    (sa5 : PySem.W.findIn K (.ref C5) "__setattr__" = some (some (.builtin "object.__setattr__")))
    (mk5 : PySem.W.makesIn K C5 = true)
    (kc5 : PySem.W.keepIn K (.ref C5) = true)
    (nf5_length : PySem.W.findIn K (.ref C5) "length" = some none)
    (nf5_known : PySem.W.findIn K (.ref C5) "known" = some none)
    (nf5_letters : PySem.W.findIn K (.ref C5) "letters" = some none)
    (nf5_now : PySem.W.findIn K (.ref C5) "now" = some none)
    (nf5_lines : PySem.W.findIn K (.ref C5) "lines" = some none)
    (pg3 : PySem.W.plainGet K C3 Str.empty = true)
    (hd3 : PySem.W.hasDictIn K C3 = true)
    (po3 : PySem.W.plainOver K C3 = true)
    (sa3 : PySem.W.findIn K (.ref C3) "__setattr__" = some (some (.builtin "object.__setattr__")))
    (mk3 : PySem.W.makesIn K C3 = true)
    (kc3 : PySem.W.keepIn K (.ref C3) = true)
    (oi3 : PySem.W.findIn K (.ref C3) "__init__" = some (some (.builtin "object.__init__")))
    (pg4 : PySem.W.plainGet K C4 Str.empty = true)
    (hd4 : PySem.W.hasDictIn K C4 = true)
    (po4 : PySem.W.plainOver K C4 = true)
    (sa4 : PySem.W.findIn K (.ref C4) "__setattr__" = some (some (.builtin "object.__setattr__")))
    (mk4 : PySem.W.makesIn K C4 = true)
    (kc4 : PySem.W.keepIn K (.ref C4) = true)
    (nf4_line : PySem.W.findIn K (.ref C4) "line" = some none)
    (ihn : PySem.W.specialIn K (.builtin "object.__class__") "__get__" = some (some (.builtin "getset_descriptor.__get__")))
    (ihtk : PySem.W.takesIn K (.builtin "object.__class__") = some true)
    (iha0 : PySem.W.findIn K (.ref C0) "__class__" = some (some (.builtin "object.__class__")))
    (ihm0 : PySem.W.mroIn K C0 (.type "object") = some true)
    (iha1 : PySem.W.findIn K (.ref C1) "__class__" = some (some (.builtin "object.__class__")))
    (ihm1 : PySem.W.mroIn K C1 (.type "object") = some true)
    (iha2 : PySem.W.findIn K (.ref C2) "__class__" = some (some (.builtin "object.__class__")))
    (ihm2 : PySem.W.mroIn K C2 (.type "object") = some true)
    (iha5 : PySem.W.findIn K (.ref C5) "__class__" = some (some (.builtin "object.__class__")))
    (ihm5 : PySem.W.mroIn K C5 (.type "object") = some true)
    (iha3 : PySem.W.findIn K (.ref C3) "__class__" = some (some (.builtin "object.__class__")))
    (ihm3 : PySem.W.mroIn K C3 (.type "object") = some true)
    (iha4 : PySem.W.findIn K (.ref C4) "__class__" = some (some (.builtin "object.__class__")))
    (ihm4 : PySem.W.mroIn K C4 (.type "object") = some true)
    (ik_Apart_0 : PySem.W.kitOne K (.ref C0) (.ref C1) = some false)
    (ik_Apart_1 : PySem.W.kitOne K (.ref C1) (.ref C1) = some true)
    (ik_Apart_2 : PySem.W.kitOne K (.ref C2) (.ref C1) = some false)
    (ik_Apart_5 : PySem.W.kitOne K (.ref C5) (.ref C1) = some false)
    (ik_Apart_3 : PySem.W.kitOne K (.ref C3) (.ref C1) = some false)
    (ik_Apart_4 : PySem.W.kitOne K (.ref C4) (.ref C1) = some false)
    (ik_Together_0 : PySem.W.kitOne K (.ref C0) (.ref C0) = some true)
    (ik_Together_1 : PySem.W.kitOne K (.ref C1) (.ref C0) = some false)
    (ik_Together_2 : PySem.W.kitOne K (.ref C2) (.ref C0) = some false)
    (ik_Together_5 : PySem.W.kitOne K (.ref C5) (.ref C0) = some false)
    (ik_Together_3 : PySem.W.kitOne K (.ref C3) (.ref C0) = some false)
    (ik_Together_4 : PySem.W.kitOne K (.ref C4) (.ref C0) = some false)
    (ik_Wrong_0 : PySem.W.kitOne K (.ref C0) (.ref C4) = some false)
    (ik_Wrong_1 : PySem.W.kitOne K (.ref C1) (.ref C4) = some false)
    (ik_Wrong_2 : PySem.W.kitOne K (.ref C2) (.ref C4) = some false)
    (ik_Wrong_5 : PySem.W.kitOne K (.ref C5) (.ref C4) = some false)
    (ik_Wrong_3 : PySem.W.kitOne K (.ref C3) (.ref C4) = some false)
    (ik_Wrong_4 : PySem.W.kitOne K (.ref C4) (.ref C4) = some true)
    (ex12 : PySem.W.excIn K C12 [.type "ValueError", .type "Exception", .type "BaseException", .type "object"] "ValueError.__new__" = true)
    (ek12 : PySem.W.keepIn K (.ref C12) = true)
    (es12 : PySem.W.subIn K (.ref C12) (.type "BaseException") = some true)
    (et12 : PySem.W.typeIn K (.ref C12) = some (.type "type"))
    (ex16 : PySem.W.excIn K C16 [.type "ValueError", .type "Exception", .type "BaseException", .type "object"] "ValueError.__new__" = true)
    (ek16 : PySem.W.keepIn K (.ref C16) = true)
    (es16 : PySem.W.subIn K (.ref C16) (.type "BaseException") = some true)
    (et16 : PySem.W.typeIn K (.ref C16) = some (.type "type"))
    (ex11 : PySem.W.excIn K C11 [.type "ValueError", .type "Exception", .type "BaseException", .type "object"] "ValueError.__new__" = true)
    (ek11 : PySem.W.keepIn K (.ref C11) = true)
    (es11 : PySem.W.subIn K (.ref C11) (.type "BaseException") = some true)
    (et11 : PySem.W.typeIn K (.ref C11) = some (.type "type"))
    (ex18 : PySem.W.excIn K C18 [.type "ValueError", .type "Exception", .type "BaseException", .type "object"] "ValueError.__new__" = true)
    (ek18 : PySem.W.keepIn K (.ref C18) = true)
    (es18 : PySem.W.subIn K (.ref C18) (.type "BaseException") = some true)
    (et18 : PySem.W.typeIn K (.ref C18) = some (.type "type"))
    (ex17 : PySem.W.excIn K C17 [.type "ValueError", .type "Exception", .type "BaseException", .type "object"] "ValueError.__new__" = true)
    (ek17 : PySem.W.keepIn K (.ref C17) = true)
    (es17 : PySem.W.subIn K (.ref C17) (.type "BaseException") = some true)
    (et17 : PySem.W.typeIn K (.ref C17) = some (.type "type"))
    (ex14 : PySem.W.excIn K C14 [.type "ValueError", .type "Exception", .type "BaseException", .type "object"] "ValueError.__new__" = true)
    (ek14 : PySem.W.keepIn K (.ref C14) = true)
    (es14 : PySem.W.subIn K (.ref C14) (.type "BaseException") = some true)
    (et14 : PySem.W.typeIn K (.ref C14) = some (.type "type"))
    (ex19 : PySem.W.excIn K C19 [.type "ValueError", .type "Exception", .type "BaseException", .type "object"] "ValueError.__new__" = true)
    (ek19 : PySem.W.keepIn K (.ref C19) = true)
    (es19 : PySem.W.subIn K (.ref C19) (.type "BaseException") = some true)
    (et19 : PySem.W.typeIn K (.ref C19) = some (.type "type"))
    (ex13 : PySem.W.excIn K C13 [.type "ValueError", .type "Exception", .type "BaseException", .type "object"] "ValueError.__new__" = true)
    (ek13 : PySem.W.keepIn K (.ref C13) = true)
    (es13 : PySem.W.subIn K (.ref C13) (.type "BaseException") = some true)
    (et13 : PySem.W.typeIn K (.ref C13) = some (.type "type"))
    (ex15 : PySem.W.excIn K C15 [.type "ValueError", .type "Exception", .type "BaseException", .type "object"] "ValueError.__new__" = true)
    (ek15 : PySem.W.keepIn K (.ref C15) = true)
    (es15 : PySem.W.subIn K (.ref C15) (.type "BaseException") = some true)
    (et15 : PySem.W.typeIn K (.ref C15) = some (.type "type"))
    (ex20 : PySem.W.excIn K C20 [.type "ValueError", .type "Exception", .type "BaseException", .type "object"] "ValueError.__new__" = true)
    (ek20 : PySem.W.keepIn K (.ref C20) = true)
    (es20 : PySem.W.subIn K (.ref C20) (.type "BaseException") = some true)
    (et20 : PySem.W.typeIn K (.ref C20) = some (.type "type"))
    (ws10 : PySem.W.subIn K (.ref C10) (.type "BaseException") = some true)
    (wd10 : PySem.W.hasDictIn K C10 = true)
    (wt10 : PySem.W.typeIn K (.ref C10) = some (.type "type"))
    (xm11_WatchError : PySem.W.subIn K (.ref C11) (.ref C10) = some true)
    (xm12_WatchError : PySem.W.subIn K (.ref C12) (.ref C10) = some true)
    (xm13_WatchError : PySem.W.subIn K (.ref C13) (.ref C10) = some true)
    (xm14_WatchError : PySem.W.subIn K (.ref C14) (.ref C10) = some true)
    (xm15_WatchError : PySem.W.subIn K (.ref C15) (.ref C10) = some true)
    (xm16_WatchError : PySem.W.subIn K (.ref C16) (.ref C10) = some true)
    (xm17_WatchError : PySem.W.subIn K (.ref C17) (.ref C10) = some true)
    (xm18_WatchError : PySem.W.subIn K (.ref C18) (.ref C10) = some true)
    (xm19_WatchError : PySem.W.subIn K (.ref C19) (.ref C10) = some true)
    (xm20_WatchError : PySem.W.subIn K (.ref C20) (.ref C10) = some true)
    (xg11 : PySem.W.findIn K (.ref C11) "__getattribute__" = some (some (.builtin "BaseException.__getattribute__")))
    (xk11 : PySem.W.findIn K (.ref C11) "__getattr__" = some none)
    (xs11 : PySem.W.subIn K (.ref C11) (.type "BaseException") = some true)
    (xd11 : PySem.W.hasDictIn K C11 = true)
    (xa11 : PySem.W.findIn K (.ref C11) "__class__" = some (some (.builtin "object.__class__")))
    (xo11 : PySem.W.mroIn K C11 (.type "object") = some true)
    (xg12 : PySem.W.findIn K (.ref C12) "__getattribute__" = some (some (.builtin "BaseException.__getattribute__")))
    (xk12 : PySem.W.findIn K (.ref C12) "__getattr__" = some none)
    (xs12 : PySem.W.subIn K (.ref C12) (.type "BaseException") = some true)
    (xd12 : PySem.W.hasDictIn K C12 = true)
    (xa12 : PySem.W.findIn K (.ref C12) "__class__" = some (some (.builtin "object.__class__")))
    (xo12 : PySem.W.mroIn K C12 (.type "object") = some true)
    (xg13 : PySem.W.findIn K (.ref C13) "__getattribute__" = some (some (.builtin "BaseException.__getattribute__")))
    (xk13 : PySem.W.findIn K (.ref C13) "__getattr__" = some none)
    (xs13 : PySem.W.subIn K (.ref C13) (.type "BaseException") = some true)
    (xd13 : PySem.W.hasDictIn K C13 = true)
    (xa13 : PySem.W.findIn K (.ref C13) "__class__" = some (some (.builtin "object.__class__")))
    (xo13 : PySem.W.mroIn K C13 (.type "object") = some true)
    (xg14 : PySem.W.findIn K (.ref C14) "__getattribute__" = some (some (.builtin "BaseException.__getattribute__")))
    (xk14 : PySem.W.findIn K (.ref C14) "__getattr__" = some none)
    (xs14 : PySem.W.subIn K (.ref C14) (.type "BaseException") = some true)
    (xd14 : PySem.W.hasDictIn K C14 = true)
    (xa14 : PySem.W.findIn K (.ref C14) "__class__" = some (some (.builtin "object.__class__")))
    (xo14 : PySem.W.mroIn K C14 (.type "object") = some true)
    (xg15 : PySem.W.findIn K (.ref C15) "__getattribute__" = some (some (.builtin "BaseException.__getattribute__")))
    (xk15 : PySem.W.findIn K (.ref C15) "__getattr__" = some none)
    (xs15 : PySem.W.subIn K (.ref C15) (.type "BaseException") = some true)
    (xd15 : PySem.W.hasDictIn K C15 = true)
    (xa15 : PySem.W.findIn K (.ref C15) "__class__" = some (some (.builtin "object.__class__")))
    (xo15 : PySem.W.mroIn K C15 (.type "object") = some true)
    (xg16 : PySem.W.findIn K (.ref C16) "__getattribute__" = some (some (.builtin "BaseException.__getattribute__")))
    (xk16 : PySem.W.findIn K (.ref C16) "__getattr__" = some none)
    (xs16 : PySem.W.subIn K (.ref C16) (.type "BaseException") = some true)
    (xd16 : PySem.W.hasDictIn K C16 = true)
    (xa16 : PySem.W.findIn K (.ref C16) "__class__" = some (some (.builtin "object.__class__")))
    (xo16 : PySem.W.mroIn K C16 (.type "object") = some true)
    (xg17 : PySem.W.findIn K (.ref C17) "__getattribute__" = some (some (.builtin "BaseException.__getattribute__")))
    (xk17 : PySem.W.findIn K (.ref C17) "__getattr__" = some none)
    (xs17 : PySem.W.subIn K (.ref C17) (.type "BaseException") = some true)
    (xd17 : PySem.W.hasDictIn K C17 = true)
    (xa17 : PySem.W.findIn K (.ref C17) "__class__" = some (some (.builtin "object.__class__")))
    (xo17 : PySem.W.mroIn K C17 (.type "object") = some true)
    (xg18 : PySem.W.findIn K (.ref C18) "__getattribute__" = some (some (.builtin "BaseException.__getattribute__")))
    (xk18 : PySem.W.findIn K (.ref C18) "__getattr__" = some none)
    (xs18 : PySem.W.subIn K (.ref C18) (.type "BaseException") = some true)
    (xd18 : PySem.W.hasDictIn K C18 = true)
    (xa18 : PySem.W.findIn K (.ref C18) "__class__" = some (some (.builtin "object.__class__")))
    (xo18 : PySem.W.mroIn K C18 (.type "object") = some true)
    (xg19 : PySem.W.findIn K (.ref C19) "__getattribute__" = some (some (.builtin "BaseException.__getattribute__")))
    (xk19 : PySem.W.findIn K (.ref C19) "__getattr__" = some none)
    (xs19 : PySem.W.subIn K (.ref C19) (.type "BaseException") = some true)
    (xd19 : PySem.W.hasDictIn K C19 = true)
    (xa19 : PySem.W.findIn K (.ref C19) "__class__" = some (some (.builtin "object.__class__")))
    (xo19 : PySem.W.mroIn K C19 (.type "object") = some true)
    (xg20 : PySem.W.findIn K (.ref C20) "__getattribute__" = some (some (.builtin "BaseException.__getattribute__")))
    (xk20 : PySem.W.findIn K (.ref C20) "__getattr__" = some none)
    (xs20 : PySem.W.subIn K (.ref C20) (.type "BaseException") = some true)
    (xd20 : PySem.W.hasDictIn K C20 = true)
    (xa20 : PySem.W.findIn K (.ref C20) "__class__" = some (some (.builtin "object.__class__")))
    (xo20 : PySem.W.mroIn K C20 (.type "object") = some true)
    (xn : PySem.W.specialIn K (.builtin "object.__class__") "__get__" = some (some (.builtin "getset_descriptor.__get__")))
    (xt : PySem.W.takesIn K (.builtin "object.__class__") = some true)
    (iv_BadCommands_11 : PySem.W.kitOne K (.ref C11) (.ref C12) = some false)
    (iv_BadCommands_12 : PySem.W.kitOne K (.ref C12) (.ref C12) = some true)
    (iv_BadCommands_13 : PySem.W.kitOne K (.ref C13) (.ref C12) = some false)
    (iv_BadCommands_14 : PySem.W.kitOne K (.ref C14) (.ref C12) = some false)
    (iv_BadCommands_15 : PySem.W.kitOne K (.ref C15) (.ref C12) = some false)
    (iv_BadCommands_16 : PySem.W.kitOne K (.ref C16) (.ref C12) = some false)
    (iv_BadCommands_17 : PySem.W.kitOne K (.ref C17) (.ref C12) = some false)
    (iv_BadCommands_18 : PySem.W.kitOne K (.ref C18) (.ref C12) = some false)
    (iv_BadCommands_19 : PySem.W.kitOne K (.ref C19) (.ref C12) = some false)
    (iv_BadCommands_20 : PySem.W.kitOne K (.ref C20) (.ref C12) = some false)
    (iv_BadKind_11 : PySem.W.kitOne K (.ref C11) (.ref C16) = some false)
    (iv_BadKind_12 : PySem.W.kitOne K (.ref C12) (.ref C16) = some false)
    (iv_BadKind_13 : PySem.W.kitOne K (.ref C13) (.ref C16) = some false)
    (iv_BadKind_14 : PySem.W.kitOne K (.ref C14) (.ref C16) = some false)
    (iv_BadKind_15 : PySem.W.kitOne K (.ref C15) (.ref C16) = some false)
    (iv_BadKind_16 : PySem.W.kitOne K (.ref C16) (.ref C16) = some true)
    (iv_BadKind_17 : PySem.W.kitOne K (.ref C17) (.ref C16) = some false)
    (iv_BadKind_18 : PySem.W.kitOne K (.ref C18) (.ref C16) = some false)
    (iv_BadKind_19 : PySem.W.kitOne K (.ref C19) (.ref C16) = some false)
    (iv_BadKind_20 : PySem.W.kitOne K (.ref C20) (.ref C16) = some false)
    (iv_BadLength_11 : PySem.W.kitOne K (.ref C11) (.ref C11) = some true)
    (iv_BadLength_12 : PySem.W.kitOne K (.ref C12) (.ref C11) = some false)
    (iv_BadLength_13 : PySem.W.kitOne K (.ref C13) (.ref C11) = some false)
    (iv_BadLength_14 : PySem.W.kitOne K (.ref C14) (.ref C11) = some false)
    (iv_BadLength_15 : PySem.W.kitOne K (.ref C15) (.ref C11) = some false)
    (iv_BadLength_16 : PySem.W.kitOne K (.ref C16) (.ref C11) = some false)
    (iv_BadLength_17 : PySem.W.kitOne K (.ref C17) (.ref C11) = some false)
    (iv_BadLength_18 : PySem.W.kitOne K (.ref C18) (.ref C11) = some false)
    (iv_BadLength_19 : PySem.W.kitOne K (.ref C19) (.ref C11) = some false)
    (iv_BadLength_20 : PySem.W.kitOne K (.ref C20) (.ref C11) = some false)
    (iv_BadLetter_11 : PySem.W.kitOne K (.ref C11) (.ref C18) = some false)
    (iv_BadLetter_12 : PySem.W.kitOne K (.ref C12) (.ref C18) = some false)
    (iv_BadLetter_13 : PySem.W.kitOne K (.ref C13) (.ref C18) = some false)
    (iv_BadLetter_14 : PySem.W.kitOne K (.ref C14) (.ref C18) = some false)
    (iv_BadLetter_15 : PySem.W.kitOne K (.ref C15) (.ref C18) = some false)
    (iv_BadLetter_16 : PySem.W.kitOne K (.ref C16) (.ref C18) = some false)
    (iv_BadLetter_17 : PySem.W.kitOne K (.ref C17) (.ref C18) = some false)
    (iv_BadLetter_18 : PySem.W.kitOne K (.ref C18) (.ref C18) = some true)
    (iv_BadLetter_19 : PySem.W.kitOne K (.ref C19) (.ref C18) = some false)
    (iv_BadLetter_20 : PySem.W.kitOne K (.ref C20) (.ref C18) = some false)
    (iv_BadPlace_11 : PySem.W.kitOne K (.ref C11) (.ref C17) = some false)
    (iv_BadPlace_12 : PySem.W.kitOne K (.ref C12) (.ref C17) = some false)
    (iv_BadPlace_13 : PySem.W.kitOne K (.ref C13) (.ref C17) = some false)
    (iv_BadPlace_14 : PySem.W.kitOne K (.ref C14) (.ref C17) = some false)
    (iv_BadPlace_15 : PySem.W.kitOne K (.ref C15) (.ref C17) = some false)
    (iv_BadPlace_16 : PySem.W.kitOne K (.ref C16) (.ref C17) = some false)
    (iv_BadPlace_17 : PySem.W.kitOne K (.ref C17) (.ref C17) = some true)
    (iv_BadPlace_18 : PySem.W.kitOne K (.ref C18) (.ref C17) = some false)
    (iv_BadPlace_19 : PySem.W.kitOne K (.ref C19) (.ref C17) = some false)
    (iv_BadPlace_20 : PySem.W.kitOne K (.ref C20) (.ref C17) = some false)
    (iv_BadPlaces_11 : PySem.W.kitOne K (.ref C11) (.ref C14) = some false)
    (iv_BadPlaces_12 : PySem.W.kitOne K (.ref C12) (.ref C14) = some false)
    (iv_BadPlaces_13 : PySem.W.kitOne K (.ref C13) (.ref C14) = some false)
    (iv_BadPlaces_14 : PySem.W.kitOne K (.ref C14) (.ref C14) = some true)
    (iv_BadPlaces_15 : PySem.W.kitOne K (.ref C15) (.ref C14) = some false)
    (iv_BadPlaces_16 : PySem.W.kitOne K (.ref C16) (.ref C14) = some false)
    (iv_BadPlaces_17 : PySem.W.kitOne K (.ref C17) (.ref C14) = some false)
    (iv_BadPlaces_18 : PySem.W.kitOne K (.ref C18) (.ref C14) = some false)
    (iv_BadPlaces_19 : PySem.W.kitOne K (.ref C19) (.ref C14) = some false)
    (iv_BadPlaces_20 : PySem.W.kitOne K (.ref C20) (.ref C14) = some false)
    (iv_BadTale_11 : PySem.W.kitOne K (.ref C11) (.ref C19) = some false)
    (iv_BadTale_12 : PySem.W.kitOne K (.ref C12) (.ref C19) = some false)
    (iv_BadTale_13 : PySem.W.kitOne K (.ref C13) (.ref C19) = some false)
    (iv_BadTale_14 : PySem.W.kitOne K (.ref C14) (.ref C19) = some false)
    (iv_BadTale_15 : PySem.W.kitOne K (.ref C15) (.ref C19) = some false)
    (iv_BadTale_16 : PySem.W.kitOne K (.ref C16) (.ref C19) = some false)
    (iv_BadTale_17 : PySem.W.kitOne K (.ref C17) (.ref C19) = some false)
    (iv_BadTale_18 : PySem.W.kitOne K (.ref C18) (.ref C19) = some false)
    (iv_BadTale_19 : PySem.W.kitOne K (.ref C19) (.ref C19) = some true)
    (iv_BadTale_20 : PySem.W.kitOne K (.ref C20) (.ref C19) = some false)
    (iv_BadTick_11 : PySem.W.kitOne K (.ref C11) (.ref C13) = some false)
    (iv_BadTick_12 : PySem.W.kitOne K (.ref C12) (.ref C13) = some false)
    (iv_BadTick_13 : PySem.W.kitOne K (.ref C13) (.ref C13) = some true)
    (iv_BadTick_14 : PySem.W.kitOne K (.ref C14) (.ref C13) = some false)
    (iv_BadTick_15 : PySem.W.kitOne K (.ref C15) (.ref C13) = some false)
    (iv_BadTick_16 : PySem.W.kitOne K (.ref C16) (.ref C13) = some false)
    (iv_BadTick_17 : PySem.W.kitOne K (.ref C17) (.ref C13) = some false)
    (iv_BadTick_18 : PySem.W.kitOne K (.ref C18) (.ref C13) = some false)
    (iv_BadTick_19 : PySem.W.kitOne K (.ref C19) (.ref C13) = some false)
    (iv_BadTick_20 : PySem.W.kitOne K (.ref C20) (.ref C13) = some false)
    (iv_BadWatcher_11 : PySem.W.kitOne K (.ref C11) (.ref C15) = some false)
    (iv_BadWatcher_12 : PySem.W.kitOne K (.ref C12) (.ref C15) = some false)
    (iv_BadWatcher_13 : PySem.W.kitOne K (.ref C13) (.ref C15) = some false)
    (iv_BadWatcher_14 : PySem.W.kitOne K (.ref C14) (.ref C15) = some false)
    (iv_BadWatcher_15 : PySem.W.kitOne K (.ref C15) (.ref C15) = some true)
    (iv_BadWatcher_16 : PySem.W.kitOne K (.ref C16) (.ref C15) = some false)
    (iv_BadWatcher_17 : PySem.W.kitOne K (.ref C17) (.ref C15) = some false)
    (iv_BadWatcher_18 : PySem.W.kitOne K (.ref C18) (.ref C15) = some false)
    (iv_BadWatcher_19 : PySem.W.kitOne K (.ref C19) (.ref C15) = some false)
    (iv_BadWatcher_20 : PySem.W.kitOne K (.ref C20) (.ref C15) = some false)
    (iv_Busy_11 : PySem.W.kitOne K (.ref C11) (.ref C20) = some false)
    (iv_Busy_12 : PySem.W.kitOne K (.ref C12) (.ref C20) = some false)
    (iv_Busy_13 : PySem.W.kitOne K (.ref C13) (.ref C20) = some false)
    (iv_Busy_14 : PySem.W.kitOne K (.ref C14) (.ref C20) = some false)
    (iv_Busy_15 : PySem.W.kitOne K (.ref C15) (.ref C20) = some false)
    (iv_Busy_16 : PySem.W.kitOne K (.ref C16) (.ref C20) = some false)
    (iv_Busy_17 : PySem.W.kitOne K (.ref C17) (.ref C20) = some false)
    (iv_Busy_18 : PySem.W.kitOne K (.ref C18) (.ref C20) = some false)
    (iv_Busy_19 : PySem.W.kitOne K (.ref C19) (.ref C20) = some false)
    (iv_Busy_20 : PySem.W.kitOne K (.ref C20) (.ref C20) = some true)
    (iv_V_11 : PySem.W.kitOne K (.ref C11) (.type "ValueError") = some true)
    (iv_V_12 : PySem.W.kitOne K (.ref C12) (.type "ValueError") = some true)
    (iv_V_13 : PySem.W.kitOne K (.ref C13) (.type "ValueError") = some true)
    (iv_V_14 : PySem.W.kitOne K (.ref C14) (.type "ValueError") = some true)
    (iv_V_15 : PySem.W.kitOne K (.ref C15) (.type "ValueError") = some true)
    (iv_V_16 : PySem.W.kitOne K (.ref C16) (.type "ValueError") = some true)
    (iv_V_17 : PySem.W.kitOne K (.ref C17) (.type "ValueError") = some true)
    (iv_V_18 : PySem.W.kitOne K (.ref C18) (.type "ValueError") = some true)
    (iv_V_19 : PySem.W.kitOne K (.ref C19) (.type "ValueError") = some true)
    (iv_V_20 : PySem.W.kitOne K (.ref C20) (.type "ValueError") = some true)
    (n_is_whole_ : PySem.W.nsIn K mainGlobals "is_whole" = some (some (.ref a_is_whole)))
    {oc_is_whole : Value} {od_is_whole : Option Addr} {kV_is_whole : Value} {dc_is_whole : Value} {pm_is_whole : Value} {an_is_whole : Option Addr} {cd_is_whole : Value} {ct_is_whole : Value} {sl_is_whole : Array (Option Value)}
    (l_is_whole : K.lookup a_is_whole = some ⟨oc_is_whole, od_is_whole, .func (PySem.W.fnOf "is_whole" "is_whole" (defArgs s_is_whole) (defBody s_is_whole) (defScope s_is_whole) .none kV_is_whole dc_is_whole pm_is_whole an_is_whole cd_is_whole ct_is_whole), sl_is_whole⟩)
    (q_is_whole : PySem.W.codeIn K cd_is_whole "is_whole" = true)
    (k_is_whole : PySem.W.keepIn K (.ref a_is_whole) = true)
    (n_asked_length_ : PySem.W.nsIn K mainGlobals "asked_length" = some (some (.ref a_asked_length)))
    {oc_asked_length : Value} {od_asked_length : Option Addr} {kV_asked_length : Value} {dc_asked_length : Value} {pm_asked_length : Value} {an_asked_length : Option Addr} {cd_asked_length : Value} {ct_asked_length : Value} {sl_asked_length : Array (Option Value)}
    (l_asked_length : K.lookup a_asked_length = some ⟨oc_asked_length, od_asked_length, .func (PySem.W.fnOf "asked_length" "asked_length" (defArgs s_asked_length) (defBody s_asked_length) (defScope s_asked_length) .none kV_asked_length dc_asked_length pm_asked_length an_asked_length cd_asked_length ct_asked_length), sl_asked_length⟩)
    (q_asked_length : PySem.W.codeIn K cd_asked_length "asked_length" = true)
    (k_asked_length : PySem.W.keepIn K (.ref a_asked_length) = true)
    (n_is_command_ : PySem.W.nsIn K mainGlobals "is_command" = some (some (.ref a_is_command)))
    {oc_is_command : Value} {od_is_command : Option Addr} {kV_is_command : Value} {dc_is_command : Value} {pm_is_command : Value} {an_is_command : Option Addr} {cd_is_command : Value} {ct_is_command : Value} {sl_is_command : Array (Option Value)}
    (l_is_command : K.lookup a_is_command = some ⟨oc_is_command, od_is_command, .func (PySem.W.fnOf "is_command" "is_command" (defArgs s_is_command) (defBody s_is_command) (defScope s_is_command) .none kV_is_command dc_is_command pm_is_command an_is_command cd_is_command ct_is_command), sl_is_command⟩)
    (q_is_command : PySem.W.codeIn K cd_is_command "is_command" = true)
    (k_is_command : PySem.W.keepIn K (.ref a_is_command) = true)
    (n_asked_commands_ : PySem.W.nsIn K mainGlobals "asked_commands" = some (some (.ref a_asked_commands)))
    {oc_asked_commands : Value} {od_asked_commands : Option Addr} {kV_asked_commands : Value} {dc_asked_commands : Value} {pm_asked_commands : Value} {an_asked_commands : Option Addr} {cd_asked_commands : Value} {ct_asked_commands : Value} {sl_asked_commands : Array (Option Value)}
    (l_asked_commands : K.lookup a_asked_commands = some ⟨oc_asked_commands, od_asked_commands, .func (PySem.W.fnOf "asked_commands" "asked_commands" (defArgs s_asked_commands) (defBody s_asked_commands) (defScope s_asked_commands) .none kV_asked_commands dc_asked_commands pm_asked_commands an_asked_commands cd_asked_commands ct_asked_commands), sl_asked_commands⟩)
    (q_asked_commands : PySem.W.codeIn K cd_asked_commands "asked_commands" = true)
    (k_asked_commands : PySem.W.keepIn K (.ref a_asked_commands) = true)
    (n_asked_tick_ : PySem.W.nsIn K mainGlobals "asked_tick" = some (some (.ref a_asked_tick)))
    {oc_asked_tick : Value} {od_asked_tick : Option Addr} {kV_asked_tick : Value} {dc_asked_tick : Value} {pm_asked_tick : Value} {an_asked_tick : Option Addr} {cd_asked_tick : Value} {ct_asked_tick : Value} {sl_asked_tick : Array (Option Value)}
    (l_asked_tick : K.lookup a_asked_tick = some ⟨oc_asked_tick, od_asked_tick, .func (PySem.W.fnOf "asked_tick" "asked_tick" (defArgs s_asked_tick) (defBody s_asked_tick) (defScope s_asked_tick) .none kV_asked_tick dc_asked_tick pm_asked_tick an_asked_tick cd_asked_tick ct_asked_tick), sl_asked_tick⟩)
    (q_asked_tick : PySem.W.codeIn K cd_asked_tick "asked_tick" = true)
    (k_asked_tick : PySem.W.keepIn K (.ref a_asked_tick) = true)
    (n_stand_of_ : PySem.W.nsIn K mainGlobals "stand_of" = some (some (.ref a_stand_of)))
    {oc_stand_of : Value} {od_stand_of : Option Addr} {kV_stand_of : Value} {dc_stand_of : Value} {pm_stand_of : Value} {an_stand_of : Option Addr} {cd_stand_of : Value} {ct_stand_of : Value} {sl_stand_of : Array (Option Value)}
    (l_stand_of : K.lookup a_stand_of = some ⟨oc_stand_of, od_stand_of, .func (PySem.W.fnOf "stand_of" "stand_of" (defArgs s_stand_of) (defBody s_stand_of) (defScope s_stand_of) .none kV_stand_of dc_stand_of pm_stand_of an_stand_of cd_stand_of ct_stand_of), sl_stand_of⟩)
    (q_stand_of : PySem.W.codeIn K cd_stand_of "stand_of" = true)
    (k_stand_of : PySem.W.keepIn K (.ref a_stand_of) = true)
    (n_stand_ : PySem.W.nsIn K mainGlobals "stand" = some (some (.ref a_stand)))
    {oc_stand : Value} {od_stand : Option Addr} {kV_stand : Value} {dc_stand : Value} {pm_stand : Value} {an_stand : Option Addr} {cd_stand : Value} {ct_stand : Value} {sl_stand : Array (Option Value)}
    (l_stand : K.lookup a_stand = some ⟨oc_stand, od_stand, .func (PySem.W.fnOf "stand" "stand" (defArgs s_stand) (defBody s_stand) (defScope s_stand) .none kV_stand dc_stand pm_stand an_stand cd_stand ct_stand), sl_stand⟩)
    (q_stand : PySem.W.codeIn K cd_stand "stand" = true)
    (k_stand : PySem.W.keepIn K (.ref a_stand) = true)
    (n_unlike_ : PySem.W.nsIn K mainGlobals "unlike" = some (some (.ref a_unlike)))
    {oc_unlike : Value} {od_unlike : Option Addr} {kV_unlike : Value} {dc_unlike : Value} {pm_unlike : Value} {an_unlike : Option Addr} {cd_unlike : Value} {ct_unlike : Value} {sl_unlike : Array (Option Value)}
    (l_unlike : K.lookup a_unlike = some ⟨oc_unlike, od_unlike, .func (PySem.W.fnOf "unlike" "unlike" (defArgs s_unlike) (defBody s_unlike) (defScope s_unlike) .none kV_unlike dc_unlike pm_unlike an_unlike cd_unlike ct_unlike), sl_unlike⟩)
    (q_unlike : PySem.W.codeIn K cd_unlike "unlike" = true)
    (k_unlike : PySem.W.keepIn K (.ref a_unlike) = true)
    (n_asked_two_ : PySem.W.nsIn K mainGlobals "asked_two" = some (some (.ref a_asked_two)))
    {oc_asked_two : Value} {od_asked_two : Option Addr} {kV_asked_two : Value} {dc_asked_two : Value} {pm_asked_two : Value} {an_asked_two : Option Addr} {cd_asked_two : Value} {ct_asked_two : Value} {sl_asked_two : Array (Option Value)}
    (l_asked_two : K.lookup a_asked_two = some ⟨oc_asked_two, od_asked_two, .func (PySem.W.fnOf "asked_two" "asked_two" (defArgs s_asked_two) (defBody s_asked_two) (defScope s_asked_two) .none kV_asked_two dc_asked_two pm_asked_two an_asked_two cd_asked_two ct_asked_two), sl_asked_two⟩)
    (q_asked_two : PySem.W.codeIn K cd_asked_two "asked_two" = true)
    (k_asked_two : PySem.W.keepIn K (.ref a_asked_two) = true)
    (n_at_most_ : PySem.W.nsIn K mainGlobals "at_most" = some (some (.ref a_at_most)))
    {oc_at_most : Value} {od_at_most : Option Addr} {kV_at_most : Value} {dc_at_most : Value} {pm_at_most : Value} {an_at_most : Option Addr} {cd_at_most : Value} {ct_at_most : Value} {sl_at_most : Array (Option Value)}
    (l_at_most : K.lookup a_at_most = some ⟨oc_at_most, od_at_most, .func (PySem.W.fnOf "at_most" "at_most" (defArgs s_at_most) (defBody s_at_most) (defScope s_at_most) .none kV_at_most dc_at_most pm_at_most an_at_most cd_at_most ct_at_most), sl_at_most⟩)
    (q_at_most : PySem.W.codeIn K cd_at_most "at_most" = true)
    (k_at_most : PySem.W.keepIn K (.ref a_at_most) = true)
    (n_Together_shows_ : PySem.W.findIn K (.ref C0) "shows" = some (some (.ref a_Together_shows)))
    (i_Together_shows : PySem.W.isFn K (.ref a_Together_shows) = true)
    {oc_Together_shows : Value} {od_Together_shows : Option Addr} {kV_Together_shows : Value} {dc_Together_shows : Value} {pm_Together_shows : Value} {an_Together_shows : Option Addr} {cd_Together_shows : Value} {ct_Together_shows : Value} {sl_Together_shows : Array (Option Value)}
    (l_Together_shows : K.lookup a_Together_shows = some ⟨oc_Together_shows, od_Together_shows, .func (PySem.W.fnOf "shows" "Together.shows" (defArgs s_Together_shows) (defBody s_Together_shows) (defScope s_Together_shows) .none kV_Together_shows dc_Together_shows pm_Together_shows an_Together_shows cd_Together_shows ct_Together_shows), sl_Together_shows⟩)
    (q_Together_shows : PySem.W.codeIn K cd_Together_shows "Together.shows" = true)
    (k_Together_shows : PySem.W.keepIn K (.ref a_Together_shows) = true)
    (n_Apart_init_ : PySem.W.findIn K (.ref C1) "__init__" = some (some (.ref a_Apart_init)))
    (i_Apart_init : PySem.W.isFn K (.ref a_Apart_init) = true)
    {oc_Apart_init : Value} {od_Apart_init : Option Addr} {kV_Apart_init : Value} {dc_Apart_init : Value} {pm_Apart_init : Value} {an_Apart_init : Option Addr} {cd_Apart_init : Value} {ct_Apart_init : Value} {sl_Apart_init : Array (Option Value)}
    (l_Apart_init : K.lookup a_Apart_init = some ⟨oc_Apart_init, od_Apart_init, .func (PySem.W.fnOf "__init__" "Apart.__init__" (defArgs s_Apart_init) (defBody s_Apart_init) (defScope s_Apart_init) .none kV_Apart_init dc_Apart_init pm_Apart_init an_Apart_init cd_Apart_init ct_Apart_init), sl_Apart_init⟩)
    (q_Apart_init : PySem.W.codeIn K cd_Apart_init "Apart.__init__" = true)
    (k_Apart_init : PySem.W.keepIn K (.ref a_Apart_init) = true)
    (n_Apart_shows_ : PySem.W.findIn K (.ref C1) "shows" = some (some (.ref a_Apart_shows)))
    (i_Apart_shows : PySem.W.isFn K (.ref a_Apart_shows) = true)
    {oc_Apart_shows : Value} {od_Apart_shows : Option Addr} {kV_Apart_shows : Value} {dc_Apart_shows : Value} {pm_Apart_shows : Value} {an_Apart_shows : Option Addr} {cd_Apart_shows : Value} {ct_Apart_shows : Value} {sl_Apart_shows : Array (Option Value)}
    (l_Apart_shows : K.lookup a_Apart_shows = some ⟨oc_Apart_shows, od_Apart_shows, .func (PySem.W.fnOf "shows" "Apart.shows" (defArgs s_Apart_shows) (defBody s_Apart_shows) (defScope s_Apart_shows) .none kV_Apart_shows dc_Apart_shows pm_Apart_shows an_Apart_shows cd_Apart_shows ct_Apart_shows), sl_Apart_shows⟩)
    (q_Apart_shows : PySem.W.codeIn K cd_Apart_shows "Apart.shows" = true)
    (k_Apart_shows : PySem.W.keepIn K (.ref a_Apart_shows) = true)
    (n_Meet_init_ : PySem.W.findIn K (.ref C2) "__init__" = some (some (.ref a_Meet_init)))
    (i_Meet_init : PySem.W.isFn K (.ref a_Meet_init) = true)
    {oc_Meet_init : Value} {od_Meet_init : Option Addr} {kV_Meet_init : Value} {dc_Meet_init : Value} {pm_Meet_init : Value} {an_Meet_init : Option Addr} {cd_Meet_init : Value} {ct_Meet_init : Value} {sl_Meet_init : Array (Option Value)}
    (l_Meet_init : K.lookup a_Meet_init = some ⟨oc_Meet_init, od_Meet_init, .func (PySem.W.fnOf "__init__" "Meet.__init__" (defArgs s_Meet_init) (defBody s_Meet_init) (defScope s_Meet_init) .none kV_Meet_init dc_Meet_init pm_Meet_init an_Meet_init cd_Meet_init ct_Meet_init), sl_Meet_init⟩)
    (q_Meet_init : PySem.W.codeIn K cd_Meet_init "Meet.__init__" = true)
    (k_Meet_init : PySem.W.keepIn K (.ref a_Meet_init) = true)
    (n_Meet_shows_ : PySem.W.findIn K (.ref C2) "shows" = some (some (.ref a_Meet_shows)))
    (i_Meet_shows : PySem.W.isFn K (.ref a_Meet_shows) = true)
    {oc_Meet_shows : Value} {od_Meet_shows : Option Addr} {kV_Meet_shows : Value} {dc_Meet_shows : Value} {pm_Meet_shows : Value} {an_Meet_shows : Option Addr} {cd_Meet_shows : Value} {ct_Meet_shows : Value} {sl_Meet_shows : Array (Option Value)}
    (l_Meet_shows : K.lookup a_Meet_shows = some ⟨oc_Meet_shows, od_Meet_shows, .func (PySem.W.fnOf "shows" "Meet.shows" (defArgs s_Meet_shows) (defBody s_Meet_shows) (defScope s_Meet_shows) .none kV_Meet_shows dc_Meet_shows pm_Meet_shows an_Meet_shows cd_Meet_shows ct_Meet_shows), sl_Meet_shows⟩)
    (q_Meet_shows : PySem.W.codeIn K cd_Meet_shows "Meet.shows" = true)
    (k_Meet_shows : PySem.W.keepIn K (.ref a_Meet_shows) = true)
    (n_judged_ : PySem.W.nsIn K mainGlobals "judged" = some (some (.ref a_judged)))
    {oc_judged : Value} {od_judged : Option Addr} {kV_judged : Value} {dc_judged : Value} {pm_judged : Value} {an_judged : Option Addr} {cd_judged : Value} {ct_judged : Value} {sl_judged : Array (Option Value)}
    (l_judged : K.lookup a_judged = some ⟨oc_judged, od_judged, .func (PySem.W.fnOf "judged" "judged" (defArgs s_judged) (defBody s_judged) (defScope s_judged) .none kV_judged dc_judged pm_judged an_judged cd_judged ct_judged), sl_judged⟩)
    (q_judged : PySem.W.codeIn K cd_judged "judged" = true)
    (k_judged : PySem.W.keepIn K (.ref a_judged) = true)
    (n_asked_places_ : PySem.W.nsIn K mainGlobals "asked_places" = some (some (.ref a_asked_places)))
    {oc_asked_places : Value} {od_asked_places : Option Addr} {kV_asked_places : Value} {dc_asked_places : Value} {pm_asked_places : Value} {an_asked_places : Option Addr} {cd_asked_places : Value} {ct_asked_places : Value} {sl_asked_places : Array (Option Value)}
    (l_asked_places : K.lookup a_asked_places = some ⟨oc_asked_places, od_asked_places, .func (PySem.W.fnOf "asked_places" "asked_places" (defArgs s_asked_places) (defBody s_asked_places) (defScope s_asked_places) .none kV_asked_places dc_asked_places pm_asked_places an_asked_places cd_asked_places ct_asked_places), sl_asked_places⟩)
    (q_asked_places : PySem.W.codeIn K cd_asked_places "asked_places" = true)
    (k_asked_places : PySem.W.keepIn K (.ref a_asked_places) = true)
    (n_meet_ : PySem.W.nsIn K mainGlobals "meet" = some (some (.ref a_meet)))
    {oc_meet : Value} {od_meet : Option Addr} {kV_meet : Value} {dc_meet : Value} {pm_meet : Value} {an_meet : Option Addr} {cd_meet : Value} {ct_meet : Value} {sl_meet : Array (Option Value)}
    (l_meet : K.lookup a_meet = some ⟨oc_meet, od_meet, .func (PySem.W.fnOf "meet" "meet" (defArgs s_meet) (defBody s_meet) (defScope s_meet) .none kV_meet dc_meet pm_meet an_meet cd_meet ct_meet), sl_meet⟩)
    (q_meet : PySem.W.codeIn K cd_meet "meet" = true)
    (k_meet : PySem.W.keepIn K (.ref a_meet) = true)
    (n_least_jumps_ : PySem.W.nsIn K mainGlobals "least_jumps" = some (some (.ref a_least_jumps)))
    {oc_least_jumps : Value} {od_least_jumps : Option Addr} {kV_least_jumps : Value} {dc_least_jumps : Value} {pm_least_jumps : Value} {an_least_jumps : Option Addr} {cd_least_jumps : Value} {ct_least_jumps : Value} {sl_least_jumps : Array (Option Value)}
    (l_least_jumps : K.lookup a_least_jumps = some ⟨oc_least_jumps, od_least_jumps, .func (PySem.W.fnOf "least_jumps" "least_jumps" (defArgs s_least_jumps) (defBody s_least_jumps) (defScope s_least_jumps) .none kV_least_jumps dc_least_jumps pm_least_jumps an_least_jumps cd_least_jumps ct_least_jumps), sl_least_jumps⟩)
    (q_least_jumps : PySem.W.codeIn K cd_least_jumps "least_jumps" = true)
    (k_least_jumps : PySem.W.keepIn K (.ref a_least_jumps) = true)
    (n_Room_init_ : PySem.W.findIn K (.ref C5) "__init__" = some (some (.ref a_Room_init)))
    (i_Room_init : PySem.W.isFn K (.ref a_Room_init) = true)
    {oc_Room_init : Value} {od_Room_init : Option Addr} {kV_Room_init : Value} {dc_Room_init : Value} {pm_Room_init : Value} {an_Room_init : Option Addr} {cd_Room_init : Value} {ct_Room_init : Value} {sl_Room_init : Array (Option Value)}
    (l_Room_init : K.lookup a_Room_init = some ⟨oc_Room_init, od_Room_init, .func (PySem.W.fnOf "__init__" "Room.__init__" (defArgs s_Room_init) (defBody s_Room_init) (defScope s_Room_init) .none kV_Room_init dc_Room_init pm_Room_init an_Room_init cd_Room_init ct_Room_init), sl_Room_init⟩)
    (q_Room_init : PySem.W.codeIn K cd_Room_init "Room.__init__" = true)
    (k_Room_init : PySem.W.keepIn K (.ref a_Room_init) = true)
    (n_Room_asked_watcher_ : PySem.W.findIn K (.ref C5) "asked_watcher" = some (some (.ref a_Room_asked_watcher)))
    (i_Room_asked_watcher : PySem.W.isFn K (.ref a_Room_asked_watcher) = true)
    {oc_Room_asked_watcher : Value} {od_Room_asked_watcher : Option Addr} {kV_Room_asked_watcher : Value} {dc_Room_asked_watcher : Value} {pm_Room_asked_watcher : Value} {an_Room_asked_watcher : Option Addr} {cd_Room_asked_watcher : Value} {ct_Room_asked_watcher : Value} {sl_Room_asked_watcher : Array (Option Value)}
    (l_Room_asked_watcher : K.lookup a_Room_asked_watcher = some ⟨oc_Room_asked_watcher, od_Room_asked_watcher, .func (PySem.W.fnOf "asked_watcher" "Room.asked_watcher" (defArgs s_Room_asked_watcher) (defBody s_Room_asked_watcher) (defScope s_Room_asked_watcher) .none kV_Room_asked_watcher dc_Room_asked_watcher pm_Room_asked_watcher an_Room_asked_watcher cd_Room_asked_watcher ct_Room_asked_watcher), sl_Room_asked_watcher⟩)
    (q_Room_asked_watcher : PySem.W.codeIn K cd_Room_asked_watcher "Room.asked_watcher" = true)
    (k_Room_asked_watcher : PySem.W.keepIn K (.ref a_Room_asked_watcher) = true)
    (n_Room_order_ : PySem.W.findIn K (.ref C5) "order" = some (some (.ref a_Room_order)))
    (i_Room_order : PySem.W.isFn K (.ref a_Room_order) = true)
    {oc_Room_order : Value} {od_Room_order : Option Addr} {kV_Room_order : Value} {dc_Room_order : Value} {pm_Room_order : Value} {an_Room_order : Option Addr} {cd_Room_order : Value} {ct_Room_order : Value} {sl_Room_order : Array (Option Value)}
    (l_Room_order : K.lookup a_Room_order = some ⟨oc_Room_order, od_Room_order, .func (PySem.W.fnOf "order" "Room.order" (defArgs s_Room_order) (defBody s_Room_order) (defScope s_Room_order) .none kV_Room_order dc_Room_order pm_Room_order an_Room_order cd_Room_order ct_Room_order), sl_Room_order⟩)
    (q_Room_order : PySem.W.codeIn K cd_Room_order "Room.order" = true)
    (k_Room_order : PySem.W.keepIn K (.ref a_Room_order) = true)
    (n_Room_bring_ : PySem.W.findIn K (.ref C5) "bring" = some (some (.ref a_Room_bring)))
    (i_Room_bring : PySem.W.isFn K (.ref a_Room_bring) = true)
    {oc_Room_bring : Value} {od_Room_bring : Option Addr} {kV_Room_bring : Value} {dc_Room_bring : Value} {pm_Room_bring : Value} {an_Room_bring : Option Addr} {cd_Room_bring : Value} {ct_Room_bring : Value} {sl_Room_bring : Array (Option Value)}
    (l_Room_bring : K.lookup a_Room_bring = some ⟨oc_Room_bring, od_Room_bring, .func (PySem.W.fnOf "bring" "Room.bring" (defArgs s_Room_bring) (defBody s_Room_bring) (defScope s_Room_bring) .none kV_Room_bring dc_Room_bring pm_Room_bring an_Room_bring cd_Room_bring ct_Room_bring), sl_Room_bring⟩)
    (q_Room_bring : PySem.W.codeIn K cd_Room_bring "Room.bring" = true)
    (k_Room_bring : PySem.W.keepIn K (.ref a_Room_bring) = true)
    (n_Room_tick_ : PySem.W.findIn K (.ref C5) "tick" = some (some (.ref a_Room_tick)))
    (i_Room_tick : PySem.W.isFn K (.ref a_Room_tick) = true)
    {oc_Room_tick : Value} {od_Room_tick : Option Addr} {kV_Room_tick : Value} {dc_Room_tick : Value} {pm_Room_tick : Value} {an_Room_tick : Option Addr} {cd_Room_tick : Value} {ct_Room_tick : Value} {sl_Room_tick : Array (Option Value)}
    (l_Room_tick : K.lookup a_Room_tick = some ⟨oc_Room_tick, od_Room_tick, .func (PySem.W.fnOf "tick" "Room.tick" (defArgs s_Room_tick) (defBody s_Room_tick) (defScope s_Room_tick) .none kV_Room_tick dc_Room_tick pm_Room_tick an_Room_tick cd_Room_tick ct_Room_tick), sl_Room_tick⟩)
    (q_Room_tick : PySem.W.codeIn K cd_Room_tick "Room.tick" = true)
    (k_Room_tick : PySem.W.keepIn K (.ref a_Room_tick) = true)
    (n_Room_stands_ : PySem.W.findIn K (.ref C5) "stands" = some (some (.ref a_Room_stands)))
    (i_Room_stands : PySem.W.isFn K (.ref a_Room_stands) = true)
    {oc_Room_stands : Value} {od_Room_stands : Option Addr} {kV_Room_stands : Value} {dc_Room_stands : Value} {pm_Room_stands : Value} {an_Room_stands : Option Addr} {cd_Room_stands : Value} {ct_Room_stands : Value} {sl_Room_stands : Array (Option Value)}
    (l_Room_stands : K.lookup a_Room_stands = some ⟨oc_Room_stands, od_Room_stands, .func (PySem.W.fnOf "stands" "Room.stands" (defArgs s_Room_stands) (defBody s_Room_stands) (defScope s_Room_stands) .none kV_Room_stands dc_Room_stands pm_Room_stands an_Room_stands cd_Room_stands ct_Room_stands), sl_Room_stands⟩)
    (q_Room_stands : PySem.W.codeIn K cd_Room_stands "Room.stands" = true)
    (k_Room_stands : PySem.W.keepIn K (.ref a_Room_stands) = true)
    (n_Room_knows_ : PySem.W.findIn K (.ref C5) "knows" = some (some (.ref a_Room_knows)))
    (i_Room_knows : PySem.W.isFn K (.ref a_Room_knows) = true)
    {oc_Room_knows : Value} {od_Room_knows : Option Addr} {kV_Room_knows : Value} {dc_Room_knows : Value} {pm_Room_knows : Value} {an_Room_knows : Option Addr} {cd_Room_knows : Value} {ct_Room_knows : Value} {sl_Room_knows : Array (Option Value)}
    (l_Room_knows : K.lookup a_Room_knows = some ⟨oc_Room_knows, od_Room_knows, .func (PySem.W.fnOf "knows" "Room.knows" (defArgs s_Room_knows) (defBody s_Room_knows) (defScope s_Room_knows) .none kV_Room_knows dc_Room_knows pm_Room_knows an_Room_knows cd_Room_knows ct_Room_knows), sl_Room_knows⟩)
    (q_Room_knows : PySem.W.codeIn K cd_Room_knows "Room.knows" = true)
    (k_Room_knows : PySem.W.keepIn K (.ref a_Room_knows) = true)
    (n_Room_at_rest_ : PySem.W.findIn K (.ref C5) "at_rest" = some (some (.ref a_Room_at_rest)))
    (i_Room_at_rest : PySem.W.isFn K (.ref a_Room_at_rest) = true)
    {oc_Room_at_rest : Value} {od_Room_at_rest : Option Addr} {kV_Room_at_rest : Value} {dc_Room_at_rest : Value} {pm_Room_at_rest : Value} {an_Room_at_rest : Option Addr} {cd_Room_at_rest : Value} {ct_Room_at_rest : Value} {sl_Room_at_rest : Array (Option Value)}
    (l_Room_at_rest : K.lookup a_Room_at_rest = some ⟨oc_Room_at_rest, od_Room_at_rest, .func (PySem.W.fnOf "at_rest" "Room.at_rest" (defArgs s_Room_at_rest) (defBody s_Room_at_rest) (defScope s_Room_at_rest) .none kV_Room_at_rest dc_Room_at_rest pm_Room_at_rest an_Room_at_rest cd_Room_at_rest ct_Room_at_rest), sl_Room_at_rest⟩)
    (q_Room_at_rest : PySem.W.codeIn K cd_Room_at_rest "Room.at_rest" = true)
    (k_Room_at_rest : PySem.W.keepIn K (.ref a_Room_at_rest) = true)
    (n_Room_tale_ : PySem.W.findIn K (.ref C5) "tale" = some (some (.ref a_Room_tale)))
    (i_Room_tale : PySem.W.isFn K (.ref a_Room_tale) = true)
    {oc_Room_tale : Value} {od_Room_tale : Option Addr} {kV_Room_tale : Value} {dc_Room_tale : Value} {pm_Room_tale : Value} {an_Room_tale : Option Addr} {cd_Room_tale : Value} {ct_Room_tale : Value} {sl_Room_tale : Array (Option Value)}
    (l_Room_tale : K.lookup a_Room_tale = some ⟨oc_Room_tale, od_Room_tale, .func (PySem.W.fnOf "tale" "Room.tale" (defArgs s_Room_tale) (defBody s_Room_tale) (defScope s_Room_tale) .none kV_Room_tale dc_Room_tale pm_Room_tale an_Room_tale cd_Room_tale ct_Room_tale), sl_Room_tale⟩)
    (q_Room_tale : PySem.W.codeIn K cd_Room_tale "Room.tale" = true)
    (k_Room_tale : PySem.W.keepIn K (.ref a_Room_tale) = true)
    (n_is_line_ : PySem.W.nsIn K mainGlobals "is_line" = some (some (.ref a_is_line)))
    {oc_is_line : Value} {od_is_line : Option Addr} {kV_is_line : Value} {dc_is_line : Value} {pm_is_line : Value} {an_is_line : Option Addr} {cd_is_line : Value} {ct_is_line : Value} {sl_is_line : Array (Option Value)}
    (l_is_line : K.lookup a_is_line = some ⟨oc_is_line, od_is_line, .func (PySem.W.fnOf "is_line" "is_line" (defArgs s_is_line) (defBody s_is_line) (defScope s_is_line) .none kV_is_line dc_is_line pm_is_line an_is_line cd_is_line ct_is_line), sl_is_line⟩)
    (q_is_line : PySem.W.codeIn K cd_is_line "is_line" = true)
    (k_is_line : PySem.W.keepIn K (.ref a_is_line) = true)
    (n_can_come_ : PySem.W.nsIn K mainGlobals "can_come" = some (some (.ref a_can_come)))
    {oc_can_come : Value} {od_can_come : Option Addr} {kV_can_come : Value} {dc_can_come : Value} {pm_can_come : Value} {an_can_come : Option Addr} {cd_can_come : Value} {ct_can_come : Value} {sl_can_come : Array (Option Value)}
    (l_can_come : K.lookup a_can_come = some ⟨oc_can_come, od_can_come, .func (PySem.W.fnOf "can_come" "can_come" (defArgs s_can_come) (defBody s_can_come) (defScope s_can_come) .none kV_can_come dc_can_come pm_can_come an_can_come cd_can_come ct_can_come), sl_can_come⟩)
    (q_can_come : PySem.W.codeIn K cd_can_come "can_come" = true)
    (k_can_come : PySem.W.keepIn K (.ref a_can_come) = true)
    (n_first_wrong_ : PySem.W.nsIn K mainGlobals "first_wrong" = some (some (.ref a_first_wrong)))
    {oc_first_wrong : Value} {od_first_wrong : Option Addr} {kV_first_wrong : Value} {dc_first_wrong : Value} {pm_first_wrong : Value} {an_first_wrong : Option Addr} {cd_first_wrong : Value} {ct_first_wrong : Value} {sl_first_wrong : Array (Option Value)}
    (l_first_wrong : K.lookup a_first_wrong = some ⟨oc_first_wrong, od_first_wrong, .func (PySem.W.fnOf "first_wrong" "first_wrong" (defArgs s_first_wrong) (defBody s_first_wrong) (defScope s_first_wrong) .none kV_first_wrong dc_first_wrong pm_first_wrong an_first_wrong cd_first_wrong ct_first_wrong), sl_first_wrong⟩)
    (q_first_wrong : PySem.W.codeIn K cd_first_wrong "first_wrong" = true)
    (k_first_wrong : PySem.W.keepIn K (.ref a_first_wrong) = true)
    (n_Right_shows_ : PySem.W.findIn K (.ref C3) "shows" = some (some (.ref a_Right_shows)))
    (i_Right_shows : PySem.W.isFn K (.ref a_Right_shows) = true)
    {oc_Right_shows : Value} {od_Right_shows : Option Addr} {kV_Right_shows : Value} {dc_Right_shows : Value} {pm_Right_shows : Value} {an_Right_shows : Option Addr} {cd_Right_shows : Value} {ct_Right_shows : Value} {sl_Right_shows : Array (Option Value)}
    (l_Right_shows : K.lookup a_Right_shows = some ⟨oc_Right_shows, od_Right_shows, .func (PySem.W.fnOf "shows" "Right.shows" (defArgs s_Right_shows) (defBody s_Right_shows) (defScope s_Right_shows) .none kV_Right_shows dc_Right_shows pm_Right_shows an_Right_shows cd_Right_shows ct_Right_shows), sl_Right_shows⟩)
    (q_Right_shows : PySem.W.codeIn K cd_Right_shows "Right.shows" = true)
    (k_Right_shows : PySem.W.keepIn K (.ref a_Right_shows) = true)
    (n_Wrong_init_ : PySem.W.findIn K (.ref C4) "__init__" = some (some (.ref a_Wrong_init)))
    (i_Wrong_init : PySem.W.isFn K (.ref a_Wrong_init) = true)
    {oc_Wrong_init : Value} {od_Wrong_init : Option Addr} {kV_Wrong_init : Value} {dc_Wrong_init : Value} {pm_Wrong_init : Value} {an_Wrong_init : Option Addr} {cd_Wrong_init : Value} {ct_Wrong_init : Value} {sl_Wrong_init : Array (Option Value)}
    (l_Wrong_init : K.lookup a_Wrong_init = some ⟨oc_Wrong_init, od_Wrong_init, .func (PySem.W.fnOf "__init__" "Wrong.__init__" (defArgs s_Wrong_init) (defBody s_Wrong_init) (defScope s_Wrong_init) .none kV_Wrong_init dc_Wrong_init pm_Wrong_init an_Wrong_init cd_Wrong_init ct_Wrong_init), sl_Wrong_init⟩)
    (q_Wrong_init : PySem.W.codeIn K cd_Wrong_init "Wrong.__init__" = true)
    (k_Wrong_init : PySem.W.keepIn K (.ref a_Wrong_init) = true)
    (n_Wrong_shows_ : PySem.W.findIn K (.ref C4) "shows" = some (some (.ref a_Wrong_shows)))
    (i_Wrong_shows : PySem.W.isFn K (.ref a_Wrong_shows) = true)
    {oc_Wrong_shows : Value} {od_Wrong_shows : Option Addr} {kV_Wrong_shows : Value} {dc_Wrong_shows : Value} {pm_Wrong_shows : Value} {an_Wrong_shows : Option Addr} {cd_Wrong_shows : Value} {ct_Wrong_shows : Value} {sl_Wrong_shows : Array (Option Value)}
    (l_Wrong_shows : K.lookup a_Wrong_shows = some ⟨oc_Wrong_shows, od_Wrong_shows, .func (PySem.W.fnOf "shows" "Wrong.shows" (defArgs s_Wrong_shows) (defBody s_Wrong_shows) (defScope s_Wrong_shows) .none kV_Wrong_shows dc_Wrong_shows pm_Wrong_shows an_Wrong_shows cd_Wrong_shows ct_Wrong_shows), sl_Wrong_shows⟩)
    (q_Wrong_shows : PySem.W.codeIn K cd_Wrong_shows "Wrong.shows" = true)
    (k_Wrong_shows : PySem.W.keepIn K (.ref a_Wrong_shows) = true)
    (n_tale_judged_ : PySem.W.nsIn K mainGlobals "tale_judged" = some (some (.ref a_tale_judged)))
    {oc_tale_judged : Value} {od_tale_judged : Option Addr} {kV_tale_judged : Value} {dc_tale_judged : Value} {pm_tale_judged : Value} {an_tale_judged : Option Addr} {cd_tale_judged : Value} {ct_tale_judged : Value} {sl_tale_judged : Array (Option Value)}
    (l_tale_judged : K.lookup a_tale_judged = some ⟨oc_tale_judged, od_tale_judged, .func (PySem.W.fnOf "tale_judged" "tale_judged" (defArgs s_tale_judged) (defBody s_tale_judged) (defScope s_tale_judged) .none kV_tale_judged dc_tale_judged pm_tale_judged an_tale_judged cd_tale_judged ct_tale_judged), sl_tale_judged⟩)
    (q_tale_judged : PySem.W.codeIn K cd_tale_judged "tale_judged" = true)
    (k_tale_judged : PySem.W.keepIn K (.ref a_tale_judged) = true)
    (n_law_refused_ : PySem.W.nsIn K mainGlobals "_law_refused" = some (some (.ref a_law_refused)))
    {oc_law_refused : Value} {od_law_refused : Option Addr} {kV_law_refused : Value} {dc_law_refused : Value} {pm_law_refused : Value} {an_law_refused : Option Addr} {cd_law_refused : Value} {ct_law_refused : Value} {sl_law_refused : Array (Option Value)}
    (l_law_refused : K.lookup a_law_refused = some ⟨oc_law_refused, od_law_refused, .func (PySem.W.fnOf "_law_refused" "_law_refused" (defArgs s_law_refused) (defBody s_law_refused) (defScope s_law_refused) .none kV_law_refused dc_law_refused pm_law_refused an_law_refused cd_law_refused ct_law_refused), sl_law_refused⟩)
    (q_law_refused : PySem.W.codeIn K cd_law_refused "_law_refused" = true)
    (k_law_refused : PySem.W.keepIn K (.ref a_law_refused) = true)
    (n_law_number_ : PySem.W.nsIn K mainGlobals "_law_number" = some (some (.ref a_law_number)))
    {oc_law_number : Value} {od_law_number : Option Addr} {kV_law_number : Value} {dc_law_number : Value} {pm_law_number : Value} {an_law_number : Option Addr} {cd_law_number : Value} {ct_law_number : Value} {sl_law_number : Array (Option Value)}
    (l_law_number : K.lookup a_law_number = some ⟨oc_law_number, od_law_number, .func (PySem.W.fnOf "_law_number" "_law_number" (defArgs s_law_number) (defBody s_law_number) (defScope s_law_number) .none kV_law_number dc_law_number pm_law_number an_law_number cd_law_number ct_law_number), sl_law_number⟩)
    (q_law_number : PySem.W.codeIn K cd_law_number "_law_number" = true)
    (k_law_number : PySem.W.keepIn K (.ref a_law_number) = true)
    (n_law_commands_ : PySem.W.nsIn K mainGlobals "_law_commands" = some (some (.ref a_law_commands)))
    {oc_law_commands : Value} {od_law_commands : Option Addr} {kV_law_commands : Value} {dc_law_commands : Value} {pm_law_commands : Value} {an_law_commands : Option Addr} {cd_law_commands : Value} {ct_law_commands : Value} {sl_law_commands : Array (Option Value)}
    (l_law_commands : K.lookup a_law_commands = some ⟨oc_law_commands, od_law_commands, .func (PySem.W.fnOf "_law_commands" "_law_commands" (defArgs s_law_commands) (defBody s_law_commands) (defScope s_law_commands) .none kV_law_commands dc_law_commands pm_law_commands an_law_commands cd_law_commands ct_law_commands), sl_law_commands⟩)
    (q_law_commands : PySem.W.codeIn K cd_law_commands "_law_commands" = true)
    (k_law_commands : PySem.W.keepIn K (.ref a_law_commands) = true)
    (n_law_length_ : PySem.W.nsIn K mainGlobals "_law_length" = some (some (.ref a_law_length)))
    {oc_law_length : Value} {od_law_length : Option Addr} {kV_law_length : Value} {dc_law_length : Value} {pm_law_length : Value} {an_law_length : Option Addr} {cd_law_length : Value} {ct_law_length : Value} {sl_law_length : Array (Option Value)}
    (l_law_length : K.lookup a_law_length = some ⟨oc_law_length, od_law_length, .func (PySem.W.fnOf "_law_length" "_law_length" (defArgs s_law_length) (defBody s_law_length) (defScope s_law_length) .none kV_law_length dc_law_length pm_law_length an_law_length cd_law_length ct_law_length), sl_law_length⟩)
    (q_law_length : PySem.W.codeIn K cd_law_length "_law_length" = true)
    (k_law_length : PySem.W.keepIn K (.ref a_law_length) = true)
    (n_law_places_ : PySem.W.nsIn K mainGlobals "_law_places" = some (some (.ref a_law_places)))
    {oc_law_places : Value} {od_law_places : Option Addr} {kV_law_places : Value} {dc_law_places : Value} {pm_law_places : Value} {an_law_places : Option Addr} {cd_law_places : Value} {ct_law_places : Value} {sl_law_places : Array (Option Value)}
    (l_law_places : K.lookup a_law_places = some ⟨oc_law_places, od_law_places, .func (PySem.W.fnOf "_law_places" "_law_places" (defArgs s_law_places) (defBody s_law_places) (defScope s_law_places) .none kV_law_places dc_law_places pm_law_places an_law_places cd_law_places ct_law_places), sl_law_places⟩)
    (q_law_places : PySem.W.codeIn K cd_law_places "_law_places" = true)
    (k_law_places : PySem.W.keepIn K (.ref a_law_places) = true)
    (n_law_plain_ : PySem.W.nsIn K mainGlobals "_law_plain" = some (some (.ref a_law_plain)))
    {oc_law_plain : Value} {od_law_plain : Option Addr} {kV_law_plain : Value} {dc_law_plain : Value} {pm_law_plain : Value} {an_law_plain : Option Addr} {cd_law_plain : Value} {ct_law_plain : Value} {sl_law_plain : Array (Option Value)}
    (l_law_plain : K.lookup a_law_plain = some ⟨oc_law_plain, od_law_plain, .func (PySem.W.fnOf "_law_plain" "_law_plain" (defArgs s_law_plain) (defBody s_law_plain) (defScope s_law_plain) .none kV_law_plain dc_law_plain pm_law_plain an_law_plain cd_law_plain ct_law_plain), sl_law_plain⟩)
    (q_law_plain : PySem.W.codeIn K cd_law_plain "_law_plain" = true)
    (k_law_plain : PySem.W.keepIn K (.ref a_law_plain) = true)
    (n_law_truths_ : PySem.W.nsIn K mainGlobals "_law_truths" = some (some (.ref a_law_truths)))
    {oc_law_truths : Value} {od_law_truths : Option Addr} {kV_law_truths : Value} {dc_law_truths : Value} {pm_law_truths : Value} {an_law_truths : Option Addr} {cd_law_truths : Value} {ct_law_truths : Value} {sl_law_truths : Array (Option Value)}
    (l_law_truths : K.lookup a_law_truths = some ⟨oc_law_truths, od_law_truths, .func (PySem.W.fnOf "_law_truths" "_law_truths" (defArgs s_law_truths) (defBody s_law_truths) (defScope s_law_truths) .none kV_law_truths dc_law_truths pm_law_truths an_law_truths cd_law_truths ct_law_truths), sl_law_truths⟩)
    (q_law_truths : PySem.W.codeIn K cd_law_truths "_law_truths" = true)
    (k_law_truths : PySem.W.keepIn K (.ref a_law_truths) = true)
    (n_law_told_right_ : PySem.W.nsIn K mainGlobals "_law_told_right" = some (some (.ref a_law_told_right)))
    {oc_law_told_right : Value} {od_law_told_right : Option Addr} {kV_law_told_right : Value} {dc_law_told_right : Value} {pm_law_told_right : Value} {an_law_told_right : Option Addr} {cd_law_told_right : Value} {ct_law_told_right : Value} {sl_law_told_right : Array (Option Value)}
    (l_law_told_right : K.lookup a_law_told_right = some ⟨oc_law_told_right, od_law_told_right, .func (PySem.W.fnOf "_law_told_right" "_law_told_right" (defArgs s_law_told_right) (defBody s_law_told_right) (defScope s_law_told_right) .none kV_law_told_right dc_law_told_right pm_law_told_right an_law_told_right cd_law_told_right ct_law_told_right), sl_law_told_right⟩)
    (q_law_told_right : PySem.W.codeIn K cd_law_told_right "_law_told_right" = true)
    (k_law_told_right : PySem.W.keepIn K (.ref a_law_told_right) = true)
    (n_law_room_right_ : PySem.W.nsIn K mainGlobals "_law_room_right" = some (some (.ref a_law_room_right)))
    {oc_law_room_right : Value} {od_law_room_right : Option Addr} {kV_law_room_right : Value} {dc_law_room_right : Value} {pm_law_room_right : Value} {an_law_room_right : Option Addr} {cd_law_room_right : Value} {ct_law_room_right : Value} {sl_law_room_right : Array (Option Value)}
    (l_law_room_right : K.lookup a_law_room_right = some ⟨oc_law_room_right, od_law_room_right, .func (PySem.W.fnOf "_law_room_right" "_law_room_right" (defArgs s_law_room_right) (defBody s_law_room_right) (defScope s_law_room_right) .none kV_law_room_right dc_law_room_right pm_law_room_right an_law_room_right cd_law_room_right ct_law_room_right), sl_law_room_right⟩)
    (q_law_room_right : PySem.W.codeIn K cd_law_room_right "_law_room_right" = true)
    (k_law_room_right : PySem.W.keepIn K (.ref a_law_room_right) = true)
    (n_law_line_ends_right_ : PySem.W.nsIn K mainGlobals "_law_line_ends_right" = some (some (.ref a_law_line_ends_right)))
    {oc_law_line_ends_right : Value} {od_law_line_ends_right : Option Addr} {kV_law_line_ends_right : Value} {dc_law_line_ends_right : Value} {pm_law_line_ends_right : Value} {an_law_line_ends_right : Option Addr} {ct_law_line_ends_right : Value} {sl_law_line_ends_right : Array (Option Value)} {cA_law_line_ends_right tP_law_line_ends_right : Addr} {le_law_line_ends_right : Value} {lo_law_line_ends_right : Option Addr} {lv_law_line_ends_right : Array Value} {ls_law_line_ends_right : Array (Option Value)}
    (l_law_line_ends_right : K.lookup a_law_line_ends_right = some ⟨oc_law_line_ends_right, od_law_line_ends_right, .func (PySem.W.fnOf "_law_line_ends_right" "_law_line_ends_right" (defArgs s_law_line_ends_right) (defBody s_law_line_ends_right) (defScope s_law_line_ends_right) .none kV_law_line_ends_right dc_law_line_ends_right pm_law_line_ends_right an_law_line_ends_right (.ref cA_law_line_ends_right) ct_law_line_ends_right), sl_law_line_ends_right⟩)
    (lc_law_line_ends_right : K.lookup cA_law_line_ends_right = some ⟨le_law_line_ends_right, lo_law_line_ends_right, .fields lv_law_line_ends_right, ls_law_line_ends_right⟩)
    (lp_law_line_ends_right : lv_law_line_ends_right[11]? = some (.ref tP_law_line_ends_right))
    (hc_law_line_ends_right : PySem.W.codeHdIn K cA_law_line_ends_right tP_law_line_ends_right = true)
    (np_law_line_ends_right : K.lookup tP_law_line_ends_right = none)
    (rc_law_line_ends_right : ((recsOf qp).any fun e => e.name == "_law_line_ends_right") = true)
    (q_law_line_ends_right : PySem.W.codeIn K (.ref cA_law_line_ends_right) "_law_line_ends_right" = true)
    (k_law_line_ends_right : PySem.W.keepIn K (.ref a_law_line_ends_right) = true)
    (n_law_moves_right_ : PySem.W.nsIn K mainGlobals "_law_moves_right" = some (some (.ref a_law_moves_right)))
    {oc_law_moves_right : Value} {od_law_moves_right : Option Addr} {kV_law_moves_right : Value} {dc_law_moves_right : Value} {pm_law_moves_right : Value} {an_law_moves_right : Option Addr} {cd_law_moves_right : Value} {ct_law_moves_right : Value} {sl_law_moves_right : Array (Option Value)}
    (l_law_moves_right : K.lookup a_law_moves_right = some ⟨oc_law_moves_right, od_law_moves_right, .func (PySem.W.fnOf "_law_moves_right" "_law_moves_right" (defArgs s_law_moves_right) (defBody s_law_moves_right) (defScope s_law_moves_right) .none kV_law_moves_right dc_law_moves_right pm_law_moves_right an_law_moves_right cd_law_moves_right ct_law_moves_right), sl_law_moves_right⟩)
    (q_law_moves_right : PySem.W.codeIn K cd_law_moves_right "_law_moves_right" = true)
    (k_law_moves_right : PySem.W.keepIn K (.ref a_law_moves_right) = true)
    (n_law_ : PySem.W.nsIn K mainGlobals "law" = some (some (.ref a_law)))
    {oc_law : Value} {od_law : Option Addr} {kV_law : Value} {dc_law : Value} {pm_law : Value} {an_law : Option Addr} {cd_law : Value} {ct_law : Value} {sl_law : Array (Option Value)}
    (l_law : K.lookup a_law = some ⟨oc_law, od_law, .func (PySem.W.fnOf "law" "law" (defArgs s_law) (defBody s_law) (defScope s_law) .none kV_law dc_law pm_law an_law cd_law ct_law), sl_law⟩)
    (q_law : PySem.W.codeIn K cd_law "law" = true)
    (k_law : PySem.W.keepIn K (.ref a_law) = true) :
    LawT P w K mg h 10 fa "_law_script" := by
  have e := hfa.symm.trans (PySem.W.mg_of X Gn n_law_)
  cases e
  have F_is_whole := fun_mk (st := s_is_whole) l_is_whole q_is_whole k_is_whole
  have v_is_whole := F_is_whole.binds (ps := ["thing"]) fun _ _ _ _ _ _ us hl => match us, hl with | [_], _ => rfl
  have F_asked_length := fun_mk (st := s_asked_length) l_asked_length q_asked_length k_asked_length
  have v_asked_length := F_asked_length.binds (ps := ["length"]) fun _ _ _ _ _ _ us hl => match us, hl with | [_], _ => rfl
  have F_is_command := fun_mk (st := s_is_command) l_is_command q_is_command k_is_command
  have v_is_command := F_is_command.binds (ps := ["length", "thing"]) fun _ _ _ _ _ _ us hl => match us, hl with | [_, _], _ => rfl
  have F_asked_commands := fun_mk (st := s_asked_commands) l_asked_commands q_asked_commands k_asked_commands
  have v_asked_commands := F_asked_commands.binds (ps := ["length", "commands"]) fun _ _ _ _ _ _ us hl => match us, hl with | [_, _], _ => rfl
  have F_asked_tick := fun_mk (st := s_asked_tick) l_asked_tick q_asked_tick k_asked_tick
  have v_asked_tick := F_asked_tick.binds (ps := ["tick"]) fun _ _ _ _ _ _ us hl => match us, hl with | [_], _ => rfl
  have F_stand_of := fun_mk (st := s_stand_of) l_stand_of q_stand_of k_stand_of
  have v_stand_of := F_stand_of.binds (ps := ["length", "commands", "tick"]) fun _ _ _ _ _ _ us hl => match us, hl with | [_, _, _], _ => rfl
  have F_stand := fun_mk (st := s_stand) l_stand q_stand k_stand
  have v_stand := F_stand.binds (ps := ["length", "commands", "tick"]) fun _ _ _ _ _ _ us hl => match us, hl with | [_, _, _], _ => rfl
  have F_unlike := fun_mk (st := s_unlike) l_unlike q_unlike k_unlike
  have v_unlike := F_unlike.binds (ps := ["one", "other", "tick"]) fun _ _ _ _ _ _ us hl => match us, hl with | [_, _, _], _ => rfl
  have F_asked_two := fun_mk (st := s_asked_two) l_asked_two q_asked_two k_asked_two
  have v_asked_two := F_asked_two.binds (ps := ["length", "one", "other", "tick"]) fun _ _ _ _ _ _ us hl => match us, hl with | [_, _, _, _], _ => rfl
  have F_at_most := fun_mk (st := s_at_most) l_at_most q_at_most k_at_most
  have v_at_most := F_at_most.binds (ps := ["length", "one", "other", "tick"]) fun _ _ _ _ _ _ us hl => match us, hl with | [_, _, _, _], _ => rfl
  have F_Together_shows := fun_mk (st := s_Together_shows) l_Together_shows q_Together_shows k_Together_shows
  have v_Together_shows := F_Together_shows.binds (ps := ["self", "length", "one", "other", "tick"]) fun _ _ _ _ _ _ us hl => match us, hl with | [_, _, _, _, _], _ => rfl
  have F_Apart_init := fun_mk (st := s_Apart_init) l_Apart_init q_Apart_init k_Apart_init
  have v_Apart_init := F_Apart_init.binds (ps := ["self", "command"]) fun _ _ _ _ _ _ us hl => match us, hl with | [_, _], _ => rfl
  have F_Apart_shows := fun_mk (st := s_Apart_shows) l_Apart_shows q_Apart_shows k_Apart_shows
  have v_Apart_shows := F_Apart_shows.binds (ps := ["self", "length", "one", "other", "tick"]) fun _ _ _ _ _ _ us hl => match us, hl with | [_, _, _, _, _], _ => rfl
  have F_Meet_init := fun_mk (st := s_Meet_init) l_Meet_init q_Meet_init k_Meet_init
  have v_Meet_init := F_Meet_init.binds (ps := ["self", "place", "pairs"]) fun _ _ _ _ _ _ us hl => match us, hl with | [_, _, _], _ => rfl
  have F_Meet_shows := fun_mk (st := s_Meet_shows) l_Meet_shows q_Meet_shows k_Meet_shows
  have v_Meet_shows := F_Meet_shows.binds (ps := ["self", "places"]) fun _ _ _ _ _ _ us hl => match us, hl with | [_, _], _ => rfl
  have F_judged := fun_mk (st := s_judged) l_judged q_judged k_judged
  have v_judged := F_judged.binds (ps := ["length", "one", "other", "tick"]) fun _ _ _ _ _ _ us hl => match us, hl with | [_, _, _, _], _ => rfl
  have F_asked_places := fun_mk (st := s_asked_places) l_asked_places q_asked_places k_asked_places
  have v_asked_places := F_asked_places.binds (ps := ["places"]) fun _ _ _ _ _ _ us hl => match us, hl with | [_], _ => rfl
  have F_meet := fun_mk (st := s_meet) l_meet q_meet k_meet
  have v_meet := F_meet.binds (ps := ["places"]) fun _ _ _ _ _ _ us hl => match us, hl with | [_], _ => rfl
  have F_least_jumps := fun_mk (st := s_least_jumps) l_least_jumps q_least_jumps k_least_jumps
  have v_least_jumps := F_least_jumps.binds (ps := ["places"]) fun _ _ _ _ _ _ us hl => match us, hl with | [_], _ => rfl
  have F_Room_init := fun_mk (st := s_Room_init) l_Room_init q_Room_init k_Room_init
  have v_Room_init := F_Room_init.binds (ps := ["self", "length", "watchers"]) fun _ _ _ _ _ _ us hl => match us, hl with | [_, _, _], _ => rfl
  have F_Room_asked_watcher := fun_mk (st := s_Room_asked_watcher) l_Room_asked_watcher q_Room_asked_watcher k_Room_asked_watcher
  have v_Room_asked_watcher := F_Room_asked_watcher.binds (ps := ["self", "watcher"]) fun _ _ _ _ _ _ us hl => match us, hl with | [_, _], _ => rfl
  have F_Room_order := fun_mk (st := s_Room_order) l_Room_order q_Room_order k_Room_order
  have v_Room_order := F_Room_order.binds (ps := ["self", "watcher", "kind", "place"]) fun _ _ _ _ _ _ us hl => match us, hl with | [_, _, _, _], _ => rfl
  have F_Room_bring := fun_mk (st := s_Room_bring) l_Room_bring q_Room_bring k_Room_bring
  have v_Room_bring := F_Room_bring.binds (ps := ["self", "letter", "watcher"]) fun _ _ _ _ _ _ us hl => match us, hl with | [_, _, _], _ => rfl
  have F_Room_tick := fun_mk (st := s_Room_tick) l_Room_tick q_Room_tick k_Room_tick
  have v_Room_tick := F_Room_tick.binds (ps := ["self", "many"]) fun _ _ _ _ _ _ us hl => match us, hl with | [_, _], _ => rfl
  have F_Room_stands := fun_mk (st := s_Room_stands) l_Room_stands q_Room_stands k_Room_stands
  have v_Room_stands := F_Room_stands.binds (ps := ["self", "watcher"]) fun _ _ _ _ _ _ us hl => match us, hl with | [_, _], _ => rfl
  have F_Room_knows := fun_mk (st := s_Room_knows) l_Room_knows q_Room_knows k_Room_knows
  have v_Room_knows := F_Room_knows.binds (ps := ["self", "watcher"]) fun _ _ _ _ _ _ us hl => match us, hl with | [_, _], _ => rfl
  have F_Room_at_rest := fun_mk (st := s_Room_at_rest) l_Room_at_rest q_Room_at_rest k_Room_at_rest
  have v_Room_at_rest := F_Room_at_rest.binds (ps := ["self"]) fun _ _ _ _ _ _ us hl => match us, hl with | [_], _ => rfl
  have F_Room_tale := fun_mk (st := s_Room_tale) l_Room_tale q_Room_tale k_Room_tale
  have v_Room_tale := F_Room_tale.binds (ps := ["self"]) fun _ _ _ _ _ _ us hl => match us, hl with | [_], _ => rfl
  have F_is_line := fun_mk (st := s_is_line) l_is_line q_is_line k_is_line
  have v_is_line := F_is_line.binds (ps := ["thing"]) fun _ _ _ _ _ _ us hl => match us, hl with | [_], _ => rfl
  have F_can_come := fun_mk (st := s_can_come) l_can_come q_can_come k_can_come
  have v_can_come := F_can_come.binds (ps := ["room", "line"]) fun _ _ _ _ _ _ us hl => match us, hl with | [_, _], _ => rfl
  have F_first_wrong := fun_mk (st := s_first_wrong) l_first_wrong q_first_wrong k_first_wrong
  have v_first_wrong := F_first_wrong.binds (ps := ["length", "watchers", "tale"]) fun _ _ _ _ _ _ us hl => match us, hl with | [_, _, _], _ => rfl
  have F_Right_shows := fun_mk (st := s_Right_shows) l_Right_shows q_Right_shows k_Right_shows
  have v_Right_shows := F_Right_shows.binds (ps := ["self", "length", "watchers", "tale"]) fun _ _ _ _ _ _ us hl => match us, hl with | [_, _, _, _], _ => rfl
  have F_Wrong_init := fun_mk (st := s_Wrong_init) l_Wrong_init q_Wrong_init k_Wrong_init
  have v_Wrong_init := F_Wrong_init.binds (ps := ["self", "line"]) fun _ _ _ _ _ _ us hl => match us, hl with | [_, _], _ => rfl
  have F_Wrong_shows := fun_mk (st := s_Wrong_shows) l_Wrong_shows q_Wrong_shows k_Wrong_shows
  have v_Wrong_shows := F_Wrong_shows.binds (ps := ["self", "length", "watchers", "tale"]) fun _ _ _ _ _ _ us hl => match us, hl with | [_, _, _, _], _ => rfl
  have F_tale_judged := fun_mk (st := s_tale_judged) l_tale_judged q_tale_judged k_tale_judged
  have v_tale_judged := F_tale_judged.binds (ps := ["length", "watchers", "tale"]) fun _ _ _ _ _ _ us hl => match us, hl with | [_, _, _], _ => rfl
  have F_law_refused := fun_mk (st := s_law_refused) l_law_refused q_law_refused k_law_refused
  have v_law_refused := F_law_refused.binds (ps := ["_law_ask", "_law_thing", "_law_due"]) fun _ _ _ _ _ _ us hl => match us, hl with | [_, _, _], _ => rfl
  have F_law_number := fun_mk (st := s_law_number) l_law_number q_law_number k_law_number
  have v_law_number := F_law_number.binds (ps := ["_law_cell", "_law_at", "_law_whole"]) fun _ _ _ _ _ _ us hl => match us, hl with | [_, _, _], _ => rfl
  have F_law_commands := fun_mk (st := s_law_commands) l_law_commands q_law_commands k_law_commands
  have v_law_commands := F_law_commands.binds (ps := ["_law_script", "_law_by", "_law_most", "_law_length_here", "_law_moves"]) fun _ _ _ _ _ _ us hl => match us, hl with | [_, _, _, _, _], _ => rfl
  have F_law_length := fun_mk (st := s_law_length) l_law_length q_law_length k_law_length
  have v_law_length := F_law_length.binds (ps := ["_law_whole"]) fun _ _ _ _ _ _ us hl => match us, hl with | [_], _ => rfl
  have F_law_places := fun_mk (st := s_law_places) l_law_places q_law_places k_law_places
  have v_law_places := F_law_places.binds (ps := ["_law_script", "_law_by", "_law_most"]) fun _ _ _ _ _ _ us hl => match us, hl with | [_, _, _], _ => rfl
  have F_law_plain := fun_mk (st := s_law_plain) l_law_plain q_law_plain k_law_plain
  have v_law_plain := F_law_plain.binds (ps := ["_law_thing"]) fun _ _ _ _ _ _ us hl => match us, hl with | [_], _ => rfl
  have F_law_truths := fun_mk (st := s_law_truths) l_law_truths q_law_truths k_law_truths
  have v_law_truths := F_law_truths.binds (ps := ["_law_things"]) fun _ _ _ _ _ _ us hl => match us, hl with | [_], _ => rfl
  have F_law_told_right := fun_mk (st := s_law_told_right) l_law_told_right q_law_told_right k_law_told_right
  have v_law_told_right := F_law_told_right.binds (ps := ["_law_length_here", "_law_one", "_law_other", "_law_tick", "_law_places_here"]) fun _ _ _ _ _ _ us hl => match us, hl with | [_, _, _, _, _], _ => rfl
  have F_law_room_right := fun_mk (st := s_law_room_right) l_law_room_right q_law_room_right k_law_room_right
  have v_law_room_right := F_law_room_right.binds (ps := ["_law_whole"]) fun _ _ _ _ _ _ us hl => match us, hl with | [_], _ => rfl
  have F_law_line_ends_right := fun_mk (st := s_law_line_ends_right) l_law_line_ends_right q_law_line_ends_right k_law_line_ends_right
  have v_law_line_ends_right := F_law_line_ends_right.binds (ps := []) fun _ _ _ _ _ _ us hl => match us, hl with | [], _ => rfl
  have F_law_moves_right := fun_mk (st := s_law_moves_right) l_law_moves_right q_law_moves_right k_law_moves_right
  have v_law_moves_right := F_law_moves_right.binds (ps := ["_law_whole"]) fun _ _ _ _ _ _ us hl => match us, hl with | [_], _ => rfl
  have F_law := fun_mk (st := s_law) l_law q_law k_law
  refine law_packT F_law (cs := [(cA_law_line_ends_right, tP_law_line_ends_right)]) (T := [(tP_law_line_ends_right, "_law_line_ends_right.<locals>.<lambda>")]) (fun p hp => by
    simp only [List.mem_cons, List.not_mem_nil, or_false] at hp
    rcases hp with rfl
    · exact ⟨cA_law_line_ends_right, by simp⟩) (fun p hp => by
    simp only [List.mem_cons, List.not_mem_nil, or_false] at hp
    rcases hp with rfl
    · exact tabs _ _ rc_law_line_ends_right (PySem.W.mg_of X Gn n_law_line_ends_right_) _ _ _ _ _ _ _ _ l_law_line_ends_right rfl rfl lc_law_line_ends_right lp_law_line_ends_right) (fun p hp => by
    simp only [List.mem_cons, List.not_mem_nil, or_false] at hp
    rcases hp with rfl
    · exact np_law_line_ends_right) (fun p hp => by
    simp only [List.mem_cons, List.not_mem_nil, or_false] at hp
    rcases hp with rfl
    · exact PySem.W.codeHd_of_K X hc_law_line_ends_right) (fun s v => .of_eq rfl) fun base _ _ hTB => ?_
  let G : GT := ⟨g_of C10 C11 C12 C13 C14 C15 C16 C17 C18 C19 C20 C6 C0 C1 C2 C5 C3 C4, lamTab, [], [(tP_law_line_ends_right, "_law_line_ends_right.<locals>.<lambda>")], [], [], [], rfl⟩
  have zl_0 : G.lam 0 = some LT_0 := rfl
  have zl_1 : G.lam 1 = some LT_1 := rfl
  have zl_2 : G.lam 2 = some LT_2 := rfl
  have zl_3 : G.lam 3 = some LT_3 := rfl
  have zz : G.own = [] ∧ G.fr = [] ∧ G.cv = [] := ⟨rfl, rfl, rfl⟩
  have zt_law_line_ends_right : MakerF base mg G (PySem.W.fnOf "_law_line_ends_right" "_law_line_ends_right" (defArgs s_law_line_ends_right) (defBody s_law_line_ends_right) (defScope s_law_line_ends_right) .none kV_law_line_ends_right dc_law_line_ends_right pm_law_line_ends_right an_law_line_ends_right (.ref cA_law_line_ends_right) ct_law_line_ends_right) "_law_line_ends_right.<locals>.<lambda>" := ⟨cA_law_line_ends_right, tP_law_line_ends_right, hTB (cA_law_line_ends_right, tP_law_line_ends_right) (by simp), rfl, by simp [G], fun p hp e => by
    simp only [G, List.mem_cons, List.not_mem_nil, or_false] at hp
    rcases hp with rfl
    · rfl⟩
  have b_ValueError : mg "ValueError" = none := PySem.W.mg_none_of X Gn zb_ValueError
  have b_abs : mg "abs" = none := PySem.W.mg_none_of X Gn zb_abs
  have b_all : mg "all" = none := PySem.W.mg_none_of X Gn zb_all
  have b_bool : mg "bool" = none := PySem.W.mg_none_of X Gn zb_bool
  have b_enumerate : mg "enumerate" = none := PySem.W.mg_none_of X Gn zb_enumerate
  have b_int : mg "int" = none := PySem.W.mg_none_of X Gn zb_int
  have b_isinstance : mg "isinstance" = none := PySem.W.mg_none_of X Gn zb_isinstance
  have b_len : mg "len" = none := PySem.W.mg_none_of X Gn zb_len
  have b_list : mg "list" = none := PySem.W.mg_none_of X Gn zb_list
  have b_min : mg "min" = none := PySem.W.mg_none_of X Gn zb_min
  have b_range : mg "range" = none := PySem.W.mg_none_of X Gn zb_range
  have b_set : mg "set" = none := PySem.W.mg_none_of X Gn zb_set
  have b_sorted : mg "sorted" = none := PySem.W.mg_none_of X Gn zb_sorted
  have b_str : mg "str" = none := PySem.W.mg_none_of X Gn zb_str
  have b_sum : mg "sum" = none := PySem.W.mg_none_of X Gn zb_sum
  have b_tuple : mg "tuple" = none := PySem.W.mg_none_of X Gn zb_tuple
  have g_GREATEST : ∃ t, mg "GREATEST" = some (.int 1000000000 t) := ⟨_, PySem.W.mg_of X Gn zg_GREATEST⟩
  have g_HANDS : ∃ t, mg "HANDS" = some (.int 4 t) := ⟨_, PySem.W.mg_of X Gn zg_HANDS⟩
  have g_KINDS : TupIn K mg "KINDS" ["hold", "go", "move"] := ⟨_, _, _, _, PySem.W.mg_of X Gn zg_KINDS, yg_KINDS, rfl, rfl, (by rw [sizeLine_eq]; exact (by decide : (3 : Nat) ≤ 16777216)), .cons ⟨_, rfl⟩ (.cons ⟨_, rfl⟩ (.cons ⟨_, rfl⟩ .nil))⟩
  have g_LONGEST : ∃ t, mg "LONGEST" = some (.int 60 t) := ⟨_, PySem.W.mg_of X Gn zg_LONGEST⟩
  have g_MOST_COMMANDS : ∃ t, mg "MOST_COMMANDS" = some (.int 300 t) := ⟨_, PySem.W.mg_of X Gn zg_MOST_COMMANDS⟩
  have g_MOST_PLACES : ∃ t, mg "MOST_PLACES" = some (.int 40 t) := ⟨_, PySem.W.mg_of X Gn zg_MOST_PLACES⟩
  have cl0 : Cls K C0 := ⟨pg0, hd0, po0, sa0⟩
  have cl1 : Cls K C1 := ⟨pg1, hd1, po1, sa1⟩
  have cl2 : Cls K C2 := ⟨pg2, hd2, po2, sa2⟩
  have cl5 : Cls K C5 := ⟨pg5, hd5, po5, sa5⟩
  have cl3 : Cls K C3 := ⟨pg3, hd3, po3, sa3⟩
  have cl4 : Cls K C4 := ⟨pg4, hd4, po4, sa4⟩
  have e_BadCommands : Err K mg G "BadCommands" 12 := ⟨⟨ex12, ek12, es12, et12⟩, PySem.W.mg_of X Gn ac12⟩
  have e_BadKind : Err K mg G "BadKind" 16 := ⟨⟨ex16, ek16, es16, et16⟩, PySem.W.mg_of X Gn ac16⟩
  have e_BadLength : Err K mg G "BadLength" 11 := ⟨⟨ex11, ek11, es11, et11⟩, PySem.W.mg_of X Gn ac11⟩
  have e_BadLetter : Err K mg G "BadLetter" 18 := ⟨⟨ex18, ek18, es18, et18⟩, PySem.W.mg_of X Gn ac18⟩
  have e_BadPlace : Err K mg G "BadPlace" 17 := ⟨⟨ex17, ek17, es17, et17⟩, PySem.W.mg_of X Gn ac17⟩
  have e_BadPlaces : Err K mg G "BadPlaces" 14 := ⟨⟨ex14, ek14, es14, et14⟩, PySem.W.mg_of X Gn ac14⟩
  have e_BadTale : Err K mg G "BadTale" 19 := ⟨⟨ex19, ek19, es19, et19⟩, PySem.W.mg_of X Gn ac19⟩
  have e_BadTick : Err K mg G "BadTick" 13 := ⟨⟨ex13, ek13, es13, et13⟩, PySem.W.mg_of X Gn ac13⟩
  have e_BadWatcher : Err K mg G "BadWatcher" 15 := ⟨⟨ex15, ek15, es15, et15⟩, PySem.W.mg_of X Gn ac15⟩
  have e_Busy : Err K mg G "Busy" 20 := ⟨⟨ex20, ek20, es20, et20⟩, PySem.W.mg_of X Gn ac20⟩
  have f_command : FldOk K G "command" := fld_of (fun c h => by
    rcases c with _ | _ | _ | _ | _ | _ | c <;> first | (exact absurd h (by decide +kernel)) | (exact absurd (show _ ∈ ([] : List Str) from h) List.not_mem_nil) | exact ⟨cl1, nf1_command⟩)
  have f_known : FldOk K G "known" := fld_of (fun c h => by
    rcases c with _ | _ | _ | _ | _ | _ | c <;> first | (exact absurd h (by decide +kernel)) | (exact absurd (show _ ∈ ([] : List Str) from h) List.not_mem_nil) | exact ⟨cl5, nf5_known⟩)
  have f_length : FldOk K G "length" := fld_of (fun c h => by
    rcases c with _ | _ | _ | _ | _ | _ | c <;> first | (exact absurd h (by decide +kernel)) | (exact absurd (show _ ∈ ([] : List Str) from h) List.not_mem_nil) | exact ⟨cl5, nf5_length⟩)
  have f_letters : FldOk K G "letters" := fld_of (fun c h => by
    rcases c with _ | _ | _ | _ | _ | _ | c <;> first | (exact absurd h (by decide +kernel)) | (exact absurd (show _ ∈ ([] : List Str) from h) List.not_mem_nil) | exact ⟨cl5, nf5_letters⟩)
  have f_line : FldOk K G "line" := fld_of (fun c h => by
    rcases c with _ | _ | _ | _ | _ | _ | c <;> first | (exact absurd h (by decide +kernel)) | (exact absurd (show _ ∈ ([] : List Str) from h) List.not_mem_nil) | exact ⟨cl4, nf4_line⟩)
  have f_lines : FldOk K G "lines" := fld_of (fun c h => by
    rcases c with _ | _ | _ | _ | _ | _ | c <;> first | (exact absurd h (by decide +kernel)) | (exact absurd (show _ ∈ ([] : List Str) from h) List.not_mem_nil) | exact ⟨cl5, nf5_lines⟩)
  have f_now : FldOk K G "now" := fld_of (fun c h => by
    rcases c with _ | _ | _ | _ | _ | _ | c <;> first | (exact absurd h (by decide +kernel)) | (exact absurd (show _ ∈ ([] : List Str) from h) List.not_mem_nil) | exact ⟨cl5, nf5_now⟩)
  have f_pairs : FldOk K G "pairs" := fld_of (fun c h => by
    rcases c with _ | _ | _ | _ | _ | _ | c <;> first | (exact absurd h (by decide +kernel)) | (exact absurd (show _ ∈ ([] : List Str) from h) List.not_mem_nil) | exact ⟨cl2, nf2_pairs⟩)
  have f_place : FldOk K G "place" := fld_of (fun c h => by
    rcases c with _ | _ | _ | _ | _ | _ | c <;> first | (exact absurd h (by decide +kernel)) | (exact absurd (show _ ∈ ([] : List Str) from h) List.not_mem_nil) | exact ⟨cl2, nf2_place⟩)
  have is_Apart : Isi K mg G [0, 1, 2, 5, 3, 4] "Apart" 1 := ⟨fun d hd => by
    simp only [List.mem_cons, List.not_mem_nil, or_false] at hd
    rcases hd with rfl | rfl | rfl | rfl | rfl | rfl
    · exact ⟨⟨cl0, iha0, ihn, ihtk, ihm0⟩, ik_Apart_0⟩
    · exact ⟨⟨cl1, iha1, ihn, ihtk, ihm1⟩, ik_Apart_1⟩
    · exact ⟨⟨cl2, iha2, ihn, ihtk, ihm2⟩, ik_Apart_2⟩
    · exact ⟨⟨cl5, iha5, ihn, ihtk, ihm5⟩, ik_Apart_5⟩
    · exact ⟨⟨cl3, iha3, ihn, ihtk, ihm3⟩, ik_Apart_3⟩
    · exact ⟨⟨cl4, iha4, ihn, ihtk, ihm4⟩, ik_Apart_4⟩, PySem.W.mg_of X Gn ac1⟩
  have is_Together : Isi K mg G [0, 1, 2, 5, 3, 4] "Together" 0 := ⟨fun d hd => by
    simp only [List.mem_cons, List.not_mem_nil, or_false] at hd
    rcases hd with rfl | rfl | rfl | rfl | rfl | rfl
    · exact ⟨⟨cl0, iha0, ihn, ihtk, ihm0⟩, ik_Together_0⟩
    · exact ⟨⟨cl1, iha1, ihn, ihtk, ihm1⟩, ik_Together_1⟩
    · exact ⟨⟨cl2, iha2, ihn, ihtk, ihm2⟩, ik_Together_2⟩
    · exact ⟨⟨cl5, iha5, ihn, ihtk, ihm5⟩, ik_Together_5⟩
    · exact ⟨⟨cl3, iha3, ihn, ihtk, ihm3⟩, ik_Together_3⟩
    · exact ⟨⟨cl4, iha4, ihn, ihtk, ihm4⟩, ik_Together_4⟩, PySem.W.mg_of X Gn ac0⟩
  have is_Wrong : Isi K mg G [0, 1, 2, 5, 3, 4] "Wrong" 4 := ⟨fun d hd => by
    simp only [List.mem_cons, List.not_mem_nil, or_false] at hd
    rcases hd with rfl | rfl | rfl | rfl | rfl | rfl
    · exact ⟨⟨cl0, iha0, ihn, ihtk, ihm0⟩, ik_Wrong_0⟩
    · exact ⟨⟨cl1, iha1, ihn, ihtk, ihm1⟩, ik_Wrong_1⟩
    · exact ⟨⟨cl2, iha2, ihn, ihtk, ihm2⟩, ik_Wrong_2⟩
    · exact ⟨⟨cl5, iha5, ihn, ihtk, ihm5⟩, ik_Wrong_5⟩
    · exact ⟨⟨cl3, iha3, ihn, ihtk, ihm3⟩, ik_Wrong_3⟩
    · exact ⟨⟨cl4, iha4, ihn, ihtk, ihm4⟩, ik_Wrong_4⟩, PySem.W.mg_of X Gn ac4⟩
  have m_Right : Mkr0 K mg G "Right" 3 := ⟨⟨mk3, oi3, kc3⟩, PySem.W.mg_of X Gn ac3⟩
  have m_Together : Mkr0 K mg G "Together" 0 := ⟨⟨mk0, oi0, kc0⟩, PySem.W.mg_of X Gn ac0⟩
  have t_WatchError : Tryf K mg G [11, 12, 13, 14, 15, 16, 17, 18, 19, 20] "WatchError" 10 := ⟨fun d hd => by
    simp only [List.mem_cons, List.not_mem_nil, or_false] at hd
    rcases hd with rfl | rfl | rfl | rfl | rfl | rfl | rfl | rfl | rfl | rfl
    · exact PySem.W.exm_ref ws10 wd10 wt10 xm11_WatchError
    · exact PySem.W.exm_ref ws10 wd10 wt10 xm12_WatchError
    · exact PySem.W.exm_ref ws10 wd10 wt10 xm13_WatchError
    · exact PySem.W.exm_ref ws10 wd10 wt10 xm14_WatchError
    · exact PySem.W.exm_ref ws10 wd10 wt10 xm15_WatchError
    · exact PySem.W.exm_ref ws10 wd10 wt10 xm16_WatchError
    · exact PySem.W.exm_ref ws10 wd10 wt10 xm17_WatchError
    · exact PySem.W.exm_ref ws10 wd10 wt10 xm18_WatchError
    · exact PySem.W.exm_ref ws10 wd10 wt10 xm19_WatchError
    · exact PySem.W.exm_ref ws10 wd10 wt10 xm20_WatchError, PySem.W.mg_of X Gn ac10⟩
  have x_es : EExc K G [11, 12, 13, 14, 15, 16, 17, 18, 19, 20] := fun d hd => by
    simp only [List.mem_cons, List.not_mem_nil, or_false] at hd
    rcases hd with rfl | rfl | rfl | rfl | rfl | rfl | rfl | rfl | rfl | rfl
    · exact ⟨xg11, xk11, xs11, xd11, xa11, xn, xt, xo11⟩
    · exact ⟨xg12, xk12, xs12, xd12, xa12, xn, xt, xo12⟩
    · exact ⟨xg13, xk13, xs13, xd13, xa13, xn, xt, xo13⟩
    · exact ⟨xg14, xk14, xs14, xd14, xa14, xn, xt, xo14⟩
    · exact ⟨xg15, xk15, xs15, xd15, xa15, xn, xt, xo15⟩
    · exact ⟨xg16, xk16, xs16, xd16, xa16, xn, xt, xo16⟩
    · exact ⟨xg17, xk17, xs17, xd17, xa17, xn, xt, xo17⟩
    · exact ⟨xg18, xk18, xs18, xd18, xa18, xn, xt, xo18⟩
    · exact ⟨xg19, xk19, xs19, xd19, xa19, xn, xt, xo19⟩
    · exact ⟨xg20, xk20, xs20, xd20, xa20, xn, xt, xo20⟩
  have y_BadCommands : EIs K mg G [11, 12, 13, 14, 15, 16, 17, 18, 19, 20] "BadCommands" 12 := ⟨fun d hd => by
    simp only [List.mem_cons, List.not_mem_nil, or_false] at hd
    rcases hd with rfl | rfl | rfl | rfl | rfl | rfl | rfl | rfl | rfl | rfl
    · exact iv_BadCommands_11
    · exact iv_BadCommands_12
    · exact iv_BadCommands_13
    · exact iv_BadCommands_14
    · exact iv_BadCommands_15
    · exact iv_BadCommands_16
    · exact iv_BadCommands_17
    · exact iv_BadCommands_18
    · exact iv_BadCommands_19
    · exact iv_BadCommands_20, PySem.W.mg_of X Gn ac12⟩
  have y_BadKind : EIs K mg G [11, 12, 13, 14, 15, 16, 17, 18, 19, 20] "BadKind" 16 := ⟨fun d hd => by
    simp only [List.mem_cons, List.not_mem_nil, or_false] at hd
    rcases hd with rfl | rfl | rfl | rfl | rfl | rfl | rfl | rfl | rfl | rfl
    · exact iv_BadKind_11
    · exact iv_BadKind_12
    · exact iv_BadKind_13
    · exact iv_BadKind_14
    · exact iv_BadKind_15
    · exact iv_BadKind_16
    · exact iv_BadKind_17
    · exact iv_BadKind_18
    · exact iv_BadKind_19
    · exact iv_BadKind_20, PySem.W.mg_of X Gn ac16⟩
  have y_BadLength : EIs K mg G [11, 12, 13, 14, 15, 16, 17, 18, 19, 20] "BadLength" 11 := ⟨fun d hd => by
    simp only [List.mem_cons, List.not_mem_nil, or_false] at hd
    rcases hd with rfl | rfl | rfl | rfl | rfl | rfl | rfl | rfl | rfl | rfl
    · exact iv_BadLength_11
    · exact iv_BadLength_12
    · exact iv_BadLength_13
    · exact iv_BadLength_14
    · exact iv_BadLength_15
    · exact iv_BadLength_16
    · exact iv_BadLength_17
    · exact iv_BadLength_18
    · exact iv_BadLength_19
    · exact iv_BadLength_20, PySem.W.mg_of X Gn ac11⟩
  have y_BadLetter : EIs K mg G [11, 12, 13, 14, 15, 16, 17, 18, 19, 20] "BadLetter" 18 := ⟨fun d hd => by
    simp only [List.mem_cons, List.not_mem_nil, or_false] at hd
    rcases hd with rfl | rfl | rfl | rfl | rfl | rfl | rfl | rfl | rfl | rfl
    · exact iv_BadLetter_11
    · exact iv_BadLetter_12
    · exact iv_BadLetter_13
    · exact iv_BadLetter_14
    · exact iv_BadLetter_15
    · exact iv_BadLetter_16
    · exact iv_BadLetter_17
    · exact iv_BadLetter_18
    · exact iv_BadLetter_19
    · exact iv_BadLetter_20, PySem.W.mg_of X Gn ac18⟩
  have y_BadPlace : EIs K mg G [11, 12, 13, 14, 15, 16, 17, 18, 19, 20] "BadPlace" 17 := ⟨fun d hd => by
    simp only [List.mem_cons, List.not_mem_nil, or_false] at hd
    rcases hd with rfl | rfl | rfl | rfl | rfl | rfl | rfl | rfl | rfl | rfl
    · exact iv_BadPlace_11
    · exact iv_BadPlace_12
    · exact iv_BadPlace_13
    · exact iv_BadPlace_14
    · exact iv_BadPlace_15
    · exact iv_BadPlace_16
    · exact iv_BadPlace_17
    · exact iv_BadPlace_18
    · exact iv_BadPlace_19
    · exact iv_BadPlace_20, PySem.W.mg_of X Gn ac17⟩
  have y_BadPlaces : EIs K mg G [11, 12, 13, 14, 15, 16, 17, 18, 19, 20] "BadPlaces" 14 := ⟨fun d hd => by
    simp only [List.mem_cons, List.not_mem_nil, or_false] at hd
    rcases hd with rfl | rfl | rfl | rfl | rfl | rfl | rfl | rfl | rfl | rfl
    · exact iv_BadPlaces_11
    · exact iv_BadPlaces_12
    · exact iv_BadPlaces_13
    · exact iv_BadPlaces_14
    · exact iv_BadPlaces_15
    · exact iv_BadPlaces_16
    · exact iv_BadPlaces_17
    · exact iv_BadPlaces_18
    · exact iv_BadPlaces_19
    · exact iv_BadPlaces_20, PySem.W.mg_of X Gn ac14⟩
  have y_BadTale : EIs K mg G [11, 12, 13, 14, 15, 16, 17, 18, 19, 20] "BadTale" 19 := ⟨fun d hd => by
    simp only [List.mem_cons, List.not_mem_nil, or_false] at hd
    rcases hd with rfl | rfl | rfl | rfl | rfl | rfl | rfl | rfl | rfl | rfl
    · exact iv_BadTale_11
    · exact iv_BadTale_12
    · exact iv_BadTale_13
    · exact iv_BadTale_14
    · exact iv_BadTale_15
    · exact iv_BadTale_16
    · exact iv_BadTale_17
    · exact iv_BadTale_18
    · exact iv_BadTale_19
    · exact iv_BadTale_20, PySem.W.mg_of X Gn ac19⟩
  have y_BadTick : EIs K mg G [11, 12, 13, 14, 15, 16, 17, 18, 19, 20] "BadTick" 13 := ⟨fun d hd => by
    simp only [List.mem_cons, List.not_mem_nil, or_false] at hd
    rcases hd with rfl | rfl | rfl | rfl | rfl | rfl | rfl | rfl | rfl | rfl
    · exact iv_BadTick_11
    · exact iv_BadTick_12
    · exact iv_BadTick_13
    · exact iv_BadTick_14
    · exact iv_BadTick_15
    · exact iv_BadTick_16
    · exact iv_BadTick_17
    · exact iv_BadTick_18
    · exact iv_BadTick_19
    · exact iv_BadTick_20, PySem.W.mg_of X Gn ac13⟩
  have y_BadWatcher : EIs K mg G [11, 12, 13, 14, 15, 16, 17, 18, 19, 20] "BadWatcher" 15 := ⟨fun d hd => by
    simp only [List.mem_cons, List.not_mem_nil, or_false] at hd
    rcases hd with rfl | rfl | rfl | rfl | rfl | rfl | rfl | rfl | rfl | rfl
    · exact iv_BadWatcher_11
    · exact iv_BadWatcher_12
    · exact iv_BadWatcher_13
    · exact iv_BadWatcher_14
    · exact iv_BadWatcher_15
    · exact iv_BadWatcher_16
    · exact iv_BadWatcher_17
    · exact iv_BadWatcher_18
    · exact iv_BadWatcher_19
    · exact iv_BadWatcher_20, PySem.W.mg_of X Gn ac15⟩
  have y_Busy : EIs K mg G [11, 12, 13, 14, 15, 16, 17, 18, 19, 20] "Busy" 20 := ⟨fun d hd => by
    simp only [List.mem_cons, List.not_mem_nil, or_false] at hd
    rcases hd with rfl | rfl | rfl | rfl | rfl | rfl | rfl | rfl | rfl | rfl
    · exact iv_Busy_11
    · exact iv_Busy_12
    · exact iv_Busy_13
    · exact iv_Busy_14
    · exact iv_Busy_15
    · exact iv_Busy_16
    · exact iv_Busy_17
    · exact iv_Busy_18
    · exact iv_Busy_19
    · exact iv_Busy_20, PySem.W.mg_of X Gn ac20⟩
  have y_V : EIsV K G [11, 12, 13, 14, 15, 16, 17, 18, 19, 20] := fun d hd => by
    simp only [List.mem_cons, List.not_mem_nil, or_false] at hd
    rcases hd with rfl | rfl | rfl | rfl | rfl | rfl | rfl | rfl | rfl | rfl
    · exact iv_V_11
    · exact iv_V_12
    · exact iv_V_13
    · exact iv_V_14
    · exact iv_V_15
    · exact iv_V_16
    · exact iv_V_17
    · exact iv_V_18
    · exact iv_V_19
    · exact iv_V_20
  have o_is_whole : FD P w K mg base G 1 a_is_whole 1 d_is_whole := ok_is_whole F_is_whole v_is_whole b_bool b_int b_isinstance
  have c_is_whole : Cal P w K mg base G "is_whole" 1 1 d_is_whole := ⟨_, o_is_whole, PySem.W.mg_of X Gn n_is_whole_, k_is_whole⟩
  have o_asked_length : FD P w K mg base G 2 a_asked_length 1 d_asked_length := ok_asked_length F_asked_length v_asked_length c_is_whole e_BadLength g_GREATEST
  have c_asked_length : Cal P w K mg base G "asked_length" 2 1 d_asked_length := ⟨_, o_asked_length, PySem.W.mg_of X Gn n_asked_length_, k_asked_length⟩
  have o_is_command : FD P w K mg base G 2 a_is_command 2 d_is_command := ok_is_command F_is_command v_is_command b_all b_isinstance b_len b_str b_tuple c_is_whole g_HANDS g_KINDS
  have c_is_command : Cal P w K mg base G "is_command" 2 2 d_is_command := ⟨_, o_is_command, PySem.W.mg_of X Gn n_is_command_, k_is_command⟩
  have o_asked_commands : FD P w K mg base G 3 a_asked_commands 2 d_asked_commands := ok_asked_commands F_asked_commands v_asked_commands b_all b_isinstance b_len b_list c_is_command e_BadCommands g_MOST_COMMANDS
  have c_asked_commands : Cal P w K mg base G "asked_commands" 3 2 d_asked_commands := ⟨_, o_asked_commands, PySem.W.mg_of X Gn n_asked_commands_, k_asked_commands⟩
  have o_asked_tick : FD P w K mg base G 2 a_asked_tick 1 d_asked_tick := ok_asked_tick F_asked_tick v_asked_tick c_is_whole e_BadTick
  have c_asked_tick : Cal P w K mg base G "asked_tick" 2 1 d_asked_tick := ⟨_, o_asked_tick, PySem.W.mg_of X Gn n_asked_tick_, k_asked_tick⟩
  have o_stand_of : FD P w K mg base G 1 a_stand_of 3 d_stand_of := ok_stand_of F_stand_of v_stand_of b_min b_sorted
  have c_stand_of : Cal P w K mg base G "stand_of" 1 3 d_stand_of := ⟨_, o_stand_of, PySem.W.mg_of X Gn n_stand_of_, k_stand_of⟩
  have o_stand : FD P w K mg base G 4 a_stand 3 d_stand := ok_stand F_stand v_stand c_asked_commands c_asked_length c_asked_tick c_stand_of
  have c_stand : Cal P w K mg base G "stand" 4 3 d_stand := ⟨_, o_stand, PySem.W.mg_of X Gn n_stand_, k_stand⟩
  have o_unlike : FD P w K mg base G 1 a_unlike 3 d_unlike := ok_unlike F_unlike v_unlike b_set b_sorted
  have c_unlike : Cal P w K mg base G "unlike" 1 3 d_unlike := ⟨_, o_unlike, PySem.W.mg_of X Gn n_unlike_, k_unlike⟩
  have o_asked_two : FD P w K mg base G 4 a_asked_two 4 d_asked_two := ok_asked_two F_asked_two v_asked_two c_asked_commands c_asked_length c_asked_tick
  have c_asked_two : Cal P w K mg base G "asked_two" 4 4 d_asked_two := ⟨_, o_asked_two, PySem.W.mg_of X Gn n_asked_two_, k_asked_two⟩
  have o_at_most : FD P w K mg base G 5 a_at_most 4 d_at_most := ok_at_most F_at_most v_at_most c_asked_two c_unlike
  have c_at_most : Cal P w K mg base G "at_most" 5 4 d_at_most := ⟨_, o_at_most, PySem.W.mg_of X Gn n_at_most_, k_at_most⟩
  have o_Together_shows : FD P w K mg base G 2 a_Together_shows 5 d_Together_shows := ok_Together_shows F_Together_shows v_Together_shows c_stand_of
  have o_Apart_init : FD P w K mg base G 1 a_Apart_init 2 d_Apart_init := ok_Apart_init F_Apart_init v_Apart_init f_command
  have m_Apart : Mkr P w K mg base G "Apart" 1 1 2 d_Apart_init := ⟨_, ⟨mk1, n_Apart_init_, i_Apart_init, kc1⟩, o_Apart_init, PySem.W.mg_of X Gn ac1⟩
  have o_Apart_shows : FD P w K mg base G 2 a_Apart_shows 5 d_Apart_shows := ok_Apart_shows F_Apart_shows v_Apart_shows c_stand_of f_command
  have o_Meet_init : FD P w K mg base G 1 a_Meet_init 3 d_Meet_init := ok_Meet_init F_Meet_init v_Meet_init b_list f_pairs f_place
  have m_Meet : Mkr P w K mg base G "Meet" 2 1 3 d_Meet_init := ⟨_, ⟨mk2, n_Meet_init_, i_Meet_init, kc2⟩, o_Meet_init, PySem.W.mg_of X Gn ac2⟩
  have o_Meet_shows : FD P w K mg base G 1 a_Meet_shows 2 d_Meet_shows := ok_Meet_shows F_Meet_shows v_Meet_shows b_abs b_all b_len b_set b_sum f_pairs f_place
  have o_judged : FD P w K mg base G 5 a_judged 4 d_judged := ok_judged F_judged v_judged c_asked_two c_stand_of c_unlike m_Apart m_Together
  have c_judged : Cal P w K mg base G "judged" 5 4 d_judged := ⟨_, o_judged, PySem.W.mg_of X Gn n_judged_, k_judged⟩
  have o_asked_places : FD P w K mg base G 2 a_asked_places 1 d_asked_places := ok_asked_places F_asked_places v_asked_places b_all b_isinstance b_len b_list c_is_whole e_BadPlaces g_GREATEST g_MOST_PLACES
  have c_asked_places : Cal P w K mg base G "asked_places" 2 1 d_asked_places := ⟨_, o_asked_places, PySem.W.mg_of X Gn n_asked_places_, k_asked_places⟩
  have o_meet : FD P w K mg base G 3 a_meet 1 d_meet := ok_meet F_meet v_meet b_enumerate b_len b_range b_sorted c_asked_places m_Meet
  have c_meet : Cal P w K mg base G "meet" 3 1 d_meet := ⟨_, o_meet, PySem.W.mg_of X Gn n_meet_, k_meet⟩
  have o_least_jumps : FD P w K mg base G 3 a_least_jumps 1 d_least_jumps := ok_least_jumps F_least_jumps v_least_jumps b_abs b_len b_sorted b_sum c_asked_places
  have c_least_jumps : Cal P w K mg base G "least_jumps" 3 1 d_least_jumps := ⟨_, o_least_jumps, PySem.W.mg_of X Gn n_least_jumps_, k_least_jumps⟩
  have o_Room_init : FD P w K mg base G 3 a_Room_init 3 d_Room_init := ok_Room_init F_Room_init v_Room_init b_range c_asked_length c_is_whole e_BadWatcher f_known f_length f_letters f_lines f_now g_HANDS
  have m_Room : Mkr P w K mg base G "Room" 5 3 3 d_Room_init := ⟨_, ⟨mk5, n_Room_init_, i_Room_init, kc5⟩, o_Room_init, PySem.W.mg_of X Gn ac5⟩
  have o_Room_asked_watcher : FD P w K mg base G 2 a_Room_asked_watcher 2 d_Room_asked_watcher := ok_Room_asked_watcher F_Room_asked_watcher v_Room_asked_watcher b_len c_is_whole e_BadWatcher f_known
  have h_asked_watcher : MD P w K mg base G 2 "asked_watcher" ms_asked_watcher := by
    intro c n d h
    unfold ms_asked_watcher at h
    split at h
    · obtain ⟨rfl, rfl⟩ := Prod.mk.inj (Option.some.inj h)
      exact ⟨cl5, by decide +kernel, a_Room_asked_watcher, ⟨n_Room_asked_watcher_, i_Room_asked_watcher, k_Room_asked_watcher⟩, o_Room_asked_watcher.mono (by decide)⟩
    · cases h
  have o_Room_order : FD P w K mg base G 3 a_Room_order 4 d_Room_order := ok_Room_order F_Room_order v_Room_order b_isinstance b_len b_str c_is_whole e_BadKind e_BadPlace e_Busy f_known f_length f_letters f_lines f_now g_KINDS g_MOST_COMMANDS h_asked_watcher
  have h_order : MD P w K mg base G 3 "order" ms_order := by
    intro c n d h
    unfold ms_order at h
    split at h
    · obtain ⟨rfl, rfl⟩ := Prod.mk.inj (Option.some.inj h)
      exact ⟨cl5, by decide +kernel, a_Room_order, ⟨n_Room_order_, i_Room_order, k_Room_order⟩, o_Room_order.mono (by decide)⟩
    · cases h
  have o_Room_bring : FD P w K mg base G 3 a_Room_bring 3 d_Room_bring := ok_Room_bring F_Room_bring v_Room_bring b_len c_is_whole e_BadLetter f_known f_letters f_lines h_asked_watcher
  have h_bring : MD P w K mg base G 3 "bring" ms_bring := by
    intro c n d h
    unfold ms_bring at h
    split at h
    · obtain ⟨rfl, rfl⟩ := Prod.mk.inj (Option.some.inj h)
      exact ⟨cl5, by decide +kernel, a_Room_bring, ⟨n_Room_bring_, i_Room_bring, k_Room_bring⟩, o_Room_bring.mono (by decide)⟩
    · cases h
  have o_Room_tick : FD P w K mg base G 2 a_Room_tick 2 d_Room_tick := ok_Room_tick F_Room_tick v_Room_tick c_is_whole e_BadTick f_lines f_now
  have h_tick : MD P w K mg base G 2 "tick" ms_tick := by
    intro c n d h
    unfold ms_tick at h
    split at h
    · obtain ⟨rfl, rfl⟩ := Prod.mk.inj (Option.some.inj h)
      exact ⟨cl5, by decide +kernel, a_Room_tick, ⟨n_Room_tick_, i_Room_tick, k_Room_tick⟩, o_Room_tick.mono (by decide)⟩
    · cases h
  have o_Room_stands : FD P w K mg base G 3 a_Room_stands 2 d_Room_stands := ok_Room_stands F_Room_stands v_Room_stands c_stand_of f_known f_length f_now h_asked_watcher
  have h_stands : MD P w K mg base G 3 "stands" ms_stands := by
    intro c n d h
    unfold ms_stands at h
    split at h
    · obtain ⟨rfl, rfl⟩ := Prod.mk.inj (Option.some.inj h)
      exact ⟨cl5, by decide +kernel, a_Room_stands, ⟨n_Room_stands_, i_Room_stands, k_Room_stands⟩, o_Room_stands.mono (by decide)⟩
    · cases h
  have o_Room_knows : FD P w K mg base G 3 a_Room_knows 2 d_Room_knows := ok_Room_knows F_Room_knows v_Room_knows b_sorted f_known h_asked_watcher
  have h_knows : MD P w K mg base G 3 "knows" ms_knows := by
    intro c n d h
    unfold ms_knows at h
    split at h
    · obtain ⟨rfl, rfl⟩ := Prod.mk.inj (Option.some.inj h)
      exact ⟨cl5, by decide +kernel, a_Room_knows, ⟨n_Room_knows_, i_Room_knows, k_Room_knows⟩, o_Room_knows.mono (by decide)⟩
    · cases h
  have o_Room_at_rest : FD P w K mg base G 1 a_Room_at_rest 1 d_Room_at_rest := ok_Room_at_rest F_Room_at_rest v_Room_at_rest b_all b_len f_known f_letters
  have h_at_rest : MD P w K mg base G 1 "at_rest" ms_at_rest := by
    intro c n d h
    unfold ms_at_rest at h
    split at h
    · obtain ⟨rfl, rfl⟩ := Prod.mk.inj (Option.some.inj h)
      exact ⟨cl5, by decide +kernel, a_Room_at_rest, ⟨n_Room_at_rest_, i_Room_at_rest, k_Room_at_rest⟩, o_Room_at_rest.mono (by decide)⟩
    · cases h
  have o_Room_tale : FD P w K mg base G 1 a_Room_tale 1 d_Room_tale := ok_Room_tale F_Room_tale v_Room_tale b_list f_lines
  have h_tale : MD P w K mg base G 1 "tale" ms_tale := by
    intro c n d h
    unfold ms_tale at h
    split at h
    · obtain ⟨rfl, rfl⟩ := Prod.mk.inj (Option.some.inj h)
      exact ⟨cl5, by decide +kernel, a_Room_tale, ⟨n_Room_tale_, i_Room_tale, k_Room_tale⟩, o_Room_tale.mono (by decide)⟩
    · cases h
  have o_is_line : FD P w K mg base G 2 a_is_line 1 d_is_line := ok_is_line F_is_line v_is_line b_all b_isinstance b_len b_str b_tuple c_is_whole
  have c_is_line : Cal P w K mg base G "is_line" 2 1 d_is_line := ⟨_, o_is_line, PySem.W.mg_of X Gn n_is_line_, k_is_line⟩
  have o_can_come : FD P w K mg base G 4 a_can_come 2 d_can_come := ok_can_come F_can_come v_can_come h_bring h_order h_stands h_tick t_WatchError
  have c_can_come : Cal P w K mg base G "can_come" 4 2 d_can_come := ⟨_, o_can_come, PySem.W.mg_of X Gn n_can_come_, k_can_come⟩
  have o_first_wrong : FD P w K mg base G 5 a_first_wrong 3 d_first_wrong := ok_first_wrong F_first_wrong v_first_wrong b_enumerate c_can_come m_Room
  have c_first_wrong : Cal P w K mg base G "first_wrong" 5 3 d_first_wrong := ⟨_, o_first_wrong, PySem.W.mg_of X Gn n_first_wrong_, k_first_wrong⟩
  have o_Right_shows : FD P w K mg base G 6 a_Right_shows 4 d_Right_shows := ok_Right_shows F_Right_shows v_Right_shows c_first_wrong
  have o_Wrong_init : FD P w K mg base G 1 a_Wrong_init 2 d_Wrong_init := ok_Wrong_init F_Wrong_init v_Wrong_init f_line
  have m_Wrong : Mkr P w K mg base G "Wrong" 4 1 2 d_Wrong_init := ⟨_, ⟨mk4, n_Wrong_init_, i_Wrong_init, kc4⟩, o_Wrong_init, PySem.W.mg_of X Gn ac4⟩
  have o_Wrong_shows : FD P w K mg base G 6 a_Wrong_shows 4 d_Wrong_shows := ok_Wrong_shows F_Wrong_shows v_Wrong_shows c_first_wrong f_line
  have h_shows : MD P w K mg base G 6 "shows" ms_shows := by
    intro c n d h
    unfold ms_shows at h
    split at h
    · obtain ⟨rfl, rfl⟩ := Prod.mk.inj (Option.some.inj h)
      exact ⟨cl0, by decide +kernel, a_Together_shows, ⟨n_Together_shows_, i_Together_shows, k_Together_shows⟩, o_Together_shows.mono (by decide)⟩
    · obtain ⟨rfl, rfl⟩ := Prod.mk.inj (Option.some.inj h)
      exact ⟨cl1, by decide +kernel, a_Apart_shows, ⟨n_Apart_shows_, i_Apart_shows, k_Apart_shows⟩, o_Apart_shows.mono (by decide)⟩
    · obtain ⟨rfl, rfl⟩ := Prod.mk.inj (Option.some.inj h)
      exact ⟨cl2, by decide +kernel, a_Meet_shows, ⟨n_Meet_shows_, i_Meet_shows, k_Meet_shows⟩, o_Meet_shows.mono (by decide)⟩
    · obtain ⟨rfl, rfl⟩ := Prod.mk.inj (Option.some.inj h)
      exact ⟨cl3, by decide +kernel, a_Right_shows, ⟨n_Right_shows_, i_Right_shows, k_Right_shows⟩, o_Right_shows.mono (by decide)⟩
    · obtain ⟨rfl, rfl⟩ := Prod.mk.inj (Option.some.inj h)
      exact ⟨cl4, by decide +kernel, a_Wrong_shows, ⟨n_Wrong_shows_, i_Wrong_shows, k_Wrong_shows⟩, o_Wrong_shows.mono (by decide)⟩
    · cases h
  have o_tale_judged : FD P w K mg base G 6 a_tale_judged 3 d_tale_judged := ok_tale_judged F_tale_judged v_tale_judged b_all b_isinstance b_len b_list c_first_wrong c_is_line e_BadTale g_LONGEST m_Right m_Room m_Wrong
  have c_tale_judged : Cal P w K mg base G "tale_judged" 6 3 d_tale_judged := ⟨_, o_tale_judged, PySem.W.mg_of X Gn n_tale_judged_, k_tale_judged⟩
  have o_lam0 : LOk P w K mg base G 5 0 1 (d_lam0 []) := ok_lam0 zl_0 rfl c_stand
  have o_lam1 : LOk P w K mg base G 6 1 1 (d_lam1 []) := ok_lam1 zl_1 rfl c_at_most
  have o_lam2 : LOk P w K mg base G 5 2 1 (d_lam2 []) := ok_lam2 zl_2 rfl h_order m_Room
  have o_lam3 : LOk P w K mg base G 7 3 1 (d_lam3 []) := ok_lam3 zl_3 rfl c_tale_judged
  have zT : ∀ i d, ld i = some d → LOk P w K mg base G 7 i 1 d := by
    intro i d hd
    unfold ld at hd
    split at hd
    · rw [← Option.some.inj hd]; exact o_lam0.mono (by decide)
    · rw [← Option.some.inj hd]; exact o_lam1.mono (by decide)
    · rw [← Option.some.inj hd]; exact o_lam2.mono (by decide)
    · rw [← Option.some.inj hd]; exact o_lam3.mono (by decide)
    · cases hd
  have o_law_refused : FD P w K mg base G 8 a_law_refused 3 d_law_refused := ok_law_refused F_law_refused v_law_refused b_ValueError b_isinstance b_range t_WatchError x_es y_BadCommands y_BadKind y_BadLength y_BadLetter y_BadPlace y_BadPlaces y_BadTale y_BadTick y_BadWatcher y_Busy y_V zT zz
  have c_law_refused : Cal P w K mg base G "_law_refused" 8 3 d_law_refused := ⟨_, o_law_refused, PySem.W.mg_of X Gn n_law_refused_, k_law_refused⟩
  have o_law_number : FD P w K mg base G 1 a_law_number 3 d_law_number := ok_law_number F_law_number v_law_number
  have c_law_number : Cal P w K mg base G "_law_number" 1 3 d_law_number := ⟨_, o_law_number, PySem.W.mg_of X Gn n_law_number_, k_law_number⟩
  have o_law_commands : FD P w K mg base G 2 a_law_commands 5 d_law_commands := ok_law_commands F_law_commands v_law_commands b_abs b_len b_range b_sum c_law_number
  have c_law_commands : Cal P w K mg base G "_law_commands" 2 5 d_law_commands := ⟨_, o_law_commands, PySem.W.mg_of X Gn n_law_commands_, k_law_commands⟩
  have o_law_length : FD P w K mg base G 1 a_law_length 1 d_law_length := ok_law_length F_law_length v_law_length
  have c_law_length : Cal P w K mg base G "_law_length" 1 1 d_law_length := ⟨_, o_law_length, PySem.W.mg_of X Gn n_law_length_, k_law_length⟩
  have o_law_places : FD P w K mg base G 2 a_law_places 3 d_law_places := ok_law_places F_law_places v_law_places b_abs b_len b_range b_sum c_law_number
  have c_law_places : Cal P w K mg base G "_law_places" 2 3 d_law_places := ⟨_, o_law_places, PySem.W.mg_of X Gn n_law_places_, k_law_places⟩
  have o_law_plain : FD P w K mg base G 7 a_law_plain 1 (d_law_plain 6) := ok_law_plain F_law_plain v_law_plain (PySem.W.mg_of X Gn n_law_plain_) k_law_plain b_all b_bool b_int b_isinstance b_list b_str b_tuple 6
  have c_law_plain : Cal P w K mg base G "_law_plain" 7 1 (d_law_plain 6) := ⟨_, o_law_plain, PySem.W.mg_of X Gn n_law_plain_, k_law_plain⟩
  have o_law_truths : FD P w K mg base G 1 a_law_truths 1 d_law_truths := ok_law_truths F_law_truths v_law_truths b_all b_bool b_isinstance
  have c_law_truths : Cal P w K mg base G "_law_truths" 1 1 d_law_truths := ⟨_, o_law_truths, PySem.W.mg_of X Gn n_law_truths_, k_law_truths⟩
  have o_law_told_right : FD P w K mg base G 8 a_law_told_right 5 d_law_told_right := ok_law_told_right F_law_told_right v_law_told_right b_isinstance b_tuple c_at_most c_judged c_law_plain c_law_truths c_least_jumps c_meet c_stand f_command f_pairs f_place h_shows is_Apart m_Meet m_Together
  have c_law_told_right : Cal P w K mg base G "_law_told_right" 8 5 d_law_told_right := ⟨_, o_law_told_right, PySem.W.mg_of X Gn n_law_told_right_, k_law_told_right⟩
  have o_law_room_right : FD P w K mg base G 8 a_law_room_right 1 d_law_room_right := ok_law_room_right F_law_room_right v_law_room_right c_law_plain c_law_truths c_tale_judged f_line h_at_rest h_bring h_knows h_order h_shows h_stands h_tale h_tick m_Right m_Room
  have c_law_room_right : Cal P w K mg base G "_law_room_right" 8 1 d_law_room_right := ⟨_, o_law_room_right, PySem.W.mg_of X Gn n_law_room_right_, k_law_room_right⟩
  have o_law_line_ends_right : FD P w K mg base G 9 a_law_line_ends_right 0 d_law_line_ends_right := ok_law_line_ends_right F_law_line_ends_right v_law_line_ends_right b_isinstance c_law_refused c_tale_judged f_line is_Wrong zl_0 zl_1 zl_2 zl_3 zt_law_line_ends_right
  have c_law_line_ends_right : Cal P w K mg base G "_law_line_ends_right" 9 0 d_law_line_ends_right := ⟨_, o_law_line_ends_right, PySem.W.mg_of X Gn n_law_line_ends_right_, k_law_line_ends_right⟩
  have o_law_moves_right : FD P w K mg base G 7 a_law_moves_right 1 d_law_moves_right := ok_law_moves_right F_law_moves_right v_law_moves_right b_isinstance c_at_most c_judged c_least_jumps c_meet f_place h_shows is_Apart is_Together m_Apart
  have c_law_moves_right : Cal P w K mg base G "_law_moves_right" 7 1 d_law_moves_right := ⟨_, o_law_moves_right, PySem.W.mg_of X Gn n_law_moves_right_, k_law_moves_right⟩
  exact (ok_law F_law b_abs b_sum c_law_commands c_law_length c_law_line_ends_right c_law_moves_right c_law_places c_law_room_right c_law_told_right).imp fun vs H Q E p => spLaw_of law_true rfl rfl vs H Q E p
end Wt.Lk12

open PySem PySem.W PyProof.Rows
set_option maxRecDepth 100000 in
set_option maxHeartbeats 0 in
theorem PySem.Challenge.cw_watchtogether_k12_whole_numbers_holds : PySem.Challenge.rw_watchtogether_k12_whole_numbers.Holds := by
  w_on; o_law; k_head; (case hw => w_witness2)
  k_fill
  refine Wt.walk_lam (l := PySem.Challenge.rw_watchtogether_k12_whole_numbers) (n := 63) (k := 10) (x := "_law_script") (CX := fun w => L2N.CX (PySem.Challenge.rw_watchtogether_k12_whole_numbers).prog w) rfl (by decide) rfl ⟨rfl, by decide, by decide⟩ (fun w h Y => PySem.W.km_in_of Y) ?F (fun w H s e s' h => Wt.noCX w H s e s' h)
  case F =>
    intro w mg fa h KX G hmg tabs
    refine Wt.LawT.at_ ?_
    refine' Wt.Lk12.all_mk KX G hmg tabs ?ac10 ?ac11 ?ac12 ?ac13 ?ac14 ?ac15 ?ac16 ?ac17 ?ac18 ?ac19 ?ac20 ?ac6 ?ac0 ?ac1 ?ac2 ?ac5 ?ac3 ?ac4 ?zb_ValueError ?zb_abs ?zb_all ?zb_bool ?zb_enumerate ?zb_int ?zb_isinstance ?zb_len ?zb_list ?zb_min ?zb_range ?zb_set ?zb_sorted ?zb_str ?zb_sum ?zb_tuple ?zg_GREATEST ?zg_HANDS ?zg_KINDS ?yg_KINDS ?zg_LONGEST ?zg_MOST_COMMANDS ?zg_MOST_PLACES ?pg0 ?hd0 ?po0 ?sa0 ?mk0 ?kc0 ?oi0 ?pg1 ?hd1 ?po1 ?sa1 ?mk1 ?kc1 ?nf1_command ?pg2 ?hd2 ?po2 ?sa2 ?mk2 ?kc2 ?nf2_place ?nf2_pairs ?pg5 ?hd5 ?po5 ?sa5 ?mk5 ?kc5 ?nf5_length ?nf5_known ?nf5_letters ?nf5_now ?nf5_lines ?pg3 ?hd3 ?po3 ?sa3 ?mk3 ?kc3 ?oi3 ?pg4 ?hd4 ?po4 ?sa4 ?mk4 ?kc4 ?nf4_line ?ihn ?ihtk ?iha0 ?ihm0 ?iha1 ?ihm1 ?iha2 ?ihm2 ?iha5 ?ihm5 ?iha3 ?ihm3 ?iha4 ?ihm4 ?ik_Apart_0 ?ik_Apart_1 ?ik_Apart_2 ?ik_Apart_5 ?ik_Apart_3 ?ik_Apart_4 ?ik_Together_0 ?ik_Together_1 ?ik_Together_2 ?ik_Together_5 ?ik_Together_3 ?ik_Together_4 ?ik_Wrong_0 ?ik_Wrong_1 ?ik_Wrong_2 ?ik_Wrong_5 ?ik_Wrong_3 ?ik_Wrong_4 ?ex12 ?ek12 ?es12 ?et12 ?ex16 ?ek16 ?es16 ?et16 ?ex11 ?ek11 ?es11 ?et11 ?ex18 ?ek18 ?es18 ?et18 ?ex17 ?ek17 ?es17 ?et17 ?ex14 ?ek14 ?es14 ?et14 ?ex19 ?ek19 ?es19 ?et19 ?ex13 ?ek13 ?es13 ?et13 ?ex15 ?ek15 ?es15 ?et15 ?ex20 ?ek20 ?es20 ?et20 ?ws10 ?wd10 ?wt10 ?xm11_WatchError ?xm12_WatchError ?xm13_WatchError ?xm14_WatchError ?xm15_WatchError ?xm16_WatchError ?xm17_WatchError ?xm18_WatchError ?xm19_WatchError ?xm20_WatchError ?xg11 ?xk11 ?xs11 ?xd11 ?xa11 ?xo11 ?xg12 ?xk12 ?xs12 ?xd12 ?xa12 ?xo12 ?xg13 ?xk13 ?xs13 ?xd13 ?xa13 ?xo13 ?xg14 ?xk14 ?xs14 ?xd14 ?xa14 ?xo14 ?xg15 ?xk15 ?xs15 ?xd15 ?xa15 ?xo15 ?xg16 ?xk16 ?xs16 ?xd16 ?xa16 ?xo16 ?xg17 ?xk17 ?xs17 ?xd17 ?xa17 ?xo17 ?xg18 ?xk18 ?xs18 ?xd18 ?xa18 ?xo18 ?xg19 ?xk19 ?xs19 ?xd19 ?xa19 ?xo19 ?xg20 ?xk20 ?xs20 ?xd20 ?xa20 ?xo20 ?xn ?xt ?iv_BadCommands_11 ?iv_BadCommands_12 ?iv_BadCommands_13 ?iv_BadCommands_14 ?iv_BadCommands_15 ?iv_BadCommands_16 ?iv_BadCommands_17 ?iv_BadCommands_18 ?iv_BadCommands_19 ?iv_BadCommands_20 ?iv_BadKind_11 ?iv_BadKind_12 ?iv_BadKind_13 ?iv_BadKind_14 ?iv_BadKind_15 ?iv_BadKind_16 ?iv_BadKind_17 ?iv_BadKind_18 ?iv_BadKind_19 ?iv_BadKind_20 ?iv_BadLength_11 ?iv_BadLength_12 ?iv_BadLength_13 ?iv_BadLength_14 ?iv_BadLength_15 ?iv_BadLength_16 ?iv_BadLength_17 ?iv_BadLength_18 ?iv_BadLength_19 ?iv_BadLength_20 ?iv_BadLetter_11 ?iv_BadLetter_12 ?iv_BadLetter_13 ?iv_BadLetter_14 ?iv_BadLetter_15 ?iv_BadLetter_16 ?iv_BadLetter_17 ?iv_BadLetter_18 ?iv_BadLetter_19 ?iv_BadLetter_20 ?iv_BadPlace_11 ?iv_BadPlace_12 ?iv_BadPlace_13 ?iv_BadPlace_14 ?iv_BadPlace_15 ?iv_BadPlace_16 ?iv_BadPlace_17 ?iv_BadPlace_18 ?iv_BadPlace_19 ?iv_BadPlace_20 ?iv_BadPlaces_11 ?iv_BadPlaces_12 ?iv_BadPlaces_13 ?iv_BadPlaces_14 ?iv_BadPlaces_15 ?iv_BadPlaces_16 ?iv_BadPlaces_17 ?iv_BadPlaces_18 ?iv_BadPlaces_19 ?iv_BadPlaces_20 ?iv_BadTale_11 ?iv_BadTale_12 ?iv_BadTale_13 ?iv_BadTale_14 ?iv_BadTale_15 ?iv_BadTale_16 ?iv_BadTale_17 ?iv_BadTale_18 ?iv_BadTale_19 ?iv_BadTale_20 ?iv_BadTick_11 ?iv_BadTick_12 ?iv_BadTick_13 ?iv_BadTick_14 ?iv_BadTick_15 ?iv_BadTick_16 ?iv_BadTick_17 ?iv_BadTick_18 ?iv_BadTick_19 ?iv_BadTick_20 ?iv_BadWatcher_11 ?iv_BadWatcher_12 ?iv_BadWatcher_13 ?iv_BadWatcher_14 ?iv_BadWatcher_15 ?iv_BadWatcher_16 ?iv_BadWatcher_17 ?iv_BadWatcher_18 ?iv_BadWatcher_19 ?iv_BadWatcher_20 ?iv_Busy_11 ?iv_Busy_12 ?iv_Busy_13 ?iv_Busy_14 ?iv_Busy_15 ?iv_Busy_16 ?iv_Busy_17 ?iv_Busy_18 ?iv_Busy_19 ?iv_Busy_20 ?iv_V_11 ?iv_V_12 ?iv_V_13 ?iv_V_14 ?iv_V_15 ?iv_V_16 ?iv_V_17 ?iv_V_18 ?iv_V_19 ?iv_V_20 ?n_is_whole_ ?l_is_whole ?q_is_whole ?k_is_whole ?n_asked_length_ ?l_asked_length ?q_asked_length ?k_asked_length ?n_is_command_ ?l_is_command ?q_is_command ?k_is_command ?n_asked_commands_ ?l_asked_commands ?q_asked_commands ?k_asked_commands ?n_asked_tick_ ?l_asked_tick ?q_asked_tick ?k_asked_tick ?n_stand_of_ ?l_stand_of ?q_stand_of ?k_stand_of ?n_stand_ ?l_stand ?q_stand ?k_stand ?n_unlike_ ?l_unlike ?q_unlike ?k_unlike ?n_asked_two_ ?l_asked_two ?q_asked_two ?k_asked_two ?n_at_most_ ?l_at_most ?q_at_most ?k_at_most ?n_Together_shows_ ?i_Together_shows ?l_Together_shows ?q_Together_shows ?k_Together_shows ?n_Apart_init_ ?i_Apart_init ?l_Apart_init ?q_Apart_init ?k_Apart_init ?n_Apart_shows_ ?i_Apart_shows ?l_Apart_shows ?q_Apart_shows ?k_Apart_shows ?n_Meet_init_ ?i_Meet_init ?l_Meet_init ?q_Meet_init ?k_Meet_init ?n_Meet_shows_ ?i_Meet_shows ?l_Meet_shows ?q_Meet_shows ?k_Meet_shows ?n_judged_ ?l_judged ?q_judged ?k_judged ?n_asked_places_ ?l_asked_places ?q_asked_places ?k_asked_places ?n_meet_ ?l_meet ?q_meet ?k_meet ?n_least_jumps_ ?l_least_jumps ?q_least_jumps ?k_least_jumps ?n_Room_init_ ?i_Room_init ?l_Room_init ?q_Room_init ?k_Room_init ?n_Room_asked_watcher_ ?i_Room_asked_watcher ?l_Room_asked_watcher ?q_Room_asked_watcher ?k_Room_asked_watcher ?n_Room_order_ ?i_Room_order ?l_Room_order ?q_Room_order ?k_Room_order ?n_Room_bring_ ?i_Room_bring ?l_Room_bring ?q_Room_bring ?k_Room_bring ?n_Room_tick_ ?i_Room_tick ?l_Room_tick ?q_Room_tick ?k_Room_tick ?n_Room_stands_ ?i_Room_stands ?l_Room_stands ?q_Room_stands ?k_Room_stands ?n_Room_knows_ ?i_Room_knows ?l_Room_knows ?q_Room_knows ?k_Room_knows ?n_Room_at_rest_ ?i_Room_at_rest ?l_Room_at_rest ?q_Room_at_rest ?k_Room_at_rest ?n_Room_tale_ ?i_Room_tale ?l_Room_tale ?q_Room_tale ?k_Room_tale ?n_is_line_ ?l_is_line ?q_is_line ?k_is_line ?n_can_come_ ?l_can_come ?q_can_come ?k_can_come ?n_first_wrong_ ?l_first_wrong ?q_first_wrong ?k_first_wrong ?n_Right_shows_ ?i_Right_shows ?l_Right_shows ?q_Right_shows ?k_Right_shows ?n_Wrong_init_ ?i_Wrong_init ?l_Wrong_init ?q_Wrong_init ?k_Wrong_init ?n_Wrong_shows_ ?i_Wrong_shows ?l_Wrong_shows ?q_Wrong_shows ?k_Wrong_shows ?n_tale_judged_ ?l_tale_judged ?q_tale_judged ?k_tale_judged ?n_law_refused_ ?l_law_refused ?q_law_refused ?k_law_refused ?n_law_number_ ?l_law_number ?q_law_number ?k_law_number ?n_law_commands_ ?l_law_commands ?q_law_commands ?k_law_commands ?n_law_length_ ?l_law_length ?q_law_length ?k_law_length ?n_law_places_ ?l_law_places ?q_law_places ?k_law_places ?n_law_plain_ ?l_law_plain ?q_law_plain ?k_law_plain ?n_law_truths_ ?l_law_truths ?q_law_truths ?k_law_truths ?n_law_told_right_ ?l_law_told_right ?q_law_told_right ?k_law_told_right ?n_law_room_right_ ?l_law_room_right ?q_law_room_right ?k_law_room_right ?n_law_line_ends_right_ ?l_law_line_ends_right ?lc_law_line_ends_right ?lp_law_line_ends_right ?hc_law_line_ends_right ?np_law_line_ends_right ?rc_law_line_ends_right ?q_law_line_ends_right ?k_law_line_ends_right ?n_law_moves_right_ ?l_law_moves_right ?q_law_moves_right ?k_law_moves_right ?n_law_ ?l_law ?q_law ?k_law
    (case ac10 => k_is)
    (case ac11 => k_is)
    (case ac12 => k_is)
    (case ac13 => k_is)
    (case ac14 => k_is)
    (case ac15 => k_is)
    (case ac16 => k_is)
    (case ac17 => k_is)
    (case ac18 => k_is)
    (case ac19 => k_is)
    (case ac20 => k_is)
    (case ac6 => k_is)
    (case ac0 => k_is)
    (case ac1 => k_is)
    (case ac2 => k_is)
    (case ac5 => k_is)
    (case ac3 => k_is)
    (case ac4 => k_is)
    (case zb_ValueError => k_is)
    (case zb_abs => k_is)
    (case zb_all => k_is)
    (case zb_bool => k_is)
    (case zb_enumerate => k_is)
    (case zb_int => k_is)
    (case zb_isinstance => k_is)
    (case zb_len => k_is)
    (case zb_list => k_is)
    (case zb_min => k_is)
    (case zb_range => k_is)
    (case zb_set => k_is)
    (case zb_sorted => k_is)
    (case zb_str => k_is)
    (case zb_sum => k_is)
    (case zb_tuple => k_is)
    (case zg_GREATEST => k_is)
    (case zg_HANDS => k_is)
    (case zg_KINDS => k_is)
    (case yg_KINDS => k_is)
    (case zg_LONGEST => k_is)
    (case zg_MOST_COMMANDS => k_is)
    (case zg_MOST_PLACES => k_is)
    (case pg0 => k_is)
    (case hd0 => k_is)
    (case po0 => k_is)
    (case sa0 => k_is)
    (case mk0 => k_is)
    (case kc0 => k_is)
    (case oi0 => k_is)
    (case pg1 => k_is)
    (case hd1 => k_is)
    (case po1 => k_is)
    (case sa1 => k_is)
    (case mk1 => k_is)
    (case kc1 => k_is)
    (case nf1_command => k_is)
    (case pg2 => k_is)
    (case hd2 => k_is)
    (case po2 => k_is)
    (case sa2 => k_is)
    (case mk2 => k_is)
    (case kc2 => k_is)
    (case nf2_place => k_is)
    (case nf2_pairs => k_is)
    (case pg5 => k_is)
    (case hd5 => k_is)
    (case po5 => k_is)
    (case sa5 => k_is)
    (case mk5 => k_is)
    (case kc5 => k_is)
    (case nf5_length => k_is)
    (case nf5_known => k_is)
    (case nf5_letters => k_is)
    (case nf5_now => k_is)
    (case nf5_lines => k_is)
    (case pg3 => k_is)
    (case hd3 => k_is)
    (case po3 => k_is)
    (case sa3 => k_is)
    (case mk3 => k_is)
    (case kc3 => k_is)
    (case oi3 => k_is)
    (case pg4 => k_is)
    (case hd4 => k_is)
    (case po4 => k_is)
    (case sa4 => k_is)
    (case mk4 => k_is)
    (case kc4 => k_is)
    (case nf4_line => k_is)
    (case ihn => k_is)
    (case ihtk => k_is)
    (case iha0 => k_is)
    (case ihm0 => k_is)
    (case iha1 => k_is)
    (case ihm1 => k_is)
    (case iha2 => k_is)
    (case ihm2 => k_is)
    (case iha5 => k_is)
    (case ihm5 => k_is)
    (case iha3 => k_is)
    (case ihm3 => k_is)
    (case iha4 => k_is)
    (case ihm4 => k_is)
    (case ik_Apart_0 => kit_is)
    (case ik_Apart_1 => kit_is)
    (case ik_Apart_2 => kit_is)
    (case ik_Apart_5 => kit_is)
    (case ik_Apart_3 => kit_is)
    (case ik_Apart_4 => kit_is)
    (case ik_Together_0 => kit_is)
    (case ik_Together_1 => kit_is)
    (case ik_Together_2 => kit_is)
    (case ik_Together_5 => kit_is)
    (case ik_Together_3 => kit_is)
    (case ik_Together_4 => kit_is)
    (case ik_Wrong_0 => kit_is)
    (case ik_Wrong_1 => kit_is)
    (case ik_Wrong_2 => kit_is)
    (case ik_Wrong_5 => kit_is)
    (case ik_Wrong_3 => kit_is)
    (case ik_Wrong_4 => kit_is)
    (case ex12 => k_exc)
    (case ek12 => k_is)
    (case es12 => k_is)
    (case et12 => k_is)
    (case ex16 => k_exc)
    (case ek16 => k_is)
    (case es16 => k_is)
    (case et16 => k_is)
    (case ex11 => k_exc)
    (case ek11 => k_is)
    (case es11 => k_is)
    (case et11 => k_is)
    (case ex18 => k_exc)
    (case ek18 => k_is)
    (case es18 => k_is)
    (case et18 => k_is)
    (case ex17 => k_exc)
    (case ek17 => k_is)
    (case es17 => k_is)
    (case et17 => k_is)
    (case ex14 => k_exc)
    (case ek14 => k_is)
    (case es14 => k_is)
    (case et14 => k_is)
    (case ex19 => k_exc)
    (case ek19 => k_is)
    (case es19 => k_is)
    (case et19 => k_is)
    (case ex13 => k_exc)
    (case ek13 => k_is)
    (case es13 => k_is)
    (case et13 => k_is)
    (case ex15 => k_exc)
    (case ek15 => k_is)
    (case es15 => k_is)
    (case et15 => k_is)
    (case ex20 => k_exc)
    (case ek20 => k_is)
    (case es20 => k_is)
    (case et20 => k_is)
    (case ws10 => k_is)
    (case wd10 => k_is)
    (case wt10 => k_is)
    (case xm11_WatchError => k_is)
    (case xm12_WatchError => k_is)
    (case xm13_WatchError => k_is)
    (case xm14_WatchError => k_is)
    (case xm15_WatchError => k_is)
    (case xm16_WatchError => k_is)
    (case xm17_WatchError => k_is)
    (case xm18_WatchError => k_is)
    (case xm19_WatchError => k_is)
    (case xm20_WatchError => k_is)
    (case xg11 => k_is)
    (case xk11 => k_is)
    (case xs11 => k_is)
    (case xd11 => k_is)
    (case xa11 => k_is)
    (case xo11 => k_is)
    (case xg12 => k_is)
    (case xk12 => k_is)
    (case xs12 => k_is)
    (case xd12 => k_is)
    (case xa12 => k_is)
    (case xo12 => k_is)
    (case xg13 => k_is)
    (case xk13 => k_is)
    (case xs13 => k_is)
    (case xd13 => k_is)
    (case xa13 => k_is)
    (case xo13 => k_is)
    (case xg14 => k_is)
    (case xk14 => k_is)
    (case xs14 => k_is)
    (case xd14 => k_is)
    (case xa14 => k_is)
    (case xo14 => k_is)
    (case xg15 => k_is)
    (case xk15 => k_is)
    (case xs15 => k_is)
    (case xd15 => k_is)
    (case xa15 => k_is)
    (case xo15 => k_is)
    (case xg16 => k_is)
    (case xk16 => k_is)
    (case xs16 => k_is)
    (case xd16 => k_is)
    (case xa16 => k_is)
    (case xo16 => k_is)
    (case xg17 => k_is)
    (case xk17 => k_is)
    (case xs17 => k_is)
    (case xd17 => k_is)
    (case xa17 => k_is)
    (case xo17 => k_is)
    (case xg18 => k_is)
    (case xk18 => k_is)
    (case xs18 => k_is)
    (case xd18 => k_is)
    (case xa18 => k_is)
    (case xo18 => k_is)
    (case xg19 => k_is)
    (case xk19 => k_is)
    (case xs19 => k_is)
    (case xd19 => k_is)
    (case xa19 => k_is)
    (case xo19 => k_is)
    (case xg20 => k_is)
    (case xk20 => k_is)
    (case xs20 => k_is)
    (case xd20 => k_is)
    (case xa20 => k_is)
    (case xo20 => k_is)
    (case xn => k_is)
    (case xt => k_is)
    (case iv_BadCommands_11 => kit_is)
    (case iv_BadCommands_12 => kit_is)
    (case iv_BadCommands_13 => kit_is)
    (case iv_BadCommands_14 => kit_is)
    (case iv_BadCommands_15 => kit_is)
    (case iv_BadCommands_16 => kit_is)
    (case iv_BadCommands_17 => kit_is)
    (case iv_BadCommands_18 => kit_is)
    (case iv_BadCommands_19 => kit_is)
    (case iv_BadCommands_20 => kit_is)
    (case iv_BadKind_11 => kit_is)
    (case iv_BadKind_12 => kit_is)
    (case iv_BadKind_13 => kit_is)
    (case iv_BadKind_14 => kit_is)
    (case iv_BadKind_15 => kit_is)
    (case iv_BadKind_16 => kit_is)
    (case iv_BadKind_17 => kit_is)
    (case iv_BadKind_18 => kit_is)
    (case iv_BadKind_19 => kit_is)
    (case iv_BadKind_20 => kit_is)
    (case iv_BadLength_11 => kit_is)
    (case iv_BadLength_12 => kit_is)
    (case iv_BadLength_13 => kit_is)
    (case iv_BadLength_14 => kit_is)
    (case iv_BadLength_15 => kit_is)
    (case iv_BadLength_16 => kit_is)
    (case iv_BadLength_17 => kit_is)
    (case iv_BadLength_18 => kit_is)
    (case iv_BadLength_19 => kit_is)
    (case iv_BadLength_20 => kit_is)
    (case iv_BadLetter_11 => kit_is)
    (case iv_BadLetter_12 => kit_is)
    (case iv_BadLetter_13 => kit_is)
    (case iv_BadLetter_14 => kit_is)
    (case iv_BadLetter_15 => kit_is)
    (case iv_BadLetter_16 => kit_is)
    (case iv_BadLetter_17 => kit_is)
    (case iv_BadLetter_18 => kit_is)
    (case iv_BadLetter_19 => kit_is)
    (case iv_BadLetter_20 => kit_is)
    (case iv_BadPlace_11 => kit_is)
    (case iv_BadPlace_12 => kit_is)
    (case iv_BadPlace_13 => kit_is)
    (case iv_BadPlace_14 => kit_is)
    (case iv_BadPlace_15 => kit_is)
    (case iv_BadPlace_16 => kit_is)
    (case iv_BadPlace_17 => kit_is)
    (case iv_BadPlace_18 => kit_is)
    (case iv_BadPlace_19 => kit_is)
    (case iv_BadPlace_20 => kit_is)
    (case iv_BadPlaces_11 => kit_is)
    (case iv_BadPlaces_12 => kit_is)
    (case iv_BadPlaces_13 => kit_is)
    (case iv_BadPlaces_14 => kit_is)
    (case iv_BadPlaces_15 => kit_is)
    (case iv_BadPlaces_16 => kit_is)
    (case iv_BadPlaces_17 => kit_is)
    (case iv_BadPlaces_18 => kit_is)
    (case iv_BadPlaces_19 => kit_is)
    (case iv_BadPlaces_20 => kit_is)
    (case iv_BadTale_11 => kit_is)
    (case iv_BadTale_12 => kit_is)
    (case iv_BadTale_13 => kit_is)
    (case iv_BadTale_14 => kit_is)
    (case iv_BadTale_15 => kit_is)
    (case iv_BadTale_16 => kit_is)
    (case iv_BadTale_17 => kit_is)
    (case iv_BadTale_18 => kit_is)
    (case iv_BadTale_19 => kit_is)
    (case iv_BadTale_20 => kit_is)
    (case iv_BadTick_11 => kit_is)
    (case iv_BadTick_12 => kit_is)
    (case iv_BadTick_13 => kit_is)
    (case iv_BadTick_14 => kit_is)
    (case iv_BadTick_15 => kit_is)
    (case iv_BadTick_16 => kit_is)
    (case iv_BadTick_17 => kit_is)
    (case iv_BadTick_18 => kit_is)
    (case iv_BadTick_19 => kit_is)
    (case iv_BadTick_20 => kit_is)
    (case iv_BadWatcher_11 => kit_is)
    (case iv_BadWatcher_12 => kit_is)
    (case iv_BadWatcher_13 => kit_is)
    (case iv_BadWatcher_14 => kit_is)
    (case iv_BadWatcher_15 => kit_is)
    (case iv_BadWatcher_16 => kit_is)
    (case iv_BadWatcher_17 => kit_is)
    (case iv_BadWatcher_18 => kit_is)
    (case iv_BadWatcher_19 => kit_is)
    (case iv_BadWatcher_20 => kit_is)
    (case iv_Busy_11 => kit_is)
    (case iv_Busy_12 => kit_is)
    (case iv_Busy_13 => kit_is)
    (case iv_Busy_14 => kit_is)
    (case iv_Busy_15 => kit_is)
    (case iv_Busy_16 => kit_is)
    (case iv_Busy_17 => kit_is)
    (case iv_Busy_18 => kit_is)
    (case iv_Busy_19 => kit_is)
    (case iv_Busy_20 => kit_is)
    (case iv_V_11 => kit_is)
    (case iv_V_12 => kit_is)
    (case iv_V_13 => kit_is)
    (case iv_V_14 => kit_is)
    (case iv_V_15 => kit_is)
    (case iv_V_16 => kit_is)
    (case iv_V_17 => kit_is)
    (case iv_V_18 => kit_is)
    (case iv_V_19 => kit_is)
    (case iv_V_20 => kit_is)
    (case n_is_whole_ => k_is)
    (case l_is_whole => k_is)
    (case q_is_whole => k_is)
    (case k_is_whole => k_is)
    (case n_asked_length_ => k_is)
    (case l_asked_length => k_is)
    (case q_asked_length => k_is)
    (case k_asked_length => k_is)
    (case n_is_command_ => k_is)
    (case l_is_command => k_is)
    (case q_is_command => k_is)
    (case k_is_command => k_is)
    (case n_asked_commands_ => k_is)
    (case l_asked_commands => k_is)
    (case q_asked_commands => k_is)
    (case k_asked_commands => k_is)
    (case n_asked_tick_ => k_is)
    (case l_asked_tick => k_is)
    (case q_asked_tick => k_is)
    (case k_asked_tick => k_is)
    (case n_stand_of_ => k_is)
    (case l_stand_of => k_is)
    (case q_stand_of => k_is)
    (case k_stand_of => k_is)
    (case n_stand_ => k_is)
    (case l_stand => k_is)
    (case q_stand => k_is)
    (case k_stand => k_is)
    (case n_unlike_ => k_is)
    (case l_unlike => k_is)
    (case q_unlike => k_is)
    (case k_unlike => k_is)
    (case n_asked_two_ => k_is)
    (case l_asked_two => k_is)
    (case q_asked_two => k_is)
    (case k_asked_two => k_is)
    (case n_at_most_ => k_is)
    (case l_at_most => k_is)
    (case q_at_most => k_is)
    (case k_at_most => k_is)
    (case n_Together_shows_ => k_is)
    (case i_Together_shows => k_is)
    (case l_Together_shows => k_is)
    (case q_Together_shows => k_is)
    (case k_Together_shows => k_is)
    (case n_Apart_init_ => k_is)
    (case i_Apart_init => k_is)
    (case l_Apart_init => k_is)
    (case q_Apart_init => k_is)
    (case k_Apart_init => k_is)
    (case n_Apart_shows_ => k_is)
    (case i_Apart_shows => k_is)
    (case l_Apart_shows => k_is)
    (case q_Apart_shows => k_is)
    (case k_Apart_shows => k_is)
    (case n_Meet_init_ => k_is)
    (case i_Meet_init => k_is)
    (case l_Meet_init => k_is)
    (case q_Meet_init => k_is)
    (case k_Meet_init => k_is)
    (case n_Meet_shows_ => k_is)
    (case i_Meet_shows => k_is)
    (case l_Meet_shows => k_is)
    (case q_Meet_shows => k_is)
    (case k_Meet_shows => k_is)
    (case n_judged_ => k_is)
    (case l_judged => k_is)
    (case q_judged => k_is)
    (case k_judged => k_is)
    (case n_asked_places_ => k_is)
    (case l_asked_places => k_is)
    (case q_asked_places => k_is)
    (case k_asked_places => k_is)
    (case n_meet_ => k_is)
    (case l_meet => k_is)
    (case q_meet => k_is)
    (case k_meet => k_is)
    (case n_least_jumps_ => k_is)
    (case l_least_jumps => k_is)
    (case q_least_jumps => k_is)
    (case k_least_jumps => k_is)
    (case n_Room_init_ => k_is)
    (case i_Room_init => k_is)
    (case l_Room_init => k_is)
    (case q_Room_init => k_is)
    (case k_Room_init => k_is)
    (case n_Room_asked_watcher_ => k_is)
    (case i_Room_asked_watcher => k_is)
    (case l_Room_asked_watcher => k_is)
    (case q_Room_asked_watcher => k_is)
    (case k_Room_asked_watcher => k_is)
    (case n_Room_order_ => k_is)
    (case i_Room_order => k_is)
    (case l_Room_order => k_is)
    (case q_Room_order => k_is)
    (case k_Room_order => k_is)
    (case n_Room_bring_ => k_is)
    (case i_Room_bring => k_is)
    (case l_Room_bring => k_is)
    (case q_Room_bring => k_is)
    (case k_Room_bring => k_is)
    (case n_Room_tick_ => k_is)
    (case i_Room_tick => k_is)
    (case l_Room_tick => k_is)
    (case q_Room_tick => k_is)
    (case k_Room_tick => k_is)
    (case n_Room_stands_ => k_is)
    (case i_Room_stands => k_is)
    (case l_Room_stands => k_is)
    (case q_Room_stands => k_is)
    (case k_Room_stands => k_is)
    (case n_Room_knows_ => k_is)
    (case i_Room_knows => k_is)
    (case l_Room_knows => k_is)
    (case q_Room_knows => k_is)
    (case k_Room_knows => k_is)
    (case n_Room_at_rest_ => k_is)
    (case i_Room_at_rest => k_is)
    (case l_Room_at_rest => k_is)
    (case q_Room_at_rest => k_is)
    (case k_Room_at_rest => k_is)
    (case n_Room_tale_ => k_is)
    (case i_Room_tale => k_is)
    (case l_Room_tale => k_is)
    (case q_Room_tale => k_is)
    (case k_Room_tale => k_is)
    (case n_is_line_ => k_is)
    (case l_is_line => k_is)
    (case q_is_line => k_is)
    (case k_is_line => k_is)
    (case n_can_come_ => k_is)
    (case l_can_come => k_is)
    (case q_can_come => k_is)
    (case k_can_come => k_is)
    (case n_first_wrong_ => k_is)
    (case l_first_wrong => k_is)
    (case q_first_wrong => k_is)
    (case k_first_wrong => k_is)
    (case n_Right_shows_ => k_is)
    (case i_Right_shows => k_is)
    (case l_Right_shows => k_is)
    (case q_Right_shows => k_is)
    (case k_Right_shows => k_is)
    (case n_Wrong_init_ => k_is)
    (case i_Wrong_init => k_is)
    (case l_Wrong_init => k_is)
    (case q_Wrong_init => k_is)
    (case k_Wrong_init => k_is)
    (case n_Wrong_shows_ => k_is)
    (case i_Wrong_shows => k_is)
    (case l_Wrong_shows => k_is)
    (case q_Wrong_shows => k_is)
    (case k_Wrong_shows => k_is)
    (case n_tale_judged_ => k_is)
    (case l_tale_judged => k_is)
    (case q_tale_judged => k_is)
    (case k_tale_judged => k_is)
    (case n_law_refused_ => k_is)
    (case l_law_refused => k_is)
    (case q_law_refused => k_is)
    (case k_law_refused => k_is)
    (case n_law_number_ => k_is)
    (case l_law_number => k_is)
    (case q_law_number => k_is)
    (case k_law_number => k_is)
    (case n_law_commands_ => k_is)
    (case l_law_commands => k_is)
    (case q_law_commands => k_is)
    (case k_law_commands => k_is)
    (case n_law_length_ => k_is)
    (case l_law_length => k_is)
    (case q_law_length => k_is)
    (case k_law_length => k_is)
    (case n_law_places_ => k_is)
    (case l_law_places => k_is)
    (case q_law_places => k_is)
    (case k_law_places => k_is)
    (case n_law_plain_ => k_is)
    (case l_law_plain => k_is)
    (case q_law_plain => k_is)
    (case k_law_plain => k_is)
    (case n_law_truths_ => k_is)
    (case l_law_truths => k_is)
    (case q_law_truths => k_is)
    (case k_law_truths => k_is)
    (case n_law_told_right_ => k_is)
    (case l_law_told_right => k_is)
    (case q_law_told_right => k_is)
    (case k_law_told_right => k_is)
    (case n_law_room_right_ => k_is)
    (case l_law_room_right => k_is)
    (case q_law_room_right => k_is)
    (case k_law_room_right => k_is)
    (case n_law_line_ends_right_ => k_is)
    (case l_law_line_ends_right => k_is)
    (case lc_law_line_ends_right => k_is)
    (case lp_law_line_ends_right => exact rfl)
    (case hc_law_line_ends_right => kernel_rfl)
    (case np_law_line_ends_right => kernel_rfl)
    (case rc_law_line_ends_right => decide +kernel)
    (case q_law_line_ends_right => k_is)
    (case k_law_line_ends_right => k_is)
    (case n_law_moves_right_ => k_is)
    (case l_law_moves_right => k_is)
    (case q_law_moves_right => k_is)
    (case k_law_moves_right => k_is)
    (case n_law_ => k_is)
    (case l_law => k_is)
    (case q_law => k_is)
    (case k_law => k_is)

