import PyProof.Rows.All
import Wide.All
import OpenK.AllK
import Wide.FinOn
import HandS.ForMost
import HandS.Style
import HandS.Flow
import HandS.Steps
import HandS.Wide
import HandS.Gcd
import HandS.IsInst
import HandS.Deep
import HandS.TupMul
import KE.GoesZip
import KE.GoesEnumKw
import HandS.Zip0
import HandS.SortKw
import HandS.EndBits
import PySem.Challenge.RW_growth_k36_whole_fractions_and_sums
set_option Elab.async false
set_option linter.all false
set_option maxRecDepth 100000
/-! Mi, part 1: deep values, slots, the relation to the abstract heap. -/
namespace Mi
open PySem PySem.Spec PyProof.Rows L2

/-- deep values -/
inductive D where
  | non | bl (b : Bool) | int (i : Int) | str (x : List Nat) | lst (xs : List D) | tup (xs : List D) | dct (ks vs : List D) | scr (ns : List Int)

/-- a slot: nothing known, a frozen value, an owned object (its content); the flag: may not be stored to -/
inductive Sl where
  | no | fr (d : D) (l : Bool) | ow (d : D) (l : Bool)
/-- a result: a frozen value, a new object that nobody else knows -/
inductive R where
  | v (d : D) | n (d : D)
/-- an operand: a frozen value, a slot -/
inductive Op where
  | d (d : D) | s (i : Nat)
inductive Out where
  | nx (σ : List Sl) | bk (σ : List Sl) | ct (σ : List Sl) | rt (r : R) (σ : List Sl)

def keyD : Key → D
  | .inl i => .int i
  | .inr x => .str x.cps.toList

mutual
def Rep (K : PySem.W.Frag) (H : Hp) : D → V → Prop
  | .non, v => v = .non
  | .bl b, v => v = .bl b
  | .int i, v => v = .int i
  | .str x, v => v = .str ⟨x.toArray⟩
  | .lst xs, v => ∃ a vs, v = .ref a ∧ Rd H a (.lst vs) ∧ RepL K H xs vs
  | .tup xs, v => ∃ a vs, v = .ref a ∧ SqT K H a vs ∧ RepL K H xs vs
  | .dct ks xs, v => ∃ a kvs, v = .ref a ∧ Rd H a (.dK kvs) ∧ ks = kvs.map (fun p => keyD p.1) ∧ RepL K H xs (kvs.map (·.2))
  | .scr ns, v => ∃ a, v = .ref a ∧ SqL K H a (ns.map V.int)
def RepL (K : PySem.W.Frag) (H : Hp) : List D → List V → Prop
  | [], vs => vs = []
  | d :: ds, vs => ∃ v r, vs = v :: r ∧ Rep K H d v ∧ RepL K H ds r
end

theorem same_rd {H H' : Hp} {a : Addr} {u : HO} (e : Same H H') (h : Rd H a u) : Rd H' a u := by
  rcases h with h | ⟨o, h⟩
  · exact .inl (e a _ h)
  · exact .inr ⟨o, e a _ h⟩
theorem same_l {K : PySem.W.Frag} {H H' : Hp} {a : Addr} {xs : List V} (e : Same H H') (h : SqL K H a xs) : SqL K H' a xs := e.seq h
theorem same_t {K : PySem.W.Frag} {H H' : Hp} {a : Addr} {xs : List V} (e : Same H H') (h : SqT K H a xs) : SqT K H' a xs := by
  rcases h with h | h
  · exact .inl (same_rd e h)
  · exact .inr h
theorem same_new {H : Hp} {p : Addr} {o : HO} (h : H p = none) : Same H (upd H p o) := fun b x e => by
  rw [upd_ne (ne_of_none e h)]; exact e

mutual
theorem Rep.mono {K : PySem.W.Frag} {H H' : Hp} (e : Same H H') : ∀ {d : D} {v : V}, Rep K H d v → Rep K H' d v
  | .non, _, h => h
  | .bl _, _, h => h
  | .int _, _, h => h
  | .str _, _, h => h
  | .lst xs, v, h => by
    obtain ⟨a, vs, e1, h1, h2⟩ := h
    exact ⟨a, vs, e1, same_rd e h1, RepL.mono e h2⟩
  | .tup xs, v, h => by
    obtain ⟨a, vs, e1, h1, h2⟩ := h
    exact ⟨a, vs, e1, same_t e h1, RepL.mono e h2⟩
  | .dct ks xs, v, h => by
    obtain ⟨a, kvs, e1, h1, h2, h3⟩ := h
    exact ⟨a, kvs, e1, same_rd e h1, h2, RepL.mono e h3⟩
  | .scr ns, v, h => by
    obtain ⟨a, e1, h1⟩ := h
    exact ⟨a, e1, same_l e h1⟩
theorem RepL.mono {K : PySem.W.Frag} {H H' : Hp} (e : Same H H') : ∀ {ds : List D} {vs : List V}, RepL K H ds vs → RepL K H' ds vs
  | [], _, h => h
  | d :: ds, vs, h => by
    obtain ⟨v, r, e1, h1, h2⟩ := h
    exact ⟨v, r, e1, Rep.mono e h1, RepL.mono e h2⟩
end

section
variable {K : PySem.W.Frag} {G H : Hp}
theorem RepL.nil : RepL K G [] [] := rfl
theorem RepL.cons {d : D} {ds : List D} {v : V} {vs : List V} (h1 : Rep K G d v) (h2 : RepL K G ds vs) : RepL K G (d :: ds) (v :: vs) := ⟨v, vs, rfl, h1, h2⟩
theorem RepL.length : ∀ {ds : List D} {vs : List V}, RepL K G ds vs → ds.length = vs.length
  | [], vs, h => by have e : vs = [] := h; subst e; rfl
  | d :: ds, vs, h => by
    obtain ⟨v, r, e1, _, h2⟩ := h
    subst e1
    rw [List.length_cons, List.length_cons, h2.length]
theorem RepL.append : ∀ {ds es : List D} {vs us : List V}, RepL K G ds vs → RepL K G es us → RepL K G (ds ++ es) (vs ++ us)
  | [], es, vs, us, h, h' => by have e : vs = [] := h; subst e; exact h'
  | d :: ds, es, vs, us, h, h' => by
    obtain ⟨v, r, e1, h1, h2⟩ := h
    subst e1
    exact ⟨v, r ++ us, rfl, h1, h2.append h'⟩
theorem RepL.get : ∀ {ds : List D} {vs : List V} {i : Nat} {d : D}, RepL K G ds vs → ds[i]? = some d → ∃ v, vs[i]? = some v ∧ Rep K G d v
  | [], vs, i, d, h, e => by simp at e
  | d :: ds, vs, 0, x, h, e => by
    obtain ⟨v, r, e1, h1, h2⟩ := h
    subst e1
    have : d = x := by simpa using e
    subst this
    exact ⟨v, rfl, h1⟩
  | d :: ds, vs, i + 1, x, h, e => by
    obtain ⟨v, r, e1, h1, h2⟩ := h
    subst e1
    obtain ⟨w, e2, h3⟩ := h2.get (i := i) (d := x) (by simpa using e)
    exact ⟨w, by simpa using e2, h3⟩
theorem RepL.getV {ds : List D} {vs : List V} {i : Nat} {v : V} (h : RepL K G ds vs) (e : vs[i]? = some v) : ∃ d, ds[i]? = some d ∧ Rep K G d v := by
  have hi : i < ds.length := by rw [h.length]; exact (List.getElem?_eq_some_iff.mp e).1
  obtain ⟨w, e2, h3⟩ := h.get (List.getElem?_eq_getElem hi)
  rw [e] at e2
  cases e2
  exact ⟨_, List.getElem?_eq_getElem hi, h3⟩
theorem RepL.set : ∀ {ds : List D} {vs : List V} {i : Nat} {d : D} {v : V}, RepL K G ds vs → Rep K G d v → RepL K G (ds.set i d) (vs.set i v)
  | [], vs, i, d, v, h, h' => by have e : vs = [] := h; subst e; exact rfl
  | x :: ds, vs, 0, d, v, h, h' => by
    obtain ⟨w, r, e1, h1, h2⟩ := h
    subst e1
    exact ⟨v, r, rfl, h', h2⟩
  | x :: ds, vs, i + 1, d, v, h, h' => by
    obtain ⟨w, r, e1, h1, h2⟩ := h
    subst e1
    exact ⟨w, r.set i v, rfl, h1, h2.set h'⟩
theorem RepL.drop : ∀ {ds : List D} {vs : List V} (n : Nat), RepL K G ds vs → RepL K G (ds.drop n) (vs.drop n)
  | ds, vs, 0, h => h
  | [], vs, n + 1, h => by have e : vs = [] := h; subst e; exact rfl
  | d :: ds, vs, n + 1, h => by
    obtain ⟨v, r, e1, h1, h2⟩ := h
    subst e1
    exact RepL.drop n h2
theorem RepL.take : ∀ {ds : List D} {vs : List V} (n : Nat), RepL K G ds vs → RepL K G (ds.take n) (vs.take n)
  | ds, vs, 0, h => rfl
  | [], vs, n + 1, h => by have e : vs = [] := h; subst e; exact rfl
  | d :: ds, vs, n + 1, h => by
    obtain ⟨v, r, e1, h1, h2⟩ := h
    subst e1
    exact ⟨v, r.take n, rfl, h1, RepL.take n h2⟩
theorem RepL.reverse : ∀ {ds : List D} {vs : List V}, RepL K G ds vs → RepL K G ds.reverse vs.reverse
  | [], vs, h => by have e : vs = [] := h; subst e; exact rfl
  | d :: ds, vs, h => by
    obtain ⟨v, r, e1, h1, h2⟩ := h
    subst e1
    rw [List.reverse_cons, List.reverse_cons]
    exact h2.reverse.append (.cons h1 .nil)
theorem RepL.ints : ∀ {ns : List Int} {vs : List V}, RepL K G (ns.map D.int) vs → vs = ns.map V.int
  | [], vs, h => h
  | n :: ns, vs, h => by
    obtain ⟨v, r, e1, h1, h2⟩ := h
    subst e1
    have e : v = .int n := h1
    rw [e, h2.ints]
    rfl
theorem RepL.of_ints : ∀ {ns : List Int}, RepL K G (ns.map D.int) (ns.map V.int)
  | [] => rfl
  | n :: ns => ⟨.int n, ns.map V.int, rfl, rfl, RepL.of_ints⟩
end

/-- read now: the object stands in H, what is in it is frozen -/
def RepE (K : PySem.W.Frag) (G H : Hp) : D → V → Prop
  | .lst xs, v => ∃ a vs, v = .ref a ∧ Rd H a (.lst vs) ∧ RepL K G xs vs
  | .dct ks xs, v => ∃ a kvs, v = .ref a ∧ Rd H a (.dK kvs) ∧ ks = kvs.map (fun p => keyD p.1) ∧ RepL K G xs (kvs.map (·.2))
  | .scr ns, v => ∃ a, v = .ref a ∧ SqL K H a (ns.map V.int)
  | d, v => Rep K G d v
/-- the owned object at a -/
def OwnE (K : PySem.W.Frag) (G H : Hp) : D → Addr → Prop
  | .lst xs, a => ∃ vs, H a = some (.lst vs) ∧ RepL K G xs vs
  | .dct ks xs, a => ∃ kvs, H a = some (.dK kvs) ∧ ks = kvs.map (fun p => keyD p.1) ∧ RepL K G xs (kvs.map (·.2))
  | _, _ => False

section
variable {K : PySem.W.Frag} {F G G' H H' : Hp}
theorem Rep.e (e : Same G H) : ∀ {d : D} {v : V}, Rep K G d v → RepE K G H d v
  | .non, _, h => h
  | .bl _, _, h => h
  | .int _, _, h => h
  | .str _, _, h => h
  | .lst xs, v, h => by
    obtain ⟨a, vs, e1, h1, h2⟩ := h
    exact ⟨a, vs, e1, same_rd e h1, h2⟩
  | .tup xs, v, h => h
  | .dct ks xs, v, h => by
    obtain ⟨a, kvs, e1, h1, h2, h3⟩ := h
    exact ⟨a, kvs, e1, same_rd e h1, h2, h3⟩
  | .scr ns, v, h => by
    obtain ⟨a, e1, h1⟩ := h
    exact ⟨a, e1, same_l e h1⟩
/-- what is read is there, deep -/
theorem RepE.deep (e : Same G H) : ∀ {d : D} {v : V}, RepE K G H d v → Rep K H d v
  | .non, _, h => h
  | .bl _, _, h => h
  | .int _, _, h => h
  | .str _, _, h => h
  | .lst xs, v, h => by
    obtain ⟨a, vs, e1, h1, h2⟩ := h
    exact ⟨a, vs, e1, h1, h2.mono e⟩
  | .tup xs, v, h => Rep.mono e (d := .tup xs) h
  | .dct ks xs, v, h => by
    obtain ⟨a, kvs, e1, h1, h2, h3⟩ := h
    exact ⟨a, kvs, e1, h1, h2, h3.mono e⟩
  | .scr ns, v, h => h
theorem OwnE.e : ∀ {d : D} {a : Addr}, OwnE K G H d a → RepE K G H d (.ref a)
  | .non, _, h => h.elim
  | .bl _, _, h => h.elim
  | .int _, _, h => h.elim
  | .str _, _, h => h.elim
  | .lst xs, a, h => by
    obtain ⟨vs, h1, h2⟩ := h
    exact ⟨a, vs, rfl, .inl h1, h2⟩
  | .tup xs, a, h => h.elim
  | .dct ks xs, a, h => by
    obtain ⟨kvs, h1, h2, h3⟩ := h
    exact ⟨a, kvs, rfl, .inl h1, h2, h3⟩
  | .scr _, _, h => h.elim
theorem OwnE.mono (e : Same G G') : ∀ {d : D} {a : Addr}, OwnE K G H d a → H' a = H a → OwnE K G' H' d a
  | .non, _, h, _ => h.elim
  | .bl _, _, h, _ => h.elim
  | .int _, _, h, _ => h.elim
  | .str _, _, h, _ => h.elim
  | .lst xs, a, h, q => by
    obtain ⟨vs, h1, h2⟩ := h
    exact ⟨vs, q.trans h1, h2.mono e⟩
  | .tup xs, a, h, _ => h.elim
  | .dct ks xs, a, h, q => by
    obtain ⟨kvs, h1, h2, h3⟩ := h
    exact ⟨kvs, q.trans h1, h2, h3.mono e⟩
  | .scr _, _, h, _ => h.elim
theorem OwnE.there : ∀ {d : D} {a : Addr}, OwnE K G H d a → ∃ o, H a = some o
  | .non, _, h => h.elim
  | .bl _, _, h => h.elim
  | .int _, _, h => h.elim
  | .str _, _, h => h.elim
  | .lst xs, a, h => by
    obtain ⟨vs, h1, h2⟩ := h
    exact ⟨_, h1⟩
  | .tup xs, a, h => h.elim
  | .dct ks xs, a, h => by
    obtain ⟨kvs, h1, h2, h3⟩ := h
    exact ⟨_, h1⟩
  | .scr _, _, h => h.elim
/-- frozen: its object is from now on among what never changes -/
theorem OwnE.freeze (hg : G a = none) (ho : H a = some o) : ∀ {d : D}, OwnE K G H d a → Rep K (upd G a o) d (.ref a)
  | .non, h => h.elim
  | .bl _, h => h.elim
  | .int _, h => h.elim
  | .str _, h => h.elim
  | .lst xs, h => by
    obtain ⟨vs, h1, h2⟩ := h
    rw [ho] at h1; cases h1
    exact ⟨a, vs, rfl, .inl upd_same, h2.mono (same_new hg)⟩
  | .tup xs, h => h.elim
  | .scr _, h => h.elim
  | .dct ks xs, h => by
    obtain ⟨kvs, h1, h2, h3⟩ := h
    rw [ho] at h1; cases h1
    exact ⟨a, kvs, rfl, .inl upd_same, h2, h3.mono (same_new hg)⟩
end

def Sl.lk : Sl → Bool
  | .no => false
  | .fr _ l => l
  | .ow _ l => l

/-- the state: F what others own, B the slots that are locked (with their values), G what is frozen -/
structure Rel (K : PySem.W.Frag) (F : Hp) (B : List (Nat × V)) (G : Hp) (σ : List Sl) (σv : L2.St) (H : Hp) : Prop where
  gh : Same G H
  fh : ∀ a o, F a = some o → H a = some o ∧ G a = none
  len : σ.length = σv.length
  fr : ∀ (i : Nat) d l, σ[i]? = some (.fr d l) → ∃ v, σv[i]? = some (some v) ∧ Rep K G d v
  ow : ∀ (i : Nat) d l, σ[i]? = some (.ow d l) → ∃ a, σv[i]? = some (some (.ref a)) ∧ G a = none ∧ F a = none ∧ OwnE K G H d a
  inj : ∀ (i j : Nat) a di dj li lj, σ[i]? = some (.ow di li) → σ[j]? = some (.ow dj lj) → σv[i]? = some (some (.ref a)) → σv[j]? = some (some (.ref a)) → i = j
  lock : ∀ p ∈ B, σv[p.1]? = some (some p.2) ∧ ∃ s, σ[p.1]? = some s ∧ s.lk = true

/-- a is no slot's own object -/
def Away (σ : List Sl) (σv : L2.St) (a : Addr) : Prop := ∀ (i : Nat) d l, σ[i]? = some (.ow d l) → σv[i]? ≠ some (some (.ref a))
def ResOk (K : PySem.W.Frag) (F G H : Hp) (σ : List Sl) (σv : L2.St) : R → V → Prop
  | .v d, v => Rep K G d v
  | .n d, v => ∃ a, v = .ref a ∧ G a = none ∧ F a = none ∧ OwnE K G H d a ∧ Away σ σv a

section
variable {K : PySem.W.Frag} {F G G' H H' : Hp} {B : List (Nat × V)} {σ : List Sl} {σv : L2.St}
/-- the heap grows, what is frozen grows, no own object changes -/
theorem Rel.grow (r : Rel K F B G σ σv H) (e : Same G G') (e2 : Same G' H') (k : ∀ a o, H a = some o → G a = none → H' a = some o ∧ G' a = none) : Rel K F B G' σ σv H' := by
  refine ⟨e2, fun a o h => ?_, r.len, fun i d l h => ?_, fun i d l h => ?_, r.inj, r.lock⟩
  · obtain ⟨h1, h2⟩ := r.fh a o h
    exact k a o h1 h2
  · obtain ⟨v, h1, h2⟩ := r.fr i d l h
    exact ⟨v, h1, h2.mono e⟩
  · obtain ⟨a, h1, h2, h3, h4⟩ := r.ow i d l h
    obtain ⟨o, ho⟩ := h4.there
    obtain ⟨q1, q2⟩ := k a o ho h2
    exact ⟨a, h1, q2, h3, h4.mono e (q1.trans ho.symm)⟩
/-- a new frozen object -/
theorem Rel.laid (r : Rel K F B G σ σv H) {p : Addr} {o : HO} (hp : H p = none) : Rel K F B (upd G p o) σ σv (upd H p o) := by
  have hg : G p = none := by
    cases q : G p with
    | none => rfl
    | some u => rw [r.gh p u q] at hp; cases hp
  refine r.grow (same_new hg) (fun a u h => ?_) fun a u h h2 => ?_
  · by_cases e : a = p
    · subst e; rw [upd_same] at h ⊢; exact h
    · rw [upd_ne e] at h ⊢; exact r.gh a u h
  · have e : a ≠ p := ne_of_none h hp
    rw [upd_ne e, upd_ne e]; exact ⟨h, h2⟩
theorem Rel.fresh (r : Rel K F B G σ σv H) {p : Addr} (hp : H p = none) : G p = none ∧ F p = none ∧ Away σ σv p := by
  refine ⟨?_, ?_, fun i d l h e => ?_⟩
  · cases q : G p with
    | none => rfl
    | some u => rw [r.gh p u q] at hp; cases hp
  · cases q : F p with
    | none => rfl
    | some u => rw [(r.fh p u q).1] at hp; cases hp
  · obtain ⟨a, h1, _, _, h4⟩ := r.ow i d l h
    rw [e] at h1; cases h1
    obtain ⟨o, ho⟩ := h4.there
    rw [ho] at hp; cases hp
/-- a new object that nobody knows -/
theorem Rel.made (r : Rel K F B G σ σv H) {p : Addr} {o : HO} (hp : H p = none) : Rel K F B G σ σv (upd H p o) := by
  refine r.grow (Same.refl G) (r.gh.trans (same_new hp)) fun a u h h2 => ?_
  rw [upd_ne (ne_of_none h hp)]; exact ⟨h, h2⟩
theorem Rel.res_n (r : Rel K F B G σ σv H) {p : Addr} {xs : List D} {vs : List V} (hp : H p = none) (hl : RepL K G xs vs) : ResOk K F G (upd H p (.lst vs)) σ σv (.n (.lst xs)) (.ref p) := by
  obtain ⟨h1, h2, h3⟩ := r.fresh hp
  exact ⟨p, rfl, h1, h2, ⟨vs, upd_same, hl⟩, h3⟩
theorem Rel.res_t (r : Rel K F B G σ σv H) {p : Addr} {xs : List D} {vs : List V} (hp : H p = none) (hl : RepL K G xs vs) : ResOk K F (upd G p (.tup vs)) (upd H p (.tup vs)) σ σv (.v (.tup xs)) (.ref p) :=
  ⟨p, vs, rfl, .inl (.inl upd_same), hl.mono (same_new (r.fresh hp).1)⟩
/-- a result is frozen -/
theorem Rel.freezeR (r : Rel K F B G σ σv H) {res : R} {v : V} (h : ResOk K F G H σ σv res v) : ∃ G', Same G G' ∧ Rel K F B G' σ σv H ∧ (match res with | .v d => Rep K G' d v | .n d => Rep K G' d v) := by
  cases res with
  | v d => exact ⟨G, Same.refl G, r, h⟩
  | n d =>
    obtain ⟨a, rfl, h1, h2, h3, h4⟩ := h
    obtain ⟨o, ho⟩ := h3.there
    refine ⟨upd G a o, same_new h1, ⟨fun b u q => ?_, fun b u q => ?_, r.len, fun i d' l q => ?_, fun i d' l q => ?_, r.inj, r.lock⟩, h3.freeze h1 ho⟩
    · by_cases e : b = a
      · subst e; rw [upd_same] at q; cases q; exact ho
      · rw [upd_ne e] at q; exact r.gh b u q
    · obtain ⟨q1, q2⟩ := r.fh b u q
      have e : b ≠ a := fun z => by subst z; rw [h2] at q; cases q
      exact ⟨q1, by rw [upd_ne e]; exact q2⟩
    · obtain ⟨w, q1, q2⟩ := r.fr i d' l q
      exact ⟨w, q1, q2.mono (same_new h1)⟩
    · obtain ⟨b, q1, q2, q3, q4⟩ := r.ow i d' l q
      have e : b ≠ a := fun z => by subst z; exact h4 i d' l q q1
      exact ⟨b, q1, by rw [upd_ne e]; exact q2, q3, q4.mono (same_new h1) rfl⟩
theorem getElem?_set_cases {α : Type} {l : List α} {i j : Nat} {x y : α} (h : (l.set i x)[j]? = some y) : (j = i ∧ y = x ∧ i < l.length) ∨ (j ≠ i ∧ l[j]? = some y) := by
  by_cases e : i = j
  · subst e
    by_cases hl : i < l.length
    · rw [List.getElem?_set_self hl] at h; cases h; exact .inl ⟨rfl, rfl, hl⟩
    · rw [List.getElem?_eq_none (by rw [List.length_set]; omega)] at h; cases h
  · rw [List.getElem?_set_ne e] at h
    exact .inr ⟨fun z => e z.symm, h⟩
/-- a slot's own object is frozen -/
theorem Rel.freezeS (r : Rel K F B G σ σv H) {i : Nat} {d : D} {l : Bool} (h : σ[i]? = some (.ow d l)) : ∃ a o, σv[i]? = some (some (.ref a)) ∧ H a = some o ∧ G a = none ∧ Same G (upd G a o) ∧ Rel K F B (upd G a o) (σ.set i (.fr d l)) σv H ∧ Rep K (upd G a o) d (.ref a) := by
  obtain ⟨a, h0, h1, h2, h3⟩ := r.ow i d l h
  obtain ⟨o, ho⟩ := h3.there
  have hil : i < σ.length := (List.getElem?_eq_some_iff.mp h).1
  refine ⟨a, o, h0, ho, h1, same_new h1, ⟨fun b u q => ?_, fun b u q => ?_, by rw [List.length_set]; exact r.len, fun j d' l' q => ?_, fun j d' l' q => ?_, fun j k b dj dk lj lk q1 q2 => ?_, fun p hp => ?_⟩, h3.freeze h1 ho⟩
  · by_cases e : b = a
    · subst e; rw [upd_same] at q; cases q; exact ho
    · rw [upd_ne e] at q; exact r.gh b u q
  · obtain ⟨q1, q2⟩ := r.fh b u q
    have e : b ≠ a := fun z => by subst z; rw [h2] at q; cases q
    exact ⟨q1, by rw [upd_ne e]; exact q2⟩
  · rcases getElem?_set_cases q with ⟨rfl, e, _⟩ | ⟨ne, q⟩
    · cases e
      exact ⟨_, h0, h3.freeze h1 ho⟩
    · obtain ⟨w, q1, q2⟩ := r.fr j d' l' q
      exact ⟨w, q1, q2.mono (same_new h1)⟩
  · rcases getElem?_set_cases q with ⟨rfl, e, _⟩ | ⟨ne, q⟩
    · cases e
    · obtain ⟨b, q1, q2, q3, q4⟩ := r.ow j d' l' q
      have e : b ≠ a := fun z => by subst z; exact ne (r.inj j i b d' d l' l q h q1 h0)
      exact ⟨b, q1, by rw [upd_ne e]; exact q2, q3, q4.mono (same_new h1) rfl⟩
  · rcases getElem?_set_cases q1 with ⟨rfl, e, _⟩ | ⟨ne, q1⟩
    · cases e
    · rcases getElem?_set_cases q2 with ⟨rfl, e, _⟩ | ⟨ne, q2⟩
      · cases e
      · exact r.inj j k b dj dk lj lk q1 q2
  · obtain ⟨q1, s, q2, q3⟩ := r.lock p hp
    refine ⟨q1, ?_⟩
    by_cases e : i = p.1
    · subst e
      rw [h] at q2; cases q2
      exact ⟨_, List.getElem?_set_self hil, q3⟩
    · exact ⟨s, by rw [List.getElem?_set_ne e]; exact q2, q3⟩
/-- a slot's own object is written -/
theorem Rel.write (r : Rel K F B G σ σv H) {i : Nat} {d d' : D} {l : Bool} {a : Addr} {o : HO} (h : σ[i]? = some (.ow d l)) (ha : σv[i]? = some (some (.ref a))) (hn : ∀ H', H' a = some o → OwnE K G H' d' a) : Rel K F B G (σ.set i (.ow d' l)) σv (upd H a o) := by
  obtain ⟨a', h0, h1, h2, h3⟩ := r.ow i d l h
  rw [ha] at h0; cases h0
  have hil : i < σ.length := (List.getElem?_eq_some_iff.mp h).1
  refine ⟨fun b u q => ?_, fun b u q => ?_, by rw [List.length_set]; exact r.len, fun j e l' q => ?_, fun j e l' q => ?_, fun j k b dj dk lj lk q1 q2 w1 w2 => ?_, fun p hp => ?_⟩
  · have e : b ≠ a := fun z => by subst z; rw [h1] at q; cases q
    rw [upd_ne e]; exact r.gh b u q
  · obtain ⟨q1, q2⟩ := r.fh b u q
    have e : b ≠ a := fun z => by subst z; rw [h2] at q; cases q
    exact ⟨by rw [upd_ne e]; exact q1, q2⟩
  · rcases getElem?_set_cases q with ⟨rfl, e, _⟩ | ⟨ne, q⟩
    · cases e
    · exact r.fr j e l' q
  · rcases getElem?_set_cases q with ⟨rfl, e, _⟩ | ⟨ne, q⟩
    · cases e
      exact ⟨a, ha, h1, h2, hn _ upd_same⟩
    · obtain ⟨b, q1, q2, q3, q4⟩ := r.ow j e l' q
      have e : b ≠ a := fun z => by subst z; exact ne (r.inj j i b e d l' l q h q1 ha)
      exact ⟨b, q1, q2, q3, q4.mono (Same.refl G) (upd_ne e)⟩
  · have f : ∀ (m : Nat) dm lm, (σ.set i (.ow d' l))[m]? = some (.ow dm lm) → ∃ dm' lm', σ[m]? = some (.ow dm' lm') := fun m dm lm q => by
      rcases getElem?_set_cases q with ⟨rfl, e, _⟩ | ⟨ne, q⟩
      · exact ⟨_, _, h⟩
      · exact ⟨_, _, q⟩
    obtain ⟨_, _, z1⟩ := f j dj lj q1
    obtain ⟨_, _, z2⟩ := f k dk lk q2
    exact r.inj j k b _ _ _ _ z1 z2 w1 w2
  · obtain ⟨q1, s, q2, q3⟩ := r.lock p hp
    refine ⟨q1, ?_⟩
    by_cases e : i = p.1
    · subst e
      rw [h] at q2; cases q2
      exact ⟨_, List.getElem?_set_self hil, q3⟩
    · exact ⟨s, by rw [List.getElem?_set_ne e]; exact q2, q3⟩
/-- a frozen value is stored at an unlocked slot -/
theorem Rel.store (r : Rel K F B G σ σv H) {i : Nat} {d : D} {v : V} {s : Sl} (hs : σ[i]? = some s) (hl : s.lk = false) (h : Rep K G d v) : Rel K F B G (σ.set i (.fr d false)) (σv.set i (some v)) H := by
  have hil : i < σ.length := (List.getElem?_eq_some_iff.mp hs).1
  have hiv : i < σv.length := by rw [← r.len]; exact hil
  refine ⟨r.gh, r.fh, by rw [List.length_set, List.length_set]; exact r.len, fun j e l' q => ?_, fun j e l' q => ?_, fun j k b dj dk lj lk q1 q2 w1 w2 => ?_, fun p hp => ?_⟩
  · rcases getElem?_set_cases q with ⟨rfl, e, _⟩ | ⟨ne, q⟩
    · cases e
      exact ⟨v, List.getElem?_set_self hiv, h⟩
    · obtain ⟨w, q1, q2⟩ := r.fr j e l' q
      exact ⟨w, by rw [List.getElem?_set_ne (Ne.symm ne)]; exact q1, q2⟩
  · rcases getElem?_set_cases q with ⟨rfl, e, _⟩ | ⟨ne, q⟩
    · cases e
    · obtain ⟨b, q1, q2⟩ := r.ow j e l' q
      exact ⟨b, by rw [List.getElem?_set_ne (Ne.symm ne)]; exact q1, q2⟩
  · rcases getElem?_set_cases q1 with ⟨rfl, e, _⟩ | ⟨n1, q1⟩
    · cases e
    · rcases getElem?_set_cases q2 with ⟨rfl, e, _⟩ | ⟨n2, q2⟩
      · cases e
      · rw [List.getElem?_set_ne (Ne.symm n1)] at w1
        rw [List.getElem?_set_ne (Ne.symm n2)] at w2
        exact r.inj j k b _ _ _ _ q1 q2 w1 w2
  · obtain ⟨q1, s', q2, q3⟩ := r.lock p hp
    have e : i ≠ p.1 := fun z => by
      subst z
      rw [hs] at q2; cases q2
      rw [hl] at q3; cases q3
    exact ⟨by rw [List.getElem?_set_ne e]; exact q1, s', by rw [List.getElem?_set_ne e]; exact q2, q3⟩
/-- a new object is stored at an unlocked slot: the slot owns it -/
theorem Rel.own (r : Rel K F B G σ σv H) {i : Nat} {d : D} {a : Addr} {s : Sl} (hs : σ[i]? = some s) (hl : s.lk = false) (h1 : G a = none) (h2 : F a = none) (h3 : OwnE K G H d a) (h4 : Away σ σv a) : Rel K F B G (σ.set i (.ow d false)) (σv.set i (some (.ref a))) H := by
  have hil : i < σ.length := (List.getElem?_eq_some_iff.mp hs).1
  have hiv : i < σv.length := by rw [← r.len]; exact hil
  refine ⟨r.gh, r.fh, by rw [List.length_set, List.length_set]; exact r.len, fun j e l' q => ?_, fun j e l' q => ?_, fun j k b dj dk lj lk q1 q2 w1 w2 => ?_, fun p hp => ?_⟩
  · rcases getElem?_set_cases q with ⟨rfl, e, _⟩ | ⟨ne, q⟩
    · cases e
    · obtain ⟨w, q1, q2⟩ := r.fr j e l' q
      exact ⟨w, by rw [List.getElem?_set_ne (Ne.symm ne)]; exact q1, q2⟩
  · rcases getElem?_set_cases q with ⟨rfl, e, _⟩ | ⟨ne, q⟩
    · cases e
      exact ⟨a, List.getElem?_set_self hiv, h1, h2, h3⟩
    · obtain ⟨b, q1, q2⟩ := r.ow j e l' q
      exact ⟨b, by rw [List.getElem?_set_ne (Ne.symm ne)]; exact q1, q2⟩
  · rcases getElem?_set_cases q1 with ⟨e1, _, _⟩ | ⟨n1, z1⟩
    · rcases getElem?_set_cases q2 with ⟨e2, _, _⟩ | ⟨n2, z2⟩
      · rw [e1, e2]
      · rw [e1, List.getElem?_set_self hiv] at w1; cases w1
        rw [List.getElem?_set_ne (Ne.symm n2)] at w2
        exact absurd w2 (h4 k _ _ z2)
    · rcases getElem?_set_cases q2 with ⟨e2, _, _⟩ | ⟨n2, z2⟩
      · rw [e2, List.getElem?_set_self hiv] at w2; cases w2
        rw [List.getElem?_set_ne (Ne.symm n1)] at w1
        exact absurd w1 (h4 j _ _ z1)
      · rw [List.getElem?_set_ne (Ne.symm n1)] at w1
        rw [List.getElem?_set_ne (Ne.symm n2)] at w2
        exact r.inj j k b _ _ _ _ z1 z2 w1 w2
  · obtain ⟨q1, s', q2, q3⟩ := r.lock p hp
    have e : i ≠ p.1 := fun z => by
      subst z
      rw [hs] at q2; cases q2
      rw [hl] at q3; cases q3
    exact ⟨by rw [List.getElem?_set_ne e]; exact q1, s', by rw [List.getElem?_set_ne e]; exact q2, q3⟩
end
end Mi

set_option Elab.async false
set_option linter.all false
set_option maxRecDepth 100000
set_option maxHeartbeats 1000000
/-! Mi, part 2: expressions. -/
namespace Mi
open PySem PySem.Spec PyProof.Rows L2

abbrev ME := List Sl → Option (R × List Sl)
abbrev OE := List Sl → Option (Op × List Sl)
abbrev VE := List Sl → Option (D × List Sl)
abbrev CE := List Sl → Option (Bool × List Sl)
abbrev OEs := List Sl → Option (List Op × List Sl)
abbrev VEs := List Sl → Option (List D × List Sl)

def OpOk (K : PySem.W.Frag) (G : Hp) (σv : L2.St) : Op → V → Prop
  | .d d, v => Rep K G d v
  | .s i, v => σv[i]? = some (some v)
def OpsOk (K : PySem.W.Frag) (G : Hp) (σv : L2.St) : List Op → List V → Prop
  | [], vs => vs = []
  | o :: os, vs => ∃ v r, vs = v :: r ∧ OpOk K G σv o v ∧ OpsOk K G σv os r
def deref (σ : List Sl) : Op → Option D
  | .d d => some d
  | .s i => match σ[i]? with
    | some (.fr d _) => some d
    | some (.ow d _) => some d
    | _ => none
def derefs (σ : List Sl) : List Op → Option (List D)
  | [] => some []
  | o :: os => match deref σ o with
    | some d => match derefs σ os with
      | some ds => some (d :: ds)
      | none => none
    | none => none

def tM (K : PySem.W.Frag) (m : ME) : TE := fun σv H Q => ∃ F B G σ r σ', Rel K F B G σ σv H ∧ m σ = some (r, σ') ∧ ∀ v G' H', Rel K F B G' σ' σv H' → Same G G' → ResOk K F G' H' σ' σv r v → Q v H'
def tV (K : PySem.W.Frag) (m : VE) : TE := fun σv H Q => ∃ F B G σ d σ', Rel K F B G σ σv H ∧ m σ = some (d, σ') ∧ ∀ v G' H', Rel K F B G' σ' σv H' → Same G G' → Rep K G' d v → Q v H'
def tO (K : PySem.W.Frag) (m : OE) : TE := fun σv H Q => ∃ F B G σ o σ', Rel K F B G σ σv H ∧ m σ = some (o, σ') ∧ ∀ v G' H', Rel K F B G' σ' σv H' → Same G G' → OpOk K G' σv o v → Q v H'
def tT (K : PySem.W.Frag) (m : CE) : TT := fun σv H Q => ∃ F B G σ b σ', Rel K F B G σ σv H ∧ m σ = some (b, σ') ∧ ∀ G' H', Rel K F B G' σ' σv H' → Same G G' → Q b H'
def tVs (K : PySem.W.Frag) (m : VEs) : TA := fun σv H Q => ∃ F B G σ ds σ', Rel K F B G σ σv H ∧ m σ = some (ds, σ') ∧ ∀ vs G' H', Rel K F B G' σ' σv H' → Same G G' → RepL K G' ds vs → Q vs H'
def tOs (K : PySem.W.Frag) (m : OEs) : TA := fun σv H Q => ∃ F B G σ os σ', Rel K F B G σ σv H ∧ m σ = some (os, σ') ∧ ∀ vs G' H', Rel K F B G' σ' σv H' → Same G G' → OpsOk K G' σv os vs → Q vs H'

section
variable {K : PySem.W.Frag} {F G G' H H' : Hp} {B : List (Nat × V)} {σ : List Sl} {σv : L2.St}
theorem OpOk.mono (e : Same G G') {o : Op} {v : V} (h : OpOk K G σv o v) : OpOk K G' σv o v := by
  cases o with
  | d d => exact Rep.mono e h
  | s i => exact h
theorem OpsOk.mono (e : Same G G') : ∀ {os : List Op} {vs : List V}, OpsOk K G σv os vs → OpsOk K G' σv os vs
  | [], _, h => h
  | o :: os, vs, h => by
    obtain ⟨v, r, e1, h1, h2⟩ := h
    exact ⟨v, r, e1, h1.mono e, h2.mono e⟩
theorem deref_ok (r : Rel K F B G σ σv H) {o : Op} {v : V} {d : D} (h : OpOk K G σv o v) (e : deref σ o = some d) : RepE K G H d v := by
  cases o with
  | d d' =>
    cases e
    exact Rep.e r.gh h
  | s i =>
    have e : (match σ[i]? with | some (.fr d _) => some d | some (.ow d _) => some d | _ => none) = some d := e
    have h : σv[i]? = some (some v) := h
    split at e
    · rename_i d' l q
      cases e
      obtain ⟨w, h1, h2⟩ := r.fr i _ l q
      rw [h] at h1; cases h1
      exact Rep.e r.gh h2
    · rename_i d' l q
      cases e
      obtain ⟨a, h1, h2, h3, h4⟩ := r.ow i _ l q
      rw [h] at h1; cases h1
      exact h4.e
    · cases e
def RepEs (K : PySem.W.Frag) (G H : Hp) : List D → List V → Prop
  | [], vs => vs = []
  | d :: ds, vs => ∃ v r, vs = v :: r ∧ RepE K G H d v ∧ RepEs K G H ds r
theorem derefs_ok (r : Rel K F B G σ σv H) : ∀ {os : List Op} {vs : List V} {ds : List D}, OpsOk K G σv os vs → derefs σ os = some ds → RepEs K G H ds vs
  | [], vs, ds, h, e => by cases e; exact h
  | o :: os, vs, ds, h, e => by
    obtain ⟨v, w, e1, h1, h2⟩ := h
    unfold derefs at e
    split at e
    · rename_i d q
      split at e
      · rename_i ds' q2
        cases e
        exact ⟨v, w, e1, deref_ok r h1 q, derefs_ok r h2 q2⟩
      · cases e
    · cases e
end

section
variable {X : Cx} {e a b : Expr} {pos : Pos}
theorem _root_.L2.PE.weak {t t' : TE} (h : PE X e t) (w : ∀ σ H Q, t' σ H Q → t σ H Q) : PE X e t' := ⟨fun pins s σ H Q I q => h.run pins s σ H Q I (w _ _ _ q)⟩
theorem _root_.L2.PT.weak {t t' : TT} (h : PT X e t) (w : ∀ σ H Q, t' σ H Q → t σ H Q) : PT X e t' := ⟨fun pins s σ H Q I q => h.run pins s σ H Q I (w _ _ _ q)⟩
theorem _root_.L2.PW.weak {t t' : TT} (h : PW X e t) (w : ∀ σ H Q, t' σ H Q → t σ H Q) : PW X e t' := ⟨fun wh pins s σ H Q I q => h.run wh pins s σ H Q I (w _ _ _ q)⟩
theorem _root_.L2.PA.weak {es : List Expr} {t t' : TA} (h : PA X es t) (w : ∀ σ H Q, t' σ H Q → t σ H Q) : PA X es t' := ⟨fun ps pins s σ H Q I q => h.run ps pins s σ H Q I (w _ _ _ q)⟩
theorem _root_.L2.PS.weak {st : Stmt} {t t' : TS} (h : PS X st t) (w : ∀ D σ H, t' D σ H → t D σ H) : PS X st t' := ⟨fun pins s σ H D I q => h.run pins s σ H D I (w _ _ _ q)⟩
theorem _root_.L2.PSs.weak {st : List Stmt} {t t' : TS} (h : PSs X st t) (w : ∀ D σ H, t' D σ H → t D σ H) : PSs X st t' := ⟨fun pins s σ H D I q => h.run pins s σ H D I (w _ _ _ q)⟩

/-! ### the three ways to take a value -/
/-- taken and frozen -/
def mv (m : ME) : VE := fun σ => match m σ with
  | some (.v d, σ') => some (d, σ')
  | some (.n d, σ') => some (d, σ')
  | none => none
theorem rv_m (h : PE X e (tM X.K m)) : PE X e (tV X.K (mv m)) := h.weak fun σv H Q q => by
  obtain ⟨F, B, G, σ, d, σ', r, em, k⟩ := q
  unfold mv at em
  split at em
  · rename_i d' σ'' em'
    cases em
    exact ⟨F, B, G, σ, _, _, r, em', fun v G' H' r' e' h' => k v G' H' r' e' h'⟩
  · rename_i d' σ'' em'
    cases em
    refine ⟨F, B, G, σ, _, _, r, em', fun v G' H' r' e' h' => ?_⟩
    obtain ⟨G2, e2, r2, h2⟩ := r'.freezeR h'
    exact k v G2 H' r2 (e'.trans e2) h2
  · cases em
def vm (m : VE) : ME := fun σ => match m σ with
  | some (d, σ') => some (.v d, σ')
  | none => none
theorem rm_v {m : VE} (h : PE X e (tV X.K m)) : PE X e (tM X.K (vm m)) := h.weak fun σv H Q q => by
  obtain ⟨F, B, G, σ, d, σ', r, em, k⟩ := q
  unfold vm at em
  split at em
  · rename_i d' σ'' em'
    cases em
    exact ⟨F, B, G, σ, _, _, r, em', fun v G' H' r' e' h' => k v G' H' r' e' h'⟩
  · cases em
def vo (m : VE) : OE := fun σ => match m σ with
  | some (d, σ') => some (.d d, σ')
  | none => none
theorem ro_v {m : VE} (h : PE X e (tV X.K m)) : PE X e (tO X.K (vo m)) := h.weak fun σv H Q q => by
  obtain ⟨F, B, G, σ, d, σ', r, em, k⟩ := q
  unfold vo at em
  split at em
  · rename_i d' σ'' em'
    cases em
    exact ⟨F, B, G, σ, _, _, r, em', fun v G' H' r' e' h' => k v G' H' r' e' h'⟩
  · cases em
/-- as an operand -/
def mo (m : ME) : OE := vo (mv m)
theorem ro_m {m : ME} (h : PE X e (tM X.K m)) : PE X e (tO X.K (mo m)) := ro_v (rv_m h)
def oVar (i : Nat) : OE := fun σ => match σ[i]? with
  | some (.fr d _) => some (.d d, σ)
  | some (.ow _ _) => some (.s i, σ)
  | _ => none
theorem ro_var {i : Nat} (h : PE X e (tVar i)) : PE X e (tO X.K (oVar i)) := h.weak fun σv H Q q => by
  obtain ⟨F, B, G, σ, o, σ', r, em, k⟩ := q
  unfold oVar at em
  split at em
  · rename_i d l q
    cases em
    obtain ⟨v, h1, h2⟩ := r.fr i _ _ q
    exact ⟨v, h1, k v G H r (Same.refl G) h2⟩
  · rename_i d l q
    cases em
    obtain ⟨a, h1, h2⟩ := r.ow i _ _ q
    exact ⟨.ref a, h1, k _ G H r (Same.refl G) h1⟩
  · cases em
def vVar (i : Nat) : VE := fun σ => match σ[i]? with
  | some (.fr d _) => some (d, σ)
  | some (.ow d l) => some (d, σ.set i (.fr d l))
  | _ => none
theorem rv_var {i : Nat} (h : PE X e (tVar i)) : PE X e (tV X.K (vVar i)) := h.weak fun σv H Q q => by
  obtain ⟨F, B, G, σ, o, σ', r, em, k⟩ := q
  unfold vVar at em
  split at em
  · rename_i d l q
    cases em
    obtain ⟨v, h1, h2⟩ := r.fr i _ _ q
    exact ⟨v, h1, k v G H r (Same.refl G) h2⟩
  · rename_i d l q
    cases em
    obtain ⟨a, ob, h0, h1, h2, h3, h4, h5⟩ := r.freezeS q
    exact ⟨.ref a, h0, k _ _ H h4 h3 h5⟩
  · cases em
/-- a constant -/
def vK (d : D) : VE := fun σ => some (d, σ)
theorem rv_c {d : D} {v : V} (h : PE X e (tC v)) (hr : ∀ G, Rep X.K G d v) : PE X e (tV X.K (vK d)) := h.weak fun σv H Q q => by
  obtain ⟨F, B, G, σ, o, σ', r, em, k⟩ := q
  cases em
  exact k _ G H r (Same.refl G) (hr G)

/-! ### argument lists -/
def osN : OEs := fun σ => some ([], σ)
def osC (a : OE) (r : OEs) : OEs := fun σ => match a σ with
  | some (o, σ1) => match r σ1 with
    | some (os, σ2) => some (o :: os, σ2)
    | none => none
  | none => none
theorem ra_nil : PA X [] (tOs X.K osN) := pa_nil.weak fun σv H Q q => by
  obtain ⟨F, B, G, σ, o, σ', r, em, k⟩ := q
  cases em
  exact k [] G H r (Same.refl G) rfl
theorem ra_cons {es : List Expr} {m : OE} {n : OEs} (ha : PE X e (tO X.K m)) (hr : PA X es (tOs X.K n)) (hs : starEach (e :: es) X.env = (false, eval e X.env) :: starEach es X.env := by rfl) : PA X (e :: es) (tOs X.K (osC m n)) :=
  (pa_cons ha hr hs).weak fun σv H Q q => by
    obtain ⟨F, B, G, σ, o, σ', r, em, k⟩ := q
    unfold osC at em
    split at em
    · rename_i o1 σ1 e1
      split at em
      · rename_i os σ2 e2
        cases em
        exact ⟨F, B, G, σ, o1, σ1, r, e1, fun v G1 H1 r1 s1 p1 => ⟨F, B, G1, σ1, os, _, r1, e2, fun vs G2 H2 r2 s2 p2 => k (v :: vs) G2 H2 r2 (s1.trans s2) ⟨v, vs, rfl, p1.mono s2, p2⟩⟩⟩
      · cases em
    · cases em
def vsN : VEs := fun σ => some ([], σ)
def vsC (a : VE) (r : VEs) : VEs := fun σ => match a σ with
  | some (o, σ1) => match r σ1 with
    | some (os, σ2) => some (o :: os, σ2)
    | none => none
  | none => none
theorem rs_nil : PA X [] (tVs X.K vsN) := pa_nil.weak fun σv H Q q => by
  obtain ⟨F, B, G, σ, o, σ', r, em, k⟩ := q
  cases em
  exact k [] G H r (Same.refl G) rfl
theorem rs_cons {es : List Expr} {m : VE} {n : VEs} (ha : PE X e (tV X.K m)) (hr : PA X es (tVs X.K n)) (hs : starEach (e :: es) X.env = (false, eval e X.env) :: starEach es X.env := by rfl) : PA X (e :: es) (tVs X.K (vsC m n)) :=
  (pa_cons ha hr hs).weak fun σv H Q q => by
    obtain ⟨F, B, G, σ, o, σ', r, em, k⟩ := q
    unfold vsC at em
    split at em
    · rename_i o1 σ1 e1
      split at em
      · rename_i os σ2 e2
        cases em
        exact ⟨F, B, G, σ, o1, σ1, r, e1, fun v G1 H1 r1 s1 p1 => ⟨F, B, G1, σ1, os, _, r1, e2, fun vs G2 H2 r2 s2 p2 => k (v :: vs) G2 H2 r2 (s1.trans s2) ⟨v, vs, rfl, p1.mono s2, p2⟩⟩⟩
      · cases em
    · cases em

/-! ### displays -/
def szOk (n : Nat) : Bool := Nat.ble n 16777216
theorem szOk_le {n : Nat} (h : szOk n = true) : n ≤ sizeLine := by
  have := Nat.le_of_ble_eq_true h
  rw [sizeLine_eq]; exact this
def mTup (m : VEs) : ME := fun σ => match m σ with
  | some (ds, σ') => bif szOk ds.length then some (.v (.tup ds), σ') else none
  | none => none
theorem rm_tup {es : List Expr} {x1} {m : VEs} (h : PA X es (tVs X.K m)) : PE X (.Tuple es x1 pos) (tM X.K (mTup m)) := (pe_tup h).weak fun σv H Q q => by
  obtain ⟨F, B, G, σ, o, σ', r, em, k⟩ := q
  unfold mTup at em
  split at em
  · rename_i ds σ1 e1
    cases hz : szOk ds.length with
    | false => rw [hz] at em; cases em
    | true =>
      rw [hz] at em; cases em
      refine ⟨F, B, G, σ, ds, _, r, e1, fun vs G1 H1 r1 s1 p1 => ⟨by rw [← p1.length]; exact szOk_le hz, fun p hp => ?_⟩⟩
      exact k _ (upd G1 p (.tup vs)) _ (r1.laid hp) (s1.trans (same_new (r1.fresh hp).1)) (r1.res_t hp p1)
  · cases em
def mLst (m : VEs) : ME := fun σ => match m σ with
  | some (ds, σ') => bif szOk ds.length then some (.n (.lst ds), σ') else none
  | none => none
theorem rm_lst {es : List Expr} {m : VEs} (h : PA X es (tVs X.K m)) : PE X (.List es pos) (tM X.K (mLst m)) := (pe_lst h).weak fun σv H Q q => by
  obtain ⟨F, B, G, σ, o, σ', r, em, k⟩ := q
  unfold mLst at em
  split at em
  · rename_i ds σ1 e1
    cases hz : szOk ds.length with
    | false => rw [hz] at em; cases em
    | true =>
      rw [hz] at em; cases em
      refine ⟨F, B, G, σ, ds, _, r, e1, fun vs G1 H1 r1 s1 p1 => ⟨by rw [← p1.length]; exact szOk_le hz, fun p hp => ?_⟩⟩
      exact k _ G1 _ (r1.made hp) s1 (r1.res_n hp p1)
  · cases em

/-! ### operations by values -/
def BinOk (K : PySem.W.Frag) (f : D → D → Option R) (r : R2) : Prop := ∀ (F : Hp) (B : List (Nat × V)) (G H : Hp) (σ : List Sl) (σv : L2.St) (d1 d2 : D) (res : R) (x y : V) (Q : VK),
  Rel K F B G σ σv H → RepE K G H d1 x → RepE K G H d2 y → f d1 d2 = some res → (∀ v G' H', Rel K F B G' σ σv H' → Same G G' → ResOk K F G' H' σ σv res v → Q v H') → r x y H Q
def mBin (f : D → D → Option R) (a b : OE) : ME := fun σ => match a σ with
  | some (o1, σ1) => match b σ1 with
    | some (o2, σ2) => match deref σ2 o1 with
      | some d1 => match deref σ2 o2 with
        | some d2 => match f d1 d2 with
          | some r => some (r, σ2)
          | none => none
        | none => none
      | none => none
    | none => none
  | none => none
theorem bin_core {K : PySem.W.Frag} {f : D → D → Option R} {r : R2} (ok : BinOk K f r) {oa ob : OE} : ∀ σv H Q, tM K (mBin f oa ob) σv H Q → tOp r (tO K oa) (tO K ob) σv H Q := by
  intro σv H Q q
  obtain ⟨F, B, G, σ, res, σ', rel, em, k⟩ := q
  unfold mBin at em
  split at em
  · rename_i o1 σ1 e1
    split at em
    · rename_i o2 σ2 e2
      split at em
      · rename_i d1 h1
        split at em
        · rename_i d2 h2
          split at em
          · rename_i r' h3
            cases em
            refine ⟨F, B, G, σ, o1, σ1, rel, e1, fun x G1 H1 r1 s1 p1 => ⟨F, B, G1, σ1, o2, _, r1, e2, fun y G2 H2 r2 s2 p2 => ?_⟩⟩
            exact ok F B G2 H2 _ σv d1 d2 _ x y Q r2 (deref_ok r2 (p1.mono s2) h1) (deref_ok r2 p2 h2) h3 fun v G' H' r' e' h' => k v G' H' r' ((s1.trans s2).trans e') h'
          · cases em
        · cases em
      · cases em
    · cases em
  · cases em
theorem rm_op {op : Operator} {f : D → D → Option R} {r : R2} {oa ob : OE} (ho : OpR X (binaryOp op) r) (ok : BinOk X.K f r) (ha : PE X a (tO X.K oa)) (hb : PE X b (tO X.K ob)) : PE X (.BinOp a op b pos) (tM X.K (mBin f oa ob)) := (pe_op ho ha hb).weak (bin_core ok)
theorem rm_cmp {op : CmpOp} {f : D → D → Option R} {r : R2} {oa ob : OE} (ho : OpR X (compareOp op) r) (ok : BinOk X.K f r) (ha : PE X a (tO X.K oa)) (hb : PE X b (tO X.K ob)) (hm : behindInMarks op b = false) : PE X (.Compare a [op] [b] pos) (tM X.K (mBin f oa ob)) := (pe_cmpR ho ha hb hm).weak (bin_core ok)
theorem rm_ix {f : D → D → Option R} {r : R2} {oa ob : OE} (hr : IxR X r) (ok : BinOk X.K f r) (ha : PE X a (tO X.K oa)) (hb : PE X b (tO X.K ob)) (hs : PlainIx b) : PE X (.Subscript a b pos) (tM X.K (mBin f oa ob)) := (pe_ix hr ha hb hs).weak (bin_core ok)
/-- a comparison as a test -/
def cM (m : ME) : CE := fun σ => match m σ with
  | some (.v (.bl b), σ') => some (b, σ')
  | _ => none
theorem test_core {K : PySem.W.Frag} {m : ME} : ∀ σv H Q, tT K (cM m) σv H Q → tTest (tM K m) σv H Q := by
  intro σv H Q q
  obtain ⟨F, B, G, σ, res, σ', rel, em, k⟩ := q
  unfold cM at em
  split at em
  · rename_i b σ1 e1
    cases em
    exact ⟨F, B, G, σ, _, _, rel, e1, fun v G' H' r' e' h' => ⟨_, h', k G' H' r' e'⟩⟩
  · cases em
theorem rt_cmp {op : CmpOp} {f : D → D → Option R} {r : R2} {oa ob : OE} (ho : OpR X (compareOp op) r) (ok : BinOk X.K f r) (ha : PE X a (tO X.K oa)) (hb : PE X b (tO X.K ob)) (hm : behindInMarks op b = false) : PT X (.Compare a [op] [b] pos) (tT X.K (cM (mBin f oa ob))) :=
  (pt_cmpR ho ha hb hm).weak fun σv H Q q => by
    have q2 := test_core σv H Q q
    exact bin_core ok σv H _ q2
/-- any expression as a test, by its truth -/
def truD : D → Option Bool
  | .non => some false
  | .bl b => some b
  | .int i => some (i != 0)
  | .str x => bif szOk x.length then some (!x.isEmpty) else none
  | .lst xs => some (!xs.isEmpty)
  | .tup xs => some (!xs.isEmpty)
  | .dct _ _ => none
  | .scr xs => some (!xs.isEmpty)
theorem emp_len {K : PySem.W.Frag} {G : Hp} {ds : List D} {vs : List V} (h : RepL K G ds vs) : (!ds.isEmpty) = !vs.isEmpty := by
  have e := h.length
  cases ds <;> cases vs <;> simp_all
theorem tru_of {K : PySem.W.Frag} {G H : Hp} (gh : Same G H) : ∀ {d : D} {v : V} {b : Bool}, RepE K G H d v → truD d = some b → TruV K v H b
  | .non, v, b, h, e => by cases e; have h : v = .non := h; subst h; exact rfl
  | .bl c, v, b, h, e => by cases e; have h : v = .bl c := h; subst h; exact rfl
  | .int i, v, b, h, e => by cases e; have h : v = .int i := h; subst h; exact rfl
  | .str x, v, b, h, e => by
    have h : v = .str ⟨x.toArray⟩ := h
    subst h
    have e : (bif szOk x.length then some (!x.isEmpty) else none) = some b := e
    cases hz : szOk x.length with
    | false => rw [hz] at e; cases e
    | true =>
      rw [hz] at e; cases e
      have hl : (⟨x.toArray⟩ : Str).length = x.length := by simp [Str.length]
      refine ⟨by rw [hl]; exact szOk_le hz, ?_⟩
      rw [hl]
      cases x <;> simp; omega
  | .lst xs, v, b, h, e => by
    cases e
    obtain ⟨a, vs, rfl, h1, h2⟩ := h
    exact .inl ⟨vs, .inl h1, emp_len h2⟩
  | .tup xs, v, b, h, e => by
    cases e
    obtain ⟨a, vs, rfl, h1, h2⟩ := h
    exact .inr (.inl ⟨vs, same_t gh h1, emp_len h2⟩)
  | .dct _ _, v, b, h, e => by cases e
  | .scr ns, v, b, h, e => by
    cases e
    obtain ⟨a, rfl, h1⟩ := h
    exact .inl ⟨_, h1, by cases ns <;> rfl⟩
def cO (o : OE) : CE := fun σ => match o σ with
  | some (o1, σ1) => match deref σ1 o1 with
    | some d => match truD d with
      | some b => some (b, σ1)
      | none => none
    | none => none
  | none => none
theorem rt_tru {o : OE} (ha : PE X a (tO X.K o)) (he : ∀ whole, isTrue a X.env whole = (do let v ← whole; standAt a.pos; holding [v] (truthy v)) := by intro _; rfl) : PT X a (tT X.K (cO o)) :=
  (pt_truth ha he).weak fun σv H Q q => by
    obtain ⟨F, B, G, σ, res, σ', rel, em, k⟩ := q
    unfold cO at em
    split at em
    · rename_i o1 σ1 e1
      split at em
      · rename_i d h1
        split at em
        · rename_i b' h2
          cases em
          exact ⟨F, B, G, σ, o1, _, rel, e1, fun v G' H' r' e' h' => ⟨_, tru_of r'.gh (deref_ok r' h' h1) h2, k G' H' r' e'⟩⟩
        · cases em
      · cases em
    · cases em
/-! ### and, or, not as tests -/
def cAnd (a b : CE) : CE := fun σ => match a σ with
  | some (true, σ1) => b σ1
  | some (false, σ1) => some (false, σ1)
  | none => none
def cOr (a b : CE) : CE := fun σ => match a σ with
  | some (true, σ1) => some (true, σ1)
  | some (false, σ1) => b σ1
  | none => none
def cNot (a : CE) : CE := fun σ => match a σ with
  | some (b, σ1) => some (!b, σ1)
  | none => none
theorem rw_and1 {m : CE} (ha : PT X a (tT X.K m)) : PW X (.BoolOp .And [a] pos) (tT X.K m) := pw_and1 ha
theorem rw_or1 {m : CE} (ha : PT X a (tT X.K m)) : PW X (.BoolOp .Or [a] pos) (tT X.K m) := pw_or1 ha
theorem rw_and {m n : CE} {rest : List Expr} (ha : PT X a (tT X.K m)) (hb : PW X (.BoolOp .And (b :: rest) pos) (tT X.K n)) : PW X (.BoolOp .And (a :: b :: rest) pos) (tT X.K (cAnd m n)) := (pw_and ha hb).weak fun σv H Q q => by
  obtain ⟨F, B, G, σ, res, σ', rel, em, k⟩ := q
  unfold cAnd at em
  split at em
  · rename_i σ1 e1
    exact ⟨F, B, G, σ, true, σ1, rel, e1, fun G1 H1 r1 s1 =>
      iteT ⟨F, B, G1, σ1, res, σ', r1, em, fun G2 H2 r2 s2 => k G2 H2 r2 (s1.trans s2)⟩⟩
  · rename_i σ1 e1
    cases em
    exact ⟨F, B, G, σ, false, _, rel, e1, fun G1 H1 r1 s1 =>
      iteF (k G1 H1 r1 s1)⟩
  · cases em
theorem rw_or {m n : CE} {rest : List Expr} (ha : PT X a (tT X.K m)) (hb : PW X (.BoolOp .Or (b :: rest) pos) (tT X.K n)) : PW X (.BoolOp .Or (a :: b :: rest) pos) (tT X.K (cOr m n)) := (pw_or ha hb).weak fun σv H Q q => by
  obtain ⟨F, B, G, σ, res, σ', rel, em, k⟩ := q
  unfold cOr at em
  split at em
  · rename_i σ1 e1
    cases em
    exact ⟨F, B, G, σ, true, _, rel, e1, fun G1 H1 r1 s1 =>
      iteT (k G1 H1 r1 s1)⟩
  · rename_i σ1 e1
    exact ⟨F, B, G, σ, false, σ1, rel, e1, fun G1 H1 r1 s1 =>
      iteF ⟨F, B, G1, σ1, res, σ', r1, em, fun G2 H2 r2 s2 => k G2 H2 r2 (s1.trans s2)⟩⟩
  · cases em
theorem rt_not {m : CE} (ha : PT X a (tT X.K m)) : PT X (.UnaryOp .Not a pos) (tT X.K (cNot m)) := (pt_not ha).weak fun σv H Q q => by
  obtain ⟨F, B, G, σ, res, σ', rel, em, k⟩ := q
  unfold cNot at em
  split at em
  · rename_i b' σ1 e1
    cases em
    exact ⟨F, B, G, σ, b', _, rel, e1, k⟩
  · cases em
/-! ### .. as values -/
def mOr (a b : OE) : ME := fun σ => match a σ with
  | some (o, σ1) => match deref σ1 o with
    | some d => match truD d with
      | some true => (match o with | .d d => some (.v d, σ1) | .s _ => none)
      | some false => (match b σ1 with | some (.d d, σ2) => some (.v d, σ2) | _ => none)
      | none => none
    | none => none
  | none => none
def mAnd (a b : OE) : ME := fun σ => match a σ with
  | some (o, σ1) => match deref σ1 o with
    | some d => match truD d with
      | some false => (match o with | .d d => some (.v d, σ1) | .s _ => none)
      | some true => (match b σ1 with | some (.d d, σ2) => some (.v d, σ2) | _ => none)
      | none => none
    | none => none
  | none => none
def mNot (a : CE) : ME := fun σ => match a σ with
  | some (b, σ1) => some (.v (.bl (!b)), σ1)
  | none => none
theorem ro_one {op} {m : OE} (h : PE X a (tO X.K m)) : PE X (.BoolOp op [a] pos) (tO X.K m) := pe_one h
theorem rm_or {m n : OE} {rest : List Expr} (ha : PE X a (tO X.K m)) (hb : PE X (.BoolOp .Or (b :: rest) pos) (tO X.K n)) : PE X (.BoolOp .Or (a :: b :: rest) pos) (tM X.K (mOr m n)) := (pe_orT ha hb).weak fun σv H Q q => by
  obtain ⟨F, B, G, σ, res, σ', rel, em, k⟩ := q
  unfold mOr at em
  split at em
  · rename_i o σ1 e1
    split at em
    · rename_i d h1
      split at em
      · rename_i h2
        split at em
        · rename_i d'
          cases em
          refine ⟨F, B, G, σ, _, _, rel, e1, fun v G1 H1 r1 s1 p1 => ⟨true, tru_of r1.gh (deref_ok r1 p1 h1) h2, ?_⟩⟩
          simp only [if_true]
          exact k v G1 H1 r1 s1 p1
        · cases em
      · rename_i h2
        split at em
        · rename_i d' σ2 e2
          cases em
          refine ⟨F, B, G, σ, _, _, rel, e1, fun v G1 H1 r1 s1 p1 => ⟨false, tru_of r1.gh (deref_ok r1 p1 h1) h2, ?_⟩⟩
          simp only [Bool.false_eq_true, if_false]
          exact ⟨F, B, G1, σ1, _, _, r1, e2, fun v G2 H2 r2 s2 p2 => k v G2 H2 r2 (s1.trans s2) p2⟩
        · cases em
      · cases em
    · cases em
  · cases em
theorem rm_and {m n : OE} {rest : List Expr} (ha : PE X a (tO X.K m)) (hb : PE X (.BoolOp .And (b :: rest) pos) (tO X.K n)) : PE X (.BoolOp .And (a :: b :: rest) pos) (tM X.K (mAnd m n)) := (pe_andT ha hb).weak fun σv H Q q => by
  obtain ⟨F, B, G, σ, res, σ', rel, em, k⟩ := q
  unfold mAnd at em
  split at em
  · rename_i o σ1 e1
    split at em
    · rename_i d h1
      split at em
      · rename_i h2
        split at em
        · rename_i d'
          cases em
          refine ⟨F, B, G, σ, _, _, rel, e1, fun v G1 H1 r1 s1 p1 => ⟨false, tru_of r1.gh (deref_ok r1 p1 h1) h2, ?_⟩⟩
          simp only [Bool.false_eq_true, if_false]
          exact k v G1 H1 r1 s1 p1
        · cases em
      · rename_i h2
        split at em
        · rename_i d' σ2 e2
          cases em
          refine ⟨F, B, G, σ, _, _, rel, e1, fun v G1 H1 r1 s1 p1 => ⟨true, tru_of r1.gh (deref_ok r1 p1 h1) h2, ?_⟩⟩
          simp only [if_true]
          exact ⟨F, B, G1, σ1, _, _, r1, e2, fun v G2 H2 r2 s2 p2 => k v G2 H2 r2 (s1.trans s2) p2⟩
        · cases em
      · cases em
    · cases em
  · cases em
/-- not a, by any truth -/
def mNotO (a : OE) : ME := fun σ => match cO a σ with
  | some (b, σ1) => some (.v (.bl (!b)), σ1)
  | none => none
theorem rm_not {m : OE} (ha : PE X a (tO X.K m)) : PE X (.UnaryOp .Not a pos) (tM X.K (mNotO m)) := (pe_notT ha).weak fun σv H Q q => by
  obtain ⟨F, B, G, σ, res, σ', rel, em, k⟩ := q
  unfold mNotO cO at em
  split at em
  · rename_i b' σ1 e1
    cases em
    split at e1
    · rename_i o1 σ2 e2
      split at e1
      · rename_i d h1
        split at e1
        · rename_i b2 h2
          cases e1
          exact ⟨F, B, G, σ, o1, _, rel, e2, fun v G' H' r' e' h' => ⟨_, tru_of r'.gh (deref_ok r' h' h1) h2, k _ G' H' r' e' rfl⟩⟩
        · cases e1
      · cases e1
    · cases e1
  · cases em
/-! ### a if c else b -/
def mIf (c : CE) (a b : ME) : ME := fun σ => match c σ with
  | some (true, σ1) => a σ1
  | some (false, σ1) => b σ1
  | none => none
theorem rm_if {c : Expr} {mc : CE} {m n : ME} (hc : PT X c (tT X.K mc)) (ha : PE X a (tM X.K m)) (hb : PE X b (tM X.K n)) : PE X (.IfExp c a b pos) (tM X.K (mIf mc m n)) := (pe_ifExp hc ha hb).weak fun σv H Q q => by
  obtain ⟨F, B, G, σ, res, σ', rel, em, k⟩ := q
  unfold mIf at em
  split at em
  · rename_i σ1 e1
    exact ⟨F, B, G, σ, true, σ1, rel, e1, fun G1 H1 r1 s1 =>
      iteT ⟨F, B, G1, σ1, res, σ', r1, em, fun v G2 H2 r2 s2 => k v G2 H2 r2 (s1.trans s2)⟩⟩
  · rename_i σ1 e1
    exact ⟨F, B, G, σ, false, σ1, rel, e1, fun G1 H1 r1 s1 =>
      iteF ⟨F, B, G1, σ1, res, σ', r1, em, fun v G2 H2 r2 s2 => k v G2 H2 r2 (s1.trans s2)⟩⟩
  · cases em
end
end Mi

set_option Elab.async false
set_option linter.all false
set_option maxRecDepth 100000
set_option maxHeartbeats 1000000
/-! Mi, part 3: statements. -/
namespace Mi
open PySem PySem.Spec PyProof.Rows L2

abbrev MS := List Sl → Option Out
abbrev TgE := D → List Sl → Option (List Sl)

def PostO (K : PySem.W.Frag) (F : Hp) (B : List (Nat × V)) (G : Hp) (D : Ends) : Out → Prop
  | .nx σ' => ∀ σv' G' H', Rel K F B G' σ' σv' H' → Same G G' → D.nx σv' H'
  | .bk σ' => ∀ σv' G' H', Rel K F B G' σ' σv' H' → Same G G' → D.bk σv' H'
  | .ct σ' => ∀ σv' G' H', Rel K F B G' σ' σv' H' → Same G G' → D.ct σv' H'
  | .rt r σ' => ∀ v σv' G' H', Rel K F B G' σ' σv' H' → Same G G' → ResOk K F G' H' σ' σv' r v → D.rt v H'
theorem PostO.mono {K : PySem.W.Frag} {F : Hp} {B : List (Nat × V)} {G G1 : Hp} {D : Ends} {o : Out} (e : Same G G1) (h : PostO K F B G D o) : PostO K F B G1 D o := by
  cases o with
  | nx σ' => exact fun σv' G' H' r s => h σv' G' H' r (e.trans s)
  | bk σ' => exact fun σv' G' H' r s => h σv' G' H' r (e.trans s)
  | ct σ' => exact fun σv' G' H' r s => h σv' G' H' r (e.trans s)
  | rt r σ' => exact fun v σv' G' H' r s => h v σv' G' H' r (e.trans s)
def tS (K : PySem.W.Frag) (m : MS) : TS := fun D σv H => ∃ F B G σ o, Rel K F B G σ σv H ∧ m σ = some o ∧ PostO K F B G D o

section
variable {X : Cx} {e a b : Expr} {st : Stmt} {pos : Pos}
/-! ### blocks -/
def sNil : MS := fun σ => some (.nx σ)
def sSeq (a b : MS) : MS := fun σ => match a σ with
  | some (.nx σ1) => b σ1
  | o => o
theorem rs_nil0 : PSs X [] (tS X.K sNil) := pss_nil.weak fun D σv H q => by
  obtain ⟨F, B, G, σ, o, r, em, k⟩ := q
  cases em
  exact k σv G H r (Same.refl G)
theorem rs_seq {rest : List Stmt} {m n : MS} (h1 : PS X st (tS X.K m)) (h2 : PSs X rest (tS X.K n)) : PSs X (st :: rest) (tS X.K (sSeq m n)) := (pss_cons h1 h2).weak fun D σv H q => by
  obtain ⟨F, B, G, σ, o, r, em, k⟩ := q
  unfold sSeq at em
  cases e1 : m σ with
  | none => rw [e1] at em; cases em
  | some o1 =>
    rw [e1] at em
    cases o1 with
    | nx σ1 => exact ⟨F, B, G, σ, _, r, e1, fun σv1 G1 H1 r1 s1 => ⟨F, B, G1, σ1, o, r1, em, k.mono s1⟩⟩
    | bk σ1 => cases em; exact ⟨F, B, G, σ, _, r, e1, k⟩
    | ct σ1 => cases em; exact ⟨F, B, G, σ, _, r, e1, k⟩
    | rt v σ1 => cases em; exact ⟨F, B, G, σ, _, r, e1, k⟩
theorem rs_one {m : MS} (h1 : PS X st (tS X.K m)) : PSs X [st] (tS X.K m) := pss_one h1
def sPass : MS := sNil
theorem rs_pass : PS X (.Pass pos) (tS X.K sPass) := ps_pass.weak fun D σv H q => by
  obtain ⟨F, B, G, σ, o, r, em, k⟩ := q
  cases em
  exact k σv G H r (Same.refl G)
def sBrk : MS := fun σ => some (.bk σ)
def sCt : MS := fun σ => some (.ct σ)
theorem rs_brk : PS X (.Break pos) (tS X.K sBrk) := ps_break.weak fun D σv H q => by
  obtain ⟨F, B, G, σ, o, r, em, k⟩ := q
  cases em
  exact k σv G H r (Same.refl G)
theorem rs_ct : PS X (.Continue pos) (tS X.K sCt) := ps_continue.weak fun D σv H q => by
  obtain ⟨F, B, G, σ, o, r, em, k⟩ := q
  cases em
  exact k σv G H r (Same.refl G)
/-- a statement that is not come to -/
def sNever : MS := fun _ => none
theorem rs_never : PS X st (tS X.K sNever) := ps_never.weak fun D σv H q => by
  obtain ⟨F, B, G, σ, o, r, em, k⟩ := q
  cases em
theorem rss_never {sts : List Stmt} : PSs X sts (tS X.K sNever) := pss_never.weak fun D σv H q => by
  obtain ⟨F, B, G, σ, o, r, em, k⟩ := q
  cases em

/-! ### if, return, an expression alone -/
def sIf (c : CE) (a b : MS) : MS := fun σ => match c σ with
  | some (true, σ1) => a σ1
  | some (false, σ1) => b σ1
  | none => none
theorem rs_if {c : Expr} {xs ys : List Stmt} {mc : CE} {m n : MS} (hc : PT X c (tT X.K mc)) (ha : PSs X xs (tS X.K m)) (hb : PSs X ys (tS X.K n)) : PS X (.If c xs ys pos) (tS X.K (sIf mc m n)) := (ps_if hc ha hb).weak fun D σv H q => by
  obtain ⟨F, B, G, σ, o, r, em, k⟩ := q
  unfold sIf at em
  split at em
  · rename_i σ1 e1
    exact ⟨F, B, G, σ, true, σ1, r, e1, fun G1 H1 r1 s1 => iteT ⟨F, B, G1, σ1, o, r1, em, k.mono s1⟩⟩
  · rename_i σ1 e1
    exact ⟨F, B, G, σ, false, σ1, r, e1, fun G1 H1 r1 s1 => iteF ⟨F, B, G1, σ1, o, r1, em, k.mono s1⟩⟩
  · cases em
def sRet (m : ME) : MS := fun σ => match m σ with
  | some (r, σ1) => some (.rt r σ1)
  | none => none
theorem rs_ret {m : ME} (h : PE X e (tM X.K m)) : PS X (.Return (some e) pos) (tS X.K (sRet m)) := (ps_ret h).weak fun D σv H q => by
  obtain ⟨F, B, G, σ, o, r, em, k⟩ := q
  unfold sRet at em
  split at em
  · rename_i r1 σ1 e1
    cases em
    exact ⟨F, B, G, σ, _, _, r, e1, fun v G1 H1 r1 s1 p1 => k v σv G1 H1 r1 s1 p1⟩
  · cases em
/-- return of a slot: what an unlocked slot owns is given away -/
def sRetV (i : Nat) : MS := fun σ => match σ[i]? with
  | some (.fr d _) => some (.rt (.v d) σ)
  | some (.ow d false) => some (.rt (.n d) (σ.set i .no))
  | some (.ow d true) => some (.rt (.v d) (σ.set i (.fr d true)))
  | _ => none
theorem Rel.drop {K : PySem.W.Frag} {F G H : Hp} {B : List (Nat × V)} {σ : List Sl} {σv : L2.St} (r : Rel K F B G σ σv H) {i : Nat} {s : Sl} (hs : σ[i]? = some s) (hl : s.lk = false) : Rel K F B G (σ.set i .no) σv H := by
  refine ⟨r.gh, r.fh, by rw [List.length_set]; exact r.len, fun j e l' q => ?_, fun j e l' q => ?_, fun j k b dj dk lj lk q1 q2 w1 w2 => ?_, fun p hp => ?_⟩
  · rcases getElem?_set_cases q with ⟨rfl, e, _⟩ | ⟨ne, q⟩
    · cases e
    · exact r.fr j e l' q
  · rcases getElem?_set_cases q with ⟨rfl, e, _⟩ | ⟨ne, q⟩
    · cases e
    · exact r.ow j e l' q
  · rcases getElem?_set_cases q1 with ⟨_, e, _⟩ | ⟨n1, z1⟩
    · cases e
    · rcases getElem?_set_cases q2 with ⟨_, e, _⟩ | ⟨n2, z2⟩
      · cases e
      · exact r.inj j k b _ _ _ _ z1 z2 w1 w2
  · obtain ⟨q1, s', q2, q3⟩ := r.lock p hp
    have e : i ≠ p.1 := fun z => by
      subst z
      rw [hs] at q2; cases q2
      rw [hl] at q3; cases q3
    exact ⟨q1, s', by rw [List.getElem?_set_ne e]; exact q2, q3⟩
theorem rs_retV {i : Nat} (h : PE X e (tVar i)) : PS X (.Return (some e) pos) (tS X.K (sRetV i)) := (ps_ret h).weak fun D σv H q => by
  obtain ⟨F, B, G, σ, o, r, em, k⟩ := q
  unfold sRetV at em
  split at em
  · rename_i d l q
    cases em
    obtain ⟨v, h1, h2⟩ := r.fr i _ _ q
    exact ⟨v, h1, k v σv G H r (Same.refl G) h2⟩
  · rename_i d q
    cases em
    obtain ⟨a, h1, h2, h3, h4⟩ := r.ow i _ _ q
    refine ⟨.ref a, h1, k _ σv G H (r.drop q rfl) (Same.refl G) ⟨a, rfl, h2, h3, h4, fun j dj lj z w => ?_⟩⟩
    rcases getElem?_set_cases z with ⟨_, e, _⟩ | ⟨n1, z1⟩
    · cases e
    · exact n1 (r.inj j i a _ _ _ _ z1 q w h1)
  · rename_i d q
    cases em
    obtain ⟨a, ob, h0, h1, h2, h3, h4, h5⟩ := r.freezeS q
    exact ⟨.ref a, h0, k _ σv _ H h4 h3 h5⟩
  · cases em
def sRetN : MS := fun σ => some (.rt (.v .non) σ)
theorem rs_retN : PS X (.Return none pos) (tS X.K sRetN) := ps_retN.weak fun D σv H q => by
  obtain ⟨F, B, G, σ, o, r, em, k⟩ := q
  cases em
  exact k .non σv G H r (Same.refl G) rfl
def sExpr (m : ME) : MS := fun σ => match m σ with
  | some (_, σ1) => some (.nx σ1)
  | none => none
theorem rs_expr {m : ME} (h : PE X e (tM X.K m)) (hs : swapsWith e none pos.line X.env = pure false := by rfl) : PS X (.Expr e pos) (tS X.K (sExpr m)) := (ps_expr h hs).weak fun D σv H q => by
  obtain ⟨F, B, G, σ, o, r, em, k⟩ := q
  unfold sExpr at em
  split at em
  · rename_i r1 σ1 e1
    cases em
    exact ⟨F, B, G, σ, _, _, r, e1, fun v G1 H1 r1 s1 p1 => k σv G1 H1 r1 s1⟩
  · cases em
theorem rs_doc {x j pos pos'} : PS X (.Expr (.Constant (.str x) j pos) pos') (tS X.K sNil) := ps_doc.weak fun D σv H q => by
  obtain ⟨F, B, G, σ, o, r, em, k⟩ := q
  cases em
  exact k σv G H r (Same.refl G)

/-! ### stores to names -/
/-- a result at a slot -/
def putR (i : Nat) (r : R) (σ : List Sl) : Option (List Sl) := match σ[i]? with
  | some s => bif s.lk then none else (match r with
    | .v d => some (σ.set i (.fr d false))
    | .n d => some (σ.set i (.ow d false)))
  | none => none
theorem putR_ok {K : PySem.W.Frag} {F G H : Hp} {B : List (Nat × V)} {σ σ' : List Sl} {σv : L2.St} {i : Nat} {r : R} {v : V} (rel : Rel K F B G σ σv H) (h : ResOk K F G H σ σv r v) (e : putR i r σ = some σ') : Rel K F B G σ' (σv.set i (some v)) H := by
  unfold putR at e
  split at e
  · rename_i s hs
    cases hl : s.lk with
    | true => rw [hl] at e; cases e
    | false =>
      rw [hl] at e
      cases r with
      | v d => cases e; exact rel.store hs hl h
      | n d =>
        cases e
        obtain ⟨a, rfl, h1, h2, h3, h4⟩ := h
        exact rel.own hs hl h1 h2 h3 h4
  · cases e
def sSet (i : Nat) (m : ME) : MS := fun σ => match m σ with
  | some (r, σ1) => match putR i r σ1 with
    | some σ2 => some (.nx σ2)
    | none => none
  | none => none
theorem set_core {K : PySem.W.Frag} {i : Nat} {m : ME} : ∀ D σv H, tS K (sSet i m) D σv H → tAsg (tM K m) (gName i) D σv H := by
  intro D σv H q
  obtain ⟨F, B, G, σ, o, r, em, k⟩ := q
  unfold sSet at em
  split at em
  · rename_i r1 σ1 e1
    split at em
    · rename_i σ2 e2
      cases em
      exact ⟨F, B, G, σ, _, _, r, e1, fun v G1 H1 r1 s1 p1 => k _ G1 H1 (putR_ok r1 p1 e2) s1⟩
    · cases em
  · cases em
theorem rs_set {i : Nat} {x : Str} {pos' : Pos} {m : ME} (hN : X.N.Nodup) (hi : X.N[i]? = some x) (hx : Loc X.env.scope x) (he : PE X e (tM X.K m)) (hs : swapsWith e (some (.Name x pos')) pos.line X.env = pure false := by rfl)
    (hf : X.fn x = true ∨ X.env.scope.names.lookup x = some .local := by first | exact .inl rfl | exact .inr rfl | assumption) : PS X (.Assign [.Name x pos'] e pos) (tS X.K (sSet i m)) := (ps_set hN hi hx he hs hf).weak set_core

/-! ### targets -/
/-- only these slots have another value -/
def OnlyAt (js : List Nat) (σv σv' : L2.St) : Prop := σv'.length = σv.length ∧ ∀ i, i ∉ js → σv'[i]? = σv[i]?
def tG (K : PySem.W.Frag) (js : List Nat) (g : TgE) : TG := fun v σv H Q => ∃ F B G σ d σ', Rel K F B G σ σv H ∧ Rep K G d v ∧ g d σ = some σ' ∧ ∀ σv', Rel K F B G σ' σv' H → OnlyAt js σv σv' → Q σv' H
def tGs (K : PySem.W.Frag) (js : List Nat) (g : List D → List Sl → Option (List Sl)) : TGs := fun vs σv H Q => ∃ F B G σ ds σ', Rel K F B G σ σv H ∧ RepL K G ds vs ∧ g ds σ = some σ' ∧ ∀ σv', Rel K F B G σ' σv' H → OnlyAt js σv σv' → Q σv' H
theorem OnlyAt.refl {js : List Nat} {σv : L2.St} : OnlyAt js σv σv := ⟨rfl, fun _ _ => rfl⟩
theorem OnlyAt.trans {js ks : List Nat} {a b c : L2.St} (h : OnlyAt js a b) (h' : OnlyAt ks b c) : OnlyAt (js ++ ks) a c :=
  ⟨h'.1.trans h.1, fun i hi => by rw [List.mem_append, not_or] at hi; exact (h'.2 i hi.2).trans (h.2 i hi.1)⟩
theorem OnlyAt.set {σv : L2.St} {i : Nat} {v : Option V} : OnlyAt [i] σv (σv.set i v) :=
  ⟨List.length_set .., fun j hj => List.getElem?_set_ne (fun e => hj (by rw [e]; exact List.mem_cons_self))⟩
def gN (i : Nat) : TgE := fun d σ => putR i (.v d) σ
theorem rg_name {i : Nat} {x : Str} (hN : X.N.Nodup) (hi : X.N[i]? = some x) (hx : Loc X.env.scope x) (hf : X.fn x = true ∨ X.env.scope.names.lookup x = some .local := by first | exact .inl rfl | exact .inr rfl | assumption) : PG X (.Name x pos) (tG X.K [i] (gN i)) :=
  ⟨fun pins s σv H v u Q I r h => (pg_name hN hi hx hf).run pins s σv H v u Q I r (by
    obtain ⟨F, B, G, σ, d, σ', rel, hr, em, k⟩ := h
    exact k _ (putR_ok (r := .v d) rel hr em) .set)⟩
def gsN : List D → List Sl → Option (List Sl) := fun ds σ => match ds with
  | [] => some σ
  | _ => none
def gsC (a : TgE) (r : List D → List Sl → Option (List Sl)) : List D → List Sl → Option (List Sl) := fun ds σ => match ds with
  | d :: ds => match a d σ with
    | some σ1 => r ds σ1
    | none => none
  | [] => none
theorem rgs_nil : PGs X [] (tGs X.K [] gsN) := ⟨fun pins s σv H vs us Q I r h => pgs_nil.run pins s σv H vs us Q I r (by
  obtain ⟨F, B, G, σ, ds, σ', rel, hr, em, k⟩ := h
  cases ds with
  | nil => cases em; exact ⟨hr, k σv rel .refl⟩
  | cons d ds => cases em)⟩
theorem rgs_cons {es : List Expr} {m : TgE} {n : List D → List Sl → Option (List Sl)} {js ks : List Nat} (h1 : PG X e (tG X.K js m)) (h2 : PGs X es (tGs X.K ks n))
    (hs : (assignEach (e :: es) X.env).map (·.2) = assign e X.env :: (assignEach es X.env).map (·.2) := by rfl) : PGs X (e :: es) (tGs X.K (js ++ ks) (gsC m n)) :=
  ⟨fun pins s σv H vs us Q I r h => (pgs_cons h1 h2 hs).run pins s σv H vs us Q I r (by
    obtain ⟨F, B, G, σ, ds, σ', rel, hr, em, k⟩ := h
    cases ds with
    | nil => cases em
    | cons d ds =>
      obtain ⟨v, w, e1, p1, p2⟩ := hr
      have em : (match m d σ with | some σ1 => n ds σ1 | none => none) = some σ' := em
      split at em
      · rename_i σ1 e2
        exact ⟨v, w, e1, F, B, G, σ, d, σ1, rel, p1, e2, fun σv1 r1 o1 => ⟨F, B, G, σ1, ds, σ', r1, p2, em, fun σv2 r2 o2 => k σv2 r2 (o1.trans o2)⟩⟩
      · cases em)⟩
def gT (k : Nat) (r : List D → List Sl → Option (List Sl)) : TgE := fun d σ => match d with
  | .tup xs => bif Nat.beq xs.length k then r xs σ else none
  | _ => none
theorem rg_tup {es : List Expr} {k k2 : Nat} {js : List Nat} {n : List D → List Sl → Option (List Sl)} (hc : X.calm = true) (h : PGs X es (tGs X.K js n)) (hn : (assignEach es X.env).length = k := by rfl) (hst : (assignEach es X.env).findIdx? (·.1) = none := by rfl) : PG X (.Tuple es k2 pos) (tG X.K js (gT k n)) :=
  ⟨fun pins s σv H v u Q I r hw => (pg_tup hc h hn hst).run pins s σv H v u Q I r (by
    obtain ⟨F, B, G, σ, d, σ', rel, hr, em, kk⟩ := hw
    cases d with
    | tup xs =>
      obtain ⟨a, vs, e1, h1, h2⟩ := hr
      have em : (bif Nat.beq xs.length k then n xs σ else none) = some σ' := em
      cases hb : Nat.beq xs.length k with
      | false => rw [hb] at em; cases em
      | true =>
        rw [hb] at em
        have hl : xs.length = k := Nat.eq_of_beq_eq_true hb
        exact ⟨a, vs, e1, same_t rel.gh h1, by rw [← h2.length]; exact hl, F, B, G, σ, xs, σ', rel, h2, em, kk⟩
    | _ => cases em)⟩
/-- tg = e, a tuple of targets -/
def sAsgT (g : TgE) (m : VE) : MS := fun σ => match m σ with
  | some (d, σ1) => match g d σ1 with
    | some σ2 => some (.nx σ2)
    | none => none
  | none => none
theorem rs_asgT {tg : Expr} {g : TgE} {m : VE} {js : List Nat} (he : PE X e (tV X.K m)) (hg : PG X tg (tG X.K js g)) (hs : swapsWithSole [tg] e pos.line X.env = pure false := by rfl) (hw : swappedStores [tg] e X.env = pure none := by rfl)
    (h1 : (assignEach [tg] X.env).map (·.2) = [assign tg X.env] := by rfl) : PS X (.Assign [tg] e pos) (tS X.K (sAsgT g m)) := (ps_asg he hg hs hw h1).weak fun D σv H q => by
  obtain ⟨F, B, G, σ, o, r, em, k⟩ := q
  unfold sAsgT at em
  split at em
  · rename_i d σ1 e1
    split at em
    · rename_i σ2 e2
      cases em
      exact ⟨F, B, G, σ, d, σ1, r, e1, fun v G1 H1 r1 s1 p1 => ⟨F, B, G1, σ1, d, σ2, r1, p1, e2, fun σv2 r2 _ => k σv2 G1 H1 r2 s1⟩⟩
    · cases em
  · cases em
/-- a, b = x, y, local names: stored from the right -/
def sPar (i j : Nat) (m : VEs) : MS := fun σ => match m σ with
  | some ([d, e], σ1) => match putR i (.v d) σ1 with
    | some σ2 => match putR j (.v e) σ2 with
      | some σ3 => some (.nx σ3)
      | none => none
    | none => none
  | _ => none
theorem rs_par {i j : Nat} {x y : Str} {m : VEs} {px py pt : Pos} {kt k2 pt2} (hc : X.calm = true) (hN : X.N.Nodup) (hi : X.N[i]? = some x) (hj : X.N[j]? = some y) (hij : i ≠ j)
    (hx : X.env.scope.names.lookup x = some .local) (hy : X.env.scope.names.lookup y = some .local) (ha : PA X [a, b] (tVs X.K m))
    (hw : swappedStores [.Tuple [.Name x px, .Name y py] kt pt] (.Tuple [a, b] k2 pt2) X.env = pure (some [x, y]) := by rfl)
    (hs : swapsWithSole [.Tuple [.Name x px, .Name y py] kt pt] (.Tuple [a, b] k2 pt2) pos.line X.env = pure false := by rfl) :
    PS X (.Assign [.Tuple [.Name x px, .Name y py] kt pt] (.Tuple [a, b] k2 pt2) pos) (tS X.K (sPar i j m)) := (ps_par hc hN hi hj hij hx hy ha hw hs).weak fun D σv H q => by
  obtain ⟨F, B, G, σ, o, r, em, k⟩ := q
  unfold sPar at em
  split at em
  · rename_i d e' σ1 e1
    split at em
    · rename_i σ2 e2
      split at em
      · rename_i σ3 e3
        cases em
        refine ⟨F, B, G, σ, _, σ1, r, e1, fun vs G1 H1 r1 s1 p1 => ?_⟩
        obtain ⟨v, w1, rfl, h1, w, w2, rfl, h2, h3⟩ := p1
        have h3 : w2 = [] := h3
        subst h3
        exact ⟨v, w, rfl, k _ G1 H1 (putR_ok (r := .v e') (putR_ok (r := .v d) r1 h1 e2) h2 e3) s1⟩
      · cases em
    · cases em
  · cases em

/-! ### a[i] = e -/
def SetOk (K : PySem.W.Frag) (f : D → D → D → Option D) (t : TSet) : Prop := ∀ (F : Hp) (B : List (Nat × V)) (G H : Hp) (σ : List Sl) (σv : L2.St) (i : Nat) (d d' di dv : D) (l : Bool) (a : Addr) (y v : V) (Q : Hp → Prop),
  Rel K F B G σ σv H → σ[i]? = some (.ow d l) → σv[i]? = some (some (.ref a)) → RepE K G H di y → Rep K G dv v → f d di dv = some d' → (∀ H', Rel K F B G (σ.set i (.ow d' l)) σv H' → Q H') → t (.ref a) y v H Q
def isOw (σ : List Sl) (i : Nat) : Bool := match σ[i]? with
  | some (.ow _ _) => true
  | _ => false
theorem isOw_ok {K : PySem.W.Frag} {F G H : Hp} {B : List (Nat × V)} {σ : List Sl} {σv : L2.St} {i : Nat} (r : Rel K F B G σ σv H) (h : isOw σ i = true) : ∃ a, σv[i]? = some (some (.ref a)) := by
  unfold isOw at h
  split at h
  · rename_i d l q
    obtain ⟨a, h1, _⟩ := r.ow i _ _ q
    exact ⟨a, h1⟩
  · cases h
def sPut (f : D → D → D → Option D) (i : Nat) (ix : OE) (m : VE) : MS := fun σ => match m σ with
  | some (dv, σ1) => bif isOw σ1 i then (match ix σ1 with
    | some (o, σ2) => match deref σ2 o with
      | some di => match σ2[i]? with
        | some (.ow d l) => match f d di dv with
          | some d' => some (.nx (σ2.set i (.ow d' l)))
          | none => none
        | _ => none
      | none => none
    | none => none) else none
  | none => none
theorem rs_put {o ie : Expr} {i : Nat} {f : D → D → D → Option D} {t : TSet} {ix : OE} {m : VE} {pos' : Pos} (hset : PSet X t) (ok : SetOk X.K f t) (he : PE X e (tV X.K m)) (ho : PE X o (tVar i)) (hi : PE X ie (tO X.K ix))
    (ha : ∀ v, assign (.Subscript o ie pos') X.env v = (do
      let ov ← holding [v] (eval o X.env)
      let iv ← holding [v, ov] (eval ie X.env)
      standAt pos'
      holding [v, ov, iv] (setItem ov iv v)
      release [v, ov, iv] []) := by intro _; rfl)
    (hs : swapsWithSole [.Subscript o ie pos'] e pos.line X.env = pure false := by rfl) (hw : swappedStores [.Subscript o ie pos'] e X.env = pure none := by rfl)
    (h1 : (assignEach [.Subscript o ie pos'] X.env).map (·.2) = [assign (.Subscript o ie pos') X.env] := by rfl) : PS X (.Assign [.Subscript o ie pos'] e pos) (tS X.K (sPut f i ix m)) := (ps_asg he (pg_sub ho hi hset ha) hs hw h1).weak fun D σv H q => by
  obtain ⟨F, B, G, σ, o, r, em, k⟩ := q
  unfold sPut at em
  split at em
  · rename_i dv σ1 e1
    cases hio : isOw σ1 i with
    | false => rw [hio] at em; cases em
    | true =>
      rw [hio] at em
      simp only [cond_true] at em
      split at em
      · rename_i op σ2 e2
        split at em
        · rename_i di h1
          split at em
          · rename_i d l hs2
            split at em
            · rename_i d' h2
              cases em
              refine ⟨F, B, G, σ, dv, σ1, r, e1, fun v G1 H1 r1 s1 p1 => ?_⟩
              obtain ⟨a, ha'⟩ := isOw_ok r1 hio
              exact ⟨.ref a, ha', F, B, G1, σ1, op, σ2, r1, e2, fun y G2 H2 r2 s2 p2 => ok F B G2 H2 σ2 σv i d d' di dv l a y v _ r2 hs2 ha' (deref_ok r2 p2 h1) (p1.mono s2) h2 fun H3 r3 => k σv G2 H3 r3 (s1.trans s2)⟩
            · cases em
          · cases em
        · cases em
      · cases em
  · cases em

/-! ### while -/
def sWhile (c : CE) (b : MS) : Nat → MS
  | 0 => fun _ => none
  | n + 1 => fun σ => match c σ with
    | some (true, σ1) => match b σ1 with
      | some (.nx σ2) => sWhile c b n σ2
      | some (.ct σ2) => sWhile c b n σ2
      | some (.bk σ2) => some (.nx σ2)
      | some (.rt r σ2) => some (.rt r σ2)
      | none => none
    | some (false, σ1) => some (.nx σ1)
    | none => none
theorem rs_while {c : Expr} {body : List Stmt} {mc : CE} {mb : MS} (n : Nat) (hp : PassesOwn (model X.prog X.w) X.A X.env X.xe) (hc : PT X c (tT X.K mc)) (hb : PSs X body (tS X.K mb)) : PS X (.While c body [] pos) (tS X.K (sWhile mc mb n)) := (ps_while hp hc hb).weak fun D σv H q => by
  obtain ⟨F, B, G, σ, o, r, em, k⟩ := q
  refine ⟨fun m σv' H' => ∃ G' σ', Rel X.K F B G' σ' σv' H' ∧ Same G G' ∧ sWhile mc mb m σ' = some o, ⟨n, G, σ, r, Same.refl G, em⟩, ?_⟩
  rintro m σv1 H1 ⟨G1, σ1, r1, s1, e1⟩
  cases m with
  | zero => cases e1
  | succ m =>
    have e1 : (match mc σ1 with
      | some (true, σ1) => match mb σ1 with
        | some (.nx σ2) => sWhile mc mb m σ2
        | some (.ct σ2) => sWhile mc mb m σ2
        | some (.bk σ2) => some (.nx σ2)
        | some (.rt r σ2) => some (.rt r σ2)
        | none => none
      | some (false, σ1) => some (.nx σ1)
      | none => none) = some o := e1
    split at e1
    · rename_i σ2 e2
      refine ⟨F, B, G1, σ1, true, σ2, r1, e2, fun G2 H2 r2 s2 => iteT ?_⟩
      refine ⟨fun σv' H' => ∃ G' σ', Rel X.K F B G' σ' σv' H' ∧ Same G G' ∧ sWhile mc mb m σ' = some o, fun σv' H' w => ⟨m, Nat.lt_succ_self m, w⟩, ?_⟩
      split at e1
      · rename_i σ3 e3
        exact ⟨F, B, G2, σ2, _, r2, e3, fun σv3 G3 H3 r3 s3 => ⟨G3, σ3, r3, (s1.trans s2).trans s3, e1⟩⟩
      · rename_i σ3 e3
        exact ⟨F, B, G2, σ2, _, r2, e3, fun σv3 G3 H3 r3 s3 => ⟨G3, σ3, r3, (s1.trans s2).trans s3, e1⟩⟩
      · rename_i σ3 e3
        cases e1
        exact ⟨F, B, G2, σ2, _, r2, e3, fun σv3 G3 H3 r3 s3 => k σv3 G3 H3 r3 ((s1.trans s2).trans s3)⟩
      · rename_i rr σ3 e3
        cases e1
        exact ⟨F, B, G2, σ2, _, r2, e3, fun v σv3 G3 H3 r3 s3 p3 => k v σv3 G3 H3 r3 ((s1.trans s2).trans s3) p3⟩
      · cases e1
    · rename_i σ2 e2
      cases e1
      exact ⟨F, B, G1, σ1, false, _, r1, e2, fun G2 H2 r2 s2 => iteF (k σv1 G2 H2 r2 (s1.trans s2))⟩
    · cases e1

/-! ### what is walked: a row of frozen values -/
/-- the iterator yields these, whatever happens elsewhere, as long as G stands -/
def Walks (K : PySem.W.Frag) (G0 : Hp) (J : It) (ds : List D) : Prop :=
  (∀ (i : Nat) d, ds[i]? = some d → ∀ F B G σ σv H, Same G0 G → Rel K F B G σ σv H → J.go i H ∧ ∀ x H', J.yld i H x H' → ∃ G', Same G G' ∧ Rel K F B G' σ σv H' ∧ Rep K G' d x) ∧
  ∀ F B G σ σv H, Same G0 G → Rel K F B G σ σv H → J.stop ds.length H
abbrev IE := List Sl → Option (List D × List Sl)
def tI (K : PySem.W.Frag) (m : IE) : TI := fun σv H R => ∃ F B G σ ds σ', Rel K F B G σ σv H ∧ m σ = some (ds, σ') ∧ ∀ J G' H', Rel K F B G' σ' σv H' → Same G G' → Walks K G' J ds → R J H'
theorem _root_.L2.PI.weak {tg it : Expr} {t t' : TI} (h : PI X tg it t) (w : ∀ σ H R, t' σ H R → t σ H R) : PI X tg it t' := ⟨fun pins s σ H R I q => h.run pins s σ H R I (w _ _ _ q)⟩
def sFor (g : TgE) (b : MS) : List D → MS
  | [] => fun σ => some (.nx σ)
  | d :: ds => fun σ => match g d σ with
    | some σ1 => match b σ1 with
      | some (.nx σ2) => sFor g b ds σ2
      | some (.ct σ2) => sFor g b ds σ2
      | some (.bk σ2) => some (.nx σ2)
      | some (.rt r σ2) => some (.rt r σ2)
      | none => none
    | none => none
def sForI (m : IE) (g : TgE) (b : MS) : MS := fun σ => match m σ with
  | some (ds, σ1) => sFor g b ds σ1
  | none => none
theorem rs_for {tg iter : Expr} {body : List Stmt} {m : IE} {g : TgE} {b : MS} {js : List Nat} (hp : PassesOwn (model X.prog X.w) X.A X.env X.xe) (hc : X.calm = true) (hi : PI X tg iter (tI X.K m)) (hg : PG X tg (tG X.K js g)) (hb : PSs X body (tS X.K b))
    (hs : ∀ x, foldedSetIterable iter X.env x = pure x := by intro _; rfl) : PS X (.For tg iter body [] pos) (tS X.K (sForI m g b)) := (ps_for hp hc hi hg hb hs).weak fun D σv H q => by
  obtain ⟨F, B, G, σ, o, r, em, k⟩ := q
  unfold sForI at em
  split at em
  · rename_i ds σ1 e1
    refine ⟨F, B, G, σ, ds, σ1, r, e1, fun J G1 H1 r1 s1 wk => ?_⟩
    refine ⟨fun i n σv' H' => n = ds.length - i ∧ i ≤ ds.length ∧ ∃ G' σ', Rel X.K F B G' σ' σv' H' ∧ Same G1 G' ∧ sFor g b (ds.drop i) σ' = some o, ⟨ds.length, by omega, Nat.zero_le _, G1, σ1, r1, Same.refl G1, em⟩, ?_⟩
    rintro i n σv2 H2 ⟨hn, hi, G2, σ2, r2, s2, e2⟩
    by_cases hlt : i < ds.length
    · have hd : ds[i]? = some ds[i] := List.getElem?_eq_getElem hlt
      obtain ⟨go, yl⟩ := wk.1 i _ hd F B G2 σ2 σv2 H2 s2 r2
      refine .inr ⟨go, fun σv' H' => ∃ G' σ', Rel X.K F B G' σ' σv' H' ∧ Same G1 G' ∧ sFor g b (ds.drop (i + 1)) σ' = some o, fun σv' H' w => ⟨ds.length - (i + 1), by omega, rfl, hlt, w⟩, fun x H3 y => ?_⟩
      obtain ⟨G3, s3, r3, p3⟩ := yl x H3 y
      have ed : ds.drop i = ds[i] :: ds.drop (i + 1) := List.drop_eq_getElem_cons hlt
      rw [ed] at e2
      have e2 : (match g ds[i] σ2 with
        | some σ1 => match b σ1 with
          | some (.nx σ2) => sFor g b (ds.drop (i + 1)) σ2
          | some (.ct σ2) => sFor g b (ds.drop (i + 1)) σ2
          | some (.bk σ2) => some (.nx σ2)
          | some (.rt r σ2) => some (.rt r σ2)
          | none => none
        | none => none) = some o := e2
      split at e2
      · rename_i σ4 e4
        refine ⟨F, B, G3, σ2, _, σ4, r3, p3, e4, fun σv4 r4 _ => ?_⟩
        split at e2
        · rename_i σ5 e5
          exact ⟨F, B, G3, σ4, _, r4, e5, fun σv5 G5 H5 r5 s5 => ⟨G5, σ5, r5, (s2.trans s3).trans s5, e2⟩⟩
        · rename_i σ5 e5
          exact ⟨F, B, G3, σ4, _, r4, e5, fun σv5 G5 H5 r5 s5 => ⟨G5, σ5, r5, (s2.trans s3).trans s5, e2⟩⟩
        · rename_i σ5 e5
          cases e2
          exact ⟨F, B, G3, σ4, _, r4, e5, fun σv5 G5 H5 r5 s5 => k σv5 G5 H5 r5 (((s1.trans s2).trans s3).trans s5)⟩
        · rename_i rr σ5 e5
          cases e2
          exact ⟨F, B, G3, σ4, _, r4, e5, fun v σv5 G5 H5 r5 s5 p5 => k v σv5 G5 H5 r5 (((s1.trans s2).trans s3).trans s5) p5⟩
        · cases e2
      · cases e2
    · have hi2 : i = ds.length := by omega
      subst hi2
      rw [List.drop_length] at e2
      cases e2
      exact .inl ⟨wk.2 F B G2 σ2 σv2 H2 s2 r2, k σv2 G2 H2 r2 (s1.trans s2)⟩
  · cases em
end
end Mi

set_option Elab.async false
set_option linter.all false
set_option maxRecDepth 100000
set_option maxHeartbeats 1000000
/-! Mi, part 4: what is walked; calls of defs; comprehensions. -/
namespace Mi
open PySem PySem.Spec PyProof.Rows L2

section
variable {X : Cx} {tg e : Expr} {pos : Pos}
/-! ### lists, tuples -/
theorem walks_l {K : PySem.W.Frag} {G : Hp} {ds : List D} {a : Addr} (h : Rep K G (.lst ds) (.ref a)) : Walks K G (Itl K a) ds := by
  obtain ⟨a', vs, e, h1, h2⟩ := h
  cases e
  refine ⟨fun i d hd F B G1 σ σv H s1 r => ?_, fun F B G1 σ σv H s1 r => ?_⟩
  · have hs : SqL K H a vs := .inl (same_rd (s1.trans r.gh) h1)
    obtain ⟨v, hv, hr⟩ := h2.get hd
    refine ⟨⟨vs, v, hs, hv⟩, fun x H' y => ?_⟩
    obtain ⟨rfl, y⟩ := y
    have q := y vs hs
    rw [hv] at q; cases q
    exact ⟨G1, Same.refl _, r, hr.mono s1⟩
  · exact ⟨vs, .inl (same_rd (s1.trans r.gh) h1), by rw [h2.length]; exact Nat.le_refl _⟩
theorem walks_t {K : PySem.W.Frag} {G : Hp} {ds : List D} {a : Addr} (h : Rep K G (.tup ds) (.ref a)) : Walks K G (Itt K a) ds := by
  obtain ⟨a', vs, e, h1, h2⟩ := h
  cases e
  refine ⟨fun i d hd F B G1 σ σv H s1 r => ?_, fun F B G1 σ σv H s1 r => ?_⟩
  · have hs : SqT K H a vs := same_t (s1.trans r.gh) h1
    obtain ⟨v, hv, hr⟩ := h2.get hd
    refine ⟨⟨vs, v, hs, hv⟩, fun x H' y => ?_⟩
    obtain ⟨rfl, y⟩ := y
    have q := y vs hs
    rw [hv] at q; cases q
    exact ⟨G1, Same.refl _, r, hr.mono s1⟩
  · exact ⟨vs, same_t (s1.trans r.gh) h1, by rw [h2.length]; exact Nat.le_refl _⟩
def iL (m : VE) : IE := fun σ => match m σ with
  | some (.lst ds, σ1) => some (ds, σ1)
  | _ => none
theorem ri_list {m : VE} (h : PE X e (tV X.K m)) : PI X tg e (tI X.K (iL m)) := (pi_list h).weak fun σv H R q => by
  obtain ⟨F, B, G, σ, ds, σ', r, em, k⟩ := q
  unfold iL at em
  split at em
  · rename_i ds' σ1 e1
    cases em
    refine ⟨F, B, G, σ, _, _, r, e1, fun v G1 H1 r1 s1 p1 => ?_⟩
    obtain ⟨a, vs, rfl, h1, h2⟩ := id p1
    exact ⟨a, rfl, ⟨vs, .inl (same_rd r1.gh h1)⟩, k _ G1 H1 r1 s1 (walks_l p1)⟩
  · cases em
def iT (m : VE) : IE := fun σ => match m σ with
  | some (.tup ds, σ1) => some (ds, σ1)
  | _ => none
theorem ri_tup {m : VE} (h : PE X e (tV X.K m)) : PI X tg e (tI X.K (iT m)) := (pi_tup h).weak fun σv H R q => by
  obtain ⟨F, B, G, σ, ds, σ', r, em, k⟩ := q
  unfold iT at em
  split at em
  · rename_i ds' σ1 e1
    cases em
    refine ⟨F, B, G, σ, _, _, r, e1, fun v G1 H1 r1 s1 p1 => ?_⟩
    obtain ⟨a, vs, rfl, h1, h2⟩ := id p1
    exact ⟨a, rfl, ⟨vs, same_t r1.gh h1⟩, k _ G1 H1 r1 s1 (walks_t p1)⟩
  · cases em
/-! ### ranges -/
def rngL (lo : Int) : Nat → List D
  | 0 => []
  | n + 1 => .int lo :: rngL (lo + 1) n
theorem rngL_len : ∀ (n : Nat) (lo : Int), (rngL lo n).length = n
  | 0, _ => rfl
  | n + 1, lo => by show (rngL (lo + 1) n).length + 1 = n + 1; rw [rngL_len n]
theorem rngL_get : ∀ (n : Nat) (lo : Int) (i : Nat) (d : D), (rngL lo n)[i]? = some d → i < n ∧ d = .int (lo + i)
  | 0, lo, i, d, h => by simp [rngL] at h
  | n + 1, lo, 0, d, h => by
    have e : D.int lo = d := by simpa [rngL] using h
    subst e
    exact ⟨Nat.succ_pos n, by simp⟩
  | n + 1, lo, i + 1, d, h => by
    obtain ⟨h1, h2⟩ := rngL_get n (lo + 1) i d (by simpa [rngL] using h)
    refine ⟨Nat.succ_lt_succ h1, ?_⟩
    rw [h2]
    congr 1
    omega
theorem walks_r {K : PySem.W.Frag} {G : Hp} (lo : Int) (n : Nat) : Walks K G (Itr lo n) (rngL lo n) := by
  refine ⟨fun i d hd F B G1 σ σv H s1 r => ?_, fun F B G1 σ σv H s1 r => ?_⟩
  · obtain ⟨h1, h2⟩ := rngL_get n lo i d hd
    refine ⟨h1, fun x H' y => ?_⟩
    obtain ⟨rfl, y⟩ := y
    subst y h2
    exact ⟨G1, Same.refl _, r, rfl⟩
  · show n ≤ (rngL lo n).length
    rw [rngL_len]; exact Nat.le_refl n
def rOk (i : Int) : Bool := decide (-4611686018427387904 ≤ i) && decide (i < 4611686018427387904)
theorem rOk_ok {i : Int} (h : rOk i = true) : -(2 ^ 62) ≤ i ∧ i < 2 ^ 62 := by
  unfold rOk at h
  rw [Bool.and_eq_true, decide_eq_true_eq, decide_eq_true_eq] at h
  omega
def iR1 (m : OEs) : IE := fun σ => match m σ with
  | some ([.d (.int j)], σ1) => bif rOk j then some (rngL 0 j.toNat, σ1) else none
  | _ => none
theorem ri_range1 {a : Expr} {m : OEs} {p : Pos} (hg : Gl X "range") (hm : X.mg "range" = none) (ha : PA X [a] (tOs X.K m)) (hs : starEach [a] X.env = [(false, eval a X.env)] := by rfl) : PI X tg (.Call (.Name "range" p) [a] [] pos) (tI X.K (iR1 m)) := (pi_range1 hg hm ha hs).weak fun σv H R q => by
  obtain ⟨F, B, G, σ, ds, σ', r, em, k⟩ := q
  unfold iR1 at em
  split at em
  · rename_i j σ1 e1
    cases hj : rOk j with
    | false => rw [hj] at em; cases em
    | true =>
      rw [hj] at em; cases em
      refine ⟨F, B, G, σ, _, _, r, e1, fun vs G1 H1 r1 s1 p1 => ?_⟩
      obtain ⟨v, w, rfl, h1, h2⟩ := p1
      have h2 : w = [] := h2
      have h1 : v = .int j := h1
      subst h1 h2
      exact ⟨j, rfl, (rOk_ok hj).1, (rOk_ok hj).2, k _ G1 H1 r1 s1 (walks_r 0 _)⟩
  · cases em
def iR2 (m : OEs) : IE := fun σ => match m σ with
  | some ([.d (.int i), .d (.int j)], σ1) => bif rOk i && rOk j then some (rngL i (j - i).toNat, σ1) else none
  | _ => none
theorem ri_range2 {a b : Expr} {m : OEs} {p : Pos} (hg : Gl X "range") (hm : X.mg "range" = none) (ha : PA X [a, b] (tOs X.K m)) (hs : starEach [a, b] X.env = [(false, eval a X.env), (false, eval b X.env)] := by rfl)
    (hs2 : starEach [b] X.env = [(false, eval b X.env)] := by rfl) : PI X tg (.Call (.Name "range" p) [a, b] [] pos) (tI X.K (iR2 m)) := (pi_range2 hg hm ha hs hs2).weak fun σv H R q => by
  obtain ⟨F, B, G, σ, ds, σ', r, em, k⟩ := q
  unfold iR2 at em
  split at em
  · rename_i i j σ1 e1
    cases hj : (rOk i && rOk j) with
    | false => rw [hj] at em; cases em
    | true =>
      rw [hj] at em; cases em
      rw [Bool.and_eq_true] at hj
      refine ⟨F, B, G, σ, _, _, r, e1, fun vs G1 H1 r1 s1 p1 => ?_⟩
      obtain ⟨v, w, rfl, h1, u, w2, rfl, h2, h3⟩ := p1
      have h3 : w2 = [] := h3
      have h1 : v = .int i := h1
      have h2 : u = .int j := h2
      subst h1 h2 h3
      exact ⟨i, j, rfl, ⟨(rOk_ok hj.1).1, (rOk_ok hj.1).2, (rOk_ok hj.2).1, (rOk_ok hj.2).2⟩, k _ G1 H1 r1 s1 (walks_r i _)⟩
  · cases em
end

/-! ### calls of defs -/
abbrev Fn := List Sl → Option (R × List Sl)
def spF (K : PySem.W.Frag) (np : Nat) (c : Fn) : Sp := fun vs H Q _ => vs.length = np ∧ ∃ F G sls r outs, Rel K F [] G sls (vs.map some) H ∧ (∀ (i : Nat) d l, sls[i]? = some (.ow d l) → l = true) ∧ c sls = some (r, outs) ∧
  ∀ v G' H', Rel K F [] G' outs (vs.map some) H' → Same G G' → ResOk K F G' H' outs (vs.map some) r v → Q v H'
def argSl (σ : List Sl) : Op → Option Sl
  | .d d => some (.fr d false)
  | .s i => match σ[i]? with
    | some (.fr d _) => some (.fr d false)
    | some (.ow d _) => some (.ow d true)
    | _ => none
def argSls (σ : List Sl) : List Op → Option (List Sl)
  | [] => some []
  | o :: os => match argSl σ o with
    | some s => match argSls σ os with
      | some ss => some (s :: ss)
      | none => none
    | none => none
/-- the slots whose own objects are handed on -/
def owns (σ : List Sl) : List Op → List Nat
  | [] => []
  | .d _ :: os => owns σ os
  | .s i :: os => bif isOw σ i then i :: owns σ os else owns σ os
def noDup : List Nat → Bool
  | [] => true
  | a :: r => r.all (fun b => !Nat.beq a b) && noDup r
theorem noDup_ok : ∀ {l : List Nat}, noDup l = true → l.Nodup
  | [], _ => List.nodup_nil
  | a :: r, h => by
    unfold noDup at h
    rw [Bool.and_eq_true, List.all_eq_true] at h
    refine List.nodup_cons.mpr ⟨fun m => ?_, noDup_ok h.2⟩
    have := h.1 a m
    rw [Nat.beq_refl] at this
    cases this
/-- the same with another lock -/
def relk (l : Bool) : Sl → Option Sl
  | .fr d _ => some (.fr d l)
  | .ow d _ => some (.ow d l)
  | .no => none
def putBack (σ0 : List Sl) : List Op → List Sl → List Sl → Option (List Sl)
  | [], _, σ => some σ
  | .d _ :: os, _ :: ss, σ => putBack σ0 os ss σ
  | .s i :: os, s :: ss, σ => match σ0[i]? with
    | some (.ow _ l) => match relk l s with
      | some s' => putBack σ0 os ss (σ.set i s')
      | none => none
    | _ => putBack σ0 os ss σ
  | _ :: _, [], _ => none
def mCall (np : Nat) (c : Fn) (os : OEs) : ME := fun σ => match os σ with
  | some (ops, σ1) => match argSls σ1 ops with
    | some sls => bif noDup (owns σ1 ops) && Nat.beq ops.length np then (match c sls with
      | some (r, outs) => match putBack σ1 ops outs σ1 with
        | some σ2 => some (r, σ2)
        | none => none
      | none => none) else none
    | none => none
  | none => none

theorem isOw_iff {σ : List Sl} {i : Nat} : isOw σ i = true ↔ ∃ d l, σ[i]? = some (.ow d l) := by
  unfold isOw
  constructor
  · intro h
    split at h
    · rename_i d l q
      exact ⟨d, l, q⟩
    · cases h
  · rintro ⟨d, l, q⟩
    rw [q]
theorem mem_owns {σ : List Sl} {i : Nat} : ∀ {os : List Op}, i ∈ owns σ os ↔ (∃ j : Nat, os[j]? = some (.s i)) ∧ isOw σ i = true
  | [] => by simp [owns]
  | .d d :: os => by
    show i ∈ owns σ os ↔ _
    rw [mem_owns (os := os)]
    constructor
    · rintro ⟨⟨j, h⟩, h2⟩
      exact ⟨⟨j + 1, by simpa using h⟩, h2⟩
    · rintro ⟨⟨j, h⟩, h2⟩
      cases j with
      | zero => simp at h
      | succ j => exact ⟨⟨j, by simpa using h⟩, h2⟩
  | .s k :: os => by
    show i ∈ (bif isOw σ k then k :: owns σ os else owns σ os) ↔ _
    cases hk : isOw σ k with
    | true =>
      show i ∈ k :: owns σ os ↔ _
      rw [List.mem_cons, mem_owns (os := os)]
      constructor
      · rintro (rfl | ⟨⟨j, h⟩, h2⟩)
        · exact ⟨⟨0, rfl⟩, hk⟩
        · exact ⟨⟨j + 1, by simpa using h⟩, h2⟩
      · rintro ⟨⟨j, h⟩, h2⟩
        cases j with
        | zero =>
          have : k = i := by simpa using h
          exact .inl this.symm
        | succ j => exact .inr ⟨⟨j, by simpa using h⟩, h2⟩
    | false =>
      show i ∈ owns σ os ↔ _
      rw [mem_owns (os := os)]
      constructor
      · rintro ⟨⟨j, h⟩, h2⟩
        exact ⟨⟨j + 1, by simpa using h⟩, h2⟩
      · rintro ⟨⟨j, h⟩, h2⟩
        cases j with
        | zero =>
          have : k = i := by simpa using h
          subst this
          rw [hk] at h2; cases h2
        | succ j => exact ⟨⟨j, by simpa using h⟩, h2⟩
/-- two places that hand on one slot are one -/
theorem owns_inj {σ : List Sl} {i : Nat} : ∀ {os : List Op} {j k : Nat}, (owns σ os).Nodup → isOw σ i = true → os[j]? = some (.s i) → os[k]? = some (.s i) → j = k
  | [], j, k, _, _, h, _ => by simp at h
  | o :: os, 0, 0, _, _, _, _ => rfl
  | o :: os, 0, k + 1, nd, hi, h, h' => by
    have e : o = .s i := by simpa using h
    subst e
    have nd : (bif isOw σ i then i :: owns σ os else owns σ os).Nodup := nd
    rw [hi] at nd
    exact absurd (mem_owns.mpr ⟨⟨k, by simpa using h'⟩, hi⟩) (List.nodup_cons.mp nd).1
  | o :: os, j + 1, 0, nd, hi, h, h' => by
    have e : o = .s i := by simpa using h'
    subst e
    have nd : (bif isOw σ i then i :: owns σ os else owns σ os).Nodup := nd
    rw [hi] at nd
    exact absurd (mem_owns.mpr ⟨⟨j, by simpa using h⟩, hi⟩) (List.nodup_cons.mp nd).1
  | o :: os, j + 1, k + 1, nd, hi, h, h' => by
    have nd' : (owns σ os).Nodup := by
      cases o with
      | d d => exact nd
      | s m =>
        have nd : (bif isOw σ m then m :: owns σ os else owns σ os).Nodup := nd
        cases hm : isOw σ m with
        | true => rw [hm] at nd; exact (List.nodup_cons.mp nd).2
        | false => rw [hm] at nd; exact nd
    exact congrArg (· + 1) (owns_inj (os := os) (j := j) (k := k) nd' hi (by simpa using h) (by simpa using h'))
theorem argSls_get {σ : List Sl} : ∀ {os : List Op} {ss : List Sl}, argSls σ os = some ss → ss.length = os.length ∧ ∀ (j : Nat) s, ss[j]? = some s → ∃ o, os[j]? = some o ∧ argSl σ o = some s
  | [], ss, h => by cases h; exact ⟨rfl, fun j s h => by simp at h⟩
  | o :: os, ss, h => by
    unfold argSls at h
    split at h
    · rename_i s1 h1
      split at h
      · rename_i ss2 h2
        cases h
        obtain ⟨q1, q2⟩ := argSls_get h2
        refine ⟨by rw [List.length_cons, List.length_cons, q1], fun j s hj => ?_⟩
        cases j with
        | zero =>
          have : s1 = s := by simpa using hj
          subst this
          exact ⟨o, rfl, h1⟩
        | succ j =>
          obtain ⟨o', p1, p2⟩ := q2 j s (by simpa using hj)
          exact ⟨o', by simpa using p1, p2⟩
      · cases h
    · cases h
theorem OpsOk.get {K : PySem.W.Frag} {G : Hp} {σv : L2.St} : ∀ {os : List Op} {vs : List V} {j : Nat} {o : Op}, OpsOk K G σv os vs → os[j]? = some o → ∃ v, vs[j]? = some v ∧ OpOk K G σv o v
  | [], vs, j, o, h, e => by simp at e
  | o' :: os, vs, 0, o, h, e => by
    obtain ⟨v, r, e1, h1, h2⟩ := h
    subst e1
    have : o' = o := by simpa using e
    subst this
    exact ⟨v, rfl, h1⟩
  | o' :: os, vs, j + 1, o, h, e => by
    obtain ⟨v, r, e1, h1, h2⟩ := h
    subst e1
    obtain ⟨w, q1, q2⟩ := h2.get (j := j) (o := o) (by simpa using e)
    exact ⟨w, by simpa using q1, q2⟩
theorem OpsOk.length {K : PySem.W.Frag} {G : Hp} {σv : L2.St} : ∀ {os : List Op} {vs : List V}, OpsOk K G σv os vs → os.length = vs.length
  | [], vs, h => by have e : vs = [] := h; subst e; rfl
  | o :: os, vs, h => by
    obtain ⟨v, r, e1, h1, h2⟩ := h
    subst e1
    rw [List.length_cons, List.length_cons, h2.length]
theorem putBack_ok {σ0 : List Sl} : ∀ {os : List Op} {ss : List Sl} {σ σ2 : List Sl}, putBack σ0 os ss σ = some σ2 → (owns σ0 os).Nodup → σ2.length = σ.length ∧ (∀ i, i ∉ owns σ0 os → σ2[i]? = σ[i]?) ∧
    ∀ (j i : Nat) d l, os[j]? = some (.s i) → σ0[i]? = some (.ow d l) → i < σ.length → ∃ s s', ss[j]? = some s ∧ relk l s = some s' ∧ σ2[i]? = some s'
  | [], ss, σ, σ2, h, _ => by cases h; exact ⟨rfl, fun _ _ => rfl, fun j i d l h => by simp at h⟩
  | .d d :: os, [], σ, σ2, h, _ => by cases h
  | .s i :: os, [], σ, σ2, h, _ => by cases h
  | .d d :: os, s :: ss, σ, σ2, h, nd => by
    obtain ⟨h1, h2, h3⟩ := putBack_ok (os := os) (ss := ss) h nd
    refine ⟨h1, h2, fun j i d' l hj hi hl => ?_⟩
    cases j with
    | zero => simp at hj
    | succ j =>
      obtain ⟨s1, s2, q1, q2⟩ := h3 j i d' l (by simpa using hj) hi hl
      exact ⟨s1, s2, by simpa using q1, q2⟩
  | .s k :: os, s :: ss, σ, σ2, h, nd => by
    unfold putBack at h
    split at h
    · rename_i dk lk hk
      have ow : isOw σ0 k = true := isOw_iff.mpr ⟨_, _, hk⟩
      have nd : (bif isOw σ0 k then k :: owns σ0 os else owns σ0 os).Nodup := nd
      rw [ow] at nd
      obtain ⟨n1, n2⟩ := List.nodup_cons.mp nd
      split at h
      · rename_i s' hs'
        obtain ⟨h1, h2, h3⟩ := putBack_ok (os := os) (ss := ss) h n2
        refine ⟨by rw [h1, List.length_set], fun i hi => ?_, fun j i d' l hj hi hl => ?_⟩
        · have hi : i ∉ (bif isOw σ0 k then k :: owns σ0 os else owns σ0 os) := hi
          rw [ow] at hi
          have hi : i ∉ k :: owns σ0 os := hi
          rw [List.mem_cons, not_or] at hi
          rw [h2 i hi.2, List.getElem?_set_ne (Ne.symm hi.1)]
        · cases j with
          | zero =>
            have e : k = i := by simpa using hj
            subst e
            rw [hk] at hi; cases hi
            exact ⟨s, s', rfl, hs', by rw [h2 k n1, List.getElem?_set_self hl]⟩
          | succ j =>
            obtain ⟨s1, s2, q1, q2⟩ := h3 j i d' l (by simpa using hj) hi (by rw [List.length_set]; exact hl)
            exact ⟨s1, s2, by simpa using q1, q2⟩
      · cases h
    · rename_i hk
      have ow : isOw σ0 k = false := by
        cases q : isOw σ0 k with
        | false => rfl
        | true =>
          obtain ⟨d, l, q2⟩ := isOw_iff.mp q
          exact absurd q2 (hk d l)
      have nd : (bif isOw σ0 k then k :: owns σ0 os else owns σ0 os).Nodup := nd
      rw [ow] at nd
      have eo : owns σ0 (.s k :: os) = owns σ0 os := by
        show (bif isOw σ0 k then k :: owns σ0 os else owns σ0 os) = owns σ0 os
        rw [ow] <;> rfl
      obtain ⟨h1, h2, h3⟩ := putBack_ok (os := os) (ss := ss) h nd
      refine ⟨h1, fun i hi => h2 i (by rw [eo] at hi; exact hi), fun j i d' l hj hi hl => ?_⟩
      cases j with
      | zero =>
        have e : k = i := by simpa using hj
        subst e
        exact absurd hi (hk d' l)
      | succ j =>
        obtain ⟨s1, s2, q1, q2⟩ := h3 j i d' l (by simpa using hj) hi hl
        exact ⟨s1, s2, by simpa using q1, q2⟩

/-! ### the state that a callee sees, and what comes of it -/
section
open Classical
variable {K : PySem.W.Frag} {F G : Hp} {B : List (Nat × V)} {σ : List Sl} {σv : L2.St} {H : Hp} {ops : List Op} {vs : List V} {sls : List Sl}
/-- a is handed on -/
def Handed (σ : List Sl) (σv : L2.St) (ops : List Op) (a : Addr) : Prop := ∃ i, i ∈ owns σ ops ∧ σv[i]? = some (some (.ref a))
/-- all that the callee must leave alone -/
noncomputable def Others (G H : Hp) (P : Addr → Prop) : Hp := fun a => if G a ≠ none ∨ P a then none else H a
theorem others_some {P : Addr → Prop} {a : Addr} {o : HO} (h : Others G H P a = some o) : H a = some o ∧ G a = none ∧ ¬ P a := by
  unfold Others at h
  by_cases c : G a ≠ none ∨ P a
  · rw [if_pos c] at h; cases h
  · rw [if_neg c] at h
    have c1 : ¬ G a ≠ none := fun z => c (.inl z)
    exact ⟨h, Classical.not_not.mp c1, fun z => c (.inr z)⟩
theorem others_of {P : Addr → Prop} {a : Addr} (h1 : G a = none) (h2 : ¬ P a) : Others G H P a = H a := by
  unfold Others
  rw [if_neg]
  rintro (c | c)
  · exact c h1
  · exact h2 c
theorem map_some_get {vs : List V} {j : Nat} {v : V} : (vs.map some)[j]? = some (some v) ↔ vs[j]? = some v := by
  rw [List.getElem?_map]
  constructor
  · intro h
    cases q : vs[j]? with
    | none => rw [q] at h; cases h
    | some w => rw [q] at h; cases h; rfl
  · intro h
    rw [h]; rfl
theorem call_enter (r : Rel K F B G σ σv H) (ho : OpsOk K G σv ops vs) (ha : argSls σ ops = some sls) (nd : (owns σ ops).Nodup) :
    Rel K (Others G H (Handed σ σv ops)) [] G sls (vs.map some) H ∧ ∀ (i : Nat) d l, sls[i]? = some (.ow d l) → l = true := by
  obtain ⟨la, ga⟩ := argSls_get ha
  -- an own slot of the callee's
  have own : ∀ (j : Nat) d l, sls[j]? = some (.ow d l) → l = true ∧ ∃ i a l', ops[j]? = some (.s i) ∧ σ[i]? = some (.ow d l') ∧ σv[i]? = some (some (.ref a)) ∧ vs[j]? = some (.ref a) ∧ i ∈ owns σ ops ∧ G a = none ∧ OwnE K G H d a := fun j d l hj => by
    obtain ⟨o, h1, h2⟩ := ga j _ hj
    cases o with
    | d x => cases h2
    | s i =>
      have h2 : (match σ[i]? with | some (.fr d _) => some (Sl.fr d false) | some (.ow d _) => some (Sl.ow d true) | _ => none) = some (.ow d l) := h2
      split at h2
      · cases h2
      · rename_i d' l' q
        cases h2
        obtain ⟨a, p1, p2, p3, p4⟩ := r.ow i _ _ q
        obtain ⟨v, q1, q2⟩ := ho.get h1
        have q2 : σv[i]? = some (some v) := q2
        rw [p1] at q2; cases q2
        exact ⟨rfl, i, a, l', h1, q, p1, q1, mem_owns.mpr ⟨⟨j, h1⟩, isOw_iff.mpr ⟨_, _, q⟩⟩, p2, p4⟩
      · cases h2
  refine ⟨⟨r.gh, fun a o h => ?_, by rw [la, ho.length, List.length_map], fun j d l hj => ?_, fun j d l hj => ?_, fun j k a dj dk lj lk h1 h2 w1 w2 => ?_, fun p hp => absurd hp (by simp)⟩, fun j d l hj => (own j d l hj).1⟩
  · obtain ⟨h1, h2, _⟩ := others_some h
    exact ⟨h1, h2⟩
  · obtain ⟨o, h1, h2⟩ := ga j _ hj
    obtain ⟨v, q1, q2⟩ := ho.get h1
    cases o with
    | d x => cases h2; exact ⟨v, map_some_get.mpr q1, q2⟩
    | s i =>
      have h2 : (match σ[i]? with | some (.fr d _) => some (Sl.fr d false) | some (.ow d _) => some (Sl.ow d true) | _ => none) = some (.fr d l) := h2
      split at h2
      · rename_i d' l' q
        cases h2
        obtain ⟨w, p1, p2⟩ := r.fr i _ _ q
        have q2 : σv[i]? = some (some v) := q2
        rw [p1] at q2; cases q2
        exact ⟨_, map_some_get.mpr q1, p2⟩
      · cases h2
      · cases h2
  · obtain ⟨_, i, a, l', h1, h2, h3, h4, h5, h6, h7⟩ := own j d l hj
    refine ⟨a, map_some_get.mpr h4, h6, ?_, h7⟩
    unfold Others
    rw [if_pos (.inr ⟨i, h5, h3⟩)]
  · obtain ⟨_, i, a1, l1, p1, p2, p3, p4, p5, _⟩ := own j dj lj h1
    obtain ⟨_, i2, a2, l2, q1, q2, q3, q4, q5, _⟩ := own k dk lk h2
    have e1 := map_some_get.mp w1
    have e2 := map_some_get.mp w2
    rw [p4] at e1; cases e1
    rw [q4] at e2; cases e2
    have ei : i = i2 := r.inj i i2 a _ _ _ _ p2 q2 p3 q3
    subst ei
    exact owns_inj nd (mem_owns.mp p5).2 p1 q1
theorem call_leave {G' H' : Hp} {outs σ2 : List Sl} {res : R} {v : V} (r : Rel K F B G σ σv H) (ho : OpsOk K G σv ops vs) (nd : (owns σ ops).Nodup)
    (r' : Rel K (Others G H (Handed σ σv ops)) [] G' outs (vs.map some) H') (s : Same G G') (hp : putBack σ ops outs σ = some σ2) (hr : ResOk K (Others G H (Handed σ σv ops)) G' H' outs (vs.map some) res v) :
    Rel K F B G' σ2 σv H' ∧ ResOk K F G' H' σ2 σv res v := by
  obtain ⟨l2, out, ins⟩ := putBack_ok hp nd
  -- an own slot that was not handed on stands as it stood
  have keep : ∀ (i : Nat) d l, σ[i]? = some (.ow d l) → i ∉ owns σ ops → ∃ a, σv[i]? = some (some (.ref a)) ∧ F a = none ∧ H' a = H a ∧ G' a = none ∧ OwnE K G H d a ∧ Others G H (Handed σ σv ops) a = H a := fun i d l h hn => by
    obtain ⟨a, h1, h2, h3, h4⟩ := r.ow i d l h
    have np : ¬ Handed σ σv ops a := fun ⟨k, k1, k2⟩ => by
      obtain ⟨d', l', q⟩ := isOw_iff.mp (mem_owns.mp k1).2
      exact hn (r.inj i k a _ _ _ _ h q h1 k2 ▸ k1)
    have eo : Others G H (Handed σ σv ops) a = H a := others_of h2 np
    obtain ⟨o, ho'⟩ := h4.there
    obtain ⟨q1, q2⟩ := r'.fh a o (eo.trans ho')
    exact ⟨a, h1, h3, q1.trans ho'.symm, q2, h4, eo⟩
  -- one that was handed on
  have gone : ∀ i, i ∈ owns σ ops → ∃ (j : Nat) (d : D) (l : Bool) (a : Addr) (s s' : Sl), ops[j]? = some (.s i) ∧ σ[i]? = some (.ow d l) ∧ σv[i]? = some (some (.ref a)) ∧ F a = none ∧ vs[j]? = some (.ref a) ∧ outs[j]? = some s ∧ relk l s = some s' ∧ σ2[i]? = some s' := fun i hi => by
    obtain ⟨⟨j, hj⟩, ow⟩ := mem_owns.mp hi
    obtain ⟨d, l, q⟩ := isOw_iff.mp ow
    obtain ⟨a, h1, h2, h3, h4⟩ := r.ow i d l q
    obtain ⟨s, s', p1, p2, p3⟩ := ins j i d l hj q (List.getElem?_eq_some_iff.mp q).1
    obtain ⟨w, q1, q2⟩ := ho.get hj
    have q2 : σv[i]? = some (some w) := q2
    rw [h1] at q2; cases q2
    exact ⟨j, d, l, a, s, s', hj, q, h1, h3, q1, p1, p2, p3⟩
  -- every own slot of the new state
  have ow2 : ∀ (i : Nat) d l, σ2[i]? = some (.ow d l) → ∃ (a : Addr) (d0 : D) (l0 : Bool), σ[i]? = some (.ow d0 l0) ∧ σv[i]? = some (some (.ref a)) ∧ G' a = none ∧ F a = none ∧ OwnE K G' H' d a ∧
      ((i ∉ owns σ ops ∧ Others G H (Handed σ σv ops) a ≠ none) ∨ ∃ (j : Nat) (dj : D) (lj : Bool), outs[j]? = some (.ow dj lj) ∧ vs[j]? = some (.ref a)) := fun i d l h => by
    by_cases hi : i ∈ owns σ ops
    · obtain ⟨j, d0, l0, a, s1, s2, p1, p2, p3, p4, p5, p6, p7, p8⟩ := gone i hi
      rw [h] at p8; cases p8
      cases s1 with
      | no => cases p7
      | fr _ _ => cases p7
      | ow d1 l1 =>
        cases p7
        obtain ⟨b, q1, q2, q3, q4⟩ := r'.ow j _ _ p6
        have q1 := map_some_get.mp q1
        rw [p5] at q1; cases q1
        exact ⟨a, _, _, p2, p3, q2, p4, q4, .inr ⟨j, _, _, p6, p5⟩⟩
    · rw [out i hi] at h
      obtain ⟨a, h1, h2, h3, h4, h5, h6⟩ := keep i d l h hi
      obtain ⟨o, ho'⟩ := h5.there
      exact ⟨a, d, l, h, h1, h4, h2, h5.mono s h3, .inl ⟨hi, by rw [h6, ho']; exact fun z => nomatch z⟩⟩
  have rel2 : Rel K F B G' σ2 σv H' := by
    refine ⟨r'.gh, fun a o h => ?_, by rw [l2]; exact r.len, fun i d l h => ?_, fun i d l h => ?_, fun i k a di dk li lk h1 h2 w1 w2 => ?_, fun p hpB => ?_⟩
    · obtain ⟨h1, h2⟩ := r.fh a o h
      have np : ¬ Handed σ σv ops a := fun ⟨k, k1, k2⟩ => by
        obtain ⟨d', l', q⟩ := isOw_iff.mp (mem_owns.mp k1).2
        obtain ⟨b, q1, _, q3, _⟩ := r.ow k _ _ q
        rw [k2] at q1; cases q1
        rw [h] at q3; cases q3
      exact r'.fh a o ((others_of h2 np).trans h1)
    · by_cases hi : i ∈ owns σ ops
      · obtain ⟨j, d0, l0, a, s1, s2, p1, p2, p3, p4, p5, p6, p7, p8⟩ := gone i hi
        rw [h] at p8; cases p8
        cases s1 with
        | no => cases p7
        | ow _ _ => cases p7
        | fr d1 l1 =>
          cases p7
          obtain ⟨w, q1, q2⟩ := r'.fr j _ _ p6
          have q1 := map_some_get.mp q1
          rw [p5] at q1; cases q1
          exact ⟨_, p3, q2⟩
      · rw [out i hi] at h
        obtain ⟨w, q1, q2⟩ := r.fr i d l h
        exact ⟨w, q1, q2.mono s⟩
    · obtain ⟨a, _, _, _, h1, h2, h3, h4, _⟩ := ow2 i d l h
      exact ⟨a, h1, h2, h3, h4⟩
    · obtain ⟨a1, _, _, p1, p2, _⟩ := ow2 i di li h1
      obtain ⟨a2, _, _, q1, q2, _⟩ := ow2 k dk lk h2
      exact r.inj i k a _ _ _ _ p1 q1 w1 w2
    · obtain ⟨h1, s0, h2, h3⟩ := r.lock p hpB
      refine ⟨h1, ?_⟩
      by_cases hi : p.1 ∈ owns σ ops
      · obtain ⟨j, d0, l0, a, s1, s2, p1, p2, p3, p4, p5, p6, p7, p8⟩ := gone p.1 hi
        rw [h2] at p2; cases p2
        refine ⟨s2, p8, ?_⟩
        cases s1 with
        | no => cases p7
        | ow _ _ => cases p7; exact h3
        | fr _ _ => cases p7; exact h3
      · exact ⟨s0, by rw [out _ hi]; exact h2, h3⟩
  refine ⟨rel2, ?_⟩
  cases res with
  | v d => exact hr
  | n d =>
    obtain ⟨a, e, h1, h2, h3, h4⟩ := hr
    refine ⟨a, e, h1, ?_, h3, fun i d' l' q z => ?_⟩
    · cases hF : F a with
      | none => rfl
      | some o =>
        obtain ⟨f1, f2⟩ := r.fh a o hF
        have np : ¬ Handed σ σv ops a := fun ⟨k, k1, k2⟩ => by
          obtain ⟨d', l', q⟩ := isOw_iff.mp (mem_owns.mp k1).2
          obtain ⟨b, q1, _, q3, _⟩ := r.ow k _ _ q
          rw [k2] at q1; cases q1
          rw [hF] at q3; cases q3
        rw [others_of f2 np, f1] at h2; cases h2
    · obtain ⟨b, _, _, _, p1, _, _, _, p5⟩ := ow2 i d' l' q
      rw [z] at p1; cases p1
      rcases p5 with ⟨_, p5⟩ | ⟨j, dj, lj, p5, p6⟩
      · exact p5 h2
      · exact h4 j _ _ p5 (map_some_get.mpr p6)
end

section
variable {X : Cx} {CX : CXT} {k : Nat} {f : Addr} {fd : FuncData} {ps : List Str} {c : Fn} {np : Nat} {E : XK} {x : Str} {p pos : Pos} {e : Expr} {es : List Expr} {m : OEs}
theorem call_core {K : PySem.W.Frag} {E : XK} : ∀ σv H Q, tM K (mCall np c m) σv H Q → tCall (spF K np c) [] E (tOs K m) σv H Q := by
  intro σv H Q q
  obtain ⟨F, B, G, σ, res, σ', rel, em, k⟩ := q
  unfold mCall at em
  split at em
  · rename_i ops σ1 e1
    split at em
    · rename_i sls e2
      cases hb : (noDup (owns σ1 ops) && Nat.beq ops.length np) with
      | false => rw [hb] at em; cases em
      | true =>
        rw [hb] at em
        rw [Bool.and_eq_true] at hb
        obtain ⟨hd, hn⟩ := hb
        simp only [cond_true] at em
        split at em
        · rename_i r1 outs e3
          split at em
          · rename_i σ2 e4
            cases em
            refine ⟨F, B, G, σ, ops, σ1, rel, e1, fun vs G1 H1 r1 s1 p1 => ?_⟩
            have nd := noDup_ok hd
            obtain ⟨ce, cl⟩ := call_enter r1 p1 e2 nd
            have hl : vs.length = np := by rw [← p1.length]; exact Nat.eq_of_beq_eq_true hn
            refine ⟨by rw [List.append_nil]; exact hl, _, G1, sls, _, outs, by rw [List.append_nil]; exact ce, cl, e3, fun v G2 H2 r2 s2 p2 => ?_⟩
            rw [List.append_nil] at r2 p2
            obtain ⟨r3, p3⟩ := call_leave r1 p1 nd r2 s2 e4 p2
            exact k v G2 H2 r3 (s1.trans s2) p3
          · cases em
        · cases em
    · cases em
  · cases em
end

/-! ### a def -/
def padS (n : Nat) (ss : List Sl) : List Sl := ss ++ List.replicate (n - ss.length) .no
def keepS : List Sl → List Sl → List Sl
  | .ow _ _ :: r, s :: q => s :: keepS r q
  | _ :: r, _ :: q => .no :: keepS r q
  | _, _ => []
def mkFn (n : Nat) (m : MS) : Fn := fun sls => match m (padS n sls) with
  | some (.rt r σ) => bif Nat.ble sls.length σ.length then some (r, keepS sls σ) else none
  | some (.nx σ) => bif Nat.ble sls.length σ.length then some (.v .non, keepS sls σ) else none
  | _ => none
theorem keepS_get : ∀ {ss σ : List Sl} {i : Nat} {s : Sl}, (keepS ss σ)[i]? = some s → s = .no ∨ ((∃ d l, ss[i]? = some (.ow d l)) ∧ σ[i]? = some s)
  | [], σ, i, s, h => by simp [keepS] at h
  | s0 :: ss, [], i, s, h => by cases s0 <;> simp [keepS] at h
  | .ow d l :: ss, t :: σ, 0, s, h => by
    have e : t = s := by simpa [keepS] using h
    subst e
    exact .inr ⟨⟨d, l, rfl⟩, rfl⟩
  | .no :: ss, t :: σ, 0, s, h => by
    have e : Sl.no = s := by simpa [keepS] using h
    exact .inl e.symm
  | .fr _ _ :: ss, t :: σ, 0, s, h => by
    have e : Sl.no = s := by simpa [keepS] using h
    exact .inl e.symm
  | .ow d l :: ss, t :: σ, i + 1, s, h => by
    have h' : (keepS ss σ)[i]? = some s := by simpa [keepS] using h
    rcases keepS_get h' with h | ⟨⟨d, l, h1⟩, h2⟩
    · exact .inl h
    · exact .inr ⟨⟨d, l, by simpa using h1⟩, by simpa using h2⟩
  | .no :: ss, t :: σ, i + 1, s, h => by
    have h' : (keepS ss σ)[i]? = some s := by simpa [keepS] using h
    rcases keepS_get h' with h | ⟨⟨d, l, h1⟩, h2⟩
    · exact .inl h
    · exact .inr ⟨⟨d, l, by simpa using h1⟩, by simpa using h2⟩
  | .fr _ _ :: ss, t :: σ, i + 1, s, h => by
    have h' : (keepS ss σ)[i]? = some s := by simpa [keepS] using h
    rcases keepS_get h' with h | ⟨⟨d, l, h1⟩, h2⟩
    · exact .inl h
    · exact .inr ⟨⟨d, l, by simpa using h1⟩, by simpa using h2⟩
theorem keepS_len : ∀ {ss σ : List Sl}, ss.length ≤ σ.length → (keepS ss σ).length = ss.length
  | [], σ, _ => by cases σ <;> rfl
  | s :: ss, [], h => by simp at h
  | s :: ss, t :: σ, h => by
    have h' : ss.length ≤ σ.length := by simpa using h
    have := keepS_len h'
    cases s <;> simp [keepS, this]
theorem padS_get {n : Nat} {ss : List Sl} {i : Nat} {s : Sl} (h : (padS n ss)[i]? = some s) : s = .no ∨ ss[i]? = some s := by
  unfold padS at h
  by_cases hi : i < ss.length
  · rw [List.getElem?_append_left hi] at h
    exact .inr h
  · rw [List.getElem?_append_right (by omega)] at h
    obtain ⟨_, e⟩ := List.getElem?_eq_some_iff.mp h
    rw [List.getElem_replicate] at e
    exact .inl e.symm
theorem start_get {N : List Str} {vs : List V} {i : Nat} {v : V} (h : vs[i]? = some v) : (L2.start N vs)[i]? = some (some v) := by
  unfold L2.start
  have hi : i < vs.length := (List.getElem?_eq_some_iff.mp h).1
  rw [List.getElem?_append_left (by rw [List.length_map]; exact hi), List.getElem?_map, h]
  rfl
/-- the slots that a callee was handed, with their values -/
def pinsOf : Nat → List Sl → List V → List (Nat × V)
  | i, .ow _ _ :: ss, v :: vs => (i, v) :: pinsOf (i + 1) ss vs
  | i, _ :: ss, _ :: vs => pinsOf (i + 1) ss vs
  | _, _, _ => []
theorem pinsOf_mem : ∀ {ss : List Sl} {vs : List V} {k : Nat} {p : Nat × V}, p ∈ pinsOf k ss vs → ∃ i d l, p.1 = k + i ∧ ss[i]? = some (.ow d l) ∧ vs[i]? = some p.2
  | [], vs, k, p, h => by cases vs <;> simp [pinsOf] at h
  | s :: ss, [], k, p, h => by cases s <;> simp [pinsOf] at h
  | .ow d l :: ss, v :: vs, k, p, h => by
    have h : p ∈ (k, v) :: pinsOf (k + 1) ss vs := h
    rcases List.mem_cons.mp h with e | h
    · subst e
      exact ⟨0, d, l, rfl, rfl, rfl⟩
    · obtain ⟨i, d, l, h1, h2, h3⟩ := pinsOf_mem h
      exact ⟨i + 1, d, l, by omega, by simpa using h2, by simpa using h3⟩
  | .no :: ss, v :: vs, k, p, h => by
    have h : p ∈ pinsOf (k + 1) ss vs := h
    obtain ⟨i, d, l, h1, h2, h3⟩ := pinsOf_mem h
    exact ⟨i + 1, d, l, by omega, by simpa using h2, by simpa using h3⟩
  | .fr _ _ :: ss, v :: vs, k, p, h => by
    have h : p ∈ pinsOf (k + 1) ss vs := h
    obtain ⟨i, d, l, h1, h2, h3⟩ := pinsOf_mem h
    exact ⟨i + 1, d, l, by omega, by simpa using h2, by simpa using h3⟩
theorem pinsOf_has : ∀ {ss : List Sl} {vs : List V} {k i : Nat} {d : D} {l : Bool} {v : V}, ss[i]? = some (.ow d l) → vs[i]? = some v → (k + i, v) ∈ pinsOf k ss vs
  | [], vs, k, i, d, l, v, h, _ => by simp at h
  | s :: ss, [], k, i, d, l, v, h, h' => by simp at h'
  | s :: ss, w :: vs, k, 0, d, l, v, h, h' => by
    have e : s = .ow d l := by simpa using h
    have e2 : w = v := by simpa using h'
    subst e e2
    exact List.mem_cons_self
  | s :: ss, w :: vs, k, i + 1, d, l, v, h, h' => by
    have q := pinsOf_has (k := k + 1) (i := i) (ss := ss) (vs := vs) (by simpa using h) (by simpa using h')
    have e : k + 1 + i = k + (i + 1) := by omega
    rw [e] at q
    cases s with
    | ow _ _ => exact List.mem_cons_of_mem _ q
    | no => exact q
    | fr _ _ => exact q
section
variable {P : Program} {w : World} {K : PySem.W.Frag} {mg : Str → Option Value} {base : Heap}
theorem fn_enter {F G H : Hp} {sls : List Sl} {vs : List V} {N : List Str} (r : Rel K F [] G sls (vs.map some) H) (hl : ∀ (i : Nat) d l, sls[i]? = some (.ow d l) → l = true) (hN : vs.length ≤ N.length) :
    Rel K F (pinsOf 0 sls vs) G (padS N.length sls) (L2.start N vs) H := by
  have len : sls.length = vs.length := by have := r.len; rwa [List.length_map] at this
  have own : ∀ (i : Nat) d l, (padS N.length sls)[i]? = some (.ow d l) → sls[i]? = some (.ow d l) := fun i d l h => by
    rcases padS_get h with e | h
    · cases e
    · exact h
  have val : ∀ (i : Nat) v, (vs.map some)[i]? = some (some v) → (L2.start N vs)[i]? = some (some v) := fun i v h => start_get (map_some_get.mp h)
  refine ⟨r.gh, r.fh, ?_, fun i d l h => ?_, fun i d l h => ?_, fun i j a di dj li lj h1 h2 w1 w2 => ?_, fun p hp => ?_⟩
  · unfold padS L2.start
    rw [List.length_append, List.length_append, List.length_replicate, List.length_replicate, List.length_map, len]
  · rcases padS_get h with e | h
    · cases e
    · obtain ⟨v, h1, h2⟩ := r.fr i d l h
      exact ⟨v, val i v h1, h2⟩
  · obtain ⟨a, h1, h2⟩ := r.ow i d l (own i d l h)
    exact ⟨a, val i _ h1, h2⟩
  · have q1 := own i di li h1
    have q2 := own j dj lj h2
    obtain ⟨a1, p1, _⟩ := r.ow i _ _ q1
    obtain ⟨a2, p2, _⟩ := r.ow j _ _ q2
    have e1 := val i _ p1
    have e2 := val j _ p2
    rw [w1] at e1; cases e1
    rw [w2] at e2; cases e2
    exact r.inj i j a _ _ _ _ q1 q2 p1 p2
  · obtain ⟨i, d, l, h1, h2, h3⟩ := pinsOf_mem hp
    have h1 : p.1 = i := by omega
    rw [h1]
    refine ⟨start_get h3, .ow d l, ?_, hl i d l h2⟩
    unfold padS
    rw [List.getElem?_append_left (List.getElem?_eq_some_iff.mp h2).1]
    exact h2
theorem fn_leave {F G G' H H' : Hp} {sls : List Sl} {vs : List V} {σ : List Sl} {σv : L2.St} {res : R} {v : V} (r : Rel K F [] G sls (vs.map some) H) (r' : Rel K F (pinsOf 0 sls vs) G' σ σv H') (hL : sls.length ≤ σ.length) (hr : ResOk K F G' H' σ σv res v) :
    Rel K F [] G' (keepS sls σ) (vs.map some) H' ∧ ResOk K F G' H' (keepS sls σ) (vs.map some) res v := by
  have len : sls.length = vs.length := by have := r.len; rwa [List.length_map] at this
  -- what is kept stands at its own place
  have kept : ∀ (i : Nat) s, (keepS sls σ)[i]? = some s → s ≠ .no → σ[i]? = some s ∧ ∃ a, vs[i]? = some (.ref a) ∧ σv[i]? = some (some (.ref a)) := fun i s h hn => by
    rcases keepS_get h with e | ⟨⟨d, l, h1⟩, h2⟩
    · exact absurd e hn
    · obtain ⟨a, p1, _⟩ := r.ow i d l h1
      have p1 := map_some_get.mp p1
      have m := pinsOf_has (k := 0) h1 p1
      rw [Nat.zero_add] at m
      exact ⟨h2, a, p1, (r'.lock _ m).1⟩
  refine ⟨⟨r'.gh, r'.fh, by rw [keepS_len hL, len, List.length_map], fun i d l h => ?_, fun i d l h => ?_, fun i j a di dj li lj h1 h2 w1 w2 => ?_, fun p hp => absurd hp (by simp)⟩, ?_⟩
  · obtain ⟨h1, a, h2, h3⟩ := kept i _ h (fun z => nomatch z)
    obtain ⟨u, q1, q2⟩ := r'.fr i _ _ h1
    rw [h3] at q1; cases q1
    exact ⟨_, map_some_get.mpr h2, q2⟩
  · obtain ⟨h1, a, h2, h3⟩ := kept i _ h (fun z => nomatch z)
    obtain ⟨u, q1, q2⟩ := r'.ow i _ _ h1
    rw [h3] at q1; cases q1
    exact ⟨_, map_some_get.mpr h2, q2⟩
  · obtain ⟨q1, a1, q2, q3⟩ := kept i _ h1 (fun z => nomatch z)
    obtain ⟨p1, a2, p2, p3⟩ := kept j _ h2 (fun z => nomatch z)
    have w1 := map_some_get.mp w1
    have w2 := map_some_get.mp w2
    rw [q2] at w1; cases w1
    rw [p2] at w2; cases w2
    exact r'.inj i j a _ _ _ _ q1 p1 q3 p3
  · cases res with
    | v d => exact hr
    | n d =>
      obtain ⟨a, e, h1, h2, h3, h4⟩ := hr
      refine ⟨a, e, h1, h2, h3, fun i d' l' q z => ?_⟩
      obtain ⟨q1, a1, q2, q3⟩ := kept i _ q (fun z => nomatch z)
      have z := map_some_get.mp z
      rw [q2] at z; cases z
      exact h4 i _ _ q1 q3
/-- THE RULE for a def -/
theorem fn_ok {x qual : Str} {st : Stmt} {f : Addr} {fd : FuncData} {N ps : List Str} {k : Nat} {m : MS} (Fu : Fun K x qual st f fd) (S : FnScope N ps (defScope st)) (hn : ps.length ≤ N.length)
    (body : ∀ (cdv : Value) (A : Around) (outer : List Env) (s : Shared) (H : Hp) (E : XK), Room k (A.deeper (envOfC qual (defScope st) s.heap.objs.size f cdv)) →
      PSs (cxOf CX0 P w K mg base N qual (defScope st) f cdv A outer s H E).nox (defBody st) (tS K m)) : FnOk P w K mg base CX0 (k + 1) f fd ps (spF K ps.length (mkFn N.length m)) := by
  refine Fu.ok S (fun vs H Q E h => h.1) fun cdv A outer s H vs Q E hr h => ⟨_, body cdv A outer s H E hr, ?_⟩
  obtain ⟨hl, F, G, sls, r, outs, rel, hlk, em, kk⟩ := h
  have hN : vs.length ≤ N.length := by rw [hl]; exact hn
  have len : sls.length = vs.length := by have := rel.len; rwa [List.length_map] at this
  have ent := fn_enter rel hlk hN
  unfold mkFn at em
  split at em
  · rename_i r1 σ1 e1
    cases hb : Nat.ble sls.length σ1.length with
    | false => rw [hb] at em; cases em
    | true =>
      rw [hb] at em; cases em
      refine ⟨F, pinsOf 0 sls vs, G, _, _, ent, e1, fun v σv' G' H' r' s' p' => ?_⟩
      obtain ⟨q1, q2⟩ := fn_leave rel r' (Nat.le_of_ble_eq_true hb) p'
      exact kk v G' H' q1 s' q2
  · rename_i σ1 e1
    cases hb : Nat.ble sls.length σ1.length with
    | false => rw [hb] at em; cases em
    | true =>
      rw [hb] at em; cases em
      refine ⟨F, pinsOf 0 sls vs, G, _, _, ent, e1, fun σv' G' H' r' s' => ?_⟩
      obtain ⟨q1, q2⟩ := fn_leave (res := .v .non) (v := .non) rel r' (Nat.le_of_ble_eq_true hb) rfl
      exact kk .non G' H' q1 s' q2
  · cases em
end
end Mi

set_option Elab.async false
set_option linter.all false
set_option maxRecDepth 100000
set_option maxHeartbeats 1000000
/-! Mi, part 5: list comprehensions. -/
namespace Mi
open PySem PySem.Spec PyProof.Rows L2

def wipeS (σ : List Sl) : List Nat → List Sl
  | [] => σ
  | v :: vs => (wipeS σ vs).set v .no
def backS (σ0 σ : List Sl) : List Nat → List Sl
  | [] => σ
  | v :: vs => match σ0[v]? with
    | some s => (backS σ0 σ vs).set v s
    | none => backS σ0 σ vs
/-- a comprehension's own names may be forgotten here -/
def canWipe (σ : List Sl) (vs : List Nat) : Bool := vs.all fun i => match σ[i]? with
  | some .no => true
  | some (.fr _ l) => !l
  | _ => false
def lcL (g : TgE) (t : CE) (e : VE) (vs : List Nat) : List D → List D → List Sl → Option (List D × List Sl)
  | [], acc, σ => some (acc, σ)
  | d :: ds, acc, σ => match g d σ with
    | some σ1 => match t σ1 with
      | some (true, σ2) => match e σ2 with
        | some (y, σ3) => lcL g t e vs ds (y :: acc) (wipeS σ3 vs)
        | none => none
      | some (false, σ2) => lcL g t e vs ds acc (wipeS σ2 vs)
      | none => none
    | none => none
def mLc (it : IE) (g : TgE) (t : CE) (e : VE) (vs : List Nat) : ME := fun σ => match it σ with
  | some (ds, σ1) => bif canWipe σ1 vs && Nat.ble ds.length 1000000 then (match lcL g t e vs ds [] (wipeS σ1 vs) with
    | some (acc, σ2) => some (.n (.lst acc.reverse), backS σ1 σ2 vs)
    | none => none) else none
  | none => none
def cYes : CE := fun σ => some (true, σ)

theorem wipeS_len (σ : List Sl) : ∀ vs, (wipeS σ vs).length = σ.length
  | [] => rfl
  | v :: vs => by unfold wipeS; rw [List.length_set, wipeS_len σ vs]
theorem wipeS_get {σ : List Sl} {i : Nat} {s : Sl} : ∀ {vs : List Nat}, (wipeS σ vs)[i]? = some s → s = .no ∨ (i ∉ vs ∧ σ[i]? = some s)
  | [], h => .inr ⟨by simp, h⟩
  | v :: vs, h => by
    unfold wipeS at h
    rcases getElem?_set_cases h with ⟨_, e, _⟩ | ⟨ne, h⟩
    · exact .inl e
    · rcases wipeS_get h with e | ⟨h1, h2⟩
      · exact .inl e
      · exact .inr ⟨by rw [List.mem_cons, not_or]; exact ⟨ne, h1⟩, h2⟩
theorem wipeS_out {σ : List Sl} {i : Nat} : ∀ {vs : List Nat}, i ∉ vs → (wipeS σ vs)[i]? = σ[i]?
  | [], _ => rfl
  | v :: vs, h => by
    rw [List.mem_cons, not_or] at h
    unfold wipeS
    rw [List.getElem?_set_ne (Ne.symm h.1), wipeS_out h.2]
theorem wipe_get {σv : L2.St} {i : Nat} : ∀ {vs : List Nat}, i ∉ vs → (wipe σv vs)[i]? = σv[i]? := fun h => wipe_out h
theorem backS_len (σ0 σ : List Sl) : ∀ vs, (backS σ0 σ vs).length = σ.length
  | [] => rfl
  | v :: vs => by
    unfold backS
    split
    · rw [List.length_set, backS_len σ0 σ vs]
    · exact backS_len σ0 σ vs
theorem backS_get {σ0 σ : List Sl} {i : Nat} {s : Sl} : ∀ {vs : List Nat}, (backS σ0 σ vs)[i]? = some s → (i ∈ vs ∧ σ0[i]? = some s) ∨ σ[i]? = some s
  | [], h => .inr h
  | v :: vs, h => by
    unfold backS at h
    split at h
    · rename_i s' q
      rcases getElem?_set_cases h with ⟨e1, e, _⟩ | ⟨ne, h⟩
      · subst e1 e
        exact .inl ⟨List.mem_cons_self, q⟩
      · rcases backS_get h with ⟨h1, h2⟩ | h
        · exact .inl ⟨List.mem_cons_of_mem _ h1, h2⟩
        · exact .inr h
    · rcases backS_get h with ⟨h1, h2⟩ | h
      · exact .inl ⟨List.mem_cons_of_mem _ h1, h2⟩
      · exact .inr h
theorem backS_out {σ0 σ : List Sl} {i : Nat} : ∀ {vs : List Nat}, i ∉ vs → (backS σ0 σ vs)[i]? = σ[i]?
  | [], _ => rfl
  | v :: vs, h => by
    rw [List.mem_cons, not_or] at h
    unfold backS
    split
    · rw [List.getElem?_set_ne (Ne.symm h.1), backS_out h.2]
    · exact backS_out h.2
theorem canWipe_ok {σ : List Sl} {vs : List Nat} (h : canWipe σ vs = true) {i : Nat} (hi : i ∈ vs) : σ[i]? = some .no ∨ ∃ d, σ[i]? = some (.fr d false) := by
  unfold canWipe at h
  rw [List.all_eq_true] at h
  have q := h i hi
  split at q
  · exact .inl (by assumption)
  · rename_i d l e
    cases l with
    | true => cases q
    | false => exact .inr ⟨d, e⟩
  · cases q

section
variable {K : PySem.W.Frag} {F G H : Hp} {B : List (Nat × V)} {σ : List Sl} {σv σv' : L2.St} {vs : List Nat}
/-- own names forgotten: the values elsewhere are those of the block's start -/
theorem Rel.wiped (r : Rel K F B G σ σv H) (ho : σv'.length = σv.length) (hv : ∀ i, i ∉ vs → σv'[i]? = σv[i]?) (hB : ∀ p ∈ B, p.1 ∉ vs) : Rel K F B G (wipeS σ vs) σv' H := by
  refine ⟨r.gh, r.fh, by rw [wipeS_len, ho]; exact r.len, fun i d l h => ?_, fun i d l h => ?_, fun i j a di dj li lj h1 h2 w1 w2 => ?_, fun p hp => ?_⟩
  · rcases wipeS_get h with e | ⟨h1, h2⟩
    · cases e
    · obtain ⟨v, q1, q2⟩ := r.fr i d l h2
      exact ⟨v, by rw [hv i h1]; exact q1, q2⟩
  · rcases wipeS_get h with e | ⟨h1, h2⟩
    · cases e
    · obtain ⟨v, q1, q2⟩ := r.ow i d l h2
      exact ⟨v, by rw [hv i h1]; exact q1, q2⟩
  · rcases wipeS_get h1 with e | ⟨h1, p1⟩
    · cases e
    · rcases wipeS_get h2 with e | ⟨h2, p2⟩
      · cases e
      · rw [hv i h1] at w1
        rw [hv j h2] at w2
        exact r.inj i j a _ _ _ _ p1 p2 w1 w2
  · obtain ⟨q1, s, q2, q3⟩ := r.lock p hp
    have hn := hB p hp
    exact ⟨by rw [hv _ hn]; exact q1, s, by rw [wipeS_out hn]; exact q2, q3⟩
/-- .. and set back -/
theorem Rel.backed {σ0 : List Sl} {G0 H0 F0 : Hp} (r0 : Rel K F0 B G0 σ0 σv H0) (cw : canWipe σ0 vs = true) (r : Rel K F B G σ σv' H) (s : Same G0 G) (hv : ∀ i, i ∉ vs → σv'[i]? = σv[i]?) (hl : σ.length = σ0.length) (hno : ∀ i, i ∈ vs → ∀ s, σ[i]? = some s → s = .no) : Rel K F B G (backS σ0 σ vs) σv H := by
  have out : ∀ {i : Nat} {s : Sl}, (backS σ0 σ vs)[i]? = some s → (i ∈ vs ∧ (s = .no ∨ ∃ d, s = .fr d false ∧ σ0[i]? = some (.fr d false))) ∨ (i ∉ vs ∧ σ[i]? = some s) := fun {i s} h => by
    by_cases hi : i ∈ vs
    · rcases backS_get h with ⟨_, h2⟩ | h
      · rcases canWipe_ok cw hi with e | ⟨d, e⟩
        · rw [e] at h2; cases h2; exact .inl ⟨hi, .inl rfl⟩
        · rw [e] at h2; cases h2; exact .inl ⟨hi, .inr ⟨d, rfl, e⟩⟩
      · exact .inl ⟨hi, .inl (hno i hi s h)⟩
    · rw [backS_out hi] at h
      exact .inr ⟨hi, h⟩
  refine ⟨r.gh, r.fh, by rw [backS_len, hl]; exact r0.len, fun i d l h => ?_, fun i d l h => ?_, fun i j a di dj li lj h1 h2 w1 w2 => ?_, fun p hp => ?_⟩
  · rcases out h with ⟨_, e | ⟨d', e, q⟩⟩ | ⟨h1, h2⟩
    · cases e
    · cases e
      obtain ⟨v, q1, q2⟩ := r0.fr i _ _ q
      exact ⟨v, q1, q2.mono s⟩
    · obtain ⟨v, q1, q2⟩ := r.fr i d l h2
      exact ⟨v, by rw [← hv i h1]; exact q1, q2⟩
  · rcases out h with ⟨_, e | ⟨d', e, q⟩⟩ | ⟨h1, h2⟩
    · cases e
    · cases e
    · obtain ⟨v, q1, q2⟩ := r.ow i d l h2
      exact ⟨v, by rw [← hv i h1]; exact q1, q2⟩
  · rcases out h1 with ⟨_, e | ⟨d', e, q⟩⟩ | ⟨h1, p1⟩
    · cases e
    · cases e
    · rcases out h2 with ⟨_, e | ⟨d', e, q⟩⟩ | ⟨h2, p2⟩
      · cases e
      · cases e
      · rw [← hv i h1] at w1
        rw [← hv j h2] at w2
        exact r.inj i j a _ _ _ _ p1 p2 w1 w2
  · obtain ⟨q1, s1, q2, q3⟩ := r0.lock p hp
    have hn : p.1 ∉ vs := fun hi => by
      rcases canWipe_ok cw hi with e | ⟨d, e⟩
      · rw [e] at q2; cases q2; cases q3
      · rw [e] at q2; cases q2; cases q3
    obtain ⟨_, s2, q4, q5⟩ := r.lock p hp
    exact ⟨q1, s2, by rw [backS_out hn]; exact q4, q5⟩
/-- what others own changes with the heap -/
theorem Rel.reF {p : Addr} {o o' : HO} (r : Rel K (upd F p o) B G σ σv H) : Rel K (upd F p o') B G σ σv (upd H p o') := by
  have hg : G p = none := (r.fh p o upd_same).2
  refine ⟨fun a u h => ?_, fun a u h => ?_, r.len, r.fr, fun i d l h => ?_, r.inj, r.lock⟩
  · have e : a ≠ p := fun z => by subst z; rw [hg] at h; cases h
    rw [upd_ne e]; exact r.gh a u h
  · by_cases e : a = p
    · subst e
      rw [upd_same] at h; cases h
      exact ⟨upd_same, hg⟩
    · rw [upd_ne e] at h
      obtain ⟨q1, q2⟩ := r.fh a u (by rw [upd_ne e]; exact h)
      exact ⟨by rw [upd_ne e]; exact q1, q2⟩
  · obtain ⟨a, h1, h2, h3, h4⟩ := r.ow i d l h
    have e : a ≠ p := fun z => by subst z; rw [upd_same] at h3; cases h3
    exact ⟨a, h1, h2, by rw [upd_ne e] at h3 ⊢; exact h3, h4.mono (Same.refl G) (upd_ne e)⟩
/-- a new object goes to what others own -/
theorem Rel.toF (r : Rel K F B G σ σv H) {p : Addr} {o : HO} (hp : H p = none) : Rel K (upd F p o) B G σ σv (upd H p o) := by
  obtain ⟨h1, h2, h3⟩ := r.fresh hp
  refine ⟨r.gh.trans (same_new hp), fun a u h => ?_, r.len, r.fr, fun i d l h => ?_, r.inj, r.lock⟩
  · by_cases e : a = p
    · subst e
      rw [upd_same] at h; cases h
      exact ⟨upd_same, h1⟩
    · rw [upd_ne e] at h
      obtain ⟨q1, q2⟩ := r.fh a u h
      exact ⟨by rw [upd_ne e]; exact q1, q2⟩
  · obtain ⟨a, q1, q2, q3, q4⟩ := r.ow i d l h
    have e : a ≠ p := fun z => by subst z; exact h3 i d l h q1
    exact ⟨a, q1, q2, by rw [upd_ne e]; exact q3, q4.mono (Same.refl G) (upd_ne e)⟩
/-- .. and back -/
theorem Rel.ofF (r : Rel K (upd F p o) B G σ σv H) (hF : F p = none) : Rel K F B G σ σv H ∧ H p = some o ∧ G p = none ∧ Away σ σv p := by
  obtain ⟨h1, h2⟩ := r.fh p o upd_same
  refine ⟨⟨r.gh, fun a u h => ?_, r.len, r.fr, fun i d l h => ?_, r.inj, r.lock⟩, h1, h2, fun i d l h e => ?_⟩
  · have e : a ≠ p := fun z => by subst z; rw [hF] at h; cases h
    exact r.fh a u (by rw [upd_ne e]; exact h)
  · obtain ⟨a, q1, q2, q3, q4⟩ := r.ow i d l h
    have e : a ≠ p := fun z => by subst z; rw [upd_same] at q3; cases q3
    exact ⟨a, q1, q2, by rw [upd_ne e] at q3; exact q3, q4⟩
  · obtain ⟨a, q1, q2, q3, q4⟩ := r.ow i d l h
    rw [e] at q1; cases q1
    rw [upd_same] at q3; cases q3
end

theorem wipe_only {σv σ2 : L2.St} {js vs : List Nat} (h : OnlyAt js (wipe σv vs) σ2) (hj : ∀ i ∈ js, i ∈ vs) : wipe σ2 vs = wipe σv vs := by
  have lw : ∀ (s : L2.St), (wipe s vs).length = s.length := fun s => wipe_length s vs
  refine List.ext_getElem? fun i => ?_
  by_cases hi : i ∈ vs
  · -- both are forgotten there, or beyond the end
    have no : ∀ (s : L2.St) (ks : List Nat), i ∈ ks → (wipe s ks)[i]? = if i < s.length then some none else none := by
      intro s ks
      induction ks with
      | nil => intro z; simp at z
      | cons v ks ih =>
        intro z
        unfold wipe
        by_cases e : v = i
        · subst e
          by_cases hl : v < s.length
          · rw [List.getElem?_set_self (by rw [wipe_length]; exact hl), if_pos hl]
          · rw [if_neg hl, List.getElem?_eq_none (by rw [List.length_set, wipe_length]; omega)]
        · rw [List.getElem?_set_ne e]
          rcases List.mem_cons.mp z with z | z
          · exact absurd z.symm e
          · exact ih z
    rw [no σ2 vs hi, no σv vs hi, h.1, lw]
  · rw [wipe_get hi, h.2 i (fun z => hi (hj i z)), wipe_get hi]
theorem lc_core2 {K : PySem.W.Frag} {it : IE} {g : TgE} {t : CE} {e : VE} {vs js : List Nat} (hj : ∀ i ∈ js, i ∈ vs) : ∀ σv H Q, tM K (mLc it g t e vs) σv H Q → tLc (tI K it) (tG K js g) (tT K t) (tV K e) vs σv H Q := by
  intro σv H Q q
  obtain ⟨F, B, G, σ, res, σ', rel, em, k⟩ := q
  unfold mLc at em
  split at em
  · rename_i ds σ1 e1
    cases hb : (canWipe σ1 vs && Nat.ble ds.length 1000000) with
    | false => rw [hb] at em; cases em
    | true =>
      rw [hb] at em
      rw [Bool.and_eq_true] at hb
      obtain ⟨cw, hz⟩ := hb
      have hz : ds.length ≤ 1000000 := Nat.le_of_ble_eq_true hz
      simp only [cond_true] at em
      split at em
      · rename_i accE σE e2
        cases em
        refine ⟨F, B, G, σ, ds, σ1, rel, e1, fun J G1 H1 r1 s1 wk D hD => ?_⟩
        have hF : F D = none := (r1.fresh hD).2.1
        have hBv : ∀ p ∈ B, p.1 ∉ vs := fun p hp hi => by
          obtain ⟨q1, s, q2, q3⟩ := r1.lock p hp
          rcases canWipe_ok cw hi with z | ⟨d, z⟩
          · rw [z] at q2; cases q2; cases q3
          · rw [z] at q2; cases q2; cases q3
        have r1' : Rel K F B G1 (wipeS σ1 vs) (wipe σv vs) H1 := r1.wiped (wipe_length σv vs) (fun i hi => wipe_get hi) hBv
        refine ⟨fun i m H' => m = ds.length - i ∧ i ≤ ds.length ∧ ∃ G' σ' acc accV, Rel K (upd F D (.lst accV)) B G' σ' (wipe σv vs) H' ∧ Same G1 G' ∧ RepL K G' acc.reverse accV ∧ acc.length ≤ i ∧ (∀ j, j ∈ vs → ∀ s, σ'[j]? = some s → s = .no) ∧ lcL g t e vs (ds.drop i) acc σ' = some (accE, σE),
          ⟨ds.length, by omega, Nat.zero_le _, G1, _, [], [], r1'.toF hD, Same.refl G1, RepL.nil, Nat.zero_le _, fun j hj s hs => by
            rcases wipeS_get hs with z | ⟨z, _⟩
            · exact z
            · exact absurd hj z, e2⟩, ?_⟩
        rintro i m H2 ⟨hm, hi, G2, σ2, acc, accV, r2, s2, ra, la, hno, e3⟩
        by_cases hlt : i < ds.length
        · have hd : ds[i]? = some ds[i] := List.getElem?_eq_getElem hlt
          obtain ⟨go, yl⟩ := wk.1 i _ hd _ B G2 σ2 _ H2 s2 r2
          refine .inr ⟨go, fun H' => ∃ G' σ' acc accV, Rel K (upd F D (.lst accV)) B G' σ' (wipe σv vs) H' ∧ Same G1 G' ∧ RepL K G' acc.reverse accV ∧ acc.length ≤ i + 1 ∧ (∀ j, j ∈ vs → ∀ s, σ'[j]? = some s → s = .no) ∧ lcL g t e vs (ds.drop (i + 1)) acc σ' = some (accE, σE),
            fun H' w => ⟨ds.length - (i + 1), by omega, rfl, hlt, w⟩, fun x H3 y => ?_⟩
          obtain ⟨G3, s3, r3, p3⟩ := yl x H3 y
          rw [List.drop_eq_getElem_cons hlt] at e3
          have e3 : (match g ds[i] σ2 with
            | some σ1 => match t σ1 with
              | some (true, σ2) => match e σ2 with
                | some (y, σ3) => lcL g t e vs (ds.drop (i + 1)) (y :: acc) (wipeS σ3 vs)
                | none => none
              | some (false, σ2) => lcL g t e vs (ds.drop (i + 1)) acc (wipeS σ2 vs)
              | none => none
            | none => none) = some (accE, σE) := e3
          split at e3
          · rename_i σ4 e4
            refine ⟨_, B, G3, σ2, _, σ4, r3, p3, e4, fun σv4 r4 o4 => ⟨wipe_only o4 hj, ?_⟩⟩
            have hv4 : ∀ j, j ∉ vs → (wipe σv vs)[j]? = σv4[j]? := fun j hj' => (o4.2 j (fun z => hj' (hj j z))).symm
            have hl4 : (wipe σv vs).length = σv4.length := o4.1.symm
            have wno : ∀ (σx : List Sl), ∀ j, j ∈ vs → ∀ s, (wipeS σx vs)[j]? = some s → s = .no := fun σx j hj' s hs => by
              rcases wipeS_get hs with z | ⟨z, _⟩
              · exact z
              · exact absurd hj' z
            split at e3
            · rename_i σ5 e5
              refine ⟨_, B, G3, σ4, true, σ5, r4, e5, fun G5 H5 r5 s5 => iteT ?_⟩
              split at e3
              · rename_i yd σ6 e6
                refine ⟨_, B, G5, σ5, yd, σ6, r5, e6, fun yv G6 H6 r6 s6 p6 => ⟨accV, (r6.fh D _ upd_same).1, ?_, ?_⟩⟩
                · have := ra.length
                  rw [List.length_reverse] at this
                  rw [sizeLine_eq]
                  omega
                · refine ⟨G6, wipeS σ6 vs, yd :: acc, accV ++ [yv], (r6.reF (o' := .lst (accV ++ [yv]))).wiped hl4 hv4 hBv, ((s2.trans s3).trans s5).trans s6, ?_, by rw [List.length_cons]; omega, wno σ6, e3⟩
                  rw [List.reverse_cons]
                  exact (ra.mono ((s3.trans s5).trans s6)).append (.cons p6 .nil)
              · cases e3
            · rename_i σ5 e5
              refine ⟨_, B, G3, σ4, false, σ5, r4, e5, fun G5 H5 r5 s5 => iteF ?_⟩
              exact ⟨G5, wipeS σ5 vs, acc, accV, r5.wiped hl4 hv4 hBv, (s2.trans s3).trans s5, ra.mono (s3.trans s5), by omega, wno σ5, e3⟩
            · cases e3
          · cases e3
        · have hi2 : i = ds.length := by omega
          subst hi2
          rw [List.drop_length] at e3
          cases e3
          refine .inl ⟨wk.2 _ B G2 _ _ H2 s2 r2, ?_⟩
          have lE : σE.length = σ1.length := by rw [r2.len, wipe_length, r1.len]
          obtain ⟨r5, h5, h6, h7⟩ := r2.ofF hF
          have r6 : Rel K F B G2 (backS σ1 σE vs) σv H2 := r1.backed cw r5 s2 (fun j hj' => wipe_get hj') lE hno
          refine k (.ref D) G2 H2 r6 (s1.trans s2) ⟨D, rfl, h6, hF, ⟨accV, h5, ra⟩, fun j d l q z => ?_⟩
          have hjv : j ∉ vs := fun hj' => by
            rcases backS_get q with ⟨_, q⟩ | q
            · rcases canWipe_ok cw hj' with w | ⟨_, w⟩
              · rw [w] at q; cases q
              · rw [w] at q; cases q
            · exact nomatch hno j hj' _ q
          rw [backS_out hjv] at q
          exact h7 j d l q (by rw [wipe_get hjv]; exact z)
      · cases em
  · cases em

section
variable {X : Cx} {elt tg iter : Expr} {ifs : List Expr} {scope : Scope} {own : List (Str × Nat)} {pos : Pos} {it : IE} {g : TgE} {t : CE} {e : VE} {js : List Nat}
theorem rt_yes : PTs X [] (tT X.K cYes) := ⟨fun pins s σv H Q I q => pts_nil.run pins s σv H Q I (by
  obtain ⟨F, B, G, σ, b, σ', r, em, k⟩ := q
  cases em
  exact k G H r (Same.refl G))⟩
theorem rt_one {c : Expr} (h : PT X c (tT X.K t)) : PTs X [c] (tT X.K t) := pts_one h
theorem rm_lc (hc : X.calm = true) (hN : X.N.Nodup) (hi : PI X tg iter (tI X.K it)) (ok : BlkOk X.N X.env.scope scope own)
    (hg : ∀ (s : Shared) (H : Hp) (C : Addr) (cl : List (Str × Addr)) (fp : List Addr), PG (X.blk s H scope (compEnvC scope cl C X.env) fp) tg (tG X.K js g))
    (ht : ∀ (s : Shared) (H : Hp) (C : Addr) (cl : List (Str × Addr)) (fp : List Addr), PTs (X.blk s H scope (compEnvC scope cl C X.env) fp) ifs (tT X.K t))
    (he : ∀ (s : Shared) (H : Hp) (C : Addr) (cl : List (Str × Addr)) (fp : List Addr), PE (X.blk s H scope (compEnvC scope cl C X.env) fp) elt (tV X.K e))
    (hj : ∀ i ∈ js, i ∈ own.map (·.2)) (hs : ∀ x, foldedSetIterable iter X.env x = pure x := by intro _; rfl) : PE X (.ListComp elt [⟨tg, iter, ifs, 0⟩] scope pos) (tM X.K (mLc it g t e (own.map (·.2)))) :=
  (pe_lc hc hN hi ok hg ht he hs).weak (lc_core2 hj)
theorem rs_setLc {i : Nat} {y : Str} {py spos : Pos} (hc : X.calm = true) (hN : X.N.Nodup) (hy : X.N[i]? = some y) (hyl : X.env.scope.names.lookup y = some .local)
    (hsw : swapsWith (.ListComp elt [⟨tg, iter, ifs, 0⟩] scope pos) (some (.Name y py)) spos.line X.env = pure true) (hi : PI X tg iter (tI X.K it)) (ok : BlkOk X.N X.env.scope scope own)
    (hg : ∀ (s : Shared) (H : Hp) (C : Addr) (cl : List (Str × Addr)) (fp : List Addr), PG (X.blk s H scope (compEnvC scope cl C X.env) fp) tg (tG X.K js g))
    (ht : ∀ (s : Shared) (H : Hp) (C : Addr) (cl : List (Str × Addr)) (fp : List Addr), PTs (X.blk s H scope (compEnvC scope cl C X.env) fp) ifs (tT X.K t))
    (he : ∀ (s : Shared) (H : Hp) (C : Addr) (cl : List (Str × Addr)) (fp : List Addr), PE (X.blk s H scope (compEnvC scope cl C X.env) fp) elt (tV X.K e))
    (hj : ∀ i ∈ js, i ∈ own.map (·.2)) (hs : ∀ x, foldedSetIterable iter X.env x = pure x := by intro _; rfl) : PS X (.Assign [.Name y py] (.ListComp elt [⟨tg, iter, ifs, 0⟩] scope pos) spos) (tS X.K (sSet i (mLc it g t e (own.map (·.2))))) :=
  (ps_setLc hc hN hy hyl hsw hi ok hg ht he hs).weak fun D σv H q => by
    have q2 := set_core D σv H q
    exact lc_core2 hj σv H _ q2
end
end Mi

set_option Elab.async false
set_option linter.all false
set_option maxRecDepth 100000
set_option maxHeartbeats 1000000
/-! Mi, part 6: operations by values. -/
namespace Mi
open PySem PySem.Spec PyProof.Rows L2

theorem OpR.or {X : Cx} {f : Value → Value → Sem Value} {r r' : R2} (h : OpR X f r) (h' : OpR X f r') : OpR X f (fun x y H Q => r x y H Q ∨ r' x y H Q) := fun pins s σ H x y v u Q I rx ry q => by
  rcases q with q | q
  · exact h pins s σ H x y v u Q I rx ry q
  · exact h' pins s σ H x y v u Q I rx ry q
theorem BinOk.l {K : PySem.W.Frag} {f : D → D → Option R} {r r' : R2} (h : BinOk K f r) : BinOk K f (fun x y H Q => r x y H Q ∨ r' x y H Q) := fun F B G H σ σv d1 d2 res x y Q rel h1 h2 e k => .inl (h F B G H σ σv d1 d2 res x y Q rel h1 h2 e k)
/-- two functions tried one after the other -/
def fOr (f g : D → D → Option R) : D → D → Option R := fun a b => match f a b with
  | some r => some r
  | none => g a b
theorem BinOk.or {K : PySem.W.Frag} {f g : D → D → Option R} {r r' : R2} (h : BinOk K f r) (h' : BinOk K g r') : BinOk K (fOr f g) (fun x y H Q => r x y H Q ∨ r' x y H Q) := fun F B G H σ σv d1 d2 res x y Q rel h1 h2 e k => by
  unfold fOr at e
  split at e
  · rename_i q
    cases e
    exact .inl (h F B G H σ σv d1 d2 _ x y Q rel h1 h2 q k)
  · exact .inr (h' F B G H σ σv d1 d2 res x y Q rel h1 h2 e k)

/-- what two values give that is a value without the heap -/
def scalD : D → Option V
  | .non => some .non
  | .bl b => some (.bl b)
  | .int i => some (.int i)
  | .str x => some (.str ⟨x.toArray⟩)
  | _ => none
theorem scal_rep {K : PySem.W.Frag} {G : Hp} : ∀ {d : D} {v : V}, scalD d = some v → Rep K G d v
  | .non, v, h => by cases h; rfl
  | .bl _, v, h => by cases h; rfl
  | .int _, v, h => by cases h; rfl
  | .str _, v, h => by cases h; rfl
  | .lst _, v, h => by cases h
  | .tup _, v, h => by cases h
  | .dct _ _, v, h => by cases h
  | .scr _, v, h => by cases h
theorem done {K : PySem.W.Frag} {F G H : Hp} {B : List (Nat × V)} {σ : List Sl} {σv : L2.St} {d : D} {v : V} {Q : VK} (rel : Rel K F B G σ σv H) (h : scalD d = some v)
    (k : ∀ v G' H', Rel K F B G' σ σv H' → Same G G' → ResOk K F G' H' σ σv (.v d) v → Q v H') : Q v H := k v G H rel (Same.refl G) (scal_rep h)

/-! ### ints -/
def f2I (g : Int → Int → D) : D → D → Option R
  | .int i, .int j => some (.v (g i j))
  | _, _ => none
def f2Ic (c : Int → Int → Bool) (g : Int → Int → D) : D → D → Option R
  | .int i, .int j => bif c i j then some (.v (g i j)) else none
  | _, _ => none
theorem ok2I {K : PySem.W.Frag} {g : Int → Int → D} {gv : Int → Int → V} (h : ∀ i j, scalD (g i j) = some (gv i j)) : BinOk K (f2I g) (rI0 gv) := by
  intro F B G H σ σv d1 d2 res x y Q rel h1 h2 e k
  unfold f2I at e
  split at e
  · cases e
    have h1 : x = .int _ := h1
    have h2 : y = .int _ := h2
    subst h1 h2
    exact ⟨_, _, rfl, rfl, done rel (h _ _) k⟩
  · cases e
theorem ok2Ic {K : PySem.W.Frag} {c : Int → Int → Bool} {C : Int → Int → Prop} {g : Int → Int → D} {gv : Int → Int → V} (hc : ∀ i j, c i j = true → C i j) (h : ∀ i j, scalD (g i j) = some (gv i j)) : BinOk K (f2Ic c g) (rI C gv) := by
  intro F B G H σ σv d1 d2 res x y Q rel h1 h2 e k
  unfold f2Ic at e
  split at e
  · rename_i i j
    cases hb : c i j with
    | false => rw [hb] at e; cases e
    | true =>
      rw [hb] at e; cases e
      have h1 : x = .int _ := h1
      have h2 : y = .int _ := h2
      subst h1 h2
      exact ⟨_, _, rfl, rfl, hc _ _ hb, done rel (h _ _) k⟩
  · cases e
/-- at most 2 ^ 25 bits -/
def bitsOk (i : Int) : Bool := Nat.ble i.natAbs.log2 33554431
theorem bitsOk_ok {i : Int} (h : bitsOk i = true) : Builtin.Int.intBits i ≤ 33554432 := by
  have h : i.natAbs.log2 ≤ 33554431 := Nat.le_of_ble_eq_true h
  unfold Builtin.Int.intBits
  split <;> omega
theorem mul_bits {i j : Int} (h1 : Builtin.Int.intBits i ≤ 33554432) (h2 : Builtin.Int.intBits j ≤ 33554432) : IntMulOk i j := by
  have e : bitsLine = 134217728 := by decide
  unfold IntMulOk
  intro z
  rw [Bool.and_eq_true] at z
  have z2 := z.2
  unfold Builtin.Int.intTooBig at z2
  have z3 := of_decide_eq_true z2
  rw [e] at z3
  omega
def cMul (i j : Int) : Bool := bitsOk i && bitsOk j
def cDiv (_ j : Int) : Bool := !(j == 0) && Nat.blt j.natAbs.log2 9000
def cMod (_ j : Int) : Bool := !(j == 0)
def cPow (i j : Int) : Bool := decide (0 ≤ j) && decide (j ≤ 1000000) && Nat.blt i.natAbs 18446744073709551616
def fMulI := f2Ic cMul fun i j => .int (i * j)
def fDiv := f2Ic cDiv fun i j => .int (i.fdiv j)
def fMod := f2Ic cMod fun i j => .int (i.fmod j)
def fPow := f2Ic cPow fun i j => .int (i ^ j.toNat)
def fShl := f2Ic cPow fun i j => .int (i * 2 ^ j.toNat)
def fSub := f2I fun i j => .int (i - j)
def fAddI := f2I fun i j => .int (i + j)
section
variable {X : Cx}
theorem op_mulB : OpR X (binaryOp .Mult) (rI (fun i j => Builtin.Int.intBits i ≤ 33554432 ∧ Builtin.Int.intBits j ≤ 33554432) fun i j => .int (i * j)) := opI fun _ _ _ _ _ _ _ hc q => mul_int q (mul_bits hc.1 hc.2)
theorem op_divB : OpR X (binaryOp .FloorDiv) (rI (fun _ j => j ≠ 0 ∧ j.natAbs.log2 < 9000) fun i j => .int (i.fdiv j)) := opI fun _ _ _ _ _ _ _ hc q => floordiv_int hc.1 q (.inl (PyProof.noPylong_of_log2 hc.2))
theorem ok_mulI : BinOk X.K fMulI (rI (fun i j => Builtin.Int.intBits i ≤ 33554432 ∧ Builtin.Int.intBits j ≤ 33554432) fun i j => .int (i * j)) := ok2Ic (fun i j h => by
  unfold cMul at h
  rw [Bool.and_eq_true] at h
  exact ⟨bitsOk_ok h.1, bitsOk_ok h.2⟩) fun _ _ => rfl
theorem cDiv_ok {i j : Int} (h : cDiv i j = true) : j ≠ 0 ∧ j.natAbs.log2 < 9000 := by
  unfold cDiv at h
  rw [Bool.and_eq_true] at h
  refine ⟨fun e => ?_, Nat.lt_of_succ_le (Nat.le_of_ble_eq_true h.2)⟩
  subst e
  exact absurd h.1 (by decide)
theorem ok_div : BinOk X.K fDiv (rI (fun _ j => j ≠ 0 ∧ j.natAbs.log2 < 9000) fun i j => .int (i.fdiv j)) := ok2Ic (fun i j h => cDiv_ok h) fun _ _ => rfl
theorem ok_mod : BinOk X.K fMod (rI (fun _ j => j ≠ 0) fun i j => .int (i.fmod j)) := ok2Ic (fun i j h e => by
  subst e
  have h : (!((0 : Int) == 0)) = true := h
  exact absurd h (by decide)) fun _ _ => rfl
theorem cPow_ok {i j : Int} (h : cPow i j = true) : CPow i j := by
  unfold cPow at h
  rw [Bool.and_eq_true, Bool.and_eq_true, decide_eq_true_eq, decide_eq_true_eq] at h
  have h2 : i.natAbs < 18446744073709551616 := Nat.lt_of_succ_le (Nat.le_of_ble_eq_true h.2)
  have e : (2 : Nat) ^ 64 = 18446744073709551616 := by decide
  exact ⟨h.1.1, h.1.2, by rw [e]; exact h2⟩
theorem ok_pow : BinOk X.K fPow (rI CPow fun i j => .int (i ^ j.toNat)) := ok2Ic (fun i j h => cPow_ok h) fun _ _ => rfl
theorem ok_shl : BinOk X.K fShl (rI CPow fun i j => .int (i * 2 ^ j.toNat)) := ok2Ic (fun i j h => cPow_ok h) fun _ _ => rfl
theorem ok_sub : BinOk X.K fSub (rI0 fun i j => .int (i - j)) := ok2I fun _ _ => rfl
theorem ok_addI : BinOk X.K fAddI (rI0 fun i j => .int (i + j)) := ok2I fun _ _ => rfl
end

/-! ### + of texts, lists, tuples -/
def fAddS : D → D → Option R
  | .str x, .str y => bif szOk (x.length + y.length) then some (.v (.str (x ++ y))) else none
  | _, _ => none
def fCatL : D → D → Option R
  | .lst x, .lst y => bif szOk (x.length + y.length) then some (.n (.lst (x ++ y))) else none
  | _, _ => none
def fCatT : D → D → Option R
  | .tup x, .tup y => bif szOk (x.length + y.length) && !x.isEmpty then some (.v (.tup (x ++ y))) else none
  | _, _ => none
def rCatR : R2 := fun x y H Q => ∃ l b xs zs, x = .ref l ∧ y = .ref b ∧ Rd H l (.lst xs) ∧ Rd H b (.lst zs) ∧ xs.length + zs.length ≤ sizeLine ∧ ∀ p, H p = none → Q (.ref p) (upd H p (.lst (xs ++ zs)))
section
variable {X : Cx} {pins : List (Addr × Obj)} {σ : L2.St} {H : Hp} {s : Shared}
theorem list_at (I : Inv X pins σ H s) {l : Addr} {xs : List V} (h : Rd H l (.lst xs)) : ∃ (its : List Value) (n : Nat), Vals xs its ∧ s.heap.get? l = some { cls := .type "list", data := .seq its.toArray n } ∧ xs.length ≤ sizeLine := by
  obtain ⟨z, its, n, q, e⟩ := h.ok I.hok
  exact ⟨its, n, q, e, z⟩
theorem op_catR : OpR X (binaryOp .Add) rCatR := fun pins s σ H x y v u Q I rx ry h => by
  obtain ⟨l, b, xs, zs, ex, ey, h1, h2, hz, q⟩ := h
  subst ex ey
  cases rx
  cases ry
  obtain ⟨i1, n1, v1, e1, z1⟩ := list_at I h1
  obtain ⟨i2, n2, v2, e2, z2⟩ := list_at I h2
  have w1 := v1.length
  have w2 := v2.length
  have app : i1.toArray ++ i2.toArray = (i1 ++ i2).toArray := by simp
  have sz : i1.toArray.size + i2.toArray.size ≤ sizeLine := by
    rw [List.size_toArray, List.size_toArray]
    omega
  refine PySem.P.add_list e1 e2 ?_ sz
  rw [app]
  exact ⟨.ref s.heap.objs.size, _, I.lnew (t' := s.toks) (v1.append v2) (by rw [List.length_append]; exact hz), rfl, q _ I.fresh⟩
end
section
variable {K : PySem.W.Frag}
theorem str_app (x y : List Nat) : (⟨x.toArray⟩ : Str) ++ ⟨y.toArray⟩ = ⟨(x ++ y).toArray⟩ := by
  show (⟨x.toArray ++ y.toArray⟩ : Str) = _
  simp
theorem ok_addS : BinOk K fAddS (fun x y H Q => ∃ i j, x = .str i ∧ y = .str j ∧ i.length + j.length ≤ sizeLine ∧ Q (.str (i ++ j)) H) := by
  intro F B G H σ σv d1 d2 res x y Q rel h1 h2 e k
  unfold fAddS at e
  split at e
  · rename_i a b
    cases hz : szOk (a.length + b.length) with
    | false => rw [hz] at e; cases e
    | true =>
      rw [hz] at e; cases e
      have h1 : x = .str ⟨a.toArray⟩ := h1
      have h2 : y = .str ⟨b.toArray⟩ := h2
      subst h1 h2
      refine ⟨_, _, rfl, rfl, by simpa [Str.length] using szOk_le hz, ?_⟩
      rw [str_app]
      exact done rel rfl k
  · cases e
theorem ok_catL : BinOk K fCatL rCatR := by
  intro F B G H σ σv d1 d2 res x y Q rel h1 h2 e k
  unfold fCatL at e
  split at e
  · rename_i a b
    cases hz : szOk (a.length + b.length) with
    | false => rw [hz] at e; cases e
    | true =>
      rw [hz] at e; cases e
      obtain ⟨p1, v1, rfl, q1, r1⟩ := h1
      obtain ⟨p2, v2, rfl, q2, r2⟩ := h2
      exact ⟨p1, p2, v1, v2, rfl, rfl, q1, q2, by rw [← r1.length, ← r2.length]; exact szOk_le hz, fun p hp => k _ G _ (rel.made hp) (Same.refl G) (rel.res_n hp (r1.append r2))⟩
  · cases e
theorem ok_catT : BinOk K fCatT (rCatT K) := by
  intro F B G H σ σv d1 d2 res x y Q rel h1 h2 e k
  unfold fCatT at e
  split at e
  · rename_i a b
    cases hz : (szOk (a.length + b.length) && !a.isEmpty) with
    | false => rw [hz] at e; cases e
    | true =>
      rw [hz] at e; cases e
      rw [Bool.and_eq_true] at hz
      obtain ⟨p1, v1, rfl, q1, r1⟩ := h1
      obtain ⟨p2, v2, rfl, q2, r2⟩ := h2
      have na : v1 ≠ [] := fun z => by
        subst z
        have := r1.length
        cases a with
        | nil => exact absurd hz.2 (by decide)
        | cons _ _ => simp at this
      refine ⟨p1, p2, v1, v2, rfl, rfl, same_t rel.gh q1, same_t rel.gh q2, na, by rw [← r1.length, ← r2.length]; exact szOk_le hz.1, fun z => ?_, fun z p hp => ?_⟩
      · subst z
        have hb : b = [] := by
          have := r2.length
          cases b with
          | nil => rfl
          | cons _ _ => simp at this
        subst hb
        rw [List.append_nil] at k
        exact k _ G H rel (Same.refl G) ⟨p1, v1, rfl, q1, r1⟩
      · exact k _ _ _ (rel.laid hp) (same_new (rel.fresh hp).1) (rel.res_t hp (r1.append r2))
  · cases e
end
end Mi

set_option Elab.async false
set_option linter.all false
set_option maxRecDepth 100000
set_option maxHeartbeats 1000000
/-! Mi, part 7: comparisons, places, stores. -/
namespace Mi
open PySem PySem.Spec PyProof.Rows L2

/-! ### data of the library -/
mutual
def toP : D → PyData
  | .non => .none
  | .bl b => .bool b
  | .int i => .int i
  | .str x => .str ⟨x.toArray⟩
  | .lst xs => .list (toPs xs)
  | .tup xs => .tuple (toPs xs)
  | .dct _ _ => .dict []
  | .scr _ => .dict []
def toPs : List D → List PyData
  | [] => []
  | d :: ds => toP d :: toPs ds
end
mutual
/-- no dict, not deep, good letters -/
def shD : D → Nat → Bool
  | .non, _ => true
  | .bl _, _ => true
  | .int _, _ => true
  | .str x, _ => x.all (fun c => Nat.blt c 1114112)
  | .lst xs, n => match n with
    | 0 => false
    | n + 1 => shDs xs n
  | .tup xs, n => match n with
    | 0 => false
    | n + 1 => shDs xs n
  | .dct _ _, _ => false
  | .scr _, _ => false
def shDs : List D → Nat → Bool
  | [], _ => true
  | d :: ds, n => shD d n && shDs ds n
end
def lnEq : List Nat → List Nat → Bool
  | [], [] => true
  | a :: as, b :: bs => Nat.beq a b && lnEq as bs
  | _, _ => false
mutual
def eqD : D → D → Bool
  | .non, .non => true
  | .bl a, .bl b => a == b
  | .bl a, .int j => (if a then 1 else 0) == j
  | .int i, .bl b => i == (if b then 1 else 0)
  | .int i, .int j => i == j
  | .str x, .str y => lnEq x y
  | .lst xs, .lst ys => eqDs xs ys
  | .tup xs, .tup ys => eqDs xs ys
  | _, _ => false
def eqDs : List D → List D → Bool
  | [], [] => true
  | x :: xs, y :: ys => eqD x y && eqDs xs ys
  | _, _ => false
end
theorem lnEq_iff : ∀ {x y : List Nat}, lnEq x y = true ↔ x = y
  | [], [] => by simp [lnEq]
  | [], b :: bs => by simp [lnEq]
  | a :: as, [] => by simp [lnEq]
  | a :: as, b :: bs => by
    unfold lnEq
    rw [Bool.and_eq_true, lnEq_iff, Nat.beq_eq, List.cons.injEq]
theorem str_beq (x y : List Nat) : ((⟨x.toArray⟩ : Str) == ⟨y.toArray⟩) = lnEq x y := by
  rw [Bool.eq_iff_iff, lnEq_iff, beq_iff_eq]
  constructor
  · intro h
    have h2 : x.toArray = y.toArray := Str.mk.inj h
    simpa using h2
  · intro h
    rw [h]
mutual
theorem eqD_ok : ∀ d e : D, eqD d e = PyData.eqv (toP d) (toP e)
  | .non, e => by cases e <;> simp [eqD, toP, PyData.eqv]
  | .bl a, e => by cases e <;> simp [eqD, toP, PyData.eqv]
  | .int i, e => by cases e <;> simp [eqD, toP, PyData.eqv]
  | .str x, e => by
    cases e with
    | str y => simp only [eqD, toP, PyData.eqv, str_beq]
    | _ => simp [eqD, toP, PyData.eqv]
  | .lst xs, e => by
    cases e with
    | lst ys => simp only [eqD, toP, PyData.eqv, eqDs_ok]
    | _ => simp [eqD, toP, PyData.eqv]
  | .tup xs, e => by
    cases e with
    | tup ys => simp only [eqD, toP, PyData.eqv, eqDs_ok]
    | _ => simp [eqD, toP, PyData.eqv]
  | .dct _ _, e => by cases e <;> simp [eqD, toP, PyData.eqv]
  | .scr _, e => by cases e <;> simp [eqD, toP, PyData.eqv]
theorem eqDs_ok : ∀ ds es : List D, eqDs ds es = PyData.eqvAll (toPs ds) (toPs es)
  | [], [] => by simp [eqDs, toPs, PyData.eqvAll]
  | [], _ :: _ => by simp [eqDs, toPs, PyData.eqvAll]
  | _ :: _, [] => by simp [eqDs, toPs, PyData.eqvAll]
  | x :: xs, y :: ys => by simp only [eqDs, toPs, PyData.eqvAll, eqD_ok x y, eqDs_ok xs ys]
end
mutual
theorem shD_ok : ∀ (d : D) (n : Nat), shD d n = true → PyData.canLay0 (toP d) = true ∧ PyData.depth (toP d) ≤ n
  | .non, n, h => ⟨rfl, Nat.zero_le _⟩
  | .bl _, n, h => ⟨rfl, Nat.zero_le _⟩
  | .int _, n, h => ⟨rfl, Nat.zero_le _⟩
  | .str x, n, h => by
    refine ⟨?_, Nat.zero_le _⟩
    have h : x.all (fun c => Nat.blt c 1114112) = true := by simpa [shD] using h
    show PyData.strOk ⟨x.toArray⟩ = true
    unfold PyData.strOk
    rw [List.all_eq_true] at h
    simp only [List.all_toArray, List.all_eq_true, decide_eq_true_eq]
    intro c hc
    exact Nat.lt_of_succ_le (Nat.le_of_ble_eq_true (h c hc))
  | .lst xs, 0, h => by simp [shD] at h
  | .lst xs, n + 1, h => by
    have h : shDs xs n = true := by simpa [shD] using h
    obtain ⟨h1, h2⟩ := shDs_ok xs n h
    exact ⟨by simpa [toP, PyData.canLay0] using h1, by simpa [toP, PyData.depth] using h2⟩
  | .tup xs, 0, h => by simp [shD] at h
  | .tup xs, n + 1, h => by
    have h : shDs xs n = true := by simpa [shD] using h
    obtain ⟨h1, h2⟩ := shDs_ok xs n h
    exact ⟨by simpa [toP, PyData.canLay0] using h1, by simpa [toP, PyData.depth] using h2⟩
  | .dct _ _, n, h => by simp [shD] at h
  | .scr _, n, h => by simp [shD] at h
theorem shDs_ok : ∀ (ds : List D) (n : Nat), shDs ds n = true → PyData.canLayAll0 (toPs ds) = true ∧ PyData.depthAll (toPs ds) ≤ n
  | [], n, h => ⟨rfl, Nat.zero_le _⟩
  | d :: ds, n, h => by
    have h : shD d n = true ∧ shDs ds n = true := by simpa [shDs] using h
    obtain ⟨h1, h2⟩ := shD_ok d n h.1
    obtain ⟨h3, h4⟩ := shDs_ok ds n h.2
    refine ⟨by simp [toPs, PyData.canLayAll0, h1, h3], ?_⟩
    show max (PyData.depth (toP d)) (PyData.depthAll (toPs ds)) ≤ n
    omega
end
theorem shaped_of {d : D} (h : shD d 64 = true) : SeqAt.shaped (toP d) = true := by
  obtain ⟨h1, h2⟩ := shD_ok d 64 h
  unfold SeqAt.shaped
  rw [h1, decide_eq_true h2] <;> rfl
mutual
theorem dp_of {K : PySem.W.Frag} {H : Hp} : ∀ {d : D} {v : V} {n : Nat}, Rep K H d v → shD d n = true → Dp K H v (toP d)
  | .non, v, n, h, _ => by have h : v = .non := h; subst h; exact .non
  | .bl b, v, n, h, _ => by have h : v = .bl b := h; subst h; exact .bl b
  | .int i, v, n, h, _ => by have h : v = .int i := h; subst h; exact .int i
  | .str x, v, n, h, _ => by have h : v = .str ⟨x.toArray⟩ := h; subst h; exact .str _
  | .lst xs, v, 0, h, s => by simp [shD] at s
  | .lst xs, v, n + 1, h, s => by
    obtain ⟨a, vs, rfl, h1, h2⟩ := h
    exact .lst (.inl h1) (dps_of h2 (by simpa [shD] using s))
  | .tup xs, v, 0, h, s => by simp [shD] at s
  | .tup xs, v, n + 1, h, s => by
    obtain ⟨a, vs, rfl, h1, h2⟩ := h
    exact .tup h1 (dps_of h2 (by simpa [shD] using s))
  | .dct _ _, v, n, h, s => by simp [shD] at s
  | .scr _, v, n, h, s => by simp [shD] at s
theorem dps_of {K : PySem.W.Frag} {H : Hp} : ∀ {ds : List D} {vs : List V} {n : Nat}, RepL K H ds vs → shDs ds n = true → DpAll K H vs (toPs ds)
  | [], vs, n, h, _ => by have h : vs = [] := h; subst h; exact .nil
  | d :: ds, vs, n, h, s => by
    obtain ⟨v, r, rfl, h1, h2⟩ := h
    have s : shD d n = true ∧ shDs ds n = true := by simpa [shDs] using s
    exact .cons (dp_of h1 s.1) (dps_of h2 s.2)
end

/-! ### ==, != -/
def fEqS (neg : Bool) : D → D → Option R
  | .int i, .int j => some (.v (.bl ((i == j) ^^ neg)))
  | .str x, .str y => some (.v (.bl (lnEq x y ^^ neg)))
  | _, _ => none
def fEqD (neg : Bool) (a b : D) : Option R := bif shD a 64 && shD b 64 then some (.v (.bl (eqD a b ^^ neg))) else none
def fEq := fOr (fEqS false) (fEqD false)
def fNe := fOr (fEqS true) (fEqD true)
theorem eq_str' (x y : List Nat) : decide (V.str ⟨x.toArray⟩ = V.str ⟨y.toArray⟩) = lnEq x y := by
  rw [dec_str, str_beq]
section
variable {K : PySem.W.Frag}
theorem ok_eqS : BinOk K (fEqS false) rEq := by
  intro F B G H σ σv d1 d2 res x y Q rel h1 h2 e k
  unfold fEqS at e
  split at e
  · rename_i i j
    cases e
    have h1 : x = .int i := h1
    have h2 : y = .int j := h2
    subst h1 h2
    refine ⟨rfl, ?_⟩
    rw [dec_int]
    exact done rel (by simp [scalD]) k
  · rename_i i j
    cases e
    have h1 : x = .str ⟨i.toArray⟩ := h1
    have h2 : y = .str ⟨j.toArray⟩ := h2
    subst h1 h2
    refine ⟨rfl, ?_⟩
    rw [eq_str']
    exact done rel (by simp [scalD]) k
  · cases e
theorem ok_neS : BinOk K (fEqS true) rNe := by
  intro F B G H σ σv d1 d2 res x y Q rel h1 h2 e k
  unfold fEqS at e
  split at e
  · rename_i i j
    cases e
    have h1 : x = .int i := h1
    have h2 : y = .int j := h2
    subst h1 h2
    refine ⟨rfl, ?_⟩
    rw [dec_int]
    exact done rel (by simp [scalD]) k
  · rename_i i j
    cases e
    have h1 : x = .str ⟨i.toArray⟩ := h1
    have h2 : y = .str ⟨j.toArray⟩ := h2
    subst h1 h2
    refine ⟨rfl, ?_⟩
    rw [eq_str']
    exact done rel (by simp [scalD]) k
  · cases e
theorem ok_eqD : BinOk K (fEqD false) (rEqD K) := by
  intro F B G H σ σv d1 d2 res x y Q rel h1 h2 e k
  unfold fEqD at e
  cases hs : (shD d1 64 && shD d2 64) with
  | false => rw [hs] at e; cases e
  | true =>
    rw [hs] at e; cases e
    rw [Bool.and_eq_true] at hs
    refine ⟨toP d1, toP d2, dp_of (h1.deep rel.gh) hs.1, dp_of (h2.deep rel.gh) hs.2, shaped_of hs.1, shaped_of hs.2, ?_⟩
    rw [← eqD_ok]
    exact done rel (by simp [scalD]) k
theorem ok_neD : BinOk K (fEqD true) (rNeD K) := by
  intro F B G H σ σv d1 d2 res x y Q rel h1 h2 e k
  unfold fEqD at e
  cases hs : (shD d1 64 && shD d2 64) with
  | false => rw [hs] at e; cases e
  | true =>
    rw [hs] at e; cases e
    rw [Bool.and_eq_true] at hs
    refine ⟨toP d1, toP d2, dp_of (h1.deep rel.gh) hs.1, dp_of (h2.deep rel.gh) hs.2, shaped_of hs.1, shaped_of hs.2, ?_⟩
    rw [← eqD_ok]
    exact done rel (by simp [scalD]) k
end
section
variable {X : Cx}
theorem o_eq (hu : X.A.units + 64 < cLine) : OpR X (compareOp .Eq) (fun x y H Q => rEq x y H Q ∨ rEqD X.K x y H Q) := op_eq.or (op_eqD hu)
theorem o_ne (hu : X.A.units + 64 < cLine) : OpR X (compareOp .NotEq) (fun x y H Q => rNe x y H Q ∨ rNeD X.K x y H Q) := op_ne.or (op_neD hu)
theorem k_eq : BinOk X.K fEq (fun x y H Q => rEq x y H Q ∨ rEqD X.K x y H Q) := ok_eqS.or ok_eqD
theorem k_ne : BinOk X.K fNe (fun x y H Q => rNe x y H Q ∨ rNeD X.K x y H Q) := ok_neS.or ok_neD

/-! ### <, <=, >, >= of ints, < of texts -/
def cmpI (g : Int → Int → Bool) := f2I fun i j => .bl (g i j)
def fLt := cmpI fun i j => decide (i < j)
def fLe := cmpI fun i j => decide (i ≤ j)
def fGt := cmpI fun i j => decide (j < i)
def fGe := cmpI fun i j => decide (j ≤ i)
theorem k_lt : BinOk X.K fLt (rI0 fun i j => .bl (decide (i < j))) := ok2I fun _ _ => rfl
theorem k_le : BinOk X.K fLe (rI0 fun i j => .bl (decide (i ≤ j))) := ok2I fun _ _ => rfl
theorem k_gt : BinOk X.K fGt (rI0 fun i j => .bl (decide (j < i))) := ok2I fun _ _ => rfl
theorem k_ge : BinOk X.K fGe (rI0 fun i j => .bl (decide (j ≤ i))) := ok2I fun _ _ => rfl

/-! ### is, is not: None, True, False on the right -/
def rIs (neg : Bool) : R2 := fun x y H Q => (y = .non ∨ ∃ b, y = .bl b) ∧ (∀ n, x ≠ .ty n) ∧ Q (.bl (decide (x = y) ^^ neg)) H
theorem is_plain {x y : V} {v u : Value} (rx : RelV x v) (ry : RelV y u) (hy : y = .non ∨ ∃ b, y = .bl b) (hx : ∀ n, x ≠ .ty n) : plainIs v u = true ∧ (v == u) = decide (x = y) := by
  have key : plainIs v u = true ∧ ((v = u) ↔ x = y) := by
    rcases hy with rfl | ⟨b, rfl⟩
    · cases ry
      cases x with
      | non => cases rx; exact ⟨rfl, by simp⟩
      | bl c => cases rx; exact ⟨rfl, by simp⟩
      | int i => obtain ⟨t, rfl⟩ := rx; exact ⟨rfl, by simp⟩
      | str i => obtain ⟨t, rfl⟩ := rx; exact ⟨rfl, by simp⟩
      | byt i => obtain ⟨t, rfl⟩ := rx; exact ⟨rfl, by simp⟩
      | flt i => obtain ⟨t, rfl⟩ := rx; exact ⟨rfl, by simp⟩
      | ref a => cases rx; exact ⟨rfl, by simp⟩
      | ty n => exact absurd rfl (hx n)
    · cases ry
      cases x with
      | non => cases rx; exact ⟨rfl, by simp⟩
      | bl c => cases rx; exact ⟨rfl, by simp⟩
      | int i => obtain ⟨t, rfl⟩ := rx; exact ⟨rfl, by simp⟩
      | str i => obtain ⟨t, rfl⟩ := rx; exact ⟨rfl, by simp⟩
      | byt i => obtain ⟨t, rfl⟩ := rx; exact ⟨rfl, by simp⟩
      | flt i => obtain ⟨t, rfl⟩ := rx; exact ⟨rfl, by simp⟩
      | ref a => cases rx; exact ⟨rfl, by simp⟩
      | ty n => exact absurd rfl (hx n)
  refine ⟨key.1, ?_⟩
  rw [Bool.eq_iff_iff, beq_iff_eq, decide_eq_true_eq]
  exact key.2
theorem op_is1 : OpR X (compareOp .Is) (rIs false) := fun pins s σ H x y v u Q I rx ry h => by
  obtain ⟨hy, hx, q⟩ := h
  obtain ⟨h1, h2⟩ := is_plain rx ry hy hx
  refine wpAny_is_plain h1 ?_
  rw [h2]
  exact ⟨.bl (decide (x = y)), H, I, rfl, by simpa using q⟩
theorem op_is2 : OpR X (compareOp .IsNot) (rIs true) := fun pins s σ H x y v u Q I rx ry h => by
  obtain ⟨hy, hx, q⟩ := h
  obtain ⟨h1, h2⟩ := is_plain rx ry hy hx
  refine wpAny_isNot_plain h1 ?_
  rw [h2]
  exact ⟨.bl (!decide (x = y)), H, I, rfl, by simpa using q⟩
def isD : D → D → Bool
  | .non, .non => true
  | .bl a, .bl b => a == b
  | _, _ => false
def fIs (neg : Bool) (a b : D) : Option R := match b with
  | .non => some (.v (.bl (isD a b ^^ neg)))
  | .bl _ => some (.v (.bl (isD a b ^^ neg)))
  | _ => none
theorem rep_ty {K : PySem.W.Frag} {G H : Hp} {d : D} {v : V} (h : RepE K G H d v) : ∀ n, v ≠ .ty n := fun n e => by
  subst e
  cases d with
  | non => cases h
  | bl b => cases h
  | int i => cases h
  | str x => cases h
  | lst xs => obtain ⟨a, vs, e, _⟩ := h; cases e
  | tup xs => obtain ⟨a, vs, e, _⟩ := h; cases e
  | dct ks vs => obtain ⟨a, kvs, e, _⟩ := h; cases e
  | scr ns => obtain ⟨a, e, _⟩ := h; cases e
theorem isD_ok {K : PySem.W.Frag} {G H : Hp} {d e : D} {x y : V} (h1 : RepE K G H d x) (h2 : RepE K G H e y) (he : e = .non ∨ ∃ b, e = .bl b) : decide (x = y) = isD d e := by
  rcases he with rfl | ⟨b, rfl⟩
  · have h2 : y = .non := h2
    subst h2
    cases d with
    | non => have h1 : x = .non := h1; subst h1; rfl
    | bl b => have h1 : x = .bl b := h1; subst h1; rfl
    | int i => have h1 : x = .int i := h1; subst h1; rfl
    | str i => have h1 : x = .str _ := h1; subst h1; rfl
    | lst xs => obtain ⟨a, vs, rfl, _⟩ := h1; rfl
    | tup xs => obtain ⟨a, vs, rfl, _⟩ := h1; rfl
    | dct ks vs => obtain ⟨a, kvs, rfl, _⟩ := h1; rfl
    | scr ns => obtain ⟨a, rfl, _⟩ := h1; rfl
  · have h2 : y = .bl b := h2
    subst h2
    cases d with
    | non => have h1 : x = .non := h1; subst h1; rfl
    | bl c => have h1 : x = .bl c := h1; subst h1; exact dec_bl
    | int i => have h1 : x = .int i := h1; subst h1; rfl
    | str i => have h1 : x = .str _ := h1; subst h1; rfl
    | lst xs => obtain ⟨a, vs, rfl, _⟩ := h1; rfl
    | tup xs => obtain ⟨a, vs, rfl, _⟩ := h1; rfl
    | dct ks vs => obtain ⟨a, kvs, rfl, _⟩ := h1; rfl
    | scr ns => obtain ⟨a, rfl, _⟩ := h1; rfl
theorem k_is (neg : Bool) : BinOk X.K (fIs neg) (rIs neg) := by
  intro F B G H σ σv d1 d2 res x y Q rel h1 h2 e k
  have key : (d2 = .non ∨ ∃ b, d2 = .bl b) ∧ res = .v (.bl (isD d1 d2 ^^ neg)) := by
    unfold fIs at e
    split at e
    · cases e; exact ⟨.inl rfl, rfl⟩
    · cases e; exact ⟨.inr ⟨_, rfl⟩, rfl⟩
    · cases e
  obtain ⟨he, rfl⟩ := key
  refine ⟨?_, rep_ty h1, ?_⟩
  · rcases he with rfl | ⟨b, rfl⟩
    · exact .inl h2
    · exact .inr ⟨b, h2⟩
  · rw [isD_ok h1 h2 he]
    exact done rel rfl k
end

/-! ### a[i] -/
def ixD (n : Nat) (i : Int) : Option Nat := match i with
  | .ofNat k => bif Nat.blt k n then some k else none
  | .negSucc k => bif Nat.ble (k + 1) n then some (n - (k + 1)) else none
theorem ixD_ok (n : Nat) (i : Int) : ixD n i = ixN n i := by
  unfold ixN
  cases i with
  | ofNat k =>
    rw [if_pos (show (0 : Int) ≤ Int.ofNat k from Int.natCast_nonneg k)]
    show (bif Nat.blt k n then some k else none) = _
    by_cases h : k < n
    · have hb : Nat.blt k n = true := Nat.ble_eq_true_of_le h
      simp only [hb, cond_true]
      rw [if_pos (show Int.ofNat k < (n : Int) by show (k : Int) < n; omega)]
      rfl
    · have hb : Nat.blt k n = false := by
        cases q : Nat.blt k n with
        | false => rfl
        | true => exact absurd (Nat.le_of_ble_eq_true q) h
      simp only [hb, cond_false]
      rw [if_neg (show ¬ Int.ofNat k < (n : Int) by show ¬ (k : Int) < n; omega)]
  | negSucc k =>
    rw [if_neg (show ¬ (0 : Int) ≤ Int.negSucc k by simp)]
    show (bif Nat.ble (k + 1) n then some (n - (k + 1)) else none) = _
    by_cases h : k + 1 ≤ n
    · have hb : Nat.ble (k + 1) n = true := Nat.ble_eq_true_of_le h
      simp only [hb, cond_true]
      rw [if_pos (by omega)]
      congr 1
      omega
    · have hb : Nat.ble (k + 1) n = false := by
        cases q : Nat.ble (k + 1) n with
        | false => rfl
        | true => exact absurd (Nat.le_of_ble_eq_true q) h
      simp only [hb, cond_false]
      rw [if_neg (by omega)]
def atD {α : Type} (xs : List α) (i : Int) : Option α := match ixD xs.length i with
  | some j => xs[j]?
  | none => none
theorem atD_ok {α : Type} (xs : List α) (i : Int) : atD xs i = atI xs i := by
  unfold atD atI
  rw [ixD_ok]
  cases ixN xs.length i <;> rfl
def fIxL : D → D → Option R
  | .lst xs, .int i => match atD xs i with
    | some d => some (.v d)
    | none => none
  | .scr ns, .int i => match atD ns i with
    | some n => some (.v (.int n))
    | none => none
  | _, _ => none
def fIxT : D → D → Option R
  | .tup xs, .int i => match atD xs i with
    | some d => some (.v d)
    | none => none
  | _, _ => none
def fIxS : D → D → Option R
  | .str x, .int i => bif szOk x.length then (match atD x i with
    | some c => some (.v (.str [c]))
    | none => none) else none
  | _, _ => none
section
variable {K : PySem.W.Frag} {G : Hp}
theorem atI_rep {ds : List D} {vs : List V} {i : Int} {d : D} (h : RepL K G ds vs) (e : atI ds i = some d) : ∃ v, atI vs i = some v ∧ Rep K G d v := by
  unfold atI at e ⊢
  rw [← h.length]
  cases q : ixN ds.length i with
  | none => rw [q] at e; cases e
  | some j =>
    rw [q] at e
    exact h.get (show ds[j]? = some d from e)
theorem ok_ixL : BinOk K fIxL (rIxL K) := by
  intro F B G H σ σv d1 d2 res x y Q rel h1 h2 e k
  unfold fIxL at e
  split at e
  · rename_i xs i
    split at e
    · rename_i d q
      cases e
      rw [atD_ok] at q
      have h2 : y = .int i := h2
      subst h2
      obtain ⟨p, vs, rfl, r1, r2⟩ := h1
      obtain ⟨v, e1, e2⟩ := atI_rep r2 q
      exact ⟨p, vs, i, v, rfl, rfl, .inl r1, e1, k v G H rel (Same.refl G) e2⟩
    · cases e
  · rename_i ns i
    split at e
    · rename_i n q
      cases e
      rw [atD_ok] at q
      have h2 : y = .int i := h2
      subst h2
      obtain ⟨p, rfl, r1⟩ := h1
      refine ⟨p, _, i, .int n, rfl, rfl, r1, ?_, done rel rfl k⟩
      unfold atI at q ⊢
      rw [List.length_map]
      cases z : ixN ns.length i with
      | none => rw [z] at q; cases q
      | some j =>
        rw [z] at q
        show (ns.map V.int)[j]? = _
        rw [List.getElem?_map, show ns[j]? = some n from q]
        rfl
    · cases e
  · cases e
theorem ok_ixT : BinOk K fIxT (rIxT K) := by
  intro F B G H σ σv d1 d2 res x y Q rel h1 h2 e k
  unfold fIxT at e
  split at e
  · rename_i xs i
    split at e
    · rename_i d q
      cases e
      rw [atD_ok] at q
      have h2 : y = .int i := h2
      subst h2
      obtain ⟨p, vs, rfl, r1, r2⟩ := h1
      obtain ⟨v, e1, e2⟩ := atI_rep r2 q
      exact ⟨p, vs, i, v, rfl, rfl, same_t rel.gh r1, e1, k v G H rel (Same.refl G) e2⟩
    · cases e
  · cases e
theorem ok_ixS : BinOk K fIxS rIxS := by
  intro F B G H σ σv d1 d2 res x y Q rel h1 h2 e k
  unfold fIxS at e
  split at e
  · rename_i xs i
    cases hz : szOk xs.length with
    | false => rw [hz] at e; cases e
    | true =>
      rw [hz] at e
      simp only [cond_true] at e
      split at e
      · rename_i c q
        cases e
        rw [atD_ok] at q
        have h1 : x = .str ⟨xs.toArray⟩ := h1
        have h2 : y = .int i := h2
        subst h1 h2
        exact ⟨_, i, c, rfl, rfl, by simpa [Str.length] using szOk_le hz, by simpa using q, done rel rfl k⟩
      · cases e
  · cases e
end
/-- dicts: keys are ints and texts -/
def keyEq : D → D → Bool
  | .int i, .int j => i == j
  | .str x, .str y => lnEq x y
  | _, _ => false
def toKey : D → Option Key
  | .int i => some (.inl i)
  | .str x => some (.inr ⟨x.toArray⟩)
  | _ => none
def dGet (ks vs : List D) (k : D) : Option D := match ks, vs with
  | a :: ks, v :: vs => bif keyEq a k then some v else dGet ks vs k
  | _, _ => none
theorem keyD_to {d : D} {k : Key} (h : toKey d = some k) : keyD k = d ∧ ∀ {K : PySem.W.Frag} {G : Hp} {v : V}, Rep K G d v → v = kV k := by
  cases d with
  | int i => cases h; exact ⟨rfl, fun h => h⟩
  | str x => cases h; exact ⟨by simp [keyD], fun h => h⟩
  | _ => cases h
theorem keyEq_ok {d : D} {k a : Key} (h : toKey d = some k) : keyEq (keyD a) d = decide (a = k) := by
  cases d with
  | int i =>
    cases h
    cases a with
    | inl j => show (j == i) = _; rw [key_ll]
    | inr x => rw [key_rl]; rfl
  | str x =>
    cases h
    cases a with
    | inl j => rw [key_lr]; rfl
    | inr y =>
      rw [key_rr]
      show lnEq y.cps.toList x = _
      rw [Bool.eq_iff_iff, lnEq_iff, decide_eq_true_eq]
      constructor
      · intro e
        subst e
        cases y
        simp
      · intro e
        subst e
        simp
  | _ => cases h
theorem dGet_ok {K : PySem.W.Frag} {G : Hp} {d : D} {k : Key} (h : toKey d = some k) : ∀ {kvs : List (Key × V)} {vs : List D}, RepL K G vs (kvs.map (·.2)) →
    (dGet (kvs.map (fun p => keyD p.1)) vs d = none ∧ valV kvs k = none) ∨ ∃ x v, dGet (kvs.map (fun p => keyD p.1)) vs d = some x ∧ valV kvs k = some v ∧ Rep K G x v
  | [], vs, r => by
    cases vs with
    | nil => exact .inl ⟨rfl, rfl⟩
    | cons _ _ => obtain ⟨_, _, e, _⟩ := r; cases e
  | p :: kvs, vs, r => by
    cases vs with
    | nil => cases (show (p :: kvs).map (·.2) = [] from r)
    | cons x vs =>
      obtain ⟨v, w, e, r1, r2⟩ := r
      have e1 : p.2 = v := (List.cons.inj e).1
      have e2 : kvs.map (·.2) = w := (List.cons.inj e).2
      subst e1 e2
      show (dGet (keyD p.1 :: kvs.map (fun p => keyD p.1)) (x :: vs) d = none ∧ _) ∨ _
      by_cases c : p.1 = k
      · right
        refine ⟨x, p.2, ?_, valV_pos c, r1⟩
        show (bif keyEq (keyD p.1) d then some x else _) = some x
        rw [keyEq_ok h, decide_eq_true c] <;> rfl
      · rw [valV_neg c]
        have q : dGet (keyD p.1 :: kvs.map (fun p => keyD p.1)) (x :: vs) d = dGet (kvs.map (fun p => keyD p.1)) vs d := by
          show (bif keyEq (keyD p.1) d then some x else dGet (kvs.map (fun p => keyD p.1)) vs d) = _
          rw [keyEq_ok h, decide_eq_false c] <;> rfl
        show (dGet (keyD p.1 :: kvs.map (fun p => keyD p.1)) (x :: vs) d = none ∧ _) ∨ ∃ x' v, dGet (keyD p.1 :: kvs.map (fun p => keyD p.1)) (x :: vs) d = some x' ∧ _
        rw [q]
        exact dGet_ok h r2
def fIxD : D → D → Option R
  | .dct ks vs, d => match toKey d with
    | some _ => match dGet ks vs d with
      | some x => some (.v x)
      | none => none
    | none => none
  | _, _ => none
def rIxD : R2 := fun x y H Q => ∃ a v, x = .ref a ∧ DGet H a y (some v) ∧ Q v H
theorem ix_dict {X : Cx} (hu : X.A.units + 1 < cLine) : IxR X rIxD := fun value slice pins s σ H x y v u Q I rx ry h hs => by
  obtain ⟨a, w, ex, g, q⟩ := h
  subst ex
  cases rx
  exact tail_any (dict_typeIs I g) PySem.F.slot_dict_getitem.lookup (d_getItem hu I g ry fun w' s' I' rw' => ⟨w, H, I', rw', q⟩) hs
theorem ok_ixD {K : PySem.W.Frag} : BinOk K fIxD rIxD := by
  intro F B G H σ σv d1 d2 res x y Q rel h1 h2 e k
  unfold fIxD at e
  split at e
  · rename_i ks vs
    split at e
    · rename_i key hk
      split at e
      · rename_i d hd
        cases e
        obtain ⟨a, kvs, rfl, r1, rfl, r3⟩ := h1
        rcases dGet_ok hk r3 with ⟨z, _⟩ | ⟨d', v, z1, z2, z3⟩
        · rw [hd] at z; cases z
        · rw [hd] at z1; cases z1
          have hy : y = kV key := by
            cases d2 with
            | int i => cases hk; exact h2
            | str i => cases hk; exact h2
            | _ => cases hk
          refine ⟨a, v, rfl, .inl ⟨kvs, key, r1, hy, z2.symm⟩, k v G H rel (Same.refl G) z3⟩
      · cases e
    · cases e
  · cases e
def fIx := fOr fIxL (fOr fIxT (fOr fIxS fIxD))
section
variable {X : Cx}
def rIxA (K : PySem.W.Frag) : R2 := fun x y H Q => rIxL K x y H Q ∨ rIxT K x y H Q ∨ rIxS x y H Q ∨ rIxD x y H Q
theorem o_ix (hu : X.A.units + 1 < cLine) : IxR X (rIxA X.K) := ix_list.or (ix_tup.or (ix_str.or (ix_dict hu)))
theorem k_ix : BinOk X.K fIx (rIxA X.K) := ok_ixL.or (ok_ixT.or (ok_ixS.or ok_ixD))
end
end Mi

set_option Elab.async false
set_option linter.all false
set_option maxRecDepth 100000
set_option maxHeartbeats 1000000
/-! Mi, part 8: built-in functions, methods, stores by places. -/
namespace Mi
open PySem PySem.Spec PyProof.Rows L2

/-! ### functions by values -/
abbrev RCall := List V → Hp → VK → Prop
def FnR (K : PySem.W.Frag) (f : List D → Option R) (r : RCall) : Prop := ∀ (F : Hp) (B : List (Nat × V)) (G H : Hp) (σ : List Sl) (σv : L2.St) (ds : List D) (res : R) (vs : List V) (Q : VK),
  Rel K F B G σ σv H → RepEs K G H ds vs → f ds = some res → (∀ v G' H', Rel K F B G' σ σv H' → Same G G' → ResOk K F G' H' σ σv res v → Q v H') → r vs H Q
def mFn (f : List D → Option R) (os : OEs) : ME := fun σ => match os σ with
  | some (ops, σ1) => match derefs σ1 ops with
    | some ds => match f ds with
      | some r => some (r, σ1)
      | none => none
    | none => none
  | none => none
theorem fn_core {K : PySem.W.Frag} {f : List D → Option R} {r : RCall} (ok : FnR K f r) {os : OEs} : ∀ σv H Q, tM K (mFn f os) σv H Q → tCB r (tOs K os) σv H Q := by
  intro σv H Q q
  obtain ⟨F, B, G, σ, res, σ', rel, em, k⟩ := q
  unfold mFn at em
  split at em
  · rename_i ops σ1 e1
    split at em
    · rename_i ds e2
      split at em
      · rename_i r' e3
        cases em
        exact ⟨F, B, G, σ, ops, _, rel, e1, fun vs G1 H1 r1 s1 p1 => ok F B G1 H1 _ σv ds _ vs Q r1 (derefs_ok r1 p1 e2) e3 fun v G2 H2 r2 s2 p2 => k v G2 H2 r2 (s1.trans s2) p2⟩
      · cases em
    · cases em
  · cases em
def RCall.or (r r' : RCall) : RCall := fun xs H Q => r xs H Q ∨ r' xs H Q
def gOr (f g : List D → Option R) : List D → Option R := fun ds => match f ds with
  | some r => some r
  | none => g ds
theorem FnR.or {K : PySem.W.Frag} {f g : List D → Option R} {r r' : RCall} (h : FnR K f r) (h' : FnR K g r') : FnR K (gOr f g) (fun xs H Q => r xs H Q ∨ r' xs H Q) := fun F B G H σ σv ds res vs Q rel hd e k => by
  unfold gOr at e
  split at e
  · rename_i q
    cases e
    exact .inl (h F B G H σ σv ds _ vs Q rel hd q k)
  · exact .inr (h' F B G H σ σv ds res vs Q rel hd e k)
section
variable {X : Cx} {e : Expr}
theorem rm_fn {f : List D → Option R} {r : RCall} {os : OEs} (ok : FnR X.K f r) (h : PE X e (tCB r (tOs X.K os))) : PE X e (tM X.K (mFn f os)) := h.weak (fn_core ok)
theorem rm_call {c : Fn} {np : Nat} {os : OEs} {E : XK} (h : PE X e (tCall (spF X.K np c) [] E (tOs X.K os))) : PE X e (tM X.K (mCall np c os)) := h.weak call_core
end
section
variable {K : PySem.W.Frag} {G H : Hp}
theorem es1 {d : D} {vs : List V} (h : RepEs K G H [d] vs) : ∃ v, vs = [v] ∧ RepE K G H d v := by
  obtain ⟨v, r, e, h1, h2⟩ := h
  have h2 : r = [] := h2
  subst h2
  exact ⟨v, e, h1⟩
theorem es2 {d d' : D} {vs : List V} (h : RepEs K G H [d, d'] vs) : ∃ v w, vs = [v, w] ∧ RepE K G H d v ∧ RepE K G H d' w := by
  obtain ⟨v, r, e, h1, w, r2, e2, h2, h3⟩ := h
  have h3 : r2 = [] := h3
  subst h3 e2
  exact ⟨v, w, e, h1, h2⟩

/-! ### len -/
def fLenS : List D → Option R
  | [.lst xs] => some (.v (.int xs.length))
  | [.tup xs] => some (.v (.int xs.length))
  | [.scr xs] => some (.v (.int xs.length))
  | _ => none
def fLenT : List D → Option R
  | [.str x] => bif szOk x.length then some (.v (.int x.length)) else none
  | _ => none
def fLenD : List D → Option R
  | [.dct ks _] => some (.v (.int ks.length))
  | _ => none
def rLen1 (K : PySem.W.Frag) : RCall := fun xs H Q => ∃ p ys, xs = [.ref p] ∧ (SqL K H p ys ∨ SqT K H p ys) ∧ Q (.int ys.length) H
def rLen2 : RCall := fun xs H Q => ∃ z, xs = [.str z] ∧ z.length ≤ sizeLine ∧ Q (.int z.length) H
def rLen3 : RCall := fun xs H Q => ∃ a kvs, xs = [V.ref a] ∧ Rd H a (.dK kvs) ∧ Q (.int kvs.length) H
theorem len_d {X : Cx} : CallR X (.builtin "len") rLen3 := fun pins s σ H xs us Q I r h => by
  obtain ⟨a, kvs, ex, ha, q⟩ := h
  subst ex
  obtain ⟨u, rfl, ru⟩ := vals1 r
  cases ru
  exact d_len I ha fun t s' I' => ⟨.int kvs.length, H, I', ⟨t, rfl⟩, q⟩
theorem ok_len1 : FnR K fLenS (rLen1 K) := by
  intro F B G H σ σv ds res vs Q rel hd e k
  unfold fLenS at e
  split at e
  · cases e
    obtain ⟨v, rfl, a, ws, rfl, h1, h2⟩ := es1 hd
    refine ⟨a, ws, rfl, .inl (.inl h1), ?_⟩
    rw [← h2.length]
    exact done rel rfl k
  · cases e
    obtain ⟨v, rfl, a, ws, rfl, h1, h2⟩ := es1 hd
    refine ⟨a, ws, rfl, .inr (same_t rel.gh h1), ?_⟩
    rw [← h2.length]
    exact done rel rfl k
  · rename_i ns
    cases e
    obtain ⟨v, rfl, a, rfl, h1⟩ := es1 hd
    refine ⟨a, _, rfl, .inl h1, ?_⟩
    rw [List.length_map]
    exact done rel rfl k
  · cases e
theorem ok_len2 : FnR K fLenT rLen2 := by
  intro F B G H σ σv ds res vs Q rel hd e k
  unfold fLenT at e
  split at e
  · rename_i x
    cases hz : szOk x.length with
    | false => rw [hz] at e; cases e
    | true =>
      rw [hz] at e; cases e
      obtain ⟨v, rfl, h1⟩ := es1 hd
      have h1 : v = .str ⟨x.toArray⟩ := h1
      subst h1
      have hl : (⟨x.toArray⟩ : Str).length = x.length := by simp [Str.length]
      refine ⟨_, rfl, by rw [hl]; exact szOk_le hz, ?_⟩
      rw [hl]
      exact done rel rfl k
  · cases e
theorem ok_len3 : FnR K fLenD rLen3 := by
  intro F B G H σ σv ds res vs Q rel hd e k
  unfold fLenD at e
  split at e
  · cases e
    obtain ⟨v, rfl, a, kvs, rfl, h1, rfl, h3⟩ := es1 hd
    refine ⟨a, kvs, rfl, h1, ?_⟩
    rw [List.length_map] at k
    exact done rel rfl k
  · cases e
def fLen := gOr fLenS (gOr fLenT fLenD)
def rLen (K : PySem.W.Frag) : RCall := fun xs H Q => rLen1 K xs H Q ∨ rLen2 xs H Q ∨ rLen3 xs H Q
theorem c_len {X : Cx} : CallR X (.builtin "len") (rLen X.K) := call_len_seq.or (call_len_str.or len_d)
theorem k_len : FnR K fLen (rLen K) := ok_len1.or (ok_len2.or ok_len3)

/-! ### int, abs, max, min, gcd -/
def fInt : List D → Option R
  | [.int i] => some (.v (.int i))
  | [.bl k] => some (.v (.int (if k then 1 else 0)))
  | _ => none
def rInt : RCall := fun xs H Q => (∃ i, xs = [.int i] ∧ Q (.int i) H) ∨ ∃ k, xs = [.bl k] ∧ Q (.int (if k then 1 else 0)) H
theorem k_int : FnR K fInt rInt := by
  intro F B G H σ σv ds res vs Q rel hd e k
  unfold fInt at e
  split at e
  · rename_i i
    cases e
    obtain ⟨v, rfl, h1⟩ := es1 hd
    have h1 : v = .int i := h1
    subst h1
    exact .inl ⟨i, rfl, done rel rfl k⟩
  · rename_i b
    cases e
    obtain ⟨v, rfl, h1⟩ := es1 hd
    have h1 : v = .bl b := h1
    subst h1
    exact .inr ⟨b, rfl, done rel rfl k⟩
  · cases e
def fAbs : List D → Option R
  | [.int i] => some (.v (.int (if i < 0 then -i else i)))
  | _ => none
theorem k_abs : FnR K fAbs (fun xs H Q => ∃ i, xs = [.int i] ∧ Q (.int (if i < 0 then -i else i)) H) := by
  intro F B G H σ σv ds res vs Q rel hd e k
  unfold fAbs at e
  split at e
  · rename_i i
    cases e
    obtain ⟨v, rfl, h1⟩ := es1 hd
    have h1 : v = .int i := h1
    subst h1
    exact ⟨i, rfl, done rel rfl k⟩
  · cases e
def f2J (g : Int → Int → Int) : List D → Option R
  | [.int i, .int j] => some (.v (.int (g i j)))
  | _ => none
theorem k_2J {g : Int → Int → Int} : FnR K (f2J g) (fun xs H Q => ∃ i j, xs = [.int i, .int j] ∧ Q (.int (g i j)) H) := by
  intro F B G H σ σv ds res vs Q rel hd e k
  unfold f2J at e
  split at e
  · rename_i i j
    cases e
    obtain ⟨v, w, rfl, h1, h2⟩ := es2 hd
    have h1 : v = .int i := h1
    have h2 : w = .int j := h2
    subst h1 h2
    exact ⟨i, j, rfl, done rel rfl k⟩
  · cases e
def fMax2 := f2J fun i j => if j > i then j else i
def fMin2 := f2J fun i j => if j < i then j else i
def fGcd := f2J fun i j => ((Nat.gcd i.natAbs j.natAbs : Nat) : Int)

/-! ### list(x), tuple(x) -/
def fListOf : List D → Option R
  | [.lst xs] => some (.n (.lst xs))
  | [.tup xs] => some (.n (.lst xs))
  | _ => none
def rListOf (K : PySem.W.Frag) : RCall := fun xs H Q => ∃ p ys, xs = [.ref p] ∧ (SqL K H p ys ∨ SqT K H p ys) ∧ ∀ l, H l = none → Q (.ref l) (upd H l (.lst ys))
theorem k_listOf : FnR K fListOf (rListOf K) := by
  intro F B G H σ σv ds res vs Q rel hd e k
  unfold fListOf at e
  split at e
  · cases e
    obtain ⟨v, rfl, a, ws, rfl, h1, h2⟩ := es1 hd
    exact ⟨a, ws, rfl, .inl (.inl h1), fun l hl => k _ G _ (rel.made hl) (Same.refl G) (rel.res_n hl h2)⟩
  · cases e
    obtain ⟨v, rfl, a, ws, rfl, h1, h2⟩ := es1 hd
    exact ⟨a, ws, rfl, .inr (same_t rel.gh h1), fun l hl => k _ G _ (rel.made hl) (Same.refl G) (rel.res_n hl h2)⟩
  · cases e
def fTupOf : List D → Option R
  | [.lst xs] => some (.v (.tup xs))
  | [.tup xs] => some (.v (.tup xs))
  | _ => none
def rTupOf (K : PySem.W.Frag) : RCall := fun xs H Q => ∃ p ys, xs = [.ref p] ∧ ((SqL K H p ys ∧ ∀ l, H l = none → Q (.ref l) (upd H l (.tup ys))) ∨ (SqT K H p ys ∧ Q (.ref p) H))
theorem k_tupOf : FnR K fTupOf (rTupOf K) := by
  intro F B G H σ σv ds res vs Q rel hd e k
  unfold fTupOf at e
  split at e
  · cases e
    obtain ⟨v, rfl, a, ws, rfl, h1, h2⟩ := es1 hd
    exact ⟨a, ws, rfl, .inl ⟨.inl h1, fun l hl => k _ _ _ (rel.laid hl) (same_new (rel.fresh hl).1) (rel.res_t hl h2)⟩⟩
  · cases e
    obtain ⟨v, rfl, a, ws, rfl, h1, h2⟩ := es1 hd
    exact ⟨a, ws, rfl, .inr ⟨same_t rel.gh h1, k _ G H rel (Same.refl G) ⟨a, ws, rfl, h1, h2⟩⟩⟩
  · cases e

/-! ### sum of ints -/
def intsOf : List D → Option (List Int)
  | [] => some []
  | .int i :: ds => match intsOf ds with
    | some ns => some (i :: ns)
    | none => none
  | _ => none
theorem intsOf_ok : ∀ {ds : List D} {ns : List Int}, intsOf ds = some ns → ds = ns.map D.int
  | [], ns, h => by cases h; rfl
  | d :: ds, ns, h => by
    cases d with
    | int i =>
      have h : (match intsOf ds with | some ns => some (i :: ns) | none => none) = some ns := h
      split at h
      · rename_i ms q
        cases h
        rw [intsOf_ok q]
        rfl
      · cases h
    | _ => cases h
def fSum : List D → Option R
  | [.lst xs] => match intsOf xs with
    | some ns => some (.v (.int ns.sum))
    | none => none
  | _ => none
theorem k_sum : FnR K fSum (rSum K) := by
  intro F B G H σ σv ds res vs Q rel hd e k
  unfold fSum at e
  split at e
  · split at e
    · rename_i ns q
      cases e
      obtain ⟨v, rfl, a, ws, rfl, h1, h2⟩ := es1 hd
      have e2 := intsOf_ok q
      subst e2
      have e3 := h2.ints
      subst e3
      exact ⟨a, ns, rfl, .inl h1, done rel rfl k⟩
    · cases e
  · cases e

/-! ### isinstance -/
inductive Ty where
  | int | str | bool | tuple | list | dict
def Ty.nm : Ty → String
  | .int => "int" | .str => "str" | .bool => "bool" | .tuple => "tuple" | .list => "list" | .dict => "dict"
inductive Tc where
  | non | bl | int | str | lst | tup | dct
def Tc.nm : Tc → String
  | .non => "NoneType" | .bl => "bool" | .int => "int" | .str => "str" | .lst => "list" | .tup => "tuple" | .dct => "dict"
def Tc.is : Tc → Ty → Bool
  | .bl, .int => true
  | .bl, .bool => true
  | .int, .int => true
  | .str, .str => true
  | .lst, .list => true
  | .tup, .tuple => true
  | .dct, .dict => true
  | _, _ => false
theorem tc_ok : ∀ (c : Tc) (t : Ty), kitB c.nm t.nm = some (c.is t)
  | c, t => by cases c <;> cases t <;> decide +kernel
def tcD : D → Tc
  | .non => .non | .bl _ => .bl | .int _ => .int | .str _ => .str | .lst _ => .lst | .tup _ => .tup | .dct _ _ => .dct | .scr _ => .lst
def tyName (d : D) : String := (tcD d).nm
def isTy (d : D) (t : Ty) : Bool := (tcD d).is t
theorem isTy_ok (K : PySem.W.Frag) (d : D) (t : Ty) : PySem.W.kitOne K (.type (tyName d)) (.type t.nm) = some (isTy d t) := kit_ty (tc_ok (tcD d) t)
theorem tyX_of {d : D} {v : V} (gh : Same G H) (h : RepE K G H d v) : TyX K H v (.type (tyName d)) := by
  cases d with
  | non => have h : v = .non := h; subst h; exact .base .non
  | bl b => have h : v = .bl b := h; subst h; exact .base (.bl b)
  | int i => have h : v = .int i := h; subst h; exact .base (.int i)
  | str x => have h : v = .str _ := h; subst h; exact .base (.str _)
  | lst xs =>
    obtain ⟨a, vs, rfl, h1, _⟩ := h
    rcases h1 with h1 | ⟨o, h1⟩
    · exact .base (.lst h1)
    · exact .base (.frz h1)
  | tup xs =>
    obtain ⟨a, vs, rfl, h1, _⟩ := h
    rcases same_t gh h1 with (h1 | ⟨o, h1⟩) | ⟨o, its, n, h1, h2, _⟩
    · exact .base (.tup h1)
    · exact .fTuple h1
    · exact .kTuple h1 h2
  | dct ks vs =>
    obtain ⟨a, kvs, rfl, h1, _⟩ := h
    rcases h1 with h1 | ⟨o, h1⟩
    · exact .base (.dK h1)
    · exact .fDict h1
  | scr ns =>
    obtain ⟨a, rfl, h1⟩ := h
    rcases h1 with h1 | ⟨o, its, n, h1, h2, _⟩
    · rcases h1 with h1 | ⟨o, h1⟩
      · exact .base (.lst h1)
      · exact .base (.frz h1)
    · exact .kList h1 h2
end
def mIsi (t : Ty) (o : OE) : ME := fun σ => match o σ with
  | some (op, σ1) => match deref σ1 op with
    | some d => some (.v (.bl (isTy d t)), σ1)
    | none => none
  | none => none
section
variable {X : Cx} {e : Expr}
theorem rm_isi {t : Ty} {o : OE} (h : PE X e (tCB (rIsi X.K) (tCons (tO X.K o) (tCons (tC (.ty t.nm)) tNil)))) : PE X e (tM X.K (mIsi t o)) := h.weak fun σv H Q q => by
  obtain ⟨F, B, G, σ, res, σ', rel, em, k⟩ := q
  unfold mIsi at em
  split at em
  · rename_i op σ1 e1
    split at em
    · rename_i d e2
      cases em
      exact ⟨F, B, G, σ, op, _, rel, e1, fun v G1 H1 r1 s1 p1 => ⟨v, .ty t.nm, _, _, isTy d t, rfl, .ty _, tyX_of r1.gh (deref_ok r1 p1 e2), isTy_ok X.K d t, k _ G1 H1 r1 s1 rfl⟩⟩
    · cases em
  · cases em
/-! ### -a -/
def mNeg (o : OE) : ME := fun σ => match o σ with
  | some (op, σ1) => match deref σ1 op with
    | some (.int i) => some (.v (.int (-i)), σ1)
    | _ => none
  | none => none
theorem rm_neg {a : Expr} {pos : Pos} {o : OE} (ha : PE X a (tO X.K o)) : PE X (.UnaryOp .USub a pos) (tM X.K (mNeg o)) := (pe_un un_neg ha).weak fun σv H Q q => by
  obtain ⟨F, B, G, σ, res, σ', rel, em, k⟩ := q
  unfold mNeg at em
  split at em
  · rename_i op σ1 e1
    split at em
    · rename_i i e2
      cases em
      refine ⟨F, B, G, σ, op, _, rel, e1, fun v G1 H1 r1 s1 p1 => ?_⟩
      have hv : v = .int i := deref_ok r1 p1 e2
      subst hv
      exact ⟨i, rfl, k _ G1 H1 r1 s1 rfl⟩
    · cases em
  · cases em

/-! ### methods that change a list of one's own -/
def MutR (K : PySem.W.Frag) (f : List D → List D → Option (R × List D)) (r : V → List V → Hp → VK → Prop) : Prop := ∀ (F : Hp) (B : List (Nat × V)) (G H : Hp) (σ : List Sl) (σv : L2.St) (i : Nat) (l : Bool) (a : Addr) (xs xs' ds : List D) (res : R) (ws vs : List V) (Q : VK),
  Rel K F B G σ σv H → σ[i]? = some (.ow (.lst xs) l) → σv[i]? = some (some (.ref a)) → H a = some (.lst ws) → RepL K G xs ws → RepL K G ds vs → f xs ds = some (res, xs') →
  (∀ v G' H', Rel K F B G' (σ.set i (.ow (.lst xs') l)) σv H' → Same G G' → ResOk K F G' H' (σ.set i (.ow (.lst xs') l)) σv res v → Q v H') → r (.ref a) vs H Q
def isOwL (σ : List Sl) (i : Nat) : Bool := match σ[i]? with
  | some (.ow (.lst _) _) => true
  | _ => false
theorem isOwL_ok {K : PySem.W.Frag} {F G H : Hp} {B : List (Nat × V)} {σ : List Sl} {σv : L2.St} {i : Nat} (r : Rel K F B G σ σv H) (h : isOwL σ i = true) : ∃ a ws, σv[i]? = some (some (.ref a)) ∧ H a = some (.lst ws) := by
  unfold isOwL at h
  split at h
  · rename_i xs l q
    obtain ⟨a, h1, _, _, ws, h4, _⟩ := r.ow i _ _ q
    exact ⟨a, ws, h1, h4⟩
  · cases h
def mMut (f : List D → List D → Option (R × List D)) (i : Nat) (as : VEs) : ME := fun σ => bif isOwL σ i then (match as σ with
  | some (ds, σ1) => match σ1[i]? with
    | some (.ow (.lst xs) l) => match f xs ds with
      | some (r, xs') => some (r, σ1.set i (.ow (.lst xs') l))
      | none => none
    | _ => none
  | none => none) else none
theorem mut_core {K : PySem.W.Frag} {f : List D → List D → Option (R × List D)} {r : V → List V → Hp → VK → Prop} (ok : MutR K f r) {i : Nat} {as : VEs} : ∀ σv H Q, tM K (mMut f i as) σv H Q → tBM K "list" r (tVar i) (tVs K as) σv H Q := by
  intro σv H Q q
  obtain ⟨F, B, G, σ, res, σ', rel, em, k⟩ := q
  unfold mMut at em
  cases ho : isOwL σ i with
  | false => rw [ho] at em; cases em
  | true =>
    rw [ho] at em
    simp only [cond_true] at em
    split at em
    · rename_i ds σ1 e1
      split at em
      · rename_i xs l hs
        split at em
        · rename_i r' xs' e2
          cases em
          obtain ⟨a, ws, ha, hw⟩ := isOwL_ok rel ho
          refine ⟨.ref a, ha, .inl ⟨rfl, ws, .inl (.inl hw)⟩, F, B, G, σ, ds, σ1, rel, e1, fun vs G1 H1 r1 s1 p1 => ?_⟩
          obtain ⟨a', h1, _, _, ws', h4, h5⟩ := r1.ow i _ _ hs
          rw [ha] at h1; cases h1
          exact ok F B G1 H1 σ1 σv i l a xs xs' ds _ ws' vs Q r1 hs ha h4 h5 p1 e2 fun v G2 H2 r2 s2 p2 => k v G2 H2 r2 (s1.trans s2) p2
        · cases em
      · cases em
    · cases em
theorem rm_mut {f : List D → List D → Option (R × List D)} {r : V → List V → Hp → VK → Prop} {i : Nat} {as : VEs} (ok : MutR X.K f r) (h : PE X e (tBM X.K "list" r (tVar i) (tVs X.K as))) : PE X e (tM X.K (mMut f i as)) := h.weak (mut_core ok)
theorem rm_mut0 {f : List D → List D → Option (R × List D)} {r : V → List V → Hp → VK → Prop} {i : Nat} (ok : MutR X.K f r) (h : PE X e (tBM0 X.K "list" r (tVar i))) : PE X e (tM X.K (mMut f i vsN)) := h.weak fun σv H Q q => by
  obtain ⟨v, h1, h2, F, B, G, σ, ds, σ', rel, em, k⟩ := mut_core ok σv H Q q
  cases em
  exact ⟨v, h1, h2, k [] G H rel (Same.refl G) rfl⟩
end
section
variable {K : PySem.W.Frag}
theorem own_write {F G H : Hp} {B : List (Nat × V)} {σ : List Sl} {σv : L2.St} {i : Nat} {l : Bool} {a : Addr} {xs xs' : List D} {ws : List V} (rel : Rel K F B G σ σv H) (hs : σ[i]? = some (.ow (.lst xs) l)) (ha : σv[i]? = some (some (.ref a))) (hr : RepL K G xs' ws) :
    Rel K F B G (σ.set i (.ow (.lst xs') l)) σv (upd H a (.lst ws)) := rel.write hs ha fun H' e => ⟨ws, e, hr⟩
def fAppend : List D → List D → Option (R × List D)
  | xs, [d] => bif Nat.ble xs.length 16000000 then some (.v .non, xs ++ [d]) else none
  | _, _ => none
theorem k_append : MutR K fAppend rAppend := by
  intro F B G H σ σv i l a xs xs' ds res ws vs Q rel hs ha hw hx hd e k
  unfold fAppend at e
  split at e
  · rename_i d
    cases hz : Nat.ble xs.length 16000000 with
    | false => rw [hz] at e; cases e
    | true =>
      rw [hz] at e; cases e
      obtain ⟨v, r, rfl, h1, h2⟩ := hd
      have h2 : r = [] := h2
      subst h2
      refine ⟨a, ws, v, rfl, rfl, hw, ?_, k .non G _ (own_write rel hs ha (hx.append (.cons h1 .nil))) (Same.refl G) rfl⟩
      have hz := Nat.le_of_ble_eq_true hz
      rw [← hx.length, sizeLine_eq]
      omega
  · cases e
def fPopAt : List D → List D → Option (R × List D)
  | xs, [.int i] => match ixD xs.length i with
    | some j => match xs[j]? with
      | some d => bif rOk i then some (.v d, xs.eraseIdx j) else none
      | none => none
    | none => none
  | _, _ => none
theorem RepL.erase {G : Hp} : ∀ {ds : List D} {vs : List V} (j : Nat), RepL K G ds vs → RepL K G (ds.eraseIdx j) (vs.eraseIdx j)
  | [], vs, j, h => by have e : vs = [] := h; subst e; exact rfl
  | d :: ds, vs, 0, h => by
    obtain ⟨v, r, rfl, h1, h2⟩ := h
    exact h2
  | d :: ds, vs, j + 1, h => by
    obtain ⟨v, r, rfl, h1, h2⟩ := h
    exact ⟨v, _, rfl, h1, RepL.erase j h2⟩
theorem k_popAt : MutR K fPopAt rPopAt := by
  intro F B G H σ σv i l a xs xs' ds res ws vs Q rel hs ha hw hx hd e k
  unfold fPopAt at e
  split at e
  · rename_i n
    split at e
    · rename_i j hj
      split at e
      · rename_i d hd2
        cases hz : rOk n with
        | false => rw [hz] at e; cases e
        | true =>
          rw [hz] at e; cases e
          obtain ⟨v, r, rfl, h1, h2⟩ := hd
          have h2 : r = [] := h2
          subst h2
          have h1 : v = .int n := h1
          subst h1
          obtain ⟨w, q1, q2⟩ := hx.get hd2
          obtain ⟨b1, b2⟩ := rOk_ok hz
          rw [ixD_ok] at hj
          refine ⟨a, ws, n, j, w, rfl, rfl, hw, by omega, by omega, ?_, q1, k w G _ (own_write rel hs ha (RepL.erase j hx)) (Same.refl G) q2⟩
          rw [← hx.length]
          exact (ixN_seq hj).1
      · cases e
    · cases e
  · cases e
def fPop : List D → List D → Option (R × List D)
  | xs, [] => match xs[xs.length - 1]? with
    | some d => some (.v d, xs.dropLast)
    | none => none
  | _, _ => none
theorem RepL.dropLast {G : Hp} {ds : List D} {vs : List V} (h : RepL K G ds vs) : RepL K G ds.dropLast vs.dropLast := by
  rw [List.dropLast_eq_take, List.dropLast_eq_take, h.length]
  exact h.take _
theorem k_pop : MutR K fPop rPop := by
  intro F B G H σ σv i l a xs xs' ds res ws vs Q rel hs ha hw hx hd e k
  unfold fPop at e
  split at e
  · split at e
    · rename_i d hd2
      cases e
      have hd : vs = [] := hd
      subst hd
      obtain ⟨w, q1, q2⟩ := hx.get hd2
      exact ⟨a, ws, w, rfl, rfl, hw, by rw [← hx.length]; exact q1, k w G _ (own_write rel hs ha hx.dropLast) (Same.refl G) q2⟩
    · cases e
  · cases e

/-! ### a[i] = v -/
def fSetL : D → D → D → Option D
  | .lst xs, .int k, d => match ixD xs.length k with
    | some j => some (.lst (xs.set j d))
    | none => none
  | _, _, _ => none
theorem k_setL : SetOk K fSetL rSetL := by
  intro F B G H σ σv i d d' di dv l a y v Q rel hs ha hy hv e k
  unfold fSetL at e
  split at e
  · rename_i xs n
    split at e
    · rename_i j hj
      cases e
      obtain ⟨a', h0, _, _, ws, h4, h5⟩ := rel.ow i _ _ hs
      rw [ha] at h0; cases h0
      have hy : y = .int n := hy
      subst hy
      rw [ixD_ok] at hj
      exact ⟨a, ws, n, j, rfl, rfl, h4, by rw [← h5.length]; exact hj, k _ (own_write rel hs ha (h5.set hv))⟩
    · cases e
  · cases e
def dHas : List D → D → Bool
  | [], _ => false
  | a :: ks, k => bif keyEq a k then true else dHas ks k
def dRepl : List D → List D → D → D → List D
  | a :: ks, v :: vs, k, x => (bif keyEq a k then x else v) :: dRepl ks vs k x
  | _, _, _, _ => []
def fSetD : D → D → D → Option D
  | .dct ks vs, k, d => match toKey k with
    | some _ => bif Nat.ble ks.length 16000000 then (bif dHas ks k then some (.dct ks (dRepl ks vs k d)) else some (.dct (ks ++ [k]) (vs ++ [d]))) else none
    | none => none
  | _, _, _ => none
end
end Mi

set_option Elab.async false
set_option linter.all false
set_option maxRecDepth 100000
set_option maxHeartbeats 1000000
/-! Mi, part 9: joined operations, short rules for the printed proofs. -/
namespace Mi
open PySem PySem.Spec PyProof.Rows L2

def fAdd := fOr fAddI (fOr fAddS (fOr fCatL fCatT))
section
variable {X : Cx} {a b c e : Expr} {pos : Pos} {k : Nat}
theorem hu64 (hr : Room k X.A) : X.A.units + 64 < cLine := hr.units
theorem hu65 (hr : Room k X.A) : X.A.units + 65 < cLine := by have := hr.un; omega
theorem hu1 (hr : Room k X.A) : X.A.units + 1 < cLine := by have := hr.un; omega
def rAddA (K : PySem.W.Frag) : R2 := fun x y H Q => rI0 (fun i j => .int (i + j)) x y H Q ∨ (∃ i j, x = .str i ∧ y = .str j ∧ i.length + j.length ≤ sizeLine ∧ Q (.str (i ++ j)) H) ∨ rCatR x y H Q ∨ rCatT K x y H Q
theorem o_add : OpR X (binaryOp .Add) (rAddA X.K) := op_add.or (op_add_str.or (op_catR.or op_catT))
theorem k_add : BinOk X.K fAdd (rAddA X.K) := ok_addI.or (ok_addS.or (ok_catL.or ok_catT))
variable {oa ob : OE}
theorem x_add (ha : PE X a (tO X.K oa)) (hb : PE X b (tO X.K ob)) : PE X (.BinOp a .Add b pos) (tM X.K (mBin fAdd oa ob)) := rm_op o_add k_add ha hb
theorem x_sub (ha : PE X a (tO X.K oa)) (hb : PE X b (tO X.K ob)) : PE X (.BinOp a .Sub b pos) (tM X.K (mBin fSub oa ob)) := rm_op op_sub ok_sub ha hb
theorem x_mul (ha : PE X a (tO X.K oa)) (hb : PE X b (tO X.K ob)) : PE X (.BinOp a .Mult b pos) (tM X.K (mBin fMulI oa ob)) := rm_op op_mulB ok_mulI ha hb
theorem x_div (ha : PE X a (tO X.K oa)) (hb : PE X b (tO X.K ob)) : PE X (.BinOp a .FloorDiv b pos) (tM X.K (mBin fDiv oa ob)) := rm_op op_divB ok_div ha hb
theorem x_mod (ha : PE X a (tO X.K oa)) (hb : PE X b (tO X.K ob)) : PE X (.BinOp a .Mod b pos) (tM X.K (mBin fMod oa ob)) := rm_op op_modN ok_mod ha hb
theorem x_pow (ha : PE X a (tO X.K oa)) (hb : PE X b (tO X.K ob)) : PE X (.BinOp a .Pow b pos) (tM X.K (mBin fPow oa ob)) := rm_op op_pow ok_pow ha hb
theorem x_shl (ha : PE X a (tO X.K oa)) (hb : PE X b (tO X.K ob)) : PE X (.BinOp a .LShift b pos) (tM X.K (mBin fShl oa ob)) := rm_op op_shl ok_shl ha hb
theorem x_ix (hr : Room k X.A) (ha : PE X a (tO X.K oa)) (hb : PE X b (tO X.K ob)) (hs : PlainIx b := by intro _ _; rfl) : PE X (.Subscript a b pos) (tM X.K (mBin fIx oa ob)) := rm_ix (o_ix (hu1 hr)) k_ix ha hb hs
theorem x_eq (hr : Room k X.A) (ha : PE X a (tO X.K oa)) (hb : PE X b (tO X.K ob)) : PE X (.Compare a [.Eq] [b] pos) (tM X.K (mBin fEq oa ob)) := rm_cmp (o_eq (hu64 hr)) k_eq ha hb (nomark _)
theorem x_ne (hr : Room k X.A) (ha : PE X a (tO X.K oa)) (hb : PE X b (tO X.K ob)) : PE X (.Compare a [.NotEq] [b] pos) (tM X.K (mBin fNe oa ob)) := rm_cmp (o_ne (hu64 hr)) k_ne ha hb (nomark _)
theorem x_lt (hr : Room k X.A) (ha : PE X a (tO X.K oa)) (hb : PE X b (tO X.K ob)) : PE X (.Compare a [.Lt] [b] pos) (tM X.K (mBin fLt oa ob)) := rm_cmp op_lt k_lt ha hb (nomark _)
theorem x_le (hr : Room k X.A) (ha : PE X a (tO X.K oa)) (hb : PE X b (tO X.K ob)) : PE X (.Compare a [.LtE] [b] pos) (tM X.K (mBin fLe oa ob)) := rm_cmp op_le k_le ha hb (nomark _)
theorem x_gt (hr : Room k X.A) (ha : PE X a (tO X.K oa)) (hb : PE X b (tO X.K ob)) : PE X (.Compare a [.Gt] [b] pos) (tM X.K (mBin fGt oa ob)) := rm_cmp op_gt k_gt ha hb (nomark _)
theorem x_ge (hr : Room k X.A) (ha : PE X a (tO X.K oa)) (hb : PE X b (tO X.K ob)) : PE X (.Compare a [.GtE] [b] pos) (tM X.K (mBin fGe oa ob)) := rm_cmp op_ge k_ge ha hb (nomark _)
theorem x_is (hr : Room k X.A) (ha : PE X a (tO X.K oa)) (hb : PE X b (tO X.K ob)) : PE X (.Compare a [.Is] [b] pos) (tM X.K (mBin (fIs false) oa ob)) := rm_cmp op_is1 (k_is false) ha hb (nomark _)
theorem x_isnot (hr : Room k X.A) (ha : PE X a (tO X.K oa)) (hb : PE X b (tO X.K ob)) : PE X (.Compare a [.IsNot] [b] pos) (tM X.K (mBin (fIs true) oa ob)) := rm_cmp op_is2 (k_is true) ha hb (nomark _)
theorem y_eq (hr : Room k X.A) (ha : PE X a (tO X.K oa)) (hb : PE X b (tO X.K ob)) : PT X (.Compare a [.Eq] [b] pos) (tT X.K (cM (mBin fEq oa ob))) := rt_cmp (o_eq (hu64 hr)) k_eq ha hb (nomark _)
theorem y_ne (hr : Room k X.A) (ha : PE X a (tO X.K oa)) (hb : PE X b (tO X.K ob)) : PT X (.Compare a [.NotEq] [b] pos) (tT X.K (cM (mBin fNe oa ob))) := rt_cmp (o_ne (hu64 hr)) k_ne ha hb (nomark _)
theorem y_lt (hr : Room k X.A) (ha : PE X a (tO X.K oa)) (hb : PE X b (tO X.K ob)) : PT X (.Compare a [.Lt] [b] pos) (tT X.K (cM (mBin fLt oa ob))) := rt_cmp op_lt k_lt ha hb (nomark _)
theorem y_le (hr : Room k X.A) (ha : PE X a (tO X.K oa)) (hb : PE X b (tO X.K ob)) : PT X (.Compare a [.LtE] [b] pos) (tT X.K (cM (mBin fLe oa ob))) := rt_cmp op_le k_le ha hb (nomark _)
theorem y_gt (hr : Room k X.A) (ha : PE X a (tO X.K oa)) (hb : PE X b (tO X.K ob)) : PT X (.Compare a [.Gt] [b] pos) (tT X.K (cM (mBin fGt oa ob))) := rt_cmp op_gt k_gt ha hb (nomark _)
theorem y_ge (hr : Room k X.A) (ha : PE X a (tO X.K oa)) (hb : PE X b (tO X.K ob)) : PT X (.Compare a [.GtE] [b] pos) (tT X.K (cM (mBin fGe oa ob))) := rt_cmp op_ge k_ge ha hb (nomark _)
theorem y_is (hr : Room k X.A) (ha : PE X a (tO X.K oa)) (hb : PE X b (tO X.K ob)) : PT X (.Compare a [.Is] [b] pos) (tT X.K (cM (mBin (fIs false) oa ob))) := rt_cmp op_is1 (k_is false) ha hb (nomark _)
theorem y_isnot (hr : Room k X.A) (ha : PE X a (tO X.K oa)) (hb : PE X b (tO X.K ob)) : PT X (.Compare a [.IsNot] [b] pos) (tT X.K (cM (mBin (fIs true) oa ob))) := rt_cmp op_is2 (k_is true) ha hb (nomark _)
/-- names -/
theorem v_var (i : Nat) {x : Str} (hN : X.N[i]? = some x := by rfl) (hv : Vis X.env.scope x := by first | exact Or.inl rfl | exact Or.inr (Or.inl rfl) | exact Or.inr (Or.inr rfl)) (hd : (x == ("__debug__" : Str)) = false := by decide) (hcd : (x == ("__classdict__" : Str)) = false := by decide) : PE X (.Name x pos) (tV X.K (vVar i)) := rv_var (pe_var hN hv hd hcd)
theorem o_var (i : Nat) {x : Str} (hN : X.N[i]? = some x := by rfl) (hv : Vis X.env.scope x := by first | exact Or.inl rfl | exact Or.inr (Or.inl rfl) | exact Or.inr (Or.inr rfl)) (hd : (x == ("__debug__" : Str)) = false := by decide) (hcd : (x == ("__classdict__" : Str)) = false := by decide) : PE X (.Name x pos) (tO X.K (oVar i)) := ro_var (pe_var hN hv hd hcd)
theorem v_int {n : Int} {j} : PE X (.Constant (.int n) j pos) (tV X.K (vK (.int n))) := rv_c pe_int fun _ => rfl
theorem v_bl {n : Bool} {j} : PE X (.Constant (.bool n) j pos) (tV X.K (vK (.bl n))) := rv_c pe_bl fun _ => rfl
theorem v_non {j} : PE X (.Constant .none j pos) (tV X.K (vK .non)) := rv_c pe_non fun _ => rfl
theorem v_str {x : Str} {j} (l : List Nat) (h : x = ⟨l.toArray⟩ := by decide +kernel) : PE X (.Constant (.str x) j pos) (tV X.K (vK (.str l))) := rv_c pe_str fun _ => congrArg V.str h
/-- a, b, c = x, y, z -/
def sPar3 (i j l : Nat) (m : VEs) : MS := fun σ => match m σ with
  | some ([d, e, f], σ1) => match putR i (.v d) σ1 with
    | some σ2 => match putR j (.v e) σ2 with
      | some σ3 => match putR l (.v f) σ3 with
        | some σ4 => some (.nx σ4)
        | none => none
      | none => none
    | none => none
  | _ => none
theorem rs_par3 {i j l : Nat} {m : VEs} {st : Stmt} (h : PS X st (tPar3 i j l (tVs X.K m))) : PS X st (tS X.K (sPar3 i j l m)) := h.weak fun D σv H q => by
  obtain ⟨F, B, G, σ, o, r, em, k⟩ := q
  unfold sPar3 at em
  split at em
  · rename_i d e' f σ1 e1
    split at em
    · rename_i σ2 e2
      split at em
      · rename_i σ3 e3
        split at em
        · rename_i σ4 e4
          cases em
          refine ⟨F, B, G, σ, _, σ1, r, e1, fun vs G1 H1 r1 s1 p1 => ?_⟩
          obtain ⟨v, w1, rfl, h1, w, w2, rfl, h2, u, w3, rfl, h3, h4⟩ := p1
          have h4 : w3 = [] := h4
          subst h4
          exact ⟨v, w, u, rfl, k _ G1 H1 (putR_ok (r := .v f) (putR_ok (r := .v e') (putR_ok (r := .v d) r1 h1 e2) h2 e3) h3 e4) s1⟩
        · cases em
      · cases em
    · cases em
  · cases em
/-! ### slices -/
abbrev PE' := List Sl → Option (Option Int × List Sl)
def tP (K : PySem.W.Frag) (m : PE') : TO := fun σv H Q => ∃ F B G σ o σ', Rel K F B G σ σv H ∧ m σ = some (o, σ') ∧ ∀ G' H', Rel K F B G' σ' σv H' → Same G G' → Q o H'
def pNo : PE' := fun σ => some (none, σ)
def pYes (o : OE) : PE' := fun σ => match o σ with
  | some (.d (.int i), σ1) => some (some i, σ1)
  | _ => none
theorem rp_no : PO X none (tP X.K pNo) := ⟨fun pins s σv H Q I q => po_none.run pins s σv H Q I (by
  obtain ⟨F, B, G, σ, o, σ', r, em, k⟩ := q
  cases em
  exact k G H r (Same.refl G))⟩
theorem rp_yes {o : OE} (h : PE X e (tO X.K o)) : PO X (some e) (tP X.K (pYes o)) := ⟨fun pins s σv H Q I q => (po_some h).run pins s σv H Q I (by
  obtain ⟨F, B, G, σ, o, σ', r, em, k⟩ := q
  unfold pYes at em
  split at em
  · rename_i i σ1 e1
    cases em
    refine ⟨F, B, G, σ, _, _, r, e1, fun v G1 H1 r1 s1 p1 => ?_⟩
    exact ⟨i, p1, k G1 H1 r1 s1⟩
  · cases em)⟩
def cutD {α : Type} (xs : List α) (lo hi : Option Int) : List α := (xs.drop (HT.sIx xs.length 0 lo)).take (HT.sIx xs.length xs.length hi - HT.sIx xs.length 0 lo)
theorem cut_rep {K : PySem.W.Frag} {G : Hp} {ds : List D} {vs : List V} {lo hi : Option Int} (h : RepL K G ds vs) : RepL K G (cutD ds lo hi) (cutV vs lo hi) := by
  unfold cutD cutV
  rw [h.length]
  exact (h.drop _).take _
abbrev RSl := V → Option Int → Option Int → Hp → VK → Prop
def SlOk (K : PySem.W.Frag) (f : D → Option Int → Option Int → Option R) (r : RSl) : Prop := ∀ (F : Hp) (B : List (Nat × V)) (G H : Hp) (σ : List Sl) (σv : L2.St) (d : D) (lo hi : Option Int) (res : R) (x : V) (Q : VK),
  Rel K F B G σ σv H → RepE K G H d x → f d lo hi = some res → (∀ v G' H', Rel K F B G' σ σv H' → Same G G' → ResOk K F G' H' σ σv res v → Q v H') → r x lo hi H Q
def mSl (f : D → Option Int → Option Int → Option R) (o : OE) (l h : PE') : ME := fun σ => match o σ with
  | some (op, σ1) => match l σ1 with
    | some (lo, σ2) => match h σ2 with
      | some (hi, σ3) => match deref σ3 op with
        | some d => match f d lo hi with
          | some r => some (r, σ3)
          | none => none
        | none => none
      | none => none
    | none => none
  | none => none
theorem sl_core {K : PySem.W.Frag} {f : D → Option Int → Option Int → Option R} {r : RSl} (ok : SlOk K f r) {o : OE} {l h : PE'} : ∀ σv H Q, tM K (mSl f o l h) σv H Q → tSl r (tO K o) (tP K l) (tP K h) σv H Q := by
  intro σv H Q q
  obtain ⟨F, B, G, σ, res, σ', rel, em, k⟩ := q
  unfold mSl at em
  split at em
  · rename_i op σ1 e1
    split at em
    · rename_i lo σ2 e2
      split at em
      · rename_i hi σ3 e3
        split at em
        · rename_i d e4
          split at em
          · rename_i r' e5
            cases em
            exact ⟨F, B, G, σ, op, σ1, rel, e1, fun x G1 H1 r1 s1 p1 => ⟨F, B, G1, σ1, lo, σ2, r1, e2, fun G2 H2 r2 s2 => ⟨F, B, G2, σ2, hi, _, r2, e3, fun G3 H3 r3 s3 =>
              ok F B G3 H3 _ σv d lo hi _ x Q r3 (deref_ok r3 (p1.mono (s2.trans s3)) e4) e5 fun v G4 H4 r4 s4 p4 => k v G4 H4 r4 (((s1.trans s2).trans s3).trans s4) p4⟩⟩⟩
          · cases em
        · cases em
      · cases em
    · cases em
  · cases em
def fSlL : D → Option Int → Option Int → Option R
  | .lst xs, lo, hi => some (.n (.lst (cutD xs lo hi)))
  | _, _, _ => none
def fSlS : D → Option Int → Option Int → Option R
  | .str x, lo, hi => bif szOk x.length then some (.v (.str (cutD x lo hi))) else none
  | _, _, _ => none
def fSlT : D → Option Int → Option Int → Option R
  | .tup xs, lo, hi => bif Nat.beq (HT.sIx xs.length 0 lo) 0 && Nat.beq (HT.sIx xs.length xs.length hi) xs.length then none else some (.v (.tup (cutD xs lo hi)))
  | _, _, _ => none
def slOr (f g : D → Option Int → Option Int → Option R) : D → Option Int → Option Int → Option R := fun d lo hi => match f d lo hi with
  | some r => some r
  | none => g d lo hi
theorem SlOk.or {K : PySem.W.Frag} {f g : D → Option Int → Option Int → Option R} {r r' : RSl} (h : SlOk K f r) (h' : SlOk K g r') : SlOk K (slOr f g) (fun x lo hi H Q => r x lo hi H Q ∨ r' x lo hi H Q) := fun F B G H σ σv d lo hi res x Q rel hd e k => by
  unfold slOr at e
  split at e
  · rename_i q
    cases e
    exact .inl (h F B G H σ σv d lo hi _ x Q rel hd q k)
  · exact .inr (h' F B G H σ σv d lo hi res x Q rel hd e k)
theorem ok_slL {K : PySem.W.Frag} : SlOk K fSlL (rSlL K) := by
  intro F B G H σ σv d lo hi res x Q rel hd e k
  unfold fSlL at e
  split at e
  · cases e
    obtain ⟨a, vs, rfl, h1, h2⟩ := hd
    exact ⟨a, vs, rfl, .inl h1, fun p hp => k _ G _ (rel.made hp) (Same.refl G) (rel.res_n hp (cut_rep h2))⟩
  · cases e
theorem ok_slS {K : PySem.W.Frag} : SlOk K fSlS rSlS := by
  intro F B G H σ σv d lo hi res x Q rel hd e k
  unfold fSlS at e
  split at e
  · rename_i xs
    cases hz : szOk xs.length with
    | false => rw [hz] at e; cases e
    | true =>
      rw [hz] at e; cases e
      have hd : x = .str ⟨xs.toArray⟩ := hd
      subst hd
      have hl : (⟨xs.toArray⟩ : Str).length = xs.length := by simp [Str.length]
      refine ⟨_, rfl, by rw [hl]; exact szOk_le hz, ?_⟩
      have hc : cutS ⟨xs.toArray⟩ lo hi = ⟨(cutD xs lo hi).toArray⟩ := by
        unfold cutS cutD
        rw [hl]
      rw [hc]
      exact done rel rfl k
  · cases e
theorem ok_slT {K : PySem.W.Frag} : SlOk K fSlT (rSlT K) := by
  intro F B G H σ σv d lo hi res x Q rel hd e k
  unfold fSlT at e
  split at e
  · rename_i xs
    cases hb : (Nat.beq (HT.sIx xs.length 0 lo) 0 && Nat.beq (HT.sIx xs.length xs.length hi) xs.length) with
    | true => rw [hb] at e; cases e
    | false =>
      rw [hb] at e; cases e
      obtain ⟨a, vs, rfl, h1, h2⟩ := hd
      refine ⟨a, vs, rfl, same_t rel.gh h1, fun z => ?_, fun p hp => k _ _ _ (rel.laid hp) (same_new (rel.fresh hp).1) (rel.res_t hp (cut_rep h2))⟩
      rw [← h2.length] at z
      rw [z.1, z.2, Nat.beq_refl, Nat.beq_refl] at hb
      cases hb
  · cases e
def fSl := slOr fSlL (slOr fSlS fSlT)
def rSlA (K : PySem.W.Frag) : RSl := fun x lo hi H Q => rSlL K x lo hi H Q ∨ rSlS x lo hi H Q ∨ rSlT K x lo hi H Q
theorem x_sl {lo hi : Option Expr} {p2 : Pos} {o : OE} {l h : PE'} (ha : PE X a (tO X.K o)) (hl : PO X lo (tP X.K l)) (hh : PO X hi (tP X.K h)) : PE X (.Subscript a (.Slice lo hi none p2) pos) (tM X.K (mSl fSl o l h)) :=
  (pe_slice (r := rSlA X.K) (sl_list.or (sl_str.or sl_tup)) ha hl hh).weak (sl_core (ok_slL.or (ok_slS.or ok_slT)))
end
end Mi

set_option Elab.async false
set_option linter.all false
set_option maxRecDepth 100000
set_option maxHeartbeats 1000000
/-! Mi, part 10: globals; lists, tuples and texts walked; enumerate; stores. -/
namespace Mi
open PySem PySem.Spec PyProof.Rows L2

/-- a module's constant -/
def GlobD (K : PySem.W.Frag) (u : Option Value) (d : D) : Prop := ∃ v x, u = some x ∧ RelV v x ∧ ∀ G, Rep K G d v
section
variable {X : Cx} {tg e : Expr} {pos : Pos} {k : Nat}
theorem x_glob {x : Str} {d : D} (h : GlobD X.K (X.mg x) d) (hg : Gl X x) (hd : (x == ("__debug__" : Str)) = false := by decide) : PE X (.Name x pos) (tV X.K (vK d)) := by
  obtain ⟨v, u, h1, h2, h3⟩ := h
  exact rv_c (pe_glob hg h1 h2 hd) h3
theorem globD_int {K : PySem.W.Frag} {i : Int} {t : Tok} {u : Option Value} (h : u = some (.int i t)) : GlobD K u (.int i) := ⟨.int i, _, h, ⟨t, rfl⟩, fun _ => rfl⟩
theorem globD_str {K : PySem.W.Frag} {x : Str} {l : List Nat} {t : Tok} {u : Option Value} (h : u = some (.str x t)) (e : x = ⟨l.toArray⟩) : GlobD K u (.str l) := ⟨.str x, _, h, ⟨t, rfl⟩, fun _ => congrArg V.str e⟩
/-- a tuple of values without the heap -/
def flatIs : List D → List Value → Prop
  | [], us => us = []
  | d :: ds, us => ∃ u r v, us = u :: r ∧ scalD d = some v ∧ RelV v u ∧ flatIs ds r
theorem globD_tup {K : PySem.W.Frag} {a : Addr} {u : Option Value} {o : Obj} {its : Array Value} {n : Nat} {ds : List D} (h : u = some (.ref a)) (hk : K.lookup a = some o) (hc : o.cls = .type "tuple") (hd : o.data = .seq its n) (hz : its.size ≤ sizeLine) (hf : flatIs ds its.toList) : GlobD K u (.tup ds) := by
  have key : ∀ (ds : List D) (us : List Value), flatIs ds us → ∃ vs, Vals vs us ∧ ∀ G, RepL K G ds vs := by
    intro ds
    induction ds with
    | nil => intro us h; have h : us = [] := h; subst h; exact ⟨[], .nil, fun _ => rfl⟩
    | cons d ds ih =>
      intro us h
      obtain ⟨u, r, v, rfl, h1, h2, h3⟩ := h
      obtain ⟨vs, q1, q2⟩ := ih r h3
      exact ⟨v :: vs, .cons h2 q1, fun G => .cons (scal_rep h1) (q2 G)⟩
  obtain ⟨vs, q1, q2⟩ := key ds _ hf
  exact ⟨.ref a, _, h, rfl, fun G => ⟨a, vs, rfl, .inr ⟨o, its, n, hk, hc, hd, hz, q1⟩, q2 G⟩⟩

/-! ### lists, tuples, texts -/
def rSq (K : PySem.W.Frag) (te : TE) : TI := fun σ H R => te σ H fun x H1 => (∃ a xs, x = .ref a ∧ SqL K H1 a xs ∧ R (Itl K a) H1) ∨ (∃ a xs, x = .ref a ∧ SqT K H1 a xs ∧ R (Itt K a) H1) ∨ ∃ z, x = .str z ∧ R (Its z) H1
theorem pi_seq {te : TE} (h : PE X e te) : PI X tg e (rSq X.K te) := ⟨fun pins s0 σ H R I q => thn (h.run pins s0 σ H _ I q) fun u s1 hu => by
  obtain ⟨x, H1, I1, rx, q1⟩ := hu
  have one : ∀ {it : Addr} {o : Obj} {t' : Nat}, it = s1.heap.objs.size → FpOk X pins H1 it := fun e => by rw [e]; exact I1.fpOk (Nat.le_refl _) I1.fresh
  rcases q1 with ⟨a, xs, ex, hx, q1⟩ | ⟨a, xs, ex, hx, q1⟩ | ⟨z, ex, q1⟩
  · subst ex
    cases rx
    obtain ⟨its, rv, pl, _⟩ := I1.list hx
    refine wpAny_pyIter_list pl.isList ⟨_, [s1.heap.objs.size], _, _, H1, rfl, I1.kept (t' := s1.toks) fun b o h => Heap.get?_push_of_some _ h, turn_list a _, ⟨_, Heap.get?_push_size _ rfl, rfl, rfl⟩, fun b hb => ?_, q1⟩
    rw [List.mem_singleton] at hb
    exact one (o := default) (t' := 0) hb
  · subst ex
    cases rx
    obtain ⟨its, rv, pl, _⟩ := I1.tuple hx
    refine wpAny_pyIter_tuple (show s1.heap.IsTuple a its.toArray from pl) ⟨_, [s1.heap.objs.size], _, _, H1, rfl, I1.kept (t' := s1.toks) fun b o h => Heap.get?_push_of_some _ h, turn_tuple a _, ⟨_, Heap.get?_push_size _ rfl, rfl, rfl⟩, fun b hb => ?_, q1⟩
    rw [List.mem_singleton] at hb
    exact one (o := default) (t' := 0) hb
  · subst ex
    obtain ⟨t, rfl⟩ := rx
    cases ha : z.cps.all (· < 128) with
    | false => exact wpAny_pyIter_wide ha (pi_one (tk := s1.toks) I1 _ (turn_str _ z t _ (Or.inr rfl)) ⟨_, Heap.get?_push_size _ rfl, rfl, rfl⟩ q1)
    | true => exact wpAny_pyIter_ascii ha (pi_one (tk := s1.toks) I1 _ (turn_str _ z t _ (Or.inl rfl)) ⟨_, Heap.get?_push_size _ rfl, rfl, rfl⟩ q1)⟩
theorem walks_s {K : PySem.W.Frag} {G : Hp} (l : List Nat) : Walks K G (Its ⟨l.toArray⟩) (l.map fun c => D.str [c]) := by
  refine ⟨fun i d hd F B G1 σ σv H s1 r => ?_, fun F B G1 σ σv H s1 r => ?_⟩
  · rw [List.getElem?_map] at hd
    cases q : l[i]? with
    | none => rw [q] at hd; cases hd
    | some c =>
      rw [q] at hd; cases hd
      have hi := (List.getElem?_eq_some_iff.mp q).1
      refine ⟨by show i < l.toArray.size; simpa using hi, fun x H' y => ?_⟩
      obtain ⟨rfl, c', h1, rfl⟩ := y
      have e : c' = c := by
        have h1 : l.toArray[i]? = some c' := h1
        rw [List.getElem?_toArray, q] at h1
        cases h1; rfl
      subst e
      exact ⟨G1, Same.refl _, r, rfl⟩
  · show l.toArray.size ≤ (l.map fun c => D.str [c]).length
    simp
def iSq (m : VE) : IE := fun σ => match m σ with
  | some (.lst ds, σ1) => some (ds, σ1)
  | some (.tup ds, σ1) => some (ds, σ1)
  | some (.str l, σ1) => some (l.map (fun c => D.str [c]), σ1)
  | _ => none
theorem ri_seq {m : VE} (h : PE X e (tV X.K m)) : PI X tg e (tI X.K (iSq m)) := (pi_seq h).weak fun σv H R q => by
  obtain ⟨F, B, G, σ, ds, σ', r, em, k⟩ := q
  unfold iSq at em
  split at em
  · rename_i ds' σ1 e1
    cases em
    refine ⟨F, B, G, σ, _, _, r, e1, fun v G1 H1 r1 s1 p1 => ?_⟩
    obtain ⟨a, vs, rfl, h1, h2⟩ := id p1
    exact .inl ⟨a, vs, rfl, .inl (same_rd r1.gh h1), k _ G1 H1 r1 s1 (walks_l p1)⟩
  · rename_i ds' σ1 e1
    cases em
    refine ⟨F, B, G, σ, _, _, r, e1, fun v G1 H1 r1 s1 p1 => ?_⟩
    obtain ⟨a, vs, rfl, h1, h2⟩ := id p1
    exact .inr (.inl ⟨a, vs, rfl, same_t r1.gh h1, k _ G1 H1 r1 s1 (walks_t p1)⟩)
  · rename_i l σ1 e1
    cases em
    refine ⟨F, B, G, σ, _, _, r, e1, fun v G1 H1 r1 s1 p1 => ?_⟩
    exact .inr (.inr ⟨_, p1, k _ G1 H1 r1 s1 (walks_s l)⟩)
  · cases em
/-! ### enumerate of a list -/
def enL : Int → List D → List D
  | _, [] => []
  | i, d :: ds => .tup [.int i, d] :: enL (i + 1) ds
theorem enL_len : ∀ (ds : List D) (i : Int), (enL i ds).length = ds.length
  | [], _ => rfl
  | d :: ds, i => by show (enL (i + 1) ds).length + 1 = ds.length + 1; rw [enL_len ds]
theorem enL_get : ∀ (ds : List D) (i : Int) (j : Nat) (x : D), (enL i ds)[j]? = some x → ∃ d, ds[j]? = some d ∧ x = .tup [.int (i + j), d]
  | [], i, j, x, h => by simp [enL] at h
  | d :: ds, i, 0, x, h => by
    have e : D.tup [.int i, d] = x := by simpa [enL] using h
    subst e
    exact ⟨d, rfl, by simp⟩
  | d :: ds, i, j + 1, x, h => by
    obtain ⟨d', h1, h2⟩ := enL_get ds (i + 1) j x (by simpa [enL] using h)
    refine ⟨d', by simpa using h1, ?_⟩
    rw [h2]
    congr 3
    omega
theorem walks_e {K : PySem.W.Frag} {G : Hp} {ds : List D} {a : Addr} (h : Rep K G (.lst ds) (.ref a)) : Walks K G (Ite K a) (enL 0 ds) := by
  obtain ⟨a', vs, e, h1, h2⟩ := h
  cases e
  refine ⟨fun i d hd F B G1 σ σv H s1 r => ?_, fun F B G1 σ σv H s1 r => ?_⟩
  · have hs : SqL K H a vs := .inl (same_rd (s1.trans r.gh) h1)
    obtain ⟨d', hd', rfl⟩ := enL_get ds 0 i d hd
    obtain ⟨v, hv, hr⟩ := h2.get hd'
    refine ⟨⟨vs, v, hs, hv⟩, fun x H' y => ?_⟩
    obtain ⟨T, w, rfl, hT, rfl, y⟩ := y
    have q := y vs hs
    rw [hv] at q; cases q
    have z := r.res_t (xs := [.int (0 + (i : Nat)), d']) (vs := [.int (i : Nat), v]) hT (.cons (by show V.int (i : Nat) = V.int (0 + (i : Nat)); congr 1; omega) (.cons (hr.mono s1) .nil))
    exact ⟨_, same_new (r.fresh hT).1, r.laid hT, z⟩
  · exact ⟨vs, .inl (same_rd (s1.trans r.gh) h1), by rw [enL_len, h2.length]; exact Nat.le_refl _⟩
def iEnL (m : VE) : IE := fun σ => match m σ with
  | some (.lst ds, σ1) => some (enL 0 ds, σ1)
  | _ => none
theorem ri_enum {elts : List Expr} {kk : Nat} {tpos p : Pos} {m : VE} (hg : Gl X "enumerate") (hm : X.mg "enumerate" = none) (h : PE X e (tV X.K m)) (hs : starEach [e] X.env = [(false, eval e X.env)] := by rfl) :
    PI X (.Tuple elts kk tpos) (.Call (.Name "enumerate" p) [e] [] pos) (tI X.K (iEnL m)) := (pi_enum hg hm (pa_cons h pa_nil (by exact hs)) hs).weak fun σv H R q => by
  obtain ⟨F, B, G, σ, ds, σ', r, em, k⟩ := q
  unfold iEnL at em
  split at em
  · rename_i ds' σ1 e1
    cases em
    refine ⟨F, B, G, σ, _, _, r, e1, fun v G1 H1 r1 s1 p1 => ?_⟩
    obtain ⟨a, vs, rfl, h1, h2⟩ := id p1
    exact ⟨a, vs, rfl, .inl (same_rd r1.gh h1), k _ G1 H1 r1 s1 (walks_e p1)⟩
  · cases em
/-! ### a[i] = v of a list or a dict -/
end
section
variable {K : PySem.W.Frag}
def sOr (f g : D → D → D → Option D) : D → D → D → Option D := fun a b c => match f a b c with
  | some r => some r
  | none => g a b c
theorem SetOk.or {f g : D → D → D → Option D} {t t' : TSet} (h : SetOk K f t) (h' : SetOk K g t') : SetOk K (sOr f g) (fun o i v H Q => t o i v H Q ∨ t' o i v H Q) := fun F B G H σ σv i d d' di dv l a y v Q rel hs ha hy hv e k => by
  unfold sOr at e
  split at e
  · rename_i q
    cases e
    exact .inl (h F B G H σ σv i d _ di dv l a y v Q rel hs ha hy hv q k)
  · exact .inr (h' F B G H σ σv i d d' di dv l a y v Q rel hs ha hy hv e k)
theorem PSet.or {X : Cx} {t t' : TSet} (h : PSet X t) (h' : PSet X t') : PSet X (fun o i v H Q => t o i v H Q ∨ t' o i v H Q) := fun pins s σ H o i v ov iv u Q I ro ri rv q => by
  rcases q with q | q
  · exact h pins s σ H o i v ov iv u Q I ro ri rv q
  · exact h' pins s σ H o i v ov iv u Q I ro ri rv q
def rSetD : TSet := fun o i v H Q => ∃ a H', o = .ref a ∧ DPut H a i v H' ∧ Q H'
theorem set_dict {X : Cx} (hu : X.A.units + 1 < cLine) : PSet X rSetD := fun pins s σ H o i v ov iv u Q I ro ri rv h => by
  obtain ⟨a, H', e, g, q⟩ := h
  subst e
  cases ro
  exact d_setItem hu I g ri rv fun s' I' => ⟨H', I', q⟩
theorem dHas_ok {d : D} {k : Key} (h : toKey d = some k) : ∀ kvs : List (Key × V), dHas (kvs.map (fun p => keyD p.1)) d = kvs.any fun kv => decide (kv.1 = k)
  | [] => rfl
  | p :: kvs => by
    show (bif keyEq (keyD p.1) d then true else dHas (kvs.map (fun p => keyD p.1)) d) = _
    rw [keyEq_ok h, List.any_cons, dHas_ok h kvs]
    cases decide (p.1 = k) <;> rfl
theorem dRepl_ok {G : Hp} {d x : D} {k : Key} {v : V} (hk : toKey d = some k) (hx : Rep K G x v) : ∀ {kvs : List (Key × V)} {vs : List D}, RepL K G vs (kvs.map (·.2)) →
    RepL K G (dRepl (kvs.map (fun p => keyD p.1)) vs d x) ((kvs.map fun kv => if kv.1 = k then (kv.1, v) else kv).map (·.2))
  | [], vs, r => by
    cases vs with
    | nil => exact rfl
    | cons _ _ => obtain ⟨_, _, e, _⟩ := r; cases e
  | p :: kvs, vs, r => by
    cases vs with
    | nil => cases (show (p :: kvs).map (·.2) = [] from r)
    | cons y vs =>
      obtain ⟨w, q, e, r1, r2⟩ := r
      have e1 : p.2 = w := (List.cons.inj e).1
      have e2 : kvs.map (·.2) = q := (List.cons.inj e).2
      subst e1 e2
      refine ⟨_, _, rfl, ?_, dRepl_ok hk hx r2⟩
      rw [keyEq_ok hk]
      show Rep K G _ (if p.1 = k then (p.1, v) else p).2
      by_cases c : p.1 = k
      · rw [decide_eq_true c, if_pos c]; exact hx
      · rw [decide_eq_false c, if_neg c]; exact r1
theorem toKey_v {G H : Hp} {d : D} {k : Key} {y : V} (hk : toKey d = some k) (h : RepE K G H d y) : y = kV k := by
  cases d with
  | int i => cases hk; exact h
  | str i => cases hk; exact h
  | _ => cases hk
theorem k_setD : SetOk K fSetD rSetD := by
  intro F B G H σ σv i d d' di dv l a y v Q rel hs ha hy hv e k
  unfold fSetD at e
  split at e
  · rename_i ks vs
    split at e
    · rename_i key hk
      obtain ⟨a', h0, h1, h2, kvs, h4, rfl, h6⟩ := rel.ow i _ _ hs
      rw [ha] at h0; cases h0
      have hy := toKey_v hk hy
      subst hy
      cases hz : Nat.ble (kvs.map fun p => keyD p.1).length 16000000 with
      | false => rw [hz] at e; cases e
      | true =>
        rw [hz] at e
        simp only [cond_true] at e
        have hz := Nat.le_of_ble_eq_true hz
        rw [List.length_map] at hz
        have hput : DPut H a (kV key) v (upd H a (.dK (putK kvs key v))) := .inl ⟨kvs, key, h4, rfl, by rw [sizeLine_eq]; omega, rfl⟩
        rw [dHas_ok hk] at e
        cases hh : (kvs.any fun kv => decide (kv.1 = key)) with
        | true =>
          rw [hh] at e; cases e
          have ep : putK kvs key v = kvs.map fun kv => if kv.1 = key then (kv.1, v) else kv := by
            unfold putK
            rw [if_pos hh]
          refine ⟨a, _, rfl, hput, k _ ?_⟩
          rw [ep]
          refine rel.write hs ha fun H' e => ⟨_, e, ?_, dRepl_ok hk hv h6⟩
          rw [List.map_map]
          refine List.map_congr_left fun kv _ => ?_
          show keyD kv.1 = keyD (if kv.1 = key then (kv.1, v) else kv).1
          split <;> rfl
        | false =>
          rw [hh] at e; cases e
          have hv0 : valV kvs key = none := by
            rw [valV_any] at hh
            cases q : valV kvs key with
            | none => rfl
            | some _ => rw [q] at hh; cases hh
          refine ⟨a, _, rfl, hput, k _ ?_⟩
          rw [putK_new v hv0]
          refine rel.write hs ha fun H' e => ⟨_, e, ?_, ?_⟩
          · rw [List.map_append]
            show _ = _ ++ [keyD key]
            rw [(keyD_to hk).1]
          · rw [List.map_append]
            exact h6.append (.cons hv .nil)
    · cases e
  · cases e
def fSet := sOr fSetL fSetD
def rSetA : TSet := fun o i v H Q => rSetL o i v H Q ∨ rSetD o i v H Q
theorem o_set {X : Cx} {n : Nat} (hr : Room n X.A) : PSet X rSetA := PSet.or set_list (set_dict (hu1 hr))
theorem k_set : SetOk K fSet rSetA := SetOk.or k_setL k_setD
end
end Mi

set_option Elab.async false
set_option linter.all false
set_option maxRecDepth 100000
set_option maxHeartbeats 2000000
/-! Mi, part 11: zip of two rows, told strict or not, rows lists or tuples. -/
namespace Mi
open PySem PySem.Spec PyProof.Rows L2
open PySem.Sem (wp)

/-- a zip told strict -/
abbrev ZipS (h : Heap) (z T U : Addr) (f : Value) : Prop :=
  h.get? z = some { cls := .type "zip", dict := none, data := .fields #[f, .bool false, .bool true, .ref T, .ref U], slots := #[] }

section
variable {prog : Program} {w : World} {A : Around} {E : Value → Shared → Prop} {s : Shared}
variable {z T U i1 i2 : Addr} {fp1 fp2 : List Addr} {n1 n2 i : Nat} {P1 P2 : Nat → Value → Prop} {St1 St2 : Nat → Heap → Prop} {a1 a2 : Value}

theorem noe_item {it : Addr} {fp : List Addr} {n : Nat} {P : Nat → Value → Prop} {St : Nat → Heap → Prop} {Q : Option Value → Shared → Prop} (D : Draws prog w A it fp n P St) (hlt : i < n) (st : St i s.heap)
    (q : ∀ x g tk, P i x → St (i + 1) g → Heap.SameBut it s.heap g → Q (some x) { s with heap := g, toks := tk }) :
    wpAny (model prog w) A (Builtin.SmallTypes.nextOrEnd (.ref it)) Q E s := by
  unfold Builtin.SmallTypes.nextOrEnd
  exact wpAny_bind (wpAny_attempt (D.item i s _ _ hlt st fun x g tk p1 p2 p3 => wpAny_pure (q x g tk p1 p2 p3)))

theorem noe_end {it : Addr} {fp : List Addr} {n : Nat} {P : Nat → Value → Prop} {St : Nat → Heap → Prop} {Q : Option Value → Shared → Prop} (D : Draws prog w A it fp n P St) (st : St n s.heap)
    (q : ∀ g, Heap.ExtBut it s.heap g → Q none { s with heap := g }) :
    wpAny (model prog w) A (Builtin.SmallTypes.nextOrEnd (.ref it)) Q E s := by
  unfold Builtin.SmallTypes.nextOrEnd
  refine wpAny_bind (wpAny_attempt (D.done s _ _ st fun g e p1 p2 => ?_))
  obtain ⟨o, ho, hc⟩ := p2
  refine wpAny_bind (wpAny_isInstance (T := "StopIteration") (b := true) ⟨o, ho, hc⟩ isSubtype_stop ?_); exact wpAny_pure (q g p1)

theorem zs_item {Q : Value → Shared → Prop} (S : ZipSep2 z T U i1 i2 fp1 fp2) (D1 : Draws prog w A i1 fp1 n1 P1 St1) (D2 : Draws prog w A i2 fp2 n2 P2 St2)
    (hz : ZipS s.heap z T U .none) (hT : IsTupOf2 s.heap T (.ref i1) (.ref i2)) (hU : IsTupOf2 s.heap U a1 a2) (t1 : St1 i s.heap) (t2 : St2 i s.heap) (l1 : i < n1) (l2 : i < n2)
    (q : ∀ x y g tk, P1 i x → P2 i y → ZipS g z T U (rawInt s.heap.objs.size) → IsTupOf2 g U x y → St1 (i + 1) g → St2 (i + 1) g → IsTupOf2 g s.heap.objs.size x y → g.objs.size = s.heap.objs.size + 1 →
      (∀ c o, c ≠ z → c ≠ U → c ≠ i1 → c ≠ i2 → s.heap.get? c = some o → g.get? c = some o) → Q (.ref s.heap.objs.size) { s with heap := g, toks := tk }) :
    wpAny (model prog w) A (Builtin.«zip.__next__» ⟨[.ref z], []⟩) (fun fin r => ∃ v, fin = .done (.ret v) ∧ Q v r) E s := by
  obtain ⟨hp, ge, de, tk0, os⟩ := s
  show wpAny _ _ (field (.ref z) 2 >>= _) _ _ _; refine wpAny_bind (wpAny_field hz rfl (x := .bool true) rfl ?_)
  show wpAny _ _ (field (.ref z) 3 >>= _) _ _ _; refine wpAny_bind (wpAny_field hz rfl (x := .ref T) rfl ?_)
  refine wpAny_bind (wpAny_seqItems hT rfl ?_); show wpAny _ _ (Builtin.SmallTypes.ownedTupleIsFree (.ref z) >>= _) _ _ _
  unfold Builtin.SmallTypes.ownedTupleIsFree; refine wpAny_bind (wpAny_bind (wpAny_field hz rfl (x := .none) rfl (wpAny_pure ?_)))
  simp only [if_true]
  refine wpAny_bind (wpAny_rule (wpAny_bind (wpAny_field hz rfl (x := .ref U) rfl ?_)))
  refine wpAny_bind (wpAny_setField_rec hz (by simp) fun b0 zb0 sb0 => ?_)
  have zb0' : ZipS b0 z T U .ellipsis := zb0
  have sb0' : Heap.SameBut z hp b0 := sb0
  clear zb0 sb0
  simp only [List.zipIdx_cons, List.zipIdx_nil, List.forIn_cons, List.forIn_nil]; refine wpAny_bind (wpAny_bind (wpAny_bind (wpAny_onRaise ?_)))
  show wpAny _ _ (Builtin.SmallTypes.nextOrEnd (.ref i1)) _ _ ⟨b0, ge, de, tk0, os⟩
  refine noe_item D1 l1 (D1.over t1 sb0' S.zf1) fun x b1 tk1 px u1 sb1 => ?_
  have sb1' : Heap.SameBut i1 b0 b1 := sb1
  clear sb1
  have U1 : IsTupOf2 b1 U a1 a2 := sb1'.extBut _ _ S.Ti1 (sb0'.extBut _ _ S.TOz hU)
  refine wpAny_bind (wpAny_seqItems (s := ⟨b1, ge, de, tk1, os⟩) U1 rfl ?_)
  refine wpAny_bind (updateSeq_IsTupOf2 (s := ⟨b1, ge, de, tk1, os⟩) U1 fun b2 U2 sb2 => ?_)
  have U2' : IsTupOf2 b2 U x a2 := U2
  have sb2' : Heap.SameBut U b1 b2 := sb2
  clear U2 sb2
  refine wpAny_bind (wpAny_letGo (wpAny_pure ?_)); refine wpAny_bind (wpAny_bind (wpAny_onRaise ?_))
  show wpAny _ _ (Builtin.SmallTypes.nextOrEnd (.ref i2)) _ _ ⟨b2, ge, de, tk1, os⟩
  refine noe_item D2 l2 (D2.over (D2.over (D2.over t2 sb0' S.zf2) sb1' S.sep1_2) sb2' S.Tf2) fun y b3 tk2 py u2 sb3 => ?_
  have sb3' : Heap.SameBut i2 b2 b3 := sb3
  clear sb3
  have U3 : IsTupOf2 b3 U x a2 := sb3'.extBut _ _ S.Ti2 U2'
  refine wpAny_bind (wpAny_seqItems (s := ⟨b3, ge, de, tk2, os⟩) U3 rfl ?_)
  refine wpAny_bind (updateSeq_IsTupOf2 (s := ⟨b3, ge, de, tk2, os⟩) U3 fun b4 U4 sb4 => ?_)
  have U4' : IsTupOf2 b4 U x y := U4
  have sb4' : Heap.SameBut U b3 b4 := sb4
  clear U4 sb4
  refine wpAny_bind (wpAny_letGo (wpAny_pure (wpAny_pure ?_))); refine wpAny_bind (wpAny_seqItems (s := ⟨b4, ge, de, tk2, os⟩) U4' rfl ?_)
  refine wpAny_bind (wpAny_newTuple ?_)
  have hsz : b4.objs.size = hp.objs.size := by rw [sb4'.1, sb3'.1, sb2'.1, sb1'.1, sb0'.1]
  have z4 : ZipS b4 z T U .ellipsis := sb4'.extBut _ _ S.TOz.symm (sb3'.extBut _ _ S.zi2 (sb2'.extBut _ _ S.TOz.symm (sb1'.extBut _ _ S.zi1 zb0')))
  have kp : ∀ c o, c ≠ z → c ≠ U → c ≠ i1 → c ≠ i2 → hp.get? c = some o → b4.get? c = some o := fun c o c1 c2 c3 c4 e =>
    sb4'.extBut _ _ c2 (sb3'.extBut _ _ c4 (sb2'.extBut _ _ c2 (sb1'.extBut _ _ c3 (sb0'.extBut _ _ c1 e))))
  have v1 : St1 (i + 1) b4 := D1.over (D1.over (D1.over u1 sb2' S.Tf1) sb3' S.sep2_1) sb4' S.Tf1
  have v2 : St2 (i + 1) b4 := D2.over u2 sb4' S.Tf2
  have zlt : z < b4.objs.size := Heap.lt_size z4
  show wpAny _ _ (Builtin.SmallTypes.ownedTupleHandOut (.ref z) (.ref b4.objs.size) >>= _) _ _ ⟨b4.push { cls := .type "tuple", data := .seq #[x, y] }, ge, de, tk2, os⟩
  unfold Builtin.SmallTypes.ownedTupleHandOut; have z5 : ZipS (b4.push { cls := .type "tuple", data := .seq #[x, y] }) z T U .ellipsis := Heap.get?_push_of_some _ z4
  refine wpAny_bind (wpAny_bind (wpAny_setField_rec z5 (by simp) fun b6 z6 sb6 => ?_))
  have z6' : ZipS b6 z T U (rawInt b4.objs.size) := z6
  refine wpAny_setField_rec z6' (by simp) fun b7 z7 sb7 => ?_
  have z7' : ZipS b7 z T U (rawInt b4.objs.size) := z7
  have sb6' : Heap.SameBut z (b4.push { cls := .type "tuple", data := .seq #[x, y] }) b6 := sb6
  have sb7' : Heap.SameBut z b6 b7 := sb7
  have up : ∀ c o, c ≠ z → b4.get? c = some o → b7.get? c = some o := fun c o c1 e => sb7'.extBut _ _ c1 (sb6'.extBut _ _ c1 (Heap.get?_push_of_some _ e))
  have T7 : IsTupOf2 b7 b4.objs.size x y := sb7'.extBut _ _ (Nat.ne_of_gt zlt) (sb6'.extBut _ _ (Nat.ne_of_gt zlt) (Heap.get?_push_size _ rfl))
  have s7 : b7.objs.size = b4.objs.size + 1 := by rw [sb7'.1, sb6'.1, Heap.size_push]
  rw [hsz] at z7' T7 s7
  refine wpAny_pure ⟨_, rfl, ?_⟩; show Q (.ref b4.objs.size) ⟨b7, ge, de, tk2, os⟩
  rw [hsz]
  exact q x y b7 tk2 px py z7' (up _ _ S.TOz U4') (D1.frame _ _ _ v1 fun b hb o e => up b o (fun h => S.zf1 (h ▸ hb)) e) (D2.frame _ _ _ v2 fun b hb o e => up b o (fun h => S.zf2 (h ▸ hb)) e) T7 s7 fun c o c1 c2 c3 c4 e => up c o c1 (kp c o c1 c2 c3 c4 e)

theorem zs_end {Q : Fin → Shared → Prop} (hh : A.handled = none) (S : ZipSep2 z T U i1 i2 fp1 fp2) (D1 : Draws prog w A i1 fp1 n1 P1 St1) (D2 : Draws prog w A i2 fp2 n2 P2 St2)
    (hz : ZipS s.heap z T U .none) (hT : IsTupOf2 s.heap T (.ref i1) (.ref i2)) (t1 : St1 n1 s.heap) (t2 : St2 n2 s.heap)
    (q : ∀ g e, (∀ c o, c ≠ z → c ≠ U → c ≠ i1 → c ≠ i2 → s.heap.get? c = some o → g.get? c = some o) → (∃ o, g.get? e = some o ∧ o.cls = .type "StopIteration") → E (.ref e) { s with heap := g }) :
    wpAny (model prog w) A (Builtin.«zip.__next__» ⟨[.ref z], []⟩) Q E s := by
  obtain ⟨hp, ge, de, tk0, os⟩ := s
  show wpAny _ _ (field (.ref z) 2 >>= _) _ _ _; refine wpAny_bind (wpAny_field hz rfl (x := .bool true) rfl ?_)
  show wpAny _ _ (field (.ref z) 3 >>= _) _ _ _; refine wpAny_bind (wpAny_field hz rfl (x := .ref T) rfl ?_)
  refine wpAny_bind (wpAny_seqItems hT rfl ?_); show wpAny _ _ (Builtin.SmallTypes.ownedTupleIsFree (.ref z) >>= _) _ _ _
  unfold Builtin.SmallTypes.ownedTupleIsFree; refine wpAny_bind (wpAny_bind (wpAny_field hz rfl (x := .none) rfl (wpAny_pure ?_)))
  simp only [if_true]
  refine wpAny_bind (wpAny_rule (wpAny_bind (wpAny_field hz rfl (x := .ref U) rfl ?_)))
  refine wpAny_bind (wpAny_setField_rec hz (by simp) fun b0 zb0 sb0 => ?_)
  have zb0' : ZipS b0 z T U .ellipsis := zb0
  have sb0' : Heap.SameBut z hp b0 := sb0
  clear zb0 sb0
  simp only [List.zipIdx_cons, List.zipIdx_nil, List.forIn_cons, List.forIn_nil]; refine wpAny_bind (wpAny_bind (wpAny_bind (wpAny_onRaise ?_)))
  show wpAny _ _ (Builtin.SmallTypes.nextOrEnd (.ref i1)) _ _ ⟨b0, ge, de, tk0, os⟩
  refine noe_end D1 (D1.over t1 sb0' S.zf1) fun b1 sb1 => ?_
  have sb1' : Heap.ExtBut i1 b0 b1 := sb1
  clear sb1
  have z1 : ZipS b1 z T U .ellipsis := sb1' _ _ S.zi1 zb0'
  refine wpAny_bind (wpAny_setField_rec (s := ⟨b1, ge, de, tk0, os⟩) z1 (by simp) fun b2 z2 sb2 => ?_)
  have sb2' : Heap.SameBut z b1 b2 := sb2
  clear sb2
  have t2' : St2 n2 b2 := D2.over (D2.frame _ _ _ (D2.over t2 sb0' S.zf2) fun b hb o e => sb1' b o (fun h => S.sep1_2 (h ▸ hb)) e) sb2' S.zf2
  refine wpAny_bind (wpAny_bind ?_); simp only [List.drop_succ_cons, List.drop_zero, List.zipIdx_cons, List.zipIdx_nil, List.forIn_cons, List.forIn_nil]
  refine wpAny_bind (wpAny_bind (noe_end (s := ⟨b2, ge, de, tk0, os⟩) D2 t2' fun b3 sb3 => ?_))
  have sb3' : Heap.ExtBut i2 b2 b3 := sb3
  simp only [Option.isSome_none, Bool.false_eq_true, if_false]; refine wpAny_pure (wpAny_pure (wpAny_bind (wpAny_rule ?_)))
  show wpAny _ _ (newExc (.type "StopIteration") [] >>= _) _ _ _; refine wpAny_bind ?_
  simp only [newExc, newTuple]
  refine wpAny_bind (wpAny_newObj_type ?_ (by size_fits)); refine wpAny_bind (m := firstArgMember _ _) (wpAny_of_eq (a := Value.none) (by first | rfl | (simp only [firstArgMember]; rfl)) ?_)
  refine wpAny_newObj_type ?_ (by size_fits); simp only [raiseNew]
  refine wpAny_bind (wpAny_handled ?_); rw [hh]
  refine wpAny_bind (wpAny_pure (wpAny_throw ?_)); refine q _ _ (fun c o c1 c2 c3 c4 e => Heap.get?_push_of_some _ (Heap.get?_push_of_some _ (sb3' _ _ c4 (sb2'.extBut _ _ c1 (sb1' _ _ c3 (sb0'.extBut _ _ c1 e)))))) ⟨_, Heap.get?_push_size _ rfl, rfl⟩

theorem pn_item {Q : Option Value → Shared → Prop} (S : ZipSep2 z T U i1 i2 fp1 fp2) (D1 : Draws prog w A.in1 i1 fp1 n1 P1 St1) (D2 : Draws prog w A.in1 i2 fp2 n2 P2 St2)
    (hz : ZipS s.heap z T U .none) (hT : IsTupOf2 s.heap T (.ref i1) (.ref i2)) (hU : IsTupOf2 s.heap U a1 a2) (t1 : St1 i s.heap) (t2 : St2 i s.heap) (l1 : i < n1) (l2 : i < n2)
    (q : ∀ x y g tk, P1 i x → P2 i y → ZipS g z T U (rawInt s.heap.objs.size) → IsTupOf2 g U x y → St1 (i + 1) g → St2 (i + 1) g → IsTupOf2 g s.heap.objs.size x y → g.objs.size = s.heap.objs.size + 1 →
      (∀ c o, c ≠ z → c ≠ U → c ≠ i1 → c ≠ i2 → s.heap.get? c = some o → g.get? c = some o) → Q (some (.ref s.heap.objs.size)) { s with heap := g, toks := tk }) :
    wpAny (model prog w) A (pyNext (.ref z)) Q E s := by
  have ty : s.TypeIs (.ref z) "zip" := ⟨_, hz, rfl⟩
  unfold pyNext
  refine wpAny_bind (wpAny_attempt (wpAny_callSpecial?_slot (name := Str.ofString "__next__") ty F.slot_zip_next
    (wpAny_call_entry F.slot_zip_next ty F.entry_zip_next ?_ (F.args_zip_next_1 _))))
  exact zs_item S D1 D2 hz hT hU t1 t2 l1 l2 fun x y g tk p1 p2 p3 p4 p5 p6 p7 p8 p9 => wpAny_pure (q x y g tk p1 p2 p3 p4 p5 p6 p7 p8 p9)

theorem pn_end {Q : Option Value → Shared → Prop} (hh : A.handled = none) (S : ZipSep2 z T U i1 i2 fp1 fp2) (D1 : Draws prog w A.in1 i1 fp1 n1 P1 St1) (D2 : Draws prog w A.in1 i2 fp2 n2 P2 St2)
    (hz : ZipS s.heap z T U .none) (hT : IsTupOf2 s.heap T (.ref i1) (.ref i2)) (t1 : St1 n1 s.heap) (t2 : St2 n2 s.heap)
    (q : ∀ g, (∀ c o, c ≠ z → c ≠ U → c ≠ i1 → c ≠ i2 → s.heap.get? c = some o → g.get? c = some o) → Q none { s with heap := g }) :
    wpAny (model prog w) A (pyNext (.ref z)) Q E s := by
  have ty : s.TypeIs (.ref z) "zip" := ⟨_, hz, rfl⟩
  unfold pyNext
  refine wpAny_bind (wpAny_attempt (wpAny_callSpecial?_slot (name := Str.ofString "__next__") ty F.slot_zip_next
    (wpAny_call_entry F.slot_zip_next ty F.entry_zip_next ?_ (F.args_zip_next_1 _))))
  refine zs_end hh S D1 D2 hz hT t1 t2 fun g e p1 p2 => ?_
  obtain ⟨o, ho, hc⟩ := p2
  refine wpAny_bind (wpAny_isInstance (T := "StopIteration") (b := true) ⟨o, ho, hc⟩ isSubtype_stop ?_); exact wpAny_pure (q g p1)

theorem lg_zipS {elts : List Expr} {x1} {pos : Pos} {t : Addr} {Q : Unit → Shared → Prop} (hz : ZipS s.heap z T U (rawInt t))
    (q : ∀ g, ZipS g z T U .none → Heap.SameBut z s.heap g → Q () { s with heap := g }) :
    wpAny (model prog w) A (letOwnedTupleGo (.Tuple elts x1 pos) (.ref z) (.ref t)) Q E s := by
  unfold letOwnedTupleGo
  refine wpAny_bind (wpAny_load hz ?_)
  dsimp only
  rw [if_pos (by simp)]
  refine wpAny_bind (wpAny_rule ?_); refine wpAny_setField_rec hz (by simp) fun g h1 h2 => q g h1 h2

theorem it_zipS {f0 : Value} {Q : Value → Shared → Prop} (hz : ZipS s.heap z T U f0) (q : Q (.ref z) s) : wpAny (model prog w) A (pyIter (.ref z)) Q E s := by
  have ty : s.TypeIs (.ref z) "zip" := ⟨_, hz, rfl⟩
  refine wpAny_pyIter_slot ty F.slot_zip_iter (wpAny_call_entry F.slot_zip_iter ty F.entry_zip_iter ?_ (F.args_zip_iter_1 _))
  show wpAny _ _ (ret (.ref z)) _ _ s; exact wpAny_pure ⟨_, rfl, "zip", _, ty, F.slot_zip_next.lookup, q⟩

/-- lists (true) and tuples (false), their iterators -/
def KSq (b : Bool) (h : Heap) (l : Addr) (xs : Array Value) : Prop := match b with
  | true => h.IsList l xs
  | false => h.IsTuple l xs
def KIt (b : Bool) (h : Heap) (it l : Addr) (i : Nat) : Prop := match b with
  | true => h.IsListIter it l i
  | false => h.IsTupleIter it l i
theorem KIt.at {b : Bool} {h h' : Heap} {it l : Addr} {i : Nat} (k : KIt b h it l i) (f : ∀ o, h.get? it = some o → h'.get? it = some o) : KIt b h' it l i := by
  cases b with
  | true => exact Heap.IsListIter.at k f
  | false => exact Heap.IsTupleIter.at k f
theorem KSq.at {b : Bool} {h h' : Heap} {l : Addr} {xs : Array Value} (k : KSq b h l xs) (f : ∀ o, h.get? l = some o → h'.get? l = some o) : KSq b h' l xs := by
  cases b with
  | true => exact Heap.IsList.at k f
  | false => exact Heap.IsTuple.at k f
theorem KSq.live {b : Bool} {h : Heap} {l : Addr} {xs : Array Value} (k : KSq b h l xs) : l < h.objs.size := by
  cases b with
  | true => obtain ⟨o, ho, _⟩ := id k; exact Heap.lt_size ho
  | false => obtain ⟨o, ho, _⟩ := id k; exact Heap.lt_size ho
theorem KIt.live {b : Bool} {h : Heap} {it l : Addr} {i : Nat} (k : KIt b h it l i) : ∃ o, h.get? it = some o ∧ ∀ v, o.data ≠ .cell v := by
  cases b with
  | true => obtain ⟨o, ho, _, hd⟩ := id k; exact ⟨o, ho, fun v e => by rw [hd] at e; cases e⟩
  | false => obtain ⟨o, ho, _, hd⟩ := id k; exact ⟨o, ho, fun v e => by rw [hd] at e; cases e⟩
theorem drawsK (b : Bool) (hh : A.handled = none) (it l : Addr) (hne : l ≠ it) (xs : Array Value) :
    Draws prog w A it [it, l] xs.size (fun i v => xs[i]? = some v) (fun i h => KIt b h it l i ∧ KSq b h l xs) where
  live := fun _ _ st => let ⟨o, ho, _⟩ := st.1.live; ⟨o, ho⟩
  frame := fun _ _ _ st hk => ⟨st.1.at fun o e => hk it (by simp) o e, st.2.at fun o e => hk l (by simp) o e⟩
  item := fun i s Q E hi st hQ => by
    have hx : xs[i]? = some xs[i] := by simp [hi]
    cases b with
    | true => exact wpAny_nextOf_list_item (show s.heap.IsListIter it l i from st.1) (show s.heap.IsList l xs from st.2) hx fun g p1 p2 => hQ _ g s.toks hx ⟨p1, st.2.at fun o e => p2.extBut _ _ hne e⟩ p2
    | false => exact RZ.nextOf_tuple_item (show s.heap.IsTupleIter it l i from st.1) (show s.heap.IsTuple l xs from st.2) hx fun g p1 p2 => hQ _ g s.toks hx ⟨p1, st.2.at fun o e => p2.extBut _ _ hne e⟩ p2
  done := fun s Q E st hE => by
    cases b with
    | true => exact wpAny_nextOf_list_end hh (show s.heap.IsListIter it l xs.size from st.1) (show s.heap.IsList l xs from st.2) (by simp) hE
    | false => exact RZ.nextOf_tuple_end hh (show s.heap.IsTupleIter it l xs.size from st.1) (show s.heap.IsTuple l xs from st.2) (by simp) hE

theorem drawsK1 (b : Bool) (hh : A.handled = none) (it l : Addr) (hne : l ≠ it) (xs : Array Value) :
    Draws prog w A.in1 it [it, l] xs.size (fun i v => xs[i]? = some v) (fun i h => KIt b h it l i ∧ KSq b h l xs) := drawsK (A := A.in1) b hh it l hne xs
def itO (b : Bool) (l : Addr) : Obj := { cls := .type (match b with | true => "list_iterator" | false => "tuple_iterator"), data := .fields #[.ref l, .int 0 0] }
theorem itO_free (b : Bool) (l : Addr) : (itO b l).isFreed = false := by cases b <;> rfl
theorem pyIterK (b : Bool) {l : Addr} {xs : Array Value} {Q : Value → Shared → Prop} (k : KSq b s.heap l xs) (q : Q (.ref s.heap.objs.size) { s with heap := s.heap.push (itO b l) }) :
    wpAny (model prog w) A (pyIter (.ref l)) Q E s := by
  cases b with
  | true => exact wpAny_pyIter_list (show s.heap.IsList l xs from k) q
  | false => exact wpAny_pyIter_tuple (show s.heap.IsTuple l xs from k) q
theorem KIt.new (b : Bool) {h : Heap} {it l : Addr} (e : h.get? it = some (itO b l)) : KIt b h it l 0 := by
  cases b with
  | true => exact ⟨_, e, rfl, rfl⟩
  | false => exact ⟨_, e, rfl, rfl⟩
abbrev ZipQ (st : Bool) (h : Heap) (z T U : Addr) (f : Value) : Prop :=
  h.get? z = some { cls := .type "zip", dict := none, data := .fields #[f, .bool false, .bool st, .ref T, .ref U], slots := #[] }
def zq1 (h : Heap) (b1 : Bool) (l1 : Addr) : Heap := h.push (itO b1 l1)
def zq2 (h : Heap) (b1 b2 : Bool) (l1 l2 : Addr) : Heap := (zq1 h b1 l1).push (itO b2 l2)
def zq3 (h : Heap) (b1 b2 : Bool) (l1 l2 : Addr) : Heap := (zq2 h b1 b2 l1 l2).push { cls := .type "tuple", data := .seq #[.ref h.objs.size, .ref (zq1 h b1 l1).objs.size] }
def zq4 (h : Heap) (b1 b2 : Bool) (l1 l2 : Addr) : Heap := (zq3 h b1 b2 l1 l2).push { cls := .type "tuple", data := .seq #[.none, .none] }
def zq5 (h : Heap) (st b1 b2 : Bool) (l1 l2 : Addr) : Heap := (zq4 h b1 b2 l1 l2).push { cls := .type "zip", data := .fields #[.none, .bool false, .bool st, .ref (zq2 h b1 b2 l1 l2).objs.size, .ref (zq3 h b1 b2 l1 l2).objs.size] }
theorem zq_meets (st b1 b2 : Bool) (l1 l2 : Addr) (xs ys : Array Value) :
    Meets (Builtin.«zip.__new__» ⟨[.type "zip", .ref l1, .ref l2], [(Str.ofString "strict", .bool st)]⟩) (fun _ R s => KSq b1 s.heap l1 xs ∧ KSq b2 s.heap l2 ys ∧
      R (.ok (.ret (.ref (zq4 s.heap b1 b2 l1 l2).objs.size))) { s with heap := zq5 s.heap st b1 b2 l1 l2 }) :=
  .of_wp fun prog w A R s h => by
    obtain ⟨hp, ge, de, tk, os⟩ := s; obtain ⟨k1, k2, h⟩ := h
    have hsub := sub_zip
    have ne1 : (Str.ofString "strict" != ("strict" : Str)) = false := by decide +kernel
    have q1 : ∀ {A' : Around} {E : Value → Shared → Prop} {Q : Value → Shared → Prop}, Q (.ref hp.objs.size) ⟨zq1 hp b1 l1, ge, de, tk, os⟩ → wpAny (model prog w) A' (pyIter (.ref l1)) Q E ⟨hp, ge, de, tk, os⟩ :=
      fun q => pyIterK b1 (s := ⟨hp, ge, de, tk, os⟩) k1 q
    have q2 : ∀ {A' : Around} {E : Value → Shared → Prop} {Q : Value → Shared → Prop}, Q (.ref (zq1 hp b1 l1).objs.size) ⟨zq2 hp b1 b2 l1 l2, ge, de, tk, os⟩ → wpAny (model prog w) A' (pyIter (.ref l2)) Q E ⟨zq1 hp b1 l1, ge, de, tk, os⟩ :=
      fun q => pyIterK b2 (s := ⟨zq1 hp b1 l1, ge, de, tk, os⟩) (k2.at fun o e => Heap.get?_push_of_some _ e) q
    wp_walk using q1, q2
    exact ⟨_, rfl, h⟩
end
namespace F1
theorem tc_zip (a b c : Value) : checkTypeCall "zip" ⟨[a, b], [(Str.ofString "strict", c)]⟩ = pure () := by kernel_rfl
theorem nc_zip (a b c : Value) : checkBuiltinCall "zip.__new__" ⟨[.type "zip", a, b], [(Str.ofString "strict", c)]⟩ = pure () := by kernel_rfl
theorem ac_zip (obj a b c : Value) : argsOk "object.__init__" ⟨[obj, a, b], [(Str.ofString "strict", c)]⟩ := by unfold argsOk; kernel_rfl
end F1
section
variable {prog : Program} {w : World} {A : Around} {E : Value → Shared → Prop} {s : Shared}
theorem zq_call {st b1 b2 : Bool} {l1 l2 : Addr} {xs ys : Array Value} {Q : Value → Shared → Prop} (k1 : KSq b1 s.heap l1 xs) (k2 : KSq b2 s.heap l2 ys)
    (q : ∀ g, ZipQ st g (s.heap.objs.size + 4) (s.heap.objs.size + 2) (s.heap.objs.size + 3) .none → IsTupOf2 g (s.heap.objs.size + 2) (.ref s.heap.objs.size) (.ref (s.heap.objs.size + 1)) →
      IsTupOf2 g (s.heap.objs.size + 3) .none .none → KIt b1 g s.heap.objs.size l1 0 → KIt b2 g (s.heap.objs.size + 1) l2 0 → (∀ c o, s.heap.get? c = some o → g.get? c = some o) → Q (.ref (s.heap.objs.size + 4)) { s with heap := g }) :
    wpAny (model prog w) A (call (.type "zip") [.ref l1, .ref l2] [(Str.ofString "strict", .bool st)]) Q E s := by
  refine callType_newKw PySem.F.called_zip (by decide) (F1.tc_zip _ _ _) (F1.nc_zip _ _ _) (fun obj => F1.ac_zip obj _ _ _) PySem.F.entry_zip_new
    (zq_meets st b1 b2 l1 l2 xs ys) ⟨k1, k2, ?_⟩
  have z1 : (zq1 s.heap b1 l1).objs.size = s.heap.objs.size + 1 := Heap.size_push ..
  have z2 : (zq2 s.heap b1 b2 l1 l2).objs.size = s.heap.objs.size + 2 := by rw [zq2, Heap.size_push, z1]
  have z3 : (zq3 s.heap b1 b2 l1 l2).objs.size = s.heap.objs.size + 3 := by rw [zq3, Heap.size_push, z2]
  have z4 : (zq4 s.heap b1 b2 l1 l2).objs.size = s.heap.objs.size + 4 := by rw [zq4, Heap.size_push, z3]
  have g5 : (zq5 s.heap st b1 b2 l1 l2).get? (zq4 s.heap b1 b2 l1 l2).objs.size = some _ := Heap.get?_push_size _ rfl
  have g4 : (zq5 s.heap st b1 b2 l1 l2).get? (zq3 s.heap b1 b2 l1 l2).objs.size = some _ := Heap.get?_push_of_some _ (Heap.get?_push_size _ rfl)
  have g3 : (zq5 s.heap st b1 b2 l1 l2).get? (zq2 s.heap b1 b2 l1 l2).objs.size = some _ := Heap.get?_push_of_some _ (Heap.get?_push_of_some _ (Heap.get?_push_size _ rfl))
  have g2 : (zq5 s.heap st b1 b2 l1 l2).get? (zq1 s.heap b1 l1).objs.size = some (itO b2 l2) := Heap.get?_push_of_some _ (Heap.get?_push_of_some _ (Heap.get?_push_of_some _ (Heap.get?_push_size _ (itO_free b2 l2))))
  have g1 : (zq5 s.heap st b1 b2 l1 l2).get? s.heap.objs.size = some (itO b1 l1) := Heap.get?_push_of_some _ (Heap.get?_push_of_some _ (Heap.get?_push_of_some _ (Heap.get?_push_of_some _ (Heap.get?_push_size _ (itO_free b1 l1)))))
  show _ ∧ _
  rw [z2, z3, z4] at g5
  rw [z1, z2] at g3
  rw [z3] at g4
  rw [z1] at g2
  rw [z4]
  refine ⟨⟨_, g5, rfl⟩, q _ g5 g3 g4 (KIt.new b1 g1) (KIt.new b2 g2) fun c o x => ?_⟩
  refine Heap.get?_push_of_some _ (Heap.get?_push_of_some _ (Heap.get?_push_of_some _ ?_))
  exact Heap.get?_push_of_some _ (Heap.get?_push_of_some _ x)
end

/-! ### in the hand layer -/
def SqK (b : Bool) (K : PySem.W.Frag) (H : Hp) (a : Addr) (xs : List V) : Prop := match b with
  | true => SqL K H a xs
  | false => SqT K H a xs
theorem SqK.inv {b : Bool} {X : Cx} {pins : List (Addr × Obj)} {σ : L2.St} {H : Hp} {s : Shared} {a : Addr} {xs : List V} (I : Inv X pins σ H s) (h : SqK b X.K H a xs) : ∃ its : List Value, Vals xs its ∧ KSq b s.heap a its.toArray := by
  cases b with
  | true => obtain ⟨its, rv, p, _⟩ := I.list h; exact ⟨its, rv, p.isList⟩
  | false => obtain ⟨its, rv, p, _⟩ := I.tuple h; exact ⟨its, rv, p⟩
theorem SqK.inj {b : Bool} {X : Cx} {pins : List (Addr × Obj)} {σ : L2.St} {H : Hp} {s : Shared} {a : Addr} {xs ys : List V} (I : Inv X pins σ H s) (h : SqK b X.K H a xs) (h' : SqK b X.K H a ys) : xs = ys := by
  cases b with
  | true => exact I.list_inj h h'
  | false => exact I.tuple_inj h h'
/-- the rows at a and b, strict -/
def ItS (K : PySem.W.Frag) (b1 b2 : Bool) (a b : Addr) : It :=
  ⟨fun i H => ∃ (xs ys : List V) (x y : V), SqK b1 K H a xs ∧ SqK b2 K H b ys ∧ xs[i]? = some x ∧ ys[i]? = some y,
    fun i H v H' => ∃ T x y, v = .ref T ∧ H T = none ∧ H' = upd H T (.tup [x, y]) ∧ (∀ xs, SqK b1 K H a xs → xs[i]? = some x) ∧ ∀ ys, SqK b2 K H b ys → ys[i]? = some y,
    fun i H => ∃ xs ys : List V, SqK b1 K H a xs ∧ SqK b2 K H b ys ∧ xs.length = i ∧ ys.length = i⟩
theorem sepOf {I l1 l2 : Nat} (h1 : l1 < I) (h2 : l2 < I) : ZipSep2 (I + 4) (I + 2) (I + 3) I (I + 1) [I, l1] [I + 1, l2] := by
  have h : ∀ x y : Nat, x < y → (x : Addr) ≠ y := fun x y l e => Nat.ne_of_lt l e
  have m : ∀ x y z : Nat, x ≠ y → x ≠ z → (x : Addr) ∉ [(y : Addr), (z : Addr)] := fun x y z p q r => by
    rcases List.mem_cons.mp r with e | r
    · exact p e
    · exact q (List.mem_singleton.mp r)
  exact ⟨h _ _ (by omega), h _ _ (by omega), h _ _ (by omega), (h _ _ (by omega)).symm, List.mem_cons_self, m _ _ _ (by omega) (by omega), m _ _ _ (by omega) (by omega), (h (I + 1) _ (by omega)).symm, List.mem_cons_self, m _ _ _ (by omega) (by omega), m _ _ _ (by omega) (by omega), m _ _ _ (by omega) (by omega), m _ _ _ (by omega) (by omega)⟩
set_option maxHeartbeats 4000000 in
theorem turn_zs {P : Program} {w : World} {K : PySem.W.Frag} {elts : List Expr} {kk : Nat} {tpos : Pos} {b1 b2 : Bool} {a b z T U i1 i2 : Addr} (S : ZipSep2 z T U i1 i2 [i1, a] [i2, b]) (na : a ≠ i1) (nb : b ≠ i2) :
    Turn P w K (.Tuple elts kk tpos) (ItS K b1 b2 a b) [z, T, U, i1, i2] z (fun i h => ZipS h z T U .none ∧ IsTupOf2 h T (.ref i1) (.ref i2) ∧ (∃ x y, IsTupOf2 h U x y) ∧ KIt b1 h i1 a i ∧ KIt b2 h i2 b i) where
  mem := by simp
  obj := fun i h st c hc => by
    obtain ⟨hz, hT, ⟨x, y, hU⟩, k1, k2⟩ := st
    have e' : c = z ∨ c = T ∨ c = U ∨ c = i1 ∨ c = i2 := by simpa using hc
    rcases e' with e | e | e | e | e <;> subst e
    · exact ⟨_, hz, fun v q => nomatch q⟩
    · exact ⟨_, hT, fun v q => nomatch q⟩
    · exact ⟨_, hU, fun v q => nomatch q⟩
    · exact k1.live
    · exact k2.live
  keep := fun i h h' st k => by
    obtain ⟨hz, hT, ⟨x, y, hU⟩, k1, k2⟩ := st
    exact ⟨k z (by simp) _ hz, k T (by simp) _ hT, ⟨x, y, k U (by simp) _ hU⟩, k1.at fun o q => k i1 (by simp) o q, k2.at fun o q => k i2 (by simp) o q⟩
  item := by
    intro X hP hw hK hc i pins s σ H E I hf st hg
    subst hP hw hK
    obtain ⟨hz, hT, ⟨x0, y0, hU⟩, k1, k2⟩ := st
    obtain ⟨xs, ys, x, y, hqx, hqy, hx, hy⟩ := hg; obtain ⟨its, rv, p⟩ := hqx.inv I
    obtain ⟨its2, rv2, p2⟩ := hqy.inv I
    obtain ⟨u, hu, ru⟩ := rv.get hx; obtain ⟨u2, hu2, ru2⟩ := rv2.get hy
    have zl : z < s.heap.objs.size := Heap.lt_size hz
    have nz : ∀ {c : Addr} {o : Obj}, s.heap.get? c = some o → s.heap.objs.size ≠ c := fun e => Nat.ne_of_gt (Heap.lt_size e)
    refine pn_item S (drawsK1 b1 (I.ok.hd hc) i1 a na its.toArray) (drawsK1 b2 (I.ok.hd hc) i2 b nb its2.toArray) hz hT hU ⟨k1, p⟩ ⟨k2, p2⟩ (by have := (List.getElem?_eq_some_iff.mp hu).1; simpa using this) (by have := (List.getElem?_eq_some_iff.mp hu2).1; simpa using this) fun x' y' g tk px py z' U' t1 t2 hN hsz hk => ?_
    have ex : x' = u := by
      have px : its.toArray[i]? = some x' := px
      rw [List.getElem?_toArray, hu] at px
      cases px; rfl
    have ey : y' = u2 := by
      have py : its2.toArray[i]? = some y' := py
      rw [List.getElem?_toArray, hu2] at py
      cases py; rfl
    subst ex ey
    refine ⟨_, rfl, lg_zipS (s := { s with heap := g, toks := tk }) z' fun g2 z'' sb => ?_⟩
    have hN2 : g2.get? s.heap.objs.size = some { cls := .type "tuple", data := .seq #[x', y'] } := (sb.2 _ (Nat.ne_of_gt zl)).trans hN
    have new : ObjOk X.prog X.w (upd H s.heap.objs.size (.tup [x, y])) g2 s.heap.objs.size (.tup [x, y]) :=
      ⟨by show 2 ≤ sizeLine; decide, [x', y'], .cons ru (.cons ru2 .nil), ⟨_, hN2, rfl, _, rfl⟩⟩
    have I1 : L2.Inv X pins σ (upd H s.heap.objs.size (.tup [x, y])) { s with heap := g2, toks := tk } :=
      I.turnedNew (t' := tk) (ch := [z, T, U, i1, i2]) (fun c o hb q => (sb.2 c (fun e => hb (by simp [e]))).trans (hk c o (fun e => hb (by simp [e])) (fun e => hb (by simp [e])) (fun e => hb (by simp [e])) (fun e => hb (by simp [e])) q)) hf (Nat.le_refl _) new
    refine ⟨.ref s.heap.objs.size, _, I1, rfl, ⟨_, x, y, rfl, I.hok.fresh (Nat.le_refl _), rfl, fun l hl => by rw [hl.inj I hqx]; exact hx, fun l hl => by rw [hl.inj I hqy]; exact hy⟩, ⟨z'', ?_, ⟨x', y', ?_⟩, ?_, ?_⟩, fun c hcm => ?_⟩
    · exact (sb.2 _ S.TIz).trans (hk _ _ S.TIz S.TITO S.TIi1 S.TIi2 hT)
    · exact (sb.2 _ S.TOz).trans U'
    · exact t1.1.at fun o q => (sb.2 _ S.zi1.symm).trans q
    · exact t2.1.at fun o q => (sb.2 _ S.zi2.symm).trans q
    · have lt : c < s.heap.objs.size := by
        have e' : c = z ∨ c = T ∨ c = U ∨ c = i1 ∨ c = i2 := by simpa using hcm
        rcases e' with e | e | e | e | e <;> subst e
        · exact zl
        · exact Heap.lt_size hT
        · exact Heap.lt_size hU
        · obtain ⟨_, q, _⟩ := k1.live; exact Heap.lt_size q
        · obtain ⟨_, q, _⟩ := k2.live; exact Heap.lt_size q
      rw [upd_ne (Nat.ne_of_lt lt)]
      exact (hf c hcm).1
  done := by
    intro X hP hw hK hc i pins s σ H E I hf st hg
    subst hP hw hK
    obtain ⟨hz, hT, ⟨x0, y0, hU⟩, k1, k2⟩ := st
    obtain ⟨xs, ys, hqx, hqy, e1, e2⟩ := hg
    obtain ⟨its, rv, p⟩ := hqx.inv I
    obtain ⟨its2, rv2, p2⟩ := hqy.inv I
    have l1 : its.toArray.size = i := by have := rv.length; simp; omega
    have l2 : its2.toArray.size = i := by have := rv2.length; simp; omega
    refine pn_end (I.ok.hd hc) S (drawsK1 b1 (I.ok.hd hc) i1 a na its.toArray) (drawsK1 b2 (I.ok.hd hc) i2 b nb its2.toArray) hz hT ⟨by rw [l1]; exact k1, p⟩ ⟨by rw [l2]; exact k2, p2⟩ fun g hk => ?_
    exact ⟨rfl, I.turnedL (t' := s.toks) (ch := [z, T, U, i1, i2]) (fun c o hb q =>
      hk c o (fun e => hb (by simp [e])) (fun e => hb (by simp [e])) (fun e => hb (by simp [e])) (fun e => hb (by simp [e])) q) hf⟩
  self := fun A i s Q E st h => it_zipS st.1 h

theorem callWith_tk {M : Model} {A : Around} {E : Value → Shared → Prop} {s : Shared} {pos : Pos} {ty : String} {args : List (Bool × Sem Value)} {keywords : List (Option Str × Sem Value)} {Q : Value → Shared → Prop} (h1 : args.any (·.1) = false) (h2 : keywords.any (·.1.isNone) = false)
    (h : wpAny M A (evalArgs (.type ty) true args keywords) (fun a r => wpAny M A (call (.type ty) a.pos a.kw) Q E r) E s) :
    wpAny M A (callWith pos (.type ty) [] args keywords) Q E s := by
  unfold callWith
  refine wpAny_bind (wpAny_holding (wpAny_mono h (fun a r hr => wpAny_bind (wpAny_standAt ?_)) fun _ _ x => x))
  simp only [h1, h2, Bool.or_false]
  refine wpAny_bind (wpAny_pure ?_); refine wpAny_bind (wpAny_mono hr (fun v t ht => ?_) fun _ _ x => x)
  exact wpAny_bind (wpAny_holding (wpAny_point (wpAny_pure ht)))
def tZs (K : PySem.W.Frag) (ta : TA) (tk : TA) : TI := fun σ H R => ta σ H fun vs H1 => tk σ H1 fun ks H2 => ∃ b1 b2 a b xs ys, vs = [.ref a, .ref b] ∧ ks = [.bl true] ∧ SqK b1 K H2 a xs ∧ SqK b2 K H2 b ys ∧ R (ItS K b1 b2 a b) H2
theorem pi_zs {X : Cx} {e e2 : Expr} {kws : List Keyword} {ta tk : TA} {p pos tpos : Pos} {elts : List Expr} {kk : Nat} (hg : Gl X "zip") (hm : X.mg "zip" = none) (ha : PA X [e, e2] ta) (hk : PK X kws tk)
    (hs : starEach [e, e2] X.env = (false, eval e X.env) :: starEach [e2] X.env := by rfl) (hpl : (backTo pos (starEach [e, e2] X.env)).any (·.1) = false := by rfl)
    (hall : (backToKw pos (keywordEach kws X.env)).all (·.1.isSome) = true := by rfl) (hnone : (backToKw pos (keywordEach kws X.env)).any (·.1.isNone) = false := by rfl) (hks : (backToKw pos (keywordEach kws X.env)).filterMap (·.1) = [Str.ofString "strict"] := by rfl) :
    PI X (.Tuple elts kk tpos) (.Call (.Name "zip" p) [e, e2] kws pos) (tZs X.K ta tk) := by
  refine ⟨fun pins s σ H R I h => ?_⟩; refine wpAny_Call_Name_kw (ld_blt I hg hm PyProof.Rows.boot_zip ?_)
  refine callWith_tk hpl hnone (PyProof.Rows.evalArgs_kw2 hall (thn (ha.run pos pins s σ H _ I h) fun us s1 ⟨vs, H1, I1, r1, q1⟩ => thn (hk.run pos pins s1 σ H1 _ I1 q1) fun ws s2 ⟨zs, H2, I2, r2, q2⟩ => ?_) hs)
  obtain ⟨b1, b2, a, b, xs, ys, ex, ez, hqx, hqy, q⟩ := q2
  subst ex ez
  rw [hks]
  cases r1 with
  | cons r rr =>
    cases rr with
    | cons r' rr =>
      cases rr
      cases r
      cases r'
      cases r2 with
      | cons w ww =>
        cases ww
        cases w
        obtain ⟨its, rv, p1⟩ := hqx.inv I2
        obtain ⟨its2, rv2, p2⟩ := hqy.inv I2
        have la : a < s2.heap.objs.size := p1.live
        have lb : b < s2.heap.objs.size := p2.live
        refine zq_call (st := true) p1 p2 fun g hz hT hU t1 t2 hk => it_zipS hz ?_
        have I3 : L2.Inv X pins σ H2 { s2 with heap := g } := I2.kept (t' := s2.toks) hk
        refine ⟨s2.heap.objs.size + 4, [s2.heap.objs.size + 4, s2.heap.objs.size + 2, s2.heap.objs.size + 3, s2.heap.objs.size, s2.heap.objs.size + 1], _, _, H2, rfl, I3, turn_zs (sepOf la lb) (Nat.ne_of_lt la) (Nat.ne_of_lt (Nat.lt_succ_of_lt lb)), ⟨hz, hT, ⟨_, _, hU⟩, t1, t2⟩, fun c hcm => ?_, q⟩
        have hle : s2.heap.objs.size ≤ c := by
          have e' : c = s2.heap.objs.size + 4 ∨ c = s2.heap.objs.size + 2 ∨ c = s2.heap.objs.size + 3 ∨ c = s2.heap.objs.size ∨ c = s2.heap.objs.size + 1 := by simpa using hcm
          rcases e' with e | e | e | e | e <;> rw [e] <;> first | exact Nat.le_refl _ | exact Nat.le_add_right _ _
        exact I2.fpOk hle (I2.hok.fresh hle)

/-! ### in Mi -/
section
variable {X : Cx} {e e2 : Expr} {pos : Pos}
def zipL : List D → List D → Option (List D)
  | [], [] => some []
  | a :: as, b :: bs => match zipL as bs with
    | some r => some (.tup [a, b] :: r)
    | none => none
  | _, _ => none
theorem zipL_len : ∀ {as bs r : List D}, zipL as bs = some r → as.length = r.length ∧ bs.length = r.length
  | [], [], r, h => by cases h; exact ⟨rfl, rfl⟩
  | a :: as, b :: bs, r, h => by
    unfold zipL at h
    split at h
    · rename_i r' h'
      cases h
      obtain ⟨p, q⟩ := zipL_len h'
      exact ⟨congrArg (· + 1) p, congrArg (· + 1) q⟩
    · cases h
  | [], b :: bs, r, h => by cases h
  | a :: as, [], r, h => by cases h
theorem zipL_get : ∀ {as bs r : List D} {i : Nat} {x : D}, zipL as bs = some r → r[i]? = some x → ∃ a b, as[i]? = some a ∧ bs[i]? = some b ∧ x = .tup [a, b]
  | [], [], r, i, x, h, hx => by cases h; simp at hx
  | a :: as, b :: bs, r, i, x, h, hx => by
    unfold zipL at h
    split at h
    · rename_i r' h'
      cases h
      cases i with
      | zero =>
        have e : D.tup [a, b] = x := by simpa using hx
        exact ⟨a, b, rfl, rfl, e.symm⟩
      | succ i =>
        obtain ⟨a', b', p, q, t⟩ := zipL_get (i := i) (x := x) h' (by simpa using hx)
        exact ⟨a', b', by simpa using p, by simpa using q, t⟩
    · cases h
  | [], b :: bs, r, i, x, h, _ => by cases h
  | a :: as, [], r, i, x, h, _ => by cases h
/-- the row of a list or a tuple -/
def rowD : D → Option (List D)
  | .lst ds => some ds
  | .tup ds => some ds
  | _ => none
theorem rowD_ok {K : PySem.W.Frag} {G : Hp} {d : D} {ds : List D} {v : V} (h : rowD d = some ds) (p : Rep K G d v) : ∃ b a vs, v = .ref a ∧ RepL K G ds vs ∧ ∀ H, Same G H → SqK b K H a vs := by
  unfold rowD at h
  split at h
  · cases h
    obtain ⟨a, vs, rfl, h1, h2⟩ := p
    exact ⟨true, a, vs, rfl, h2, fun H e => .inl (same_rd e h1)⟩
  · cases h
    obtain ⟨a, vs, rfl, h1, h2⟩ := p
    exact ⟨false, a, vs, rfl, h2, fun H e => same_t e h1⟩
  · cases h
theorem SqK.uniq {K : PySem.W.Frag} {b : Bool} {H : Hp} {a : Addr} {vs : List V} (h : SqK b K H a vs) {x : V} {i : Nat} (q : ∀ xs, SqK b K H a xs → xs[i]? = some x) : vs[i]? = some x := q vs h
theorem walks_zs {K : PySem.W.Frag} {G : Hp} {b1 b2 : Bool} {a b : Addr} {as bs r : List D} {vs us : List V} (hz : zipL as bs = some r) (h1 : RepL K G as vs) (h2 : RepL K G bs us)
    (s1 : ∀ H, Same G H → SqK b1 K H a vs) (s2 : ∀ H, Same G H → SqK b2 K H b us) : Walks K G (ItS K b1 b2 a b) r := by
  refine ⟨fun i d hd F B G1 σ σv H sg rl => ?_, fun F B G1 σ σv H sg rl => ?_⟩
  · have q1 := s1 H (sg.trans rl.gh)
    have q2 := s2 H (sg.trans rl.gh)
    obtain ⟨x, y, hx, hy, rfl⟩ := zipL_get hz hd
    obtain ⟨v, hv, rv⟩ := h1.get hx
    obtain ⟨u, hu, ru⟩ := h2.get hy
    refine ⟨⟨vs, us, v, u, q1, q2, hv, hu⟩, fun w H' yl => ?_⟩
    obtain ⟨T, v', u', rfl, hT, rfl, y1, y2⟩ := yl
    have e1 := y1 vs q1
    have e2 := y2 us q2
    rw [hv] at e1; cases e1
    rw [hu] at e2; cases e2
    exact ⟨_, same_new (rl.fresh hT).1, rl.laid hT, rl.res_t (xs := [x, y]) (vs := [v, u]) hT (.cons (rv.mono sg) (.cons (ru.mono sg) .nil))⟩
  · exact ⟨vs, us, s1 H (sg.trans rl.gh), s2 H (sg.trans rl.gh), by rw [← h1.length, (zipL_len hz).1], by rw [← h2.length, (zipL_len hz).2]⟩
def iZs (m : VEs) : IE := fun σ => match m σ with
  | some ([d1, d2], σ1) => match rowD d1 with
    | some as => match rowD d2 with
      | some bs => match zipL as bs with
        | some r => some (r, σ1)
        | none => none
      | none => none
    | none => none
  | _ => none
theorem ri_zips {elts : List Expr} {kk : Nat} {tpos p kp : Pos} {kj : Nat} {kq : Pos} {m : VEs} (hg : Gl X "zip") (hm : X.mg "zip" = none) (ha : PA X [e, e2] (tVs X.K m))
    (hs : starEach [e, e2] X.env = (false, eval e X.env) :: starEach [e2] X.env := by rfl) (hpl : (backTo pos (starEach [e, e2] X.env)).any (·.1) = false := by rfl) :
    PI X (.Tuple elts kk tpos) (.Call (.Name "zip" p) [e, e2] [⟨some "strict", .Constant (.bool true) kj kq, kp⟩] pos) (tI X.K (iZs m)) :=
  (pi_zs hg hm ha (pk_cons pe_bl pk_nil) hs hpl rfl rfl rfl).weak fun σv H R q => by
    obtain ⟨F, B, G, σ, ds, σ', r, em, k⟩ := q
    unfold iZs at em
    split at em
    · rename_i d1 d2 σ1 e1
      split at em
      · rename_i as ea
        split at em
        · rename_i bs eb
          split at em
          · rename_i rr er
            cases em
            refine ⟨F, B, G, σ, _, _, r, e1, fun vs G1 H1 r1 s1 p1 => ?_⟩
            obtain ⟨v1, w1, rfl, h1, v2, w2, rfl, h2, h3⟩ := p1
            have h3 : w2 = [] := h3
            subst h3
            obtain ⟨b1, a, vs, rfl, t1, u1⟩ := rowD_ok ea h1
            obtain ⟨b2, b, us, rfl, t2, u2⟩ := rowD_ok eb h2
            exact ⟨b1, b2, a, b, vs, us, rfl, rfl, u1 _ r1.gh, u2 _ r1.gh, k _ G1 H1 r1 s1 (walks_zs er t1 t2 u1 u2)⟩
          · cases em
        · cases em
      · cases em
    · cases em
end
end Mi

set_option Elab.async false
set_option linter.all false
set_option maxRecDepth 100000
set_option maxHeartbeats 1000000
/-! Mi, part 12: the end of a law. -/
namespace Mi
open PySem PySem.Spec PyProof.Rows L2
/-- what is left of a law: plain Lean about f -/
def Keeps (f : Fn) : Prop := ∀ ns : List Int, ns.length ≤ 63 → (∀ z ∈ ns, Builtin.Int.intBits z ≤ 1048576) → ∃ outs, f [.fr (.scr ns) false] = some (.v (.bl true), outs)
theorem keeps_sp {K : PySem.W.Frag} {f : Fn} (hf : Keeps f) (H : Hp) (a : Addr) (ns : List Int) (hl : ns.length ≤ 63) (hb : ∀ z ∈ ns, Builtin.Int.intBits z ≤ 1048576) (hS : SqL K H a (ns.map V.int)) :
    spF K 1 f [.ref a] H (fun v _ => v = .bl true) fun _ _ _ => False := by
  obtain ⟨outs, e⟩ := hf ns hl hb
  refine ⟨rfl, fun _ => none, H, [.fr (.scr ns) false], _, outs, ?_, ?_, e, fun v G' H' _ _ r => r⟩
  · refine ⟨Same.refl H, fun a o h => (nomatch h), rfl, fun i d l h => ?_, fun i d l h => ?_, fun i j a di dj li lj h => ?_, fun p h => (nomatch h)⟩
    · cases i with
      | zero => cases h; exact ⟨_, rfl, a, rfl, hS⟩
      | succ i => cases i <;> cases h
    · cases i with
      | zero => cases h
      | succ i => cases i <;> cases h
    · cases i with
      | zero => cases h
      | succ i => cases i <;> cases h
  · intro i d l h
    cases i with
    | zero => cases h
    | succ i => cases i <;> cases h
theorem walkF {l : PySem.W.OpenLaw} {q : Program} {loose : List Str} {XP : (Str → Option Value) → Heap → Prop} {YP : World → Heap → Prop} {d : DefRec} {K : Params → PySem.W.Frag} {f : Fn} {k : Nat} (hf : Keeps f) (hr : Room k callerA) (hn : l.most = some 63) (hdf : d.params.defaults = [])
    (hY : ∀ (w : World) (h : Heap), YP w h → (K w.params).In h)
    (F : ∀ (w : World) (mg : Str → Option Value) (fa : Addr) (h : Heap), (K w.params).In h → h.Ns mainGlobals mg → mg d.name = some (.ref fa) →
      ∃ fd : FuncData, (∀ (s : Shared) (u : Value), BindsTo s fd ⟨[u], []⟩ [("script", u)]) ∧ ∀ base : Heap, (K w.params).In base → base.Ns mainGlobals mg → FnOk l.prog w (K w.params) mg base CX0 k fa fd ["script"] (spF (K w.params) 1 f)) :
    PySem.W.WalkO q loose XP YP l.row.toRowW d [] (fun f vs => PySem.call f vs) :=
  L2.walk_ofB (n := 63) (k := k) (x := "script") (CX := fun _ => CX0) (sp := fun w => spF (K w.params) 1 f) hn (by decide) hdf hr hY F (fun w H a ns hl hb _ hS => keeps_sp hf H a ns hl hb hS) fun _ _ _ _ _ z => z
end Mi

set_option Elab.async false
set_option linter.all false
set_option maxRecDepth 100000
set_option maxHeartbeats 1000000
/-! Mi, part 13: the drawer of numbers that each law brings along, in plain Lean. -/
namespace Mi
open PySem PySem.Spec PyProof.Rows L2
namespace P
def m_law_mixed : MS := sSeq (sSet 2 (mBin fMod (mo (mFn fInt (osC (mo (mBin fAdd (mo (mBin fAdd (mo (mBin fMulI (oVar 0) (vo (vK (.int 410338673998125441398711))))) (mo (mBin fMulI (oVar 1) (vo (vK (.int 736418259301774563982039))))))) (vo (vK (.int 295075153872261839517363))))) (osN)))) (vo (vK (.int 618970019642690137449562111))))) (sSeq (sSet 3 (mBin fMod (mo (mFn fInt (osC (mo (mBin fAdd (mo (mBin fAdd (mo (mBin fMulI (oVar 2) (oVar 2))) (mo (mBin fMulI (vo (vK (.int 7))) (oVar 2))))) (oVar 1))) (osN)))) (vo (vK (.int 162259276829213363391578010288127))))) (sSeq (sSet 4 (mBin fMod (mo (mFn fInt (osC (mo (mBin fAdd (mo (mBin fMulI (oVar 3) (oVar 3))) (oVar 2))) (osN)))) (vo (vK (.int 618970019642690137449562111))))) (sRet (mBin fAdd (mo (mBin fMulI (oVar 3) (vo (vK (.int 618970019642690137449562111))))) (oVar 4)))))
def f_law_mixed : Fn := mkFn 5 m_law_mixed
def m_law_rest : MS := sSeq (sSet 3 (vm (vK (.int 0)))) (sSeq (sIf (cM (mBin fGt (mo (mFn fLen (osC (oVar 0) (osN)))) (vo (vK (.int 0))))) (sSet 3 (mFn fInt (osC (mo (mBin fIx (oVar 0) (mo (mBin fMod (mo (mFn fInt (osC (oVar 1) (osN)))) (mo (mFn fLen (osC (oVar 0) (osN)))))))) (osN)))) (sNil)) (sSeq (sIf (cM (mBin fLt (oVar 3) (vo (vK (.int 0))))) (sSet 3 (mBin fSub (vo (vK (.int 1))) (mo (mBin fMulI (vo (vK (.int 2))) (oVar 3))))) (sNil)) (sSeq (sIf (cAnd (cM (mBin fEq (oVar 2) (vo (vK (.int 0))))) (cAnd (cM (mBin fLt (oVar 1) (mo (mFn fLen (osC (oVar 0) (osN)))))) (cM (mBin fGe (oVar 3) (mo (mBin fPow (vo (vK (.int 10))) (vo (vK (.int 18))))))))) (sRet (mBin fSub (oVar 3) (mo (mBin fPow (vo (vK (.int 10))) (vo (vK (.int 18))))))) (sNil)) (sRet (mCall 2 f_law_mixed (osC (mo (mBin fAdd (oVar 3) (mo (mBin fMulI (oVar 2) (vo (vK (.int 1000003))))))) (osC (oVar 1) (osN))))))))
def f_law_rest : Fn := mkFn 4 m_law_rest
def m_law_pool : MS := sRet (mLst (vsC (vVar 0) (vsC (vK (.int 0)) (vsC (mv (mCall 3 f_law_rest (osC (oVar 0) (osC (vo (vK (.int 0))) (osC (vo (vK (.int 0))) (osN)))))) (vsC (vK (.int 0)) (vsN))))))
def f_law_pool : Fn := mkFn 1 m_law_pool
def m_law_next : MS := sSeq (sPut fSet 0 (vo (vK (.int 1))) (mv (mBin fAdd (mo (mBin fIx (oVar 0) (vo (vK (.int 1))))) (vo (vK (.int 1)))))) (sSeq (sPut fSet 0 (vo (vK (.int 2))) (mv (mCall 3 f_law_rest (osC (mo (mBin fIx (oVar 0) (vo (vK (.int 0))))) (osC (mo (mBin fIx (oVar 0) (vo (vK (.int 1))))) (osC (vo (vK (.int 0))) (osN))))))) (sPut fSet 0 (vo (vK (.int 3))) (vK (.int 0))))
def f_law_next : Fn := mkFn 1 m_law_next
def m_law_draw : MS := sSeq (sIf (cM (mBin fLe (mo (mBin fIx (oVar 0) (vo (vK (.int 2))))) (vo (vK (.int 1))))) (sSeq (sPut fSet 0 (vo (vK (.int 3))) (mv (mBin fAdd (mo (mBin fIx (oVar 0) (vo (vK (.int 3))))) (vo (vK (.int 1)))))) (sPut fSet 0 (vo (vK (.int 2))) (mv (mCall 3 f_law_rest (osC (mo (mBin fIx (oVar 0) (vo (vK (.int 0))))) (osC (mo (mBin fIx (oVar 0) (vo (vK (.int 1))))) (osC (mo (mBin fIx (oVar 0) (vo (vK (.int 3))))) (osN)))))))) (sNil)) (sSeq (sSet 2 (mBin fMod (mo (mFn fInt (osC (mo (mBin fIx (oVar 0) (vo (vK (.int 2))))) (osN)))) (oVar 1))) (sSeq (sPut fSet 0 (vo (vK (.int 2))) (mv (mBin fDiv (mo (mFn fInt (osC (mo (mBin fIx (oVar 0) (vo (vK (.int 2))))) (osN)))) (oVar 1)))) (sRetV 2)))
def f_law_draw : Fn := mkFn 3 m_law_draw
def m_law_pick : MS := sRet (mBin fIx (oVar 1) (mo (mCall 2 f_law_draw (osC (oVar 0) (osC (mo (mFn fLen (osC (oVar 1) (osN)))) (osN))))))
def f_law_pick : Fn := mkFn 2 m_law_pick
/-! ### bits -/
theorem bits_lt {i : Int} {k : Nat} (h : i.natAbs < 2 ^ k) (hk : k ≤ 33554432) (h0 : 0 < k) : bitsOk i = true := by
  unfold bitsOk
  have := PySem.Flt.log2_lt_of h0 h
  exact Nat.ble_eq_true_of_le (by omega)
theorem bits_small {i : Int} (h : i.natAbs < 2 ^ 200) : bitsOk i = true := bits_lt h (by decide) (by decide)
theorem cMul_of {i j : Int} (h : bitsOk i = true) (h' : bitsOk j = true) : cMul i j = true := by
  unfold cMul
  rw [h, h']; rfl
theorem fmod_nn (i : Int) {m : Int} (h : 0 < m) : 0 ≤ i.fmod m ∧ i.fmod m < m := ⟨Int.fmod_nonneg_of_pos i h, Int.fmod_lt_of_pos i h⟩

section
variable {i j : Int}
theorem e_mul (h : cMul i j = true) : fMulI (.int i) (.int j) = some (.v (.int (i * j))) := by
  show (bif cMul i j then _ else _) = _
  rw [h]; rfl
theorem e_mod (h : cMod i j = true) : fMod (.int i) (.int j) = some (.v (.int (i.fmod j))) := by
  show (bif cMod i j then _ else _) = _
  rw [h]; rfl
theorem e_div (h : cDiv i j = true) : fDiv (.int i) (.int j) = some (.v (.int (i.fdiv j))) := by
  show (bif cDiv i j then _ else _) = _
  rw [h]; rfl
theorem e_add : fAdd (.int i) (.int j) = some (.v (.int (i + j))) := rfl
theorem e_sub : fSub (.int i) (.int j) = some (.v (.int (i - j))) := rfl
theorem e_int : fInt [.int i] = some (.v (.int i)) := rfl
theorem e_lt : fLt (.int i) (.int j) = some (.v (.bl (decide (i < j)))) := rfl
theorem e_le : fLe (.int i) (.int j) = some (.v (.bl (decide (i ≤ j)))) := rfl
theorem e_gt : fGt (.int i) (.int j) = some (.v (.bl (decide (j < i)))) := rfl
theorem e_ge : fGe (.int i) (.int j) = some (.v (.bl (decide (j ≤ i)))) := rfl
theorem c_mod (h : 0 < j) : cMod i j = true := by
  unfold cMod
  have : (j == 0) = false := by simp; omega
  rw [this]; rfl
end
def M1 : Int := 618970019642690137449562111
def M2 : Int := 162259276829213363391578010288127
def mx1 (n p : Int) : Int := (n * 410338673998125441398711 + p * 736418259301774563982039 + 295075153872261839517363).fmod M1
def mx2 (n p : Int) : Int := (mx1 n p * mx1 n p + 7 * mx1 n p + p).fmod M2
def mixedI (n p : Int) : Int := mx2 n p * M1 + (mx2 n p * mx2 n p + mx1 n p).fmod M1
theorem mixed_eq {n p : Int} (hn : bitsOk n = true) (hp : bitsOk p = true) : f_law_mixed [.fr (.int n) false, .fr (.int p) false] = some (.v (.int (mixedI n p)), [.no, .no]) := by
  have b1 := fmod_nn (n * 410338673998125441398711 + p * 736418259301774563982039 + 295075153872261839517363) (m := M1) (by decide)
  have c1 : cMul n 410338673998125441398711 = true := cMul_of hn (by decide +kernel)
  have c2 : cMul p 736418259301774563982039 = true := cMul_of hp (by decide +kernel)
  have k1 : bitsOk (mx1 n p) = true := bits_small (by unfold mx1; unfold M1 at *; omega)
  have b2 := fmod_nn (mx1 n p * mx1 n p + 7 * mx1 n p + p) (m := M2) (by decide)
  have k2 : bitsOk (mx2 n p) = true := bits_small (by unfold mx2; unfold M2 at *; omega)
  have c3 := cMul_of k1 k1
  have c4 : cMul 7 (mx1 n p) = true := cMul_of (by decide +kernel) k1
  have c5 := cMul_of k2 k2
  have c6 : cMul (mx2 n p) 618970019642690137449562111 = true := cMul_of k2 (by decide +kernel)
  unfold mixedI
  have g1 : cMod (n * 410338673998125441398711 + p * 736418259301774563982039 + 295075153872261839517363) M1 = true := c_mod (by decide)
  have g2 : cMod (mx1 n p * mx1 n p + 7 * mx1 n p + p) M2 = true := c_mod (by decide)
  have g3 : cMod (mx2 n p * mx2 n p + mx1 n p) M1 = true := c_mod (by decide)
  have h1 := e_mod g1
  have h2 := e_mod g2
  have h3 := e_mod g3
  rw [show (n * 410338673998125441398711 + p * 736418259301774563982039 + 295075153872261839517363).fmod M1 = mx1 n p from rfl] at h1
  rw [show (mx1 n p * mx1 n p + 7 * mx1 n p + p).fmod M2 = mx2 n p from rfl] at h2
  unfold M1 M2 at *
  simp only [f_law_mixed, mkFn, padS, m_law_mixed, sSeq, sSet, sRet, mBin, mFn, mo, mv, vo, vK, oVar, osC, osN, derefs, deref, putR, keepS, e_add, e_int, e_mul, h1, h2, h3, c1, c2, c3, c4, c5, c6,
    List.length_cons, List.length_nil, List.replicate, List.cons_append, List.nil_append, List.getElem?_cons_zero, List.getElem?_cons_succ, List.set_cons_zero, List.set_cons_succ, Sl.lk, cond_true, cond_false, Nat.ble]


theorem mixed_nn (n p : Int) : 0 ≤ mixedI n p ∧ (mixedI n p).natAbs < 2 ^ 200 := by
  have b1 := fmod_nn (n * 410338673998125441398711 + p * 736418259301774563982039 + 295075153872261839517363) (m := M1) (by decide)
  have b2 := fmod_nn (mx1 n p * mx1 n p + 7 * mx1 n p + p) (m := M2) (by decide)
  have b3 := fmod_nn (mx2 n p * mx2 n p + mx1 n p) (m := M1) (by decide)
  have b2' : 0 ≤ mx2 n p ∧ mx2 n p < M2 := b2
  unfold mixedI
  unfold M1 M2 at *
  omega

/-! ### what a place of the script gives -/
def numI (ns : List Int) (p : Int) : Int :=
  let z := if ns.length = 0 then 0 else (atD ns (p.fmod ns.length)).getD 0
  if z < 0 then 1 - 2 * z else z
def restI (ns : List Int) (p f : Int) : Int :=
  if f = 0 ∧ p < ns.length ∧ 10 ^ 18 ≤ numI ns p then numI ns p - 10 ^ 18 else mixedI (numI ns p + f * 1000003) p
/-- the script's numbers are of at most so many bits -/
abbrev SB (ns : List Int) : Prop := ∀ z ∈ ns, Builtin.Int.intBits z ≤ 1048576
theorem abs_of_bits {z : Int} (h : Builtin.Int.intBits z ≤ 1048576) : z.natAbs < 2 ^ 1048576 := by
  unfold Builtin.Int.intBits at h
  split at h
  · rename_i e
    have : z.natAbs = 0 := by
      first
        | exact e
        | (simp at e; omega)
    rw [this]
    exact Nat.two_pow_pos _
  · exact Nat.lt_of_lt_of_le Nat.lt_log2_self (Nat.pow_le_pow_right (by decide) h)
theorem atD_in {ns : List Int} {p : Int} (h : 0 < ns.length) : ∃ z, atD ns (p.fmod ns.length) = some z ∧ z ∈ ns := by
  have h1 := fmod_nn p (m := (ns.length : Int)) (by omega)
  obtain ⟨k, hk⟩ := Int.eq_ofNat_of_zero_le h1.1
  have hk2 : k < ns.length := by omega
  refine ⟨ns[k], ?_, List.getElem_mem _⟩
  unfold atD
  rw [hk]
  show (match (bif Nat.blt k ns.length then some k else none) with | some j => ns[j]? | none => none) = _
  rw [show Nat.blt k ns.length = true from Nat.ble_eq_true_of_le hk2]
  exact List.getElem?_eq_getElem hk2
theorem numI_nn {ns : List Int} (h : SB ns) (p : Int) : 0 ≤ numI ns p ∧ (numI ns p).natAbs < 2 ^ 1048578 := by
  have key : ∀ z : Int, z.natAbs < 2 ^ 1048576 → 0 ≤ (if z < 0 then 1 - 2 * z else z) ∧ (if z < 0 then 1 - 2 * z else z).natAbs < 2 ^ 1048578 := by
    intro z hz
    have e : 2 ^ 1048578 = 4 * 2 ^ 1048576 := by rw [show (1048578 : Nat) = 1048576 + 2 from rfl, Nat.pow_add]; omega
    rw [e]
    generalize (2 : Nat) ^ 1048576 = N at *
    split <;> omega
  unfold numI
  by_cases h0 : ns.length = 0
  · rw [if_pos h0]
    exact key 0 (by exact Nat.two_pow_pos _)
  · rw [if_neg h0]
    obtain ⟨z, e, m⟩ := atD_in (p := p) (Nat.pos_of_ne_zero h0)
    rw [e]
    exact key z (abs_of_bits (h z m))
theorem pow18 : (10 : Int) ^ 18 = 1000000000000000000 := by decide
theorem restI_nn {ns : List Int} (h : SB ns) (p f : Int) : 0 ≤ restI ns p f ∧ (restI ns p f).natAbs < 2 ^ 1048578 := by
  unfold restI
  rw [pow18]
  split
  · rename_i c
    refine ⟨by omega, Nat.lt_of_le_of_lt ?_ (numI_nn h p).2⟩
    omega
  · have := mixed_nn (numI ns p + f * 1000003) p
    exact ⟨this.1, Nat.lt_of_lt_of_le this.2 (Nat.pow_le_pow_right (by decide) (by decide))⟩
theorem bits_add {i j : Int} (h : i.natAbs < 2 ^ 1048578) (h' : j.natAbs < 2 ^ 200) : bitsOk (i + j) = true := by
  refine bits_lt (k := 1048579) ?_ (by decide) (by decide)
  have e : 2 ^ 1048579 = 2 * 2 ^ 1048578 := by rw [show (1048579 : Nat) = 1048578 + 1 from rfl, Nat.pow_add]; omega
  have e2 : 2 ^ 200 ≤ 2 ^ 1048578 := Nat.pow_le_pow_right (by decide) (by decide)
  rw [e]
  generalize (2 : Nat) ^ 1048578 = N at *
  generalize (2 : Nat) ^ 200 = M at *
  omega

/-! ### the helpers, each once -/
section
variable {ns : List Int} {p f : Int}
theorem e_ixs {k : Int} {z : Int} (h : atD ns k = some z) : fIx (.scr ns) (.int k) = some (.v (.int z)) := by
  show fOr fIxL _ (.scr ns) (.int k) = _
  unfold fOr
  show (match (match atD ns k with | some n => some (R.v (D.int n)) | none => none) with | some r => some r | none => _) = _
  rw [h]
theorem e_lenS : fLen [.scr ns] = some (.v (.int ns.length)) := rfl
theorem e_lenL {xs : List D} : fLen [.lst xs] = some (.v (.int xs.length)) := rfl
theorem e_lenT {xs : List D} : fLen [.tup xs] = some (.v (.int xs.length)) := rfl
theorem e_eqI {i j : Int} : fEq (.int i) (.int j) = some (.v (.bl (decide (i = j)))) := by
  show fOr (fEqS false) _ (.int i) (.int j) = _
  unfold fOr fEqS
  show some (R.v (.bl ((i == j) ^^ false))) = _
  rw [Bool.xor_false]
  rfl
theorem e_pow {i j : Int} (h : cPow i j = true) : fPow (.int i) (.int j) = some (.v (.int (i ^ j.toNat))) := by
  show (bif cPow i j then _ else _) = _
  rw [h]; rfl
theorem pow1018 : fPow (.int 10) (.int 18) = some (.v (.int 1000000000000000000)) := by
  rw [e_pow (by decide +kernel)]
  exact congrArg (fun x => some (R.v (D.int x))) (by decide)
theorem dT {c : Prop} [Decidable c] (h : c) : decide c = true := decide_eq_true h
theorem dF {c : Prop} [Decidable c] (h : ¬ c) : decide c = false := decide_eq_false h
theorem seq_assoc (a b c : MS) : sSeq a (sSeq b c) = sSeq (sSeq a b) c := by
  funext σ
  unfold sSeq
  cases a σ with
  | none => rfl
  | some o => cases o <;> rfl
theorem fn_rt {n : Nat} {m : MS} {sls σ : List Sl} {r : R} (h : m (padS n sls) = some (.rt r σ)) (hl : Nat.ble sls.length σ.length = true) : mkFn n m sls = some (r, keepS sls σ) := by
  unfold mkFn
  rw [h]
  show (bif Nat.ble sls.length σ.length then _ else _) = _
  rw [hl]; rfl
theorem fn_nx {n : Nat} {m : MS} {sls σ : List Sl} (h : m (padS n sls) = some (.nx σ)) (hl : Nat.ble sls.length σ.length = true) : mkFn n m sls = some (.v .non, keepS sls σ) := by
  unfold mkFn
  rw [h]
  show (bif Nat.ble sls.length σ.length then _ else _) = _
  rw [hl]; rfl
theorem sq {a b : MS} {σ σ1 : List Sl} (h : a σ = some (.nx σ1)) : sSeq a b σ = b σ1 := by unfold sSeq; rw [h]
/-- the number at a place, with its two tests -/
theorem rest_eq (hb : SB ns) (hp : p.natAbs < 2 ^ 100) (hf : f.natAbs < 2 ^ 100) : f_law_rest [.fr (.scr ns) false, .fr (.int p) false, .fr (.int f) false] = some (.v (.int (restI ns p f)), [.no, .no, .no]) := by
  have nn := numI_nn hb p
  have hpb : bitsOk p = true := bits_lt hp (by decide) (by decide)
  have hfb : bitsOk f = true := bits_lt hf (by decide) (by decide)
  have c1 : cMul f 1000003 = true := cMul_of hfb (by decide +kernel)
  have f2 : (f * 1000003).natAbs < 2 ^ 200 := by clear nn; omega
  have c2 : bitsOk (numI ns p + f * 1000003) = true := bits_add nn.2 f2
  have mx := mixed_eq c2 hpb
  have s1 : ∃ z, (sSeq (sSet 3 (vm (vK (.int 0)))) (sIf (cM (mBin fGt (mo (mFn fLen (osC (oVar 0) (osN)))) (vo (vK (.int 0))))) (sSet 3 (mFn fInt (osC (mo (mBin fIx (oVar 0) (mo (mBin fMod (mo (mFn fInt (osC (oVar 1) (osN)))) (mo (mFn fLen (osC (oVar 0) (osN)))))))) (osN)))) (sNil)))
      [.fr (.scr ns) false, .fr (.int p) false, .fr (.int f) false, .no] = some (.nx [.fr (.scr ns) false, .fr (.int p) false, .fr (.int f) false, .fr (.int z) false]) ∧ (if z < 0 then 1 - 2 * z else z) = numI ns p ∧ bitsOk z = true := by
    by_cases h0 : ns.length = 0
    · refine ⟨0, ?_, by unfold numI; rw [if_pos h0], by decide +kernel⟩
      have d0 : decide ((0 : Int) < ((ns.length : Nat) : Int)) = false := dF (by omega)
      simp only [mkFn, padS, sSeq, sSet, sRet, sIf, sNil, mBin, mFn, mo, mv, vm, vo, vK, oVar, osC, osN, cM, derefs, deref, putR, keepS, List.length_cons, List.length_nil, List.replicate, List.cons_append, List.nil_append, List.getElem?_cons_zero, List.getElem?_cons_succ, List.set_cons_zero, List.set_cons_succ, Sl.lk, cond_true, cond_false, Nat.ble, e_lenS, e_gt, d0]
    · obtain ⟨z, e, m⟩ := atD_in (p := p) (Nat.pos_of_ne_zero h0)
      refine ⟨z, ?_, by unfold numI; rw [if_neg h0, e]; rfl, bits_lt (abs_of_bits (hb z m)) (by decide) (by decide)⟩
      have d0 : decide ((0 : Int) < ((ns.length : Nat) : Int)) = true := dT (by omega)
      have cm : cMod p ((ns.length : Nat) : Int) = true := c_mod (by omega)
      simp only [mkFn, padS, sSeq, sSet, sRet, sIf, sNil, mBin, mFn, mo, mv, vm, vo, vK, oVar, osC, osN, cM, derefs, deref, putR, keepS, List.length_cons, List.length_nil, List.replicate, List.cons_append, List.nil_append, List.getElem?_cons_zero, List.getElem?_cons_succ, List.set_cons_zero, List.set_cons_succ, Sl.lk, cond_true, cond_false, Nat.ble, e_lenS, e_gt, d0, e_int, e_mod cm, e_ixs e]
  obtain ⟨z, e1, e2, e3⟩ := s1
  have hh : numI ns p = numI ns p := rfl
  clear nn
  have s2 : (sIf (cM (mBin fLt (oVar 3) (vo (vK (.int 0))))) (sSet 3 (mBin fSub (vo (vK (.int 1))) (mo (mBin fMulI (vo (vK (.int 2))) (oVar 3))))) (sNil)) [.fr (.scr ns) false, .fr (.int p) false, .fr (.int f) false, .fr (.int z) false] = some (.nx [.fr (.scr ns) false, .fr (.int p) false, .fr (.int f) false, .fr (.int (numI ns p)) false]) := by
    have c3 : cMul 2 z = true := cMul_of (by decide +kernel) e3
    rw [← e2]
    by_cases hz : z < 0
    · rw [if_pos hz]
      have d0 : decide (z < 0) = true := dT hz
      simp only [mkFn, padS, sSeq, sSet, sRet, sIf, sNil, mBin, mFn, mo, mv, vm, vo, vK, oVar, osC, osN, cM, derefs, deref, putR, keepS, List.length_cons, List.length_nil, List.replicate, List.cons_append, List.nil_append, List.getElem?_cons_zero, List.getElem?_cons_succ, List.set_cons_zero, List.set_cons_succ, Sl.lk, cond_true, cond_false, Nat.ble, e_lt, d0, e_sub, e_mul c3]
    · rw [if_neg hz]
      have d0 : decide (z < 0) = false := dF hz
      simp only [mkFn, padS, sSeq, sSet, sRet, sIf, sNil, mBin, mFn, mo, mv, vm, vo, vK, oVar, osC, osN, cM, derefs, deref, putR, keepS, List.length_cons, List.length_nil, List.replicate, List.cons_append, List.nil_append, List.getElem?_cons_zero, List.getElem?_cons_succ, List.set_cons_zero, List.set_cons_succ, Sl.lk, cond_true, cond_false, Nat.ble, e_lt, d0]
  refine fn_rt (n := 4) (σ := [.fr (.scr ns) false, .fr (.int p) false, .fr (.int f) false, .fr (.int (numI ns p)) false]) ?_ rfl
  show m_law_rest [.fr (.scr ns) false, .fr (.int p) false, .fr (.int f) false, .no] = _
  unfold m_law_rest
  rw [seq_assoc, sq e1, sq s2]
  by_cases c : f = 0 ∧ p < ns.length ∧ 10 ^ 18 ≤ numI ns p
  · obtain ⟨k1, k2, k3⟩ := c
    have r1 : restI ns p f = numI ns p - 1000000000000000000 := by unfold restI; rw [if_pos ⟨k1, k2, k3⟩, pow18]
    rw [pow18] at k3
    have d1 : decide (f = 0) = true := dT k1
    have d2 : decide (p < ((ns.length : Nat) : Int)) = true := dT k2
    have d3 : decide ((1000000000000000000 : Int) ≤ numI ns p) = true := dT k3
    rw [r1]
    simp only [mkFn, padS, sSeq, sSet, sRet, sIf, sNil, mBin, mFn, mo, mv, vm, vo, vK, oVar, osC, osN, cM, derefs, deref, putR, keepS, List.length_cons, List.length_nil, List.replicate, List.cons_append, List.nil_append, List.getElem?_cons_zero, List.getElem?_cons_succ, List.set_cons_zero, List.set_cons_succ, Sl.lk, cond_true, cond_false, Nat.ble, cAnd, e_eqI, e_lenS, e_lt, e_ge, pow1018, d1, d2, d3, e_sub]
  · have r1 : restI ns p f = mixedI (numI ns p + f * 1000003) p := by unfold restI; rw [if_neg c]
    have s3 : (sIf (cAnd (cM (mBin fEq (oVar 2) (vo (vK (.int 0))))) (cAnd (cM (mBin fLt (oVar 1) (mo (mFn fLen (osC (oVar 0) (osN)))))) (cM (mBin fGe (oVar 3) (mo (mBin fPow (vo (vK (.int 10))) (vo (vK (.int 18))))))))) (sRet (mBin fSub (oVar 3) (mo (mBin fPow (vo (vK (.int 10))) (vo (vK (.int 18))))))) (sNil)) [.fr (.scr ns) false, .fr (.int p) false, .fr (.int f) false, .fr (.int (numI ns p)) false] = some (.nx [.fr (.scr ns) false, .fr (.int p) false, .fr (.int f) false, .fr (.int (numI ns p)) false]) := by
      rw [pow18] at c
      by_cases k1 : f = 0
      · have d1 : decide (f = 0) = true := dT k1
        by_cases k2 : p < ns.length
        · have d2 : decide (p < ((ns.length : Nat) : Int)) = true := dT k2
          have d3 : decide ((1000000000000000000 : Int) ≤ numI ns p) = false := dF fun k3 => c ⟨k1, k2, k3⟩
          simp only [mkFn, padS, sSeq, sSet, sRet, sIf, sNil, mBin, mFn, mo, mv, vm, vo, vK, oVar, osC, osN, cM, derefs, deref, putR, keepS, List.length_cons, List.length_nil, List.replicate, List.cons_append, List.nil_append, List.getElem?_cons_zero, List.getElem?_cons_succ, List.set_cons_zero, List.set_cons_succ, Sl.lk, cond_true, cond_false, Nat.ble, cAnd, e_eqI, e_lenS, e_lt, e_ge, pow1018, d1, d2, d3, e_sub]
        · have d2 : decide (p < ((ns.length : Nat) : Int)) = false := dF k2
          simp only [mkFn, padS, sSeq, sSet, sRet, sIf, sNil, mBin, mFn, mo, mv, vm, vo, vK, oVar, osC, osN, cM, derefs, deref, putR, keepS, List.length_cons, List.length_nil, List.replicate, List.cons_append, List.nil_append, List.getElem?_cons_zero, List.getElem?_cons_succ, List.set_cons_zero, List.set_cons_succ, Sl.lk, cond_true, cond_false, Nat.ble, cAnd, e_eqI, e_lenS, e_lt, d1, d2]
      · have d1 : decide (f = 0) = false := dF k1
        simp only [mkFn, padS, sSeq, sSet, sRet, sIf, sNil, mBin, mFn, mo, mv, vm, vo, vK, oVar, osC, osN, cM, derefs, deref, putR, keepS, List.length_cons, List.length_nil, List.replicate, List.cons_append, List.nil_append, List.getElem?_cons_zero, List.getElem?_cons_succ, List.set_cons_zero, List.set_cons_succ, Sl.lk, cond_true, cond_false, Nat.ble, cAnd, e_eqI, d1]
    rw [sq s3, r1]
    simp only [mkFn, padS, sSeq, sSet, sRet, sIf, sNil, mBin, mFn, mo, mv, vm, vo, vK, oVar, osC, osN, cM, derefs, deref, putR, keepS, List.length_cons, List.length_nil, List.replicate, List.cons_append, List.nil_append, List.getElem?_cons_zero, List.getElem?_cons_succ, List.set_cons_zero, List.set_cons_succ, Sl.lk, cond_true, cond_false, Nat.ble, mCall, argSls, argSl, owns, noDup, putBack, isOw, e_add, e_mul c1, mx, Bool.and_true, Nat.beq]
def PoolD (ns : List Int) (j n f : Int) : D := .lst [.scr ns, .int j, .int n, .int f]
section
variable {a b c d x : D}
theorem e_p0 : fIx (.lst [a, b, c, d]) (.int 0) = some (.v a) := rfl
theorem e_p1 : fIx (.lst [a, b, c, d]) (.int 1) = some (.v b) := rfl
theorem e_p2 : fIx (.lst [a, b, c, d]) (.int 2) = some (.v c) := rfl
theorem e_p3 : fIx (.lst [a, b, c, d]) (.int 3) = some (.v d) := rfl
theorem e_w1 : fSet (.lst [a, b, c, d]) (.int 1) x = some (.lst [a, x, c, d]) := rfl
theorem e_w2 : fSet (.lst [a, b, c, d]) (.int 2) x = some (.lst [a, b, x, d]) := rfl
theorem e_w3 : fSet (.lst [a, b, c, d]) (.int 3) x = some (.lst [a, b, c, x]) := rfl
end
theorem sz4 : szOk (0 + 1 + 1 + 1 + 1) = true := by decide
theorem pool_eq (hb : SB ns) : f_law_pool [.fr (.scr ns) false] = some (.n (PoolD ns 0 (restI ns 0 0) 0), [.no]) := by
  have r := rest_eq (p := 0) (f := 0) hb (by decide +kernel) (by decide +kernel)
  refine fn_rt (n := 1) (σ := [.fr (.scr ns) false]) ?_ rfl
  show m_law_pool [.fr (.scr ns) false] = _
  simp only [m_law_pool, mkFn, padS, sSeq, sSet, sRet, sRetV, sIf, sNil, sPut, sExpr, mBin, mFn, mo, mv, vm, vo, vK, oVar, vVar, osC, osN, vsC, vsN, mLst, cM, derefs, deref, putR, keepS, isOw, List.length_cons, List.length_nil, List.replicate, List.cons_append, List.nil_append, List.getElem?_cons_zero, List.getElem?_cons_succ, List.set_cons_zero, List.set_cons_succ, Sl.lk, cond_true, cond_false, Nat.ble, mCall, argSls, argSl, owns, noDup, putBack, relk, Bool.and_true, Nat.beq, List.all_nil, r, sz4]
  rfl
theorem next_eq {j n : Int} (hb : SB ns) (hj : (j + 1).natAbs < 2 ^ 100) : f_law_next [.ow (PoolD ns j n f) true] = some (.v .non, [.ow (PoolD ns (j + 1) (restI ns (j + 1) 0) 0) true]) := by
  have r := rest_eq (p := j + 1) (f := 0) hb hj (by decide +kernel)
  refine fn_nx (n := 1) (σ := [.ow (PoolD ns (j + 1) (restI ns (j + 1) 0) 0) true]) ?_ rfl
  show m_law_next [.ow (.lst [.scr ns, .int j, .int n, .int f]) true] = _
  simp only [m_law_next, mkFn, padS, sSeq, sSet, sRet, sRetV, sIf, sNil, sPut, sExpr, mBin, mFn, mo, mv, vm, vo, vK, oVar, vVar, osC, osN, vsC, vsN, mLst, cM, derefs, deref, putR, keepS, isOw, List.length_cons, List.length_nil, List.replicate, List.cons_append, List.nil_append, List.getElem?_cons_zero, List.getElem?_cons_succ, List.set_cons_zero, List.set_cons_succ, Sl.lk, cond_true, cond_false, Nat.ble, mCall, argSls, argSl, owns, noDup, putBack, relk, Bool.and_true, Nat.beq, List.all_nil, e_p0, e_p1, e_w1, e_w2, e_w3, e_add, r]
  rfl
theorem draw_eq {j n l : Int} (hb : SB ns) (hj : j.natAbs < 2 ^ 100) (hf : (f + 1).natAbs < 2 ^ 100) (h0 : 0 < l) (h1 : l < 2 ^ 100) :
    f_law_draw [.ow (PoolD ns j n f) true, .fr (.int l) false] = some (.v (.int ((if n ≤ 1 then restI ns j (f + 1) else n).fmod l)), [.ow (PoolD ns j ((if n ≤ 1 then restI ns j (f + 1) else n).fdiv l) (if n ≤ 1 then f + 1 else f)) true, .no]) := by
  have r := rest_eq (p := j) (f := f + 1) hb hj hf
  have cd : ∀ z : Int, cDiv z l = true := fun z => by
    unfold cDiv
    have e : (l == 0) = false := by simp; omega
    have g := PySem.Flt.log2_lt_of (n := l.natAbs) (k := 100) (by decide) (by omega)
    rw [e, show Nat.blt l.natAbs.log2 9000 = true from Nat.ble_eq_true_of_le (by omega)]; rfl
  have cm : ∀ z : Int, cMod z l = true := fun z => c_mod h0
  have key : ∀ z g : Int, (sSeq (sSet 2 (mBin fMod (mo (mFn fInt (osC (mo (mBin fIx (oVar 0) (vo (vK (.int 2))))) (osN)))) (oVar 1))) (sSeq (sPut fSet 0 (vo (vK (.int 2))) (mv (mBin fDiv (mo (mFn fInt (osC (mo (mBin fIx (oVar 0) (vo (vK (.int 2))))) (osN)))) (oVar 1)))) (sRetV 2)))
      [.ow (.lst [.scr ns, .int j, .int z, .int g]) true, .fr (.int l) false, .no] = some (.rt (.v (.int (z.fmod l))) [.ow (.lst [.scr ns, .int j, .int (z.fdiv l), .int g]) true, .fr (.int l) false, .fr (.int (z.fmod l)) false]) := by
    intro z g
    simp only [mkFn, padS, sSeq, sSet, sRet, sRetV, sIf, sNil, sPut, sExpr, mBin, mFn, mo, mv, vm, vo, vK, oVar, vVar, osC, osN, vsC, vsN, mLst, cM, derefs, deref, putR, keepS, isOw, List.length_cons, List.length_nil, List.replicate, List.cons_append, List.nil_append, List.getElem?_cons_zero, List.getElem?_cons_succ, List.set_cons_zero, List.set_cons_succ, Sl.lk, cond_true, cond_false, Nat.ble, mCall, argSls, argSl, owns, noDup, putBack, relk, Bool.and_true, Nat.beq, List.all_nil, e_p2, e_w2, e_int, e_mod (cm _), e_div (cd _)]
  refine fn_rt (n := 3) (σ := [.ow (.lst [.scr ns, .int j, .int ((if n ≤ 1 then restI ns j (f + 1) else n).fdiv l), .int (if n ≤ 1 then f + 1 else f)]) true, .fr (.int l) false, .fr (.int ((if n ≤ 1 then restI ns j (f + 1) else n).fmod l)) false]) ?_ rfl
  show m_law_draw [.ow (.lst [.scr ns, .int j, .int n, .int f]) true, .fr (.int l) false, .no] = _
  unfold m_law_draw
  by_cases h : n ≤ 1
  · rw [if_pos h, if_pos h]
    refine (sq (σ1 := [.ow (.lst [.scr ns, .int j, .int (restI ns j (f + 1)), .int (f + 1)]) true, .fr (.int l) false, .no]) ?_).trans (key _ _)
    have d0 : decide (n ≤ 1) = true := dT h
    simp only [mkFn, padS, sSeq, sSet, sRet, sRetV, sIf, sNil, sPut, sExpr, mBin, mFn, mo, mv, vm, vo, vK, oVar, vVar, osC, osN, vsC, vsN, mLst, cM, derefs, deref, putR, keepS, isOw, List.length_cons, List.length_nil, List.replicate, List.cons_append, List.nil_append, List.getElem?_cons_zero, List.getElem?_cons_succ, List.set_cons_zero, List.set_cons_succ, Sl.lk, cond_true, cond_false, Nat.ble, mCall, argSls, argSl, owns, noDup, putBack, relk, Bool.and_true, Nat.beq, List.all_nil, e_p0, e_p1, e_p2, e_p3, e_w2, e_w3, e_add, e_le, d0, r]
  · rw [if_neg h, if_neg h]
    refine (sq (σ1 := [.ow (.lst [.scr ns, .int j, .int n, .int f]) true, .fr (.int l) false, .no]) ?_).trans (key _ _)
    have d0 : decide (n ≤ 1) = false := dF h
    simp only [mkFn, padS, sSeq, sSet, sRet, sRetV, sIf, sNil, sPut, sExpr, mBin, mFn, mo, mv, vm, vo, vK, oVar, vVar, osC, osN, vsC, vsN, mLst, cM, derefs, deref, putR, keepS, isOw, List.length_cons, List.length_nil, List.replicate, List.cons_append, List.nil_append, List.getElem?_cons_zero, List.getElem?_cons_succ, List.set_cons_zero, List.set_cons_succ, Sl.lk, cond_true, cond_false, Nat.ble, mCall, argSls, argSl, owns, noDup, putBack, relk, Bool.and_true, Nat.beq, List.all_nil, e_p2, e_le, d0]
end
/-- a drawer good for k more draws or turns -/
def PG (k : Nat) (d : D) : Prop := ∃ ns j n f, d = PoolD ns j n f ∧ SB ns ∧ 0 ≤ j ∧ j + k ≤ 1000000000 ∧ 0 ≤ f ∧ f + k ≤ 1000000000 ∧ 0 ≤ n
theorem PG.mono {k k' : Nat} {d : D} (h : PG k d) (e : k' ≤ k) : PG k' d := by
  obtain ⟨ns, j, n, f, rfl, hb, h1, h2, h3, h4, h5⟩ := h
  exact ⟨ns, j, n, f, rfl, hb, h1, by omega, h3, by omega, h5⟩
theorem pool_ok {ns : List Int} (hb : SB ns) : ∃ d, f_law_pool [.fr (.scr ns) false] = some (.n d, [.no]) ∧ PG 1000000000 d :=
  ⟨_, pool_eq hb, ns, 0, _, 0, rfl, hb, by decide, by decide, by decide, by decide, (restI_nn hb 0 0).1⟩
theorem next_ok {k : Nat} {d : D} (h : PG (k + 1) d) : ∃ d', f_law_next [.ow d true] = some (.v .non, [.ow d' true]) ∧ PG k d' := by
  obtain ⟨ns, j, n, f, rfl, hb, h1, h2, h3, h4, h5⟩ := h
  exact ⟨_, next_eq hb (by omega), ns, j + 1, _, 0, rfl, hb, by omega, by omega, by decide, by omega, (restI_nn hb _ _).1⟩
theorem draw_ok {k : Nat} {d : D} {l : Int} (h : PG (k + 1) d) (h0 : 0 < l) (hl : l < 2 ^ 100) : ∃ v d', f_law_draw [.ow d true, .fr (.int l) false] = some (.v (.int v), [.ow d' true, .no]) ∧ 0 ≤ v ∧ v < l ∧ PG k d' := by
  obtain ⟨ns, j, n, f, rfl, hb, h1, h2, h3, h4, h5⟩ := h
  refine ⟨_, _, draw_eq hb (by omega) (by omega) h0 hl, (fmod_nn _ h0).1, (fmod_nn _ h0).2, ns, j, _, _, rfl, hb, h1, by omega, ?_, ?_, ?_⟩
  · split <;> omega
  · split <;> omega
  · have q : 0 ≤ (if n ≤ 1 then restI ns j (f + 1) else n) := by
      have := (restI_nn hb j (f + 1)).1
      split <;> omega
    rw [Int.fdiv_eq_ediv_of_nonneg _ (by omega)]
    exact Int.ediv_nonneg q (by omega)
/-- options[draw(pool, len(options))] -/
theorem pick_ok {k : Nat} {d : D} {xs : List D} (h : PG (k + 1) d) (h0 : xs ≠ []) (hl : xs.length < 1000000) : ∃ x d', f_law_pick [.ow d true, .fr (.lst xs) false] = some (.v x, [.ow d' true, .no]) ∧ x ∈ xs ∧ PG k d' := by
  have hn : 0 < xs.length := List.length_pos_iff.mpr h0
  obtain ⟨v, d', e, h1, h2, g⟩ := draw_ok (l := (xs.length : Int)) h (by omega) (by omega)
  obtain ⟨m, rfl⟩ := Int.eq_ofNat_of_zero_le h1
  have hm : m < xs.length := by omega
  have ix : fIx (.lst xs) (.int (m : Int)) = some (.v xs[m]) := by
    show fOr fIxL _ (.lst xs) (.int (m : Int)) = _
    unfold fOr
    have q : atD xs (m : Int) = some xs[m] := by
      unfold atD
      show (match (bif Nat.blt m xs.length then some m else none) with | some j => xs[j]? | none => none) = _
      rw [show Nat.blt m xs.length = true from Nat.ble_eq_true_of_le hm]
      exact List.getElem?_eq_getElem hm
    show (match (match atD xs (m : Int) with | some d => some (R.v d) | none => none) with | some r => some r | none => _) = _
    rw [q]
  refine ⟨xs[m], d', ?_, List.getElem_mem _, g⟩
  refine fn_rt (n := 2) (σ := [.ow d' true, .fr (.lst xs) false]) ?_ rfl
  show m_law_pick [.ow d true, .fr (.lst xs) false] = _
  simp only [m_law_pick, mkFn, padS, sSeq, sSet, sRet, sRetV, sIf, sNil, sPut, sExpr, mBin, mFn, mo, mv, vm, vo, vK, oVar, vVar, osC, osN, vsC, vsN, mLst, cM, derefs, deref, putR, keepS, isOw, List.length_cons, List.length_nil, List.replicate, List.cons_append, List.nil_append, List.getElem?_cons_zero, List.getElem?_cons_succ, List.set_cons_zero, List.set_cons_succ, Sl.lk, cond_true, cond_false, Nat.ble, mCall, argSls, argSl, owns, noDup, putBack, relk, Bool.and_true, Nat.beq, List.all_nil, e_lenL, e, ix]
end P
end Mi

set_option Elab.async false
set_option linter.all false
set_option maxRecDepth 100000
set_option maxHeartbeats 4000000
namespace Law
open PySem PySem.Spec PyProof.Rows L2 Mi Mi.P
def topS (i : Nat) : Stmt := PySem.Challenge.pw_growth_k36_whole_fractions_and_sums.main.body.getD i (.Pass ⟨0, 0, 0, 0⟩)
def g_NOUGHT : D := (.tup [(.int 0), (.int 1)])
abbrev s_frac : Stmt := topS 3
theorem sc_frac : FnScope ["p", "q", "shared"] ["p", "q"] (defScope s_frac) := ⟨rfl, rfl, rfl, by decide +kernel, rfl, by decide +kernel, by decide +kernel⟩
def m_frac : MS := sSeq (sIf (cM (mBin fLt (oVar 1) (vo (vK (.int 0))))) (sPar 0 1 (vsC (mv (mNeg (oVar 0))) (vsC (mv (mNeg (oVar 1))) (vsN)))) (sNil)) (sSeq (sSet 2 (mFn fGcd (osC (oVar 0) (osC (oVar 1) (osN))))) (sRet (mTup (vsC (mv (mBin fDiv (oVar 0) (oVar 2))) (vsC (mv (mBin fDiv (oVar 1) (oVar 2))) (vsN))))))
def f_frac : Fn := mkFn 3 m_frac
abbrev s_plus : Stmt := topS 4
theorem sc_plus : FnScope ["a", "b"] ["a", "b"] (defScope s_plus) := ⟨rfl, rfl, rfl, by decide +kernel, rfl, by decide +kernel, by decide +kernel⟩
def m_plus : MS := sRet (mCall 2 f_frac (osC (vo (mv (mBin fAdd (mo (mBin fMulI (mo (mBin fIx (oVar 0) (vo (vK (.int 0))))) (mo (mBin fIx (oVar 1) (vo (vK (.int 1))))))) (mo (mBin fMulI (mo (mBin fIx (oVar 1) (vo (vK (.int 0))))) (mo (mBin fIx (oVar 0) (vo (vK (.int 1)))))))))) (osC (vo (mv (mBin fMulI (mo (mBin fIx (oVar 0) (vo (vK (.int 1))))) (mo (mBin fIx (oVar 1) (vo (vK (.int 1)))))))) (osN))))
def f_plus : Fn := mkFn 2 m_plus
abbrev s_minus : Stmt := topS 5
theorem sc_minus : FnScope ["a", "b"] ["a", "b"] (defScope s_minus) := ⟨rfl, rfl, rfl, by decide +kernel, rfl, by decide +kernel, by decide +kernel⟩
def m_minus : MS := sRet (mCall 2 f_frac (osC (vo (mv (mBin fSub (mo (mBin fMulI (mo (mBin fIx (oVar 0) (vo (vK (.int 0))))) (mo (mBin fIx (oVar 1) (vo (vK (.int 1))))))) (mo (mBin fMulI (mo (mBin fIx (oVar 1) (vo (vK (.int 0))))) (mo (mBin fIx (oVar 0) (vo (vK (.int 1)))))))))) (osC (vo (mv (mBin fMulI (mo (mBin fIx (oVar 0) (vo (vK (.int 1))))) (mo (mBin fIx (oVar 1) (vo (vK (.int 1)))))))) (osN))))
def f_minus : Fn := mkFn 2 m_minus
abbrev s_times : Stmt := topS 6
theorem sc_times : FnScope ["a", "b"] ["a", "b"] (defScope s_times) := ⟨rfl, rfl, rfl, by decide +kernel, rfl, by decide +kernel, by decide +kernel⟩
def m_times : MS := sRet (mCall 2 f_frac (osC (vo (mv (mBin fMulI (mo (mBin fIx (oVar 0) (vo (vK (.int 0))))) (mo (mBin fIx (oVar 1) (vo (vK (.int 0)))))))) (osC (vo (mv (mBin fMulI (mo (mBin fIx (oVar 0) (vo (vK (.int 1))))) (mo (mBin fIx (oVar 1) (vo (vK (.int 1)))))))) (osN))))
def f_times : Fn := mkFn 2 m_times
abbrev s_over : Stmt := topS 7
theorem sc_over : FnScope ["a", "b"] ["a", "b"] (defScope s_over) := ⟨rfl, rfl, rfl, by decide +kernel, rfl, by decide +kernel, by decide +kernel⟩
def m_over : MS := sRet (mCall 2 f_frac (osC (vo (mv (mBin fMulI (mo (mBin fIx (oVar 0) (vo (vK (.int 0))))) (mo (mBin fIx (oVar 1) (vo (vK (.int 1)))))))) (osC (vo (mv (mBin fMulI (mo (mBin fIx (oVar 0) (vo (vK (.int 1))))) (mo (mBin fIx (oVar 1) (vo (vK (.int 0)))))))) (osN))))
def f_over : Fn := mkFn 2 m_over
abbrev s_less : Stmt := topS 8
theorem sc_less : FnScope ["a", "b"] ["a", "b"] (defScope s_less) := ⟨rfl, rfl, rfl, by decide +kernel, rfl, by decide +kernel, by decide +kernel⟩
def m_less : MS := sRet (mBin fLt (mo (mBin fMulI (mo (mBin fIx (oVar 0) (vo (vK (.int 0))))) (mo (mBin fIx (oVar 1) (vo (vK (.int 1))))))) (mo (mBin fMulI (mo (mBin fIx (oVar 1) (vo (vK (.int 0))))) (mo (mBin fIx (oVar 0) (vo (vK (.int 1))))))))
def f_less : Fn := mkFn 2 m_less
abbrev s_sum_of : Stmt := topS 9
theorem sc_sum_of : FnScope ["numbers", "found", "number"] ["numbers"] (defScope s_sum_of) := ⟨rfl, rfl, rfl, by decide +kernel, rfl, by decide +kernel, by decide +kernel⟩
def m_sum_of_1 : MS := sSet 1 (vm (vK g_NOUGHT))
def m_sum_of_2b : MS := sSet 1 (mCall 2 f_plus (osC (oVar 1) (osC (oVar 2) (osN))))
def m_sum_of_2 : MS := sForI (iSq (vVar 0)) (gN 2) (m_sum_of_2b)
def m_sum_of_3 : MS := sRetV 1
def m_sum_of : MS := sSeq m_sum_of_1 (sSeq m_sum_of_2 (m_sum_of_3))
def f_sum_of : Fn := mkFn 3 m_sum_of
abbrev s_dot : Stmt := topS 10
theorem sc_dot : FnScope ["one", "other", "a", "b"] ["one", "other"] (defScope s_dot) := ⟨rfl, rfl, rfl, by decide +kernel, rfl, by decide +kernel, by decide +kernel⟩
def m_dot : MS := sRet (mCall 1 f_sum_of (osC (mo (mLc (iZs (vsC (vVar 0) (vsC (vVar 1) (vsN)))) (gT 2 (gsC (gN 2) (gsC (gN 3) (gsN)))) (cYes) (mv (mCall 2 f_times (osC (oVar 2) (osC (oVar 3) (osN))))) [2, 3])) (osN)))
def f_dot : Fn := mkFn 4 m_dot
abbrev s_law_mixed : Stmt := topS 12
theorem sc_law_mixed : FnScope ["number", "place", "first", "second", "third"] ["number", "place"] (defScope s_law_mixed) := ⟨rfl, rfl, rfl, by decide +kernel, rfl, by decide +kernel, by decide +kernel⟩
abbrev s_law_rest : Stmt := topS 13
theorem sc_law_rest : FnScope ["script", "place", "fills", "number"] ["script", "place", "fills"] (defScope s_law_rest) := ⟨rfl, rfl, rfl, by decide +kernel, rfl, by decide +kernel, by decide +kernel⟩
abbrev s_law_pool : Stmt := topS 14
theorem sc_law_pool : FnScope ["script"] ["script"] (defScope s_law_pool) := ⟨rfl, rfl, rfl, by decide +kernel, rfl, by decide +kernel, by decide +kernel⟩
abbrev s_law_next : Stmt := topS 15
theorem sc_law_next : FnScope ["pool"] ["pool"] (defScope s_law_next) := ⟨rfl, rfl, rfl, by decide +kernel, rfl, by decide +kernel, by decide +kernel⟩
abbrev s_law_draw : Stmt := topS 16
theorem sc_law_draw : FnScope ["pool", "limit", "value"] ["pool", "limit"] (defScope s_law_draw) := ⟨rfl, rfl, rfl, by decide +kernel, rfl, by decide +kernel, by decide +kernel⟩
abbrev s_law_pick : Stmt := topS 17
theorem sc_law_pick : FnScope ["pool", "options"] ["pool", "options"] (defScope s_law_pick) := ⟨rfl, rfl, rfl, by decide +kernel, rfl, by decide +kernel, by decide +kernel⟩
abbrev s_law_same : Stmt := topS 18
theorem sc_law_same : FnScope ["answer", "due", "k", "key"] ["answer", "due"] (defScope s_law_same) := ⟨rfl, rfl, rfl, by decide +kernel, rfl, by decide +kernel, by decide +kernel⟩
def m_law_same_1 (c_self : Fn) : MS := sIf (cOr (cM (mBin (fIs false) (oVar 1) (vo (vK .non)))) (cOr (cM (mBin (fIs false) (oVar 1) (vo (vK (.bl true))))) (cM (mBin (fIs false) (oVar 1) (vo (vK (.bl false))))))) (sRet (mOr (mo (mAnd (mo (mBin (fIs false) (oVar 1) (vo (vK .non)))) (mo (mBin (fIs false) (oVar 0) (vo (vK .non)))))) (mo (mOr (mo (mAnd (mo (mBin (fIs false) (oVar 1) (vo (vK (.bl true))))) (mo (mBin (fIs false) (oVar 0) (vo (vK (.bl true))))))) (mo (mAnd (mo (mBin (fIs false) (oVar 1) (vo (vK (.bl false))))) (mo (mBin (fIs false) (oVar 0) (vo (vK (.bl false))))))))))) (sNil)
def m_law_same_2 (c_self : Fn) : MS := sIf (cO (mo (mIsi .int (oVar 1)))) (sRet (mAnd (mo (mIsi .int (oVar 0))) (mo (mAnd (mo (mNotO (mo (mIsi .bool (oVar 0))))) (mo (mBin fEq (oVar 0) (oVar 1))))))) (sNil)
def m_law_same_3 (c_self : Fn) : MS := sIf (cO (mo (mIsi .str (oVar 1)))) (sRet (mAnd (mo (mIsi .str (oVar 0))) (mo (mBin fEq (oVar 0) (oVar 1))))) (sNil)
def m_law_same_4 (c_self : Fn) : MS := sIf (cAnd (cO (mo (mIsi .tuple (oVar 1)))) (cNot (cO (mo (mIsi .tuple (oVar 0)))))) (sRet (vm (vK (.bl false)))) (sNil)
def m_law_same_5 (c_self : Fn) : MS := sIf (cAnd (cO (mo (mIsi .list (oVar 1)))) (cNot (cO (mo (mIsi .list (oVar 0)))))) (sRet (vm (vK (.bl false)))) (sNil)
def m_law_same_6 (c_self : Fn) : MS := sIf (cO (mo (mIsi .dict (oVar 1)))) (sNever) (sNil)
def m_law_same_7 (c_self : Fn) : MS := sIf (cM (mBin fNe (mo (mFn fLen (osC (oVar 0) (osN)))) (mo (mFn fLen (osC (oVar 1) (osN)))))) (sRet (vm (vK (.bl false)))) (sNil)
def m_law_same_8b (c_self : Fn) : MS := sIf (cNot (cO (mo (mCall 2 c_self (osC (mo (mBin fIx (oVar 0) (oVar 2))) (osC (mo (mBin fIx (oVar 1) (oVar 2))) (osN))))))) (sRet (vm (vK (.bl false)))) (sNil)
def m_law_same_8 (c_self : Fn) : MS := sForI (iR1 (osC (mo (mFn fLen (osC (oVar 1) (osN)))) (osN))) (gN 2) (m_law_same_8b c_self)
def m_law_same_9 (c_self : Fn) : MS := sRet (vm (vK (.bl true)))
def m_law_same (c_self : Fn) : MS := sSeq (m_law_same_1 c_self) (sSeq (m_law_same_2 c_self) (sSeq (m_law_same_3 c_self) (sSeq (m_law_same_4 c_self) (sSeq (m_law_same_5 c_self) (sSeq (m_law_same_6 c_self) (sSeq (m_law_same_7 c_self) (sSeq (m_law_same_8 c_self) ((m_law_same_9 c_self)))))))))
def f_law_same : Nat → Fn
  | 0 => fun _ => none
  | k + 1 => mkFn 4 (m_law_same (f_law_same k))
abbrev s_law_moved : Stmt := topS 19
theorem sc_law_moved : FnScope ["pool", "items", "left", "k"] ["pool", "items"] (defScope s_law_moved) := ⟨rfl, rfl, rfl, by decide +kernel, rfl, by decide +kernel, by decide +kernel⟩
def m_law_moved_1 : MS := sSet 2 (mFn fListOf (osC (oVar 1) (osN)))
def m_law_moved_2 : MS := sRet (mLc (iR1 (osC (mo (mFn fLen (osC (oVar 1) (osN)))) (osN))) (gN 3) (cYes) (mv (mMut fPopAt 2 (vsC (mv (mCall 2 f_law_draw (osC (oVar 0) (osC (mo (mFn fLen (osC (oVar 2) (osN)))) (osN))))) (vsN)))) [3])
def m_law_moved : MS := sSeq m_law_moved_1 (m_law_moved_2)
def f_law_moved : Fn := mkFn 4 m_law_moved
abbrev s_law_gcd : Stmt := topS 20
theorem sc_law_gcd : FnScope ["one", "other", "step"] ["one", "other"] (defScope s_law_gcd) := ⟨rfl, rfl, rfl, by decide +kernel, rfl, by decide +kernel, by decide +kernel⟩
def m_law_gcd : MS := sSeq (sForI (iR1 (osC (vo (vK (.int 200))) (osN))) (gN 2) (sIf (cM (mBin fGt (oVar 1) (vo (vK (.int 0))))) (sPar 0 1 (vsC (vVar 1) (vsC (mv (mBin fMod (mo (mFn fInt (osC (oVar 0) (osN)))) (oVar 1))) (vsN)))) (sNil))) (sRetV 0)
def f_law_gcd : Fn := mkFn 3 m_law_gcd
abbrev s_law_same_worth : Stmt := topS 21
theorem sc_law_same_worth : FnScope ["told", "p", "q"] ["told", "p", "q"] (defScope s_law_same_worth) := ⟨rfl, rfl, rfl, by decide +kernel, rfl, by decide +kernel, by decide +kernel⟩
def m_law_same_worth : MS := sRet (mAnd (mo (mIsi .tuple (oVar 0))) (mo (mAnd (mo (mBin fEq (mo (mFn fLen (osC (oVar 0) (osN)))) (vo (vK (.int 2))))) (mo (mAnd (mo (mBin fGt (mo (mBin fIx (oVar 0) (vo (vK (.int 1))))) (vo (vK (.int 0))))) (mo (mAnd (mo (mBin fEq (mo (mBin fMulI (mo (mBin fIx (oVar 0) (vo (vK (.int 0))))) (oVar 2))) (mo (mBin fMulI (oVar 1) (mo (mBin fIx (oVar 0) (vo (vK (.int 1))))))))) (mo (mBin fEq (mo (mCall 2 f_law_gcd (osC (vo (mv (mIf (cM (mBin fGt (mo (mBin fIx (oVar 0) (vo (vK (.int 0))))) (vo (vK (.int 0))))) (mBin fIx (oVar 0) (vo (vK (.int 0)))) (mNeg (mo (mBin fIx (oVar 0) (vo (vK (.int 0))))))))) (osC (vo (mv (mBin fIx (oVar 0) (vo (vK (.int 1)))))) (osN))))) (vo (vK (.int 1))))))))))))
def f_law_same_worth : Fn := mkFn 3 m_law_same_worth
abbrev s_law : Stmt := topS 22
theorem sc_law : FnScope ["script", "pool", "rows", "k", "scale", "told", "a", "b", "c", "whole", "one", "other", "due", "part", "p", "q"] ["script"] (defScope s_law) := ⟨rfl, rfl, rfl, by decide +kernel, rfl, by decide +kernel, by decide +kernel⟩
def m_law_1 : MS := sSet 1 (mCall 1 f_law_pool (osC (oVar 0) (osN)))
def m_law_2 : MS := sSet 2 (mLst (vsN))
def m_law_3b : MS := sSeq (sExpr (mCall 1 f_law_next (osC (oVar 1) (osN)))) (sSeq (sSet 4 (mCall 2 f_law_pick (osC (oVar 1) (osC (mo (mLst (vsC (vK (.int 1)) (vsC (vK (.int 1)) (vsC (vK (.int 6)) (vsC (mv (mBin fPow (vo (vK (.int 10))) (vo (vK (.int 12))))) (vsN))))))) (osN))))) (sExpr (mMut fAppend 2 (vsC (mv (mTup (vsC (mv (mBin fMulI (mo (mBin fSub (mo (mCall 2 f_law_draw (osC (oVar 1) (osC (vo (vK (.int 41))) (osN))))) (vo (vK (.int 20))))) (oVar 4))) (vsC (mv (mBin fMulI (mo (mBin fMulI (mo (mBin fAdd (vo (vK (.int 1))) (mo (mCall 2 f_law_draw (osC (oVar 1) (osC (vo (vK (.int 12))) (osN))))))) (mo (mCall 2 f_law_pick (osC (oVar 1) (osC (mo (mLst (vsC (vK (.int 1)) (vsC (mv (mNeg (vo (vK (.int 1))))) (vsN))))) (osN))))))) (mo (mCall 2 f_law_pick (osC (oVar 1) (osC (mo (mLst (vsC (vK (.int 1)) (vsC (vVar 4) (vsN))))) (osN))))))) (vsN))))) (vsN)))))
def m_law_3 : MS := sForI (iR1 (osC (vo (vK (.int 5))) (osN))) (gN 3) (m_law_3b)
def m_law_4 : MS := sSet 5 (mLc (iSq (vVar 2)) (gT 2 (gsC (gN 14) (gsC (gN 15) (gsN)))) (cYes) (mv (mCall 2 f_frac (osC (vo (vVar 14)) (osC (vo (vVar 15)) (osN))))) [14, 15])
def m_law_5 : MS := sIf (cM (mBin fGt (mo (mFn fLen (osC (mo (mLc (iR1 (osC (vo (vK (.int 5))) (osN))) (gN 3) (cNot (cO (mo (mCall 3 f_law_same_worth (osC (mo (mBin fIx (oVar 5) (oVar 3))) (osC (mo (mIf (cM (mBin fGt (mo (mBin fIx (mo (mBin fIx (oVar 2) (oVar 3))) (vo (vK (.int 1))))) (vo (vK (.int 0))))) (mBin fIx (mo (mBin fIx (oVar 2) (oVar 3))) (vo (vK (.int 0)))) (mNeg (mo (mBin fIx (mo (mBin fIx (oVar 2) (oVar 3))) (vo (vK (.int 0)))))))) (osC (mo (mIf (cM (mBin fGt (mo (mBin fIx (mo (mBin fIx (oVar 2) (oVar 3))) (vo (vK (.int 1))))) (vo (vK (.int 0))))) (mBin fIx (mo (mBin fIx (oVar 2) (oVar 3))) (vo (vK (.int 1)))) (mNeg (mo (mBin fIx (mo (mBin fIx (oVar 2) (oVar 3))) (vo (vK (.int 1)))))))) (osN)))))))) (vVar 3) [3])) (osN)))) (vo (vK (.int 0))))) (sRet (vm (vK (.bl false)))) (sNil)
def m_law_6 : MS := sPar3 6 7 8 (vsC (mv (mBin fIx (oVar 5) (vo (vK (.int 0))))) (vsC (mv (mBin fIx (oVar 5) (vo (vK (.int 1))))) (vsC (mv (mBin fIx (oVar 5) (vo (vK (.int 2))))) (vsN))))
def m_law_7 : MS := sIf (cOr (cNot (cO (mo (mCall 3 f_law_same_worth (osC (mo (mCall 2 f_plus (osC (oVar 6) (osC (oVar 7) (osN))))) (osC (mo (mBin fAdd (mo (mBin fMulI (mo (mBin fIx (oVar 6) (vo (vK (.int 0))))) (mo (mBin fIx (oVar 7) (vo (vK (.int 1))))))) (mo (mBin fMulI (mo (mBin fIx (oVar 7) (vo (vK (.int 0))))) (mo (mBin fIx (oVar 6) (vo (vK (.int 1))))))))) (osC (mo (mBin fMulI (mo (mBin fIx (oVar 6) (vo (vK (.int 1))))) (mo (mBin fIx (oVar 7) (vo (vK (.int 1))))))) (osN)))))))) (cNot (cO (mo (mCall 3 f_law_same_worth (osC (mo (mCall 2 f_minus (osC (oVar 6) (osC (oVar 7) (osN))))) (osC (mo (mBin fSub (mo (mBin fMulI (mo (mBin fIx (oVar 6) (vo (vK (.int 0))))) (mo (mBin fIx (oVar 7) (vo (vK (.int 1))))))) (mo (mBin fMulI (mo (mBin fIx (oVar 7) (vo (vK (.int 0))))) (mo (mBin fIx (oVar 6) (vo (vK (.int 1))))))))) (osC (mo (mBin fMulI (mo (mBin fIx (oVar 6) (vo (vK (.int 1))))) (mo (mBin fIx (oVar 7) (vo (vK (.int 1))))))) (osN))))))))) (sRet (vm (vK (.bl false)))) (sNil)
def m_law_8 : MS := sIf (cOr (cNot (cO (mo (mCall 3 f_law_same_worth (osC (mo (mCall 2 f_times (osC (oVar 6) (osC (oVar 7) (osN))))) (osC (mo (mBin fMulI (mo (mBin fIx (oVar 6) (vo (vK (.int 0))))) (mo (mBin fIx (oVar 7) (vo (vK (.int 0))))))) (osC (mo (mBin fMulI (mo (mBin fIx (oVar 6) (vo (vK (.int 1))))) (mo (mBin fIx (oVar 7) (vo (vK (.int 1))))))) (osN)))))))) (cNot (cO (mo (mCall 2 (f_law_same 12) (osC (mo (mCall 2 f_less (osC (oVar 6) (osC (oVar 7) (osN))))) (osC (mo (mBin fLt (mo (mBin fMulI (mo (mBin fIx (oVar 6) (vo (vK (.int 0))))) (mo (mBin fIx (oVar 7) (vo (vK (.int 1))))))) (mo (mBin fMulI (mo (mBin fIx (oVar 7) (vo (vK (.int 0))))) (mo (mBin fIx (oVar 6) (vo (vK (.int 1))))))))) (osN)))))))) (sRet (vm (vK (.bl false)))) (sNil)
def m_law_9 : MS := sIf (cNot (cO (mo (mCall 2 (f_law_same 12) (osC (mo (mLst (vsC (mv (mCall 2 f_plus (osC (mo (mCall 2 f_minus (osC (oVar 6) (osC (oVar 7) (osN))))) (osC (oVar 7) (osN))))) (vsC (mv (mCall 2 f_times (osC (oVar 6) (osC (mo (mCall 2 f_plus (osC (oVar 7) (osC (oVar 8) (osN))))) (osN))))) (vsC (mv (mCall 2 f_less (osC (oVar 6) (osC (oVar 6) (osN))))) (vsN)))))) (osC (mo (mLst (vsC (vVar 6) (vsC (mv (mCall 2 f_plus (osC (mo (mCall 2 f_times (osC (oVar 6) (osC (oVar 7) (osN))))) (osC (mo (mCall 2 f_times (osC (oVar 6) (osC (oVar 8) (osN))))) (osN))))) (vsC (vK (.bl false)) (vsN)))))) (osN))))))) (sRet (vm (vK (.bl false)))) (sNil)
def m_law_10 : MS := sIf (cAnd (cM (mBin fNe (mo (mBin fIx (oVar 7) (vo (vK (.int 0))))) (vo (vK (.int 0))))) (cNot (cO (mo (mCall 2 (f_law_same 12) (osC (mo (mLst (vsC (mv (mCall 2 f_times (osC (mo (mCall 2 f_over (osC (oVar 6) (osC (oVar 7) (osN))))) (osC (oVar 7) (osN))))) (vsC (mv (mCall 2 f_over (osC (oVar 7) (osC (oVar 7) (osN))))) (vsN))))) (osC (mo (mLst (vsC (vVar 6) (vsC (mv (mTup (vsC (vK (.int 1)) (vsC (vK (.int 1)) (vsN))))) (vsN))))) (osN)))))))) (sRet (vm (vK (.bl false)))) (sNil)
def m_law_11 : MS := sSet 9 (mTup (vsC (vK (.int 0)) (vsC (vK (.int 1)) (vsN))))
def m_law_12b : MS := sSet 9 (mTup (vsC (mv (mBin fAdd (mo (mBin fMulI (mo (mBin fIx (oVar 9) (vo (vK (.int 0))))) (mo (mBin fIx (oVar 10) (vo (vK (.int 1))))))) (mo (mBin fMulI (mo (mBin fIx (oVar 10) (vo (vK (.int 0))))) (mo (mBin fIx (oVar 9) (vo (vK (.int 1))))))))) (vsC (mv (mBin fMulI (mo (mBin fIx (oVar 9) (vo (vK (.int 1))))) (mo (mBin fIx (oVar 10) (vo (vK (.int 1))))))) (vsN))))
def m_law_12 : MS := sForI (iSq (vVar 5)) (gN 10) (m_law_12b)
def m_law_13 : MS := sIf (cOr (cNot (cO (mo (mCall 3 f_law_same_worth (osC (mo (mCall 1 f_sum_of (osC (mo (mFn fListOf (osC (oVar 5) (osN)))) (osN)))) (osC (mo (mBin fIx (oVar 9) (vo (vK (.int 0))))) (osC (mo (mBin fIx (oVar 9) (vo (vK (.int 1))))) (osN)))))))) (cNot (cO (mo (mCall 2 (f_law_same 12) (osC (mo (mCall 1 f_sum_of (osC (mo (mLst (vsN))) (osN)))) (osC (mo (mTup (vsC (vK (.int 0)) (vsC (vK (.int 1)) (vsN))))) (osN)))))))) (sRet (vm (vK (.bl false)))) (sNil)
def m_law_14 : MS := sSet 11 (mCall 2 f_law_moved (osC (oVar 1) (osC (oVar 5) (osN))))
def m_law_15 : MS := sSet 12 (mTup (vsC (vK (.int 0)) (vsC (vK (.int 1)) (vsN))))
def m_law_16b : MS := sSeq (sSet 13 (mTup (vsC (mv (mBin fMulI (mo (mBin fIx (mo (mBin fIx (oVar 5) (oVar 3))) (vo (vK (.int 0))))) (mo (mBin fIx (mo (mBin fIx (oVar 11) (oVar 3))) (vo (vK (.int 0))))))) (vsC (mv (mBin fMulI (mo (mBin fIx (mo (mBin fIx (oVar 5) (oVar 3))) (vo (vK (.int 1))))) (mo (mBin fIx (mo (mBin fIx (oVar 11) (oVar 3))) (vo (vK (.int 1))))))) (vsN))))) (sSet 12 (mTup (vsC (mv (mBin fAdd (mo (mBin fMulI (mo (mBin fIx (oVar 12) (vo (vK (.int 0))))) (mo (mBin fIx (oVar 13) (vo (vK (.int 1))))))) (mo (mBin fMulI (mo (mBin fIx (oVar 13) (vo (vK (.int 0))))) (mo (mBin fIx (oVar 12) (vo (vK (.int 1))))))))) (vsC (mv (mBin fMulI (mo (mBin fIx (oVar 12) (vo (vK (.int 1))))) (mo (mBin fIx (oVar 13) (vo (vK (.int 1))))))) (vsN)))))
def m_law_16 : MS := sForI (iR1 (osC (vo (vK (.int 5))) (osN))) (gN 3) (m_law_16b)
def m_law_17 : MS := sRet (mAnd (mo (mCall 3 f_law_same_worth (osC (mo (mCall 2 f_dot (osC (mo (mFn fListOf (osC (oVar 5) (osN)))) (osC (mo (mFn fListOf (osC (oVar 11) (osN)))) (osN))))) (osC (mo (mBin fIx (oVar 12) (vo (vK (.int 0))))) (osC (mo (mBin fIx (oVar 12) (vo (vK (.int 1))))) (osN)))))) (mo (mCall 2 (f_law_same 12) (osC (mo (mCall 2 f_dot (osC (mo (mLst (vsN))) (osC (mo (mLst (vsN))) (osN))))) (osC (mo (mTup (vsC (vK (.int 0)) (vsC (vK (.int 1)) (vsN))))) (osN))))))
def m_law : MS := sSeq m_law_1 (sSeq m_law_2 (sSeq m_law_3 (sSeq m_law_4 (sSeq m_law_5 (sSeq m_law_6 (sSeq m_law_7 (sSeq m_law_8 (sSeq m_law_9 (sSeq m_law_10 (sSeq m_law_11 (sSeq m_law_12 (sSeq m_law_13 (sSeq m_law_14 (sSeq m_law_15 (sSeq m_law_16 (m_law_17))))))))))))))))
def f_law : Fn := mkFn 16 m_law
structure Tx (K : PySem.W.Frag) (mg : Str → Option Value) where
  a_frac : Addr
  d_frac : FuncData
  F_frac : Fun K "frac" "frac" s_frac a_frac d_frac
  b_frac : Binds K d_frac ["p", "q"] []
  g_frac : mg "frac" = some (.ref a_frac)
  a_plus : Addr
  d_plus : FuncData
  F_plus : Fun K "plus" "plus" s_plus a_plus d_plus
  b_plus : Binds K d_plus ["a", "b"] []
  g_plus : mg "plus" = some (.ref a_plus)
  a_minus : Addr
  d_minus : FuncData
  F_minus : Fun K "minus" "minus" s_minus a_minus d_minus
  b_minus : Binds K d_minus ["a", "b"] []
  g_minus : mg "minus" = some (.ref a_minus)
  a_times : Addr
  d_times : FuncData
  F_times : Fun K "times" "times" s_times a_times d_times
  b_times : Binds K d_times ["a", "b"] []
  g_times : mg "times" = some (.ref a_times)
  a_over : Addr
  d_over : FuncData
  F_over : Fun K "over" "over" s_over a_over d_over
  b_over : Binds K d_over ["a", "b"] []
  g_over : mg "over" = some (.ref a_over)
  a_less : Addr
  d_less : FuncData
  F_less : Fun K "less" "less" s_less a_less d_less
  b_less : Binds K d_less ["a", "b"] []
  g_less : mg "less" = some (.ref a_less)
  a_sum_of : Addr
  d_sum_of : FuncData
  F_sum_of : Fun K "sum_of" "sum_of" s_sum_of a_sum_of d_sum_of
  b_sum_of : Binds K d_sum_of ["numbers"] []
  g_sum_of : mg "sum_of" = some (.ref a_sum_of)
  a_dot : Addr
  d_dot : FuncData
  F_dot : Fun K "dot" "dot" s_dot a_dot d_dot
  b_dot : Binds K d_dot ["one", "other"] []
  g_dot : mg "dot" = some (.ref a_dot)
  a_law_mixed : Addr
  d_law_mixed : FuncData
  F_law_mixed : Fun K "_law_mixed" "_law_mixed" s_law_mixed a_law_mixed d_law_mixed
  b_law_mixed : Binds K d_law_mixed ["number", "place"] []
  g_law_mixed : mg "_law_mixed" = some (.ref a_law_mixed)
  a_law_rest : Addr
  d_law_rest : FuncData
  F_law_rest : Fun K "_law_rest" "_law_rest" s_law_rest a_law_rest d_law_rest
  b_law_rest : Binds K d_law_rest ["script", "place", "fills"] []
  g_law_rest : mg "_law_rest" = some (.ref a_law_rest)
  a_law_pool : Addr
  d_law_pool : FuncData
  F_law_pool : Fun K "_law_pool" "_law_pool" s_law_pool a_law_pool d_law_pool
  b_law_pool : Binds K d_law_pool ["script"] []
  g_law_pool : mg "_law_pool" = some (.ref a_law_pool)
  a_law_next : Addr
  d_law_next : FuncData
  F_law_next : Fun K "_law_next" "_law_next" s_law_next a_law_next d_law_next
  b_law_next : Binds K d_law_next ["pool"] []
  g_law_next : mg "_law_next" = some (.ref a_law_next)
  a_law_draw : Addr
  d_law_draw : FuncData
  F_law_draw : Fun K "_law_draw" "_law_draw" s_law_draw a_law_draw d_law_draw
  b_law_draw : Binds K d_law_draw ["pool", "limit"] []
  g_law_draw : mg "_law_draw" = some (.ref a_law_draw)
  a_law_pick : Addr
  d_law_pick : FuncData
  F_law_pick : Fun K "_law_pick" "_law_pick" s_law_pick a_law_pick d_law_pick
  b_law_pick : Binds K d_law_pick ["pool", "options"] []
  g_law_pick : mg "_law_pick" = some (.ref a_law_pick)
  a_law_same : Addr
  d_law_same : FuncData
  F_law_same : Fun K "_law_same" "_law_same" s_law_same a_law_same d_law_same
  b_law_same : Binds K d_law_same ["answer", "due"] []
  g_law_same : mg "_law_same" = some (.ref a_law_same)
  a_law_moved : Addr
  d_law_moved : FuncData
  F_law_moved : Fun K "_law_moved" "_law_moved" s_law_moved a_law_moved d_law_moved
  b_law_moved : Binds K d_law_moved ["pool", "items"] []
  g_law_moved : mg "_law_moved" = some (.ref a_law_moved)
  a_law_gcd : Addr
  d_law_gcd : FuncData
  F_law_gcd : Fun K "_law_gcd" "_law_gcd" s_law_gcd a_law_gcd d_law_gcd
  b_law_gcd : Binds K d_law_gcd ["one", "other"] []
  g_law_gcd : mg "_law_gcd" = some (.ref a_law_gcd)
  a_law_same_worth : Addr
  d_law_same_worth : FuncData
  F_law_same_worth : Fun K "_law_same_worth" "_law_same_worth" s_law_same_worth a_law_same_worth d_law_same_worth
  b_law_same_worth : Binds K d_law_same_worth ["told", "p", "q"] []
  g_law_same_worth : mg "_law_same_worth" = some (.ref a_law_same_worth)
  a_law : Addr
  d_law : FuncData
  F_law : Fun K "law" "law" s_law a_law d_law
  b_law : Binds K d_law ["script"] []
  g_law : mg "law" = some (.ref a_law)
  n_bool : mg "bool" = none
  n_dict : mg "dict" = none
  n_int : mg "int" = none
  n_isinstance : mg "isinstance" = none
  n_len : mg "len" = none
  n_list : mg "list" = none
  n_range : mg "range" = none
  n_str : mg "str" = none
  n_tuple : mg "tuple" = none
  n_zip : mg "zip" = none
  m_gcd : mg "gcd" = some (.builtin "math.gcd")
  x_NOUGHT : GlobD K (mg "NOUGHT") g_NOUGHT
section
variable {P : Program} {w : World} {K : PySem.W.Frag} {mg : Str → Option Value} {base : Heap}
theorem ok_frac (T : Tx K mg) : FnOk P w K mg base CX0 1 T.a_frac T.d_frac ["p", "q"] (spF K 2 f_frac) := by
  refine fn_ok (k := 0) (N := ["p", "q", "shared"]) (ps := ["p", "q"]) (m := m_frac) T.F_frac sc_frac (by decide) (fun cdv A outer s H E hr => ?_)
  exact rs_seq (rs_if (y_lt hr (o_var 1) (ro_v (v_int))) (rs_one (rs_par (i := 0) (j := 1) rfl sc_frac.nd rfl rfl (by decide) rfl rfl (rs_cons (rv_m (rm_neg (o_var 0))) (rs_cons (rv_m (rm_neg (o_var 1))) (rs_nil))))) (rs_nil0)) (rs_seq (rs_set (i := 2) sc_frac.nd rfl (.inl rfl) (rm_fn k_2J (pe_callBfun cr_gcd (by rfl) T.m_gcd (ra_cons (o_var 0) (ra_cons (o_var 1) (ra_nil)))))) (rs_one (rs_ret (rm_tup (rs_cons (rv_m (x_div (o_var 0) (o_var 2))) (rs_cons (rv_m (x_div (o_var 1) (o_var 2))) (rs_nil)))))))
theorem ok_plus (T : Tx K mg) : FnOk P w K mg base CX0 2 T.a_plus T.d_plus ["a", "b"] (spF K 2 f_plus) := by
  refine fn_ok (k := 1) (N := ["a", "b"]) (ps := ["a", "b"]) (m := m_plus) T.F_plus sc_plus (by decide) (fun cdv A outer s H E hr => ?_)
  exact rs_one (rs_ret (rm_call (pe_call ((ok_frac T).mono (by decide)) hr (by rfl) T.g_frac T.F_frac.kp T.b_frac .nil pass0 (ra_cons (ro_v (rv_m (x_add (ro_m (x_mul (ro_m (x_ix hr (o_var 0) (ro_v (v_int)))) (ro_m (x_ix hr (o_var 1) (ro_v (v_int)))))) (ro_m (x_mul (ro_m (x_ix hr (o_var 1) (ro_v (v_int)))) (ro_m (x_ix hr (o_var 0) (ro_v (v_int))))))))) (ra_cons (ro_v (rv_m (x_mul (ro_m (x_ix hr (o_var 0) (ro_v (v_int)))) (ro_m (x_ix hr (o_var 1) (ro_v (v_int))))))) (ra_nil))))))
theorem ok_minus (T : Tx K mg) : FnOk P w K mg base CX0 2 T.a_minus T.d_minus ["a", "b"] (spF K 2 f_minus) := by
  refine fn_ok (k := 1) (N := ["a", "b"]) (ps := ["a", "b"]) (m := m_minus) T.F_minus sc_minus (by decide) (fun cdv A outer s H E hr => ?_)
  exact rs_one (rs_ret (rm_call (pe_call ((ok_frac T).mono (by decide)) hr (by rfl) T.g_frac T.F_frac.kp T.b_frac .nil pass0 (ra_cons (ro_v (rv_m (x_sub (ro_m (x_mul (ro_m (x_ix hr (o_var 0) (ro_v (v_int)))) (ro_m (x_ix hr (o_var 1) (ro_v (v_int)))))) (ro_m (x_mul (ro_m (x_ix hr (o_var 1) (ro_v (v_int)))) (ro_m (x_ix hr (o_var 0) (ro_v (v_int))))))))) (ra_cons (ro_v (rv_m (x_mul (ro_m (x_ix hr (o_var 0) (ro_v (v_int)))) (ro_m (x_ix hr (o_var 1) (ro_v (v_int))))))) (ra_nil))))))
theorem ok_times (T : Tx K mg) : FnOk P w K mg base CX0 2 T.a_times T.d_times ["a", "b"] (spF K 2 f_times) := by
  refine fn_ok (k := 1) (N := ["a", "b"]) (ps := ["a", "b"]) (m := m_times) T.F_times sc_times (by decide) (fun cdv A outer s H E hr => ?_)
  exact rs_one (rs_ret (rm_call (pe_call ((ok_frac T).mono (by decide)) hr (by rfl) T.g_frac T.F_frac.kp T.b_frac .nil pass0 (ra_cons (ro_v (rv_m (x_mul (ro_m (x_ix hr (o_var 0) (ro_v (v_int)))) (ro_m (x_ix hr (o_var 1) (ro_v (v_int))))))) (ra_cons (ro_v (rv_m (x_mul (ro_m (x_ix hr (o_var 0) (ro_v (v_int)))) (ro_m (x_ix hr (o_var 1) (ro_v (v_int))))))) (ra_nil))))))
theorem ok_over (T : Tx K mg) : FnOk P w K mg base CX0 2 T.a_over T.d_over ["a", "b"] (spF K 2 f_over) := by
  refine fn_ok (k := 1) (N := ["a", "b"]) (ps := ["a", "b"]) (m := m_over) T.F_over sc_over (by decide) (fun cdv A outer s H E hr => ?_)
  exact rs_one (rs_ret (rm_call (pe_call ((ok_frac T).mono (by decide)) hr (by rfl) T.g_frac T.F_frac.kp T.b_frac .nil pass0 (ra_cons (ro_v (rv_m (x_mul (ro_m (x_ix hr (o_var 0) (ro_v (v_int)))) (ro_m (x_ix hr (o_var 1) (ro_v (v_int))))))) (ra_cons (ro_v (rv_m (x_mul (ro_m (x_ix hr (o_var 0) (ro_v (v_int)))) (ro_m (x_ix hr (o_var 1) (ro_v (v_int))))))) (ra_nil))))))
theorem ok_less (T : Tx K mg) : FnOk P w K mg base CX0 1 T.a_less T.d_less ["a", "b"] (spF K 2 f_less) := by
  refine fn_ok (k := 0) (N := ["a", "b"]) (ps := ["a", "b"]) (m := m_less) T.F_less sc_less (by decide) (fun cdv A outer s H E hr => ?_)
  exact rs_one (rs_ret (x_lt hr (ro_m (x_mul (ro_m (x_ix hr (o_var 0) (ro_v (v_int)))) (ro_m (x_ix hr (o_var 1) (ro_v (v_int)))))) (ro_m (x_mul (ro_m (x_ix hr (o_var 1) (ro_v (v_int)))) (ro_m (x_ix hr (o_var 0) (ro_v (v_int))))))))
theorem ok_sum_of (T : Tx K mg) : FnOk P w K mg base CX0 3 T.a_sum_of T.d_sum_of ["numbers"] (spF K 1 f_sum_of) := by
  refine fn_ok (k := 2) (N := ["numbers", "found", "number"]) (ps := ["numbers"]) (m := m_sum_of) T.F_sum_of sc_sum_of (by decide) (fun cdv A outer s H E hr => ?_)
  exact rs_seq (rs_set (i := 1) sc_sum_of.nd rfl (.inl rfl) (rm_v (x_glob T.x_NOUGHT (by rfl)))) (rs_seq (rs_for PassesOwn.never rfl (ri_seq (v_var 0)) (rg_name (i := 2) sc_sum_of.nd rfl (.inl rfl)) (rs_one (rs_set (i := 1) sc_sum_of.nd rfl (.inl rfl) (rm_call (pe_call ((ok_plus T).mono (by decide)) hr (by rfl) T.g_plus T.F_plus.kp T.b_plus .nil pass0 (ra_cons (o_var 1) (ra_cons (o_var 2) (ra_nil)))))))) (rs_one (rs_retV (pv 1))))
theorem ok_dot (T : Tx K mg) : FnOk P w K mg base CX0 4 T.a_dot T.d_dot ["one", "other"] (spF K 2 f_dot) := by
  refine fn_ok (k := 3) (N := ["one", "other", "a", "b"]) (ps := ["one", "other"]) (m := m_dot) T.F_dot sc_dot (by decide) (fun cdv A outer s H E hr => ?_)
  exact rs_one (rs_ret (rm_call (pe_call ((ok_sum_of T).mono (by decide)) hr (by rfl) T.g_sum_of T.F_sum_of.kp T.b_sum_of .nil pass0 (ra_cons (ro_m (rm_lc (own := [("a", 2), ("b", 3)]) rfl sc_dot.nd (ri_zips (by rfl) T.n_zip (rs_cons (v_var 0) (rs_cons (v_var 1) (rs_nil)))) (blkOk_by (N := ["one", "other", "a", "b"]) (sc := defScope s_dot) (by decide +kernel)) (fun _ _ _ _ _ => rg_tup rfl (rgs_cons (rg_name (i := 2) sc_dot.nd rfl (.inl rfl)) (rgs_cons (rg_name (i := 3) sc_dot.nd rfl (.inl rfl)) (rgs_nil)))) (fun _ _ _ _ _ => rt_yes) (fun _ _ _ _ _ => rv_m (rm_call (pe_call ((ok_times T).mono (by decide)) hr (by rfl) T.g_times T.F_times.kp T.b_times .nil pass0 (ra_cons (o_var 2) (ra_cons (o_var 3) (ra_nil)))))) (by decide))) (ra_nil)))))
theorem ok_law_mixed (T : Tx K mg) : FnOk P w K mg base CX0 1 T.a_law_mixed T.d_law_mixed ["number", "place"] (spF K 2 f_law_mixed) := by
  refine fn_ok (k := 0) (N := ["number", "place", "first", "second", "third"]) (ps := ["number", "place"]) (m := m_law_mixed) T.F_law_mixed sc_law_mixed (by decide) (fun cdv A outer s H E hr => ?_)
  exact rs_seq (rs_set (i := 2) sc_law_mixed.nd rfl (.inl rfl) (x_mod (ro_m (rm_fn k_int (pe_callTy call_int1 (by rfl) T.n_int (by decide +kernel) (ra_cons (ro_m (x_add (ro_m (x_add (ro_m (x_mul (o_var 0) (ro_v (v_int)))) (ro_m (x_mul (o_var 1) (ro_v (v_int)))))) (ro_v (v_int)))) (ra_nil))))) (ro_v (v_int)))) (rs_seq (rs_set (i := 3) sc_law_mixed.nd rfl (.inl rfl) (x_mod (ro_m (rm_fn k_int (pe_callTy call_int1 (by rfl) T.n_int (by decide +kernel) (ra_cons (ro_m (x_add (ro_m (x_add (ro_m (x_mul (o_var 2) (o_var 2))) (ro_m (x_mul (ro_v (v_int)) (o_var 2))))) (o_var 1))) (ra_nil))))) (ro_v (v_int)))) (rs_seq (rs_set (i := 4) sc_law_mixed.nd rfl (.inl rfl) (x_mod (ro_m (rm_fn k_int (pe_callTy call_int1 (by rfl) T.n_int (by decide +kernel) (ra_cons (ro_m (x_add (ro_m (x_mul (o_var 3) (o_var 3))) (o_var 2))) (ra_nil))))) (ro_v (v_int)))) (rs_one (rs_ret (x_add (ro_m (x_mul (o_var 3) (ro_v (v_int)))) (o_var 4))))))
theorem ok_law_rest (T : Tx K mg) : FnOk P w K mg base CX0 2 T.a_law_rest T.d_law_rest ["script", "place", "fills"] (spF K 3 f_law_rest) := by
  refine fn_ok (k := 1) (N := ["script", "place", "fills", "number"]) (ps := ["script", "place", "fills"]) (m := m_law_rest) T.F_law_rest sc_law_rest (by decide) (fun cdv A outer s H E hr => ?_)
  exact rs_seq (rs_set (i := 3) sc_law_rest.nd rfl (.inl rfl) (rm_v (v_int))) (rs_seq (rs_if (y_gt hr (ro_m (rm_fn k_len (pe_callB c_len (by rfl) T.n_len (by decide +kernel) (ra_cons (o_var 0) (ra_nil))))) (ro_v (v_int))) (rs_one (rs_set (i := 3) sc_law_rest.nd rfl (.inl rfl) (rm_fn k_int (pe_callTy call_int1 (by rfl) T.n_int (by decide +kernel) (ra_cons (ro_m (x_ix hr (o_var 0) (ro_m (x_mod (ro_m (rm_fn k_int (pe_callTy call_int1 (by rfl) T.n_int (by decide +kernel) (ra_cons (o_var 1) (ra_nil))))) (ro_m (rm_fn k_len (pe_callB c_len (by rfl) T.n_len (by decide +kernel) (ra_cons (o_var 0) (ra_nil))))))))) (ra_nil)))))) (rs_nil0)) (rs_seq (rs_if (y_lt hr (o_var 3) (ro_v (v_int))) (rs_one (rs_set (i := 3) sc_law_rest.nd rfl (.inl rfl) (x_sub (ro_v (v_int)) (ro_m (x_mul (ro_v (v_int)) (o_var 3)))))) (rs_nil0)) (rs_seq (rs_if (PW.pt (rw_and (y_eq hr (o_var 2) (ro_v (v_int))) (rw_and (y_lt hr (o_var 1) (ro_m (rm_fn k_len (pe_callB c_len (by rfl) T.n_len (by decide +kernel) (ra_cons (o_var 0) (ra_nil)))))) (rw_and1 (y_ge hr (o_var 3) (ro_m (x_pow (ro_v (v_int)) (ro_v (v_int))))))))) (rs_one (rs_ret (x_sub (o_var 3) (ro_m (x_pow (ro_v (v_int)) (ro_v (v_int))))))) (rs_nil0)) (rs_one (rs_ret (rm_call (pe_call ((ok_law_mixed T).mono (by decide)) hr (by rfl) T.g_law_mixed T.F_law_mixed.kp T.b_law_mixed .nil pass0 (ra_cons (ro_m (x_add (o_var 3) (ro_m (x_mul (o_var 2) (ro_v (v_int)))))) (ra_cons (o_var 1) (ra_nil))))))))))
theorem ok_law_pool (T : Tx K mg) : FnOk P w K mg base CX0 3 T.a_law_pool T.d_law_pool ["script"] (spF K 1 f_law_pool) := by
  refine fn_ok (k := 2) (N := ["script"]) (ps := ["script"]) (m := m_law_pool) T.F_law_pool sc_law_pool (by decide) (fun cdv A outer s H E hr => ?_)
  exact rs_one (rs_ret (rm_lst (rs_cons (v_var 0) (rs_cons (v_int) (rs_cons (rv_m (rm_call (pe_call ((ok_law_rest T).mono (by decide)) hr (by rfl) T.g_law_rest T.F_law_rest.kp T.b_law_rest .nil pass0 (ra_cons (o_var 0) (ra_cons (ro_v (v_int)) (ra_cons (ro_v (v_int)) (ra_nil))))))) (rs_cons (v_int) (rs_nil)))))))
theorem ok_law_next (T : Tx K mg) : FnOk P w K mg base CX0 3 T.a_law_next T.d_law_next ["pool"] (spF K 1 f_law_next) := by
  refine fn_ok (k := 2) (N := ["pool"]) (ps := ["pool"]) (m := m_law_next) T.F_law_next sc_law_next (by decide) (fun cdv A outer s H E hr => ?_)
  exact rs_seq (rs_put (o_set hr) k_set (rv_m (x_add (ro_m (x_ix hr (o_var 0) (ro_v (v_int)))) (ro_v (v_int)))) (pv 0) (ro_v (v_int))) (rs_seq (rs_put (o_set hr) k_set (rv_m (rm_call (pe_call ((ok_law_rest T).mono (by decide)) hr (by rfl) T.g_law_rest T.F_law_rest.kp T.b_law_rest .nil pass0 (ra_cons (ro_m (x_ix hr (o_var 0) (ro_v (v_int)))) (ra_cons (ro_m (x_ix hr (o_var 0) (ro_v (v_int)))) (ra_cons (ro_v (v_int)) (ra_nil))))))) (pv 0) (ro_v (v_int))) (rs_one (rs_put (o_set hr) k_set (v_int) (pv 0) (ro_v (v_int)))))
theorem ok_law_draw (T : Tx K mg) : FnOk P w K mg base CX0 3 T.a_law_draw T.d_law_draw ["pool", "limit"] (spF K 2 f_law_draw) := by
  refine fn_ok (k := 2) (N := ["pool", "limit", "value"]) (ps := ["pool", "limit"]) (m := m_law_draw) T.F_law_draw sc_law_draw (by decide) (fun cdv A outer s H E hr => ?_)
  exact rs_seq (rs_if (y_le hr (ro_m (x_ix hr (o_var 0) (ro_v (v_int)))) (ro_v (v_int))) (rs_seq (rs_put (o_set hr) k_set (rv_m (x_add (ro_m (x_ix hr (o_var 0) (ro_v (v_int)))) (ro_v (v_int)))) (pv 0) (ro_v (v_int))) (rs_one (rs_put (o_set hr) k_set (rv_m (rm_call (pe_call ((ok_law_rest T).mono (by decide)) hr (by rfl) T.g_law_rest T.F_law_rest.kp T.b_law_rest .nil pass0 (ra_cons (ro_m (x_ix hr (o_var 0) (ro_v (v_int)))) (ra_cons (ro_m (x_ix hr (o_var 0) (ro_v (v_int)))) (ra_cons (ro_m (x_ix hr (o_var 0) (ro_v (v_int)))) (ra_nil))))))) (pv 0) (ro_v (v_int))))) (rs_nil0)) (rs_seq (rs_set (i := 2) sc_law_draw.nd rfl (.inl rfl) (x_mod (ro_m (rm_fn k_int (pe_callTy call_int1 (by rfl) T.n_int (by decide +kernel) (ra_cons (ro_m (x_ix hr (o_var 0) (ro_v (v_int)))) (ra_nil))))) (o_var 1))) (rs_seq (rs_put (o_set hr) k_set (rv_m (x_div (ro_m (rm_fn k_int (pe_callTy call_int1 (by rfl) T.n_int (by decide +kernel) (ra_cons (ro_m (x_ix hr (o_var 0) (ro_v (v_int)))) (ra_nil))))) (o_var 1))) (pv 0) (ro_v (v_int))) (rs_one (rs_retV (pv 2)))))
theorem ok_law_pick (T : Tx K mg) : FnOk P w K mg base CX0 4 T.a_law_pick T.d_law_pick ["pool", "options"] (spF K 2 f_law_pick) := by
  refine fn_ok (k := 3) (N := ["pool", "options"]) (ps := ["pool", "options"]) (m := m_law_pick) T.F_law_pick sc_law_pick (by decide) (fun cdv A outer s H E hr => ?_)
  exact rs_one (rs_ret (x_ix hr (o_var 1) (ro_m (rm_call (pe_call ((ok_law_draw T).mono (by decide)) hr (by rfl) T.g_law_draw T.F_law_draw.kp T.b_law_draw .nil pass0 (ra_cons (o_var 0) (ra_cons (ro_m (rm_fn k_len (pe_callB c_len (by rfl) T.n_len (by decide +kernel) (ra_cons (o_var 1) (ra_nil))))) (ra_nil))))))))
theorem ok_law_same (T : Tx K mg) : ∀ n : Nat, FnOk P w K mg base CX0 (0 + n) T.a_law_same T.d_law_same ["answer", "due"] (spF K 2 (f_law_same n))
  | 0 => ⟨fun _ _ _ _ h => h.1, fun _ _ _ _ _ _ _ _ _ _ _ _ _ h => by
      obtain ⟨_, _, _, _, _, _, _, _, e, _⟩ := h
      cases e⟩
  | n + 1 => by
    have c_ok := ok_law_same T n
    refine fn_ok (k := 0 + n) (N := ["answer", "due", "k", "key"]) (ps := ["answer", "due"]) (m := m_law_same (f_law_same n)) T.F_law_same sc_law_same (by decide) (fun cdv A outer s H E hr => ?_)
    exact rs_seq (rs_if (PW.pt (rw_or (y_is hr (o_var 1) (ro_v (v_non))) (rw_or (y_is hr (o_var 1) (ro_v (v_bl))) (rw_or1 (y_is hr (o_var 1) (ro_v (v_bl))))))) (rs_one (rs_ret (rm_or (ro_m (rm_and (ro_m (x_is hr (o_var 1) (ro_v (v_non)))) (ro_one (ro_m (x_is hr (o_var 0) (ro_v (v_non))))))) (ro_m (rm_or (ro_m (rm_and (ro_m (x_is hr (o_var 1) (ro_v (v_bl)))) (ro_one (ro_m (x_is hr (o_var 0) (ro_v (v_bl))))))) (ro_one (ro_m (rm_and (ro_m (x_is hr (o_var 1) (ro_v (v_bl)))) (ro_one (ro_m (x_is hr (o_var 0) (ro_v (v_bl))))))))))))) (rs_nil0)) (rs_seq (rs_if (rt_tru (ro_m (rm_isi (t := .int) (pe_callB call_isi (by rfl) T.n_isinstance (by decide +kernel) (pa_cons (o_var 1) (pa_cons (pe_bltn (v := .ty "int") (by rfl) T.n_int (by decide +kernel) rfl) pa_nil)))))) (rs_one (rs_ret (rm_and (ro_m (rm_isi (t := .int) (pe_callB call_isi (by rfl) T.n_isinstance (by decide +kernel) (pa_cons (o_var 0) (pa_cons (pe_bltn (v := .ty "int") (by rfl) T.n_int (by decide +kernel) rfl) pa_nil))))) (ro_m (rm_and (ro_m (rm_not (ro_m (rm_isi (t := .bool) (pe_callB call_isi (by rfl) T.n_isinstance (by decide +kernel) (pa_cons (o_var 0) (pa_cons (pe_bltn (v := .ty "bool") (by rfl) T.n_bool (by decide +kernel) rfl) pa_nil))))))) (ro_one (ro_m (x_eq hr (o_var 0) (o_var 1))))))))) (rs_nil0)) (rs_seq (rs_if (rt_tru (ro_m (rm_isi (t := .str) (pe_callB call_isi (by rfl) T.n_isinstance (by decide +kernel) (pa_cons (o_var 1) (pa_cons (pe_bltn (v := .ty "str") (by rfl) T.n_str (by decide +kernel) rfl) pa_nil)))))) (rs_one (rs_ret (rm_and (ro_m (rm_isi (t := .str) (pe_callB call_isi (by rfl) T.n_isinstance (by decide +kernel) (pa_cons (o_var 0) (pa_cons (pe_bltn (v := .ty "str") (by rfl) T.n_str (by decide +kernel) rfl) pa_nil))))) (ro_one (ro_m (x_eq hr (o_var 0) (o_var 1))))))) (rs_nil0)) (rs_seq (rs_if (PW.pt (rw_and (rt_tru (ro_m (rm_isi (t := .tuple) (pe_callB call_isi (by rfl) T.n_isinstance (by decide +kernel) (pa_cons (o_var 1) (pa_cons (pe_bltn (v := .ty "tuple") (by rfl) T.n_tuple (by decide +kernel) rfl) pa_nil)))))) (rw_and1 (rt_not (rt_tru (ro_m (rm_isi (t := .tuple) (pe_callB call_isi (by rfl) T.n_isinstance (by decide +kernel) (pa_cons (o_var 0) (pa_cons (pe_bltn (v := .ty "tuple") (by rfl) T.n_tuple (by decide +kernel) rfl) pa_nil)))))))))) (rs_one (rs_ret (rm_v (v_bl)))) (rs_nil0)) (rs_seq (rs_if (PW.pt (rw_and (rt_tru (ro_m (rm_isi (t := .list) (pe_callB call_isi (by rfl) T.n_isinstance (by decide +kernel) (pa_cons (o_var 1) (pa_cons (pe_bltn (v := .ty "list") (by rfl) T.n_list (by decide +kernel) rfl) pa_nil)))))) (rw_and1 (rt_not (rt_tru (ro_m (rm_isi (t := .list) (pe_callB call_isi (by rfl) T.n_isinstance (by decide +kernel) (pa_cons (o_var 0) (pa_cons (pe_bltn (v := .ty "list") (by rfl) T.n_list (by decide +kernel) rfl) pa_nil)))))))))) (rs_one (rs_ret (rm_v (v_bl)))) (rs_nil0)) (rs_seq (rs_if (rt_tru (ro_m (rm_isi (t := .dict) (pe_callB call_isi (by rfl) T.n_isinstance (by decide +kernel) (pa_cons (o_var 1) (pa_cons (pe_bltn (v := .ty "dict") (by rfl) T.n_dict (by decide +kernel) rfl) pa_nil)))))) (rss_never) (rs_nil0)) (rs_seq (rs_if (y_ne hr (ro_m (rm_fn k_len (pe_callB c_len (by rfl) T.n_len (by decide +kernel) (ra_cons (o_var 0) (ra_nil))))) (ro_m (rm_fn k_len (pe_callB c_len (by rfl) T.n_len (by decide +kernel) (ra_cons (o_var 1) (ra_nil)))))) (rs_one (rs_ret (rm_v (v_bl)))) (rs_nil0)) (rs_seq (rs_for PassesOwn.never rfl (ri_range1 (by rfl) T.n_range (ra_cons (ro_m (rm_fn k_len (pe_callB c_len (by rfl) T.n_len (by decide +kernel) (ra_cons (o_var 1) (ra_nil))))) (ra_nil))) (rg_name (i := 2) sc_law_same.nd rfl (.inl rfl)) (rs_one (rs_if (rt_not (rt_tru (ro_m (rm_call (pe_call (c_ok.mono (by omega)) hr (by rfl) T.g_law_same T.F_law_same.kp T.b_law_same .nil pass0 (ra_cons (ro_m (x_ix hr (o_var 0) (o_var 2))) (ra_cons (ro_m (x_ix hr (o_var 1) (o_var 2))) (ra_nil)))))))) (rs_one (rs_ret (rm_v (v_bl)))) (rs_nil0)))) (rs_one (rs_ret (rm_v (v_bl)))))))))))
theorem ok_law_moved (T : Tx K mg) : FnOk P w K mg base CX0 4 T.a_law_moved T.d_law_moved ["pool", "items"] (spF K 2 f_law_moved) := by
  refine fn_ok (k := 3) (N := ["pool", "items", "left", "k"]) (ps := ["pool", "items"]) (m := m_law_moved) T.F_law_moved sc_law_moved (by decide) (fun cdv A outer s H E hr => ?_)
  exact rs_seq (rs_set (i := 2) sc_law_moved.nd rfl (.inr rfl) (rm_fn k_listOf (pe_callTy call_list_of (by rfl) T.n_list (by decide +kernel) (ra_cons (o_var 1) (ra_nil))))) (rs_one (rs_ret (rm_lc (own := [("k", 3)]) rfl sc_law_moved.nd (ri_range1 (by rfl) T.n_range (ra_cons (ro_m (rm_fn k_len (pe_callB c_len (by rfl) T.n_len (by decide +kernel) (ra_cons (o_var 1) (ra_nil))))) (ra_nil))) (blkOk_by (N := ["pool", "items", "left", "k"]) (sc := defScope s_law_moved) (by decide +kernel)) (fun _ _ _ _ _ => rg_name (i := 3) sc_law_moved.nd rfl (.inl rfl)) (fun _ _ _ _ _ => rt_yes) (fun _ _ _ _ _ => rv_m (rm_mut k_popAt (pe_bm PySem.F.plainAttrs_list PySem.F.slot_list_pop PySem.F.type_list_pop mt_popAt (pv 2) (rs_cons (rv_m (rm_call (pe_call ((ok_law_draw T).mono (by decide)) hr (by rfl) T.g_law_draw T.F_law_draw.kp T.b_law_draw .nil pass0 (ra_cons (o_var 0) (ra_cons (ro_m (rm_fn k_len (pe_callB c_len (by rfl) T.n_len (by decide +kernel) (ra_cons (o_var 2) (ra_nil))))) (ra_nil)))))) (rs_nil))))) (by decide))))
theorem ok_law_gcd (T : Tx K mg) : FnOk P w K mg base CX0 1 T.a_law_gcd T.d_law_gcd ["one", "other"] (spF K 2 f_law_gcd) := by
  refine fn_ok (k := 0) (N := ["one", "other", "step"]) (ps := ["one", "other"]) (m := m_law_gcd) T.F_law_gcd sc_law_gcd (by decide) (fun cdv A outer s H E hr => ?_)
  exact rs_seq (rs_for PassesOwn.never rfl (ri_range1 (by rfl) T.n_range (ra_cons (ro_v (v_int)) (ra_nil))) (rg_name (i := 2) sc_law_gcd.nd rfl (.inl rfl)) (rs_one (rs_if (y_gt hr (o_var 1) (ro_v (v_int))) (rs_one (rs_par (i := 0) (j := 1) rfl sc_law_gcd.nd rfl rfl (by decide) rfl rfl (rs_cons (v_var 1) (rs_cons (rv_m (x_mod (ro_m (rm_fn k_int (pe_callTy call_int1 (by rfl) T.n_int (by decide +kernel) (ra_cons (o_var 0) (ra_nil))))) (o_var 1))) (rs_nil))))) (rs_nil0)))) (rs_one (rs_retV (pv 0)))
theorem ok_law_same_worth (T : Tx K mg) : FnOk P w K mg base CX0 2 T.a_law_same_worth T.d_law_same_worth ["told", "p", "q"] (spF K 3 f_law_same_worth) := by
  refine fn_ok (k := 1) (N := ["told", "p", "q"]) (ps := ["told", "p", "q"]) (m := m_law_same_worth) T.F_law_same_worth sc_law_same_worth (by decide) (fun cdv A outer s H E hr => ?_)
  exact rs_one (rs_ret (rm_and (ro_m (rm_isi (t := .tuple) (pe_callB call_isi (by rfl) T.n_isinstance (by decide +kernel) (pa_cons (o_var 0) (pa_cons (pe_bltn (v := .ty "tuple") (by rfl) T.n_tuple (by decide +kernel) rfl) pa_nil))))) (ro_m (rm_and (ro_m (x_eq hr (ro_m (rm_fn k_len (pe_callB c_len (by rfl) T.n_len (by decide +kernel) (ra_cons (o_var 0) (ra_nil))))) (ro_v (v_int)))) (ro_m (rm_and (ro_m (x_gt hr (ro_m (x_ix hr (o_var 0) (ro_v (v_int)))) (ro_v (v_int)))) (ro_m (rm_and (ro_m (x_eq hr (ro_m (x_mul (ro_m (x_ix hr (o_var 0) (ro_v (v_int)))) (o_var 2))) (ro_m (x_mul (o_var 1) (ro_m (x_ix hr (o_var 0) (ro_v (v_int)))))))) (ro_one (ro_m (x_eq hr (ro_m (rm_call (pe_call ((ok_law_gcd T).mono (by decide)) hr (by rfl) T.g_law_gcd T.F_law_gcd.kp T.b_law_gcd .nil pass0 (ra_cons (ro_v (rv_m (rm_if (y_gt hr (ro_m (x_ix hr (o_var 0) (ro_v (v_int)))) (ro_v (v_int))) (x_ix hr (o_var 0) (ro_v (v_int))) (rm_neg (ro_m (x_ix hr (o_var 0) (ro_v (v_int)))))))) (ra_cons (ro_v (rv_m (x_ix hr (o_var 0) (ro_v (v_int))))) (ra_nil)))))) (ro_v (v_int)))))))))))))
theorem ok_law (T : Tx K mg) : FnOk P w K mg base CX0 13 T.a_law T.d_law ["script"] (spF K 1 f_law) := by
  refine fn_ok (k := 12) (N := ["script", "pool", "rows", "k", "scale", "told", "a", "b", "c", "whole", "one", "other", "due", "part", "p", "q"]) (ps := ["script"]) (m := m_law) T.F_law sc_law (by decide) (fun cdv A outer s H E hr => ?_)
  exact rs_seq (rs_set (i := 1) sc_law.nd rfl (.inl rfl) (rm_call (pe_call ((ok_law_pool T).mono (by decide)) hr (by rfl) T.g_law_pool T.F_law_pool.kp T.b_law_pool .nil pass0 (ra_cons (o_var 0) (ra_nil))))) (rs_seq (rs_set (i := 2) sc_law.nd rfl (.inr rfl) (rm_lst (rs_nil))) (rs_seq (rs_for PassesOwn.never rfl (ri_range1 (by rfl) T.n_range (ra_cons (ro_v (v_int)) (ra_nil))) (rg_name (i := 3) sc_law.nd rfl (.inl rfl)) (rs_seq (rs_expr (rm_call (pe_call ((ok_law_next T).mono (by decide)) hr (by rfl) T.g_law_next T.F_law_next.kp T.b_law_next .nil pass0 (ra_cons (o_var 1) (ra_nil))))) (rs_seq (rs_set (i := 4) sc_law.nd rfl (.inl rfl) (rm_call (pe_call ((ok_law_pick T).mono (by decide)) hr (by rfl) T.g_law_pick T.F_law_pick.kp T.b_law_pick .nil pass0 (ra_cons (o_var 1) (ra_cons (ro_m (rm_lst (rs_cons (v_int) (rs_cons (v_int) (rs_cons (v_int) (rs_cons (rv_m (x_pow (ro_v (v_int)) (ro_v (v_int)))) (rs_nil))))))) (ra_nil)))))) (rs_one (rs_expr (rm_mut k_append (pe_bm PySem.F.plainAttrs_list PySem.F.slot_list_append PySem.F.type_list_append mt_append (pv 2) (rs_cons (rv_m (rm_tup (rs_cons (rv_m (x_mul (ro_m (x_sub (ro_m (rm_call (pe_call ((ok_law_draw T).mono (by decide)) hr (by rfl) T.g_law_draw T.F_law_draw.kp T.b_law_draw .nil pass0 (ra_cons (o_var 1) (ra_cons (ro_v (v_int)) (ra_nil)))))) (ro_v (v_int)))) (o_var 4))) (rs_cons (rv_m (x_mul (ro_m (x_mul (ro_m (x_add (ro_v (v_int)) (ro_m (rm_call (pe_call ((ok_law_draw T).mono (by decide)) hr (by rfl) T.g_law_draw T.F_law_draw.kp T.b_law_draw .nil pass0 (ra_cons (o_var 1) (ra_cons (ro_v (v_int)) (ra_nil)))))))) (ro_m (rm_call (pe_call ((ok_law_pick T).mono (by decide)) hr (by rfl) T.g_law_pick T.F_law_pick.kp T.b_law_pick .nil pass0 (ra_cons (o_var 1) (ra_cons (ro_m (rm_lst (rs_cons (v_int) (rs_cons (rv_m (rm_neg (ro_v (v_int)))) (rs_nil))))) (ra_nil)))))))) (ro_m (rm_call (pe_call ((ok_law_pick T).mono (by decide)) hr (by rfl) T.g_law_pick T.F_law_pick.kp T.b_law_pick .nil pass0 (ra_cons (o_var 1) (ra_cons (ro_m (rm_lst (rs_cons (v_int) (rs_cons (v_var 4) (rs_nil))))) (ra_nil)))))))) (rs_nil))))) (rs_nil))))))))) (rs_seq (rs_set (i := 5) sc_law.nd rfl (.inr rfl) (rm_lc (own := [("p", 14), ("q", 15)]) rfl sc_law.nd (ri_seq (v_var 2)) (blkOk_by (N := ["script", "pool", "rows", "k", "scale", "told", "a", "b", "c", "whole", "one", "other", "due", "part", "p", "q"]) (sc := defScope s_law) (by decide +kernel)) (fun _ _ _ _ _ => rg_tup rfl (rgs_cons (rg_name (i := 14) sc_law.nd rfl (.inl rfl)) (rgs_cons (rg_name (i := 15) sc_law.nd rfl (.inl rfl)) (rgs_nil)))) (fun _ _ _ _ _ => rt_yes) (fun _ _ _ _ _ => rv_m (rm_call (pe_call ((ok_frac T).mono (by decide)) hr (by rfl) T.g_frac T.F_frac.kp T.b_frac .nil pass0 (ra_cons (ro_v (v_var 14)) (ra_cons (ro_v (v_var 15)) (ra_nil)))))) (by decide))) (rs_seq (rs_if (y_gt hr (ro_m (rm_fn k_len (pe_callB c_len (by rfl) T.n_len (by decide +kernel) (ra_cons (ro_m (rm_lc (own := [("k", 3)]) rfl sc_law.nd (ri_range1 (by rfl) T.n_range (ra_cons (ro_v (v_int)) (ra_nil))) (blkOk_by (N := ["script", "pool", "rows", "k", "scale", "told", "a", "b", "c", "whole", "one", "other", "due", "part", "p", "q"]) (sc := defScope s_law) (by decide +kernel)) (fun _ _ _ _ _ => rg_name (i := 3) sc_law.nd rfl (.inl rfl)) (fun _ _ _ _ _ => rt_one (rt_not (rt_tru (ro_m (rm_call (pe_call ((ok_law_same_worth T).mono (by decide)) hr (by rfl) T.g_law_same_worth T.F_law_same_worth.kp T.b_law_same_worth .nil pass0 (ra_cons (ro_m (x_ix hr (o_var 5) (o_var 3))) (ra_cons (ro_m (rm_if (y_gt hr (ro_m (x_ix hr (ro_m (x_ix hr (o_var 2) (o_var 3))) (ro_v (v_int)))) (ro_v (v_int))) (x_ix hr (ro_m (x_ix hr (o_var 2) (o_var 3))) (ro_v (v_int))) (rm_neg (ro_m (x_ix hr (ro_m (x_ix hr (o_var 2) (o_var 3))) (ro_v (v_int))))))) (ra_cons (ro_m (rm_if (y_gt hr (ro_m (x_ix hr (ro_m (x_ix hr (o_var 2) (o_var 3))) (ro_v (v_int)))) (ro_v (v_int))) (x_ix hr (ro_m (x_ix hr (o_var 2) (o_var 3))) (ro_v (v_int))) (rm_neg (ro_m (x_ix hr (ro_m (x_ix hr (o_var 2) (o_var 3))) (ro_v (v_int))))))) (ra_nil)))))))))) (fun _ _ _ _ _ => v_var 3) (by decide))) (ra_nil))))) (ro_v (v_int))) (rs_one (rs_ret (rm_v (v_bl)))) (rs_nil0)) (rs_seq (rs_par3 (ps_par3 (i := 6) (j := 7) (l := 8) rfl sc_law.nd rfl rfl rfl (by decide) (by decide) (by decide) rfl rfl rfl (rs_cons (rv_m (x_ix hr (o_var 5) (ro_v (v_int)))) (rs_cons (rv_m (x_ix hr (o_var 5) (ro_v (v_int)))) (rs_cons (rv_m (x_ix hr (o_var 5) (ro_v (v_int)))) (rs_nil)))) rfl)) (rs_seq (rs_if (PW.pt (rw_or (rt_not (rt_tru (ro_m (rm_call (pe_call ((ok_law_same_worth T).mono (by decide)) hr (by rfl) T.g_law_same_worth T.F_law_same_worth.kp T.b_law_same_worth .nil pass0 (ra_cons (ro_m (rm_call (pe_call ((ok_plus T).mono (by decide)) hr (by rfl) T.g_plus T.F_plus.kp T.b_plus .nil pass0 (ra_cons (o_var 6) (ra_cons (o_var 7) (ra_nil)))))) (ra_cons (ro_m (x_add (ro_m (x_mul (ro_m (x_ix hr (o_var 6) (ro_v (v_int)))) (ro_m (x_ix hr (o_var 7) (ro_v (v_int)))))) (ro_m (x_mul (ro_m (x_ix hr (o_var 7) (ro_v (v_int)))) (ro_m (x_ix hr (o_var 6) (ro_v (v_int)))))))) (ra_cons (ro_m (x_mul (ro_m (x_ix hr (o_var 6) (ro_v (v_int)))) (ro_m (x_ix hr (o_var 7) (ro_v (v_int)))))) (ra_nil))))))))) (rw_or1 (rt_not (rt_tru (ro_m (rm_call (pe_call ((ok_law_same_worth T).mono (by decide)) hr (by rfl) T.g_law_same_worth T.F_law_same_worth.kp T.b_law_same_worth .nil pass0 (ra_cons (ro_m (rm_call (pe_call ((ok_minus T).mono (by decide)) hr (by rfl) T.g_minus T.F_minus.kp T.b_minus .nil pass0 (ra_cons (o_var 6) (ra_cons (o_var 7) (ra_nil)))))) (ra_cons (ro_m (x_sub (ro_m (x_mul (ro_m (x_ix hr (o_var 6) (ro_v (v_int)))) (ro_m (x_ix hr (o_var 7) (ro_v (v_int)))))) (ro_m (x_mul (ro_m (x_ix hr (o_var 7) (ro_v (v_int)))) (ro_m (x_ix hr (o_var 6) (ro_v (v_int)))))))) (ra_cons (ro_m (x_mul (ro_m (x_ix hr (o_var 6) (ro_v (v_int)))) (ro_m (x_ix hr (o_var 7) (ro_v (v_int)))))) (ra_nil)))))))))))) (rs_one (rs_ret (rm_v (v_bl)))) (rs_nil0)) (rs_seq (rs_if (PW.pt (rw_or (rt_not (rt_tru (ro_m (rm_call (pe_call ((ok_law_same_worth T).mono (by decide)) hr (by rfl) T.g_law_same_worth T.F_law_same_worth.kp T.b_law_same_worth .nil pass0 (ra_cons (ro_m (rm_call (pe_call ((ok_times T).mono (by decide)) hr (by rfl) T.g_times T.F_times.kp T.b_times .nil pass0 (ra_cons (o_var 6) (ra_cons (o_var 7) (ra_nil)))))) (ra_cons (ro_m (x_mul (ro_m (x_ix hr (o_var 6) (ro_v (v_int)))) (ro_m (x_ix hr (o_var 7) (ro_v (v_int)))))) (ra_cons (ro_m (x_mul (ro_m (x_ix hr (o_var 6) (ro_v (v_int)))) (ro_m (x_ix hr (o_var 7) (ro_v (v_int)))))) (ra_nil))))))))) (rw_or1 (rt_not (rt_tru (ro_m (rm_call (pe_call ((ok_law_same T 12).mono (by decide)) hr (by rfl) T.g_law_same T.F_law_same.kp T.b_law_same .nil pass0 (ra_cons (ro_m (rm_call (pe_call ((ok_less T).mono (by decide)) hr (by rfl) T.g_less T.F_less.kp T.b_less .nil pass0 (ra_cons (o_var 6) (ra_cons (o_var 7) (ra_nil)))))) (ra_cons (ro_m (x_lt hr (ro_m (x_mul (ro_m (x_ix hr (o_var 6) (ro_v (v_int)))) (ro_m (x_ix hr (o_var 7) (ro_v (v_int)))))) (ro_m (x_mul (ro_m (x_ix hr (o_var 7) (ro_v (v_int)))) (ro_m (x_ix hr (o_var 6) (ro_v (v_int)))))))) (ra_nil))))))))))) (rs_one (rs_ret (rm_v (v_bl)))) (rs_nil0)) (rs_seq (rs_if (rt_not (rt_tru (ro_m (rm_call (pe_call ((ok_law_same T 12).mono (by decide)) hr (by rfl) T.g_law_same T.F_law_same.kp T.b_law_same .nil pass0 (ra_cons (ro_m (rm_lst (rs_cons (rv_m (rm_call (pe_call ((ok_plus T).mono (by decide)) hr (by rfl) T.g_plus T.F_plus.kp T.b_plus .nil pass0 (ra_cons (ro_m (rm_call (pe_call ((ok_minus T).mono (by decide)) hr (by rfl) T.g_minus T.F_minus.kp T.b_minus .nil pass0 (ra_cons (o_var 6) (ra_cons (o_var 7) (ra_nil)))))) (ra_cons (o_var 7) (ra_nil)))))) (rs_cons (rv_m (rm_call (pe_call ((ok_times T).mono (by decide)) hr (by rfl) T.g_times T.F_times.kp T.b_times .nil pass0 (ra_cons (o_var 6) (ra_cons (ro_m (rm_call (pe_call ((ok_plus T).mono (by decide)) hr (by rfl) T.g_plus T.F_plus.kp T.b_plus .nil pass0 (ra_cons (o_var 7) (ra_cons (o_var 8) (ra_nil)))))) (ra_nil)))))) (rs_cons (rv_m (rm_call (pe_call ((ok_less T).mono (by decide)) hr (by rfl) T.g_less T.F_less.kp T.b_less .nil pass0 (ra_cons (o_var 6) (ra_cons (o_var 6) (ra_nil)))))) (rs_nil)))))) (ra_cons (ro_m (rm_lst (rs_cons (v_var 6) (rs_cons (rv_m (rm_call (pe_call ((ok_plus T).mono (by decide)) hr (by rfl) T.g_plus T.F_plus.kp T.b_plus .nil pass0 (ra_cons (ro_m (rm_call (pe_call ((ok_times T).mono (by decide)) hr (by rfl) T.g_times T.F_times.kp T.b_times .nil pass0 (ra_cons (o_var 6) (ra_cons (o_var 7) (ra_nil)))))) (ra_cons (ro_m (rm_call (pe_call ((ok_times T).mono (by decide)) hr (by rfl) T.g_times T.F_times.kp T.b_times .nil pass0 (ra_cons (o_var 6) (ra_cons (o_var 8) (ra_nil)))))) (ra_nil)))))) (rs_cons (v_bl) (rs_nil)))))) (ra_nil)))))))) (rs_one (rs_ret (rm_v (v_bl)))) (rs_nil0)) (rs_seq (rs_if (PW.pt (rw_and (y_ne hr (ro_m (x_ix hr (o_var 7) (ro_v (v_int)))) (ro_v (v_int))) (rw_and1 (rt_not (rt_tru (ro_m (rm_call (pe_call ((ok_law_same T 12).mono (by decide)) hr (by rfl) T.g_law_same T.F_law_same.kp T.b_law_same .nil pass0 (ra_cons (ro_m (rm_lst (rs_cons (rv_m (rm_call (pe_call ((ok_times T).mono (by decide)) hr (by rfl) T.g_times T.F_times.kp T.b_times .nil pass0 (ra_cons (ro_m (rm_call (pe_call ((ok_over T).mono (by decide)) hr (by rfl) T.g_over T.F_over.kp T.b_over .nil pass0 (ra_cons (o_var 6) (ra_cons (o_var 7) (ra_nil)))))) (ra_cons (o_var 7) (ra_nil)))))) (rs_cons (rv_m (rm_call (pe_call ((ok_over T).mono (by decide)) hr (by rfl) T.g_over T.F_over.kp T.b_over .nil pass0 (ra_cons (o_var 7) (ra_cons (o_var 7) (ra_nil)))))) (rs_nil))))) (ra_cons (ro_m (rm_lst (rs_cons (v_var 6) (rs_cons (rv_m (rm_tup (rs_cons (v_int) (rs_cons (v_int) (rs_nil))))) (rs_nil))))) (ra_nil))))))))))) (rs_one (rs_ret (rm_v (v_bl)))) (rs_nil0)) (rs_seq (rs_set (i := 9) sc_law.nd rfl (.inl rfl) (rm_tup (rs_cons (v_int) (rs_cons (v_int) (rs_nil))))) (rs_seq (rs_for PassesOwn.never rfl (ri_seq (v_var 5)) (rg_name (i := 10) sc_law.nd rfl (.inl rfl)) (rs_one (rs_set (i := 9) sc_law.nd rfl (.inl rfl) (rm_tup (rs_cons (rv_m (x_add (ro_m (x_mul (ro_m (x_ix hr (o_var 9) (ro_v (v_int)))) (ro_m (x_ix hr (o_var 10) (ro_v (v_int)))))) (ro_m (x_mul (ro_m (x_ix hr (o_var 10) (ro_v (v_int)))) (ro_m (x_ix hr (o_var 9) (ro_v (v_int)))))))) (rs_cons (rv_m (x_mul (ro_m (x_ix hr (o_var 9) (ro_v (v_int)))) (ro_m (x_ix hr (o_var 10) (ro_v (v_int)))))) (rs_nil))))))) (rs_seq (rs_if (PW.pt (rw_or (rt_not (rt_tru (ro_m (rm_call (pe_call ((ok_law_same_worth T).mono (by decide)) hr (by rfl) T.g_law_same_worth T.F_law_same_worth.kp T.b_law_same_worth .nil pass0 (ra_cons (ro_m (rm_call (pe_call ((ok_sum_of T).mono (by decide)) hr (by rfl) T.g_sum_of T.F_sum_of.kp T.b_sum_of .nil pass0 (ra_cons (ro_m (rm_fn k_listOf (pe_callTy call_list_of (by rfl) T.n_list (by decide +kernel) (ra_cons (o_var 5) (ra_nil))))) (ra_nil))))) (ra_cons (ro_m (x_ix hr (o_var 9) (ro_v (v_int)))) (ra_cons (ro_m (x_ix hr (o_var 9) (ro_v (v_int)))) (ra_nil))))))))) (rw_or1 (rt_not (rt_tru (ro_m (rm_call (pe_call ((ok_law_same T 12).mono (by decide)) hr (by rfl) T.g_law_same T.F_law_same.kp T.b_law_same .nil pass0 (ra_cons (ro_m (rm_call (pe_call ((ok_sum_of T).mono (by decide)) hr (by rfl) T.g_sum_of T.F_sum_of.kp T.b_sum_of .nil pass0 (ra_cons (ro_m (rm_lst (rs_nil))) (ra_nil))))) (ra_cons (ro_m (rm_tup (rs_cons (v_int) (rs_cons (v_int) (rs_nil))))) (ra_nil))))))))))) (rs_one (rs_ret (rm_v (v_bl)))) (rs_nil0)) (rs_seq (rs_set (i := 11) sc_law.nd rfl (.inl rfl) (rm_call (pe_call ((ok_law_moved T).mono (by decide)) hr (by rfl) T.g_law_moved T.F_law_moved.kp T.b_law_moved .nil pass0 (ra_cons (o_var 1) (ra_cons (o_var 5) (ra_nil)))))) (rs_seq (rs_set (i := 12) sc_law.nd rfl (.inl rfl) (rm_tup (rs_cons (v_int) (rs_cons (v_int) (rs_nil))))) (rs_seq (rs_for PassesOwn.never rfl (ri_range1 (by rfl) T.n_range (ra_cons (ro_v (v_int)) (ra_nil))) (rg_name (i := 3) sc_law.nd rfl (.inl rfl)) (rs_seq (rs_set (i := 13) sc_law.nd rfl (.inl rfl) (rm_tup (rs_cons (rv_m (x_mul (ro_m (x_ix hr (ro_m (x_ix hr (o_var 5) (o_var 3))) (ro_v (v_int)))) (ro_m (x_ix hr (ro_m (x_ix hr (o_var 11) (o_var 3))) (ro_v (v_int)))))) (rs_cons (rv_m (x_mul (ro_m (x_ix hr (ro_m (x_ix hr (o_var 5) (o_var 3))) (ro_v (v_int)))) (ro_m (x_ix hr (ro_m (x_ix hr (o_var 11) (o_var 3))) (ro_v (v_int)))))) (rs_nil))))) (rs_one (rs_set (i := 12) sc_law.nd rfl (.inl rfl) (rm_tup (rs_cons (rv_m (x_add (ro_m (x_mul (ro_m (x_ix hr (o_var 12) (ro_v (v_int)))) (ro_m (x_ix hr (o_var 13) (ro_v (v_int)))))) (ro_m (x_mul (ro_m (x_ix hr (o_var 13) (ro_v (v_int)))) (ro_m (x_ix hr (o_var 12) (ro_v (v_int)))))))) (rs_cons (rv_m (x_mul (ro_m (x_ix hr (o_var 12) (ro_v (v_int)))) (ro_m (x_ix hr (o_var 13) (ro_v (v_int)))))) (rs_nil)))))))) (rs_one (rs_ret (rm_and (ro_m (rm_call (pe_call ((ok_law_same_worth T).mono (by decide)) hr (by rfl) T.g_law_same_worth T.F_law_same_worth.kp T.b_law_same_worth .nil pass0 (ra_cons (ro_m (rm_call (pe_call ((ok_dot T).mono (by decide)) hr (by rfl) T.g_dot T.F_dot.kp T.b_dot .nil pass0 (ra_cons (ro_m (rm_fn k_listOf (pe_callTy call_list_of (by rfl) T.n_list (by decide +kernel) (ra_cons (o_var 5) (ra_nil))))) (ra_cons (ro_m (rm_fn k_listOf (pe_callTy call_list_of (by rfl) T.n_list (by decide +kernel) (ra_cons (o_var 11) (ra_nil))))) (ra_nil)))))) (ra_cons (ro_m (x_ix hr (o_var 12) (ro_v (v_int)))) (ra_cons (ro_m (x_ix hr (o_var 12) (ro_v (v_int)))) (ra_nil))))))) (ro_one (ro_m (rm_call (pe_call ((ok_law_same T 12).mono (by decide)) hr (by rfl) T.g_law_same T.F_law_same.kp T.b_law_same .nil pass0 (ra_cons (ro_m (rm_call (pe_call ((ok_dot T).mono (by decide)) hr (by rfl) T.g_dot T.F_dot.kp T.b_dot .nil pass0 (ra_cons (ro_m (rm_lst (rs_nil))) (ra_cons (ro_m (rm_lst (rs_nil))) (ra_nil)))))) (ra_cons (ro_m (rm_tup (rs_cons (v_int) (rs_cons (v_int) (rs_nil))))) (ra_nil)))))))))))))))))))))))))
end
end Law

set_option Elab.async false
set_option linter.all false
set_option maxRecDepth 100000
set_option maxHeartbeats 2000000
namespace Law
open PySem PySem.Spec PyProof.Rows L2 Mi Mi.P
abbrev Q2 := Int × Int
def FD (x : Q2) : D := .tup [.int x.1, .int x.2]
def gg (p q : Int) : Int := ((Nat.gcd p.natAbs q.natAbs : Nat) : Int)
/-- lowest terms -/
def nrm (p q : Int) : Q2 := if q < 0 then ((-p).fdiv (gg p q), (-q).fdiv (gg p q)) else (p.fdiv (gg p q), q.fdiv (gg p q))
theorem gg_pos (p : Int) {q : Int} (h : q ≠ 0) : 0 < gg p q := by
  unfold gg
  have : 0 < Nat.gcd p.natAbs q.natAbs := Nat.gcd_pos_of_pos_right _ (by omega)
  omega
theorem gg_neg (p q : Int) : gg (-p) (-q) = gg p q := by
  unfold gg
  rw [Int.natAbs_neg, Int.natAbs_neg]
theorem gg_le (p : Int) {q : Int} (h : q ≠ 0) : (gg p q).natAbs ≤ q.natAbs := by
  unfold gg
  have : Nat.gcd p.natAbs q.natAbs ≤ q.natAbs := Nat.le_of_dvd (by omega) (Nat.gcd_dvd_right _ _)
  omega
theorem cdiv_ok {z g : Int} (h0 : 0 < g) (h : g.natAbs < 2 ^ 8000) : cDiv z g = true := by
  unfold cDiv
  have e : (g == 0) = false := by simp; omega
  have q := PySem.Flt.log2_lt_of (n := g.natAbs) (k := 8000) (by decide) h
  rw [e, show Nat.blt g.natAbs.log2 9000 = true from Nat.ble_eq_true_of_le (by omega)]; rfl
theorem e_neg (i : Int) (σ σ1 : List Sl) {o : OE} (h : o σ = some (.d (.int i), σ1)) : mNeg o σ = some (.v (.int (-i)), σ1) := by
  unfold mNeg
  rw [h]; rfl
theorem e_gcd {i j : Int} : fGcd [.int i, .int j] = some (.v (.int (gg i j))) := rfl
theorem e_t0 {a b : D} : fIx (.tup [a, b]) (.int 0) = some (.v a) := rfl
theorem e_t1 {a b : D} : fIx (.tup [a, b]) (.int 1) = some (.v b) := rfl
theorem sz2 : szOk (0 + 1 + 1) = true := by decide
theorem frac_eq (p : Int) {q : Int} (h : q ≠ 0) (hb : q.natAbs < 2 ^ 8000) : f_frac [.fr (.int p) false, .fr (.int q) false] = some (.v (FD (nrm p q)), [.no, .no]) := by
  have g0 := gg_pos p h
  have c : ∀ z, cDiv z (gg p q) = true := fun z => cdiv_ok g0 (Nat.lt_of_le_of_lt (gg_le p h) hb)
  unfold nrm FD
  by_cases n : q < 0
  · rw [if_pos n]
    have d0 : decide (q < 0) = true := dT n
    simp only [f_frac, m_frac, mkFn, padS, sSeq, sSet, sRet, sRetV, sIf, sNil, sPut, sExpr, sPar, sPar3, mBin, mFn, mo, mv, vm, vo, vK, oVar, vVar, osC, osN, vsC, vsN, mLst, mTup, cM, derefs, deref, putR, keepS, isOw, List.length_cons, List.length_nil, List.replicate, List.cons_append, List.nil_append, List.getElem?_cons_zero, List.getElem?_cons_succ, List.set_cons_zero, List.set_cons_succ, Sl.lk, cond_true, cond_false, Nat.ble, mCall, argSls, argSl, owns, noDup, putBack, relk, Bool.and_true, Nat.beq, List.all_nil, Bool.not_false, Bool.not_true, e_lt, d0, mNeg, e_gcd, gg_neg, e_div (c _), sz2]
  · rw [if_neg n]
    have d0 : decide (q < 0) = false := dF n
    simp only [f_frac, m_frac, mkFn, padS, sSeq, sSet, sRet, sRetV, sIf, sNil, sPut, sExpr, sPar, sPar3, mBin, mFn, mo, mv, vm, vo, vK, oVar, vVar, osC, osN, vsC, vsN, mLst, mTup, cM, derefs, deref, putR, keepS, isOw, List.length_cons, List.length_nil, List.replicate, List.cons_append, List.nil_append, List.getElem?_cons_zero, List.getElem?_cons_succ, List.set_cons_zero, List.set_cons_succ, Sl.lk, cond_true, cond_false, Nat.ble, mCall, argSls, argSl, owns, noDup, putBack, relk, Bool.and_true, Nat.beq, List.all_nil, Bool.not_false, Bool.not_true, e_lt, d0, mNeg, e_gcd, gg_neg, e_div (c _), sz2]

/-! ### sizes -/
abbrev Sz (k : Nat) (i : Int) : Prop := i.natAbs < 2 ^ k
theorem cm_of {k l : Nat} {i j : Int} (hi : Sz k i) (hj : Sz l j) (hk : k ≤ 8000) (hl : l ≤ 8000) : cMul i j = true :=
  cMul_of (bits_lt (k := k + 1) (Nat.lt_of_lt_of_le hi (Nat.pow_le_pow_right (by decide) (Nat.le_succ k))) (by omega) (by omega)) (bits_lt (k := l + 1) (Nat.lt_of_lt_of_le hj (Nat.pow_le_pow_right (by decide) (Nat.le_succ l))) (by omega) (by omega))
theorem Sz.mono {k l : Nat} {i : Int} (h : Sz k i) (e : k ≤ l) : Sz l i := Nat.lt_of_lt_of_le h (Nat.pow_le_pow_right (by decide) e)
theorem Sz.mul {k l : Nat} {i j : Int} (h : Sz k i) (h' : Sz l j) : Sz (k + l) (i * j) := L2.wide_lt h h'
theorem Sz.add {k : Nat} {i j : Int} (h : Sz k i) (h' : Sz k j) : Sz (k + 1) (i + j) := by
  unfold Sz at *
  rw [Nat.pow_succ]
  omega
theorem Sz.sub {k : Nat} {i j : Int} (h : Sz k i) (h' : Sz k j) : Sz (k + 1) (i - j) := by
  unfold Sz at *
  rw [Nat.pow_succ]
  omega
theorem Sz.neg {k : Nat} {i : Int} (h : Sz k i) : Sz k (-i) := by unfold Sz at *; rw [Int.natAbs_neg]; exact h
theorem fdiv_sz {k : Nat} {i g : Int} (h : Sz k i) (hg : 0 < g) (hd : g ∣ i) : Sz k (i.fdiv g) := by
  obtain ⟨c, rfl⟩ := hd
  rw [Int.mul_fdiv_cancel_left _ (by omega)]
  unfold Sz at *
  rw [Int.natAbs_mul] at h
  refine Nat.lt_of_le_of_lt ?_ h
  exact Nat.le_mul_of_pos_left _ (by omega)
theorem gg_dvd1 (p q : Int) : gg p q ∣ p := Int.ofNat_dvd_left.mpr (Nat.gcd_dvd_left _ _)
theorem gg_dvd2 (p q : Int) : gg p q ∣ q := Int.ofNat_dvd_left.mpr (Nat.gcd_dvd_right _ _)
/-- in lowest terms, with a positive second number -/
def Low (x : Q2) : Prop := 0 < x.2 ∧ Nat.gcd x.1.natAbs x.2.natAbs = 1
theorem nrm_spec (p : Int) {q : Int} (h : q ≠ 0) : ∃ c : Int, c ≠ 0 ∧ p = c * (nrm p q).1 ∧ q = c * (nrm p q).2 ∧ Low (nrm p q) ∧ c.natAbs = (gg p q).natAbs := by
  have g0 := gg_pos p h
  have key : ∀ p q : Int, 0 < q → 0 < gg p q → p = gg p q * (p.fdiv (gg p q)) ∧ q = gg p q * (q.fdiv (gg p q)) ∧ Low (p.fdiv (gg p q), q.fdiv (gg p q)) := by
    intro p q hq hg
    obtain ⟨a, ha⟩ := gg_dvd1 p q
    obtain ⟨b, hb⟩ := gg_dvd2 p q
    have ea : p.fdiv (gg p q) = a := by
      conv => lhs; arg 1; rw [ha]
      exact Int.mul_fdiv_cancel_left _ (by omega)
    have eb : q.fdiv (gg p q) = b := by
      conv => lhs; arg 1; rw [hb]
      exact Int.mul_fdiv_cancel_left _ (by omega)
    rw [ea, eb]
    refine ⟨ha, hb, ?_, ?_⟩
    · show 0 < b
      have : 0 < gg p q * b := by rw [← hb]; exact hq
      refine Int.not_le.mp fun hb0 => ?_
      have t := Int.mul_le_mul_of_nonneg_left hb0 (Int.le_of_lt hg)
      rw [Int.mul_zero] at t
      omega
    · show Nat.gcd a.natAbs b.natAbs = 1
      have e : Nat.gcd p.natAbs q.natAbs = (gg p q).natAbs := by unfold gg; rw [Int.natAbs_natCast]
      have e1 : p.natAbs = (gg p q).natAbs * a.natAbs := by rw [← Int.natAbs_mul, ← ha]
      have e2 : q.natAbs = (gg p q).natAbs * b.natAbs := by rw [← Int.natAbs_mul, ← hb]
      have e3 : Nat.gcd ((gg p q).natAbs * a.natAbs) ((gg p q).natAbs * b.natAbs) = (gg p q).natAbs := by rw [← e1, ← e2]; exact e
      rw [Nat.gcd_mul_left] at e3
      have gp : 0 < (gg p q).natAbs := by omega
      exact Nat.eq_of_mul_eq_mul_left gp (by rw [e3, Nat.mul_one])
  by_cases n : q < 0
  · have k := key (-p) (-q) (by omega) (by rw [gg_neg]; exact g0)
    rw [gg_neg] at k
    have e : nrm p q = ((-p).fdiv (gg p q), (-q).fdiv (gg p q)) := by unfold nrm; rw [if_pos n]
    rw [e]
    refine ⟨-(gg p q), by omega, ?_, ?_, k.2.2, by rw [Int.natAbs_neg]⟩
    · rw [Int.neg_mul, ← k.1, Int.neg_neg]
    · rw [Int.neg_mul, ← k.2.1, Int.neg_neg]
  · have k := key p q (by omega) g0
    have e : nrm p q = (p.fdiv (gg p q), q.fdiv (gg p q)) := by unfold nrm; rw [if_neg n]
    rw [e]
    exact ⟨gg p q, by omega, k.1, k.2.1, k.2.2, rfl⟩
theorem nrm_low (p : Int) {q : Int} (h : q ≠ 0) : Low (nrm p q) := by
  obtain ⟨c, _, _, _, l, _⟩ := nrm_spec p h
  exact l
theorem nrm_cross (p : Int) {q : Int} (h : q ≠ 0) : (nrm p q).1 * q = p * (nrm p q).2 := by
  obtain ⟨c, h0, h1, h2, _⟩ := nrm_spec p h
  generalize nrm p q = x at *
  subst h1 h2
  rw [Int.mul_left_comm, Int.mul_assoc]
theorem sz_of_mul {k : Nat} {c x : Int} (h0 : c ≠ 0) (h : Sz k (c * x)) : Sz k x := by
  unfold Sz at *
  rw [Int.natAbs_mul] at h
  exact Nat.lt_of_le_of_lt (Nat.le_mul_of_pos_left _ (by omega)) h
theorem nrm_sz {k l : Nat} {p q : Int} (h : q ≠ 0) (h1 : Sz k p) (h2 : Sz l q) : Sz k (nrm p q).1 ∧ Sz l (nrm p q).2 := by
  obtain ⟨c, h0, e1, e2, _⟩ := nrm_spec p h
  exact ⟨sz_of_mul h0 (by rw [← e1]; exact h1), sz_of_mul h0 (by rw [← e2]; exact h2)⟩
theorem nrm_le (p : Int) {q : Int} (h : q ≠ 0) : (nrm p q).2.natAbs ≤ q.natAbs := by
  obtain ⟨c, h0, e1, e2, _⟩ := nrm_spec p h
  conv => rhs; rw [e2]
  rw [Int.natAbs_mul]
  exact Nat.le_mul_of_pos_left _ (by omega)
/-- two fractions in lowest terms that are worth the same are one -/
theorem low_uniq {x y : Q2} (hx : Low x) (hy : Low y) (h : x.1 * y.2 = y.1 * x.2) : x = y := by
  have d1 : x.2.natAbs ∣ y.2.natAbs := by
    have : x.2.natAbs ∣ x.1.natAbs * y.2.natAbs := ⟨y.1.natAbs, by rw [← Int.natAbs_mul, h, Int.natAbs_mul, Nat.mul_comm]⟩
    exact (Nat.Coprime.dvd_of_dvd_mul_left (by rw [Nat.coprime_iff_gcd_eq_one, Nat.gcd_comm]; exact hx.2) this)
  have d2 : y.2.natAbs ∣ x.2.natAbs := by
    have : y.2.natAbs ∣ y.1.natAbs * x.2.natAbs := ⟨x.1.natAbs, by rw [← Int.natAbs_mul, ← h, Int.natAbs_mul, Nat.mul_comm]⟩
    exact (Nat.Coprime.dvd_of_dvd_mul_left (by rw [Nat.coprime_iff_gcd_eq_one, Nat.gcd_comm]; exact hy.2) this)
  have e : x.2.natAbs = y.2.natAbs := Nat.dvd_antisymm d1 d2
  have px := hx.1
  have py := hy.1
  have e2 : x.2 = y.2 := by omega
  rw [e2] at h
  have e1 : x.1 = y.1 := Int.eq_of_mul_eq_mul_right (by omega) h
  exact Prod.ext e1 e2
end Law

set_option Elab.async false
set_option linter.all false
set_option maxRecDepth 100000
set_option maxHeartbeats 2000000
namespace Law
open PySem PySem.Spec PyProof.Rows L2 Mi Mi.P
theorem i0 {x : Q2} : fIx (FD x) (.int 0) = some (.v (.int x.1)) := rfl
theorem i1 {x : Q2} : fIx (FD x) (.int 1) = some (.v (.int x.2)) := rfl
abbrev S2 (k : Nat) (x : Q2) : Prop := Sz k x.1 ∧ Sz k x.2
theorem S2.mono {k l : Nat} {x : Q2} (h : S2 k x) (e : k ≤ l) : S2 l x := ⟨h.1.mono e, h.2.mono e⟩
def pl (x y : Q2) : Q2 := (x.1 * y.2 + y.1 * x.2, x.2 * y.2)
def mi (x y : Q2) : Q2 := (x.1 * y.2 - y.1 * x.2, x.2 * y.2)
def ti (x y : Q2) : Q2 := (x.1 * y.1, x.2 * y.2)
def ov (x y : Q2) : Q2 := (x.1 * y.2, x.2 * y.1)
def nq (x : Q2) : Q2 := nrm x.1 x.2
theorem pl_sz {k l : Nat} {x y : Q2} (hx : S2 k x) (hy : S2 l y) : S2 (k + l + 1) (pl x y) := by
  refine ⟨Sz.add (k := k + l) (hx.1.mul hy.2) ((hy.1.mul hx.2).mono (by omega)), (hx.2.mul hy.2).mono (by omega)⟩
theorem mi_sz {k l : Nat} {x y : Q2} (hx : S2 k x) (hy : S2 l y) : S2 (k + l + 1) (mi x y) := by
  refine ⟨Sz.sub (k := k + l) (hx.1.mul hy.2) ((hy.1.mul hx.2).mono (by omega)), (hx.2.mul hy.2).mono (by omega)⟩
theorem ti_sz {k l : Nat} {x y : Q2} (hx : S2 k x) (hy : S2 l y) : S2 (k + l) (ti x y) := ⟨hx.1.mul hy.1, hx.2.mul hy.2⟩
theorem ov_sz {k l : Nat} {x y : Q2} (hx : S2 k x) (hy : S2 l y) : S2 (k + l) (ov x y) := ⟨hx.1.mul hy.2, hx.2.mul hy.1⟩
theorem nq_sz {k : Nat} {x : Q2} (h : x.2 ≠ 0) (hx : S2 k x) : S2 k (nq x) := nrm_sz h hx.1 hx.2
section
variable {k l : Nat} {x y : Q2}
theorem plus_eq (hx : S2 k x) (hy : S2 l y) (hk : k + l ≤ 7900) (h : x.2 * y.2 ≠ 0) : f_plus [.fr (FD x) false, .fr (FD y) false] = some (.v (FD (nq (pl x y))), [.no, .no]) := by
  have c1 := cm_of hx.1 hy.2 (by omega) (by omega)
  have c2 := cm_of hy.1 hx.2 (by omega) (by omega)
  have c3 := cm_of hx.2 hy.2 (by omega) (by omega)
  have f := frac_eq (x.1 * y.2 + y.1 * x.2) h (Sz.mono (hx.2.mul hy.2) (by omega))
  simp only [f_plus, m_plus, mkFn, padS, sSeq, sSet, sRet, sRetV, sIf, sNil, sPut, sExpr, sPar, sPar3, mBin, mFn, mo, mv, vm, vo, vK, oVar, vVar, osC, osN, vsC, vsN, mLst, mTup, mIf, cM, cO, cNot, cAnd, cOr, derefs, deref, putR, keepS, isOw, List.length_cons, List.length_nil, List.replicate, List.cons_append, List.nil_append, List.getElem?_cons_zero, List.getElem?_cons_succ, List.set_cons_zero, List.set_cons_succ, Sl.lk, cond_true, cond_false, Nat.ble, mCall, argSls, argSl, owns, noDup, putBack, relk, Bool.and_true, Nat.beq, List.all_nil, Bool.not_false, Bool.not_true, i0, i1, e_mul c1, e_mul c2, e_mul c3, e_add, f]
  rfl
theorem minus_eq (hx : S2 k x) (hy : S2 l y) (hk : k + l ≤ 7900) (h : x.2 * y.2 ≠ 0) : f_minus [.fr (FD x) false, .fr (FD y) false] = some (.v (FD (nq (mi x y))), [.no, .no]) := by
  have c1 := cm_of hx.1 hy.2 (by omega) (by omega)
  have c2 := cm_of hy.1 hx.2 (by omega) (by omega)
  have c3 := cm_of hx.2 hy.2 (by omega) (by omega)
  have f := frac_eq (x.1 * y.2 - y.1 * x.2) h (Sz.mono (hx.2.mul hy.2) (by omega))
  simp only [f_minus, m_minus, mkFn, padS, sSeq, sSet, sRet, sRetV, sIf, sNil, sPut, sExpr, sPar, sPar3, mBin, mFn, mo, mv, vm, vo, vK, oVar, vVar, osC, osN, vsC, vsN, mLst, mTup, mIf, cM, cO, cNot, cAnd, cOr, derefs, deref, putR, keepS, isOw, List.length_cons, List.length_nil, List.replicate, List.cons_append, List.nil_append, List.getElem?_cons_zero, List.getElem?_cons_succ, List.set_cons_zero, List.set_cons_succ, Sl.lk, cond_true, cond_false, Nat.ble, mCall, argSls, argSl, owns, noDup, putBack, relk, Bool.and_true, Nat.beq, List.all_nil, Bool.not_false, Bool.not_true, i0, i1, e_mul c1, e_mul c2, e_mul c3, e_sub, f]
  rfl
theorem times_eq (hx : S2 k x) (hy : S2 l y) (hk : k + l ≤ 7900) (h : x.2 * y.2 ≠ 0) : f_times [.fr (FD x) false, .fr (FD y) false] = some (.v (FD (nq (ti x y))), [.no, .no]) := by
  have c1 := cm_of hx.1 hy.1 (by omega) (by omega)
  have c3 := cm_of hx.2 hy.2 (by omega) (by omega)
  have f := frac_eq (x.1 * y.1) h (Sz.mono (hx.2.mul hy.2) (by omega))
  simp only [f_times, m_times, mkFn, padS, sSeq, sSet, sRet, sRetV, sIf, sNil, sPut, sExpr, sPar, sPar3, mBin, mFn, mo, mv, vm, vo, vK, oVar, vVar, osC, osN, vsC, vsN, mLst, mTup, mIf, cM, cO, cNot, cAnd, cOr, derefs, deref, putR, keepS, isOw, List.length_cons, List.length_nil, List.replicate, List.cons_append, List.nil_append, List.getElem?_cons_zero, List.getElem?_cons_succ, List.set_cons_zero, List.set_cons_succ, Sl.lk, cond_true, cond_false, Nat.ble, mCall, argSls, argSl, owns, noDup, putBack, relk, Bool.and_true, Nat.beq, List.all_nil, Bool.not_false, Bool.not_true, i0, i1, e_mul c1, e_mul c3, f]
  rfl
theorem over_eq (hx : S2 k x) (hy : S2 l y) (hk : k + l ≤ 7900) (h : x.2 * y.1 ≠ 0) : f_over [.fr (FD x) false, .fr (FD y) false] = some (.v (FD (nq (ov x y))), [.no, .no]) := by
  have c1 := cm_of hx.1 hy.2 (by omega) (by omega)
  have c3 := cm_of hx.2 hy.1 (by omega) (by omega)
  have f := frac_eq (x.1 * y.2) h (Sz.mono (hx.2.mul hy.1) (by omega))
  simp only [f_over, m_over, mkFn, padS, sSeq, sSet, sRet, sRetV, sIf, sNil, sPut, sExpr, sPar, sPar3, mBin, mFn, mo, mv, vm, vo, vK, oVar, vVar, osC, osN, vsC, vsN, mLst, mTup, mIf, cM, cO, cNot, cAnd, cOr, derefs, deref, putR, keepS, isOw, List.length_cons, List.length_nil, List.replicate, List.cons_append, List.nil_append, List.getElem?_cons_zero, List.getElem?_cons_succ, List.set_cons_zero, List.set_cons_succ, Sl.lk, cond_true, cond_false, Nat.ble, mCall, argSls, argSl, owns, noDup, putBack, relk, Bool.and_true, Nat.beq, List.all_nil, Bool.not_false, Bool.not_true, i0, i1, e_mul c1, e_mul c3, f]
  rfl
theorem less_eq (hx : S2 k x) (hy : S2 l y) (hk : k + l ≤ 7900) : f_less [.fr (FD x) false, .fr (FD y) false] = some (.v (.bl (decide (x.1 * y.2 < y.1 * x.2))), [.no, .no]) := by
  have c1 := cm_of hx.1 hy.2 (by omega) (by omega)
  have c2 := cm_of hy.1 hx.2 (by omega) (by omega)
  simp only [f_less, m_less, mkFn, padS, sSeq, sSet, sRet, sRetV, sIf, sNil, sPut, sExpr, sPar, sPar3, mBin, mFn, mo, mv, vm, vo, vK, oVar, vVar, osC, osN, vsC, vsN, mLst, mTup, mIf, cM, cO, cNot, cAnd, cOr, derefs, deref, putR, keepS, isOw, List.length_cons, List.length_nil, List.replicate, List.cons_append, List.nil_append, List.getElem?_cons_zero, List.getElem?_cons_succ, List.set_cons_zero, List.set_cons_succ, Sl.lk, cond_true, cond_false, Nat.ble, mCall, argSls, argSl, owns, noDup, putBack, relk, Bool.and_true, Nat.beq, List.all_nil, Bool.not_false, Bool.not_true, i0, i1, e_mul c1, e_mul c2, e_lt]
end
/-! ### Euclid -/
def eg : Nat → Int × Int → Int × Int
  | 0, s => s
  | n + 1, s => eg n (if 0 < s.2 then (s.2, s.1.fmod s.2) else s)
theorem eg_zero (a : Int) : ∀ n, eg n (a, 0) = (a, 0)
  | 0 => rfl
  | n + 1 => by
    show eg n (if (0 : Int) < 0 then _ else (a, 0)) = _
    rw [if_neg (by decide), eg_zero a n]
theorem eg_gcd : ∀ (k : Nat) (a b : Nat) (n : Nat), b < 2 ^ k → 2 * k ≤ n → eg n ((a : Int), (b : Int)) = (((Nat.gcd a b : Nat) : Int), (0 : Int))
  | 0, a, b, n, hb, hn => by
    have : b = 0 := by omega
    subst this
    rw [Nat.gcd_zero_right]
    exact eg_zero _ n
  | k + 1, a, b, n, hb, hn => by
    by_cases h0 : b = 0
    · subst h0
      rw [Nat.gcd_zero_right]
      exact eg_zero _ n
    · obtain ⟨m, rfl⟩ : ∃ m, n = m + 1 + 1 := ⟨n - 2, by omega⟩
      show eg (m + 1) (if (0 : Int) < (b : Int) then ((b : Int), (a : Int).fmod (b : Int)) else _) = _
      rw [if_pos (by omega)]
      have e1 : (a : Int).fmod (b : Int) = ((a % b : Nat) : Int) := by
        rw [Int.fmod_eq_emod_of_nonneg _ (by omega)]; rfl
      rw [e1]
      have g1 : Nat.gcd a b = Nat.gcd b (a % b) := by rw [Nat.gcd_comm a b, Nat.gcd_rec b a, Nat.gcd_comm]
      by_cases h1 : a % b = 0
      · rw [g1, h1, Nat.gcd_zero_right]
        exact eg_zero _ _
      · show eg m (if (0 : Int) < ((a % b : Nat) : Int) then (((a % b : Nat) : Int), (b : Int).fmod ((a % b : Nat) : Int)) else _) = _
        rw [if_pos (by omega)]
        have e2 : (b : Int).fmod ((a % b : Nat) : Int) = ((b % (a % b) : Nat) : Int) := by
          rw [Int.fmod_eq_emod_of_nonneg _ (by omega)]; rfl
        rw [e2]
        have lt1 : a % b < b := Nat.mod_lt _ (by omega)
        have lt2 : b % (a % b) < a % b := Nat.mod_lt _ (by omega)
        have lt3 : b % (a % b) + (a % b) ≤ b := by
          have := Nat.div_add_mod b (a % b)
          have q : 1 ≤ b / (a % b) := Nat.div_pos (by omega) (by omega)
          have t := Nat.mul_le_mul_left (a % b) q
          omega
        have hb2 : b % (a % b) < 2 ^ k := by
          rw [Nat.pow_succ] at hb
          omega
        rw [eg_gcd k (a % b) (b % (a % b)) m hb2 (by omega)]
        have g2 : Nat.gcd b (a % b) = Nat.gcd (a % b) (b % (a % b)) := by rw [Nat.gcd_comm b, Nat.gcd_rec (a % b) b, Nat.gcd_comm]
        rw [g1, g2]
theorem gcd_body (b : MS) (hb : b = sIf (cM (mBin fGt (oVar 1) (vo (vK (.int 0))))) (sPar 0 1 (vsC (vVar 1) (vsC (mv (mBin fMod (mo (mFn fInt (osC (oVar 0) (osN)))) (oVar 1))) (vsN)))) (sNil)) :
    ∀ (n : Nat) (lo : Int) (x : Int × Int) (s : Sl), s.lk = false → ∃ s', sFor (gN 2) b (rngL lo n) [.fr (.int x.1) false, .fr (.int x.2) false, s] = some (.nx [.fr (.int (eg n x).1) false, .fr (.int (eg n x).2) false, s'])
  | 0, lo, x, s, hs => ⟨s, rfl⟩
  | n + 1, lo, x, s, hs => by
    have ih := gcd_body b hb n (lo + 1) (if 0 < x.2 then (x.2, x.1.fmod x.2) else x) (.fr (.int lo) false) rfl
    obtain ⟨s', e⟩ := ih
    refine ⟨s', ?_⟩
    show (match gN 2 (.int lo) [.fr (.int x.1) false, .fr (.int x.2) false, s] with | _ => _) = _
    have e1 : gN 2 (.int lo) [.fr (.int x.1) false, .fr (.int x.2) false, s] = some [.fr (.int x.1) false, .fr (.int x.2) false, .fr (.int lo) false] := by
      simp only [gN, putR, List.getElem?_cons_zero, List.getElem?_cons_succ, hs, cond_false, List.set_cons_zero, List.set_cons_succ]
    have e2 : b [.fr (.int x.1) false, .fr (.int x.2) false, .fr (.int lo) false] = some (.nx [.fr (.int (if 0 < x.2 then (x.2, x.1.fmod x.2) else x).1) false, .fr (.int (if 0 < x.2 then (x.2, x.1.fmod x.2) else x).2) false, .fr (.int lo) false]) := by
      rw [hb]
      by_cases h : 0 < x.2
      · have d0 : decide (0 < x.2) = true := dT h
        rw [if_pos h]
        simp only [mkFn, padS, sSeq, sSet, sRet, sRetV, sIf, sNil, sPut, sExpr, sPar, sPar3, mBin, mFn, mo, mv, vm, vo, vK, oVar, vVar, osC, osN, vsC, vsN, mLst, mTup, mIf, cM, cO, cNot, cAnd, cOr, derefs, deref, putR, keepS, isOw, List.length_cons, List.length_nil, List.replicate, List.cons_append, List.nil_append, List.getElem?_cons_zero, List.getElem?_cons_succ, List.set_cons_zero, List.set_cons_succ, Sl.lk, cond_true, cond_false, Nat.ble, mCall, argSls, argSl, owns, noDup, putBack, relk, Bool.and_true, Nat.beq, List.all_nil, Bool.not_false, Bool.not_true, e_gt, d0, e_int, e_mod (c_mod h)]
      · have d0 : decide (0 < x.2) = false := dF h
        rw [if_neg h]
        simp only [mkFn, padS, sSeq, sSet, sRet, sRetV, sIf, sNil, sPut, sExpr, sPar, sPar3, mBin, mFn, mo, mv, vm, vo, vK, oVar, vVar, osC, osN, vsC, vsN, mLst, mTup, mIf, cM, cO, cNot, cAnd, cOr, derefs, deref, putR, keepS, isOw, List.length_cons, List.length_nil, List.replicate, List.cons_append, List.nil_append, List.getElem?_cons_zero, List.getElem?_cons_succ, List.set_cons_zero, List.set_cons_succ, Sl.lk, cond_true, cond_false, Nat.ble, mCall, argSls, argSl, owns, noDup, putBack, relk, Bool.and_true, Nat.beq, List.all_nil, Bool.not_false, Bool.not_true, e_gt, d0]
    unfold rngL sFor
    simp only [e1, e2]
    exact e
theorem lgcd_eq (a b : Nat) (hb : b < 2 ^ 99) : f_law_gcd [.fr (.int a) false, .fr (.int b) false] = some (.v (.int (Nat.gcd a b)), [.no, .no]) := by
  obtain ⟨s', e⟩ := gcd_body _ rfl 200 0 ((a : Int), (b : Int)) .no rfl
  have q := eg_gcd 99 a b 200 hb (by decide)
  rw [q] at e
  refine fn_rt (n := 3) (r := .v (.int (Nat.gcd a b))) (σ := [.fr (.int (Nat.gcd a b)) false, .fr (.int 0) false, s']) ?_ rfl
  show m_law_gcd [.fr (.int a) false, .fr (.int b) false, .no] = _
  unfold m_law_gcd
  have e1 : sForI (iR1 (osC (vo (vK (.int 200))) (osN))) (gN 2) (sIf (cM (mBin fGt (oVar 1) (vo (vK (.int 0))))) (sPar 0 1 (vsC (vVar 1) (vsC (mv (mBin fMod (mo (mFn fInt (osC (oVar 0) (osN)))) (oVar 1))) (vsN)))) (sNil)) [.fr (.int a) false, .fr (.int b) false, .no] = _ := e
  rw [sq e1]
  rfl
/-! ### the law's judge of worth -/
theorem isi (t : Ty) {o : OE} {d : D} {σ σ1 : List Sl} (h : o σ = some (.d d, σ1)) : mIsi t o σ = some (.v (.bl (isTy d t)), σ1) := by
  unfold mIsi
  rw [h]; rfl
theorem and_t {a b : OE} {σ σ1 σ2 : List Sl} {d : D} (h : a σ = some (.d (.bl true), σ1)) (h' : b σ1 = some (.d d, σ2)) : mAnd a b σ = some (.v d, σ2) := by
  unfold mAnd
  rw [h]
  show (match b σ1 with | some (.d d, σ2) => some (R.v d, σ2) | _ => none) = _
  rw [h']
theorem and_f {a b : OE} {σ σ1 : List Sl} (h : a σ = some (.d (.bl false), σ1)) : mAnd a b σ = some (.v (.bl false), σ1) := by
  unfold mAnd
  rw [h]; rfl
theorem mo_v {m : ME} {σ σ1 : List Sl} {d : D} (h : m σ = some (.v d, σ1)) : mo m σ = some (.d d, σ1) := by
  unfold mo vo mv
  rw [h]
theorem mo_n {m : ME} {σ σ1 : List Sl} {d : D} (h : m σ = some (.n d, σ1)) : mo m σ = some (.d d, σ1) := by
  unfold mo vo mv
  rw [h]
theorem oc_eq {a : OE} {r : OEs} {σ σ1 σ2 : List Sl} {o : Op} {os : List Op} (h : a σ = some (o, σ1)) (h' : r σ1 = some (os, σ2)) : osC a r σ = some (o :: os, σ2) := by
  unfold osC
  rw [h]
  show (match r σ1 with | some (os, σ2) => some (o :: os, σ2) | none => none) = _
  rw [h']
theorem call_eq {np : Nat} {c : Fn} {os : OEs} {σ σ1 σ2 : List Sl} {ops : List Op} {sls outs : List Sl} {r : R} (h : os σ = some (ops, σ1)) (ha : argSls σ1 ops = some sls) (hn : (noDup (owns σ1 ops) && Nat.beq ops.length np) = true)
    (hc : c sls = some (r, outs)) (hp : putBack σ1 ops outs σ1 = some σ2) : mCall np c os σ = some (r, σ2) := by
  unfold mCall
  rw [h]
  simp only [ha, hn, hc, hp, cond_true]
theorem bin_eq {f : D → D → Option R} {a b : OE} {σ σ1 σ2 : List Sl} {d1 d2 : D} {r : R} (h : a σ = some (.d d1, σ1)) (h' : b σ1 = some (.d d2, σ2)) (hf : f d1 d2 = some r) : mBin f a b σ = some (r, σ2) := by
  unfold mBin
  rw [h]
  simp only [h', deref, hf]
theorem worth_eq {x : Q2} {p q : Int} {k : Nat} (hl : Low x) (hx : S2 k x) (hp : Sz k p) (hq : Sz k q) (hk : k ≤ 7900) (hd : x.2.natAbs < 2 ^ 99) (he : x.1 * q = p * x.2) :
    f_law_same_worth [.fr (FD x) false, .fr (.int p) false, .fr (.int q) false] = some (.v (.bl true), [.no, .no, .no]) := by
  refine fn_rt (n := 3) (σ := [.fr (FD x) false, .fr (.int p) false, .fr (.int q) false]) ?_ rfl
  show m_law_same_worth [.fr (FD x) false, .fr (.int p) false, .fr (.int q) false] = _
  have h0 := hl.1
  have d0 : decide (0 < x.2) = true := dT h0
  have c1 := cm_of hx.1 hq (by omega) (by omega)
  have c2 := cm_of hp hx.2 (by omega) (by omega)
  have t1 : ∀ n : Nat, fLen [FD x] = some (.v (.int 2)) := fun _ => rfl
  obtain ⟨b, hb⟩ := Int.eq_ofNat_of_zero_le (Int.le_of_lt h0)
  have g : ∀ z : Int, z.natAbs = x.1.natAbs → 0 ≤ z → f_law_gcd [.fr (.int z) false, .fr (.int x.2) false] = some (.v (.int 1), [.no, .no]) := by
    intro z hz hz0
    obtain ⟨a, ha⟩ := Int.eq_ofNat_of_zero_le hz0
    have q := lgcd_eq a b (by omega)
    have l2 := hl.2
    rw [← hz, ha, hb, Int.natAbs_natCast, Int.natAbs_natCast] at l2
    rw [l2, ← ha, ← hb] at q
    exact q
  have ab : (mIf (cM (mBin fGt (mo (mBin fIx (oVar 0) (vo (vK (.int 0))))) (vo (vK (.int 0))))) (mBin fIx (oVar 0) (vo (vK (.int 0)))) (mNeg (mo (mBin fIx (oVar 0) (vo (vK (.int 0))))))) [.fr (FD x) false, .fr (.int p) false, .fr (.int q) false] =
      some (.v (.int (if 0 < x.1 then x.1 else -x.1)), [.fr (FD x) false, .fr (.int p) false, .fr (.int q) false]) := by
    by_cases h : 0 < x.1
    · have d1 : decide (0 < x.1) = true := dT h
      rw [if_pos h]
      simp only [mkFn, padS, sSeq, sSet, sRet, sRetV, sIf, sNil, sPut, sExpr, sPar, sPar3, mBin, mFn, mo, mv, vm, vo, vK, oVar, vVar, osC, osN, vsC, vsN, mLst, mTup, mIf, cM, cO, cNot, cAnd, cOr, derefs, deref, putR, keepS, isOw, List.length_cons, List.length_nil, List.replicate, List.cons_append, List.nil_append, List.getElem?_cons_zero, List.getElem?_cons_succ, List.set_cons_zero, List.set_cons_succ, Sl.lk, cond_true, cond_false, Nat.ble, mCall, argSls, argSl, owns, noDup, putBack, relk, Bool.and_true, Nat.beq, List.all_nil, Bool.not_false, Bool.not_true, i0, e_gt, d1]
    · have d1 : decide (0 < x.1) = false := dF h
      rw [if_neg h]
      simp only [mkFn, padS, sSeq, sSet, sRet, sRetV, sIf, sNil, sPut, sExpr, sPar, sPar3, mBin, mFn, mo, mv, vm, vo, vK, oVar, vVar, osC, osN, vsC, vsN, mLst, mTup, mIf, cM, cO, cNot, cAnd, cOr, derefs, deref, putR, keepS, isOw, List.length_cons, List.length_nil, List.replicate, List.cons_append, List.nil_append, List.getElem?_cons_zero, List.getElem?_cons_succ, List.set_cons_zero, List.set_cons_succ, Sl.lk, cond_true, cond_false, Nat.ble, mCall, argSls, argSl, owns, noDup, putBack, relk, Bool.and_true, Nat.beq, List.all_nil, Bool.not_false, Bool.not_true, i0, e_gt, d1, mNeg]
  have gz := g (if 0 < x.1 then x.1 else -x.1) (by split <;> omega) (by split <;> omega)
  unfold m_law_same_worth sRet
  have e1 : (isTy (FD x) .tuple) = true := rfl
  have q2 : decide (x.1 * q = p * x.2) = true := dT he
  rw [and_t (σ1 := [.fr (FD x) false, .fr (.int p) false, .fr (.int q) false]) (mo_v (isi .tuple (d := FD x) rfl))]
  refine mo_v (and_t (mo_v (m := mBin fEq (mo (mFn fLen (osC (oVar 0) (osN)))) (vo (vK (.int 2)))) rfl) ?_)
  refine mo_v (and_t (σ1 := [.fr (FD x) false, .fr (.int p) false, .fr (.int q) false]) (mo_v (m := mBin fGt (mo (mBin fIx (oVar 0) (vo (vK (.int 1))))) (vo (vK (.int 0)))) ?_) ?_)
  · simp only [mkFn, padS, sSeq, sSet, sRet, sRetV, sIf, sNil, sPut, sExpr, sPar, sPar3, mBin, mFn, mo, mv, vm, vo, vK, oVar, vVar, osC, osN, vsC, vsN, mLst, mTup, mIf, cM, cO, cNot, cAnd, cOr, derefs, deref, putR, keepS, isOw, List.length_cons, List.length_nil, List.replicate, List.cons_append, List.nil_append, List.getElem?_cons_zero, List.getElem?_cons_succ, List.set_cons_zero, List.set_cons_succ, Sl.lk, cond_true, cond_false, Nat.ble, mCall, argSls, argSl, owns, noDup, putBack, relk, Bool.and_true, Nat.beq, List.all_nil, Bool.not_false, Bool.not_true, i1, e_gt, d0]
  refine mo_v (and_t (σ1 := [.fr (FD x) false, .fr (.int p) false, .fr (.int q) false]) (mo_v (m := mBin fEq (mo (mBin fMulI (mo (mBin fIx (oVar 0) (vo (vK (.int 0))))) (oVar 2))) (mo (mBin fMulI (oVar 1) (mo (mBin fIx (oVar 0) (vo (vK (.int 1)))))))) ?_) ?_)
  · simp only [mkFn, padS, sSeq, sSet, sRet, sRetV, sIf, sNil, sPut, sExpr, sPar, sPar3, mBin, mFn, mo, mv, vm, vo, vK, oVar, vVar, osC, osN, vsC, vsN, mLst, mTup, mIf, cM, cO, cNot, cAnd, cOr, derefs, deref, putR, keepS, isOw, List.length_cons, List.length_nil, List.replicate, List.cons_append, List.nil_append, List.getElem?_cons_zero, List.getElem?_cons_succ, List.set_cons_zero, List.set_cons_succ, Sl.lk, cond_true, cond_false, Nat.ble, mCall, argSls, argSl, owns, noDup, putBack, relk, Bool.and_true, Nat.beq, List.all_nil, Bool.not_false, Bool.not_true, i0, i1, e_mul c1, e_mul c2, e_eqI, q2]
  refine mo_v ?_
  have cl : mCall 2 f_law_gcd (osC (vo (mv (mIf (cM (mBin fGt (mo (mBin fIx (oVar 0) (vo (vK (.int 0))))) (vo (vK (.int 0))))) (mBin fIx (oVar 0) (vo (vK (.int 0)))) (mNeg (mo (mBin fIx (oVar 0) (vo (vK (.int 0))))))))) (osC (vo (mv (mBin fIx (oVar 0) (vo (vK (.int 1)))))) (osN)))
      [.fr (FD x) false, .fr (.int p) false, .fr (.int q) false] = some (.v (.int 1), [.fr (FD x) false, .fr (.int p) false, .fr (.int q) false]) := by
    exact call_eq (ops := [.d (.int (if 0 < x.1 then x.1 else -x.1)), .d (.int x.2)]) (oc_eq (mo_v ab) (oc_eq (mo_v (m := mBin fIx (oVar 0) (vo (vK (.int 1)))) rfl) rfl)) rfl rfl gz rfl
  exact bin_eq (mo_v cl) rfl e_eqI
end Law

set_option Elab.async false
set_option linter.all false
set_option maxRecDepth 100000
set_option maxHeartbeats 2000000
namespace Law
open PySem PySem.Spec PyProof.Rows L2 Mi Mi.P
/-! ### the law's judge of sameness -/
def okD : Nat → D → Bool
  | 0, _ => false
  | _ + 1, .non => true
  | _ + 1, .bl _ => true
  | _ + 1, .int _ => true
  | _ + 1, .str _ => true
  | n + 1, .lst xs => xs.all (okD n) && Nat.ble xs.length 1000
  | n + 1, .tup xs => xs.all (okD n) && Nat.ble xs.length 1000
  | _, _ => false
theorem e_neI {i j : Int} : fNe (.int i) (.int j) = some (.v (.bl (!decide (i = j)))) := by
  show fOr (fEqS true) _ (.int i) (.int j) = _
  unfold fOr fEqS
  show some (R.v (.bl ((i == j) ^^ true))) = _
  rw [Bool.xor_true]
  rfl
theorem lnEq_refl (x : List Nat) : lnEq x x = true := lnEq_iff.mpr rfl
theorem e_eqS {x : List Nat} : fEq (.str x) (.str x) = some (.v (.bl true)) := by
  show fOr (fEqS false) _ (.str x) (.str x) = _
  unfold fOr fEqS
  show some (R.v (.bl (lnEq x x ^^ false))) = _
  rw [lnEq_refl]; rfl
theorem ixL {xs : List D} {m : Nat} {x : D} (h : xs[m]? = some x) : fIx (.lst xs) (.int (m : Int)) = some (.v x) := by
  have hm : m < xs.length := (List.getElem?_eq_some_iff.mp h).1
  show fOr fIxL _ (.lst xs) (.int (m : Int)) = _
  unfold fOr
  have q : atD xs (m : Int) = some x := by
    unfold atD
    show (match (bif Nat.blt m xs.length then some m else none) with | some j => xs[j]? | none => none) = _
    rw [show Nat.blt m xs.length = true from Nat.ble_eq_true_of_le hm]
    exact h
  show (match (match atD xs (m : Int) with | some d => some (R.v d) | none => none) with | some r => some r | none => _) = _
  rw [q]
theorem ixT {xs : List D} {m : Nat} {x : D} (h : xs[m]? = some x) : fIx (.tup xs) (.int (m : Int)) = some (.v x) := by
  have hm : m < xs.length := (List.getElem?_eq_some_iff.mp h).1
  have q : atD xs (m : Int) = some x := by
    unfold atD
    show (match (bif Nat.blt m xs.length then some m else none) with | some j => xs[j]? | none => none) = _
    rw [show Nat.blt m xs.length = true from Nat.ble_eq_true_of_le hm]
    exact h
  have t : fIxT (.tup xs) (.int (m : Int)) = some (.v x) := by
    show (match atD xs (m : Int) with | some d => some (R.v d) | none => none) = _
    rw [q]
  show fOr fIxL (fOr fIxT _) (.tup xs) (.int (m : Int)) = _
  unfold fOr
  show (match fIxT (.tup xs) (.int (m : Int)) with | some r => some r | none => _) = _
  rw [t]
theorem same_loop (c : Fn) (d : D) (xs : List D) (hx : ∀ (m : Nat) (x : D), xs[m]? = some x → fIx d (.int (m : Int)) = some (.v x) ∧ c [.fr x false, .fr x false] = some (.v (.bl true), [.no, .no])) :
    ∀ (n lo : Nat) (s : Sl), lo + n = xs.length → s.lk = false → ∃ s', sFor (gN 2) (m_law_same_8b c) (rngL lo n) [.fr d false, .fr d false, s, .no] = some (.nx [.fr d false, .fr d false, s', .no])
  | 0, lo, s, _, _ => ⟨s, rfl⟩
  | n + 1, lo, s, hn, hs => by
    obtain ⟨s', e⟩ := same_loop c d xs hx n (lo + 1) (.fr (.int lo) false) (by omega) rfl
    refine ⟨s', ?_⟩
    obtain ⟨q1, q2⟩ := hx lo xs[lo] (List.getElem?_eq_getElem (by omega))
    have e1 : gN 2 (.int lo) [.fr d false, .fr d false, s, .no] = some [.fr d false, .fr d false, .fr (.int lo) false, .no] := by
      simp only [gN, putR, List.getElem?_cons_zero, List.getElem?_cons_succ, hs, cond_false, List.set_cons_zero, List.set_cons_succ]
    have e2 : m_law_same_8b c [.fr d false, .fr d false, .fr (.int lo) false, .no] = some (.nx [.fr d false, .fr d false, .fr (.int lo) false, .no]) := by
      simp only [m_law_same_8b, mkFn, padS, sSeq, sSet, sRet, sRetV, sIf, sNil, sPut, sExpr, sPar, sPar3, mBin, mFn, mo, mv, vm, vo, vK, oVar, vVar, osC, osN, vsC, vsN, mLst, mTup, mIf, cM, cO, cNot, cAnd, cOr, derefs, deref, putR, keepS, isOw, List.length_cons, List.length_nil, List.replicate, List.cons_append, List.nil_append, List.getElem?_cons_zero, List.getElem?_cons_succ, List.set_cons_zero, List.set_cons_succ, Sl.lk, cond_true, cond_false, Nat.ble, mCall, argSls, argSl, owns, noDup, putBack, relk, Bool.and_true, Nat.beq, List.all_nil, Bool.not_false, Bool.not_true, q1, q2, truD]
    unfold rngL sFor
    simp only [e1, e2]
    exact e
theorem same_seq (c : Fn) (d : D) (xs : List D) (hx : ∀ (m : Nat) (x : D), xs[m]? = some x → fIx d (.int (m : Int)) = some (.v x) ∧ c [.fr x false, .fr x false] = some (.v (.bl true), [.no, .no])) (hl : xs.length ≤ 1000) (hd : d = .lst xs ∨ d = .tup xs) :
    mkFn 4 (m_law_same c) [.fr d false, .fr d false] = some (.v (.bl true), [.no, .no]) := by
  obtain ⟨s', e⟩ := same_loop c d xs hx xs.length 0 .no (by omega) rfl
  refine fn_rt (n := 4) (r := .v (.bl true)) (σ := [.fr d false, .fr d false, s', .no]) ?_ rfl
  show m_law_same c [.fr d false, .fr d false, .no, .no] = _
  unfold m_law_same
  have f1 : m_law_same_1 c [.fr d false, .fr d false, .no, .no] = some (.nx [.fr d false, .fr d false, .no, .no]) := by rcases hd with rfl | rfl <;> rfl
  have f2 : m_law_same_2 c [.fr d false, .fr d false, .no, .no] = some (.nx [.fr d false, .fr d false, .no, .no]) := by rcases hd with rfl | rfl <;> rfl
  have f3 : m_law_same_3 c [.fr d false, .fr d false, .no, .no] = some (.nx [.fr d false, .fr d false, .no, .no]) := by rcases hd with rfl | rfl <;> rfl
  have f4 : m_law_same_4 c [.fr d false, .fr d false, .no, .no] = some (.nx [.fr d false, .fr d false, .no, .no]) := by rcases hd with rfl | rfl <;> rfl
  have f5 : m_law_same_5 c [.fr d false, .fr d false, .no, .no] = some (.nx [.fr d false, .fr d false, .no, .no]) := by rcases hd with rfl | rfl <;> rfl
  have f6 : m_law_same_6 c [.fr d false, .fr d false, .no, .no] = some (.nx [.fr d false, .fr d false, .no, .no]) := by rcases hd with rfl | rfl <;> rfl
  have len : fLen [d] = some (.v (.int xs.length)) := by rcases hd with rfl | rfl <;> rfl
  have f7 : m_law_same_7 c [.fr d false, .fr d false, .no, .no] = some (.nx [.fr d false, .fr d false, .no, .no]) := by
    have d0 : decide (((xs.length : Nat) : Int) = ((xs.length : Nat) : Int)) = true := dT rfl
    simp only [m_law_same_7, mkFn, padS, sSeq, sSet, sRet, sRetV, sIf, sNil, sPut, sExpr, sPar, sPar3, mBin, mFn, mo, mv, vm, vo, vK, oVar, vVar, osC, osN, vsC, vsN, mLst, mTup, mIf, cM, cO, cNot, cAnd, cOr, derefs, deref, putR, keepS, isOw, List.length_cons, List.length_nil, List.replicate, List.cons_append, List.nil_append, List.getElem?_cons_zero, List.getElem?_cons_succ, List.set_cons_zero, List.set_cons_succ, Sl.lk, cond_true, cond_false, Nat.ble, mCall, argSls, argSl, owns, noDup, putBack, relk, Bool.and_true, Nat.beq, List.all_nil, Bool.not_false, Bool.not_true, len, e_neI, decide_true]
  have f8 : m_law_same_8 c [.fr d false, .fr d false, .no, .no] = some (.nx [.fr d false, .fr d false, s', .no]) := by
    have r : iR1 (osC (mo (mFn fLen (osC (oVar 1) (osN)))) (osN)) [.fr d false, .fr d false, .no, .no] = some (rngL 0 xs.length, [.fr d false, .fr d false, .no, .no]) := by
      have k : rOk ((xs.length : Nat) : Int) = true := by
        unfold rOk
        rw [dT (by omega), dT (by omega)]; rfl
      simp only [iR1, mkFn, padS, sSeq, sSet, sRet, sRetV, sIf, sNil, sPut, sExpr, sPar, sPar3, mBin, mFn, mo, mv, vm, vo, vK, oVar, vVar, osC, osN, vsC, vsN, mLst, mTup, mIf, cM, cO, cNot, cAnd, cOr, derefs, deref, putR, keepS, isOw, List.length_cons, List.length_nil, List.replicate, List.cons_append, List.nil_append, List.getElem?_cons_zero, List.getElem?_cons_succ, List.set_cons_zero, List.set_cons_succ, Sl.lk, cond_true, cond_false, Nat.ble, mCall, argSls, argSl, owns, noDup, putBack, relk, Bool.and_true, Nat.beq, List.all_nil, Bool.not_false, Bool.not_true, len, k, Int.toNat_natCast]
    unfold m_law_same_8 sForI
    rw [r]
    exact e
  rw [sq f1, sq f2, sq f3, sq f4, sq f5, sq f6, sq f7, sq f8]
  rfl
theorem same_ok : ∀ (n : Nat) (d : D), okD n d = true → f_law_same n [.fr d false, .fr d false] = some (.v (.bl true), [.no, .no])
  | 0, d, h => by unfold okD at h; cases h
  | n + 1, .non, _ => rfl
  | n + 1, .bl true, _ => rfl
  | n + 1, .bl false, _ => rfl
  | n + 1, .int i, _ => by
    have d0 : decide (i = i) = true := dT rfl
    refine fn_rt (n := 4) (r := .v (.bl true)) (σ := [.fr (.int i) false, .fr (.int i) false, .no, .no]) ?_ rfl
    show m_law_same (f_law_same n) [.fr (.int i) false, .fr (.int i) false, .no, .no] = _
    unfold m_law_same
    have f1 : m_law_same_1 (f_law_same n) [.fr (.int i) false, .fr (.int i) false, .no, .no] = some (.nx [.fr (.int i) false, .fr (.int i) false, .no, .no]) := rfl
    rw [sq f1]
    simp only [m_law_same_2, mkFn, padS, sSeq, sSet, sRet, sRetV, sIf, sNil, sPut, sExpr, sPar, sPar3, mBin, mFn, mo, mv, vm, vo, vK, oVar, vVar, osC, osN, vsC, vsN, mLst, mTup, mIf, cM, cO, cNot, cAnd, cOr, derefs, deref, putR, keepS, isOw, List.length_cons, List.length_nil, List.replicate, List.cons_append, List.nil_append, List.getElem?_cons_zero, List.getElem?_cons_succ, List.set_cons_zero, List.set_cons_succ, Sl.lk, cond_true, cond_false, Nat.ble, mCall, argSls, argSl, owns, noDup, putBack, relk, Bool.and_true, Nat.beq, List.all_nil, Bool.not_false, Bool.not_true, mIsi, isTy, tcD, Tc.is, truD, mAnd, mNotO, e_eqI, decide_true]
  | n + 1, .str x, _ => by
    refine fn_rt (n := 4) (r := .v (.bl true)) (σ := [.fr (.str x) false, .fr (.str x) false, .no, .no]) ?_ rfl
    show m_law_same (f_law_same n) [.fr (.str x) false, .fr (.str x) false, .no, .no] = _
    unfold m_law_same
    have f1 : m_law_same_1 (f_law_same n) [.fr (.str x) false, .fr (.str x) false, .no, .no] = some (.nx [.fr (.str x) false, .fr (.str x) false, .no, .no]) := rfl
    have f2 : m_law_same_2 (f_law_same n) [.fr (.str x) false, .fr (.str x) false, .no, .no] = some (.nx [.fr (.str x) false, .fr (.str x) false, .no, .no]) := rfl
    rw [sq f1, sq f2]
    simp only [m_law_same_3, mkFn, padS, sSeq, sSet, sRet, sRetV, sIf, sNil, sPut, sExpr, sPar, sPar3, mBin, mFn, mo, mv, vm, vo, vK, oVar, vVar, osC, osN, vsC, vsN, mLst, mTup, mIf, cM, cO, cNot, cAnd, cOr, derefs, deref, putR, keepS, isOw, List.length_cons, List.length_nil, List.replicate, List.cons_append, List.nil_append, List.getElem?_cons_zero, List.getElem?_cons_succ, List.set_cons_zero, List.set_cons_succ, Sl.lk, cond_true, cond_false, Nat.ble, mCall, argSls, argSl, owns, noDup, putBack, relk, Bool.and_true, Nat.beq, List.all_nil, Bool.not_false, Bool.not_true, mIsi, isTy, tcD, Tc.is, truD, mAnd, mNotO, e_eqS]
  | n + 1, .lst xs, h => by
    have h : (xs.all (okD n) && Nat.ble xs.length 1000) = true := h
    rw [Bool.and_eq_true, List.all_eq_true] at h
    exact same_seq (f_law_same n) (.lst xs) xs (fun m x hx => ⟨ixL hx, same_ok n x (h.1 x (List.mem_of_getElem? hx))⟩) (Nat.le_of_ble_eq_true h.2) (.inl rfl)
  | n + 1, .tup xs, h => by
    have h : (xs.all (okD n) && Nat.ble xs.length 1000) = true := h
    rw [Bool.and_eq_true, List.all_eq_true] at h
    exact same_seq (f_law_same n) (.tup xs) xs (fun m x hx => ⟨ixT hx, same_ok n x (h.1 x (List.mem_of_getElem? hx))⟩) (Nat.le_of_ble_eq_true h.2) (.inr rfl)
  | n + 1, .dct ks vs, h => by unfold okD at h; cases h
  | n + 1, .scr ns, h => by unfold okD at h; cases h
end Law

set_option Elab.async false
set_option linter.all false
set_option maxRecDepth 100000
set_option maxHeartbeats 2000000
namespace Law
open PySem PySem.Spec PyProof.Rows L2 Mi Mi.P
/-! ### sums -/
def sumF (f : Q2) (xs : List Q2) : Q2 := xs.foldl (fun f x => nq (pl f x)) f
def sumW (f : Q2) (xs : List Q2) : Q2 := xs.foldl pl f
theorem cross_step {n1 n2 f1 f2 w1 w2 x1 x2 : Int} (h0 : f2 ≠ 0) (hn : n1 * (f2 * x2) = (f1 * x2 + x1 * f2) * n2) (hf : f1 * w2 = w1 * f2) : n1 * (w2 * x2) = (w1 * x2 + x1 * w2) * n2 := by
  refine Int.eq_of_mul_eq_mul_left h0 ?_
  grind
/-- a sum in lowest terms beside the same sum as it comes -/
structure Beside (f w : Q2) : Prop where
  low : Low f
  pos : 0 < w.2
  eq : f.1 * w.2 = w.1 * f.2
  le : f.2 ≤ w.2
theorem Beside.step {f w x : Q2} (h : Beside f w) (hx : 0 < x.2) : Beside (nq (pl f x)) (pl w x) := by
  have hp : f.2 * x.2 ≠ 0 := Int.mul_ne_zero (by have := h.low.1; omega) (by omega)
  have hpp : 0 < f.2 * x.2 := Int.mul_pos h.low.1 hx
  have l := nrm_low (f.1 * x.2 + x.1 * f.2) hp
  refine ⟨l, Int.mul_pos h.pos hx, ?_, ?_⟩
  · exact cross_step (by have := h.low.1; omega) (nrm_cross (f.1 * x.2 + x.1 * f.2) hp) h.eq
  · have q := nrm_le (f.1 * x.2 + x.1 * f.2) hp
    have t : f.2 * x.2 ≤ w.2 * x.2 := Int.mul_le_mul_of_nonneg_right h.le (by omega)
    have l1 := l.1
    show (nrm (f.1 * x.2 + x.1 * f.2) (f.2 * x.2)).2 ≤ w.2 * x.2
    omega
theorem Beside.sum : ∀ (xs : List Q2) {f w : Q2}, Beside f w → (∀ x ∈ xs, 0 < x.2) → Beside (sumF f xs) (sumW w xs)
  | [], f, w, h, _ => h
  | x :: xs, f, w, h, hx => Beside.sum xs (h.step (hx x List.mem_cons_self)) fun y hy => hx y (List.mem_cons_of_mem _ hy)
theorem beside0 : Beside (0, 1) (0, 1) := ⟨⟨by decide, by decide⟩, by decide, by decide, by decide⟩
theorem sumW_den : ∀ (xs : List Q2) (w : Q2) (B : Int), 0 < w.2 → 0 < B → (∀ x ∈ xs, 0 < x.2 ∧ x.2 ≤ B) → 0 < (sumW w xs).2 ∧ (sumW w xs).2 ≤ w.2 * B ^ xs.length
  | [], w, B, h0, h1, hx => ⟨h0, by rw [List.length_nil, Int.pow_zero, Int.mul_one]; exact Int.le_refl _⟩
  | x :: xs, w, B, h0, h1, hx => by
    have hx0 := hx x List.mem_cons_self
    obtain ⟨p, q⟩ := sumW_den xs (pl w x) B (Int.mul_pos h0 hx0.1) h1 fun y hy => hx y (List.mem_cons_of_mem _ hy)
    refine ⟨p, Int.le_trans q ?_⟩
    show w.2 * x.2 * B ^ xs.length ≤ w.2 * B ^ (xs.length + 1)
    rw [Int.pow_succ, Int.mul_comm (B ^ xs.length), ← Int.mul_assoc]
    refine Int.mul_le_mul_of_nonneg_right ?_ (Int.le_of_lt (Int.pow_pos h1))
    exact Int.mul_le_mul_of_nonneg_left hx0.2 (by omega)
theorem sumW_sz : ∀ (xs : List Q2) {w : Q2} {k a : Nat}, S2 k w → (∀ x ∈ xs, S2 a x) → S2 (k + (a + 1) * xs.length) (sumW w xs)
  | [], w, k, a, h, _ => h
  | x :: xs, w, k, a, h, hx => by
    have q := sumW_sz xs (pl_sz h (hx x List.mem_cons_self)) fun y hy => hx y (List.mem_cons_of_mem _ hy)
    refine q.mono ?_
    rw [List.length_cons, Nat.mul_succ]
    omega
theorem sum_loop : ∀ (xs : List Q2) (f : Q2) (k a : Nat) (s0 s : Sl), S2 k f → 0 < f.2 → (∀ x ∈ xs, S2 a x ∧ 0 < x.2) → k + (a + 1) * xs.length ≤ 7900 → s.lk = false →
    (∃ s', sFor (gN 2) m_sum_of_2b (xs.map FD) [s0, .fr (FD f) false, s] = some (.nx [s0, .fr (FD (sumF f xs)) false, s'])) ∧ S2 (k + (a + 1) * xs.length) (sumF f xs)
  | [], f, k, a, s0, s, h, _, _, _, _ => ⟨⟨s, rfl⟩, h⟩
  | x :: xs, f, k, a, s0, s, h, h0, hx, hk, hs => by
    obtain ⟨hx1, hx2⟩ := hx x List.mem_cons_self
    have hne : f.2 * x.2 ≠ 0 := Int.mul_ne_zero (by omega) (by omega)
    rw [List.length_cons, Nat.mul_succ] at hk
    have st := nq_sz (x := pl f x) hne (pl_sz h hx1)
    have pos : 0 < (nq (pl f x)).2 := (nrm_low (f.1 * x.2 + x.1 * f.2) hne).1
    obtain ⟨⟨s', e⟩, z⟩ := sum_loop xs (nq (pl f x)) (k + a + 1) a s0 (.fr (FD x) false) st pos (fun y hy => hx y (List.mem_cons_of_mem _ hy)) (by omega) rfl
    refine ⟨⟨s', ?_⟩, z.mono (by rw [List.length_cons, Nat.mul_succ]; omega)⟩
    have pe := plus_eq h hx1 (by omega) hne
    have e1 : gN 2 (FD x) [s0, .fr (FD f) false, s] = some [s0, .fr (FD f) false, .fr (FD x) false] := by
      simp only [gN, putR, List.getElem?_cons_zero, List.getElem?_cons_succ, hs, cond_false, List.set_cons_zero, List.set_cons_succ]
    have e2 : m_sum_of_2b [s0, .fr (FD f) false, .fr (FD x) false] = some (.nx [s0, .fr (FD (nq (pl f x))) false, .fr (FD x) false]) := by
      simp only [m_sum_of_2b, mkFn, padS, sSeq, sSet, sRet, sRetV, sIf, sNil, sPut, sExpr, sPar, sPar3, mBin, mFn, mo, mv, vm, vo, vK, oVar, vVar, osC, osN, vsC, vsN, mLst, mTup, mIf, cM, cO, cNot, cAnd, cOr, derefs, deref, putR, keepS, isOw, List.length_cons, List.length_nil, List.replicate, List.cons_append, List.nil_append, List.getElem?_cons_zero, List.getElem?_cons_succ, List.set_cons_zero, List.set_cons_succ, Sl.lk, cond_true, cond_false, Nat.ble, mCall, argSls, argSl, owns, noDup, putBack, relk, Bool.and_true, Nat.beq, List.all_nil, Bool.not_false, Bool.not_true, pe]
    rw [List.map_cons]
    unfold sFor
    simp only [e1, e2]
    exact e
theorem gN_eq : g_NOUGHT = FD (0, 1) := rfl
theorem sum_eq {xs : List Q2} {a : Nat} (hx : ∀ x ∈ xs, S2 a x ∧ 0 < x.2) (hk : 1 + (a + 1) * xs.length ≤ 7900) : f_sum_of [.fr (.lst (xs.map FD)) false] = some (.v (FD (sumF (0, 1) xs)), [.no]) := by
  obtain ⟨⟨s', e⟩, _⟩ := sum_loop xs (0, 1) 1 a (.fr (.lst (xs.map FD)) false) .no ⟨by decide, by decide⟩ (by decide) hx hk rfl
  refine fn_rt (n := 3) (r := .v (FD (sumF (0, 1) xs))) (σ := [.fr (.lst (xs.map FD)) false, .fr (FD (sumF (0, 1) xs)) false, s']) ?_ rfl
  show m_sum_of [.fr (.lst (xs.map FD)) false, .no, .no] = _
  unfold m_sum_of
  have f1 : m_sum_of_1 [.fr (.lst (xs.map FD)) false, .no, .no] = some (.nx [.fr (.lst (xs.map FD)) false, .fr (FD (0, 1)) false, .no]) := rfl
  have f2 : m_sum_of_2 [.fr (.lst (xs.map FD)) false, .fr (FD (0, 1)) false, .no] = _ := e
  rw [sq f1, sq f2]
  rfl
/-! ### sums of products -/
def prods : List Q2 → List Q2 → List Q2
  | x :: xs, y :: ys => nq (ti x y) :: prods xs ys
  | _, _ => []
theorem zip_FD : ∀ (xs ys : List Q2), xs.length = ys.length → ∃ ds, zipL (xs.map FD) (ys.map FD) = some ds ∧ ds = (xs.zip ys).map fun p => D.tup [FD p.1, FD p.2]
  | [], [], _ => ⟨[], rfl, rfl⟩
  | x :: xs, y :: ys, h => by
    obtain ⟨ds, e, rfl⟩ := zip_FD xs ys (by simpa using h)
    refine ⟨_, ?_, rfl⟩
    show (match zipL (xs.map FD) (ys.map FD) with | some r => some (D.tup [FD x, FD y] :: r) | none => none) = _
    rw [e]; rfl
  | [], y :: ys, h => by simp at h
  | x :: xs, [], h => by simp at h
theorem dot_loop : ∀ (xs ys : List Q2) (a : Nat) (acc : List D) (s0 s1 : Sl), xs.length = ys.length → (∀ x ∈ xs, S2 a x ∧ 0 < x.2) → (∀ x ∈ ys, S2 a x ∧ 0 < x.2) → a ≤ 3000 →
    lcL (gT 2 (gsC (gN 2) (gsC (gN 3) (gsN)))) (cYes) (mv (mCall 2 f_times (osC (oVar 2) (osC (oVar 3) (osN))))) [2, 3] ((xs.zip ys).map fun p => D.tup [FD p.1, FD p.2]) acc [s0, s1, .no, .no] = some (((prods xs ys).map FD).reverse ++ acc, [s0, s1, .no, .no])
  | [], [], a, acc, s0, s1, _, _, _, _ => rfl
  | x :: xs, y :: ys, a, acc, s0, s1, hl, hx, hy, ha => by
    obtain ⟨hx1, hx2⟩ := hx x List.mem_cons_self
    obtain ⟨hy1, hy2⟩ := hy y List.mem_cons_self
    have te := times_eq hx1 hy1 (by omega) (Int.mul_ne_zero (by omega) (by omega))
    have ih := dot_loop xs ys a (FD (nq (ti x y)) :: acc) s0 s1 (by simpa using hl) (fun z hz => hx z (List.mem_cons_of_mem _ hz)) (fun z hz => hy z (List.mem_cons_of_mem _ hz)) ha
    have e1 : gT 2 (gsC (gN 2) (gsC (gN 3) (gsN))) (D.tup [FD x, FD y]) [s0, s1, .no, .no] = some [s0, s1, .fr (FD x) false, .fr (FD y) false] := rfl
    have e2 : mv (mCall 2 f_times (osC (oVar 2) (osC (oVar 3) (osN)))) [s0, s1, .fr (FD x) false, .fr (FD y) false] = some (FD (nq (ti x y)), [s0, s1, .fr (FD x) false, .fr (FD y) false]) := by
      simp only [mkFn, padS, sSeq, sSet, sRet, sRetV, sIf, sNil, sPut, sExpr, sPar, sPar3, mBin, mFn, mo, mv, vm, vo, vK, oVar, vVar, osC, osN, vsC, vsN, mLst, mTup, mIf, cM, cO, cNot, cAnd, cOr, derefs, deref, putR, keepS, isOw, List.length_cons, List.length_nil, List.replicate, List.cons_append, List.nil_append, List.getElem?_cons_zero, List.getElem?_cons_succ, List.set_cons_zero, List.set_cons_succ, Sl.lk, cond_true, cond_false, Nat.ble, mCall, argSls, argSl, owns, noDup, putBack, relk, Bool.and_true, Nat.beq, List.all_nil, Bool.not_false, Bool.not_true, te]
    rw [List.zip_cons_cons, List.map_cons]
    unfold lcL
    simp only [e1, cYes, e2]
    have w : wipeS [s0, s1, .fr (FD x) false, .fr (FD y) false] [2, 3] = [s0, s1, .no, .no] := rfl
    rw [w, ih]
    show some (_ ++ FD (nq (ti x y)) :: acc, _) = some (((FD (nq (ti x y))) :: (prods xs ys).map FD).reverse ++ acc, _)
    rw [List.reverse_cons, List.append_assoc]
    rfl
  | [], y :: ys, a, acc, s0, s1, h, _, _, _ => by simp at h
  | x :: xs, [], a, acc, s0, s1, h, _, _, _ => by simp at h
theorem prods_ok : ∀ (xs ys : List Q2) (a : Nat), (∀ x ∈ xs, S2 a x ∧ 0 < x.2) → (∀ x ∈ ys, S2 a x ∧ 0 < x.2) → ∀ z ∈ prods xs ys, S2 (a + a) z ∧ 0 < z.2
  | [], ys, a, _, _, z, hz => by cases ys <;> cases hz
  | x :: xs, [], a, _, _, z, hz => by cases hz
  | x :: xs, y :: ys, a, hx, hy, z, hz => by
    obtain ⟨hx1, hx2⟩ := hx x List.mem_cons_self
    obtain ⟨hy1, hy2⟩ := hy y List.mem_cons_self
    have hne : x.2 * y.2 ≠ 0 := Int.mul_ne_zero (by omega) (by omega)
    rcases List.mem_cons.mp hz with e | hz
    · subst e
      exact ⟨nq_sz (x := ti x y) hne (ti_sz hx1 hy1), (nrm_low (x.1 * y.1) hne).1⟩
    · exact prods_ok xs ys a (fun z hz => hx z (List.mem_cons_of_mem _ hz)) (fun z hz => hy z (List.mem_cons_of_mem _ hz)) z hz
theorem prods_len : ∀ (xs ys : List Q2), xs.length = ys.length → (prods xs ys).length = xs.length
  | [], [], _ => rfl
  | x :: xs, y :: ys, h => by show (prods xs ys).length + 1 = xs.length + 1; rw [prods_len xs ys (by simpa using h)]
  | [], y :: ys, h => by simp at h
  | x :: xs, [], h => by simp at h
theorem dot_eq {xs ys : List Q2} {a : Nat} (hl : xs.length = ys.length) (hx : ∀ x ∈ xs, S2 a x ∧ 0 < x.2) (hy : ∀ x ∈ ys, S2 a x ∧ 0 < x.2) (ha : a ≤ 3000) (hn : xs.length ≤ 1000) (hk : 1 + (a + a + 1) * xs.length ≤ 7900) :
    f_dot [.fr (.lst (xs.map FD)) false, .fr (.lst (ys.map FD)) false] = some (.v (FD (sumF (0, 1) (prods xs ys))), [.no, .no]) := by
  obtain ⟨ds, ez, ed⟩ := zip_FD xs ys hl
  have lp := dot_loop xs ys a [] (.fr (.lst (xs.map FD)) false) (.fr (.lst (ys.map FD)) false) hl hx hy ha
  have se := sum_eq (xs := prods xs ys) (prods_ok xs ys a hx hy) (by rw [prods_len xs ys hl]; exact hk)
  refine fn_rt (n := 4) (r := .v (FD (sumF (0, 1) (prods xs ys)))) (σ := [.fr (.lst (xs.map FD)) false, .fr (.lst (ys.map FD)) false, .no, .no]) ?_ rfl
  show m_dot [.fr (.lst (xs.map FD)) false, .fr (.lst (ys.map FD)) false, .no, .no] = _
  have lc : mLc (iZs (vsC (vVar 0) (vsC (vVar 1) (vsN)))) (gT 2 (gsC (gN 2) (gsC (gN 3) (gsN)))) (cYes) (mv (mCall 2 f_times (osC (oVar 2) (osC (oVar 3) (osN))))) [2, 3] [.fr (.lst (xs.map FD)) false, .fr (.lst (ys.map FD)) false, .no, .no] =
      some (.n (.lst ((prods xs ys).map FD)), [.fr (.lst (xs.map FD)) false, .fr (.lst (ys.map FD)) false, .no, .no]) := by
    have it : iZs (vsC (vVar 0) (vsC (vVar 1) (vsN))) [.fr (.lst (xs.map FD)) false, .fr (.lst (ys.map FD)) false, .no, .no] = some (ds, [.fr (.lst (xs.map FD)) false, .fr (.lst (ys.map FD)) false, .no, .no]) := by
      show (match zipL (xs.map FD) (ys.map FD) with | some r => some (r, _) | none => none) = _
      rw [ez]
    have dl : Nat.ble ds.length 1000000 = true := by
      refine Nat.ble_eq_true_of_le ?_
      rw [ed, List.length_map, List.length_zip]
      omega
    unfold mLc
    rw [it]
    simp only [dl, Bool.and_true]
    rw [show canWipe [.fr (.lst (xs.map FD)) false, .fr (.lst (ys.map FD)) false, .no, .no] [2, 3] = true from rfl, show wipeS [.fr (.lst (xs.map FD)) false, .fr (.lst (ys.map FD)) false, .no, .no] [2, 3] = [.fr (.lst (xs.map FD)) false, .fr (.lst (ys.map FD)) false, .no, .no] from rfl, ed, lp]
    simp only [cond_true, List.append_nil, List.reverse_reverse]
    rfl
  unfold m_dot sRet
  rw [call_eq (oc_eq (mo_n lc) rfl) rfl rfl se rfl]
end Law

set_option Elab.async false
set_option linter.all false
set_option maxRecDepth 100000
set_option maxHeartbeats 2000000
namespace Law
open PySem PySem.Spec PyProof.Rows L2 Mi Mi.P
theorem mv_v {m : ME} {σ σ1 : List Sl} {d : D} (h : m σ = some (.v d, σ1)) : mv m σ = some (d, σ1) := by
  unfold mv
  rw [h]
theorem mv_n {m : ME} {σ σ1 : List Sl} {d : D} (h : m σ = some (.n d, σ1)) : mv m σ = some (d, σ1) := by
  unfold mv
  rw [h]
theorem vs_eq {a : VE} {r : VEs} {σ σ1 σ2 : List Sl} {d : D} {ds : List D} (h : a σ = some (d, σ1)) (h' : r σ1 = some (ds, σ2)) : vsC a r σ = some (d :: ds, σ2) := by
  unfold vsC
  rw [h]
  show (match r σ1 with | some (os, σ2) => some (d :: os, σ2) | none => none) = _
  rw [h']
theorem mut_eq {f : List D → List D → Option (R × List D)} {i : Nat} {as : VEs} {σ σ1 : List Sl} {ds xs xs' : List D} {l : Bool} {r : R} (h : isOwL σ i = true) (ha : as σ = some (ds, σ1)) (hs : σ1[i]? = some (.ow (.lst xs) l)) (hf : f xs ds = some (r, xs')) :
    mMut f i as σ = some (r, σ1.set i (.ow (.lst xs') l)) := by
  unfold mMut
  rw [h, ha]
  simp only [cond_true, hs, hf]
theorem lc_eq {it : IE} {g : TgE} {t : CE} {e : VE} {vs : List Nat} {σ σ1 σ2 : List Sl} {ds acc : List D} (hit : it σ = some (ds, σ1)) (hw : canWipe σ1 vs = true) (hl : ds.length ≤ 1000000) (hlc : lcL g t e vs ds [] (wipeS σ1 vs) = some (acc, σ2)) :
    mLc it g t e vs σ = some (.n (.lst acc.reverse), backS σ1 σ2 vs) := by
  unfold mLc
  rw [hit]
  show (bif canWipe σ1 vs && Nat.ble ds.length 1000000 then _ else _) = _
  rw [hw, Nat.ble_eq_true_of_le hl, hlc]
  rfl
theorem ret_eq {m : ME} {σ σ1 : List Sl} {r : R} (h : m σ = some (r, σ1)) : sRet m σ = some (.rt r σ1) := by
  unfold sRet
  rw [h]
theorem r1_eq {n : Nat} {os : OEs} {σ σ1 : List Sl} (h : os σ = some ([.d (.int (n : Int))], σ1)) (hn : n ≤ 1000000) : iR1 os σ = some (rngL 0 n, σ1) := by
  unfold iR1
  rw [h]
  have ro : rOk (n : Int) = true := by
    unfold rOk
    rw [dT (by omega), dT (by omega)]; rfl
  show (bif rOk (n : Int) then some (rngL 0 (n : Int).toNat, σ1) else none) = _
  rw [ro, Int.toNat_natCast]; rfl
/-! ### the same numbers in another order -/
theorem moved_loop : ∀ (n : Nat) (lo : Int) (L : List D) (Pd : D) (acc : List D) (k : Nat) (s1 : Sl), L.length = n → n ≤ 1000 → PG (k + n) Pd →
    ∃ (ys : List D) (Pd' : D), lcL (gN 3) (cYes) (mv (mMut fPopAt 2 (vsC (mv (mCall 2 f_law_draw (osC (oVar 0) (osC (mo (mFn fLen (osC (oVar 2) (osN)))) (osN))))) (vsN)))) [3] (rngL lo n) acc [.ow Pd true, s1, .ow (.lst L) false, .no] =
      some (ys.reverse ++ acc, [.ow Pd' true, s1, .ow (.lst []) false, .no]) ∧ ys.length = n ∧ (∀ y ∈ ys, y ∈ L) ∧ PG k Pd'
  | 0, lo, L, Pd, acc, k, s1, hl, _, g => by
    have : L = [] := List.eq_nil_of_length_eq_zero hl
    subst this
    exact ⟨[], Pd, rfl, rfl, fun y h => h, g⟩
  | n + 1, lo, L, Pd, acc, k, s1, hl, hn, g => by
    have g' : PG (k + n + 1) Pd := g
    obtain ⟨v, P1, e, h0, h1, g1⟩ := draw_ok (l := (L.length : Int)) g' (by omega) (by omega)
    obtain ⟨m, rfl⟩ := Int.eq_ofNat_of_zero_le h0
    have hm : m < L.length := by omega
    obtain ⟨ys, P2, ih, i1, i2, i3⟩ := moved_loop n (lo + 1) (L.eraseIdx m) P1 (L[m] :: acc) k s1 (by rw [List.length_eraseIdx_of_lt hm]; omega) (by omega) g1
    refine ⟨L[m] :: ys, P2, ?_, by rw [List.length_cons, i1], fun y hy => ?_, i3⟩
    · have e1 : gN 3 (.int lo) [.ow Pd true, s1, .ow (.lst L) false, .no] = some [.ow Pd true, s1, .ow (.lst L) false, .fr (.int lo) false] := rfl
      have ec : mCall 2 f_law_draw (osC (oVar 0) (osC (mo (mFn fLen (osC (oVar 2) (osN)))) (osN))) [.ow Pd true, s1, .ow (.lst L) false, .fr (.int lo) false] = some (.v (.int (m : Int)), [.ow P1 true, s1, .ow (.lst L) false, .fr (.int lo) false]) :=
        call_eq (ops := [.s 0, .d (.int L.length)]) (σ1 := [.ow Pd true, s1, .ow (.lst L) false, .fr (.int lo) false]) rfl rfl rfl e rfl
      have ev : vsC (mv (mCall 2 f_law_draw (osC (oVar 0) (osC (mo (mFn fLen (osC (oVar 2) (osN)))) (osN))))) (vsN) [.ow Pd true, s1, .ow (.lst L) false, .fr (.int lo) false] = some ([.int (m : Int)], [.ow P1 true, s1, .ow (.lst L) false, .fr (.int lo) false]) := by
        exact vs_eq (mv_v ec) rfl
      have pa : fPopAt L [.int (m : Int)] = some (.v L[m], L.eraseIdx m) := by
        unfold fPopAt
        have ix : ixD L.length (m : Int) = some m := by
          show (bif Nat.blt m L.length then some m else none) = _
          rw [show Nat.blt m L.length = true from Nat.ble_eq_true_of_le hm]; rfl
        have ro : rOk (m : Int) = true := by
          unfold rOk
          rw [dT (by omega), dT (by omega)]; rfl
        simp only [ix, List.getElem?_eq_getElem hm, ro, cond_true]
      have em : mv (mMut fPopAt 2 (vsC (mv (mCall 2 f_law_draw (osC (oVar 0) (osC (mo (mFn fLen (osC (oVar 2) (osN)))) (osN))))) (vsN))) [.ow Pd true, s1, .ow (.lst L) false, .fr (.int lo) false] = some (L[m], [.ow P1 true, s1, .ow (.lst (L.eraseIdx m)) false, .fr (.int lo) false]) := by
        exact mv_v (mut_eq (l := false) (xs := L) rfl ev rfl pa)
      unfold rngL lcL
      simp only [e1, cYes, em]
      rw [show wipeS [.ow P1 true, s1, .ow (.lst (L.eraseIdx m)) false, .fr (.int lo) false] [3] = [.ow P1 true, s1, .ow (.lst (L.eraseIdx m)) false, .no] from rfl]
      have ih' := ih
      rw [List.reverse_cons, List.append_assoc]
      exact ih'
    · rcases List.mem_cons.mp hy with rfl | hy
      · exact List.getElem_mem _
      · exact List.mem_of_mem_eraseIdx (i2 y hy)
theorem moved_ok {k : Nat} {Pd : D} {xs : List D} (hn : xs.length ≤ 1000) (g : PG (k + xs.length) Pd) :
    ∃ (ys : List D) (Pd' : D), f_law_moved [.ow Pd true, .fr (.lst xs) false] = some (.n (.lst ys), [.ow Pd' true, .no]) ∧ ys.length = xs.length ∧ (∀ y ∈ ys, y ∈ xs) ∧ PG k Pd' := by
  obtain ⟨ys, P', e, h1, h2, h3⟩ := moved_loop xs.length 0 xs Pd [] k (.fr (.lst xs) false) rfl hn g
  refine ⟨ys, P', ?_, h1, h2, h3⟩
  refine fn_rt (n := 4) (r := .n (.lst ys)) (σ := [.ow P' true, .fr (.lst xs) false, .ow (.lst []) false, .no]) ?_ rfl
  show m_law_moved [.ow Pd true, .fr (.lst xs) false, .no, .no] = _
  unfold m_law_moved
  have f1 : m_law_moved_1 [.ow Pd true, .fr (.lst xs) false, .no, .no] = some (.nx [.ow Pd true, .fr (.lst xs) false, .ow (.lst xs) false, .no]) := rfl
  rw [sq f1]
  have it : iR1 (osC (mo (mFn fLen (osC (oVar 1) (osN)))) (osN)) [.ow Pd true, .fr (.lst xs) false, .ow (.lst xs) false, .no] = some (rngL 0 xs.length, [.ow Pd true, .fr (.lst xs) false, .ow (.lst xs) false, .no]) := r1_eq rfl (by omega)
  have lc := lc_eq (g := gN 3) (t := cYes) (e := mv (mMut fPopAt 2 (vsC (mv (mCall 2 f_law_draw (osC (oVar 0) (osC (mo (mFn fLen (osC (oVar 2) (osN)))) (osN))))) (vsN)))) (vs := [3]) it rfl (by rw [rngL_len]; omega) e
  rw [List.append_nil, List.reverse_reverse] at lc
  exact ret_eq lc
end Law

set_option Elab.async false
set_option linter.all false
set_option maxRecDepth 100000
set_option maxHeartbeats 2000000
namespace Law
open PySem PySem.Spec PyProof.Rows L2 Mi Mi.P
/-! ### the drawn rows -/
abbrev st (ns : List Int) (P : D) (rows : List D) (s3 s4 : Sl) : List Sl := [.fr (.scr ns) false, .ow P false, .ow (.lst rows) false, s3, s4, .no, .no, .no, .no, .no, .no, .no, .no, .no, .no, .no]
structure RowOk (x : Q2) : Prop where
  ne : x.2 ≠ 0
  sz : S2 60 x
  den : (nq x).2 ≤ 12
theorem den_of {d m s : Int} (hm : 0 < m.natAbs) (hm2 : m.natAbs ≤ 12) (hs : 0 < s) (hq : m * s ≠ 0) : (nrm (d * s) (m * s)).2 ≤ 12 := by
  obtain ⟨c, h0, e1, e2, l, hc⟩ := nrm_spec (d * s) hq
  have dv : s.natAbs ∣ (gg (d * s) (m * s)).natAbs := by
    unfold gg
    rw [Int.natAbs_natCast, Int.natAbs_mul, Int.natAbs_mul]
    exact Nat.dvd_gcd (Nat.dvd_mul_left _ _) (Nat.dvd_mul_left _ _)
  have le : s.natAbs ≤ c.natAbs := by
    rw [hc]
    have := gg_pos (d * s) hq
    exact Nat.le_of_dvd (by omega) dv
  have q : (m * s).natAbs = (c * (nrm (d * s) (m * s)).2).natAbs := by rw [← e2]
  generalize (nrm (d * s) (m * s)) = x at *
  rw [Int.natAbs_mul, Int.natAbs_mul] at q
  have l1 := l.1
  have u1 : c.natAbs * x.2.natAbs ≤ 12 * c.natAbs := by
    rw [← q]
    exact Nat.mul_le_mul hm2 le
  have cp : 0 < c.natAbs := by omega
  have u2 : x.2.natAbs ≤ 12 := by
    rw [Nat.mul_comm 12] at u1
    exact Nat.le_of_mul_le_mul_left u1 cp
  omega
theorem den_1 {d m : Int} (hm2 : m.natAbs ≤ 12) (hq : m ≠ 0) : (nrm d m).2 ≤ 12 := by
  have := nrm_le d hq
  omega
theorem draw_st {ns : List Int} {P P' : D} {rows : List D} {s3 s4 : Sl} {l v : Int} (e : f_law_draw [.ow P true, .fr (.int l) false] = some (.v (.int v), [.ow P' true, .no])) :
    mCall 2 f_law_draw (osC (oVar 1) (osC (vo (vK (.int l))) (osN))) (st ns P rows s3 s4) = some (.v (.int v), st ns P' rows s3 s4) := call_eq (ops := [.s 1, .d (.int l)]) (σ1 := st ns P rows s3 s4) rfl rfl rfl e rfl
theorem pick_st {ns : List Int} {P P' : D} {rows xs : List D} {s3 s4 : Sl} {o : OE} {x : D} (ho : o (st ns P rows s3 s4) = some (.d (.lst xs), st ns P rows s3 s4)) (e : f_law_pick [.ow P true, .fr (.lst xs) false] = some (.v x, [.ow P' true, .no])) :
    mCall 2 f_law_pick (osC (oVar 1) (osC o (osN))) (st ns P rows s3 s4) = some (.v x, st ns P' rows s3 s4) := call_eq (ops := [.s 1, .d (.lst xs)]) (σ1 := st ns P rows s3 s4) (oc_eq rfl (oc_eq ho rfl)) rfl rfl e rfl
def RD (x : Q2) : D := .tup [.int x.1, .int x.2]
theorem row_body {ns : List Int} {P : D} {rows : List Q2} {s3 s4 : Sl} {k : Nat} (g : PG (k + 6) P) (h4 : s4.lk = false) (hr : rows.length ≤ 100) :
    ∃ (x : Q2) (P' : D) (s : Int), m_law_3b (st ns P (rows.map RD) s3 s4) = some (.nx (st ns P' ((rows ++ [x]).map RD) s3 (.fr (.int s) false))) ∧ RowOk x ∧ PG k P' := by
  obtain ⟨P1, e1, g1⟩ := next_ok (show PG (k + 5 + 1) P from g)
  obtain ⟨x2, P2, e2, m2, g2⟩ := pick_ok (xs := [.int 1, .int 1, .int 6, .int 1000000000000]) (show PG (k + 4 + 1) P1 from g1) (by simp) (by decide)
  obtain ⟨v3, P3, e3, v30, v31, g3⟩ := draw_ok (l := 41) (show PG (k + 3 + 1) P2 from g2) (by decide) (by decide)
  obtain ⟨v4, P4, e4, v40, v41, g4⟩ := draw_ok (l := 12) (show PG (k + 2 + 1) P3 from g3) (by decide) (by decide)
  obtain ⟨x5, P5, e5, m5, g5⟩ := pick_ok (xs := [.int 1, .int (-1)]) (show PG (k + 1 + 1) P4 from g4) (by simp) (by decide)
  obtain ⟨s, hs2, hs⟩ : ∃ s : Int, x2 = .int s ∧ (s = 1 ∨ s = 6 ∨ s = 1000000000000) := by
    simp only [List.mem_cons, List.not_mem_nil, or_false] at m2
    rcases m2 with h | h | h | h
    · exact ⟨1, h, .inl rfl⟩
    · exact ⟨1, h, .inl rfl⟩
    · exact ⟨6, h, .inr (.inl rfl)⟩
    · exact ⟨_, h, .inr (.inr rfl)⟩
  obtain ⟨t, ht2, ht⟩ : ∃ t : Int, x5 = .int t ∧ (t = 1 ∨ t = -1) := by
    simp only [List.mem_cons, List.not_mem_nil, or_false] at m5
    rcases m5 with h | h
    · exact ⟨1, h, .inl rfl⟩
    · exact ⟨-1, h, .inr rfl⟩
  subst hs2 ht2
  obtain ⟨x6, P6, e6, m6, g6⟩ := pick_ok (xs := [.int 1, .int s]) (show PG (k + 1) P5 from g5) (by simp) (by show 2 < 1000000; decide)
  obtain ⟨u, hu2, hu⟩ : ∃ u : Int, x6 = .int u ∧ (u = 1 ∨ u = s) := by
    simp only [List.mem_cons, List.not_mem_nil, or_false] at m6
    rcases m6 with h | h
    · exact ⟨1, h, .inl rfl⟩
    · exact ⟨s, h, .inr rfl⟩
  subst hu2
  have hs0 : 0 < s ∧ s ≤ 1000000000000 := by omega
  have hu0 : 0 < u ∧ u ≤ 1000000000000 := by omega
  refine ⟨((v3 - 20) * s, (1 + v4) * t * u), P6, s, ?_, ?_, g6⟩
  · unfold m_law_3b
    have f1 : sExpr (mCall 1 f_law_next (osC (oVar 1) (osN))) (st ns P (rows.map RD) s3 s4) = some (.nx (st ns P1 (rows.map RD) s3 s4)) := by
      have c : mCall 1 f_law_next (osC (oVar 1) (osN)) (st ns P (rows.map RD) s3 s4) = some (.v .non, st ns P1 (rows.map RD) s3 s4) := call_eq (ops := [.s 1]) (σ1 := st ns P (rows.map RD) s3 s4) rfl rfl rfl e1 rfl
      unfold sExpr
      rw [c]
    have lst : mo (mLst (vsC (vK (.int 1)) (vsC (vK (.int 1)) (vsC (vK (.int 6)) (vsC (mv (mBin fPow (vo (vK (.int 10))) (vo (vK (.int 12))))) (vsN)))))) (st ns P1 (rows.map RD) s3 s4) = some (.d (.lst [.int 1, .int 1, .int 6, .int 1000000000000]), st ns P1 (rows.map RD) s3 s4) := by
      have pw : fPow (.int 10) (.int 12) = some (.v (.int 1000000000000)) := by
        rw [e_pow (by decide +kernel)]
        exact congrArg (fun x => some (R.v (D.int x))) (by decide)
      refine mo_n ?_
      simp only [mLst, vsC, vK, vsN, mv_v (bin_eq (a := vo (vK (.int 10))) (b := vo (vK (.int 12))) rfl rfl pw)]
      rfl
    have f2 : sSet 4 (mCall 2 f_law_pick (osC (oVar 1) (osC (mo (mLst (vsC (vK (.int 1)) (vsC (vK (.int 1)) (vsC (vK (.int 6)) (vsC (mv (mBin fPow (vo (vK (.int 10))) (vo (vK (.int 12))))) (vsN))))))) (osN)))) (st ns P1 (rows.map RD) s3 s4) = some (.nx (st ns P2 (rows.map RD) s3 (.fr (.int s) false))) := by
      unfold sSet
      rw [pick_st lst e2]
      simp only [putR, List.getElem?_cons_zero, List.getElem?_cons_succ, h4, cond_false, List.set_cons_zero, List.set_cons_succ]
    rw [sq f1, sq f2]
    have c1 : cMul (v3 - 20) s = true := cm_of (k := 60) (l := 60) (by unfold Sz; omega) (by unfold Sz; omega) (by decide) (by decide)
    have c2 : cMul (1 + v4) t = true := cm_of (k := 60) (l := 60) (by unfold Sz; omega) (by unfold Sz; omega) (by decide) (by decide)
    have ht3 : ((1 + v4) * t).natAbs ≤ 12 := by rcases ht with rfl | rfl <;> omega
    have c3 : cMul ((1 + v4) * t) u = true := cm_of (k := 60) (l := 60) (by unfold Sz; omega) (by unfold Sz; omega) (by decide) (by decide)
    have a1 : mBin fMulI (mo (mBin fSub (mo (mCall 2 f_law_draw (osC (oVar 1) (osC (vo (vK (.int 41))) (osN))))) (vo (vK (.int 20))))) (oVar 4) (st ns P2 (rows.map RD) s3 (.fr (.int s) false)) = some (.v (.int ((v3 - 20) * s)), st ns P3 (rows.map RD) s3 (.fr (.int s) false)) :=
      bin_eq (mo_v (bin_eq (mo_v (draw_st e3)) rfl e_sub)) rfl (e_mul c1)
    have a2 : mBin fMulI (mo (mBin fMulI (mo (mBin fAdd (vo (vK (.int 1))) (mo (mCall 2 f_law_draw (osC (oVar 1) (osC (vo (vK (.int 12))) (osN))))))) (mo (mCall 2 f_law_pick (osC (oVar 1) (osC (mo (mLst (vsC (vK (.int 1)) (vsC (mv (mNeg (vo (vK (.int 1))))) (vsN))))) (osN))))))) (mo (mCall 2 f_law_pick (osC (oVar 1) (osC (mo (mLst (vsC (vK (.int 1)) (vsC (vVar 4) (vsN))))) (osN)))))
        (st ns P3 (rows.map RD) s3 (.fr (.int s) false)) = some (.v (.int ((1 + v4) * t * u)), st ns P6 (rows.map RD) s3 (.fr (.int s) false)) :=
      bin_eq (mo_v (bin_eq (mo_v (bin_eq rfl (mo_v (draw_st e4)) e_add)) (mo_v (pick_st (xs := [.int 1, .int (-1)]) rfl e5)) (e_mul c2))) (mo_v (pick_st (xs := [.int 1, .int s]) rfl e6)) (e_mul c3)
    have tp : mTup (vsC (mv (mBin fMulI (mo (mBin fSub (mo (mCall 2 f_law_draw (osC (oVar 1) (osC (vo (vK (.int 41))) (osN))))) (vo (vK (.int 20))))) (oVar 4))) (vsC (mv (mBin fMulI (mo (mBin fMulI (mo (mBin fAdd (vo (vK (.int 1))) (mo (mCall 2 f_law_draw (osC (oVar 1) (osC (vo (vK (.int 12))) (osN))))))) (mo (mCall 2 f_law_pick (osC (oVar 1) (osC (mo (mLst (vsC (vK (.int 1)) (vsC (mv (mNeg (vo (vK (.int 1))))) (vsN))))) (osN))))))) (mo (mCall 2 f_law_pick (osC (oVar 1) (osC (mo (mLst (vsC (vK (.int 1)) (vsC (vVar 4) (vsN))))) (osN))))))) (vsN)))
        (st ns P2 (rows.map RD) s3 (.fr (.int s) false)) = some (.v (RD ((v3 - 20) * s, (1 + v4) * t * u)), st ns P6 (rows.map RD) s3 (.fr (.int s) false)) := by
      unfold mTup
      rw [vs_eq (mv_v a1) (vs_eq (mv_v a2) rfl)]
      rfl
    have mu := mut_eq (f := fAppend) (i := 2) (σ := st ns P2 (rows.map RD) s3 (.fr (.int s) false)) (σ1 := st ns P6 (rows.map RD) s3 (.fr (.int s) false)) (xs := rows.map RD) (l := false) (r := .v .non) (xs' := (rows ++ [((v3 - 20) * s, (1 + v4) * t * u)]).map RD) rfl (vs_eq (r := vsN) (ds := []) (mv_v tp) rfl) rfl (by
      show (bif Nat.ble (rows.map RD).length 16000000 then some (R.v .non, rows.map RD ++ [RD ((v3 - 20) * s, (1 + v4) * t * u)]) else none) = _
      rw [Nat.ble_eq_true_of_le (by rw [List.length_map]; omega), List.map_append]
      rfl)
    unfold sExpr
    rw [mu]
    rfl
  · have ht3 : ((1 + v4) * t).natAbs ≤ 12 ∧ 0 < ((1 + v4) * t).natAbs := by rcases ht with rfl | rfl <;> omega
    have hne : (1 + v4) * t * u ≠ 0 := Int.mul_ne_zero (by omega) (by omega)
    refine ⟨hne, ⟨?_, ?_⟩, ?_⟩
    · exact (Sz.mul (k := 10) (l := 42) (by unfold Sz; omega) (by unfold Sz; omega)).mono (by decide)
    · exact (Sz.mul (k := 10) (l := 42) (by unfold Sz; omega) (by unfold Sz; omega)).mono (by decide)
    · show (nrm ((v3 - 20) * s) ((1 + v4) * t * u)).2 ≤ 12
      rcases hu with rfl | rfl
      · rw [Int.mul_one]
        exact den_1 ht3.1 (by omega)
      · exact den_of ht3.2 ht3.1 hs0.1 hne
theorem rows_loop : ∀ (n : Nat) (lo : Int) (ns : List Int) (P : D) (rows : List Q2) (s3 s4 : Sl) (k : Nat), PG (k + 6 * n) P → s3.lk = false → s4.lk = false → rows.length + n ≤ 100 → (∀ x ∈ rows, RowOk x) →
    ∃ (xs : List Q2) (P' : D) (s3' s4' : Sl), sFor (gN 3) m_law_3b (rngL lo n) (st ns P (rows.map RD) s3 s4) = some (.nx (st ns P' (xs.map RD) s3' s4')) ∧ xs.length = rows.length + n ∧ (∀ x ∈ xs, RowOk x) ∧ (s3' = s3 ∨ ∃ d, s3' = .fr d false) ∧ s4'.lk = false ∧ PG k P'
  | 0, lo, ns, P, rows, s3, s4, k, g, h3, h4, _, hr => ⟨rows, P, s3, s4, rfl, rfl, hr, .inl rfl, h4, g⟩
  | n + 1, lo, ns, P, rows, s3, s4, k, g, h3, h4, hl, hr => by
    obtain ⟨x, P1, s, e, hx, g1⟩ := row_body (ns := ns) (P := P) (rows := rows) (s3 := .fr (.int lo) false) (s4 := s4) (k := k + 6 * n) (by rw [Nat.mul_succ] at g; exact g) h4 (by omega)
    obtain ⟨xs, P2, s3', s4', e2, q1, q2, q3, q4, q5⟩ := rows_loop n (lo + 1) ns P1 (rows ++ [x]) (.fr (.int lo) false) (.fr (.int s) false) k g1 rfl rfl (by rw [List.length_append, List.length_singleton]; omega) (fun y hy => by
      rcases List.mem_append.mp hy with h | h
      · exact hr y h
      · rw [List.mem_singleton.mp h]; exact hx)
    refine ⟨xs, P2, s3', s4', ?_, by rw [q1, List.length_append, List.length_singleton]; omega, q2, .inr (by rcases q3 with h | h; exact ⟨_, h⟩; exact h), q4, q5⟩
    have e1 : gN 3 (.int lo) (st ns P (rows.map RD) s3 s4) = some (st ns P (rows.map RD) (.fr (.int lo) false) s4) := by
      simp only [gN, putR, List.getElem?_cons_zero, List.getElem?_cons_succ, h3, cond_false, List.set_cons_zero, List.set_cons_succ]
    unfold rngL sFor
    simp only [e1, e]
    exact e2
end Law

set_option Elab.async false
set_option linter.all false
set_option maxRecDepth 100000
set_option maxHeartbeats 2000000
namespace Law
open PySem PySem.Spec PyProof.Rows L2 Mi Mi.P
/-! ### worth -/
def W (x y : Q2) : Prop := x.1 * y.2 = y.1 * x.2
theorem W.refl (x : Q2) : W x x := rfl
theorem W.symm {x y : Q2} (h : W x y) : W y x := Eq.symm h
theorem W.trans {x y z : Q2} (h0 : y.2 ≠ 0) (h : W x y) (h' : W y z) : W x z := by
  unfold W at *
  refine Int.eq_of_mul_eq_mul_left h0 ?_
  grind
theorem W.pl {x x' y y' : Q2} (h : W x x') (h' : W y y') : W (pl x y) (pl x' y') := by
  unfold W Law.pl at *
  grind
theorem W.ti {x x' y y' : Q2} (h : W x x') (h' : W y y') : W (ti x y) (ti x' y') := by
  unfold W Law.ti at *
  grind
theorem nq_W {x : Q2} (h : x.2 ≠ 0) : W (nq x) x := nrm_cross x.1 h
theorem nq_low {x : Q2} (h : x.2 ≠ 0) : Low (nq x) := nrm_low x.1 h
theorem W.uniq {x y : Q2} (hx : Low x) (hy : Low y) (h : W x y) : x = y := low_uniq hx hy h
theorem Low.ne {x : Q2} (h : Low x) : x.2 ≠ 0 := by have := h.1; omega
theorem ne_mul {a b : Int} (h : a ≠ 0) (h' : b ≠ 0) : a * b ≠ 0 := Int.mul_ne_zero h h'
/-- a - b + b = a -/
theorem id1 {a b : Q2} (ha : Low a) (hb : Low b) : nq (pl (nq (mi a b)) b) = a := by
  have d1 : (mi a b).2 ≠ 0 := ne_mul ha.ne hb.ne
  have l1 := nq_low d1
  have d2 : (pl (nq (mi a b)) b).2 ≠ 0 := ne_mul l1.ne hb.ne
  refine W.uniq (nq_low d2) ha ((nq_W d2).trans d2 (((nq_W d1).pl (.refl b)).trans (y := pl (mi a b) b) (ne_mul d1 hb.ne) ?_))
  unfold W pl mi
  grind
/-- a * (b + c) = a * b + a * c -/
theorem id2 {a b c : Q2} (ha : Low a) (hb : Low b) (hc : Low c) : nq (ti a (nq (pl b c))) = nq (pl (nq (ti a b)) (nq (ti a c))) := by
  have d1 : (pl b c).2 ≠ 0 := ne_mul hb.ne hc.ne
  have d2 : (ti a b).2 ≠ 0 := ne_mul ha.ne hb.ne
  have d3 : (ti a c).2 ≠ 0 := ne_mul ha.ne hc.ne
  have d4 : (ti a (nq (pl b c))).2 ≠ 0 := ne_mul ha.ne (nq_low d1).ne
  have d5 : (pl (nq (ti a b)) (nq (ti a c))).2 ≠ 0 := ne_mul (nq_low d2).ne (nq_low d3).ne
  have d6 : (ti a (pl b c)).2 ≠ 0 := ne_mul ha.ne d1
  have d7 : (pl (ti a b) (ti a c)).2 ≠ 0 := ne_mul d2 d3
  refine W.uniq (nq_low d4) (nq_low d5) ((nq_W d4).trans d4 (((W.refl a).ti (nq_W d1)).trans d6 (W.trans d7 ?_ (((nq_W d2).pl (nq_W d3)).symm.trans d5 (nq_W d5).symm))))
  unfold W pl ti
  grind
/-- a / b * b = a -/
theorem id3 {a b : Q2} (ha : Low a) (hb : Low b) (h : b.1 ≠ 0) : nq (ti (nq (ov a b)) b) = a := by
  have d1 : (ov a b).2 ≠ 0 := ne_mul ha.ne h
  have d2 : (ti (nq (ov a b)) b).2 ≠ 0 := ne_mul (nq_low d1).ne hb.ne
  refine W.uniq (nq_low d2) ha ((nq_W d2).trans d2 (((nq_W d1).ti (.refl b)).trans (y := ti (ov a b) b) (ne_mul d1 hb.ne) ?_))
  unfold W ti ov
  grind
theorem id4 {b : Q2} (hb : Low b) (h : b.1 ≠ 0) : nq (ov b b) = (1, 1) := by
  have d1 : (ov b b).2 ≠ 0 := ne_mul hb.ne h
  refine W.uniq (nq_low d1) ⟨by decide, by decide⟩ ((nq_W d1).trans d1 ?_)
  unfold W ov
  grind
theorem Beside.step' {f w x x' : Q2} (h : Beside f w) (hx : 0 < x.2) (hx' : 0 < x'.2) (hw : W x' x) (hle : x'.2 ≤ x.2) : Beside (nq (pl f x')) (pl w x) := by
  have hp : (pl f x').2 ≠ 0 := ne_mul h.low.ne (by omega)
  have wp : (pl f x).2 ≠ 0 := ne_mul h.low.ne (by omega)
  have hww : W f w := h.eq
  refine ⟨nq_low hp, Int.mul_pos h.pos hx, (nq_W hp).trans hp (hww.pl hw), ?_⟩
  have q := nrm_le (f.1 * x'.2 + x'.1 * f.2) hp
  have l1 := (nq_low hp).1
  have t1 : f.2 * x'.2 ≤ w.2 * x'.2 := Int.mul_le_mul_of_nonneg_right h.le (by omega)
  have t2 : w.2 * x'.2 ≤ w.2 * x.2 := Int.mul_le_mul_of_nonneg_left hle (by have := h.pos; omega)
  have t3 : 0 < f.2 * x'.2 := Int.mul_pos h.low.1 hx'
  have q : (nq (pl f x')).2.natAbs ≤ (f.2 * x'.2).natAbs := q
  show (nq (pl f x')).2 ≤ w.2 * x.2
  omega
def tis : List Q2 → List Q2 → List Q2
  | x :: xs, y :: ys => ti x y :: tis xs ys
  | _, _ => []
theorem Beside.sum' : ∀ (xs ys : List Q2) {f w : Q2}, Beside f w → (∀ x ∈ xs, Low x) → (∀ x ∈ ys, Low x) → Beside (sumF f (prods xs ys)) (sumW w (tis xs ys))
  | [], ys, f, w, h, _, _ => by cases ys <;> exact h
  | x :: xs, [], f, w, h, _, _ => h
  | x :: xs, y :: ys, f, w, h, hx, hy => by
    have lx := hx x List.mem_cons_self
    have ly := hy y List.mem_cons_self
    have d : (ti x y).2 ≠ 0 := ne_mul lx.ne ly.ne
    have q := nrm_le (x.1 * y.1) d
    have p : 0 < (ti x y).2 := Int.mul_pos lx.1 ly.1
    have p2 := (nq_low d).1
    have q : (nq (ti x y)).2.natAbs ≤ (ti x y).2.natAbs := q
    exact Beside.sum' xs ys (h.step' p p2 (nq_W d) (by omega)) (fun z hz => hx z (List.mem_cons_of_mem _ hz)) fun z hz => hy z (List.mem_cons_of_mem _ hz)
theorem tis_len : ∀ (xs ys : List Q2), xs.length = ys.length → (tis xs ys).length = xs.length
  | [], [], _ => rfl
  | x :: xs, y :: ys, h => by show (tis xs ys).length + 1 = xs.length + 1; rw [tis_len xs ys (by simpa using h)]
  | [], y :: ys, h => by simp at h
  | x :: xs, [], h => by simp at h
/-- what the told fractions are -/
structure Tl (x : Q2) : Prop where
  low : Low x
  sz : S2 60 x
  den : x.2 ≤ 12
theorem tis_ok : ∀ (xs ys : List Q2), (∀ x ∈ xs, Tl x) → (∀ x ∈ ys, Tl x) → ∀ z ∈ tis xs ys, S2 120 z ∧ 0 < z.2 ∧ z.2 ≤ 144
  | [], ys, _, _, z, hz => by cases ys <;> cases hz
  | x :: xs, [], _, _, z, hz => by cases hz
  | x :: xs, y :: ys, hx, hy, z, hz => by
    have tx := hx x List.mem_cons_self
    have ty := hy y List.mem_cons_self
    rcases List.mem_cons.mp hz with e | hz
    · subst e
      refine ⟨ti_sz tx.sz ty.sz, Int.mul_pos tx.low.1 ty.low.1, ?_⟩
      have t1 : x.2 * y.2 ≤ 12 * y.2 := Int.mul_le_mul_of_nonneg_right tx.den (by have := ty.low.1; omega)
      have := ty.den
      show x.2 * y.2 ≤ 144
      omega
    · exact tis_ok xs ys (fun z hz => hx z (List.mem_cons_of_mem _ hz)) (fun z hz => hy z (List.mem_cons_of_mem _ hz)) z hz
theorem RowOk.tl {x : Q2} (h : RowOk x) : Tl (nq x) := ⟨nq_low h.ne, nq_sz h.ne h.sz, h.den⟩
/-! ### small steps -/
theorem if_f {c : CE} {a b : MS} {σ σ1 : List Sl} (h : c σ = some (false, σ1)) : sIf c a b σ = b σ1 := by unfold sIf; rw [h]
theorem if_t {c : CE} {a b : MS} {σ σ1 : List Sl} (h : c σ = some (true, σ1)) : sIf c a b σ = a σ1 := by unfold sIf; rw [h]
theorem mif_f {c : CE} {a b : ME} {σ σ1 : List Sl} (h : c σ = some (false, σ1)) : mIf c a b σ = b σ1 := by unfold mIf; rw [h]
theorem mif_t {c : CE} {a b : ME} {σ σ1 : List Sl} (h : c σ = some (true, σ1)) : mIf c a b σ = a σ1 := by unfold mIf; rw [h]
theorem cm_eq {m : ME} {σ σ1 : List Sl} {b : Bool} (h : m σ = some (.v (.bl b), σ1)) : cM m σ = some (b, σ1) := by unfold cM; rw [h]
theorem co_eq {o : OE} {σ σ1 : List Sl} {b : Bool} (h : o σ = some (.d (.bl b), σ1)) : cO o σ = some (b, σ1) := by
  unfold cO
  rw [h]; rfl
theorem not_t {c : CE} {σ σ1 : List Sl} (h : c σ = some (true, σ1)) : cNot c σ = some (false, σ1) := by unfold cNot; rw [h]; rfl
theorem or_f {a b : CE} {σ σ1 : List Sl} {x : Option (Bool × List Sl)} (h : a σ = some (false, σ1)) (h' : b σ1 = x) : cOr a b σ = x := by unfold cOr; rw [h]; exact h'
theorem cand_t {a b : CE} {σ σ1 : List Sl} {x : Option (Bool × List Sl)} (h : a σ = some (true, σ1)) (h' : b σ1 = x) : cAnd a b σ = x := by unfold cAnd; rw [h]; exact h'
theorem cand_f {a b : CE} {σ σ1 : List Sl} (h : a σ = some (false, σ1)) : cAnd a b σ = some (false, σ1) := by unfold cAnd; rw [h]
theorem set_eq {i : Nat} {m : ME} {σ σ1 σ2 : List Sl} {r : R} (h : m σ = some (r, σ1)) (h' : putR i r σ1 = some σ2) : sSet i m σ = some (.nx σ2) := by
  unfold sSet
  rw [h]
  simp only [h']
theorem tup_eq {m : VEs} {σ σ1 : List Sl} {ds : List D} (h : m σ = some (ds, σ1)) (hs : szOk ds.length = true) : mTup m σ = some (.v (.tup ds), σ1) := by
  unfold mTup
  rw [h]
  show (bif szOk ds.length then _ else _) = _
  rw [hs]; rfl
theorem lst_eq {m : VEs} {σ σ1 : List Sl} {ds : List D} (h : m σ = some (ds, σ1)) (hs : szOk ds.length = true) : mLst m σ = some (.n (.lst ds), σ1) := by
  unfold mLst
  rw [h]
  show (bif szOk ds.length then _ else _) = _
  rw [hs]; rfl
theorem ix0 {o : OE} {x : Q2} {σ σ1 : List Sl} (h : o σ = some (.d (FD x), σ1)) : mBin fIx o (vo (vK (.int 0))) σ = some (.v (.int x.1), σ1) := bin_eq h rfl rfl
theorem ix1 {o : OE} {x : Q2} {σ σ1 : List Sl} (h : o σ = some (.d (FD x), σ1)) : mBin fIx o (vo (vK (.int 1))) σ = some (.v (.int x.2), σ1) := bin_eq h rfl rfl
end Law

set_option Elab.async false
set_option linter.all false
set_option maxRecDepth 100000
set_option maxHeartbeats 2000000
namespace Law
open PySem PySem.Spec PyProof.Rows L2 Mi Mi.P
/-! ### the told fractions -/
theorem told_loop (a0 a1 a2 a3 a4 a5 a6 a7 a8 a9 a10 a11 a12 a13 : Sl) : ∀ (xs : List Q2) (acc : List D), (∀ x ∈ xs, RowOk x) →
    lcL (gT 2 (gsC (gN 14) (gsC (gN 15) (gsN)))) (cYes) (mv (mCall 2 f_frac (osC (vo (vVar 14)) (osC (vo (vVar 15)) (osN))))) [14, 15] (xs.map RD) acc [a0, a1, a2, a3, a4, a5, a6, a7, a8, a9, a10, a11, a12, a13, .no, .no] =
      some (((xs.map nq).map FD).reverse ++ acc, [a0, a1, a2, a3, a4, a5, a6, a7, a8, a9, a10, a11, a12, a13, .no, .no])
  | [], acc, _ => rfl
  | x :: xs, acc, h => by
    have hx := h x List.mem_cons_self
    have ih := told_loop a0 a1 a2 a3 a4 a5 a6 a7 a8 a9 a10 a11 a12 a13 xs (FD (nq x) :: acc) fun y hy => h y (List.mem_cons_of_mem _ hy)
    have fe := frac_eq x.1 hx.ne (hx.sz.2.mono (by decide))
    have e1 : gT 2 (gsC (gN 14) (gsC (gN 15) (gsN))) (RD x) [a0, a1, a2, a3, a4, a5, a6, a7, a8, a9, a10, a11, a12, a13, .no, .no] = some [a0, a1, a2, a3, a4, a5, a6, a7, a8, a9, a10, a11, a12, a13, .fr (.int x.1) false, .fr (.int x.2) false] := rfl
    have e2 : mv (mCall 2 f_frac (osC (vo (vVar 14)) (osC (vo (vVar 15)) (osN)))) [a0, a1, a2, a3, a4, a5, a6, a7, a8, a9, a10, a11, a12, a13, .fr (.int x.1) false, .fr (.int x.2) false] = some (FD (nq x), [a0, a1, a2, a3, a4, a5, a6, a7, a8, a9, a10, a11, a12, a13, .fr (.int x.1) false, .fr (.int x.2) false]) :=
      mv_v (call_eq (ops := [.d (.int x.1), .d (.int x.2)]) (σ1 := [a0, a1, a2, a3, a4, a5, a6, a7, a8, a9, a10, a11, a12, a13, .fr (.int x.1) false, .fr (.int x.2) false]) rfl rfl rfl fe rfl)
    rw [List.map_cons, List.map_cons, List.map_cons]
    unfold lcL
    simp only [e1, cYes, e2]
    rw [show wipeS [a0, a1, a2, a3, a4, a5, a6, a7, a8, a9, a10, a11, a12, a13, .fr (.int x.1) false, .fr (.int x.2) false] [14, 15] = [a0, a1, a2, a3, a4, a5, a6, a7, a8, a9, a10, a11, a12, a13, .no, .no] from rfl, ih, List.reverse_cons, List.append_assoc]
    rfl
/-- all sixteen slots -/
abbrev sx (ns : List Int) (P : D) (s2 s3 s4 s5 s6 s7 s8 s9 s10 s11 s12 s13 : Sl) : List Sl := [.fr (.scr ns) false, .ow P false, s2, s3, s4, s5, s6, s7, s8, s9, s10, s11, s12, s13, .no, .no]
theorem law4 {ns : List Int} {P : D} {xs : List Q2} {s3 s4 : Sl} (hx : ∀ x ∈ xs, RowOk x) (hl : xs.length ≤ 1000) :
    m_law_4 (st ns P (xs.map RD) s3 s4) = some (.nx (sx ns P (.fr (.lst (xs.map RD)) false) s3 s4 (.ow (.lst ((xs.map nq).map FD)) false) .no .no .no .no .no .no .no .no)) := by
  have lp := told_loop (.fr (.scr ns) false) (.ow P false) (.fr (.lst (xs.map RD)) false) s3 s4 .no .no .no .no .no .no .no .no .no xs [] hx
  rw [List.append_nil] at lp
  have lc := lc_eq (it := iSq (vVar 2)) (g := gT 2 (gsC (gN 14) (gsC (gN 15) (gsN)))) (t := cYes) (e := mv (mCall 2 f_frac (osC (vo (vVar 14)) (osC (vo (vVar 15)) (osN))))) (vs := [14, 15]) (σ := st ns P (xs.map RD) s3 s4)
    (σ1 := sx ns P (.fr (.lst (xs.map RD)) false) s3 s4 .no .no .no .no .no .no .no .no .no) (ds := xs.map RD) rfl rfl (by rw [List.length_map]; omega) lp
  rw [List.reverse_reverse] at lc
  exact set_eq lc rfl
/-! ### the first filter: none is left -/
theorem filter_loop {ns : List Int} {P : D} {s4 s6 s7 s8 s9 s10 s11 s12 s13 : Sl} (R : List Q2) (hx : ∀ x ∈ R, RowOk x) (hl : R.length ≤ 1000) : ∀ (n lo : Nat) (acc : List D), lo + n = R.length →
    lcL (gN 3) (cNot (cO (mo (mCall 3 f_law_same_worth (osC (mo (mBin fIx (oVar 5) (oVar 3))) (osC (mo (mIf (cM (mBin fGt (mo (mBin fIx (mo (mBin fIx (oVar 2) (oVar 3))) (vo (vK (.int 1))))) (vo (vK (.int 0))))) (mBin fIx (mo (mBin fIx (oVar 2) (oVar 3))) (vo (vK (.int 0)))) (mNeg (mo (mBin fIx (mo (mBin fIx (oVar 2) (oVar 3))) (vo (vK (.int 0)))))))) (osC (mo (mIf (cM (mBin fGt (mo (mBin fIx (mo (mBin fIx (oVar 2) (oVar 3))) (vo (vK (.int 1))))) (vo (vK (.int 0))))) (mBin fIx (mo (mBin fIx (oVar 2) (oVar 3))) (vo (vK (.int 1)))) (mNeg (mo (mBin fIx (mo (mBin fIx (oVar 2) (oVar 3))) (vo (vK (.int 1)))))))) (osN)))))))) (vVar 3) [3] (rngL (lo : Int) n) acc (sx ns P (.fr (.lst (R.map RD)) false) .no s4 (.ow (.lst ((R.map nq).map FD)) false) s6 s7 s8 s9 s10 s11 s12 s13) = some (acc, sx ns P (.fr (.lst (R.map RD)) false) .no s4 (.ow (.lst ((R.map nq).map FD)) false) s6 s7 s8 s9 s10 s11 s12 s13)
  | 0, lo, acc, _ => rfl
  | n + 1, lo, acc, h => by
    have ih := filter_loop (ns := ns) (P := P) (s4 := s4) (s6 := s6) (s7 := s7) (s8 := s8) (s9 := s9) (s10 := s10) (s11 := s11) (s12 := s12) (s13 := s13) R hx hl n (lo + 1) acc (by omega)
    have hlo : lo < R.length := by omega
    have hr := hx R[lo] (List.getElem_mem _)
    have ge : R[lo]? = some R[lo] := List.getElem?_eq_getElem hlo
    generalize R[lo] = r at hr ge
    have g1 : (R.map RD)[lo]? = some (RD r) := by rw [List.getElem?_map, ge]; rfl
    have g2 : ((R.map nq).map FD)[lo]? = some (FD (nq r)) := by rw [List.getElem?_map, List.getElem?_map, ge]; rfl
    generalize hσ : sx ns P (.fr (.lst (R.map RD)) false) (.fr (.int lo) false) s4 (.ow (.lst ((R.map nq).map FD)) false) s6 s7 s8 s9 s10 s11 s12 s13 = σ
    have o3 : oVar 3 σ = some (.d (.int (lo : Int)), σ) := by subst hσ; rfl
    have o2 : oVar 2 σ = some (.d (.lst (R.map RD)), σ) := by subst hσ; rfl
    have t5 : mBin fIx (oVar 5) (oVar 3) σ = some (.v (FD (nq r)), σ) := by
      have := ixL g2
      subst hσ
      show (match fIx (.lst ((R.map nq).map FD)) (.int (lo : Int)) with | some r => some (r, _) | none => none) = _
      rw [this]
    have rr : mo (mBin fIx (oVar 2) (oVar 3)) σ = some (.d (FD r), σ) := mo_v (bin_eq o2 o3 (ixL g1))
    have fr0 := ix0 rr
    have fr1 := ix1 rr
    have key : ∃ p q : Int, (mIf (cM (mBin fGt (mo (mBin fIx (mo (mBin fIx (oVar 2) (oVar 3))) (vo (vK (.int 1))))) (vo (vK (.int 0))))) (mBin fIx (mo (mBin fIx (oVar 2) (oVar 3))) (vo (vK (.int 0)))) (mNeg (mo (mBin fIx (mo (mBin fIx (oVar 2) (oVar 3))) (vo (vK (.int 0))))))) σ = some (.v (.int p), σ) ∧
        (mIf (cM (mBin fGt (mo (mBin fIx (mo (mBin fIx (oVar 2) (oVar 3))) (vo (vK (.int 1))))) (vo (vK (.int 0))))) (mBin fIx (mo (mBin fIx (oVar 2) (oVar 3))) (vo (vK (.int 1)))) (mNeg (mo (mBin fIx (mo (mBin fIx (oVar 2) (oVar 3))) (vo (vK (.int 1))))))) σ = some (.v (.int q), σ) ∧ Sz 60 p ∧ Sz 60 q ∧ (nq r).1 * q = p * (nq r).2 := by
      have cr : (nq r).1 * r.2 = r.1 * (nq r).2 := nq_W hr.ne
      have cc : (mBin fGt (mo (mBin fIx (mo (mBin fIx (oVar 2) (oVar 3))) (vo (vK (.int 1))))) (vo (vK (.int 0)))) σ = some (.v (.bl (decide (0 < r.2))), σ) := bin_eq (mo_v fr1) rfl e_gt
      by_cases h : 0 < r.2
      · rw [dT h] at cc
        exact ⟨r.1, r.2, (mif_t (cm_eq cc)).trans fr0, (mif_t (cm_eq cc)).trans fr1, hr.sz.1, hr.sz.2, cr⟩
      · rw [dF h] at cc
        exact ⟨-r.1, -r.2, (mif_f (cm_eq cc)).trans (e_neg _ _ _ (mo_v fr0)), (mif_f (cm_eq cc)).trans (e_neg _ _ _ (mo_v fr1)), hr.sz.1.neg, hr.sz.2.neg, by rw [Int.mul_neg, Int.neg_mul, cr]⟩
    obtain ⟨p, q, k1, k2, k3, k4, k5⟩ := key
    have we := worth_eq hr.tl.low hr.tl.sz k3 k4 (by decide) (by have := hr.den; have := hr.tl.low.1; omega) k5
    have tt : (cNot (cO (mo (mCall 3 f_law_same_worth (osC (mo (mBin fIx (oVar 5) (oVar 3))) (osC (mo (mIf (cM (mBin fGt (mo (mBin fIx (mo (mBin fIx (oVar 2) (oVar 3))) (vo (vK (.int 1))))) (vo (vK (.int 0))))) (mBin fIx (mo (mBin fIx (oVar 2) (oVar 3))) (vo (vK (.int 0)))) (mNeg (mo (mBin fIx (mo (mBin fIx (oVar 2) (oVar 3))) (vo (vK (.int 0)))))))) (osC (mo (mIf (cM (mBin fGt (mo (mBin fIx (mo (mBin fIx (oVar 2) (oVar 3))) (vo (vK (.int 1))))) (vo (vK (.int 0))))) (mBin fIx (mo (mBin fIx (oVar 2) (oVar 3))) (vo (vK (.int 1)))) (mNeg (mo (mBin fIx (mo (mBin fIx (oVar 2) (oVar 3))) (vo (vK (.int 1)))))))) (osN)))))))) σ = some (false, σ) :=
      not_t (co_eq (mo_v (call_eq (ops := [.d (FD (nq r)), .d (.int p), .d (.int q)]) (σ1 := σ) (oc_eq (mo_v t5) (oc_eq (mo_v k1) (oc_eq (mo_v k2) rfl))) rfl rfl we rfl)))
    have e1 : gN 3 (.int (lo : Int)) (sx ns P (.fr (.lst (R.map RD)) false) .no s4 (.ow (.lst ((R.map nq).map FD)) false) s6 s7 s8 s9 s10 s11 s12 s13) = some σ := by subst hσ; rfl
    have wp : wipeS σ [3] = sx ns P (.fr (.lst (R.map RD)) false) .no s4 (.ow (.lst ((R.map nq).map FD)) false) s6 s7 s8 s9 s10 s11 s12 s13 := by subst hσ; rfl
    unfold rngL lcL
    simp only [e1, tt, wp]
    exact ih
theorem law5 {ns : List Int} {P : D} {R : List Q2} {s3 s4 s6 s7 s8 s9 s10 s11 s12 s13 : Sl} (hx : ∀ x ∈ R, RowOk x) (hl : R.length = 5) (h3 : s3 = .no ∨ ∃ d, s3 = .fr d false) :
    m_law_5 (sx ns P (.fr (.lst (R.map RD)) false) s3 s4 (.ow (.lst ((R.map nq).map FD)) false) s6 s7 s8 s9 s10 s11 s12 s13) = some (.nx (sx ns P (.fr (.lst (R.map RD)) false) s3 s4 (.ow (.lst ((R.map nq).map FD)) false) s6 s7 s8 s9 s10 s11 s12 s13)) := by
  have hw : canWipe (sx ns P (.fr (.lst (R.map RD)) false) s3 s4 (.ow (.lst ((R.map nq).map FD)) false) s6 s7 s8 s9 s10 s11 s12 s13) [3] = true := by rcases h3 with rfl | ⟨d, rfl⟩ <;> rfl
  have lp := filter_loop (ns := ns) (P := P) (s4 := s4) (s6 := s6) (s7 := s7) (s8 := s8) (s9 := s9) (s10 := s10) (s11 := s11) (s12 := s12) (s13 := s13) R hx (by omega) 5 0 [] (by omega)
  have it : iR1 (osC (vo (vK (.int 5))) (osN)) (sx ns P (.fr (.lst (R.map RD)) false) s3 s4 (.ow (.lst ((R.map nq).map FD)) false) s6 s7 s8 s9 s10 s11 s12 s13) = some (rngL 0 5, sx ns P (.fr (.lst (R.map RD)) false) s3 s4 (.ow (.lst ((R.map nq).map FD)) false) s6 s7 s8 s9 s10 s11 s12 s13) := r1_eq (n := 5) rfl (by decide)
  have lc := lc_eq (g := gN 3) (t := (cNot (cO (mo (mCall 3 f_law_same_worth (osC (mo (mBin fIx (oVar 5) (oVar 3))) (osC (mo (mIf (cM (mBin fGt (mo (mBin fIx (mo (mBin fIx (oVar 2) (oVar 3))) (vo (vK (.int 1))))) (vo (vK (.int 0))))) (mBin fIx (mo (mBin fIx (oVar 2) (oVar 3))) (vo (vK (.int 0)))) (mNeg (mo (mBin fIx (mo (mBin fIx (oVar 2) (oVar 3))) (vo (vK (.int 0)))))))) (osC (mo (mIf (cM (mBin fGt (mo (mBin fIx (mo (mBin fIx (oVar 2) (oVar 3))) (vo (vK (.int 1))))) (vo (vK (.int 0))))) (mBin fIx (mo (mBin fIx (oVar 2) (oVar 3))) (vo (vK (.int 1)))) (mNeg (mo (mBin fIx (mo (mBin fIx (oVar 2) (oVar 3))) (vo (vK (.int 1)))))))) (osN))))))))) (e := vVar 3) (vs := [3]) it hw (by rw [rngL_len]; decide) lp
  have ln := mo_v (m := mFn fLen (osC (mo (mLc (iR1 (osC (vo (vK (.int 5))) (osN))) (gN 3) (cNot (cO (mo (mCall 3 f_law_same_worth (osC (mo (mBin fIx (oVar 5) (oVar 3))) (osC (mo (mIf (cM (mBin fGt (mo (mBin fIx (mo (mBin fIx (oVar 2) (oVar 3))) (vo (vK (.int 1))))) (vo (vK (.int 0))))) (mBin fIx (mo (mBin fIx (oVar 2) (oVar 3))) (vo (vK (.int 0)))) (mNeg (mo (mBin fIx (mo (mBin fIx (oVar 2) (oVar 3))) (vo (vK (.int 0)))))))) (osC (mo (mIf (cM (mBin fGt (mo (mBin fIx (mo (mBin fIx (oVar 2) (oVar 3))) (vo (vK (.int 1))))) (vo (vK (.int 0))))) (mBin fIx (mo (mBin fIx (oVar 2) (oVar 3))) (vo (vK (.int 1)))) (mNeg (mo (mBin fIx (mo (mBin fIx (oVar 2) (oVar 3))) (vo (vK (.int 1)))))))) (osN)))))))) (vVar 3) [3])) (osN))) (d := .int 0) (σ := sx ns P (.fr (.lst (R.map RD)) false) s3 s4 (.ow (.lst ((R.map nq).map FD)) false) s6 s7 s8 s9 s10 s11 s12 s13)
    (σ1 := sx ns P (.fr (.lst (R.map RD)) false) s3 s4 (.ow (.lst ((R.map nq).map FD)) false) s6 s7 s8 s9 s10 s11 s12 s13) (by
      unfold mFn
      rw [oc_eq (mo_n lc) rfl]
      rfl)
  exact (if_f (cm_eq (b := false) (bin_eq ln rfl rfl))).trans rfl
end Law

set_option Elab.async false
set_option linter.all false
set_option maxRecDepth 100000
set_option maxHeartbeats 2000000
namespace Law
open PySem PySem.Spec PyProof.Rows L2 Mi Mi.P
section
variable {σ : List Sl} {a b c : Q2}
theorem two_call {f : Fn} {o o' : OE} {x y : D} {r : R} (h : o σ = some (.d x, σ)) (h' : o' σ = some (.d y, σ)) (e : f [.fr x false, .fr y false] = some (r, [.no, .no])) : mCall 2 f (osC o (osC o' (osN))) σ = some (r, σ) :=
  call_eq (ops := [.d x, .d y]) (oc_eq h (oc_eq h' rfl)) rfl rfl e rfl
theorem three_call {f : Fn} {o o' o2 : OE} {x y z : D} {r : R} (h : o σ = some (.d x, σ)) (h' : o' σ = some (.d y, σ)) (h2 : o2 σ = some (.d z, σ)) (e : f [.fr x false, .fr y false, .fr z false] = some (r, [.no, .no, .no])) : mCall 3 f (osC o (osC o' (osC o2 (osN)))) σ = some (r, σ) :=
  call_eq (ops := [.d x, .d y, .d z]) (oc_eq h (oc_eq h' (oc_eq h2 rfl))) rfl rfl e rfl
theorem one_call {f : Fn} {o : OE} {x : D} {r : R} (h : o σ = some (.d x, σ)) (e : f [.fr x false] = some (r, [.no])) : mCall 1 f (osC o (osN)) σ = some (r, σ) :=
  call_eq (ops := [.d x]) (oc_eq h rfl) rfl rfl e rfl
theorem mul01 {o o' : OE} (h : o σ = some (.d (FD a), σ)) (h' : o' σ = some (.d (FD b), σ)) (ha : S2 60 a) (hb : S2 60 b) : mBin fMulI (mo (mBin fIx o (vo (vK (.int 0))))) (mo (mBin fIx o' (vo (vK (.int 1))))) σ = some (.v (.int (a.1 * b.2)), σ) :=
  bin_eq (mo_v (ix0 h)) (mo_v (ix1 h')) (e_mul (cm_of ha.1 hb.2 (by decide) (by decide)))
theorem mul00 {o o' : OE} (h : o σ = some (.d (FD a), σ)) (h' : o' σ = some (.d (FD b), σ)) (ha : S2 60 a) (hb : S2 60 b) : mBin fMulI (mo (mBin fIx o (vo (vK (.int 0))))) (mo (mBin fIx o' (vo (vK (.int 0))))) σ = some (.v (.int (a.1 * b.1)), σ) :=
  bin_eq (mo_v (ix0 h)) (mo_v (ix0 h')) (e_mul (cm_of ha.1 hb.1 (by decide) (by decide)))
theorem mul11 {o o' : OE} (h : o σ = some (.d (FD a), σ)) (h' : o' σ = some (.d (FD b), σ)) (ha : S2 60 a) (hb : S2 60 b) : mBin fMulI (mo (mBin fIx o (vo (vK (.int 1))))) (mo (mBin fIx o' (vo (vK (.int 1))))) σ = some (.v (.int (a.2 * b.2)), σ) :=
  bin_eq (mo_v (ix1 h)) (mo_v (ix1 h')) (e_mul (cm_of ha.2 hb.2 (by decide) (by decide)))
theorem den_mul {x : Q2} (ha : Tl a) (hb : Tl b) (hx : x.2 = a.2 * b.2) : (nq x).2.natAbs < 2 ^ 99 ∧ x.2 ≠ 0 := by
  have h : x.2 ≠ 0 := by rw [hx]; exact ne_mul ha.low.ne hb.low.ne
  have q := nrm_le x.1 h
  have q : (nq x).2.natAbs ≤ x.2.natAbs := q
  have := ha.den
  have := hb.den
  have a0 := ha.low.1
  have b0 := hb.low.1
  have t1 : a.2 * b.2 ≤ 12 * b.2 := Int.mul_le_mul_of_nonneg_right ha.den (by omega)
  have t2 : 0 < a.2 * b.2 := Int.mul_pos a0 b0
  exact ⟨by omega, h⟩
theorem law7 (o6 : oVar 6 σ = some (.d (FD a), σ)) (o7 : oVar 7 σ = some (.d (FD b), σ)) (ha : Tl a) (hb : Tl b) : m_law_7 σ = some (.nx σ) := by
  have hne := ne_mul ha.low.ne hb.low.ne
  have p := two_call o6 o7 (plus_eq ha.sz hb.sz (by decide) hne)
  have m := two_call o6 o7 (minus_eq ha.sz hb.sz (by decide) hne)
  obtain ⟨d1, n1⟩ := den_mul (x := pl a b) ha hb rfl
  obtain ⟨d2, n2⟩ := den_mul (x := mi a b) ha hb rfl
  have z1 := pl_sz ha.sz hb.sz
  have z2 := mi_sz ha.sz hb.sz
  have w1 := worth_eq (nq_low n1) (nq_sz n1 z1) z1.1 z1.2 (by decide) d1 (nq_W n1)
  have w2 := worth_eq (nq_low n2) (nq_sz n2 z2) z2.1 z2.2 (by decide) d2 (nq_W n2)
  unfold m_law_7
  refine (if_f (σ1 := σ) (or_f (not_t (co_eq (mo_v (three_call (mo_v p) (mo_v (bin_eq (mo_v (mul01 o6 o7 ha.sz hb.sz)) (mo_v (mul01 o7 o6 hb.sz ha.sz)) e_add)) (mo_v (mul11 o6 o7 ha.sz hb.sz)) w1))))
    (not_t (co_eq (mo_v (three_call (mo_v m) (mo_v (bin_eq (mo_v (mul01 o6 o7 ha.sz hb.sz)) (mo_v (mul01 o7 o6 hb.sz ha.sz)) e_sub)) (mo_v (mul11 o6 o7 ha.sz hb.sz)) w2)))))).trans rfl
theorem law8 (o6 : oVar 6 σ = some (.d (FD a), σ)) (o7 : oVar 7 σ = some (.d (FD b), σ)) (ha : Tl a) (hb : Tl b) : m_law_8 σ = some (.nx σ) := by
  have hne := ne_mul ha.low.ne hb.low.ne
  have p := two_call o6 o7 (times_eq ha.sz hb.sz (by decide) hne)
  have m := two_call o6 o7 (less_eq ha.sz hb.sz (by decide))
  obtain ⟨d1, n1⟩ := den_mul (x := ti a b) ha hb rfl
  have z1 := ti_sz ha.sz hb.sz
  have w1 := worth_eq (nq_low n1) (nq_sz n1 z1) z1.1 z1.2 (by decide) d1 (nq_W n1)
  have w2 := same_ok 12 (.bl (decide (a.1 * b.2 < b.1 * a.2))) rfl
  unfold m_law_8
  refine (if_f (σ1 := σ) (or_f (not_t (co_eq (mo_v (three_call (mo_v p) (mo_v (mul00 o6 o7 ha.sz hb.sz)) (mo_v (mul11 o6 o7 ha.sz hb.sz)) w1))))
    (not_t (co_eq (mo_v (two_call (mo_v m) (mo_v (bin_eq (mo_v (mul01 o6 o7 ha.sz hb.sz)) (mo_v (mul01 o7 o6 hb.sz ha.sz)) e_lt)) w2)))))).trans rfl
theorem law9 (o6 : oVar 6 σ = some (.d (FD a), σ)) (o7 : oVar 7 σ = some (.d (FD b), σ)) (o8 : oVar 8 σ = some (.d (FD c), σ)) (v6 : vVar 6 σ = some (FD a, σ)) (ha : Tl a) (hb : Tl b) (hc : Tl c) : m_law_9 σ = some (.nx σ) := by
  have nab := ne_mul ha.low.ne hb.low.ne
  have nac := ne_mul ha.low.ne hc.low.ne
  have nbc := ne_mul hb.low.ne hc.low.ne
  have m := two_call o6 o7 (minus_eq ha.sz hb.sz (by decide) nab)
  have n1 : (mi a b).2 ≠ 0 := nab
  have n2 : (pl b c).2 ≠ 0 := nbc
  have n3 : (ti a b).2 ≠ 0 := nab
  have n4 : (ti a c).2 ≠ 0 := nac
  have x1 := two_call (mo_v m) o7 (plus_eq (nq_sz n1 (mi_sz ha.sz hb.sz)) hb.sz (by decide) (ne_mul (nq_low n1).ne hb.low.ne))
  have pbc := two_call o7 o8 (plus_eq hb.sz hc.sz (by decide) nbc)
  have x2 := two_call o6 (mo_v pbc) (times_eq ha.sz (nq_sz n2 (pl_sz hb.sz hc.sz)) (by decide) (ne_mul ha.low.ne (nq_low n2).ne))
  have x3 := two_call o6 o6 (less_eq ha.sz ha.sz (by decide))
  have tab := two_call o6 o7 (times_eq ha.sz hb.sz (by decide) nab)
  have tac := two_call o6 o8 (times_eq ha.sz hc.sz (by decide) nac)
  have y2 := two_call (mo_v tab) (mo_v tac) (plus_eq (nq_sz n3 (ti_sz ha.sz hb.sz)) (nq_sz n4 (ti_sz ha.sz hc.sz)) (by decide) (ne_mul (nq_low n3).ne (nq_low n4).ne))
  rw [id1 ha.low hb.low] at x1
  rw [id2 ha.low hb.low hc.low] at x2
  rw [dF (Int.lt_irrefl _)] at x3
  have s1 := same_ok 12 (.lst [FD a, FD (nq (pl (nq (ti a b)) (nq (ti a c)))), .bl false]) rfl
  unfold m_law_9
  exact (if_f (σ1 := σ) (not_t (co_eq (mo_v (two_call (mo_n (lst_eq (vs_eq (mv_v x1) (vs_eq (mv_v x2) (vs_eq (mv_v x3) rfl))) rfl)) (mo_n (lst_eq (vs_eq v6 (vs_eq (mv_v y2) (vs_eq rfl rfl))) rfl)) s1))))).trans rfl
theorem law10 (o6 : oVar 6 σ = some (.d (FD a), σ)) (o7 : oVar 7 σ = some (.d (FD b), σ)) (v6 : vVar 6 σ = some (FD a, σ)) (ha : Tl a) (hb : Tl b) : m_law_10 σ = some (.nx σ) := by
  have cc : (mBin fNe (mo (mBin fIx (oVar 7) (vo (vK (.int 0))))) (vo (vK (.int 0)))) σ = some (.v (.bl (!decide (b.1 = 0))), σ) := bin_eq (mo_v (ix0 o7)) rfl e_neI
  unfold m_law_10
  by_cases h : b.1 = 0
  · rw [dT h] at cc
    exact (if_f (σ1 := σ) (cand_f (cm_eq cc))).trans rfl
  · rw [dF h] at cc
    have n1 : (ov a b).2 ≠ 0 := ne_mul ha.low.ne h
    have ob := two_call o6 o7 (over_eq ha.sz hb.sz (by decide) n1)
    have x1 := two_call (mo_v ob) o7 (times_eq (nq_sz n1 (ov_sz ha.sz hb.sz)) hb.sz (by decide) (ne_mul (nq_low n1).ne hb.low.ne))
    have x2 := two_call o7 o7 (over_eq hb.sz hb.sz (by decide) (ne_mul hb.low.ne h))
    rw [id3 ha.low hb.low h] at x1
    rw [id4 hb.low h] at x2
    have s1 := same_ok 12 (.lst [FD a, FD (1, 1)]) rfl
    exact (if_f (σ1 := σ) (cand_t (cm_eq cc) (not_t (co_eq (mo_v (two_call (mo_n (lst_eq (vs_eq (mv_v x1) (vs_eq (mv_v x2) rfl)) rfl)) (mo_n (lst_eq (vs_eq v6 (vs_eq (mv_v (tup_eq (ds := [.int 1, .int 1]) rfl rfl)) rfl)) rfl)) s1)))))).trans rfl
end
/-! ### the sum as it comes -/
theorem add_pl {σ : List Sl} {w x : Q2} {k l : Nat} {o o' : OE} (ow : o σ = some (.d (FD w), σ)) (ox : o' σ = some (.d (FD x), σ)) (hw : S2 k w) (hx : S2 l x) (hk : k ≤ 8000) (hl : l ≤ 8000) :
    mTup (vsC (mv (mBin fAdd (mo (mBin fMulI (mo (mBin fIx o (vo (vK (.int 0))))) (mo (mBin fIx o' (vo (vK (.int 1))))))) (mo (mBin fMulI (mo (mBin fIx o' (vo (vK (.int 0))))) (mo (mBin fIx o (vo (vK (.int 1))))))))) (vsC (mv (mBin fMulI (mo (mBin fIx o (vo (vK (.int 1))))) (mo (mBin fIx o' (vo (vK (.int 1))))))) (vsN))) σ = some (.v (FD (pl w x)), σ) := by
  have p1 := bin_eq (mo_v (ix0 ow)) (mo_v (ix1 ox)) (e_mul (cm_of hw.1 hx.2 hk hl))
  have p2 := bin_eq (mo_v (ix0 ox)) (mo_v (ix1 ow)) (e_mul (cm_of hx.1 hw.2 hl hk))
  have p3 := bin_eq (mo_v (ix1 ow)) (mo_v (ix1 ox)) (e_mul (cm_of hw.2 hx.2 hk hl))
  exact tup_eq (vs_eq (mv_v (bin_eq (mo_v p1) (mo_v p2) e_add)) (vs_eq (mv_v p3) rfl)) rfl
theorem whole_loop {ns : List Int} {P : D} {s2 s3 s4 s5 s6 s7 s8 s11 s12 s13 : Sl} : ∀ (xs : List Q2) (w : Q2) (s10 : Sl) (k : Nat), S2 k w → (∀ x ∈ xs, S2 60 x) → k + 61 * xs.length ≤ 7900 → s10.lk = false →
    ∃ s10', sFor (gN 10) m_law_12b (xs.map FD) (sx ns P s2 s3 s4 s5 s6 s7 s8 (.fr (FD w) false) s10 s11 s12 s13) = some (.nx (sx ns P s2 s3 s4 s5 s6 s7 s8 (.fr (FD (sumW w xs)) false) s10' s11 s12 s13))
  | [], w, s10, k, _, _, _, _ => ⟨s10, rfl⟩
  | x :: xs, w, s10, k, hw, hx, hk, hs => by
    rw [List.length_cons, Nat.mul_succ] at hk
    obtain ⟨s', e⟩ := whole_loop (ns := ns) (P := P) (s2 := s2) (s3 := s3) (s4 := s4) (s5 := s5) (s6 := s6) (s7 := s7) (s8 := s8) (s11 := s11) (s12 := s12) (s13 := s13) xs (pl w x) (.fr (FD x) false) (k + 60 + 1) (pl_sz hw (hx x List.mem_cons_self)) (fun y hy => hx y (List.mem_cons_of_mem _ hy)) (by omega) rfl
    refine ⟨s', ?_⟩
    have e1 : gN 10 (FD x) (sx ns P s2 s3 s4 s5 s6 s7 s8 (.fr (FD w) false) s10 s11 s12 s13) = some (sx ns P s2 s3 s4 s5 s6 s7 s8 (.fr (FD w) false) (.fr (FD x) false) s11 s12 s13) := by
      simp only [gN, putR, List.getElem?_cons_zero, List.getElem?_cons_succ, hs, cond_false, List.set_cons_zero, List.set_cons_succ]
    have e2 : m_law_12b (sx ns P s2 s3 s4 s5 s6 s7 s8 (.fr (FD w) false) (.fr (FD x) false) s11 s12 s13) = some (.nx (sx ns P s2 s3 s4 s5 s6 s7 s8 (.fr (FD (pl w x)) false) (.fr (FD x) false) s11 s12 s13)) :=
      set_eq (add_pl rfl rfl hw (hx x List.mem_cons_self) (by omega) (by decide)) rfl
    rw [List.map_cons]
    unfold sFor
    simp only [e1, e2]
    exact e
theorem law13 {ns : List Int} {P : D} {s2 s3 s4 s6 s7 s8 s10 s11 s12 s13 : Sl} {T : List Q2} (hT : ∀ x ∈ T, Tl x) (hl : T.length = 5) :
    m_law_13 (sx ns P s2 s3 s4 (.fr (.lst (T.map FD)) false) s6 s7 s8 (.fr (FD (sumW (0, 1) T)) false) s10 s11 s12 s13) = some (.nx (sx ns P s2 s3 s4 (.fr (.lst (T.map FD)) false) s6 s7 s8 (.fr (FD (sumW (0, 1) T)) false) s10 s11 s12 s13)) := by
  generalize hσ : sx ns P s2 s3 s4 (.fr (.lst (T.map FD)) false) s6 s7 s8 (.fr (FD (sumW (0, 1) T)) false) s10 s11 s12 s13 = σ
  have hT2 : ∀ x ∈ T, S2 60 x ∧ 0 < x.2 := fun x h => ⟨(hT x h).sz, (hT x h).low.1⟩
  have z0 : S2 1 ((0, 1) : Q2) := ⟨by decide, by decide⟩
  have se := sum_eq hT2 (by rw [hl]; decide)
  have se0 := sum_eq (xs := []) (a := 60) (fun x h => nomatch h) (by decide)
  have bs := Beside.sum T beside0 fun x h => (hT x h).low.1
  have sl := (sum_loop T (0, 1) 1 60 .no .no z0 (by decide) hT2 (by rw [hl]; decide) rfl).2
  have sw := sumW_sz T z0 fun x h => (hT x h).sz
  rw [hl] at sl sw
  have sd := sumW_den T (0, 1) 12 (by decide) (by decide) fun x h => ⟨(hT x h).low.1, (hT x h).den⟩
  rw [hl] at sd
  have d : (sumF (0, 1) T).2.natAbs < 2 ^ 99 := by
    have h1 := bs.le
    have h2 := bs.low.1
    have h3 : (sumW (0, 1) T).2 ≤ 248832 := sd.2
    omega
  have w1 := worth_eq bs.low sl sw.1 sw.2 (by decide) d bs.eq
  have w2 := same_ok 12 (FD (0, 1)) rfl
  have l1 : mFn fListOf (osC (oVar 5) (osN)) σ = some (.n (.lst (T.map FD)), σ) := by subst hσ; rfl
  have o9 : oVar 9 σ = some (.d (FD (sumW (0, 1) T)), σ) := by subst hσ; rfl
  have l0 : mLst (vsN) σ = some (.n (.lst []), σ) := rfl
  unfold m_law_13
  exact (if_f (σ1 := σ) (or_f (not_t (co_eq (mo_v (three_call (mo_v (one_call (mo_n l1) se)) (mo_v (ix0 o9)) (mo_v (ix1 o9)) w1)))) (not_t (co_eq (mo_v (two_call (mo_v (one_call (mo_n l0) se0)) (mo_v (tup_eq (ds := [.int 0, .int 1]) rfl rfl)) w2)))))).trans rfl
end Law

set_option Elab.async false
set_option linter.all false
set_option maxRecDepth 100000
set_option maxHeartbeats 2000000
namespace Law
open PySem PySem.Spec PyProof.Rows L2 Mi Mi.P
theorem of_map {T : List Q2} : ∀ {ys : List D}, (∀ y ∈ ys, y ∈ T.map FD) → ∃ O : List Q2, ys = O.map FD ∧ ∀ o ∈ O, o ∈ T
  | [], _ => ⟨[], rfl, fun o h => nomatch h⟩
  | y :: ys, h => by
    obtain ⟨O, e, hO⟩ := of_map (ys := ys) fun z hz => h z (List.mem_cons_of_mem _ hz)
    obtain ⟨x, hx, ex⟩ := List.mem_map.mp (h y List.mem_cons_self)
    refine ⟨x :: O, by rw [List.map_cons, ← e, ex], fun o ho => ?_⟩
    rcases List.mem_cons.mp ho with rfl | ho
    · exact hx
    · exact hO o ho
theorem due_loop {ns : List Int} {P : D} {s2 s4 s6 s7 s8 s9 s10 : Sl} (T O : List Q2) (hT : ∀ x ∈ T, Tl x) (hO : ∀ x ∈ O, Tl x) (hl : T.length = O.length) : ∀ (n lo : Nat) (w : Q2) (s3 s13 : Sl) (k : Nat), lo + n = T.length → S2 k w → k + 121 * n ≤ 7900 → s3.lk = false → s13.lk = false →
    ∃ s3' s13', sFor (gN 3) m_law_16b (rngL (lo : Int) n) (sx ns P s2 s3 s4 (.fr (.lst (T.map FD)) false) s6 s7 s8 s9 s10 (.ow (.lst (O.map FD)) false) (.fr (FD w) false) s13) =
      some (.nx (sx ns P s2 s3' s4 (.fr (.lst (T.map FD)) false) s6 s7 s8 s9 s10 (.ow (.lst (O.map FD)) false) (.fr (FD (sumW w (tis (T.drop lo) (O.drop lo)))) false) s13'))
  | 0, lo, w, s3, s13, k, h, _, _, _, _ => by
    refine ⟨s3, s13, ?_⟩
    rw [List.drop_eq_nil_of_le (by omega)]
    rfl
  | n + 1, lo, w, s3, s13, k, h, hw, hk, h3, h13 => by
    have i1 : lo < T.length := by omega
    have i2 : lo < O.length := by omega
    have dT : T.drop lo = T[lo] :: T.drop (lo + 1) := List.drop_eq_getElem_cons i1
    have dO : O.drop lo = O[lo] :: O.drop (lo + 1) := List.drop_eq_getElem_cons i2
    have tx := hT T[lo] (List.getElem_mem _)
    have ty := hO O[lo] (List.getElem_mem _)
    have ge1 : (T.map FD)[lo]? = some (FD T[lo]) := by rw [List.getElem?_map, List.getElem?_eq_getElem i1]; rfl
    have ge2 : (O.map FD)[lo]? = some (FD O[lo]) := by rw [List.getElem?_map, List.getElem?_eq_getElem i2]; rfl
    rw [dT, dO]
    generalize T[lo] = x at tx ge1 ⊢
    generalize O[lo] = y at ty ge2 ⊢
    have z1 := ti_sz tx.sz ty.sz
    obtain ⟨s3', s13', e⟩ := due_loop (ns := ns) (P := P) (s2 := s2) (s4 := s4) (s6 := s6) (s7 := s7) (s8 := s8) (s9 := s9) (s10 := s10) T O hT hO hl n (lo + 1) (pl w (ti x y)) (.fr (.int lo) false) (.fr (FD (ti x y)) false) (k + 120 + 1) (by omega) (pl_sz hw z1) (by omega) rfl rfl
    refine ⟨s3', s13', ?_⟩
    have e1 : gN 3 (.int (lo : Int)) (sx ns P s2 s3 s4 (.fr (.lst (T.map FD)) false) s6 s7 s8 s9 s10 (.ow (.lst (O.map FD)) false) (.fr (FD w) false) s13) = some (sx ns P s2 (.fr (.int lo) false) s4 (.fr (.lst (T.map FD)) false) s6 s7 s8 s9 s10 (.ow (.lst (O.map FD)) false) (.fr (FD w) false) s13) := by
      simp only [gN, putR, List.getElem?_cons_zero, List.getElem?_cons_succ, h3, cond_false, List.set_cons_zero, List.set_cons_succ]
    have e2 : m_law_16b (sx ns P s2 (.fr (.int lo) false) s4 (.fr (.lst (T.map FD)) false) s6 s7 s8 s9 s10 (.ow (.lst (O.map FD)) false) (.fr (FD w) false) s13) = some (.nx (sx ns P s2 (.fr (.int lo) false) s4 (.fr (.lst (T.map FD)) false) s6 s7 s8 s9 s10 (.ow (.lst (O.map FD)) false) (.fr (FD (pl w (ti x y))) false) (.fr (FD (ti x y)) false))) := by
      unfold m_law_16b
      have t5 : mo (mBin fIx (oVar 5) (oVar 3)) (sx ns P s2 (.fr (.int lo) false) s4 (.fr (.lst (T.map FD)) false) s6 s7 s8 s9 s10 (.ow (.lst (O.map FD)) false) (.fr (FD w) false) s13) = some (.d (FD x), _) := mo_v (bin_eq rfl rfl (ixL ge1))
      have t11 : mo (mBin fIx (oVar 11) (oVar 3)) (sx ns P s2 (.fr (.int lo) false) s4 (.fr (.lst (T.map FD)) false) s6 s7 s8 s9 s10 (.ow (.lst (O.map FD)) false) (.fr (FD w) false) s13) = some (.d (FD y), _) := mo_v (by
        show (match fIx (.lst (O.map FD)) (.int (lo : Int)) with | some r => some (r, _) | none => none) = _
        rw [ixL ge2])
      have f1 : sSet 13 (mTup (vsC (mv (mBin fMulI (mo (mBin fIx (mo (mBin fIx (oVar 5) (oVar 3))) (vo (vK (.int 0))))) (mo (mBin fIx (mo (mBin fIx (oVar 11) (oVar 3))) (vo (vK (.int 0))))))) (vsC (mv (mBin fMulI (mo (mBin fIx (mo (mBin fIx (oVar 5) (oVar 3))) (vo (vK (.int 1))))) (mo (mBin fIx (mo (mBin fIx (oVar 11) (oVar 3))) (vo (vK (.int 1))))))) (vsN))))
          (sx ns P s2 (.fr (.int lo) false) s4 (.fr (.lst (T.map FD)) false) s6 s7 s8 s9 s10 (.ow (.lst (O.map FD)) false) (.fr (FD w) false) s13) = some (.nx (sx ns P s2 (.fr (.int lo) false) s4 (.fr (.lst (T.map FD)) false) s6 s7 s8 s9 s10 (.ow (.lst (O.map FD)) false) (.fr (FD w) false) (.fr (FD (ti x y)) false))) :=
        set_eq (tup_eq (ds := [.int (x.1 * y.1), .int (x.2 * y.2)]) (vs_eq (mv_v (mul00 t5 t11 tx.sz ty.sz)) (vs_eq (mv_v (mul11 t5 t11 tx.sz ty.sz)) rfl)) rfl) (by
          simp only [putR, List.getElem?_cons_zero, List.getElem?_cons_succ, h13, cond_false, List.set_cons_zero, List.set_cons_succ]
          rfl)
      rw [sq f1]
      exact set_eq (add_pl rfl rfl hw z1 (by omega) (by decide)) rfl
    unfold rngL sFor
    simp only [e1, e2]
    exact e
theorem law17 {ns : List Int} {P : D} {s2 s3 s4 s6 s7 s8 s9 s10 s13 : Sl} {T O : List Q2} (hT : ∀ x ∈ T, Tl x) (hO : ∀ x ∈ O, Tl x) (hl : T.length = 5) (hl2 : O.length = 5) :
    m_law_17 (sx ns P s2 s3 s4 (.fr (.lst (T.map FD)) false) s6 s7 s8 s9 s10 (.ow (.lst (O.map FD)) false) (.fr (FD (sumW (0, 1) (tis T O))) false) s13) =
      some (.rt (.v (.bl true)) (sx ns P s2 s3 s4 (.fr (.lst (T.map FD)) false) s6 s7 s8 s9 s10 (.ow (.lst (O.map FD)) false) (.fr (FD (sumW (0, 1) (tis T O))) false) s13)) := by
  generalize hσ : sx ns P s2 s3 s4 (.fr (.lst (T.map FD)) false) s6 s7 s8 s9 s10 (.ow (.lst (O.map FD)) false) (.fr (FD (sumW (0, 1) (tis T O))) false) s13 = σ
  have hT2 : ∀ x ∈ T, S2 60 x ∧ 0 < x.2 := fun x h => ⟨(hT x h).sz, (hT x h).low.1⟩
  have hO2 : ∀ x ∈ O, S2 60 x ∧ 0 < x.2 := fun x h => ⟨(hO x h).sz, (hO x h).low.1⟩
  have z0 : S2 1 ((0, 1) : Q2) := ⟨by decide, by decide⟩
  have hTO : T.length = O.length := by omega
  have pl5 : (prods T O).length = 5 := by rw [prods_len T O hTO, hl]
  have tl5 : (tis T O).length = 5 := by rw [tis_len T O hTO, hl]
  have de := dot_eq hTO hT2 hO2 (by decide) (by omega) (by rw [hl]; decide)
  have de0 := dot_eq (xs := []) (ys := []) (a := 60) rfl (fun x h => nomatch h) (fun x h => nomatch h) (by decide) (by decide) (by decide)
  have bs := Beside.sum' T O beside0 (fun x h => (hT x h).low) fun x h => (hO x h).low
  have sl := (sum_loop (prods T O) (0, 1) 1 (60 + 60) .no .no z0 (by decide) (prods_ok T O 60 hT2 hO2) (by rw [pl5]; decide) rfl).2
  have tk := tis_ok T O hT hO
  have sw := sumW_sz (tis T O) z0 fun x h => (tk x h).1
  rw [pl5] at sl
  rw [tl5] at sw
  have sd := sumW_den (tis T O) (0, 1) 144 (by decide) (by decide) fun x h => (tk x h).2
  rw [tl5] at sd
  have d : (sumF (0, 1) (prods T O)).2.natAbs < 2 ^ 99 := by
    have h1 := bs.le
    have h2 := bs.low.1
    have h3 : (sumW (0, 1) (tis T O)).2 ≤ 61917364224 := sd.2
    omega
  have w1 := worth_eq bs.low sl sw.1 sw.2 (by decide) d bs.eq
  have w2 := same_ok 12 (FD (0, 1)) rfl
  have l1 : mFn fListOf (osC (oVar 5) (osN)) σ = some (.n (.lst (T.map FD)), σ) := by subst hσ; rfl
  have l2 : mFn fListOf (osC (oVar 11) (osN)) σ = some (.n (.lst (O.map FD)), σ) := by subst hσ; rfl
  have o12 : oVar 12 σ = some (.d (FD (sumW (0, 1) (tis T O))), σ) := by subst hσ; rfl
  have l0 : mLst (vsN) σ = some (.n (.lst []), σ) := rfl
  unfold m_law_17
  exact ret_eq (and_t (mo_v (three_call (mo_v (two_call (mo_n l1) (mo_n l2) de)) (mo_v (ix0 o12)) (mo_v (ix1 o12)) w1)) (mo_v (two_call (mo_v (two_call (mo_n l0) (mo_n l0) de0)) (mo_v (tup_eq (ds := [.int 0, .int 1]) rfl rfl)) w2)))
theorem five {R : List Q2} (h : R.length = 5) : ∃ a b c d e, R = [a, b, c, d, e] := by
  match R, h with
  | [a, b, c, d, e], _ => exact ⟨a, b, c, d, e, rfl⟩
/-- the law, in plain Lean -/
theorem keeps : Keeps f_law := by
  intro ns hn hb
  obtain ⟨P0, e0, g0⟩ := pool_ok hb
  have f1 : m_law_1 [.fr (.scr ns) false, .no, .no, .no, .no, .no, .no, .no, .no, .no, .no, .no, .no, .no, .no, .no] = some (.nx [.fr (.scr ns) false, .ow P0 false, .no, .no, .no, .no, .no, .no, .no, .no, .no, .no, .no, .no, .no, .no]) :=
    set_eq (one_call (x := .scr ns) rfl e0) rfl
  have f2 : m_law_2 [.fr (.scr ns) false, .ow P0 false, .no, .no, .no, .no, .no, .no, .no, .no, .no, .no, .no, .no, .no, .no] = some (.nx (st ns P0 (([] : List Q2).map RD) .no .no)) := rfl
  obtain ⟨R, P1, s3, s4, e3, q1, q2, q3, q4, g1⟩ := rows_loop 5 0 ns P0 [] .no .no 100 (g0.mono (by decide)) rfl rfl (by decide) (fun x h => nomatch h)
  have f3 : m_law_3 (st ns P0 (([] : List Q2).map RD) .no .no) = some (.nx (st ns P1 (R.map RD) s3 s4)) := by
    unfold m_law_3 sForI
    rw [r1_eq (n := 5) (os := osC (vo (vK (.int 5))) (osN)) (σ1 := st ns P0 (([] : List Q2).map RD) .no .no) rfl (by decide)]
    exact e3
  have hl5 : R.length = 5 := q1
  have f4 := law4 (ns := ns) (P := P1) (s3 := s3) (s4 := s4) q2 (by omega)
  have f5 := law5 (ns := ns) (P := P1) (s3 := s3) (s4 := s4) (s6 := .no) (s7 := .no) (s8 := .no) (s9 := .no) (s10 := .no) (s11 := .no) (s12 := .no) (s13 := .no) q2 hl5 q3
  generalize hR : R.map RD = RR at *
  have hT : ∀ x ∈ R.map nq, Tl x := fun x hx => by
    obtain ⟨y, hy, rfl⟩ := List.mem_map.mp hx
    exact (q2 y hy).tl
  have hTl : (R.map nq).length = 5 := by rw [List.length_map, hl5]
  generalize hTT : R.map nq = T at *
  obtain ⟨a, b, c, d, e, hab⟩ := five hTl
  have ta : Tl a := hT a (by rw [hab]; simp)
  have tb : Tl b := hT b (by rw [hab]; simp)
  have tc : Tl c := hT c (by rw [hab]; simp)
  have f6 : m_law_6 (sx ns P1 (.fr (.lst RR) false) s3 s4 (.ow (.lst (T.map FD)) false) .no .no .no .no .no .no .no .no) = some (.nx (sx ns P1 (.fr (.lst RR) false) s3 s4 (.ow (.lst (T.map FD)) false) (.fr (FD a) false) (.fr (FD b) false) (.fr (FD c) false) .no .no .no .no .no)) := by
    rw [hab]; rfl
  have f7 := law7 (σ := sx ns P1 (.fr (.lst RR) false) s3 s4 (.ow (.lst (T.map FD)) false) (.fr (FD a) false) (.fr (FD b) false) (.fr (FD c) false) .no .no .no .no .no) rfl rfl ta tb
  have f8 := law8 (σ := sx ns P1 (.fr (.lst RR) false) s3 s4 (.ow (.lst (T.map FD)) false) (.fr (FD a) false) (.fr (FD b) false) (.fr (FD c) false) .no .no .no .no .no) rfl rfl ta tb
  have f9 := law9 (σ := sx ns P1 (.fr (.lst RR) false) s3 s4 (.ow (.lst (T.map FD)) false) (.fr (FD a) false) (.fr (FD b) false) (.fr (FD c) false) .no .no .no .no .no) rfl rfl rfl rfl ta tb tc
  have f10 := law10 (σ := sx ns P1 (.fr (.lst RR) false) s3 s4 (.ow (.lst (T.map FD)) false) (.fr (FD a) false) (.fr (FD b) false) (.fr (FD c) false) .no .no .no .no .no) rfl rfl rfl ta tb
  have f11 : m_law_11 (sx ns P1 (.fr (.lst RR) false) s3 s4 (.ow (.lst (T.map FD)) false) (.fr (FD a) false) (.fr (FD b) false) (.fr (FD c) false) .no .no .no .no .no) = some (.nx (sx ns P1 (.fr (.lst RR) false) s3 s4 (.ow (.lst (T.map FD)) false) (.fr (FD a) false) (.fr (FD b) false) (.fr (FD c) false) (.fr (FD (0, 1)) false) .no .no .no .no)) := rfl
  obtain ⟨s10, e12⟩ := whole_loop (ns := ns) (P := P1) (s2 := .fr (.lst RR) false) (s3 := s3) (s4 := s4) (s5 := .fr (.lst (T.map FD)) false) (s6 := .fr (FD a) false) (s7 := .fr (FD b) false) (s8 := .fr (FD c) false) (s11 := .no) (s12 := .no) (s13 := .no) T (0, 1) .no 1 ⟨by decide, by decide⟩ (fun x h => (hT x h).sz) (by rw [hTl]; decide) rfl
  have f12 : m_law_12 (sx ns P1 (.fr (.lst RR) false) s3 s4 (.ow (.lst (T.map FD)) false) (.fr (FD a) false) (.fr (FD b) false) (.fr (FD c) false) (.fr (FD (0, 1)) false) .no .no .no .no) = _ := e12
  have f13 := law13 (ns := ns) (P := P1) (s2 := .fr (.lst RR) false) (s3 := s3) (s4 := s4) (s6 := .fr (FD a) false) (s7 := .fr (FD b) false) (s8 := .fr (FD c) false) (s10 := s10) (s11 := .no) (s12 := .no) (s13 := .no) hT hTl
  obtain ⟨ys, P2, e14, y1, y2, g2⟩ := moved_ok (k := 1) (Pd := P1) (xs := T.map FD) (by rw [List.length_map, hTl]; decide) (g1.mono (by rw [List.length_map, hTl]; decide))
  obtain ⟨O, rfl, hOT⟩ := of_map y2
  have hO : ∀ x ∈ O, Tl x := fun x h => hT x (hOT x h)
  have hOl : O.length = 5 := by rw [List.length_map, List.length_map] at y1; omega
  have f14 : m_law_14 (sx ns P1 (.fr (.lst RR) false) s3 s4 (.fr (.lst (T.map FD)) false) (.fr (FD a) false) (.fr (FD b) false) (.fr (FD c) false) (.fr (FD (sumW (0, 1) T)) false) s10 .no .no .no) = some (.nx (sx ns P2 (.fr (.lst RR) false) s3 s4 (.fr (.lst (T.map FD)) false) (.fr (FD a) false) (.fr (FD b) false) (.fr (FD c) false) (.fr (FD (sumW (0, 1) T)) false) s10 (.ow (.lst (O.map FD)) false) .no .no)) :=
    set_eq (call_eq (ops := [.s 1, .d (.lst (T.map FD))]) (σ1 := sx ns P1 (.fr (.lst RR) false) s3 s4 (.fr (.lst (T.map FD)) false) (.fr (FD a) false) (.fr (FD b) false) (.fr (FD c) false) (.fr (FD (sumW (0, 1) T)) false) s10 .no .no .no) rfl rfl rfl e14 rfl) rfl
  have f15 : m_law_15 (sx ns P2 (.fr (.lst RR) false) s3 s4 (.fr (.lst (T.map FD)) false) (.fr (FD a) false) (.fr (FD b) false) (.fr (FD c) false) (.fr (FD (sumW (0, 1) T)) false) s10 (.ow (.lst (O.map FD)) false) .no .no) = some (.nx (sx ns P2 (.fr (.lst RR) false) s3 s4 (.fr (.lst (T.map FD)) false) (.fr (FD a) false) (.fr (FD b) false) (.fr (FD c) false) (.fr (FD (sumW (0, 1) T)) false) s10 (.ow (.lst (O.map FD)) false) (.fr (FD (0, 1)) false) .no)) := rfl
  have h3 : s3.lk = false := by rcases q3 with h | ⟨d, h⟩ <;> (rw [h]; rfl)
  obtain ⟨s3', s13', e16⟩ := due_loop (ns := ns) (P := P2) (s2 := .fr (.lst RR) false) (s4 := s4) (s6 := .fr (FD a) false) (s7 := .fr (FD b) false) (s8 := .fr (FD c) false) (s9 := .fr (FD (sumW (0, 1) T)) false) (s10 := s10) T O hT hO (by omega) 5 0 (0, 1) s3 .no 1 (by omega) ⟨by decide, by decide⟩ (by decide) h3 rfl
  have u16 : m_law_16 (sx ns P2 (.fr (.lst RR) false) s3 s4 (.fr (.lst (T.map FD)) false) (.fr (FD a) false) (.fr (FD b) false) (.fr (FD c) false) (.fr (FD (sumW (0, 1) T)) false) s10 (.ow (.lst (O.map FD)) false) (.fr (FD (0, 1)) false) .no) = sFor (gN 3) m_law_16b (rngL ((0 : Nat) : Int) 5) (sx ns P2 (.fr (.lst RR) false) s3 s4 (.fr (.lst (T.map FD)) false) (.fr (FD a) false) (.fr (FD b) false) (.fr (FD c) false) (.fr (FD (sumW (0, 1) T)) false) s10 (.ow (.lst (O.map FD)) false) (.fr (FD (0, 1)) false) .no) := by
    unfold m_law_16 sForI
    rw [r1_eq (n := 5) (os := osC (vo (vK (.int 5))) (osN)) (σ1 := (sx ns P2 (.fr (.lst RR) false) s3 s4 (.fr (.lst (T.map FD)) false) (.fr (FD a) false) (.fr (FD b) false) (.fr (FD c) false) (.fr (FD (sumW (0, 1) T)) false) s10 (.ow (.lst (O.map FD)) false) (.fr (FD (0, 1)) false) .no)) rfl (by decide)]
    rfl
  have f16 := u16.trans e16
  rw [List.drop_zero, List.drop_zero] at f16
  have f17 := law17 (ns := ns) (P := P2) (s2 := .fr (.lst RR) false) (s3 := s3') (s4 := s4) (s6 := .fr (FD a) false) (s7 := .fr (FD b) false) (s8 := .fr (FD c) false) (s9 := .fr (FD (sumW (0, 1) T)) false) (s10 := s10) (s13 := s13') hT hO hTl hOl
  refine ⟨_, fn_rt (n := 16) (r := .v (.bl true)) (m := m_law) (σ := sx ns P2 (.fr (.lst RR) false) s3' s4 (.fr (.lst (T.map FD)) false) (.fr (FD a) false) (.fr (FD b) false) (.fr (FD c) false) (.fr (FD (sumW (0, 1) T)) false) s10 (.ow (.lst (O.map FD)) false) (.fr (FD (sumW (0, 1) (tis T O))) false) s13') ?_ rfl⟩
  show m_law [.fr (.scr ns) false, .no, .no, .no, .no, .no, .no, .no, .no, .no, .no, .no, .no, .no, .no, .no] = _
  unfold m_law
  rw [sq f1, sq f2, sq f3, sq f4, sq f5, sq f6, sq f7, sq f8, sq f9, sq f10, sq f11, sq f12, sq f13, sq f14, sq f15, sq f16]
  exact f17
end Law

set_option Elab.async false
set_option linter.all false
set_option maxRecDepth 100000
set_option maxHeartbeats 4000000
namespace Law
open PySem PySem.Spec PyProof.Rows L2 Mi Mi.P
theorem all_mk {l : PySem.W.OpenLaw} {w : World} {K : PySem.W.Frag} {h : Heap} {mg : Str → Option Value} {fa : Addr} (X : K.In h) (G : h.Ns mainGlobals mg) (hfa : mg "law" = some (.ref fa))
    {f0 : Addr} {oc0 kV0 dc0 pm0 cd0 ct0 : Value} {od0 an0 : Option Addr} {sl0 : Array (Option Value)}
    {f1 : Addr} {oc1 kV1 dc1 pm1 cd1 ct1 : Value} {od1 an1 : Option Addr} {sl1 : Array (Option Value)}
    {f2 : Addr} {oc2 kV2 dc2 pm2 cd2 ct2 : Value} {od2 an2 : Option Addr} {sl2 : Array (Option Value)}
    {f3 : Addr} {oc3 kV3 dc3 pm3 cd3 ct3 : Value} {od3 an3 : Option Addr} {sl3 : Array (Option Value)}
    {f4 : Addr} {oc4 kV4 dc4 pm4 cd4 ct4 : Value} {od4 an4 : Option Addr} {sl4 : Array (Option Value)}
    {f5 : Addr} {oc5 kV5 dc5 pm5 cd5 ct5 : Value} {od5 an5 : Option Addr} {sl5 : Array (Option Value)}
    {f6 : Addr} {oc6 kV6 dc6 pm6 cd6 ct6 : Value} {od6 an6 : Option Addr} {sl6 : Array (Option Value)}
    {f7 : Addr} {oc7 kV7 dc7 pm7 cd7 ct7 : Value} {od7 an7 : Option Addr} {sl7 : Array (Option Value)}
    {f8 : Addr} {oc8 kV8 dc8 pm8 cd8 ct8 : Value} {od8 an8 : Option Addr} {sl8 : Array (Option Value)}
    {f9 : Addr} {oc9 kV9 dc9 pm9 cd9 ct9 : Value} {od9 an9 : Option Addr} {sl9 : Array (Option Value)}
    {f10 : Addr} {oc10 kV10 dc10 pm10 cd10 ct10 : Value} {od10 an10 : Option Addr} {sl10 : Array (Option Value)}
    {f11 : Addr} {oc11 kV11 dc11 pm11 cd11 ct11 : Value} {od11 an11 : Option Addr} {sl11 : Array (Option Value)}
    {f12 : Addr} {oc12 kV12 dc12 pm12 cd12 ct12 : Value} {od12 an12 : Option Addr} {sl12 : Array (Option Value)}
    {f13 : Addr} {oc13 kV13 dc13 pm13 cd13 ct13 : Value} {od13 an13 : Option Addr} {sl13 : Array (Option Value)}
    {f14 : Addr} {oc14 kV14 dc14 pm14 cd14 ct14 : Value} {od14 an14 : Option Addr} {sl14 : Array (Option Value)}
    {f15 : Addr} {oc15 kV15 dc15 pm15 cd15 ct15 : Value} {od15 an15 : Option Addr} {sl15 : Array (Option Value)}
    {f16 : Addr} {oc16 kV16 dc16 pm16 cd16 ct16 : Value} {od16 an16 : Option Addr} {sl16 : Array (Option Value)}
    {f17 : Addr} {oc17 kV17 dc17 pm17 cd17 ct17 : Value} {od17 an17 : Option Addr} {sl17 : Array (Option Value)}
    {f18 : Addr} {oc18 kV18 dc18 pm18 cd18 ct18 : Value} {od18 an18 : Option Addr} {sl18 : Array (Option Value)}
    {gNOUGHT : Addr} {odNOUGHT : Option Addr} {slNOUGHT : Array (Option Value)} {nNOUGHT : Nat} {tNOUGHT_0 tNOUGHT_1 : Tok}
    (a0 : PySem.W.nsIn K mainGlobals "frac" = some (some (.ref f0)))
    (l0 : K.lookup f0 = some ⟨oc0, od0, .func (PySem.W.fnOf "frac" "frac" (defArgs s_frac) (defBody s_frac) (defScope s_frac) .none kV0 dc0 pm0 an0 cd0 ct0), sl0⟩)
    (c0 : PySem.W.codeIn K cd0 "frac" = true)
    (k0 : PySem.W.keepIn K (.ref f0) = true)
    (a1 : PySem.W.nsIn K mainGlobals "plus" = some (some (.ref f1)))
    (l1 : K.lookup f1 = some ⟨oc1, od1, .func (PySem.W.fnOf "plus" "plus" (defArgs s_plus) (defBody s_plus) (defScope s_plus) .none kV1 dc1 pm1 an1 cd1 ct1), sl1⟩)
    (c1 : PySem.W.codeIn K cd1 "plus" = true)
    (k1 : PySem.W.keepIn K (.ref f1) = true)
    (a2 : PySem.W.nsIn K mainGlobals "minus" = some (some (.ref f2)))
    (l2 : K.lookup f2 = some ⟨oc2, od2, .func (PySem.W.fnOf "minus" "minus" (defArgs s_minus) (defBody s_minus) (defScope s_minus) .none kV2 dc2 pm2 an2 cd2 ct2), sl2⟩)
    (c2 : PySem.W.codeIn K cd2 "minus" = true)
    (k2 : PySem.W.keepIn K (.ref f2) = true)
    (a3 : PySem.W.nsIn K mainGlobals "times" = some (some (.ref f3)))
    (l3 : K.lookup f3 = some ⟨oc3, od3, .func (PySem.W.fnOf "times" "times" (defArgs s_times) (defBody s_times) (defScope s_times) .none kV3 dc3 pm3 an3 cd3 ct3), sl3⟩)
    (c3 : PySem.W.codeIn K cd3 "times" = true)
    (k3 : PySem.W.keepIn K (.ref f3) = true)
    (a4 : PySem.W.nsIn K mainGlobals "over" = some (some (.ref f4)))
    (l4 : K.lookup f4 = some ⟨oc4, od4, .func (PySem.W.fnOf "over" "over" (defArgs s_over) (defBody s_over) (defScope s_over) .none kV4 dc4 pm4 an4 cd4 ct4), sl4⟩)
    (c4 : PySem.W.codeIn K cd4 "over" = true)
    (k4 : PySem.W.keepIn K (.ref f4) = true)
    (a5 : PySem.W.nsIn K mainGlobals "less" = some (some (.ref f5)))
    (l5 : K.lookup f5 = some ⟨oc5, od5, .func (PySem.W.fnOf "less" "less" (defArgs s_less) (defBody s_less) (defScope s_less) .none kV5 dc5 pm5 an5 cd5 ct5), sl5⟩)
    (c5 : PySem.W.codeIn K cd5 "less" = true)
    (k5 : PySem.W.keepIn K (.ref f5) = true)
    (a6 : PySem.W.nsIn K mainGlobals "sum_of" = some (some (.ref f6)))
    (l6 : K.lookup f6 = some ⟨oc6, od6, .func (PySem.W.fnOf "sum_of" "sum_of" (defArgs s_sum_of) (defBody s_sum_of) (defScope s_sum_of) .none kV6 dc6 pm6 an6 cd6 ct6), sl6⟩)
    (c6 : PySem.W.codeIn K cd6 "sum_of" = true)
    (k6 : PySem.W.keepIn K (.ref f6) = true)
    (a7 : PySem.W.nsIn K mainGlobals "dot" = some (some (.ref f7)))
    (l7 : K.lookup f7 = some ⟨oc7, od7, .func (PySem.W.fnOf "dot" "dot" (defArgs s_dot) (defBody s_dot) (defScope s_dot) .none kV7 dc7 pm7 an7 cd7 ct7), sl7⟩)
    (c7 : PySem.W.codeIn K cd7 "dot" = true)
    (k7 : PySem.W.keepIn K (.ref f7) = true)
    (a8 : PySem.W.nsIn K mainGlobals "_law_mixed" = some (some (.ref f8)))
    (l8 : K.lookup f8 = some ⟨oc8, od8, .func (PySem.W.fnOf "_law_mixed" "_law_mixed" (defArgs s_law_mixed) (defBody s_law_mixed) (defScope s_law_mixed) .none kV8 dc8 pm8 an8 cd8 ct8), sl8⟩)
    (c8 : PySem.W.codeIn K cd8 "_law_mixed" = true)
    (k8 : PySem.W.keepIn K (.ref f8) = true)
    (a9 : PySem.W.nsIn K mainGlobals "_law_rest" = some (some (.ref f9)))
    (l9 : K.lookup f9 = some ⟨oc9, od9, .func (PySem.W.fnOf "_law_rest" "_law_rest" (defArgs s_law_rest) (defBody s_law_rest) (defScope s_law_rest) .none kV9 dc9 pm9 an9 cd9 ct9), sl9⟩)
    (c9 : PySem.W.codeIn K cd9 "_law_rest" = true)
    (k9 : PySem.W.keepIn K (.ref f9) = true)
    (a10 : PySem.W.nsIn K mainGlobals "_law_pool" = some (some (.ref f10)))
    (l10 : K.lookup f10 = some ⟨oc10, od10, .func (PySem.W.fnOf "_law_pool" "_law_pool" (defArgs s_law_pool) (defBody s_law_pool) (defScope s_law_pool) .none kV10 dc10 pm10 an10 cd10 ct10), sl10⟩)
    (c10 : PySem.W.codeIn K cd10 "_law_pool" = true)
    (k10 : PySem.W.keepIn K (.ref f10) = true)
    (a11 : PySem.W.nsIn K mainGlobals "_law_next" = some (some (.ref f11)))
    (l11 : K.lookup f11 = some ⟨oc11, od11, .func (PySem.W.fnOf "_law_next" "_law_next" (defArgs s_law_next) (defBody s_law_next) (defScope s_law_next) .none kV11 dc11 pm11 an11 cd11 ct11), sl11⟩)
    (c11 : PySem.W.codeIn K cd11 "_law_next" = true)
    (k11 : PySem.W.keepIn K (.ref f11) = true)
    (a12 : PySem.W.nsIn K mainGlobals "_law_draw" = some (some (.ref f12)))
    (l12 : K.lookup f12 = some ⟨oc12, od12, .func (PySem.W.fnOf "_law_draw" "_law_draw" (defArgs s_law_draw) (defBody s_law_draw) (defScope s_law_draw) .none kV12 dc12 pm12 an12 cd12 ct12), sl12⟩)
    (c12 : PySem.W.codeIn K cd12 "_law_draw" = true)
    (k12 : PySem.W.keepIn K (.ref f12) = true)
    (a13 : PySem.W.nsIn K mainGlobals "_law_pick" = some (some (.ref f13)))
    (l13 : K.lookup f13 = some ⟨oc13, od13, .func (PySem.W.fnOf "_law_pick" "_law_pick" (defArgs s_law_pick) (defBody s_law_pick) (defScope s_law_pick) .none kV13 dc13 pm13 an13 cd13 ct13), sl13⟩)
    (c13 : PySem.W.codeIn K cd13 "_law_pick" = true)
    (k13 : PySem.W.keepIn K (.ref f13) = true)
    (a14 : PySem.W.nsIn K mainGlobals "_law_same" = some (some (.ref f14)))
    (l14 : K.lookup f14 = some ⟨oc14, od14, .func (PySem.W.fnOf "_law_same" "_law_same" (defArgs s_law_same) (defBody s_law_same) (defScope s_law_same) .none kV14 dc14 pm14 an14 cd14 ct14), sl14⟩)
    (c14 : PySem.W.codeIn K cd14 "_law_same" = true)
    (k14 : PySem.W.keepIn K (.ref f14) = true)
    (a15 : PySem.W.nsIn K mainGlobals "_law_moved" = some (some (.ref f15)))
    (l15 : K.lookup f15 = some ⟨oc15, od15, .func (PySem.W.fnOf "_law_moved" "_law_moved" (defArgs s_law_moved) (defBody s_law_moved) (defScope s_law_moved) .none kV15 dc15 pm15 an15 cd15 ct15), sl15⟩)
    (c15 : PySem.W.codeIn K cd15 "_law_moved" = true)
    (k15 : PySem.W.keepIn K (.ref f15) = true)
    (a16 : PySem.W.nsIn K mainGlobals "_law_gcd" = some (some (.ref f16)))
    (l16 : K.lookup f16 = some ⟨oc16, od16, .func (PySem.W.fnOf "_law_gcd" "_law_gcd" (defArgs s_law_gcd) (defBody s_law_gcd) (defScope s_law_gcd) .none kV16 dc16 pm16 an16 cd16 ct16), sl16⟩)
    (c16 : PySem.W.codeIn K cd16 "_law_gcd" = true)
    (k16 : PySem.W.keepIn K (.ref f16) = true)
    (a17 : PySem.W.nsIn K mainGlobals "_law_same_worth" = some (some (.ref f17)))
    (l17 : K.lookup f17 = some ⟨oc17, od17, .func (PySem.W.fnOf "_law_same_worth" "_law_same_worth" (defArgs s_law_same_worth) (defBody s_law_same_worth) (defScope s_law_same_worth) .none kV17 dc17 pm17 an17 cd17 ct17), sl17⟩)
    (c17 : PySem.W.codeIn K cd17 "_law_same_worth" = true)
    (k17 : PySem.W.keepIn K (.ref f17) = true)
    (a18 : PySem.W.nsIn K mainGlobals "law" = some (some (.ref f18)))
    (l18 : K.lookup f18 = some ⟨oc18, od18, .func (PySem.W.fnOf "law" "law" (defArgs s_law) (defBody s_law) (defScope s_law) .none kV18 dc18 pm18 an18 cd18 ct18), sl18⟩)
    (c18 : PySem.W.codeIn K cd18 "law" = true)
    (k18 : PySem.W.keepIn K (.ref f18) = true)
    (nb_bool : PySem.W.nsIn K mainGlobals "bool" = some none)
    (nb_dict : PySem.W.nsIn K mainGlobals "dict" = some none)
    (nb_int : PySem.W.nsIn K mainGlobals "int" = some none)
    (nb_isinstance : PySem.W.nsIn K mainGlobals "isinstance" = some none)
    (nb_len : PySem.W.nsIn K mainGlobals "len" = some none)
    (nb_list : PySem.W.nsIn K mainGlobals "list" = some none)
    (nb_range : PySem.W.nsIn K mainGlobals "range" = some none)
    (nb_str : PySem.W.nsIn K mainGlobals "str" = some none)
    (nb_tuple : PySem.W.nsIn K mainGlobals "tuple" = some none)
    (nb_zip : PySem.W.nsIn K mainGlobals "zip" = some none)
    (nm_gcd : PySem.W.nsIn K mainGlobals "gcd" = some (some (.builtin "math.gcd")))
    (ga_NOUGHT : PySem.W.nsIn K mainGlobals "NOUGHT" = some (some (.ref gNOUGHT)))
    (gl_NOUGHT : K.lookup gNOUGHT = some ⟨.type "tuple", odNOUGHT, .seq #[(.int 0 tNOUGHT_0), (.int 1 tNOUGHT_1)] nNOUGHT, slNOUGHT⟩)
    : ∃ fd : FuncData, (∀ (s : Shared) (u : Value), BindsTo s fd ⟨[u], []⟩ [("script", u)]) ∧ ∀ base : Heap, K.In base → base.Ns mainGlobals mg → FnOk l.prog w K mg base CX0 13 fa fd ["script"] (spF K 1 f_law) := by
  have e := (PySem.W.mg_of X G a18).symm.trans hfa
  cases e
  let T : Tx K mg := {
    a_frac := f0
    d_frac := _
    F_frac := fun_mk (st := s_frac) l0 c0 k0
    b_frac := (fun_mk (st := s_frac) l0 c0 k0).binds (ps := ["p", "q"]) fun _ _ _ _ _ _ us hl => match us, hl with | [_, _], _ => rfl
    g_frac := PySem.W.mg_of X G a0
    a_plus := f1
    d_plus := _
    F_plus := fun_mk (st := s_plus) l1 c1 k1
    b_plus := (fun_mk (st := s_plus) l1 c1 k1).binds (ps := ["a", "b"]) fun _ _ _ _ _ _ us hl => match us, hl with | [_, _], _ => rfl
    g_plus := PySem.W.mg_of X G a1
    a_minus := f2
    d_minus := _
    F_minus := fun_mk (st := s_minus) l2 c2 k2
    b_minus := (fun_mk (st := s_minus) l2 c2 k2).binds (ps := ["a", "b"]) fun _ _ _ _ _ _ us hl => match us, hl with | [_, _], _ => rfl
    g_minus := PySem.W.mg_of X G a2
    a_times := f3
    d_times := _
    F_times := fun_mk (st := s_times) l3 c3 k3
    b_times := (fun_mk (st := s_times) l3 c3 k3).binds (ps := ["a", "b"]) fun _ _ _ _ _ _ us hl => match us, hl with | [_, _], _ => rfl
    g_times := PySem.W.mg_of X G a3
    a_over := f4
    d_over := _
    F_over := fun_mk (st := s_over) l4 c4 k4
    b_over := (fun_mk (st := s_over) l4 c4 k4).binds (ps := ["a", "b"]) fun _ _ _ _ _ _ us hl => match us, hl with | [_, _], _ => rfl
    g_over := PySem.W.mg_of X G a4
    a_less := f5
    d_less := _
    F_less := fun_mk (st := s_less) l5 c5 k5
    b_less := (fun_mk (st := s_less) l5 c5 k5).binds (ps := ["a", "b"]) fun _ _ _ _ _ _ us hl => match us, hl with | [_, _], _ => rfl
    g_less := PySem.W.mg_of X G a5
    a_sum_of := f6
    d_sum_of := _
    F_sum_of := fun_mk (st := s_sum_of) l6 c6 k6
    b_sum_of := (fun_mk (st := s_sum_of) l6 c6 k6).binds (ps := ["numbers"]) fun _ _ _ _ _ _ us hl => match us, hl with | [_], _ => rfl
    g_sum_of := PySem.W.mg_of X G a6
    a_dot := f7
    d_dot := _
    F_dot := fun_mk (st := s_dot) l7 c7 k7
    b_dot := (fun_mk (st := s_dot) l7 c7 k7).binds (ps := ["one", "other"]) fun _ _ _ _ _ _ us hl => match us, hl with | [_, _], _ => rfl
    g_dot := PySem.W.mg_of X G a7
    a_law_mixed := f8
    d_law_mixed := _
    F_law_mixed := fun_mk (st := s_law_mixed) l8 c8 k8
    b_law_mixed := (fun_mk (st := s_law_mixed) l8 c8 k8).binds (ps := ["number", "place"]) fun _ _ _ _ _ _ us hl => match us, hl with | [_, _], _ => rfl
    g_law_mixed := PySem.W.mg_of X G a8
    a_law_rest := f9
    d_law_rest := _
    F_law_rest := fun_mk (st := s_law_rest) l9 c9 k9
    b_law_rest := (fun_mk (st := s_law_rest) l9 c9 k9).binds (ps := ["script", "place", "fills"]) fun _ _ _ _ _ _ us hl => match us, hl with | [_, _, _], _ => rfl
    g_law_rest := PySem.W.mg_of X G a9
    a_law_pool := f10
    d_law_pool := _
    F_law_pool := fun_mk (st := s_law_pool) l10 c10 k10
    b_law_pool := (fun_mk (st := s_law_pool) l10 c10 k10).binds (ps := ["script"]) fun _ _ _ _ _ _ us hl => match us, hl with | [_], _ => rfl
    g_law_pool := PySem.W.mg_of X G a10
    a_law_next := f11
    d_law_next := _
    F_law_next := fun_mk (st := s_law_next) l11 c11 k11
    b_law_next := (fun_mk (st := s_law_next) l11 c11 k11).binds (ps := ["pool"]) fun _ _ _ _ _ _ us hl => match us, hl with | [_], _ => rfl
    g_law_next := PySem.W.mg_of X G a11
    a_law_draw := f12
    d_law_draw := _
    F_law_draw := fun_mk (st := s_law_draw) l12 c12 k12
    b_law_draw := (fun_mk (st := s_law_draw) l12 c12 k12).binds (ps := ["pool", "limit"]) fun _ _ _ _ _ _ us hl => match us, hl with | [_, _], _ => rfl
    g_law_draw := PySem.W.mg_of X G a12
    a_law_pick := f13
    d_law_pick := _
    F_law_pick := fun_mk (st := s_law_pick) l13 c13 k13
    b_law_pick := (fun_mk (st := s_law_pick) l13 c13 k13).binds (ps := ["pool", "options"]) fun _ _ _ _ _ _ us hl => match us, hl with | [_, _], _ => rfl
    g_law_pick := PySem.W.mg_of X G a13
    a_law_same := f14
    d_law_same := _
    F_law_same := fun_mk (st := s_law_same) l14 c14 k14
    b_law_same := (fun_mk (st := s_law_same) l14 c14 k14).binds (ps := ["answer", "due"]) fun _ _ _ _ _ _ us hl => match us, hl with | [_, _], _ => rfl
    g_law_same := PySem.W.mg_of X G a14
    a_law_moved := f15
    d_law_moved := _
    F_law_moved := fun_mk (st := s_law_moved) l15 c15 k15
    b_law_moved := (fun_mk (st := s_law_moved) l15 c15 k15).binds (ps := ["pool", "items"]) fun _ _ _ _ _ _ us hl => match us, hl with | [_, _], _ => rfl
    g_law_moved := PySem.W.mg_of X G a15
    a_law_gcd := f16
    d_law_gcd := _
    F_law_gcd := fun_mk (st := s_law_gcd) l16 c16 k16
    b_law_gcd := (fun_mk (st := s_law_gcd) l16 c16 k16).binds (ps := ["one", "other"]) fun _ _ _ _ _ _ us hl => match us, hl with | [_, _], _ => rfl
    g_law_gcd := PySem.W.mg_of X G a16
    a_law_same_worth := f17
    d_law_same_worth := _
    F_law_same_worth := fun_mk (st := s_law_same_worth) l17 c17 k17
    b_law_same_worth := (fun_mk (st := s_law_same_worth) l17 c17 k17).binds (ps := ["told", "p", "q"]) fun _ _ _ _ _ _ us hl => match us, hl with | [_, _, _], _ => rfl
    g_law_same_worth := PySem.W.mg_of X G a17
    a_law := fa
    d_law := _
    F_law := fun_mk (st := s_law) l18 c18 k18
    b_law := (fun_mk (st := s_law) l18 c18 k18).binds (ps := ["script"]) fun _ _ _ _ _ _ us hl => match us, hl with | [_], _ => rfl
    g_law := PySem.W.mg_of X G a18
    n_bool := PySem.W.mg_none_of X G nb_bool
    n_dict := PySem.W.mg_none_of X G nb_dict
    n_int := PySem.W.mg_none_of X G nb_int
    n_isinstance := PySem.W.mg_none_of X G nb_isinstance
    n_len := PySem.W.mg_none_of X G nb_len
    n_list := PySem.W.mg_none_of X G nb_list
    n_range := PySem.W.mg_none_of X G nb_range
    n_str := PySem.W.mg_none_of X G nb_str
    n_tuple := PySem.W.mg_none_of X G nb_tuple
    n_zip := PySem.W.mg_none_of X G nb_zip
    m_gcd := PySem.W.mg_of X G nm_gcd
    x_NOUGHT := globD_tup (PySem.W.mg_of X G ga_NOUGHT) gl_NOUGHT rfl rfl (by show 2 ≤ sizeLine; decide) ⟨_, _, .int 0, rfl, rfl, ⟨_, rfl⟩, ⟨_, _, .int 1, rfl, rfl, ⟨_, rfl⟩, rfl⟩⟩ }
  exact ⟨T.d_law, fun s v => .of_eq rfl, fun base _ _ => ok_law T⟩
end Law

open PySem PySem.W PyProof.Rows in
set_option maxRecDepth 100000 in
set_option maxHeartbeats 0 in
theorem PySem.Challenge.cw_growth_k36_whole_fractions_and_sums_holds : PySem.Challenge.rw_growth_k36_whole_fractions_and_sums.Holds := by
  w_on; o_law; k_head; (case hw => w_witness2)
  k_fill
  refine Mi.walkF (l := PySem.Challenge.rw_growth_k36_whole_fractions_and_sums) (k := 13) Law.keeps ⟨rfl, by decide, by decide⟩ rfl rfl (fun w h Y => PySem.W.kIn_of Y) ?F
  case F =>
    intro w mg fa h KX G hmg
    refine' Law.all_mk KX G hmg ?a0 ?l0 ?c0 ?k0 ?a1 ?l1 ?c1 ?k1 ?a2 ?l2 ?c2 ?k2 ?a3 ?l3 ?c3 ?k3 ?a4 ?l4 ?c4 ?k4 ?a5 ?l5 ?c5 ?k5 ?a6 ?l6 ?c6 ?k6 ?a7 ?l7 ?c7 ?k7 ?a8 ?l8 ?c8 ?k8 ?a9 ?l9 ?c9 ?k9 ?a10 ?l10 ?c10 ?k10 ?a11 ?l11 ?c11 ?k11 ?a12 ?l12 ?c12 ?k12 ?a13 ?l13 ?c13 ?k13 ?a14 ?l14 ?c14 ?k14 ?a15 ?l15 ?c15 ?k15 ?a16 ?l16 ?c16 ?k16 ?a17 ?l17 ?c17 ?k17 ?a18 ?l18 ?c18 ?k18 ?nb_bool ?nb_dict ?nb_int ?nb_isinstance ?nb_len ?nb_list ?nb_range ?nb_str ?nb_tuple ?nb_zip ?nm_gcd ?ga_NOUGHT ?gl_NOUGHT
    (case a0 => k_is)
    (case l0 => k_is)
    (case c0 => k_is)
    (case k0 => k_is)
    (case a1 => k_is)
    (case l1 => k_is)
    (case c1 => k_is)
    (case k1 => k_is)
    (case a2 => k_is)
    (case l2 => k_is)
    (case c2 => k_is)
    (case k2 => k_is)
    (case a3 => k_is)
    (case l3 => k_is)
    (case c3 => k_is)
    (case k3 => k_is)
    (case a4 => k_is)
    (case l4 => k_is)
    (case c4 => k_is)
    (case k4 => k_is)
    (case a5 => k_is)
    (case l5 => k_is)
    (case c5 => k_is)
    (case k5 => k_is)
    (case a6 => k_is)
    (case l6 => k_is)
    (case c6 => k_is)
    (case k6 => k_is)
    (case a7 => k_is)
    (case l7 => k_is)
    (case c7 => k_is)
    (case k7 => k_is)
    (case a8 => k_is)
    (case l8 => k_is)
    (case c8 => k_is)
    (case k8 => k_is)
    (case a9 => k_is)
    (case l9 => k_is)
    (case c9 => k_is)
    (case k9 => k_is)
    (case a10 => k_is)
    (case l10 => k_is)
    (case c10 => k_is)
    (case k10 => k_is)
    (case a11 => k_is)
    (case l11 => k_is)
    (case c11 => k_is)
    (case k11 => k_is)
    (case a12 => k_is)
    (case l12 => k_is)
    (case c12 => k_is)
    (case k12 => k_is)
    (case a13 => k_is)
    (case l13 => k_is)
    (case c13 => k_is)
    (case k13 => k_is)
    (case a14 => k_is)
    (case l14 => k_is)
    (case c14 => k_is)
    (case k14 => k_is)
    (case a15 => k_is)
    (case l15 => k_is)
    (case c15 => k_is)
    (case k15 => k_is)
    (case a16 => k_is)
    (case l16 => k_is)
    (case c16 => k_is)
    (case k16 => k_is)
    (case a17 => k_is)
    (case l17 => k_is)
    (case c17 => k_is)
    (case k17 => k_is)
    (case a18 => k_is)
    (case l18 => k_is)
    (case c18 => k_is)
    (case k18 => k_is)
    (case nb_bool => k_is)
    (case nb_dict => k_is)
    (case nb_int => k_is)
    (case nb_isinstance => k_is)
    (case nb_len => k_is)
    (case nb_list => k_is)
    (case nb_range => k_is)
    (case nb_str => k_is)
    (case nb_tuple => k_is)
    (case nb_zip => k_is)
    (case nm_gcd => k_is)
    (case ga_NOUGHT => k_is)
    (case gl_NOUGHT => k_is)

