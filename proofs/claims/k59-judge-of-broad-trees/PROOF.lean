import PyProof.Rows.All
import HandS.ForMost
import HandS.Deep
import HandS.IsInst
import HandS.RaiseMore
import HandS.Evl
import HandS.SortInts
import HandS.Conv
import PyProof.ReprRoads
import HandS.Style
import PyProof.Rows.RegFStrParts
import PySem.Challenge.RW_lightstold_k59_judge_of_broad_trees
set_option Elab.async false
set_option linter.all false
set_option maxRecDepth 100000
set_option maxHeartbeats 2000000
/-! A layer of plain data over the hand layer: values as trees, slots that own a list. -/
namespace DL
open PySem PySem.Spec PyProof.Rows L2 Evl

/-- plain data -/
inductive D where
  | non | bl (b : Bool) | int (i : Int) | str (x : Str)
  | tup (xs : List D) | lst (xs : List D)
  | ins (C : Addr) (ns : List Str) (xs : List D)
  /-- a list that is only read (the script) -/
  | ro (xs : List D)

mutual
/-- v stands for d; all that is read stands in H -/
inductive Rp (K : PySem.W.Frag) (H : Hp) : V → D → Prop
  | non : Rp K H .non .non
  | bl (b : Bool) : Rp K H (.bl b) (.bl b)
  | int (i : Int) : Rp K H (.int i) (.int i)
  | str (x : Str) : Rp K H (.str x) (.str x)
  | tup {a : Addr} {vs : List V} {ds : List D} : SqT K H a vs → RpA K H vs ds → Rp K H (.ref a) (.tup ds)
  | lst {a : Addr} {vs : List V} {ds : List D} : H a = some (.lst vs) → RpA K H vs ds → Rp K H (.ref a) (.lst ds)
  | ins {a C dx : Addr} {ns : List Str} {vs : List V} {ds : List D} : H a = some (.ins C dx (ns.zip vs)) → ns.length = vs.length → RpA K H vs ds → Rp K H (.ref a) (.ins C ns ds)
  | ro {a : Addr} {vs : List V} {ds : List D} : SqL K H a vs → RpA K H vs ds → Rp K H (.ref a) (.ro ds)
inductive RpA (K : PySem.W.Frag) (H : Hp) : List V → List D → Prop
  | nil : RpA K H [] []
  | cons {v : V} {vs : List V} {d : D} {ds : List D} : Rp K H v d → RpA K H vs ds → RpA K H (v :: vs) (d :: ds)
end

section
variable {K : PySem.W.Frag} {H H' H0 H0' : Hp}
mutual
theorem Rp.mono (e : Ex H H') : ∀ (d : D) (v : V), Rp K H v d → Rp K H' v d
  | .non, _, h => by cases h; exact .non
  | .bl _, _, h => by cases h; exact .bl _
  | .int _, _, h => by cases h; exact .int _
  | .str _, _, h => by cases h; exact .str _
  | .tup ds, _, h => by
    cases h with
    | tup h1 h2 => exact .tup (ex_t e h1) (RpA.mono e ds _ h2)
  | .lst ds, _, h => by
    cases h with
    | lst h1 h2 => exact .lst (e _ _ h1) (RpA.mono e ds _ h2)
  | .ins C ns ds, _, h => by
    cases h with
    | ins h1 h2 h3 => exact .ins (e _ _ h1) h2 (RpA.mono e ds _ h3)
  | .ro ds, _, h => by
    cases h with
    | ro h1 h2 => exact .ro (ex_l e h1) (RpA.mono e ds _ h2)
theorem RpA.mono (e : Ex H H') : ∀ (ds : List D) (vs : List V), RpA K H vs ds → RpA K H' vs ds
  | [], _, h => by cases h; exact .nil
  | d :: ds, _, h => by
    cases h with
    | cons h1 h2 => exact .cons (Rp.mono e d _ h1) (RpA.mono e ds _ h2)
end
theorem Rp.up {v : V} {d : D} (h : Rp K H v d) (e : Ex H H') : Rp K H' v d := Rp.mono e d v h
theorem RpA.up {vs : List V} {ds : List D} (h : RpA K H vs ds) (e : Ex H H') : RpA K H' vs ds := RpA.mono e ds vs h
theorem RpA.length : ∀ {vs : List V} {ds : List D}, RpA K H vs ds → vs.length = ds.length
  | _, _, .nil => rfl
  | _, _, .cons _ t => congrArg (· + 1) t.length
theorem RpA.get : ∀ {vs : List V} {ds : List D} {i : Nat} {d : D}, RpA K H vs ds → ds[i]? = some d → ∃ v, vs[i]? = some v ∧ Rp K H v d
  | _, _, _, _, .nil, e => by simp at e
  | _, _, 0, _, .cons r _, e => by simp at e; subst e; exact ⟨_, rfl, r⟩
  | _, _, i + 1, d, .cons _ t, e => by
    obtain ⟨v, h1, h2⟩ := RpA.get (i := i) (d := d) t (by simpa using e)
    exact ⟨v, by simpa using h1, h2⟩
theorem RpA.getV {vs : List V} {ds : List D} {i : Nat} {v : V} (h : RpA K H vs ds) (e : vs[i]? = some v) : ∃ d, ds[i]? = some d ∧ Rp K H v d := by
  have hi : i < vs.length := (List.getElem?_eq_some_iff.mp e).1
  have hi' : i < ds.length := h.length ▸ hi
  obtain ⟨v', h1, h2⟩ := h.get (List.getElem?_eq_getElem hi')
  rw [e] at h1
  cases h1
  exact ⟨_, List.getElem?_eq_getElem hi', h2⟩
theorem RpA.append : ∀ {vs us : List V} {ds es : List D}, RpA K H vs ds → RpA K H us es → RpA K H (vs ++ us) (ds ++ es)
  | _, _, _, _, .nil, s => s
  | _, _, _, _, .cons r t, s => .cons r (t.append s)
theorem RpA.one {v : V} {d : D} (h : Rp K H v d) : RpA K H [v] [d] := .cons h .nil
theorem RpA.set {v : V} {d : D} (r : Rp K H v d) : ∀ {vs : List V} {ds : List D} (i : Nat), RpA K H vs ds → RpA K H (vs.set i v) (ds.set i d)
  | _, _, _, .nil => .nil
  | _, _, 0, .cons _ t => .cons r t
  | _, _, i + 1, .cons q t => .cons q (RpA.set r i t)
theorem RpA.take : ∀ {vs : List V} {ds : List D} (n : Nat), RpA K H vs ds → RpA K H (vs.take n) (ds.take n)
  | _, _, 0, _ => .nil
  | _, _, _ + 1, .nil => .nil
  | _, _, n + 1, .cons r t => .cons r (RpA.take n t)
theorem RpA.drop : ∀ {vs : List V} {ds : List D} (n : Nat), RpA K H vs ds → RpA K H (vs.drop n) (ds.drop n)
  | _, _, 0, r => r
  | _, _, _ + 1, .nil => .nil
  | _, _, n + 1, .cons _ t => RpA.drop n t
theorem RpA.dropLast {vs : List V} {ds : List D} (h : RpA K H vs ds) : RpA K H vs.dropLast ds.dropLast := by
  rw [List.dropLast_eq_take, List.dropLast_eq_take, h.length]
  exact h.take _
theorem RpA.ints : ∀ {vs : List V} {ns : List Int}, RpA K H vs (ns.map D.int) → vs = ns.map V.int
  | [], [], _ => rfl
  | _ :: _, [], h => nomatch h
  | [], _ :: _, h => nomatch h
  | v :: vs, n :: ns, h => by
    cases h with
    | cons h1 h2 =>
      cases h1
      rw [RpA.ints h2]
      rfl
theorem RpA.ofInts : ∀ (ns : List Int), RpA K H (ns.map V.int) (ns.map D.int)
  | [] => .nil
  | _ :: ns => .cons (.int _) (RpA.ofInts ns)
theorem RpA.strs : ∀ {vs : List V} {xs : List Str}, RpA K H vs (xs.map D.str) → vs = xs.map V.str
  | [], [], _ => rfl
  | _ :: _, [], h => nomatch h
  | [], _ :: _, h => nomatch h
  | v :: vs, n :: ns, h => by
    cases h with
    | cons h1 h2 =>
      cases h1
      rw [RpA.strs h2]
      rfl
theorem RpA.bls : ∀ {vs : List V} {xs : List Bool}, RpA K H vs (xs.map D.bl) → vs = xs.map V.bl
  | [], [], _ => rfl
  | _ :: _, [], h => nomatch h
  | [], _ :: _, h => nomatch h
  | v :: vs, n :: ns, h => by
    cases h with
    | cons h1 h2 =>
      cases h1
      rw [RpA.bls h2]
      rfl
end

/-! ### what is owned; slots -/
inductive O where
  | lst (xs : List D)
def O.d : O → D
  | .lst xs => .lst xs
inductive R where
  | fr (d : D) | ow (o : O)
def R.d : R → D
  | .fr d => d
  | .ow o => o.d
inductive Sl where
  | un | r (x : R) | io (o : O)
def Sl.o? : Sl → Option O
  | .r (.ow o) => some o
  | .io o => some o
  | _ => none
abbrev Sl.f (d : D) : Sl := .r (.fr d)
abbrev Sl.w (o : O) : Sl := .r (.ow o)
/-- the same slot with another owned thing -/
def Sl.put : Sl → O → Sl
  | .io _, o => .io o
  | _, o => .r (.ow o)
abbrev SEnv := List Sl

def OkO (K : PySem.W.Frag) (H0 H : Hp) (p : Addr) : O → Prop
  | .lst ds => ∃ vs, H p = some (.lst vs) ∧ RpA K H0 vs ds
section
variable {K : PySem.W.Frag} {H H' H0 H0' : Hp} {p : Addr} {o : O}
theorem OkO.up (h : OkO K H0 H p o) (e : Ex H0 H0') (k : ∀ u, H p = some u → H' p = some u) : OkO K H0' H' p o := by
  cases o with
  | lst ds => obtain ⟨vs, h1, h2⟩ := h; exact ⟨vs, k _ h1, h2.up e⟩
theorem OkO.some (h : OkO K H0 H p o) : ∃ u, H p = some u := by
  cases o with
  | lst ds => obtain ⟨vs, h1, _⟩ := h; exact ⟨_, h1⟩
theorem OkO.frozen (h : OkO K H0 H p o) (e : Ex H0 H0') (k : H0' p = H p) : Rp K H0' (.ref p) o.d := by
  cases o with
  | lst ds => obtain ⟨vs, h1, h2⟩ := h; exact .lst (k.trans h1) (h2.up e)
end

/-- how base and heap may grow -/
structure Grow (H0 H H0' H' : Hp) : Prop where
  b : Ex H0 H0'
  x : Ex H0' H'
  h : Ex H H'
  n : ∀ a u, H a = some u → H0 a = none → H0' a = none
theorem Grow.refl {H0 H : Hp} (e : Ex H0 H) : Grow H0 H H0 H := ⟨Ex.refl _, e, Ex.refl _, fun _ _ _ h => h⟩
theorem Grow.trans {H0 H H1 I1 H2 I2 : Hp} (a : Grow H0 H H1 I1) (b : Grow H1 I1 H2 I2) : Grow H0 H H2 I2 :=
  ⟨a.b.trans b.b, b.x, a.h.trans b.h, fun p u h n => b.n p u (a.h _ _ h) (a.n p u h n)⟩
/-- a new thing, frozen at once -/
theorem Grow.new {H0 H : Hp} {p : Addr} {u : HO} (e : Ex H0 H) (h : H p = none) : Grow H0 H (upd H0 p u) (upd H p u) := by
  have h0 : H0 p = none := fresh_back e h
  refine ⟨Ex.new h0, fun a o ha => ?_, Ex.new h, fun a o ha h0a => ?_⟩
  · by_cases z : a = p
    · subst z; rw [upd_same] at ha ⊢; exact ha
    · rw [upd_ne z] at ha ⊢; exact e _ _ ha
  · have z : a ≠ p := ne_of_none ha h
    rw [upd_ne z]; exact h0a

/-- a def's call: where its in-out arguments lie, the heap and the base at its entry -/
structure Fx where
  pa : Nat → Addr
  He : Hp
  Hb : Hp
  io : Addr → Prop
  ent : ∀ a, io a → ∃ u, He a = some u
structure RE (K : PySem.W.Frag) (c : Fx) (H0 H : Hp) (σ : L2.St) (ρ : SEnv) : Prop where
  ex : Ex H0 H
  fm : ∀ a u, c.He a = some u → ¬ c.io a → H a = some u
  nw : ∀ a u, c.He a = some u → c.Hb a = none → H0 a = none
  iz : ∀ a, c.io a → H0 a = none ∧ ∃ u, H a = some u
  len : σ.length = ρ.length
  fr : ∀ (i : Nat) (d : D), ρ[i]? = some (.r (.fr d)) → ∃ v, σ[i]? = some (some v) ∧ Rp K H0 v d
  ow : ∀ (i : Nat) (s : Sl) (o : O), ρ[i]? = some s → s.o? = some o → ∃ p, σ[i]? = some (some (.ref p)) ∧ H0 p = none ∧ OkO K H0 H p o
  fh : ∀ (i : Nat) (o : O) (p : Addr), ρ[i]? = some (.r (.ow o)) → σ[i]? = some (some (.ref p)) → c.He p = none
  io : ∀ (i : Nat) (o : O), ρ[i]? = some (.io o) → σ[i]? = some (some (.ref (c.pa i))) ∧ c.io (c.pa i)
  dj : ∀ (i j : Nat) (s t : Sl) (o o' : O) (p : Addr), i ≠ j → ρ[i]? = some s → ρ[j]? = some t → s.o? = some o → t.o? = some o' → σ[i]? = some (some (.ref p)) → σ[j]? = some (some (.ref p)) → False
/-- no slot owns p -/
def NoOwn (σ : L2.St) (ρ : SEnv) (p : Addr) : Prop := ∀ (i : Nat) (s : Sl) (o : O), ρ[i]? = some s → s.o? = some o → σ[i]? = some (some (.ref p)) → False
/-- a result -/
def RR (K : PySem.W.Frag) (c : Fx) (H0 H : Hp) (σ : L2.St) (ρ : SEnv) : V → R → Prop
  | v, .fr d => Rp K H0 v d
  | v, .ow o => ∃ p, v = .ref p ∧ H0 p = none ∧ c.He p = none ∧ OkO K H0 H p o ∧ NoOwn σ ρ p

section
variable {K : PySem.W.Frag} {c : Fx} {H H' H0 H0' : Hp} {σ : L2.St} {ρ : SEnv}
theorem RE.he (r : RE K c H0 H σ ρ) {p : Addr} (h : H p = none) : c.He p = none := by
  cases q : c.He p with
  | none => rfl
  | some u =>
    by_cases z : c.io p
    · obtain ⟨_, u', hu⟩ := r.iz p z
      rw [h] at hu; cases hu
    · have := r.fm p u q z
      rw [h] at this; cases this
theorem RE.grow (r : RE K c H0 H σ ρ) (g : Grow H0 H H0' H') : RE K c H0' H' σ ρ where
  ex := g.x
  fm := fun a u h n => g.h _ _ (r.fm a u h n)
  nw := fun a u h n => by
    have h0 := r.nw a u h n
    by_cases z : c.io a
    · obtain ⟨_, u', hu⟩ := r.iz a z
      exact g.n a u' hu h0
    · exact g.n a u (r.fm a u h z) h0
  iz := fun a h => let ⟨h0, u, hu⟩ := r.iz a h; ⟨g.n a u hu h0, u, g.h _ _ hu⟩
  len := r.len
  fr := fun i d e => let ⟨v, h1, h2⟩ := r.fr i d e; ⟨v, h1, h2.up g.b⟩
  ow := fun i s o e1 e2 => by
    obtain ⟨p, h1, h2, h3⟩ := r.ow i s o e1 e2
    obtain ⟨u, hu⟩ := h3.some
    exact ⟨p, h1, g.n p u hu h2, h3.up g.b fun u hu => g.h _ _ hu⟩
  fh := r.fh
  io := r.io
  dj := r.dj
theorem RE.noOwn_new (r : RE K c H0 H σ ρ) {p : Addr} (h : H p = none) : NoOwn σ ρ p := fun i s o e1 e2 e3 => by
  obtain ⟨q, h1, h2, h3⟩ := r.ow i s o e1 e2
  rw [e3] at h1
  cases h1
  obtain ⟨u, hu⟩ := h3.some
  rw [h] at hu
  cases hu
theorem RR.grow {v : V} {x : R} (q : RR K c H0 H σ ρ v x) (g : Grow H0 H H0' H') : RR K c H0' H' σ ρ v x := by
  cases x with
  | fr d => exact Rp.up (show Rp K H0 v d from q) g.b
  | ow o =>
    obtain ⟨p, h1, h2, h5, h3, h4⟩ := q
    obtain ⟨u, hu⟩ := h3.some
    exact ⟨p, h1, g.n p u hu h2, h5, h3.up g.b fun u hu => g.h _ _ hu, h4⟩
theorem set_get {α : Type} {l : List α} {i j : Nat} {a b : α} (h : (l.set i a)[j]? = some b) : (i = j ∧ a = b ∧ i < l.length) ∨ (i ≠ j ∧ l[j]? = some b) := by
  by_cases e : i = j
  · subst e
    by_cases hl : i < l.length
    · rw [List.getElem?_set_self hl] at h
      cases h
      exact .inl ⟨rfl, rfl, hl⟩
    · rw [List.getElem?_eq_none (by simpa using hl)] at h
      cases h
  · rw [List.getElem?_set_ne e] at h
    exact .inr ⟨e, h⟩
theorem set_self {α : Type} {l : List α} {i : Nat} {a : α} (h : l[i]? = some a) : l.set i a = l := by
  have hl : i < l.length := (List.getElem?_eq_some_iff.mp h).1
  refine List.ext_getElem? fun j => ?_
  by_cases z : i = j
  · subst z
    rw [List.getElem?_set_self hl, h]
  · rw [List.getElem?_set_ne z]
/-- a slot is stored with frozen data -/
theorem RE.setF (r : RE K c H0 H σ ρ) {i : Nat} {v : V} {d : D} (h : Rp K H0 v d) : RE K c H0 H (σ.set i (some v)) (ρ.set i (.r (.fr d))) where
  ex := r.ex
  fm := r.fm
  nw := r.nw
  iz := r.iz
  len := by rw [List.length_set, List.length_set]; exact r.len
  fr := fun j d' e => by
    rcases set_get e with ⟨rfl, e2, hl⟩ | ⟨ne, e2⟩
    · cases e2
      exact ⟨v, List.getElem?_set_self (r.len ▸ hl), h⟩
    · rw [List.getElem?_set_ne ne]
      exact r.fr j d' e2
  ow := fun j s o e e1 => by
    rcases set_get e with ⟨rfl, e2, hl⟩ | ⟨ne, e2⟩
    · subst e2; cases e1
    · rw [List.getElem?_set_ne ne]
      exact r.ow j s o e2 e1
  fh := fun j o p e e1 => by
    rcases set_get e with ⟨rfl, e2, hl⟩ | ⟨ne, e2⟩
    · cases e2
    · rw [List.getElem?_set_ne ne] at e1
      exact r.fh j o p e2 e1
  io := fun j o e => by
    rcases set_get e with ⟨rfl, e2, hl⟩ | ⟨ne, e2⟩
    · cases e2
    · rw [List.getElem?_set_ne ne]
      exact r.io j o e2
  dj := fun a b s t o o' p ne ea eb es et sa sb => by
    rcases set_get ea with ⟨rfl, e2, hl⟩ | ⟨na, ea⟩
    · subst e2; cases es
    rcases set_get eb with ⟨rfl, e2, hl⟩ | ⟨nb, eb⟩
    · subst e2; cases et
    rw [List.getElem?_set_ne na] at sa
    rw [List.getElem?_set_ne nb] at sb
    exact r.dj a b s t o o' p ne ea eb es et sa sb
/-- a slot forgotten -/
theorem RE.setU (r : RE K c H0 H σ ρ) {i : Nat} {x : Option V} : RE K c H0 H (σ.set i x) (ρ.set i .un) where
  ex := r.ex
  fm := r.fm
  nw := r.nw
  iz := r.iz
  len := by rw [List.length_set, List.length_set]; exact r.len
  fr := fun j d' e => by
    rcases set_get e with ⟨rfl, e2, hl⟩ | ⟨ne, e2⟩
    · cases e2
    · rw [List.getElem?_set_ne ne]
      exact r.fr j d' e2
  ow := fun j s o e e1 => by
    rcases set_get e with ⟨rfl, e2, hl⟩ | ⟨ne, e2⟩
    · subst e2; cases e1
    · rw [List.getElem?_set_ne ne]
      exact r.ow j s o e2 e1
  fh := fun j o p e e1 => by
    rcases set_get e with ⟨rfl, e2, hl⟩ | ⟨ne, e2⟩
    · cases e2
    · rw [List.getElem?_set_ne ne] at e1
      exact r.fh j o p e2 e1
  io := fun j o e => by
    rcases set_get e with ⟨rfl, e2, hl⟩ | ⟨ne, e2⟩
    · cases e2
    · rw [List.getElem?_set_ne ne]
      exact r.io j o e2
  dj := fun a b s t o o' p ne ea eb es et sa sb => by
    rcases set_get ea with ⟨rfl, e2, hl⟩ | ⟨na, ea⟩
    · subst e2; cases es
    rcases set_get eb with ⟨rfl, e2, hl⟩ | ⟨nb, eb⟩
    · subst e2; cases et
    rw [List.getElem?_set_ne na] at sa
    rw [List.getElem?_set_ne nb] at sb
    exact r.dj a b s t o o' p ne ea eb es et sa sb
/-- .. and the value left as it stands -/
theorem RE.drop (r : RE K c H0 H σ ρ) (i : Nat) : RE K c H0 H σ (ρ.set i .un) := by
  by_cases hl : i < σ.length
  · have h := r.setU (i := i) (x := σ[i])
    rw [set_self (List.getElem?_eq_getElem hl)] at h
    exact h
  · have h := r.setU (i := i) (x := none)
    rw [List.set_eq_of_length_le (by omega)] at h
    exact h
/-- a slot takes an owned thing that no slot owns -/
theorem RE.setO (r : RE K c H0 H σ ρ) {i : Nat} {p : Addr} {o : O} (h0 : H0 p = none) (he : c.He p = none) (h : OkO K H0 H p o) (no : NoOwn σ ρ p) : RE K c H0 H (σ.set i (some (.ref p))) (ρ.set i (.r (.ow o))) where
  ex := r.ex
  fm := r.fm
  nw := r.nw
  iz := r.iz
  len := by rw [List.length_set, List.length_set]; exact r.len
  fr := fun j d' e => by
    rcases set_get e with ⟨rfl, e2, hl⟩ | ⟨ne, e2⟩
    · cases e2
    · rw [List.getElem?_set_ne ne]
      exact r.fr j d' e2
  ow := fun j s o' e e1 => by
    rcases set_get e with ⟨rfl, e2, hl⟩ | ⟨ne, e2⟩
    · subst e2; cases e1
      exact ⟨p, List.getElem?_set_self (r.len ▸ hl), h0, h⟩
    · rw [List.getElem?_set_ne ne]
      exact r.ow j s o' e2 e1
  fh := fun j o p e e1 => by
    rcases set_get e with ⟨rfl, e2, hl⟩ | ⟨ne, e2⟩
    · cases e2
      rw [List.getElem?_set_self (r.len ▸ hl)] at e1
      cases e1
      exact he
    · rw [List.getElem?_set_ne ne] at e1
      exact r.fh j o p e2 e1
  io := fun j o e => by
    rcases set_get e with ⟨rfl, e2, hl⟩ | ⟨ne, e2⟩
    · cases e2
    · rw [List.getElem?_set_ne ne]
      exact r.io j o e2
  dj := fun a b s t o o' q ne ea eb es et sa sb => by
    rcases set_get ea with ⟨rfl, e2, hl⟩ | ⟨na, ea⟩
    · rcases set_get eb with ⟨rfl, e3, hl'⟩ | ⟨nb, eb⟩
      · exact ne rfl
      · rw [List.getElem?_set_self (r.len ▸ hl)] at sa
        cases sa
        rw [List.getElem?_set_ne nb] at sb
        exact no b t o' eb et sb
    · rw [List.getElem?_set_ne na] at sa
      rcases set_get eb with ⟨rfl, e3, hl'⟩ | ⟨nb, eb⟩
      · rw [List.getElem?_set_self (r.len ▸ hl')] at sb
        cases sb
        exact no a s o ea es sa
      · rw [List.getElem?_set_ne nb] at sb
        exact r.dj a b s t o o' q ne ea eb es et sa sb
theorem Sl.put_o {s : Sl} {o : O} : (s.put o).o? = some o := by
  cases s <;> rfl
/-- an address that a slot owns may change -/
theorem RE.free (r : RE K c H0 H σ ρ) {i : Nat} {s : Sl} {o : O} {p : Addr} (hi : ρ[i]? = some s) (hs : s.o? = some o) (hσ : σ[i]? = some (some (.ref p))) : c.He p = none ∨ c.io p := by
  cases s with
  | un => cases hs
  | r x =>
    cases x with
    | fr d => cases hs
    | ow o' => exact .inl (r.fh i o' p hi hσ)
  | io o' =>
    obtain ⟨h1, h2⟩ := r.io i o' hi
    rw [hσ] at h1
    cases h1
    exact .inr h2
/-- the thing that slot i owns has changed -/
theorem RE.chg (r : RE K c H0 H σ ρ) {i : Nat} {s : Sl} {o o' : O} {p : Addr} {u : HO} (hi : ρ[i]? = some s) (hs : s.o? = some o) (hσ : σ[i]? = some (some (.ref p))) (h : OkO K H0 (upd H p u) p o') : RE K c H0 (upd H p u) σ (ρ.set i (s.put o')) := by
  obtain ⟨p', q1, q2, q3⟩ := r.ow i s o hi hs
  rw [hσ] at q1
  cases q1
  have hl : i < ρ.length := (List.getElem?_eq_some_iff.mp hi).1
  refine ⟨Ex.mut r.ex q2, fun a w ha n => ?_, r.nw, fun a ha => ?_, by rw [List.length_set]; exact r.len, fun j d' e => ?_, fun j s' o2 e e1 => ?_, fun j o2 q e e1 => ?_, fun j o2 e => ?_, fun a b s1 t1 o1 o2 q ne ea eb es et sa sb => ?_⟩
  · have np : a ≠ p := fun z => by
      subst z
      rcases r.free hi hs hσ with q | q
      · rw [ha] at q; cases q
      · exact n q
    rw [upd_ne np]
    exact r.fm a w ha n
  · obtain ⟨h0, w, hw⟩ := r.iz a ha
    refine ⟨h0, ?_⟩
    by_cases z : a = p
    · subst z; exact ⟨u, upd_same⟩
    · exact ⟨w, by rw [upd_ne z]; exact hw⟩
  · rcases set_get e with ⟨rfl, e2, hl⟩ | ⟨ne, e2⟩
    · have z := Sl.put_o (s := s) (o := o')
      rw [e2] at z
      cases z
    · exact r.fr j d' e2
  · rcases set_get e with ⟨rfl, e2, hl⟩ | ⟨ne, e2⟩
    · subst e2
      rw [Sl.put_o] at e1
      cases e1
      exact ⟨p, hσ, q2, h⟩
    · obtain ⟨p', w1, w2, w3⟩ := r.ow j s' o2 e2 e1
      refine ⟨p', w1, w2, w3.up (Ex.refl _) fun v hv => ?_⟩
      have np : p' ≠ p := fun z => by
        subst z
        exact r.dj i j s s' o o2 p' ne hi e2 hs e1 hσ w1
      rw [upd_ne np]
      exact hv
  · rcases set_get e with ⟨rfl, e2, hl⟩ | ⟨ne, e2⟩
    · cases s with
      | un => cases hs
      | r x =>
        cases x with
        | fr d => cases hs
        | ow o3 => exact r.fh i o3 q hi e1
      | io z => cases e2
    · exact r.fh j o2 q e2 e1
  · rcases set_get e with ⟨rfl, e2, hl⟩ | ⟨ne, e2⟩
    · cases s with
      | un => cases hs
      | r x => cases e2
      | io z => exact r.io i z hi
    · exact r.io j o2 e2
  · rcases set_get ea with ⟨rfl, e2, hl⟩ | ⟨na, ea⟩
    · rcases set_get eb with ⟨rfl, e3, hl'⟩ | ⟨nb, eb⟩
      · exact ne rfl
      · exact r.dj i b s t1 o o2 q ne hi eb hs et sa sb
    · rcases set_get eb with ⟨rfl, e3, hl'⟩ | ⟨nb, eb⟩
      · exact r.dj a i s1 s o1 o q ne ea hi es hs sa sb
      · exact r.dj a b s1 t1 o1 o2 q ne ea eb es et sa sb
/-- a thing that nobody owns is frozen -/
theorem RE.fzT (r : RE K c H0 H σ ρ) {p : Addr} {o : O} (h0 : H0 p = none) (he : c.He p = none) (h : OkO K H0 H p o) (no : NoOwn σ ρ p) : ∃ H0', Ex H0 H0' ∧ RE K c H0' H σ ρ ∧ Rp K H0' (.ref p) o.d := by
  obtain ⟨u, hu⟩ := h.some
  have e0 : Ex H0 (upd H0 p u) := Ex.new h0
  have np : ∀ a w, c.He a = some w → a ≠ p := fun a w ha z => by subst z; rw [ha] at he; cases he
  refine ⟨upd H0 p u, e0, ⟨fun a w ha => ?_, r.fm, fun a w ha hb => ?_, fun a ha => ?_, r.len, fun i d e => ?_, fun i s o' e e1 => ?_, r.fh, r.io, r.dj⟩, h.frozen e0 (by rw [upd_same, hu])⟩
  · by_cases z : a = p
    · subst z; rw [upd_same] at ha; cases ha; exact hu
    · rw [upd_ne z] at ha; exact r.ex _ _ ha
  · rw [upd_ne (np a w ha)]
    exact r.nw a w ha hb
  · obtain ⟨h1, h2⟩ := r.iz a ha
    obtain ⟨w, hw⟩ := c.ent a ha
    exact ⟨by rw [upd_ne (np a w hw)]; exact h1, h2⟩
  · obtain ⟨v, h1, h2⟩ := r.fr i d e
    exact ⟨v, h1, h2.up e0⟩
  · obtain ⟨q, w1, w2, w3⟩ := r.ow i s o' e e1
    have nq : q ≠ p := fun z => by subst z; exact no i s o' e e1 w1
    exact ⟨q, w1, by rw [upd_ne nq]; exact w2, w3.up e0 fun _ h => h⟩
/-- a slot is frozen -/
theorem RE.fzS (r : RE K c H0 H σ ρ) {i : Nat} {o : O} (hi : ρ[i]? = some (.r (.ow o))) : ∃ v H0', Ex H0 H0' ∧ σ[i]? = some (some v) ∧ RE K c H0' H σ (ρ.set i (.r (.fr o.d))) ∧ Rp K H0' v o.d := by
  obtain ⟨p, q1, q2, q3⟩ := r.ow i _ o hi rfl
  have hl : i < ρ.length := (List.getElem?_eq_some_iff.mp hi).1
  have r1 := r.drop i
  obtain ⟨H0', e0, r2, f⟩ := r1.fzT q2 (r.fh i o p hi q1) q3 fun j s o' e e1 e2 => by
    rcases set_get e with ⟨rfl, e3, _⟩ | ⟨ne, e3⟩
    · subst e3; cases e1
    · exact r.dj i j _ s o o' p ne hi e3 rfl e1 q1 e2
  refine ⟨.ref p, H0', e0, q1, ?_, f⟩
  have r3 := r2.setF (i := i) f
  rw [set_self q1, List.set_set] at r3
  exact r3
theorem RR.fz {v : V} {x : R} (r : RE K c H0 H σ ρ) (q : RR K c H0 H σ ρ v x) : ∃ H0', Ex H0 H0' ∧ RE K c H0' H σ ρ ∧ Rp K H0' v x.d := by
  cases x with
  | fr d => exact ⟨H0, Ex.refl _, r, q⟩
  | ow o =>
    obtain ⟨p, rfl, h2, h5, h3, h4⟩ := q
    exact r.fzT h2 h5 h3 h4
theorem RE.setR {i : Nat} {v : V} {x : R} (r : RE K c H0 H σ ρ) (q : RR K c H0 H σ ρ v x) : RE K c H0 H (σ.set i (some v)) (ρ.set i (.r x)) := by
  cases x with
  | fr d => exact r.setF q
  | ow o =>
    obtain ⟨p, rfl, h2, h5, h3, h4⟩ := q
    exact r.setO h2 h5 h3 h4
end
end DL
set_option Elab.async false
set_option linter.all false
set_option maxRecDepth 100000
set_option maxHeartbeats 2000000
namespace DL
open PySem PySem.Spec PyProof.Rows L2 Evl

abbrev WE := SEnv → (R → SEnv → Prop) → Prop
abbrev WD := SEnv → (D → SEnv → Prop) → Prop
abbrev WT := SEnv → (Bool → SEnv → Prop) → Prop
/-- an argument: a slot handed on as it stands, or data -/
abbrev Ar := Sum Nat D
abbrev WA := SEnv → (List Ar → SEnv → Prop) → Prop

def DE (K : PySem.W.Frag) (c : Fx) (te : TE) (we : WE) : Prop :=
  ∀ (σ : L2.St) (H0 H : Hp) (ρ : SEnv) (Q : VK) (G : R → SEnv → Prop), RE K c H0 H σ ρ → we ρ G →
    (∀ r ρ' v H0' H', G r ρ' → Ex H0 H0' → RE K c H0' H' σ ρ' → RR K c H0' H' σ ρ' v r → Q v H') → te σ H Q
def DD (K : PySem.W.Frag) (c : Fx) (te : TE) (wd : WD) : Prop :=
  ∀ (σ : L2.St) (H0 H : Hp) (ρ : SEnv) (Q : VK) (G : D → SEnv → Prop), RE K c H0 H σ ρ → wd ρ G →
    (∀ d ρ' v H0' H', G d ρ' → Ex H0 H0' → RE K c H0' H' σ ρ' → Rp K H0' v d → Q v H') → te σ H Q
def DT (K : PySem.W.Frag) (c : Fx) (tt : TT) (wt : WT) : Prop :=
  ∀ (σ : L2.St) (H0 H : Hp) (ρ : SEnv) (Q : Bool → Hp → Prop) (G : Bool → SEnv → Prop), RE K c H0 H σ ρ → wt ρ G →
    (∀ b ρ' H0' H', G b ρ' → Ex H0 H0' → RE K c H0' H' σ ρ' → Q b H') → tt σ H Q
/-- values for arguments -/
inductive RA (K : PySem.W.Frag) (H0 : Hp) (σ : L2.St) : List V → List Ar → Prop
  | nil : RA K H0 σ [] []
  | sl {v : V} {vs : List V} {i : Nat} {as : List Ar} : σ[i]? = some (some v) → RA K H0 σ vs as → RA K H0 σ (v :: vs) (.inl i :: as)
  | da {v : V} {vs : List V} {d : D} {as : List Ar} : Rp K H0 v d → RA K H0 σ vs as → RA K H0 σ (v :: vs) (.inr d :: as)
theorem RA.up {K : PySem.W.Frag} {H0 H0' : Hp} {σ : L2.St} (e : Ex H0 H0') : ∀ {vs : List V} {as : List Ar}, RA K H0 σ vs as → RA K H0' σ vs as
  | _, _, .nil => .nil
  | _, _, .sl h t => .sl h (t.up e)
  | _, _, .da h t => .da (h.up e) (t.up e)
def DA (K : PySem.W.Frag) (c : Fx) (ta : TA) (wa : WA) : Prop :=
  ∀ (σ : L2.St) (H0 H : Hp) (ρ : SEnv) (Q : List V → Hp → Prop) (G : List Ar → SEnv → Prop), RE K c H0 H σ ρ → wa ρ G →
    (∀ as ρ' vs H0' H', G as ρ' → Ex H0 H0' → RE K c H0' H' σ ρ' → RA K H0' σ vs as → Q vs H') → ta σ H Q

/-! the syntax with both readings -/
structure ER (X : Cx) (c : Fx) (e : Expr) (te : TE) (we : WE) : Prop where
  p : PE X e te
  d : DE X.K c te we
structure ED (X : Cx) (c : Fx) (e : Expr) (te : TE) (wd : WD) : Prop where
  p : PE X e te
  d : DD X.K c te wd
structure ET (X : Cx) (c : Fx) (e : Expr) (tt : TT) (wt : WT) : Prop where
  p : PT X e tt
  d : DT X.K c tt wt
structure EW (X : Cx) (c : Fx) (e : Expr) (tt : TT) (wt : WT) : Prop where
  p : PW X e tt
  d : DT X.K c tt wt
structure EA (X : Cx) (c : Fx) (es : List Expr) (ta : TA) (wa : WA) : Prop where
  p : PA X es ta
  d : DA X.K c ta wa

/-! ### slots read -/
def Sl.d? : Sl → Option D
  | .un => none
  | .r x => some x.d
  | .io o => some o.d
/-- what stands in slot i, as it stands -/
def peek (i : Nat) (ρ : SEnv) (k : D → Prop) : Prop :=
  match ρ[i]? with
  | some .un => False
  | some (.r x) => k x.d
  | some (.io o) => k o.d
  | none => False
def isSet (i : Nat) (ρ : SEnv) : Prop :=
  match ρ[i]? with
  | some .un => False
  | some (.r _) => True
  | some (.io _) => True
  | none => False
/-- the top may be an owned thing -/
def Rq (K : PySem.W.Frag) (H0 H : Hp) (v : V) (d : D) : Prop := Rp K H0 v d ∨ ∃ p o, v = .ref p ∧ d = o.d ∧ OkO K H0 H p o
section
variable {K : PySem.W.Frag} {c : Fx} {H H' H0 H0' : Hp} {σ : L2.St} {ρ : SEnv}
theorem peek_of {i : Nat} {k : D → Prop} (h : peek i ρ k) : ∃ s d, ρ[i]? = some s ∧ s.d? = some d ∧ k d := by
  unfold peek at h
  split at h
  · exact h.elim
  · exact ⟨_, _, by assumption, rfl, h⟩
  · exact ⟨_, _, by assumption, rfl, h⟩
  · exact h.elim
theorem RE.peek (r : RE K c H0 H σ ρ) {i : Nat} {k : D → Prop} (h : peek i ρ k) : ∃ v d, σ[i]? = some (some v) ∧ k d ∧ Rq K H0 H v d := by
  obtain ⟨s, d, h1, h2, h3⟩ := peek_of h
  cases s with
  | un => cases h2
  | r x =>
    cases x with
    | fr d' =>
      cases h2
      obtain ⟨v, q1, q2⟩ := r.fr i _ h1
      exact ⟨v, _, q1, h3, .inl q2⟩
    | ow o =>
      cases h2
      obtain ⟨p, q1, q2, q3⟩ := r.ow i _ o h1 rfl
      exact ⟨_, _, q1, h3, .inr ⟨p, o, rfl, rfl, q3⟩⟩
  | io o =>
    cases h2
    obtain ⟨p, q1, q2, q3⟩ := r.ow i _ o h1 rfl
    exact ⟨_, _, q1, h3, .inr ⟨p, o, rfl, rfl, q3⟩⟩
theorem isSet_peek {i : Nat} (h : isSet i ρ) : DL.peek i ρ fun _ => True := by
  unfold isSet at h
  unfold DL.peek
  split at h
  · exact h.elim
  · simp only [*]
  · simp only [*]
  · exact h.elim
theorem RE.isSet (r : RE K c H0 H σ ρ) {i : Nat} (h : isSet i ρ) : ∃ v, σ[i]? = some (some v) := by
  obtain ⟨v, _, h1, _⟩ := r.peek (isSet_peek h)
  exact ⟨v, h1⟩
theorem Rq.now {v : V} {d : D} (e : Ex H0 H) (h : Rq K H0 H v d) : Rp K H v d := by
  rcases h with h | ⟨p, o, rfl, rfl, h⟩
  · exact h.up e
  · exact h.frozen e rfl
theorem Rq.grow {v : V} {d : D} (h : Rq K H0 H v d) (g : Grow H0 H H0' H') : Rq K H0' H' v d := by
  rcases h with h | ⟨p, o, rfl, rfl, h⟩
  · exact .inl (h.up g.b)
  · exact .inr ⟨p, o, rfl, rfl, h.up g.b fun u hu => g.h _ _ hu⟩
/-- a list, read at the top -/
theorem Rq.lst {v : V} {ds : List D} (h : Rq K H0 H v (.lst ds)) (e : Ex H0 H) : ∃ p vs, v = .ref p ∧ H p = some (.lst vs) ∧ RpA K H0 vs ds := by
  rcases h with h | ⟨p, o, rfl, h1, h⟩
  · cases h with
    | lst h1 h2 => exact ⟨_, _, rfl, e _ _ h1, h2⟩
  · cases o with
    | lst es =>
      cases h1
      obtain ⟨vs, h2, h3⟩ := h
      exact ⟨_, _, rfl, h2, h3⟩
theorem Rq.tup {v : V} {ds : List D} (h : Rq K H0 H v (.tup ds)) (e : Ex H0 H) : ∃ p vs, v = .ref p ∧ SqT K H p vs ∧ RpA K H0 vs ds := by
  rcases h with h | ⟨p, o, rfl, h1, h⟩
  · cases h with
    | tup h1 h2 => exact ⟨_, _, rfl, ex_t e h1, h2⟩
  · cases o; cases h1
theorem Rq.int {v : V} {i : Int} (h : Rq K H0 H v (.int i)) : v = .int i := by
  rcases h with h | ⟨p, o, rfl, h1, h⟩
  · cases h; rfl
  · cases o; cases h1
theorem Rq.str {v : V} {i : Str} (h : Rq K H0 H v (.str i)) : v = .str i := by
  rcases h with h | ⟨p, o, rfl, h1, h⟩
  · cases h; rfl
  · cases o; cases h1
theorem Rq.bl {v : V} {i : Bool} (h : Rq K H0 H v (.bl i)) : v = .bl i := by
  rcases h with h | ⟨p, o, rfl, h1, h⟩
  · cases h; rfl
  · cases o; cases h1
theorem Rq.non {v : V} (h : Rq K H0 H v .non) : v = .non := by
  rcases h with h | ⟨p, o, rfl, h1, h⟩
  · cases h; rfl
  · cases o; cases h1
end

/-- a fresh result: what is owned stood nowhere -/
def FR (K : PySem.W.Frag) (Hb H0 H : Hp) : V → R → Prop
  | v, .fr d => Rp K H0 v d
  | v, .ow o => ∃ p, v = .ref p ∧ Hb p = none ∧ H0 p = none ∧ OkO K H0 H p o
theorem FR.rr {K : PySem.W.Frag} {c : Fx} {Hb H0 H Hb0 : Hp} {σ : L2.St} {ρ : SEnv} {v : V} {r : R} (h : FR K Hb H0 H v r) (re : RE K c Hb0 Hb σ ρ) : RR K c H0 H σ ρ v r := by
  cases r with
  | fr d => exact h
  | ow o =>
    obtain ⟨p, h1, h2, h3, h4⟩ := h
    exact ⟨p, h1, h3, re.he h2, h4, re.noOwn_new h2⟩
/-- a fresh list | tuple laid -/
theorem new_lst {K : PySem.W.Frag} {H0 H : Hp} {p : Addr} {vs : List V} {ds : List D} (e : Ex H0 H) (hp : H p = none) (h : RpA K H0 vs ds) :
    Grow H0 H H0 (upd H p (.lst vs)) ∧ FR K H H0 (upd H p (.lst vs)) (.ref p) (.ow (.lst ds)) :=
  ⟨⟨Ex.refl _, e.trans (Ex.new hp), Ex.new hp, fun _ _ _ h => h⟩, p, rfl, hp, fresh_back e hp, vs, upd_same, h⟩
theorem new_tup {K : PySem.W.Frag} {H0 H : Hp} {p : Addr} {vs : List V} {ds : List D} (e : Ex H0 H) (hp : H p = none) (h : RpA K H0 vs ds) :
    Grow H0 H (upd H0 p (.tup vs)) (upd H p (.tup vs)) ∧ Rp K (upd H0 p (.tup vs)) (.ref p) (.tup ds) :=
  ⟨Grow.new e hp, .tup (.inl (.inl upd_same)) (h.up (Ex.new (fresh_back e hp)))⟩

abbrev F2 := D → D → (R → Prop) → Prop
/-- what a two-place operation does, by data -/
def OD (K : PySem.W.Frag) (r : R2) (f : F2) : Prop :=
  ∀ (x y : V) (d e : D) (H0 H : Hp) (Q : VK) (G : R → Prop), Ex H0 H → Rq K H0 H x d → Rq K H0 H y e → f d e G →
    (∀ z v H0' H', G z → Grow H0 H H0' H' → FR K H H0' H' v z → Q v H') → r x y H Q
def wOp (f : F2) (wa wb : WD) : WE := fun ρ G => wa ρ fun d ρ1 => wb ρ1 fun e ρ2 => f d e fun z => G z ρ2
/-- the first a name | the second | both -/
def wOpV (f : F2) (i : Nat) (wb : WD) : WE := fun ρ G => isSet i ρ ∧ wb ρ fun e ρ2 => peek i ρ2 fun d => f d e fun z => G z ρ2
def wOpW (f : F2) (wa : WD) (j : Nat) : WE := fun ρ G => wa ρ fun d ρ1 => peek j ρ1 fun e => f d e fun z => G z ρ1
def wOpVV (f : F2) (i j : Nat) : WE := fun ρ G => peek i ρ fun d => peek j ρ fun e => f d e fun z => G z ρ
def wVar (i : Nat) : WD := fun ρ G =>
  match ρ[i]? with
  | some (.r (.fr d)) => G d ρ
  | some (.r (.ow o)) => G o.d (ρ.set i (.r (.fr o.d)))
  | some (.io _) => False
  | some .un => False
  | none => False
def wC (d : D) : WD := fun ρ G => G d ρ
def wFz (we : WE) : WD := fun ρ G => we ρ fun r ρ' => G r.d ρ'
def wR (wd : WD) : WE := fun ρ G => wd ρ fun d ρ' => G (.fr d) ρ'
/-- a name handed out for good -/
def wGive (i : Nat) : WE := fun ρ G =>
  match ρ[i]? with
  | some (.r x) => G x (ρ.set i .un)
  | some (.io _) => False
  | some .un => False
  | none => False

section
variable {K : PySem.W.Frag} {c : Fx}
theorem DE.fz {te : TE} {we : WE} (h : DE K c te we) : DD K c te (wFz we) := fun σ H0 H ρ Q G re hw k =>
  h σ H0 H ρ Q _ re hw fun r ρ' v H0' H' g e re' rr => by
    obtain ⟨H0'', e2, re2, rp⟩ := RR.fz re' rr
    exact k r.d ρ' v H0'' H' g (e.trans e2) re2 rp
theorem DD.r {te : TE} {wd : WD} (h : DD K c te wd) : DE K c te (wR wd) := fun σ H0 H ρ Q G re hw k =>
  h σ H0 H ρ Q _ re hw fun d ρ' v H0' H' g e re' rp => k (.fr d) ρ' v H0' H' g e re' rp
theorem dd_var {i : Nat} : DD K c (tVar i) (wVar i) := fun σ H0 H ρ Q G re hw k => by
  unfold wVar at hw
  split at hw
  · rename_i d hi
    obtain ⟨v, h1, h2⟩ := re.fr i d hi
    exact ⟨v, h1, k d ρ v H0 H hw (Ex.refl _) re h2⟩
  · rename_i o hi
    obtain ⟨v, H0', e, h1, re', h2⟩ := re.fzS hi
    exact ⟨v, h1, k _ _ v H0' H hw e re' h2⟩
  · exact hw.elim
  · exact hw.elim
  · exact hw.elim
theorem de_give {i : Nat} : DE K c (tVar i) (wGive i) := fun σ H0 H ρ Q G re hw k => by
  unfold wGive at hw
  split at hw
  · rename_i x hi
    cases x with
    | fr d =>
      obtain ⟨v, h1, h2⟩ := re.fr i d hi
      have re' := re.drop i
      exact ⟨v, h1, k _ _ v H0 H hw (Ex.refl _) re' h2⟩
    | ow o =>
      obtain ⟨p, h1, h2, h3⟩ := re.ow i _ o hi rfl
      have re' := re.drop i
      refine ⟨_, h1, k _ _ _ H0 H hw (Ex.refl _) re' ⟨p, rfl, h2, re.fh i o p hi h1, h3, fun j s o' e1 e2 e3 => ?_⟩⟩
      rcases set_get e1 with ⟨rfl, e4, _⟩ | ⟨ne, e4⟩
      · subst e4; cases e2
      · exact re.dj i j _ s o o' p ne hi e4 rfl e2 h1 e3
  · exact hw.elim
  · exact hw.elim
  · exact hw.elim
theorem dd_c {v : V} {d : D} (h : ∀ H, Rp K H v d) : DD K c (tC v) (wC d) := fun σ H0 H ρ Q G re hw k => k d ρ v H0 H hw (Ex.refl _) re (h _)
theorem de_op {r : R2} {f : F2} {ta tb : TE} {wa wb : WD} (hr : OD K r f) (ha : DD K c ta wa) (hb : DD K c tb wb) : DE K c (tOp r ta tb) (wOp f wa wb) := fun σ H0 H ρ Q G re hw k =>
  ha σ H0 H ρ _ _ re hw fun d ρ1 x H01 H1 g1 e1 re1 rp1 => hb σ H01 H1 ρ1 _ _ re1 g1 fun e ρ2 y H02 H2 g2 e2 re2 rp2 =>
    hr x y d e H02 H2 Q _ re2.ex (.inl (rp1.up e2)) (.inl rp2) g2 fun z v H03 H3 gz gr fr => k z ρ2 v H03 H3 gz (e1.trans (e2.trans gr.b)) (re2.grow gr) (fr.rr re2)
theorem de_opV {r : R2} {f : F2} {i : Nat} {tb : TE} {wb : WD} (hr : OD K r f) (hb : DD K c tb wb) : DE K c (tOp r (tVar i) tb) (wOpV f i wb) := fun σ H0 H ρ Q G re hw k => by
  obtain ⟨hs, hw⟩ := hw
  obtain ⟨x, hx⟩ := re.isSet hs
  refine ⟨x, hx, hb σ H0 H ρ _ _ re hw fun e ρ2 y H02 H2 g2 e2 re2 rp2 => ?_⟩
  obtain ⟨x', d, hx', hf, rq⟩ := re2.peek g2
  rw [hx] at hx'
  cases hx'
  exact hr x y d e H02 H2 Q _ re2.ex rq (.inl rp2) hf fun z v H03 H3 gz gr fr => k z ρ2 v H03 H3 gz (e2.trans gr.b) (re2.grow gr) (fr.rr re2)
theorem de_opW {r : R2} {f : F2} {j : Nat} {ta : TE} {wa : WD} (hr : OD K r f) (ha : DD K c ta wa) : DE K c (tOp r ta (tVar j)) (wOpW f wa j) := fun σ H0 H ρ Q G re hw k =>
  ha σ H0 H ρ _ _ re hw fun d ρ1 x H01 H1 g1 e1 re1 rp1 => by
    obtain ⟨y, e, hy, hf, rq⟩ := re1.peek g1
    exact ⟨y, hy, hr x y d e H01 H1 Q _ re1.ex (.inl rp1) rq hf fun z v H03 H3 gz gr fr => k z ρ1 v H03 H3 gz (e1.trans gr.b) (re1.grow gr) (fr.rr re1)⟩
theorem de_opVV {r : R2} {f : F2} {i j : Nat} (hr : OD K r f) : DE K c (tOp r (tVar i) (tVar j)) (wOpVV f i j) := fun σ H0 H ρ Q G re hw k => by
  obtain ⟨x, d, hx, hw, rx⟩ := re.peek hw
  obtain ⟨y, e, hy, hf, ry⟩ := re.peek hw
  exact ⟨x, hx, y, hy, hr x y d e H0 H Q _ re.ex rx ry hf fun z v H03 H3 gz gr fr => k z ρ v H03 H3 gz gr.b (re.grow gr) (fr.rr re)⟩
end

/-! ### the operations by data -/
def fAdd : F2 := fun d e G => match d, e with
  | .int i, .int j => G (.fr (.int (i + j)))
  | .str x, .str y => x.length + y.length ≤ sizeLine ∧ G (.fr (.str (x ++ y)))
  | .lst xs, .lst ys => xs.length + ys.length ≤ sizeLine ∧ G (.ow (.lst (xs ++ ys)))
  | _, _ => False
def rAddA : R2 := fun x y H Q => rI0 (fun i j => .int (i + j)) x y H Q ∨ (∃ i j, x = .str i ∧ y = .str j ∧ i.length + j.length ≤ sizeLine ∧ Q (.str (i ++ j)) H) ∨ rCat x y H Q
theorem op_addA {X : Cx} : OpR X (binaryOp .Add) rAddA := op_add.or (op_add_str.or op_cat)
theorem od_add {K : PySem.W.Frag} : OD K rAddA fAdd := fun x y d e H0 H Q G ex rx ry hf k => by
  unfold fAdd at hf
  split at hf
  · rw [rx.int, ry.int]
    exact .inl ⟨_, _, rfl, rfl, k _ _ H0 H hf (Grow.refl ex) (.int _)⟩
  · rw [rx.str, ry.str]
    exact .inr (.inl ⟨_, _, rfl, rfl, hf.1, k _ _ H0 H hf.2 (Grow.refl ex) (.str _)⟩)
  · obtain ⟨p, vs, rfl, h1, h2⟩ := rx.lst ex
    obtain ⟨q, us, rfl, h3, h4⟩ := ry.lst ex
    refine .inr (.inr ⟨p, q, vs, us, rfl, rfl, h1, h3, by rw [h2.length, h4.length]; exact hf.1, fun t ht => ?_⟩)
    obtain ⟨g, f⟩ := new_lst ex ht (h2.append h4)
    exact k _ _ _ _ hf.2 g f
  · exact hf.elim
/-- ints alone -/
def fI (C : Int → Int → Prop) (g : Int → Int → D) : F2 := fun d e G => match d, e with
  | .int i, .int j => C i j ∧ G (.fr (g i j))
  | _, _ => False
def fI0 (g : Int → Int → D) : F2 := fun d e G => match d, e with
  | .int i, .int j => G (.fr (g i j))
  | _, _ => False
theorem od_I {K : PySem.W.Frag} {C : Int → Int → Prop} {g : Int → Int → V} {g' : Int → Int → D} (h : ∀ H i j, Rp K H (g i j) (g' i j)) : OD K (rI C g) (fI C g') := fun x y d e H0 H Q G ex rx ry hf k => by
  unfold fI at hf
  split at hf
  · rw [rx.int, ry.int]
    exact ⟨_, _, rfl, rfl, hf.1, k _ _ H0 H hf.2 (Grow.refl ex) (h _ _ _)⟩
  · exact hf.elim
theorem od_I0 {K : PySem.W.Frag} {g : Int → Int → V} {g' : Int → Int → D} (h : ∀ H i j, Rp K H (g i j) (g' i j)) : OD K (rI0 g) (fI0 g') := fun x y d e H0 H Q G ex rx ry hf k => by
  unfold fI0 at hf
  split at hf
  · rw [rx.int, ry.int]
    exact ⟨_, _, rfl, rfl, k _ _ H0 H hf (Grow.refl ex) (h _ _ _)⟩
  · exact hf.elim
/-- a[i] -/
def fIx : F2 := fun d e G => match d, e with
  | .lst xs, .int i => match atI xs i with | some z => G (.fr z) | none => False
  | .tup xs, .int i => match atI xs i with | some z => G (.fr z) | none => False
  | .str s, .int i => s.length ≤ sizeLine ∧ match atI s.cps.toList i with | some c => G (.fr (.str ⟨#[c]⟩)) | none => False
  | _, _ => False
theorem RpA.atI {K : PySem.W.Frag} {H : Hp} {vs : List V} {ds : List D} {i : Int} {d : D} (h : RpA K H vs ds) (e : L2.atI ds i = some d) : ∃ v, L2.atI vs i = some v ∧ Rp K H v d := by
  unfold L2.atI at e ⊢
  rw [h.length]
  cases q : ixN ds.length i with
  | none => rw [q] at e; cases e
  | some j =>
    rw [q] at e
    exact h.get e
theorem od_ix {K : PySem.W.Frag} : OD K (rIx K) fIx := fun x y d e H0 H Q G ex rx ry hf k => by
  unfold fIx at hf
  split at hf
  · obtain ⟨p, vs, rfl, h1, h2⟩ := rx.lst ex
    rw [ry.int]
    split at hf
    · rename_i z hz
      obtain ⟨v, h3, h4⟩ := h2.atI hz
      exact .inl ⟨p, vs, _, v, rfl, rfl, .inl (.inl h1), h3, k _ _ H0 H hf (Grow.refl ex) h4⟩
    · exact hf.elim
  · obtain ⟨p, vs, rfl, h1, h2⟩ := rx.tup ex
    rw [ry.int]
    split at hf
    · rename_i z hz
      obtain ⟨v, h3, h4⟩ := h2.atI hz
      exact .inr (.inl ⟨p, vs, _, v, rfl, rfl, h1, h3, k _ _ H0 H hf (Grow.refl ex) h4⟩)
    · exact hf.elim
  · rw [rx.str, ry.int]
    obtain ⟨hl, hf⟩ := hf
    split at hf
    · rename_i z hz
      exact .inr (.inr ⟨_, _, z, rfl, rfl, hl, hz, k _ _ H0 H hf (Grow.refl ex) (.str _)⟩)
    · exact hf.elim
  · exact hf.elim

/-! ### data that == and in look at -/
mutual
def D.py : D → PyData
  | .non => .none | .bl b => .bool b | .int i => .int i | .str x => .str x
  | .tup xs => .tuple (D.pys xs) | .lst xs => .list (D.pys xs) | .ins _ _ _ => .none | .ro _ => .none
def D.pys : List D → List PyData
  | [] => []
  | d :: ds => d.py :: D.pys ds
end
mutual
def D.isData : D → Bool
  | .ins _ _ _ => false | .ro _ => false
  | .tup xs => D.areData xs | .lst xs => D.areData xs
  | _ => true
def D.areData : List D → Bool
  | [] => true
  | d :: ds => d.isData && D.areData ds
end
theorem D.pys_map : ∀ ds : List D, D.pys ds = ds.map D.py
  | [] => rfl
  | d :: ds => by rw [D.pys, D.pys_map ds]; rfl
section
variable {K : PySem.W.Frag} {H : Hp}
mutual
theorem Rp.dp : ∀ (d : D) (v : V), Rp K H v d → d.isData = true → Dp K H v d.py
  | .non, _, h, _ => by cases h; exact .non
  | .bl _, _, h, _ => by cases h; exact .bl _
  | .int _, _, h, _ => by cases h; exact .int _
  | .str _, _, h, _ => by cases h; exact .str _
  | .tup ds, _, h, q => by
    cases h with
    | tup h1 h2 => exact .tup h1 (RpA.dp ds _ h2 (by simpa only [D.isData] using q))
  | .lst ds, _, h, q => by
    cases h with
    | lst h1 h2 => exact .lst (.inl (.inl h1)) (RpA.dp ds _ h2 (by simpa only [D.isData] using q))
  | .ins _ _ _, _, _, q => by simp only [D.isData] at q; cases q
  | .ro _, _, _, q => by simp only [D.isData] at q; cases q
theorem RpA.dp : ∀ (ds : List D) (vs : List V), RpA K H vs ds → D.areData ds = true → DpAll K H vs (D.pys ds)
  | [], _, h, _ => by cases h; exact .nil
  | d :: ds, _, h, q => by
    simp only [D.areData, Bool.and_eq_true] at q
    cases h with
    | cons h1 h2 => exact .cons (Rp.dp d _ h1 q.1) (RpA.dp ds _ h2 q.2)
end
end
/-- plain data that == walks -/
def D.ok (d : D) : Prop := d.isData = true ∧ SeqAt.shaped d.py = true
def D.eqv (d e : D) : Bool := PyData.eqv d.py e.py
def D.isStr : D → Bool
  | .str _ => true
  | _ => false
def fEq : F2 := fun d e G => ((d.ok ∧ e.ok) ∨ (d.isStr = true ∧ e.isStr = true)) ∧ G (.fr (.bl (D.eqv d e)))
def fNe : F2 := fun d e G => ((d.ok ∧ e.ok) ∨ (d.isStr = true ∧ e.isStr = true)) ∧ G (.fr (.bl (!D.eqv d e)))
def rEqA (K : PySem.W.Frag) : R2 := fun x y H Q => rEqD K x y H Q ∨ rEq x y H Q
def rNeA (K : PySem.W.Frag) : R2 := fun x y H Q => rNeD K x y H Q ∨ rNe x y H Q
theorem op_eqA {X : Cx} (hu : X.A.units + 64 < cLine) : OpR X (compareOp .Eq) (rEqA X.K) := (op_eqD hu).or op_eq
theorem op_neA {X : Cx} (hu : X.A.units + 64 < cLine) : OpR X (compareOp .NotEq) (rNeA X.K) := (op_neD hu).or op_ne
theorem D.of_isStr {d : D} (h : d.isStr = true) : ∃ x, d = .str x := by
  cases d with
  | str x => exact ⟨x, rfl⟩
  | _ => cases h
theorem eqv_strs (x y : Str) : decide (V.str x = V.str y) = D.eqv (.str x) (.str y) := by
  rw [dec_str]
  rfl
theorem od_eq {K : PySem.W.Frag} : OD K (rEqA K) fEq := fun x y d e H0 H Q G ex rx ry hf k => by
  rcases hf.1 with ok | ⟨s1, s2⟩
  · exact .inl ⟨d.py, e.py, (rx.now ex).dp _ _ ok.1.1, (ry.now ex).dp _ _ ok.2.1, ok.1.2, ok.2.2, k _ _ H0 H hf.2 (Grow.refl ex) (.bl _)⟩
  · obtain ⟨a, rfl⟩ := D.of_isStr s1
    obtain ⟨b, rfl⟩ := D.of_isStr s2
    rw [rx.str, ry.str]
    refine .inr ⟨rfl, ?_⟩
    rw [eqv_strs]
    exact k _ _ H0 H hf.2 (Grow.refl ex) (.bl _)
theorem od_ne {K : PySem.W.Frag} : OD K (rNeA K) fNe := fun x y d e H0 H Q G ex rx ry hf k => by
  rcases hf.1 with ok | ⟨s1, s2⟩
  · exact .inl ⟨d.py, e.py, (rx.now ex).dp _ _ ok.1.1, (ry.now ex).dp _ _ ok.2.1, ok.1.2, ok.2.2, k _ _ H0 H hf.2 (Grow.refl ex) (.bl _)⟩
  · obtain ⟨a, rfl⟩ := D.of_isStr s1
    obtain ⟨b, rfl⟩ := D.of_isStr s2
    rw [rx.str, ry.str]
    refine .inr ⟨rfl, ?_⟩
    rw [eqv_strs]
    exact k _ _ H0 H hf.2 (Grow.refl ex) (.bl _)
/-- x in xs -/
def D.isIn (d : D) (xs : List D) : Bool := xs.any fun z => D.eqv z d
def fIn : F2 := fun d e G => match e with
  | .lst xs => d.ok ∧ e.ok ∧ G (.fr (.bl (d.isIn xs)))
  | .str y => match d with | .str x => G (.fr (.bl (!(Builtin.Str.occurrences y x 0 y.length 1).isEmpty))) | _ => False
  | _ => False
def fNotIn : F2 := fun d e G => match e with
  | .lst xs => d.ok ∧ e.ok ∧ G (.fr (.bl (!d.isIn xs)))
  | .str y => match d with | .str x => G (.fr (.bl (!(!(Builtin.Str.occurrences y x 0 y.length 1).isEmpty)))) | _ => False
  | _ => False
def rInA (K : PySem.W.Frag) : R2 := fun x y H Q => rInD K x y H Q ∨ ∃ i j, x = .str i ∧ y = .str j ∧ Q (.bl (!(Builtin.Str.occurrences j i 0 j.length 1).isEmpty)) H
def rNotInA (K : PySem.W.Frag) : R2 := fun x y H Q => rNotInD K x y H Q ∨ ∃ i j, x = .str i ∧ y = .str j ∧ Q (.bl (!(!(Builtin.Str.occurrences j i 0 j.length 1).isEmpty))) H
theorem op_inA {X : Cx} (hu : X.A.units + 65 < cLine) : OpR X (compareOp .In) (rInA X.K) := (op_inD hu).or op_in_str
theorem op_notInA {X : Cx} (hu : X.A.units + 65 < cLine) : OpR X (compareOp .NotIn) (rNotInA X.K) := (op_notInD hu).or op_notin_str
theorem any_pys (xs : List D) (d : D) : ((D.pys xs).any fun z => PyData.eqv z d.py) = d.isIn xs := by
  rw [D.pys_map, List.any_map]
  rfl
theorem od_in {K : PySem.W.Frag} : OD K (rInA K) fIn := fun x y d e H0 H Q G ex rx ry hf k => by
  unfold fIn at hf
  split at hf
  · rename_i xs
    have hd := (ry.now ex).dp _ _ hf.2.1.1
    have h2 := hf.2.1.2
    simp only [D.py] at hd h2
    refine .inl ⟨d.py, D.pys xs, (rx.now ex).dp _ _ hf.1.1, hd, hf.1.2, h2, ?_⟩
    rw [any_pys]
    exact k _ _ H0 H hf.2.2 (Grow.refl ex) (.bl _)
  · split at hf
    · rw [rx.str, ry.str]
      exact .inr ⟨_, _, rfl, rfl, k _ _ H0 H hf (Grow.refl ex) (.bl _)⟩
    · exact hf.elim
  · exact hf.elim
theorem od_notIn {K : PySem.W.Frag} : OD K (rNotInA K) fNotIn := fun x y d e H0 H Q G ex rx ry hf k => by
  unfold fNotIn at hf
  split at hf
  · rename_i xs
    have hd := (ry.now ex).dp _ _ hf.2.1.1
    have h2 := hf.2.1.2
    simp only [D.py] at hd h2
    refine .inl ⟨d.py, D.pys xs, (rx.now ex).dp _ _ hf.1.1, hd, hf.1.2, h2, ?_⟩
    rw [any_pys]
    exact k _ _ H0 H hf.2.2 (Grow.refl ex) (.bl _)
  · split at hf
    · rw [rx.str, ry.str]
      exact .inr ⟨_, _, rfl, rfl, k _ _ H0 H hf (Grow.refl ex) (.bl _)⟩
    · exact hf.elim
  · exact hf.elim
/-- is None, is not None -/
def D.isNon : D → Bool
  | .non => true
  | _ => false
def fIsN : F2 := fun d e G => match e with
  | .non => G (.fr (.bl d.isNon))
  | _ => False
def fNotN : F2 := fun d e G => match e with
  | .non => G (.fr (.bl (!d.isNon)))
  | _ => False
theorem Rq.isN {K : PySem.W.Frag} {H0 H : Hp} {v : V} {d : D} (h : Rq K H0 H v d) : decide (v = .non) = d.isNon := by
  rcases h with h | ⟨p, o, rfl, rfl, h⟩
  · cases h <;> first | rfl | (simp only []; rfl)
  · cases o; rfl
theorem od_isN {K : PySem.W.Frag} : OD K (fun x y H Q => y = .non ∧ Q (.bl (decide (x = .non))) H) fIsN := fun x y d e H0 H Q G ex rx ry hf k => by
  unfold fIsN at hf
  split at hf
  · refine ⟨ry.non, ?_⟩
    rw [rx.isN]
    exact k _ _ H0 H hf (Grow.refl ex) (.bl _)
  · exact hf.elim
theorem od_notN {K : PySem.W.Frag} : OD K (fun x y H Q => y = .non ∧ Q (.bl (!decide (x = .non))) H) fNotN := fun x y d e H0 H Q G ex rx ry hf k => by
  unfold fNotN at hf
  split at hf
  · refine ⟨ry.non, ?_⟩
    rw [rx.isN]
    exact k _ _ H0 H hf (Grow.refl ex) (.bl _)
  · exact hf.elim
end DL
set_option Elab.async false
set_option linter.all false
set_option maxRecDepth 100000
set_option maxHeartbeats 2000000
namespace DL
open PySem PySem.Spec PyProof.Rows L2 Evl

/-- a def's promise where no text of an object is being written -/
structure FnG (P : Program) (w : World) (K : PySem.W.Frag) (mg : Str → Option Value) (B : Heap) (k : Nat) (f : Addr) (fd : FuncData) (ps : List Str) (sp : Sp) : Prop where
  len : ∀ vs H Q E, sp vs H Q E → vs.length = ps.length
  go : ∀ (A : Around) (fr : List Env) (s : Shared) (H : Hp) (args : Args) (us : List Value) (vs : List V) (Q : VK) (E : XK), A.guards = some [] → Room k A → Env0 P w K mg B A fr s H → BindsTo s fd args (ps.zip us) → Vals vs us → sp vs H Q E →
    codeAny (model P w) A (.call (.ref f) args) (CR CX0 fr P w H s Q E) s
section
variable {P : Program} {w : World} {K : PySem.W.Frag} {mg : Str → Option Value} {B : Heap} {k j : Nat} {f : Addr} {fd : FuncData} {ps : List Str} {sp sp' : Sp}
theorem FnG.up (F : FnG P w K mg B j f fd ps sp) (h : j ≤ k) : FnG P w K mg B k f fd ps sp :=
  ⟨F.len, fun A fr s H args us vs Q E g r => F.go A fr s H args us vs Q E g (r.mono h)⟩
theorem FnG.weak (F : FnG P w K mg B k f fd ps sp) (h : ∀ vs H Q E, sp' vs H Q E → sp vs H Q E) : FnG P w K mg B k f fd ps sp' :=
  ⟨fun vs H Q E q => F.len vs H Q E (h _ _ _ _ q), fun A fr s H args us vs Q E g r e b v q => F.go A fr s H args us vs Q E g r e b v (h _ _ _ _ q)⟩
/-- nothing is asked of it -/
theorem FnG.nothing (h : ∀ vs H Q E, ¬ sp vs H Q E) : FnG P w K mg B k f fd ps sp :=
  ⟨fun vs H Q E q => (h _ _ _ _ q).elim, fun A fr s H args us vs Q E _ _ _ _ _ q => (h _ _ _ _ q).elim⟩
end
/-- a def of the text by its body -/
theorem Fun.okG {P : Program} {w : World} {K : PySem.W.Frag} {mg : Str → Option Value} {B : Heap} {x qual : Str} {st : Stmt} {f : Addr} {fd : FuncData} {N ps : List Str} {k : Nat} {sp : Sp} (F : Fun K x qual st f fd) (S : FnScope N ps (defScope st))
    (len : ∀ vs H Q E, sp vs H Q E → vs.length = ps.length)
    (hb : ∀ (cdv : Value) (A : Around) (fr : List Env) (s : Shared) (H : Hp) (vs : List V) (Q : VK) (E : XK), A.guards = some [] → Room k (A.deeper (envOfC qual (defScope st) s.heap.objs.size f cdv)) → sp vs H Q E →
      ∃ t, PSs (cxOf CX0 P w K mg B N qual (defScope st) f cdv A fr s H E).nox (defBody st) t ∧ t { nx := fun _ H' => Q .non H', rt := Q } (L2.start N vs) H) : FnG P w K mg B (k + 1) f fd ps sp := by
  obtain ⟨oc, od, kV, doc, pm, an, cdv, ct, osl, rfl, lk, hcd⟩ := F.ex
  refine ⟨len, fun A fr s H args us vs Q E hgd hr e0 hbind r hsp => ?_⟩
  have hl := len _ _ _ _ hsp
  have ks : K.In s.heap := e0.mod.kin.keeps fun b o e => (e0.bs b o e).1
  have nl : s.heap.NoLimit := e0.mod.nolimit.keeps fun b o e => (e0.bs b o e).1
  have kinds : ∀ y ∈ ps.zip us, (defScope st).names.lookup y.1 = some .local ∨ ((defScope st).names.lookup y.1 = some .cell ∧ ((cellsFrom (s.heap.objs.size + 1) (defScope st).names []).lookup y.1).isSome = true) := by
    intro y hy
    have hm := (List.of_mem_zip (a := y.1) (b := y.2) hy).1
    rcases S.par y.1 hm with q | q
    · exact Or.inl q
    · exact Or.inr ⟨q, PySem.W.cellsFrom_some _ _ _ (Or.inl q)⟩
  refine codeAny_call_function hr.depth (ks _ _ lk) rfl S.co S.gen rfl (PySem.W.codeRec_of ks hcd) (hbind _ _ _ _ ?_)
  refine wpAny_newFunctionEnv_cells S.kind kinds fun env he s1 x => ?_
  subst he
  refine ⟨nl.keeps x.toInCall.keep, codeAny_func ?_⟩
  obtain ⟨t, ht, hq⟩ := hb cdv A fr s H vs Q E hgd (hr.deeper _) hsp
  have I := inv_start (CX := CX0) (N := N) (qual := qual) (f := f) (cd := cdv) (E := E) S hr.hd e0 hl r x
  refine wpAny_mono (ht.nox.run [] s1 (L2.start N vs) H _ I hq) (fun fl s' hs => ?_) (fun e s' hs => hs)
  have fin : ∀ {τ : L2.St} {H' : Hp} {v : V} {u : Value}, Inv (cxOf CX0 P w K mg B N qual (defScope st) f cdv A fr s H E) [] τ H' s' → RelV v u → Q v H' → CE fr P w H s Q u s' := by
    intro τ H' v u J rv q
    exact ⟨v, H', J.os, J.bare, J.base, J.hok, rv, q⟩
  cases fl with
  | ret u =>
    obtain ⟨v, τ, H', J, rv, q⟩ := hs
    exact fin J rv q
  | next =>
    obtain ⟨τ, H', J, q⟩ := hs
    exact fin (v := .non) (u := .none) J rfl q
  | brk =>
    obtain ⟨_, _, _, q⟩ := hs
    exact q.elim
  | cont =>
    obtain ⟨_, _, _, q⟩ := hs
    exact q.elim
section
variable {X : Cx} {k : Nat} {f : Addr} {fd : FuncData} {ps : List Str} {sp : Sp} {x : Str} {p pos : Pos} {e : Expr} {es : List Expr} {t : TA}
theorem runG {pins : List (Addr × Obj)} {σ : L2.St} {H : Hp} {s : Shared} {Q : VK} {us : List Value} {vs : List V} (F : FnG X.prog X.w X.K X.mg X.base k f fd ps sp) (hgd : X.A.guards = some []) (hr : Room k X.A) (hb : Binds X.K fd ps []) (I : Inv X pins σ H s) (r : Vals vs us) (h : sp vs H Q E0) :
    wpAny (model X.prog X.w) X.A (call (.ref f) us) (EP X pins σ Q) X.xe s := by
  have hl : us.length = ps.length := r.length.symm.trans (F.len _ _ _ _ h)
  have b := hb s us I.kIn (by rw [List.append_nil]; exact hl)
  rw [List.append_nil] at b
  refine wpAny_call (codeAny_mono (F.go X.A X.stack s H ⟨us, []⟩ us vs Q E0 hgd hr I.env0 b r h) fun z s' hz => ?_)
  cases z with
  | error y => exact (show False from hz).elim
  | ok fl =>
    cases fl with
    | ret u => exact I.after hz
    | next => exact (show False from hz).elim
    | brk => exact (show False from hz).elim
    | cont => exact (show False from hz).elim
theorem pe_callG (F : FnG X.prog X.w X.K X.mg X.base k f fd ps sp) (hgd : X.A.guards = some []) (hr : Room k X.A) (hg : Gl X x) (hm : X.mg x = some (.ref f)) (hk : PySem.W.keepIn X.K (.ref f) = true) (hb : Binds X.K fd ps [])
    (ha : PA X (e :: es) t) (hdb : (x == ("__debug__" : Str)) = false) (he : starEach (e :: es) X.env = (false, eval e X.env) :: starEach es X.env) (hpl : (backTo pos (starEach es X.env)).any (·.1) = false) :
    PE X (.Call (.Name x p) (e :: es) [] pos) (tCall sp [] E0 t) := by
  constructor
  intro pins s σ H Q I h
  refine wpAny_Call_Name_kw (ld_glob I hg hm (PySem.W.callWith_K (h₀ := X.base) I.ok.mod.kin hk (thn (ha.run pos pins s σ H _ I h) ?_) he hpl) hdb)
  rintro us s1 ⟨vs, H1, I1, r, q⟩
  rw [List.append_nil] at q
  exact ⟨I1.kIn, runG F hgd hr hb I1 r q⟩
theorem pe_callG0 (F : FnG X.prog X.w X.K X.mg X.base k f fd ps sp) (hgd : X.A.guards = some []) (hr : Room k X.A) (hg : Gl X x) (hm : X.mg x = some (.ref f)) (hk : PySem.W.keepIn X.K (.ref f) = true) (hb : Binds X.K fd ps [])
    (hdb : (x == ("__debug__" : Str)) = false) : PE X (.Call (.Name x p) [] [] pos) (tCall sp [] E0 tNil) := by
  constructor
  intro pins s σ H Q I h
  exact wpAny_Call_Name_kw (ld_glob I hg hm (PySem.W.callWith_K0 I.kIn hk (runG (us := []) F hgd hr hb I .nil h)) hdb)
end
/-- the law's own call at the end: as the layer's law_call, over FnG -/
theorem endG {P : Program} {w : World} {K : PySem.W.Frag} {mg mb : Str → Option Value} {k : Nat} {fa a : Addr} {fd : FuncData} {x : Str} {sp : Sp} {s1 : Shared} {vs : List Value} {ns : List Int}
    (kx : K.In s1.heap) (hns : s1.heap.Ns mainGlobals mg) (hbn : s1.heap.Ns builtinsNs mb) (hbb : ∀ y : Str, y ≠ "__name__" → mb y = bootBuiltins y) (nl : s1.heap.NoLimit) (hgn : s1.gens = #[])
    (ha : s1.heap.get? a = some { cls := .type "list", data := .seq vs.toArray }) (hi : IntsAre vs ns) (hl : ns.length ≤ sizeLine) (hr : Room k callerA)
    (F : ∀ B : Heap, K.In B → B.Ns mainGlobals mg → FnG P w K mg B k fa fd [x] sp) (hbind : ∀ (s : Shared) (u : Value), BindsTo s fd ⟨[u], []⟩ [(x, u)])
    (hsp : ∀ H : Hp, Only H → SqL K H a (ns.map V.int) → sp [.ref a] H (fun v _ => v = .bl true) E0) :
    codeAny (model P w) callerA (.call (.ref fa) ⟨[.ref a], []⟩) (fun r z => r = .ok (.ret (.bool true)) ∧ OldK s1.heap z.heap ∧ z.os = s1.os ∧ AllBare z.gens) s1 := by
  have rv := vals_ints hi
  have lv := hi.length
  have main : ∀ H : Hp, Only H → SqL K H a (ns.map V.int) → HOk P w H s1.heap → (∀ b, H b ≠ none → b = a) → (H a ≠ none → K.lookup a = none) →
      codeAny (model P w) callerA (.call (.ref fa) ⟨[.ref a], []⟩) (fun r z => r = .ok (.ret (.bool true)) ∧ OldK s1.heap z.heap ∧ z.os = s1.os ∧ AllBare z.gens) s1 := by
    intro H hO hS ok onlyA kA
    have nodict : ∀ {b : Addr} {o : Obj} {es : Array DictEntry} {ep : Nat}, s1.heap.get? b = some o → o.data = .dict es ep → H b = none := by
      intro b o es ep e d
      cases q : H b with
      | none => rfl
      | some u =>
        have z : b = a := onlyA b (by simp [q])
        subst z
        rw [ha] at e
        cases e
        cases (show Data.seq vs.toArray _ = Data.dict es ep from d)
    have nsB : ∀ {b : Addr} {m : Str → Option Value}, s1.heap.Ns b m → (hidT s1.heap H).Ns b m := by
      rintro b m ⟨o, es, ep, e, d, r⟩
      exact ⟨o, es, ep, hidT_get e (nodict e d), d, r⟩
    have kB : K.In (hidT s1.heap H) := by
      intro b o e
      refine hidT_get (kx b o e) ?_
      cases q : H b with
      | none => rfl
      | some u =>
        have z : b = a := onlyA b (by simp [q])
        subst z
        rw [kA (by simp [q])] at e
        cases e
    obtain ⟨mc, l1, l2⟩ := nl
    have md : Mod K mg (hidT s1.heap H) := ⟨kB, nsB hns, ⟨mb, nsB hbn, hbb⟩, mc, nsB l1, l2⟩
    have e0 : Env0 P w K mg (hidT s1.heap H) callerA [] s1 H :=
      ⟨rfl, md, fun b o e => of_hidT e, Nat.le_of_eq (hidT_size _ _), trivial, fun b hb => (List.not_mem_nil (a := b) (show b ∈ ([] : List Addr) from hb)).elim, ok, .of_eq hgn⟩
    have run := (F _ kB (nsB hns)).go callerA [] s1 H ⟨[.ref a], []⟩ [.ref a] [.ref a] _ _ rfl hr e0 (hbind s1 (.ref a)) (.cons rfl .nil) (hsp H hO hS)
    refine codeAny_mono run ?_
    intro r z h
    cases r with
    | error y => exact (show False from h).elim
    | ok fl =>
      cases fl with
      | next => exact (show False from h).elim
      | brk => exact (show False from h).elim
      | cont => exact (show False from h).elim
      | ret u =>
        obtain ⟨v, H', os, bare, un, ok', r', q⟩ := h
        have hv : v = .bl true := q
        subst hv
        have hu : u = Value.bool true := r'
        subst hu
        refine ⟨rfl, OldK.of_keep ?_, os, bare⟩
        intro b o e
        cases q : H b with
        | none => exact un.keep b o e q (fun z => (List.not_mem_nil (a := b) (show b ∈ ([] : List Addr) from z)).elim) (by simp)
        | some u =>
          rcases hO b with y | ⟨ob, xs, y⟩
          · rw [q] at y
            cases y
          · obtain ⟨e1, _⟩ := ok b _ y
            obtain ⟨e2, _⟩ := ok' b _ (un.frzs b ob _ y)
            rw [e] at e1
            cases e1
            exact e2
  cases hk : K.lookup a with
  | some o =>
    have e := kx a o hk
    rw [ha] at e
    cases e
    refine main (fun _ => none) (fun _ => Or.inl rfl) ?_ (fun b u z => ?_) (fun b z => (z rfl).elim) (fun z => (z rfl).elim)
    · exact Or.inr ⟨_, vs.toArray, _, hk, rfl, rfl, rfl, by rw [List.size_toArray, lv]; exact hl, by simpa using rv⟩
    · cases (show (none : Option HO) = some u from z)
  | none =>
    have hs : ∀ b, (if b = a then some (HO.frz { cls := .type "list", data := .seq vs.toArray } (.lst (ns.map V.int))) else none) ≠ none → b = a := by
      intro b z
      by_cases hb : b = a
      · exact hb
      · rw [if_neg hb] at z
        exact (z rfl).elim
    refine main (fun b => if b = a then some (.frz { cls := .type "list", data := .seq vs.toArray } (.lst (ns.map V.int))) else none) (fun b => ?_) ?_ (fun b u z => ?_) hs (fun _ => hk)
    · by_cases hb : b = a
      · exact Or.inr ⟨_, _, if_pos hb⟩
      · exact Or.inl (if_neg hb)
    · exact Or.inl (Or.inr ⟨{ cls := .type "list", data := .seq vs.toArray }, if_pos rfl⟩)
    · by_cases hb : b = a
      · have y := (if_pos hb).symm.trans z
        cases y
        subst hb
        exact ⟨ha, by rw [List.length_map]; exact hl, vs, _, rv, ha⟩
      · have y := (if_neg hb).symm.trans z
        cases y
/-- what k_head leaves -/
theorem walkG {l : PySem.W.OpenLaw} {k : Nat} {q : Program} {loose : List Str} {XP : (Str → Option Value) → Heap → Prop} {YP : World → Heap → Prop} {d : DefRec} {K : Params → PySem.W.Frag} {sp : PySem.W.Frag → Sp} {x : Str}
    (hn : l.most = some 63) (hdf : d.params.defaults = []) (hr : Room k callerA) (hY : ∀ (w : World) (h : Heap), YP w h → (K w.params).In h)
    (F : ∀ (w : World) (mg : Str → Option Value) (fa : Addr) (h : Heap), (K w.params).In h → h.Ns mainGlobals mg → mg d.name = some (.ref fa) →
      ∃ fd : FuncData, (∀ (s : Shared) (u : Value), BindsTo s fd ⟨[u], []⟩ [(x, u)]) ∧ ∀ B : Heap, (K w.params).In B → B.Ns mainGlobals mg → FnG l.prog w (K w.params) mg B k fa fd [x] (sp (K w.params)))
    (hsp : ∀ (K : PySem.W.Frag) (H : Hp) (a : Addr) (ns : List Int), ns.length ≤ 63 → Only H → SqL K H a (ns.map V.int) → sp K [.ref a] H (fun v _ => v = .bl true) E0) :
    PySem.W.WalkO q loose XP YP l.row.toRowW d [] (fun f vs => PySem.call f vs) := by
  refine Att.attach_call hn hdf ?_
  intro w s0 s1 mg mb fa o pm cd doc a vs ns G Y ho hd hcd hmg hobj hints hlen hgn
  have kx := hY w _ Y
  obtain ⟨fd, hb, hF⟩ := F w mg fa _ kx G.T.g hmg
  exact endG kx G.T.g G.T.b G.T.builtins G.T.nolimit hgn hobj hints (Nat.le_trans hlen (by decide)) hr hF hb fun H hO hS => hsp _ H a ns hlen hO hS
end DL
set_option Elab.async false
set_option linter.all false
set_option maxRecDepth 100000
set_option maxHeartbeats 2000000
namespace DL
open PySem PySem.Spec PyProof.Rows L2 Evl

/-! ### a def's contract, by data -/
abbrev Sem := SEnv → (R → SEnv → Prop) → Prop
def Sl.isArg : Sl → Bool
  | .r (.fr _) => true
  | .io _ => true
  | _ => false
def ioAt (as : SEnv) (vs : List V) (a : Addr) : Prop := ∃ (i : Nat) (o : O), as[i]? = some (Sl.io o) ∧ vs[i]? = some (.ref a)
def spD (K : PySem.W.Frag) (sem : Sem) : Sp := fun vs H Q _ => ∃ (as : SEnv) (c : Fx) (H0 : Hp) (G : R → SEnv → Prop),
  c.He = H ∧ c.Hb = H0 ∧ (∀ a, c.io a ↔ ioAt as vs a) ∧ RE K c H0 H (vs.map some) as ∧ (∀ (i : Nat) (s : Sl), as[i]? = some s → s.isArg = true) ∧ sem as G ∧
  ∀ r as' v H0' H', G r as' → Ex H0 H0' → RE K c H0' H' (vs.map some) as' → RR K c H0' H' (vs.map some) as' v r → Q v H'

/-! ### arguments -/
def waNil : WA := fun ρ G => G [] ρ
def waSl (i : Nat) (wr : WA) : WA := fun ρ G => isSet i ρ ∧ wr ρ fun as ρ' => G (.inl i :: as) ρ'
def waDa (wd : WD) (wr : WA) : WA := fun ρ G => wd ρ fun d ρ1 => wr ρ1 fun as ρ' => G (.inr d :: as) ρ'
def ndA : List Ar → Bool
  | [] => true
  | .inl i :: as => (as.all fun a => match a with | .inl j => i != j | .inr _ => true) && ndA as
  | .inr _ :: as => ndA as
def toArgs : List Ar → SEnv → (SEnv → Prop) → Prop
  | [], _, k => k []
  | .inl i :: as, ρ, k => match ρ[i]? with
    | some (.r (.ow o)) => toArgs as ρ fun r => k (.io o :: r)
    | some (.io o) => toArgs as ρ fun r => k (.io o :: r)
    | some (.r (.fr _)) => False
    | some .un => False
    | none => False
  | .inr d :: as, ρ, k => toArgs as ρ fun r => k (.r (.fr d) :: r)
def putBack : List Ar → SEnv → SEnv → (SEnv → Prop) → Prop
  | [], [], ρ, k => k ρ
  | .inl i :: ads, .io o :: as, ρ, k => match ρ[i]? with
    | some s => putBack ads as (ρ.set i (s.put o)) k
    | none => False
  | .inr _ :: ads, _ :: as, ρ, k => putBack ads as ρ k
  | _, _, _, _ => False
def wCall (sem : Sem) (wa : WA) : WE := fun ρ G => wa ρ fun ads ρ1 => ndA ads = true ∧ toArgs ads ρ1 fun as => sem as fun r as' => putBack ads as' ρ1 fun ρ2 => G r ρ2

inductive TAr (ρ : SEnv) : List Ar → SEnv → Prop
  | nil : TAr ρ [] []
  | sl {i : Nat} {s : Sl} {o : O} {ads : List Ar} {as : SEnv} : ρ[i]? = some s → s.o? = some o → TAr ρ ads as → TAr ρ (.inl i :: ads) (.io o :: as)
  | da {d : D} {ads : List Ar} {as : SEnv} : TAr ρ ads as → TAr ρ (.inr d :: ads) (.r (.fr d) :: as)
theorem toArgs_of {ρ : SEnv} : ∀ {ads : List Ar} {k : SEnv → Prop}, toArgs ads ρ k → ∃ as, TAr ρ ads as ∧ k as
  | [], k, h => ⟨[], .nil, h⟩
  | .inl i :: as, k, h => by
    unfold toArgs at h
    split at h
    · obtain ⟨r, t, q⟩ := toArgs_of h
      exact ⟨_, .sl (by assumption) rfl t, q⟩
    · obtain ⟨r, t, q⟩ := toArgs_of h
      exact ⟨_, .sl (by assumption) rfl t, q⟩
    · exact h.elim
    · exact h.elim
    · exact h.elim
  | .inr d :: as, k, h => by
    obtain ⟨r, t, q⟩ := toArgs_of (show toArgs as ρ fun r => k (.r (.fr d) :: r) from h)
    exact ⟨_, .da t, q⟩
theorem TAr.len {ρ : SEnv} : ∀ {ads : List Ar} {as : SEnv}, TAr ρ ads as → ads.length = as.length
  | _, _, .nil => rfl
  | _, _, .sl _ _ t => congrArg (· + 1) t.len
  | _, _, .da t => congrArg (· + 1) t.len
theorem TAr.get {ρ : SEnv} : ∀ {ads : List Ar} {as : SEnv} {n : Nat} {s : Sl}, TAr ρ ads as → as[n]? = some s →
    (∃ i t o, ads[n]? = some (.inl i) ∧ ρ[i]? = some t ∧ t.o? = some o ∧ s = .io o) ∨ ∃ d, ads[n]? = some (.inr d) ∧ s = .r (.fr d)
  | _, _, _, _, .nil, e => by simp at e
  | _, _, 0, _, .sl h1 h2 _, e => by simp at e; subst e; exact .inl ⟨_, _, _, rfl, h1, h2, rfl⟩
  | _, _, n + 1, _, .sl _ _ t, e => t.get (n := n) (by simpa using e)
  | _, _, 0, _, .da _, e => by simp at e; subst e; exact .inr ⟨_, rfl, rfl⟩
  | _, _, n + 1, _, .da t, e => t.get (n := n) (by simpa using e)
theorem RA.len {K : PySem.W.Frag} {H0 : Hp} {σ : L2.St} : ∀ {vs : List V} {ads : List Ar}, RA K H0 σ vs ads → vs.length = ads.length
  | _, _, .nil => rfl
  | _, _, .sl _ t => congrArg (· + 1) t.len
  | _, _, .da _ t => congrArg (· + 1) t.len
theorem RA.inl {K : PySem.W.Frag} {H0 : Hp} {σ : L2.St} : ∀ {vs : List V} {ads : List Ar} {n i : Nat}, RA K H0 σ vs ads → ads[n]? = some (.inl i) → ∃ v, vs[n]? = some v ∧ σ[i]? = some (some v)
  | _, _, _, _, .nil, e => by simp at e
  | _, _, 0, _, .sl h _, e => by simp at e; subst e; exact ⟨_, rfl, h⟩
  | _, _, n + 1, _, .sl _ t, e => t.inl (n := n) (by simpa using e)
  | _, _, 0, _, .da _ _, e => by simp at e
  | _, _, n + 1, _, .da _ t, e => t.inl (n := n) (by simpa using e)
theorem RA.inr {K : PySem.W.Frag} {H0 : Hp} {σ : L2.St} : ∀ {vs : List V} {ads : List Ar} {n : Nat} {d : D}, RA K H0 σ vs ads → ads[n]? = some (.inr d) → ∃ v, vs[n]? = some v ∧ Rp K H0 v d
  | _, _, _, _, .nil, e => by simp at e
  | _, _, 0, _, .sl _ _, e => by simp at e
  | _, _, n + 1, _, .sl _ t, e => t.inr (n := n) (by simpa using e)
  | _, _, 0, _, .da h _, e => by simp at e; subst e; exact ⟨_, rfl, h⟩
  | _, _, n + 1, _, .da _ t, e => t.inr (n := n) (by simpa using e)
theorem ndA_get : ∀ {ads : List Ar} {m n i : Nat}, ndA ads = true → ads[m]? = some (.inl i) → ads[n]? = some (.inl i) → m = n
  | [], _, _, _, _, e, _ => by simp at e
  | a :: as, 0, 0, _, _, _, _ => rfl
  | .inl j :: as, 0, n + 1, i, h, e, e' => by
    simp at e; subst e
    unfold ndA at h
    rw [Bool.and_eq_true, List.all_eq_true] at h
    have hm := List.mem_of_getElem? (show as[n]? = some (Sum.inl j) by simpa using e')
    have := h.1 _ hm
    simp at this
  | .inr d :: as, 0, n + 1, i, h, e, e' => by simp at e
  | .inl j :: as, m + 1, 0, i, h, e, e' => by
    simp at e'; subst e'
    unfold ndA at h
    rw [Bool.and_eq_true, List.all_eq_true] at h
    have hm := List.mem_of_getElem? (show as[m]? = some (Sum.inl j) by simpa using e)
    have := h.1 _ hm
    simp at this
  | .inr d :: as, m + 1, 0, i, h, e, e' => by simp at e'
  | .inl j :: as, m + 1, n + 1, i, h, e, e' => by
    unfold ndA at h
    rw [Bool.and_eq_true] at h
    exact congrArg (· + 1) (ndA_get h.2 (by simpa using e) (by simpa using e'))
  | .inr d :: as, m + 1, n + 1, i, h, e, e' => congrArg (· + 1) (ndA_get (show ndA as = true from h) (by simpa using e) (by simpa using e'))
theorem putBack_of : ∀ {ads : List Ar} {as ρ : SEnv} {k : SEnv → Prop}, ndA ads = true → putBack ads as ρ k → ∃ ρ2, k ρ2 ∧ ρ2.length = ρ.length ∧
    ∀ (i : Nat) (s2 : Sl), ρ2[i]? = some s2 → (∃ (n : Nat) (s : Sl) (o : O), ads[n]? = some (.inl i) ∧ as[n]? = some (.io o) ∧ ρ[i]? = some s ∧ s2 = s.put o) ∨ ((∀ n : Nat, ads[n]? ≠ some (.inl i)) ∧ ρ[i]? = some s2)
  | [], [], ρ, k, _, h => ⟨ρ, h, rfl, fun i s2 e => .inr ⟨fun n => by simp, e⟩⟩
  | [], _ :: _, ρ, k, _, h => h.elim
  | .inl i :: ads, [], ρ, k, _, h => h.elim
  | .inl i :: ads, .un :: as, ρ, k, _, h => h.elim
  | .inl i :: ads, .r _ :: as, ρ, k, _, h => h.elim
  | .inl i :: ads, .io o :: as, ρ, k, nd, h => by
    unfold putBack at h
    have nd0 := nd
    unfold ndA at nd
    rw [Bool.and_eq_true] at nd
    split at h
    · rename_i s hs
      obtain ⟨ρ2, q, l, f⟩ := putBack_of nd.2 h
      refine ⟨ρ2, q, by rw [l, List.length_set], fun j s2 e => ?_⟩
      have hl : i < ρ.length := (List.getElem?_eq_some_iff.mp hs).1
      rcases f j s2 e with ⟨n, t, o', h1, h2, h3, h4⟩ | ⟨h1, h2⟩
      · rcases set_get h3 with ⟨rfl, _, _⟩ | ⟨ne, h3⟩
        · have := ndA_get nd0 (m := 0) (n := n + 1) (i := i) rfl (by simpa using h1)
          omega
        · exact .inl ⟨n + 1, t, o', by simpa using h1, by simpa using h2, h3, h4⟩
      · rcases set_get h2 with ⟨rfl, h3, _⟩ | ⟨ne, h3⟩
        · exact .inl ⟨0, s, o, rfl, rfl, hs, h3.symm⟩
        · refine .inr ⟨fun n => ?_, h3⟩
          cases n with
          | zero => intro z; simp at z; exact ne z
          | succ n => exact h1 n
    · exact h.elim
  | .inr d :: ads, [], ρ, k, _, h => h.elim
  | .inr d :: ads, a :: as, ρ, k, nd, h => by
    obtain ⟨ρ2, q, l, f⟩ := putBack_of (ads := ads) (as := as) nd (show putBack ads as ρ k by cases a <;> exact h)
    refine ⟨ρ2, q, l, fun j s2 e => ?_⟩
    rcases f j s2 e with ⟨n, t, o', h1, h2, h3, h4⟩ | ⟨h1, h2⟩
    · exact .inl ⟨n + 1, t, o', by simpa using h1, by simpa using h2, h3, h4⟩
    · refine .inr ⟨fun n => ?_, h2⟩
      cases n with
      | zero => simp
      | succ n => exact h1 n
theorem Sl.put_fr {s : Sl} {o : O} {d : D} (h : s.put o = .r (.fr d)) : False := by cases s <;> cases h
theorem Sl.put_get {s : Sl} {o o' : O} (h : (s.put o).o? = some o') : o = o' := by rw [Sl.put_o] at h; exact Option.some.inj h

section
variable {K : PySem.W.Frag} {c : Fx}
theorem da_nil : DA K c tNil waNil := fun σ H0 H ρ Q G re hw k => k [] ρ [] H0 H hw (Ex.refl _) re .nil
theorem da_sl {i : Nat} {tr : TA} {wr : WA} (h : DA K c tr wr) : DA K c (tCons (tVar i) tr) (waSl i wr) := fun σ H0 H ρ Q G re hw k => by
  obtain ⟨hs, hw⟩ := hw
  obtain ⟨x, hx⟩ := re.isSet hs
  exact ⟨x, hx, h σ H0 H ρ _ _ re hw fun as ρ' vs H0' H' g e re' ra => k _ ρ' _ H0' H' g e re' (.sl hx ra)⟩
theorem da_da {ta : TE} {wd : WD} {tr : TA} {wr : WA} (ha : DD K c ta wd) (h : DA K c tr wr) : DA K c (tCons ta tr) (waDa wd wr) := fun σ H0 H ρ Q G re hw k =>
  ha σ H0 H ρ _ _ re hw fun d ρ1 x H01 H1 g1 e1 re1 rp1 => h σ H01 H1 ρ1 _ _ re1 g1 fun as ρ' vs H0' H' g e re' ra => k _ ρ' _ H0' H' g (e1.trans e) re' (.da (rp1.up e) ra)
/-- the callee's place -/
def fxOf (H0 H : Hp) (vs : List V) (as : SEnv) (h : ∀ a, ioAt as vs a → ∃ u, H a = some u) : Fx where
  pa := fun n => match vs[n]? with | some (.ref p) => p | _ => 0
  He := H
  Hb := H0
  io := ioAt as vs
  ent := h
theorem de_call {sem : Sem} {ta : TA} {wa : WA} {E : XK} (ha : DA K c ta wa) : DE K c (tCall (spD K sem) [] E ta) (wCall sem wa) := fun σ H0 H ρ Q G re hw k =>
  ha σ H0 H ρ _ _ re hw fun ads ρ1 vs H01 H1 g1 e1 re1 ra => by
    obtain ⟨nd, ht⟩ := g1
    obtain ⟨as, ta, hsem⟩ := toArgs_of ht
    rw [List.append_nil]
    have hlen : vs.length = as.length := ra.len.trans ta.len
    -- what an in-out argument is
    have iom : ∀ (n : Nat) (o : O), as[n]? = some (.io o) → ∃ i s p, ads[n]? = some (.inl i) ∧ ρ1[i]? = some s ∧ s.o? = some o ∧ vs[n]? = some (.ref p) ∧ σ[i]? = some (some (.ref p)) ∧ H01 p = none ∧ OkO K H01 H1 p o := fun n o e => by
      rcases ta.get e with ⟨i, s, o', h1, h2, h3, h4⟩ | ⟨d, h1, h2⟩
      · cases h4
        obtain ⟨p, q1, q2, q3⟩ := re1.ow i s o h2 h3
        obtain ⟨v, q4, q5⟩ := ra.inl h1
        rw [q1] at q5
        cases q5
        exact ⟨i, s, p, h1, h2, h3, q4, q1, q2, q3⟩
      · cases h2
    have ent : ∀ a, ioAt as vs a → ∃ u, H1 a = some u := fun a ⟨n, o, h1, h2⟩ => by
      obtain ⟨i, s, p, q1, q2, q3, q4, q5, q6, q7⟩ := iom n o h1
      rw [h2] at q4
      cases q4
      exact q7.some
    have io0 : ∀ a, ioAt as vs a → H01 a = none := fun a ⟨n, o, h1, h2⟩ => by
      obtain ⟨i, s, p, q1, q2, q3, q4, q5, q6, q7⟩ := iom n o h1
      rw [h2] at q4
      cases q4
      exact q6
    have getv : ∀ {n : Nat} {v : V}, vs[n]? = some v → (vs.map some)[n]? = some (some v) := fun {n v} e => by rw [List.getElem?_map, e]; rfl
    have getv' : ∀ {n : Nat} {v : V}, (vs.map some)[n]? = some (some v) → vs[n]? = some v := fun {n v} e => by
      rw [List.getElem?_map] at e
      cases q : vs[n]? with
      | none => rw [q] at e; cases e
      | some w => rw [q] at e; cases e; rfl
    refine ⟨as, fxOf H01 H1 vs as ent, H01, _, rfl, rfl, fun a => Iff.rfl, ?_, fun n s e => ?_, hsem, fun r as' v H0' H' hG ex' re' rr => ?_⟩
    · refine ⟨re1.ex, fun a u h _ => h, fun a u h n => n, fun a ha => ⟨io0 a ha, ent a ha⟩, by rw [List.length_map]; exact hlen, fun n d e => ?_, fun n s o e e1 => ?_, fun n o p e e1 => ?_, fun n o e => ?_, fun m n s t o o' p ne em en es et sm sn => ?_⟩
      · rcases ta.get e with ⟨i, s, o', h1, h2, h3, h4⟩ | ⟨d', h1, h2⟩
        · cases h4
        · cases h2
          obtain ⟨v, q1, q2⟩ := ra.inr h1
          exact ⟨v, getv q1, q2⟩
      · rcases ta.get e with ⟨i, s', o', h1, h2, h3, h4⟩ | ⟨d', h1, h2⟩
        · subst h4
          cases e1
          obtain ⟨i, s, p, q1, q2, q3, q4, q5, q6, q7⟩ := iom n o e
          exact ⟨p, getv q4, q6, q7⟩
        · subst h2; cases e1
      · rcases ta.get e with ⟨i, s', o', h1, h2, h3, h4⟩ | ⟨d', h1, h2⟩
        · cases h4
        · cases h2
      · obtain ⟨i, s, p, q1, q2, q3, q4, q5, q6, q7⟩ := iom n o e
        have e2 : (fxOf H01 H1 vs as ent).pa n = p := by
          show (match vs[n]? with | some (.ref p) => p | _ => 0) = p
          rw [q4]
        rw [e2]
        exact ⟨getv q4, n, o, e, q4⟩
      · have hm : ∀ (n : Nat) (s : Sl) (o : O), as[n]? = some s → s.o? = some o → ∃ i s', ads[n]? = some (.inl i) ∧ ρ1[i]? = some s' ∧ s'.o? = some o := fun n s o e e1 => by
          rcases ta.get e with ⟨i, s', o', h1, h2, h3, h4⟩ | ⟨d', h1, h2⟩
          · subst h4; cases e1; exact ⟨i, s', h1, h2, h3⟩
          · subst h2; cases e1
        obtain ⟨i, s', h1, h2, h3⟩ := hm m s o em es
        obtain ⟨j, t', h4, h5, h6⟩ := hm n t o' en et
        obtain ⟨v1, w1, w2⟩ := ra.inl h1
        obtain ⟨v2, w3, w4⟩ := ra.inl h4
        rw [getv' sm] at w1
        rw [getv' sn] at w3
        cases w1
        cases w3
        have ij : i ≠ j := fun z => by
          subst z
          exact ne (ndA_get nd h1 h4)
        exact re1.dj i j s' t' o o' p ij h2 h5 h3 h6 w2 w4
    · rcases ta.get e with ⟨i, s', o', h1, h2, h3, h4⟩ | ⟨d', h1, h2⟩
      · subst h4; rfl
      · subst h2; rfl
    · obtain ⟨ρ2, hk, hl2, f⟩ := putBack_of nd hG
      -- what the callee may not have touched
      have keep : ∀ a u, H1 a = some u → ¬ ioAt as vs a → H' a = some u := fun a u h n => re'.fm a u h n
      have nw' : ∀ a u, H1 a = some u → H01 a = none → H0' a = none := fun a u h n => re'.nw a u h n
      have re2 : RE K c H0' H' σ ρ2 := by
        refine ⟨re'.ex, fun a u h n => ?_, fun a u h n => ?_, fun a ha => ?_, by rw [hl2]; exact re1.len, fun i d e => ?_, fun i s o e e1 => ?_, fun i o p e e1 => ?_, fun i o e => ?_, fun i j s t o o' p ne ei ej es et si sj => ?_⟩
        · refine keep a u (re1.fm a u h n) fun ⟨m, o, h1, h2⟩ => ?_
          obtain ⟨i, s, p, q1, q2, q3, q4, q5, q6, q7⟩ := iom m o h1
          rw [h2] at q4
          cases q4
          rcases re1.free q2 q3 q5 with z | z
          · rw [h] at z; cases z
          · exact n z
        · have h0 := re1.nw a u h n
          by_cases z : c.io a
          · obtain ⟨_, u', hu⟩ := re1.iz a z
            exact nw' a u' hu h0
          · exact nw' a u (re1.fm a u h z) h0
        · obtain ⟨h0, u, hu⟩ := re1.iz a ha
          refine ⟨nw' a u hu h0, ?_⟩
          by_cases z : ioAt as vs a
          · exact (re'.iz a z).2
          · exact ⟨u, keep a u hu z⟩
        · rcases f i _ e with ⟨n, s, o, h1, h2, h3, h4⟩ | ⟨h1, h2⟩
          · exact (Sl.put_fr h4.symm).elim
          · obtain ⟨v, q1, q2⟩ := re1.fr i d h2
            exact ⟨v, q1, q2.up ex'⟩
        · rcases f i _ e with ⟨n, s', o', h1, h2, h3, h4⟩ | ⟨h1, h2⟩
          · subst h4
            have := Sl.put_get e1
            subst this
            obtain ⟨p, q1, q2, q3⟩ := re'.ow n _ o' h2 rfl
            obtain ⟨v, q4, q5⟩ := ra.inl h1
            rw [getv' q1] at q4
            cases q4
            exact ⟨p, q5, q2, q3⟩
          · obtain ⟨p, q1, q2, q3⟩ := re1.ow i s o h2 e1
            obtain ⟨u, hu⟩ := q3.some
            refine ⟨p, q1, nw' p u hu q2, q3.up ex' fun w hw => keep p w hw fun ⟨m, o2, z1, z2⟩ => ?_⟩
            obtain ⟨j, s', p', w1, w2, w3, w4, w5, w6, w7⟩ := iom m o2 z1
            rw [z2] at w4
            cases w4
            have ij : i ≠ j := fun z => by
              subst z
              exact h1 m w1
            exact re1.dj i j s s' o o2 p ij h2 w2 e1 w3 q1 w5
        · rcases f i _ e with ⟨n, s', o', h1, h2, h3, h4⟩ | ⟨h1, h2⟩
          · have hs : ∃ o1, s' = .r (.ow o1) := by
              have z : as'.length = ads.length := by
                have z1 := re'.len
                rw [List.length_map] at z1
                rw [← z1]
                exact ra.len
              obtain ⟨a0, ha0⟩ : ∃ a0, as[n]? = some a0 := ⟨_, List.getElem?_eq_getElem (by
                have := (List.getElem?_eq_some_iff.mp h1).1
                rw [← ta.len]
                exact this)⟩
              rcases ta.get ha0 with ⟨i', t, o1, w1, w2, w3, w4⟩ | ⟨d', w1, w2⟩
              · rw [h1] at w1
                cases w1
                rw [h3] at w2
                cases w2
                cases s' with
                | un => cases w3
                | r x =>
                  cases x with
                  | fr d => cases w3
                  | ow o1 => exact ⟨o1, rfl⟩
                | io o1 => cases h4
              · rw [h1] at w1
                cases w1
            obtain ⟨o1, rfl⟩ := hs
            exact re1.fh i o1 p h3 e1
          · exact re1.fh i o p h2 e1
        · rcases f i _ e with ⟨n, s', o', h1, h2, h3, h4⟩ | ⟨h1, h2⟩
          · cases s' with
            | un => cases h4
            | r x => cases h4
            | io o1 => exact re1.io i o1 h3
          · exact re1.io i o h2
        · have back : ∀ (i : Nat) (s : Sl) (o : O), ρ2[i]? = some s → s.o? = some o → ∃ s' o', ρ1[i]? = some s' ∧ s'.o? = some o' := fun i s o e e1 => by
            rcases f i _ e with ⟨n, s', o', h1, h2, h3, h4⟩ | ⟨h1, h2⟩
            · obtain ⟨a0, ha0⟩ : ∃ a0, as[n]? = some a0 := ⟨_, List.getElem?_eq_getElem (by
                have := (List.getElem?_eq_some_iff.mp h1).1
                rw [← ta.len]
                exact this)⟩
              rcases ta.get ha0 with ⟨i', t, o1, w1, w2, w3, w4⟩ | ⟨d', w1, w2⟩
              · rw [h1] at w1
                cases w1
                exact ⟨t, o1, w2, w3⟩
              · rw [h1] at w1
                cases w1
            · exact ⟨s, o, h2, e1⟩
          obtain ⟨s', o1, h1, h2⟩ := back i s o ei es
          obtain ⟨t', o2, h3, h4⟩ := back j t o' ej et
          exact re1.dj i j s' t' o1 o2 p ne h1 h3 h2 h4 si sj
      refine k r ρ2 v H0' H' hk (e1.trans ex') re2 ?_
      cases r with
      | fr d => exact rr
      | ow o =>
        obtain ⟨p, rfl, h2, h3, h4, h5⟩ := rr
        have h3' : H1 p = none := h3
        refine ⟨p, rfl, h2, re1.he h3', h4, fun i s o' e e1 e2 => ?_⟩
        rcases f i _ e with ⟨n, s', o2, w1, w2, w3, w4⟩ | ⟨w1, w2⟩
        · obtain ⟨a0, ha0⟩ : ∃ a0, as[n]? = some a0 := ⟨_, List.getElem?_eq_getElem (by
            have := (List.getElem?_eq_some_iff.mp w1).1
            rw [← ta.len]
            exact this)⟩
          rcases ta.get ha0 with ⟨i', t, o1, q1, q2, q3, q4⟩ | ⟨d', q1, q2⟩
          · rw [w1] at q1
            cases q1
            exact re1.noOwn_new h3' i t o1 q2 q3 e2
          · rw [w1] at q1
            cases q1
        · exact re1.noOwn_new h3' i s o' w2 e1 e2
end

/-! ### statements -/
structure WEnds where
  nx : SEnv → Prop
  rt : R → SEnv → Prop := fun _ _ => False
  bk : SEnv → Prop := fun _ => False
  ct : SEnv → Prop := fun _ => False
abbrev WS := WEnds → SEnv → Prop
structure EndsOk (K : PySem.W.Frag) (c : Fx) (H0 : Hp) (G : WEnds) (D : L2.Ends) : Prop where
  nx : ∀ σ' ρ' H0' H', G.nx ρ' → Ex H0 H0' → RE K c H0' H' σ' ρ' → D.nx σ' H'
  bk : ∀ σ' ρ' H0' H', G.bk ρ' → Ex H0 H0' → RE K c H0' H' σ' ρ' → D.bk σ' H'
  ct : ∀ σ' ρ' H0' H', G.ct ρ' → Ex H0 H0' → RE K c H0' H' σ' ρ' → D.ct σ' H'
  rt : ∀ r ρ' σ' v H0' H', G.rt r ρ' → Ex H0 H0' → RE K c H0' H' σ' ρ' → RR K c H0' H' σ' ρ' v r → D.rt v H'
theorem EndsOk.up {K : PySem.W.Frag} {c : Fx} {H0 H0' : Hp} {G : WEnds} {D : L2.Ends} (h : EndsOk K c H0 G D) (e : Ex H0 H0') : EndsOk K c H0' G D :=
  ⟨fun σ' ρ' A B g x r => h.nx σ' ρ' A B g (e.trans x) r, fun σ' ρ' A B g x r => h.bk σ' ρ' A B g (e.trans x) r, fun σ' ρ' A B g x r => h.ct σ' ρ' A B g (e.trans x) r, fun r ρ' σ' v A B g x q w => h.rt r ρ' σ' v A B g (e.trans x) q w⟩
def DS (K : PySem.W.Frag) (c : Fx) (ts : TS) (ws : WS) : Prop :=
  ∀ (σ : L2.St) (H0 H : Hp) (ρ : SEnv) (D : L2.Ends) (G : WEnds), RE K c H0 H σ ρ → ws G ρ → EndsOk K c H0 G D → ts D σ H
structure ES (X : Cx) (c : Fx) (st : Stmt) (ts : TS) (ws : WS) : Prop where
  p : PS X st ts
  d : DS X.K c ts ws
structure ESs (X : Cx) (c : Fx) (st : List Stmt) (ts : TS) (ws : WS) : Prop where
  p : PSs X st ts
  d : DS X.K c ts ws
/-- the arguments behind a def: the in-out ones as they are now -/
def wBack : SEnv → SEnv → (SEnv → Prop) → Prop
  | [], _, k => k []
  | .io _ :: as, .io o :: ρ, k => wBack as ρ fun as' => k (.io o :: as')
  | .r x :: as, _ :: ρ, k => wBack as ρ fun as' => k (.r x :: as')
  | _, _, _ => False
theorem wBack_of : ∀ {as ρ : SEnv} {k : SEnv → Prop}, wBack as ρ k → ∃ as', k as' ∧ as'.length = as.length ∧ ∀ (i : Nat) (s : Sl), as'[i]? = some s →
    (∃ o o', as[i]? = some (.io o) ∧ ρ[i]? = some (.io o') ∧ s = .io o') ∨ ∃ x, as[i]? = some (.r x) ∧ s = .r x
  | [], ρ, k, h => ⟨[], h, rfl, fun i s e => by simp at e⟩
  | .un :: as, ρ, k, h => h.elim
  | .io _ :: as, [], k, h => h.elim
  | .io _ :: as, .un :: ρ, k, h => h.elim
  | .io _ :: as, .r _ :: ρ, k, h => h.elim
  | .r _ :: as, [], k, h => h.elim
  | .io o :: as, .io o' :: ρ, k, h => by
    obtain ⟨as', h1, h2, h3⟩ := wBack_of (show wBack as ρ fun as' => k (.io o' :: as') from h)
    refine ⟨_, h1, by simp [h2], fun i s e => ?_⟩
    cases i with
    | zero => simp at e; subst e; exact .inl ⟨o, o', rfl, rfl, rfl⟩
    | succ i => exact h3 i s (by simpa using e)
  | .r x :: as, s0 :: ρ, k, h => by
    obtain ⟨as', h1, h2, h3⟩ := wBack_of (show wBack as ρ fun as' => k (.r x :: as') by cases s0 <;> exact h)
    refine ⟨_, h1, by simp [h2], fun i s e => ?_⟩
    cases i with
    | zero => simp at e; subst e; exact .inr ⟨x, rfl, rfl⟩
    | succ i => exact h3 i s (by simpa using e)
/-- the slots at a def's entry -/
def enter (n : Nat) (as : SEnv) : SEnv := as ++ List.replicate (n - as.length) .un
def retEnds (as : SEnv) (G : R → SEnv → Prop) : WEnds where
  nx := fun ρ => wBack as ρ fun as' => G (.fr .non) as'
  rt := fun r ρ => wBack as ρ fun as' => G r as'
section
variable {P : Program} {w : World} {K : PySem.W.Frag} {mg : Str → Option Value} {base : Heap}
/-- THE RULE for a def -/
theorem fnD {x qual : Str} {st : Stmt} {f : Addr} {fd : FuncData} {N ps : List Str} {k : Nat} {sem : Sem} {ws : WS} (F : Fun K x qual st f fd) (S : FnScope N ps (defScope st))
    (der : ∀ (cdv : Value) (A : Around) (outer : List Env) (s : Shared) (H : Hp) (E : XK) (c : Fx), A.guards = some [] → Room k (A.deeper (envOfC qual (defScope st) s.heap.objs.size f cdv)) →
      ∃ ts, ESs (cxOf CX0 P w K mg base N qual (defScope st) f cdv A outer s H E).nox c (defBody st) ts ws)
    (rd : ∀ as G, sem as G → as.length = ps.length ∧ ws (retEnds as G) (enter N.length as)) : FnG P w K mg base (k + 1) f fd ps (spD K sem) := by
  have hN : ps.length ≤ N.length := by
    have h := congrArg List.length S.pre
    rw [List.length_take] at h
    omega
  refine Fun.okG F S (fun vs H Q E h => ?_) (fun cdv A outer s H vs Q E hgd hr h => ?_)
  · obtain ⟨as, c, H0, G, h1, h2, h3, h4, h5, h6, h7⟩ := h
    have z := h4.len
    rw [List.length_map] at z
    exact z.trans (rd as G h6).1
  · obtain ⟨as, c, H0, G, h1, h2, h3, h4, h5, h6, h7⟩ := h
    obtain ⟨ts, d⟩ := der cdv A outer s H E c hgd hr
    refine ⟨ts, d.p, ?_⟩
    obtain ⟨hl, hw⟩ := rd as G h6
    have hvl : vs.length = as.length := by
      have z := h4.len
      rw [List.length_map] at z
      exact z
    have app : ∀ {α : Type} {l m : List α} {i : Nat} {a : α}, (l ++ m)[i]? = some a → l[i]? = some a ∨ (l.length ≤ i ∧ m[i - l.length]? = some a) := fun {α l m i a} e => by
      by_cases z : i < l.length
      · rw [List.getElem?_append_left z] at e
        exact .inl e
      · rw [List.getElem?_append_right (by omega)] at e
        exact .inr ⟨by omega, e⟩
    have ent : ∀ {i : Nat} {s : Sl}, (enter N.length as)[i]? = some s → as[i]? = some s ∨ s = .un := fun {i s} e => by
      unfold enter at e
      rcases app e with e | ⟨_, e⟩
      · exact .inl e
      · have := List.mem_of_getElem? e
        exact .inr (List.eq_of_mem_replicate this)
    have stl : ∀ {i : Nat} {v : V}, (vs.map some)[i]? = some (some v) → (L2.start N vs)[i]? = some (some v) := fun {i v} e => by
      unfold L2.start
      rw [List.getElem?_append_left (List.getElem?_eq_some_iff.mp e).1]
      exact e
    have stl' : ∀ {i : Nat} {s : Sl} {v : V}, as[i]? = some s → (L2.start N vs)[i]? = some (some v) → (vs.map some)[i]? = some (some v) := fun {i s v} e e1 => by
      unfold L2.start at e1
      have hi : i < as.length := (List.getElem?_eq_some_iff.mp e).1
      rw [List.getElem?_append_left (by rw [List.length_map, hvl]; exact hi)] at e1
      exact e1
    have re : RE K c H0 H (L2.start N vs) (enter N.length as) := by
      refine ⟨h4.ex, h4.fm, h4.nw, h4.iz, ?_, fun i d e => ?_, fun i s o e e1 => ?_, fun i o p e e1 => ?_, fun i o e => ?_, fun i j s t o o' p ne ei ej es et si sj => ?_⟩
      · unfold L2.start enter
        rw [List.length_append, List.length_append, List.length_map, List.length_replicate, List.length_replicate, hvl]
      · rcases ent e with e | e
        · obtain ⟨v, q1, q2⟩ := h4.fr i d e
          exact ⟨v, stl q1, q2⟩
        · cases e
      · rcases ent e with e | e
        · obtain ⟨p, q1, q2⟩ := h4.ow i s o e e1
          exact ⟨p, stl q1, q2⟩
        · subst e; cases e1
      · rcases ent e with e | e
        · have := h5 i _ e
          cases this
        · cases e
      · rcases ent e with e | e
        · obtain ⟨q1, q2⟩ := h4.io i o e
          exact ⟨stl q1, q2⟩
        · cases e
      · rcases ent ei with ei | ei
        · rcases ent ej with ej | ej
          · exact h4.dj i j s t o o' p ne ei ej es et (stl' ei si) (stl' ej sj)
          · subst ej; cases et
        · subst ei; cases es
    -- behind the body
    have fin : ∀ (r : R) (ρ' : SEnv) (σ' : L2.St) (v : V) (H0' H' : Hp), wBack as ρ' (fun as' => G r as') → Ex H0 H0' → RE K c H0' H' σ' ρ' → RR K c H0' H' σ' ρ' v r → Q v H' := fun r ρ' σ' v H0' H' hb ex' re' rr => by
      obtain ⟨as', g, l, f⟩ := wBack_of hb
      have ioc : ∀ {i : Nat} {o o' : O}, as[i]? = some (.io o) → ρ'[i]? = some (.io o') → (vs.map some)[i]? = some (some (.ref (c.pa i))) ∧ σ'[i]? = some (some (.ref (c.pa i))) := fun {i o o'} e e1 => ⟨(h4.io i o e).1, (re'.io i o' e1).1⟩
      have re2 : RE K c H0' H' (vs.map some) as' := by
        refine ⟨re'.ex, re'.fm, re'.nw, re'.iz, by rw [l]; exact h4.len, fun i d e => ?_, fun i s o e e1 => ?_, fun i o p e e1 => ?_, fun i o e => ?_, fun i j s t o o' p ne ei ej es et si sj => ?_⟩
        · rcases f i _ e with ⟨o, o', q1, q2, q3⟩ | ⟨y, q1, q2⟩
          · cases q3
          · cases q2
            obtain ⟨v, w1, w2⟩ := h4.fr i d q1
            exact ⟨v, w1, w2.up ex'⟩
        · rcases f i _ e with ⟨o1, o', q1, q2, q3⟩ | ⟨y, q1, q2⟩
          · subst q3
            cases e1
            obtain ⟨p, w1, w2, w3⟩ := re'.ow i _ o q2 rfl
            obtain ⟨z1, z2⟩ := ioc q1 q2
            rw [z2] at w1
            cases w1
            exact ⟨_, z1, w2, w3⟩
          · subst q2
            have := h5 i _ q1
            cases y with
            | fr d => cases e1
            | ow o => cases this
        · rcases f i _ e with ⟨o1, o', q1, q2, q3⟩ | ⟨y, q1, q2⟩
          · cases q3
          · cases q2
            have := h5 i _ q1
            cases this
        · rcases f i _ e with ⟨o1, o', q1, q2, q3⟩ | ⟨y, q1, q2⟩
          · exact h4.io i o1 q1
          · cases q2
        · have old : ∀ (i : Nat) (s : Sl) (o : O), as'[i]? = some s → s.o? = some o → ∃ s' o', as[i]? = some s' ∧ s'.o? = some o' := fun i s o e e1 => by
            rcases f i _ e with ⟨o1, o', q1, q2, q3⟩ | ⟨y, q1, q2⟩
            · exact ⟨_, o1, q1, rfl⟩
            · subst q2
              exact ⟨_, o, q1, e1⟩
          obtain ⟨s', o1, w1, w2⟩ := old i s o ei es
          obtain ⟨t', o2, w3, w4⟩ := old j t o' ej et
          exact h4.dj i j s' t' o1 o2 p ne w1 w3 w2 w4 si sj
      refine h7 r as' v H0' H' g ex' re2 ?_
      cases r with
      | fr d => exact rr
      | ow o =>
        obtain ⟨p, e1, e2, e3, e4, e5⟩ := rr
        refine ⟨p, e1, e2, e3, e4, fun i s o' q1 q2 q3 => ?_⟩
        rcases f i _ q1 with ⟨o1, o2, w1, w2, w3⟩ | ⟨y, w1, w2⟩
        · obtain ⟨z1, z2⟩ := ioc w1 w2
          rw [z1] at q3
          cases q3
          exact e5 i _ o2 w2 rfl z2
        · subst w2
          have := h5 i _ w1
          cases y with
          | fr d => cases q2
          | ow o => cases this
    exact d.d (L2.start N vs) H0 H (enter N.length as) _ (retEnds as G) re hw
      ⟨fun σ' ρ' H0' H' g e r => fin (.fr .non) ρ' σ' .non H0' H' g e r .non, fun _ _ _ _ g => g.elim, fun _ _ _ _ g => g.elim, fun r ρ' σ' v H0' H' g e q z => fin r ρ' σ' v H0' H' g e q z⟩
end
end DL
set_option Elab.async false
set_option linter.all false
set_option maxRecDepth 100000
set_option maxHeartbeats 2000000
namespace DL
open PySem PySem.Spec PyProof.Rows L2 Evl

/-! ### expressions: the rules by syntax -/
section
variable {X : Cx} {c : Fx} {a b e e3 : Expr} {es : List Expr} {ta tb te t3 : TE} {wa wb wd w3 : WD} {we wf : WE} {pos p : Pos} {tt tu : TT} {wt wu : WT} {tl : TA} {wl : WA}
theorem ER.z (h : ER X c e te we) : ED X c e te (wFz we) := ⟨h.p, h.d.fz⟩
theorem ED.r (h : ED X c e te wd) : ER X c e te (wR wd) := ⟨h.p, h.d.r⟩
theorem ed_var {i : Nat} (h : PE X e (tVar i)) : ED X c e (tVar i) (wVar i) := ⟨h, dd_var⟩
theorem er_give {i : Nat} (h : PE X e (tVar i)) : ER X c e (tVar i) (wGive i) := ⟨h, de_give⟩
theorem ed_int {i j pos} : ED X c (.Constant (.int i) j pos) (tC (.int i)) (wC (.int i)) := ⟨pe_int, dd_c fun _ => .int _⟩
theorem ed_bl {b j pos} : ED X c (.Constant (.bool b) j pos) (tC (.bl b)) (wC (.bl b)) := ⟨pe_bl, dd_c fun _ => .bl _⟩
theorem ed_non {j pos} : ED X c (.Constant .none j pos) (tC .non) (wC .non) := ⟨pe_non, dd_c fun _ => .non⟩
theorem ed_str {x j pos} : ED X c (.Constant (.str x) j pos) (tC (.str x)) (wC (.str x)) := ⟨pe_str, dd_c fun _ => .str _⟩
section
variable {op : Operator} {r : R2} {f : F2} {i j : Nat}
theorem er_op (ho : OpR X (binaryOp op) r) (hr : OD X.K r f) (ha : ED X c a ta wa) (hb : ED X c b tb wb) : ER X c (.BinOp a op b pos) (tOp r ta tb) (wOp f wa wb) := ⟨pe_op ho ha.p hb.p, de_op hr ha.d hb.d⟩
theorem er_opV (ho : OpR X (binaryOp op) r) (hr : OD X.K r f) (ha : PE X a (tVar i)) (hb : ED X c b tb wb) : ER X c (.BinOp a op b pos) (tOp r (tVar i) tb) (wOpV f i wb) := ⟨pe_op ho ha hb.p, de_opV hr hb.d⟩
theorem er_opW (ho : OpR X (binaryOp op) r) (hr : OD X.K r f) (ha : ED X c a ta wa) (hb : PE X b (tVar j)) : ER X c (.BinOp a op b pos) (tOp r ta (tVar j)) (wOpW f wa j) := ⟨pe_op ho ha.p hb, de_opW hr ha.d⟩
theorem er_opVV (ho : OpR X (binaryOp op) r) (hr : OD X.K r f) (ha : PE X a (tVar i)) (hb : PE X b (tVar j)) : ER X c (.BinOp a op b pos) (tOp r (tVar i) (tVar j)) (wOpVV f i j) := ⟨pe_op ho ha hb, de_opVV hr⟩
end
section
variable {op op' : CmpOp} {r r' : R2} {f f' : F2} {i j : Nat}
theorem er_cmp (ho : OpR X (compareOp op) r) (hr : OD X.K r f) (ha : ED X c a ta wa) (hb : ED X c b tb wb) (hm : behindInMarks op b = false := by first | exact nomark _ | rfl) : ER X c (.Compare a [op] [b] pos) (tOp r ta tb) (wOp f wa wb) := ⟨pe_cmpR ho ha.p hb.p hm, de_op hr ha.d hb.d⟩
theorem er_cmpV (ho : OpR X (compareOp op) r) (hr : OD X.K r f) (ha : PE X a (tVar i)) (hb : ED X c b tb wb) (hm : behindInMarks op b = false := by first | exact nomark _ | rfl) : ER X c (.Compare a [op] [b] pos) (tOp r (tVar i) tb) (wOpV f i wb) := ⟨pe_cmpR ho ha hb.p hm, de_opV hr hb.d⟩
theorem er_cmpW (ho : OpR X (compareOp op) r) (hr : OD X.K r f) (ha : ED X c a ta wa) (hb : PE X b (tVar j)) (hm : behindInMarks op b = false := by first | exact nomark _ | rfl) : ER X c (.Compare a [op] [b] pos) (tOp r ta (tVar j)) (wOpW f wa j) := ⟨pe_cmpR ho ha.p hb hm, de_opW hr ha.d⟩
theorem er_cmpVV (ho : OpR X (compareOp op) r) (hr : OD X.K r f) (ha : PE X a (tVar i)) (hb : PE X b (tVar j)) (hm : behindInMarks op b = false := by first | exact nomark _ | rfl) : ER X c (.Compare a [op] [b] pos) (tOp r (tVar i) (tVar j)) (wOpVV f i j) := ⟨pe_cmpR ho ha hb hm, de_opVV hr⟩
end
/-- tests: a comparison -/
def onB (z : D) (k : Bool → Prop) : Prop := match z with
  | .bl b => k b
  | _ => False
theorem onB_of {z : D} {k : Bool → Prop} (h : onB z k) : ∃ b, z = .bl b ∧ k b := by
  cases z <;> first | exact ⟨_, rfl, h⟩ | exact h.elim
def wTb (we : WE) : WT := fun ρ G => we ρ fun z ρ' => onB z.d fun b => G b ρ'
theorem dt_test (h : DE X.K c te we) : DT X.K c (tTest te) (wTb we) := fun σ H0 H ρ Q G re hw k => h σ H0 H ρ _ _ re hw fun z ρ' v H0' H' g e re' rr => by
  obtain ⟨b, eb, hb⟩ := onB_of g
  obtain ⟨H0'', e2, re2, rp⟩ := RR.fz re' rr
  rw [eb] at rp
  cases rp
  exact ⟨b, rfl, k b ρ' H0'' H' hb (e.trans e2) re2⟩
section
variable {op : CmpOp} {r : R2} {f : F2} {i j : Nat}
theorem et_cmp (ho : OpR X (compareOp op) r) (hr : OD X.K r f) (ha : ED X c a ta wa) (hb : ED X c b tb wb) (hm : behindInMarks op b = false := by first | exact nomark _ | rfl) : ET X c (.Compare a [op] [b] pos) (tTest (tOp r ta tb)) (wTb (wOp f wa wb)) := ⟨pt_cmpR ho ha.p hb.p hm, dt_test (de_op hr ha.d hb.d)⟩
theorem et_cmpV (ho : OpR X (compareOp op) r) (hr : OD X.K r f) (ha : PE X a (tVar i)) (hb : ED X c b tb wb) (hm : behindInMarks op b = false := by first | exact nomark _ | rfl) : ET X c (.Compare a [op] [b] pos) (tTest (tOp r (tVar i) tb)) (wTb (wOpV f i wb)) := ⟨pt_cmpR ho ha hb.p hm, dt_test (de_opV hr hb.d)⟩
theorem et_cmpW (ho : OpR X (compareOp op) r) (hr : OD X.K r f) (ha : ED X c a ta wa) (hb : PE X b (tVar j)) (hm : behindInMarks op b = false := by first | exact nomark _ | rfl) : ET X c (.Compare a [op] [b] pos) (tTest (tOp r ta (tVar j))) (wTb (wOpW f wa j)) := ⟨pt_cmpR ho ha.p hb hm, dt_test (de_opW hr ha.d)⟩
theorem et_cmpVV (ho : OpR X (compareOp op) r) (hr : OD X.K r f) (ha : PE X a (tVar i)) (hb : PE X b (tVar j)) (hm : behindInMarks op b = false := by first | exact nomark _ | rfl) : ET X c (.Compare a [op] [b] pos) (tTest (tOp r (tVar i) (tVar j))) (wTb (wOpVV f i j)) := ⟨pt_cmpR ho ha hb hm, dt_test (de_opVV hr)⟩
end
/-- truth of a value -/
def D.truth : D → Option Bool
  | .non => some false
  | .bl b => some b
  | .int i => some (i != 0)
  | .str x => if x.length ≤ sizeLine then some ((x.length : Int) != 0) else none
  | .lst xs => some (!xs.isEmpty)
  | .tup xs => some (!xs.isEmpty)
  | .ins _ _ _ => none
  | .ro _ => none
def onT (z : D) (k : Bool → Prop) : Prop := match z.truth with
  | some b => k b
  | none => False
theorem RpA.isEmpty {K : PySem.W.Frag} {H : Hp} {vs : List V} {ds : List D} (h : RpA K H vs ds) : vs.isEmpty = ds.isEmpty := by
  cases h <;> rfl
theorem Rq.truth {K : PySem.W.Frag} {H0 H : Hp} {v : V} {z : D} {k : Bool → Prop} (ex : Ex H0 H) (rp : Rq K H0 H v z) (g : onT z k) : ∃ b, TruV K v H b ∧ k b := by
  unfold onT at g
  split at g
  · rename_i b hb
    refine ⟨b, ?_, g⟩
    cases z with
    | non => rw [rp.non]; simp only [D.truth, Option.some.injEq] at hb; exact hb.symm
    | bl k => rw [rp.bl]; simp only [D.truth, Option.some.injEq] at hb; exact hb.symm
    | int i => rw [rp.int]; simp only [D.truth, Option.some.injEq] at hb; exact hb.symm
    | str x =>
      rw [rp.str]
      simp only [D.truth] at hb
      split at hb
      · rename_i hl
        exact ⟨hl, (Option.some.inj hb).symm⟩
      · cases hb
    | lst xs =>
      obtain ⟨p, vs, rfl, h1, h2⟩ := rp.lst ex
      simp only [D.truth, Option.some.injEq] at hb
      exact .inl ⟨vs, .inl (.inl h1), by rw [h2.isEmpty]; exact hb.symm⟩
    | tup xs =>
      obtain ⟨p, vs, rfl, h1, h2⟩ := rp.tup ex
      simp only [D.truth, Option.some.injEq] at hb
      exact .inr (.inl ⟨vs, h1, by rw [h2.isEmpty]; exact hb.symm⟩)
    | ins C ns xs => cases hb
    | ro xs => cases hb
  · exact g.elim
def wTt (wd : WD) : WT := fun ρ G => wd ρ fun z ρ' => onT z fun b => G b ρ'
def wTtV (i : Nat) : WT := fun ρ G => peek i ρ fun z => onT z fun b => G b ρ
def tTru (K : PySem.W.Frag) (ta : TE) : TT := fun σ H Q => ta σ H fun x H' => ∃ k, TruV K x H' k ∧ Q k H'
theorem et_truth (ha : ED X c a ta wa) (he : ∀ whole, isTrue a X.env whole = (do let v ← whole; standAt a.pos; holding [v] (truthy v)) := by intro _; rfl) : ET X c a (tTru X.K ta) (wTt wa) :=
  ⟨pt_truth ha.p he, fun σ H0 H ρ Q G re hw k => ha.d σ H0 H ρ _ _ re hw fun z ρ' v H0' H' g e re' rp => by
    obtain ⟨b, h1, h2⟩ := Rq.truth (K := X.K) re'.ex (.inl rp) g
    exact ⟨b, h1, k b ρ' H0' H' h2 e re'⟩⟩
theorem et_truthV {i : Nat} (ha : PE X a (tVar i)) (he : ∀ whole, isTrue a X.env whole = (do let v ← whole; standAt a.pos; holding [v] (truthy v)) := by intro _; rfl) : ET X c a (tTru X.K (tVar i)) (wTtV i) :=
  ⟨pt_truth ha he, fun σ H0 H ρ Q G re hw k => by
    obtain ⟨v, d, h1, h2, h3⟩ := re.peek hw
    obtain ⟨b, h4, h5⟩ := Rq.truth re.ex h3 h2
    exact ⟨v, h1, b, h4, k b ρ H0 H h5 (Ex.refl _) re⟩⟩
/-- a value that is True or False, as a test: comparisons, chains, .. -/
def wAndT (w1 w2 : WT) : WT := fun ρ G => w1 ρ fun b ρ1 => if b = true then w2 ρ1 G else G false ρ1
def wOrT (w1 w2 : WT) : WT := fun ρ G => w1 ρ fun b ρ1 => if b = true then G true ρ1 else w2 ρ1 G
def wNotT (w1 : WT) : WT := fun ρ G => w1 ρ fun b ρ1 => G (!b) ρ1
theorem EW.t (h : EW X c e tt wt) : ET X c e tt wt := ⟨h.p.pt, h.d⟩
theorem ew_and1 (h : ET X c a tt wt) : EW X c (.BoolOp .And [a] pos) tt wt := ⟨pw_and1 h.p, h.d⟩
theorem ew_or1 (h : ET X c a tt wt) : EW X c (.BoolOp .Or [a] pos) tt wt := ⟨pw_or1 h.p, h.d⟩
theorem dt_and {K : PySem.W.Frag} (h1 : DT K c tt wt) (h2 : DT K c tu wu) : DT K c (tAnd tt tu) (wAndT wt wu) := fun σ H0 H ρ Q G re hw k => h1 σ H0 H ρ _ _ re hw fun b ρ1 A B g e re1 => by
  cases b with
  | true =>
    show tu σ B Q
    exact h2 σ A B ρ1 Q G re1 g fun b' ρ2 A' B' g' e' re2 => k b' ρ2 A' B' g' (e.trans e') re2
  | false =>
    show Q false B
    exact k false ρ1 A B g e re1
theorem dt_or {K : PySem.W.Frag} (h1 : DT K c tt wt) (h2 : DT K c tu wu) : DT K c (tOr tt tu) (wOrT wt wu) := fun σ H0 H ρ Q G re hw k => h1 σ H0 H ρ _ _ re hw fun b ρ1 A B g e re1 => by
  cases b with
  | false =>
    show tu σ B Q
    exact h2 σ A B ρ1 Q G re1 g fun b' ρ2 A' B' g' e' re2 => k b' ρ2 A' B' g' (e.trans e') re2
  | true =>
    show Q true B
    exact k true ρ1 A B g e re1
theorem ew_and {rest : List Expr} (h1 : ET X c a tt wt) (h2 : EW X c (.BoolOp .And (b :: rest) pos) tu wu) : EW X c (.BoolOp .And (a :: b :: rest) pos) (tAnd tt tu) (wAndT wt wu) := ⟨pw_and h1.p h2.p, dt_and h1.d h2.d⟩
theorem ew_or {rest : List Expr} (h1 : ET X c a tt wt) (h2 : EW X c (.BoolOp .Or (b :: rest) pos) tu wu) : EW X c (.BoolOp .Or (a :: b :: rest) pos) (tOr tt tu) (wOrT wt wu) := ⟨pw_or h1.p h2.p, dt_or h1.d h2.d⟩
theorem et_not (h : ET X c a tt wt) : ET X c (.UnaryOp .Not a pos) (tNot tt) (wNotT wt) := ⟨pt_not h.p, fun σ H0 H ρ Q G re hw k => h.d σ H0 H ρ _ _ re hw fun b ρ1 A B g e re1 => k _ ρ1 A B g e re1⟩
/-- and, or, not as values (all but the last True or False) -/
def wAndV (wa : WD) (wf : WE) : WE := fun ρ G => wa ρ fun z ρ1 => onB z fun b => if b = true then wf ρ1 G else G (.fr (.bl false)) ρ1
def wOrV (wa : WD) (wf : WE) : WE := fun ρ G => wa ρ fun z ρ1 => onB z fun b => if b = true then G (.fr (.bl true)) ρ1 else wf ρ1 G
def wNotV (wa : WD) : WD := fun ρ G => wa ρ fun z ρ1 => onB z fun b => G (.bl (!b)) ρ1
theorem er_one {op} (h : ER X c a te we) : ER X c (.BoolOp op [a] pos) te we := ⟨pe_one h.p, h.d⟩
theorem er_and {rest : List Expr} (ha : ED X c a ta wa) (hb : ER X c (.BoolOp .And (b :: rest) pos) tb wf) : ER X c (.BoolOp .And (a :: b :: rest) pos) (tAndV ta tb) (wAndV wa wf) :=
  ⟨pe_and ha.p hb.p, fun σ H0 H ρ Q G re hw k => ha.d σ H0 H ρ _ _ re hw fun z ρ1 v A B g e re1 rp => by
    obtain ⟨b, rfl, hb'⟩ := onB_of g
    cases rp
    refine ⟨b, rfl, ?_⟩
    cases b with
    | true =>
      show tb σ B Q
      exact hb.d σ A B ρ1 Q G re1 hb' fun r ρ2 v A' B' g' e' re2 rr => k r ρ2 v A' B' g' (e.trans e') re2 rr
    | false =>
      show Q (.bl false) B
      exact k _ ρ1 _ A B hb' e re1 (.bl _)⟩
theorem er_or {rest : List Expr} (ha : ED X c a ta wa) (hb : ER X c (.BoolOp .Or (b :: rest) pos) tb wf) : ER X c (.BoolOp .Or (a :: b :: rest) pos) (tOrV ta tb) (wOrV wa wf) :=
  ⟨pe_or ha.p hb.p, fun σ H0 H ρ Q G re hw k => ha.d σ H0 H ρ _ _ re hw fun z ρ1 v A B g e re1 rp => by
    obtain ⟨b, rfl, hb'⟩ := onB_of g
    cases rp
    refine ⟨b, rfl, ?_⟩
    cases b with
    | false =>
      show tb σ B Q
      exact hb.d σ A B ρ1 Q G re1 hb' fun r ρ2 v A' B' g' e' re2 rr => k r ρ2 v A' B' g' (e.trans e') re2 rr
    | true =>
      show Q (.bl true) B
      exact k _ ρ1 _ A B hb' e re1 (.bl _)⟩
theorem ed_not (ha : ED X c a ta wa) : ED X c (.UnaryOp .Not a pos) (tNotV ta) (wNotV wa) :=
  ⟨pe_not ha.p, fun σ H0 H ρ Q G re hw k => ha.d σ H0 H ρ _ _ re hw fun z ρ1 v A B g e re1 rp => by
    obtain ⟨b, rfl, hb'⟩ := onB_of g
    cases rp
    exact ⟨b, rfl, k _ ρ1 _ A B hb' e re1 (.bl _)⟩⟩
/-- a if t else b -/
def wIf (wt : WT) (we wf : WE) : WE := fun ρ G => wt ρ fun b ρ1 => if b = true then we ρ1 G else wf ρ1 G
theorem er_if {x : Expr} (hc : ET X c x tt wt) (ha : ER X c a ta we) (hb : ER X c b tb wf) : ER X c (.IfExp x a b pos) (tIf tt ta tb) (wIf wt we wf) :=
  ⟨pe_ifExp hc.p ha.p hb.p, fun σ H0 H ρ Q G re hw k => hc.d σ H0 H ρ _ _ re hw fun b ρ1 A B g e re1 => by
    cases b with
    | true =>
      show ta σ B Q
      exact ha.d σ A B ρ1 Q G re1 g fun r ρ2 v A' B' g' e' re2 rr => k r ρ2 v A' B' g' (e.trans e') re2 rr
    | false =>
      show tb σ B Q
      exact hb.d σ A B ρ1 Q G re1 g fun r ρ2 v A' B' g' e' re2 rr => k r ρ2 v A' B' g' (e.trans e') re2 rr⟩
/-- a op1 b op2 c -/
def wChain (f f' : F2) (wa wb w3 : WD) : WE := fun ρ G => wa ρ fun d ρ1 => wb ρ1 fun e ρ2 => f d e fun z => onB z.d fun k => if k = true then w3 ρ2 fun g ρ3 => f' e g fun z' => G z' ρ3 else G (.fr (.bl false)) ρ2
theorem FR.bl {K : PySem.W.Frag} {Hb H0 H : Hp} {v : V} {z : R} {b : Bool} (h : FR K Hb H0 H v z) (e : z.d = .bl b) : v = .bl b := by
  cases z with
  | fr d =>
    cases (show d = .bl b from e)
    cases (show Rp K H0 v (.bl b) from h)
    rfl
  | ow o => cases o; cases e
theorem er_chain {op op' : CmpOp} {r r' : R2} {f f' : F2} (ho : OpR X (compareOp op) r) (ho' : OpR X (compareOp op') r') (hr : OD X.K r f) (hr' : OD X.K r' f') (ha : ED X c a ta wa) (hb : ED X c b tb wb) (h3 : ED X c e3 t3 w3)
    (hm : lastMarks [op, op'] [b, e3] = false := by with_unfolding_all rfl) : ER X c (.Compare a [op, op'] [b, e3] pos) (tChain r r' ta tb t3) (wChain f f' wa wb w3) :=
  ⟨pe_chain ho ho' ha.p hb.p h3.p hm, fun σ H0 H ρ Q G re hw k => ha.d σ H0 H ρ _ _ re hw fun d ρ1 x A B g1 e1 re1 rp1 => hb.d σ A B ρ1 _ _ re1 g1 fun e ρ2 y A2 B2 g2 e2 re2 rp2 =>
    hr x y d e A2 B2 _ _ re2.ex (.inl (rp1.up e2)) (.inl rp2) g2 fun z v A3 B3 gz gr fr => by
      obtain ⟨k1, ek, hk⟩ := onB_of gz
      have ev := fr.bl ek
      have re3 := re2.grow gr
      refine ⟨k1, ev, ?_⟩
      cases k1 with
      | true =>
        show t3 σ B3 _
        exact h3.d σ A3 B3 ρ2 _ _ re3 hk fun g ρ3 u A4 B4 g4 e4 re4 rp4 => hr' y u e g A4 B4 Q _ re4.ex (.inl ((rp2.up gr.b).up e4)) (.inl rp4) g4 fun z' v' A5 B5 gz' gr' fr' => k z' ρ3 v' A5 B5 gz' (e1.trans (e2.trans (gr.b.trans (e4.trans gr'.b)))) (re4.grow gr') (fr'.rr re4)
      | false =>
        show Q (.bl false) B3
        exact k _ ρ2 _ A3 B3 hk (e1.trans (e2.trans gr.b)) re3 (.bl _)⟩
theorem et_chain {op op' : CmpOp} {r r' : R2} {f f' : F2} (ho : OpR X (compareOp op) r) (ho' : OpR X (compareOp op') r') (hr : OD X.K r f) (hr' : OD X.K r' f') (ha : ED X c a ta wa) (hb : ED X c b tb wb) (h3 : ED X c e3 t3 w3)
    (hm : lastMarks [op, op'] [b, e3] = false := by with_unfolding_all rfl) : ET X c (.Compare a [op, op'] [b, e3] pos) (tTest (tChain r r' ta tb t3)) (wTb (wChain f f' wa wb w3)) :=
  ⟨pt_chain ho ho' ha.p hb.p h3.p hm, dt_test (er_chain (pos := pos) ho ho' hr hr' ha hb h3 hm).d⟩

/-! ### displays -/
def allD : List Ar → (List D → Prop) → Prop
  | [], k => k []
  | .inr d :: as, k => allD as fun ds => k (d :: ds)
  | .inl _ :: _, _ => False
theorem allD_of {K : PySem.W.Frag} {H0 : Hp} {σ : L2.St} : ∀ {as : List Ar} {vs : List V} {k : List D → Prop}, allD as k → RA K H0 σ vs as → ∃ ds, k ds ∧ RpA K H0 vs ds
  | [], _, k, h, r => by cases r; exact ⟨[], h, .nil⟩
  | .inr d :: as, _, k, h, r => by
    cases r with
    | da h1 h2 =>
      obtain ⟨ds, q1, q2⟩ := allD_of (show allD as fun ds => k (d :: ds) from h) h2
      exact ⟨_, q1, .cons h1 q2⟩
  | .inl _ :: _, _, k, h, r => h.elim
def wTup (wl : WA) : WD := fun ρ G => wl ρ fun as ρ' => allD as fun ds => ds.length ≤ sizeLine ∧ G (.tup ds) ρ'
def wLst (wl : WA) : WE := fun ρ G => wl ρ fun as ρ' => allD as fun ds => ds.length ≤ sizeLine ∧ G (.ow (.lst ds)) ρ'
theorem ed_tup {x1} (h : EA X c es tl wl) : ED X c (.Tuple es x1 pos) (tTup tl) (wTup wl) :=
  ⟨pe_tup h.p, fun σ H0 H ρ Q G re hw k => h.d σ H0 H ρ _ _ re hw fun as ρ' vs A B g e re' ra => by
    obtain ⟨ds, ⟨q1, q2⟩, q3⟩ := allD_of g ra
    refine ⟨by rw [q3.length]; exact q1, fun p hp => ?_⟩
    obtain ⟨gr, f⟩ := new_tup re'.ex hp q3
    exact k _ ρ' _ _ _ q2 (e.trans gr.b) (re'.grow gr) f⟩
theorem er_lst (h : EA X c es tl wl) : ER X c (.List es pos) (tLst tl) (wLst wl) :=
  ⟨pe_lst h.p, fun σ H0 H ρ Q G re hw k => h.d σ H0 H ρ _ _ re hw fun as ρ' vs A B g e re' ra => by
    obtain ⟨ds, ⟨q1, q2⟩, q3⟩ := allD_of g ra
    refine ⟨by rw [q3.length]; exact q1, fun p hp => ?_⟩
    obtain ⟨gr, f⟩ := new_lst re'.ex hp q3
    exact k _ ρ' _ _ _ q2 (e.trans gr.b) (re'.grow gr) (f.rr re')⟩
theorem ea_nil : EA X c [] tNil waNil := ⟨pa_nil, da_nil⟩
theorem ea_cons (ha : ED X c a ta wa) (h : EA X c es tl wl) (hs : starEach (a :: es) X.env = (false, eval a X.env) :: starEach es X.env := by rfl) : EA X c (a :: es) (tCons ta tl) (waDa wa wl) := ⟨pa_cons ha.p h.p hs, da_da ha.d h.d⟩
theorem ea_sl {i : Nat} (ha : PE X a (tVar i)) (h : EA X c es tl wl) (hs : starEach (a :: es) X.env = (false, eval a X.env) :: starEach es X.env := by rfl) : EA X c (a :: es) (tCons (tVar i) tl) (waSl i wl) := ⟨pa_cons ha h.p hs, da_sl h.d⟩

/-! ### subscripts -/
section
variable {i j : Nat}
theorem er_ix (ha : ED X c a ta wa) (hb : ED X c b tb wb) (hs : PlainIx b := by exact fun _ _ => rfl) : ER X c (.Subscript a b pos) (tOp (rIx X.K) ta tb) (wOp fIx wa wb) := ⟨pe_ix ix_seq ha.p hb.p hs, de_op od_ix ha.d hb.d⟩
theorem er_ixV (ha : PE X a (tVar i)) (hb : ED X c b tb wb) (hs : PlainIx b := by exact fun _ _ => rfl) : ER X c (.Subscript a b pos) (tOp (rIx X.K) (tVar i) tb) (wOpV fIx i wb) := ⟨pe_ix ix_seq ha hb.p hs, de_opV od_ix hb.d⟩
end
/-- a[lo:hi] -/
abbrev WO := SEnv → (Option Int → SEnv → Prop) → Prop
def DO (K : PySem.W.Frag) (c : Fx) (to : TO) (wo : WO) : Prop :=
  ∀ (σ : L2.St) (H0 H : Hp) (ρ : SEnv) (Q : Option Int → Hp → Prop) (G : Option Int → SEnv → Prop), RE K c H0 H σ ρ → wo ρ G →
    (∀ o ρ' H0' H', G o ρ' → Ex H0 H0' → RE K c H0' H' σ ρ' → Q o H') → to σ H Q
structure EO (X : Cx) (c : Fx) (e : Option Expr) (to : TO) (wo : WO) : Prop where
  p : PO X e to
  d : DO X.K c to wo
def onI (z : D) (k : Int → Prop) : Prop := match z with
  | .int i => k i
  | _ => False
theorem onI_of {z : D} {k : Int → Prop} (h : onI z k) : ∃ b, z = .int b ∧ k b := by
  cases z <;> first | exact ⟨_, rfl, h⟩ | exact h.elim
def wNoPart : WO := fun ρ G => G none ρ
def wPart (wd : WD) : WO := fun ρ G => wd ρ fun z ρ' => onI z fun i => G (some i) ρ'
theorem eo_none : EO X c none tNoPart wNoPart := ⟨po_none, fun σ H0 H ρ Q G re hw k => k _ ρ H0 H hw (Ex.refl _) re⟩
theorem eo_some (h : ED X c a ta wa) : EO X c (some a) (tPart ta) (wPart wa) := ⟨po_some h.p, fun σ H0 H ρ Q G re hw k => h.d σ H0 H ρ _ _ re hw fun z ρ' v A B g e re' rp => by
  obtain ⟨i, rfl, hi⟩ := onI_of g
  cases rp
  exact ⟨i, rfl, k _ ρ' A B hi e re'⟩⟩
def cutD (xs : List D) (lo hi : Option Int) : List D := (xs.drop (HT.sIx xs.length 0 lo)).take (HT.sIx xs.length xs.length hi - HT.sIx xs.length 0 lo)
theorem RpA.cut {K : PySem.W.Frag} {H : Hp} {vs : List V} {ds : List D} (h : RpA K H vs ds) (lo hi : Option Int) : RpA K H (cutV vs lo hi) (cutD ds lo hi) := by
  unfold cutV cutD
  rw [h.length]
  exact (h.drop _).take _
def fSl (d : D) (lo hi : Option Int) (G : R → Prop) : Prop := match d with
  | .lst xs => G (.ow (.lst (cutD xs lo hi)))
  | .str x => x.length ≤ sizeLine ∧ G (.fr (.str (cutS x lo hi)))
  | .tup xs => ¬ (HT.sIx xs.length 0 lo = 0 ∧ HT.sIx xs.length xs.length hi = xs.length) ∧ G (.fr (.tup (cutD xs lo hi)))
  | _ => False
def rSlA (K : PySem.W.Frag) : V → Option Int → Option Int → Hp → VK → Prop := fun x lo hi H Q => rSlL K x lo hi H Q ∨ rSlS x lo hi H Q ∨ rSlT K x lo hi H Q
theorem sl_any : SlR X (rSlA X.K) := sl_list.or (sl_str.or sl_tup)
theorem od_sl {K : PySem.W.Frag} {x : V} {d : D} {lo hi : Option Int} {H0 H : Hp} {Q : VK} {G : R → Prop} (ex : Ex H0 H) (rx : Rq K H0 H x d) (hf : fSl d lo hi G)
    (k : ∀ z v H0' H', G z → Grow H0 H H0' H' → FR K H H0' H' v z → Q v H') : rSlA K x lo hi H Q := by
  unfold fSl at hf
  split at hf
  · obtain ⟨p, vs, rfl, h1, h2⟩ := rx.lst ex
    refine .inl ⟨p, vs, rfl, .inl (.inl h1), fun t ht => ?_⟩
    obtain ⟨g, f⟩ := new_lst ex ht (h2.cut lo hi)
    exact k _ _ _ _ hf g f
  · rw [rx.str]
    exact .inr (.inl ⟨_, rfl, hf.1, k _ _ H0 H hf.2 (Grow.refl ex) (.str _)⟩)
  · obtain ⟨p, vs, rfl, h1, h2⟩ := rx.tup ex
    refine .inr (.inr ⟨p, vs, rfl, h1, by rw [h2.length]; exact hf.1, fun t ht => ?_⟩)
    obtain ⟨g, f⟩ := new_tup ex ht (h2.cut lo hi)
    exact k _ _ _ _ hf.2 g f
  · exact hf.elim
def wSl (wa : WD) (wl wh : WO) : WE := fun ρ G => wa ρ fun d ρ1 => wl ρ1 fun lo ρ2 => wh ρ2 fun hi ρ3 => fSl d lo hi fun z => G z ρ3
def wSlV (i : Nat) (wl wh : WO) : WE := fun ρ G => isSet i ρ ∧ wl ρ fun lo ρ2 => wh ρ2 fun hi ρ3 => peek i ρ3 fun d => fSl d lo hi fun z => G z ρ3
theorem er_sl {lo hi : Option Expr} {p2 : Pos} {to tu : TO} {wo wp : WO} (ha : ED X c a ta wa) (hl : EO X c lo to wo) (hh : EO X c hi tu wp) : ER X c (.Subscript a (.Slice lo hi none p2) pos) (tSl (rSlA X.K) ta to tu) (wSl wa wo wp) :=
  ⟨pe_slice sl_any ha.p hl.p hh.p, fun σ H0 H ρ Q G re hw k => ha.d σ H0 H ρ _ _ re hw fun d ρ1 x A B g1 e1 re1 rp1 => hl.d σ A B ρ1 _ _ re1 g1 fun lo ρ2 A2 B2 g2 e2 re2 => hh.d σ A2 B2 ρ2 _ _ re2 g2 fun hi ρ3 A3 B3 g3 e3 re3 =>
    od_sl re3.ex (.inl ((rp1.up e2).up e3)) g3 fun z v A4 B4 gz gr fr => k z ρ3 v A4 B4 gz (e1.trans (e2.trans (e3.trans gr.b))) (re3.grow gr) (fr.rr re3)⟩
theorem er_slV {lo hi : Option Expr} {p2 : Pos} {to tu : TO} {wo wp : WO} {i : Nat} (ha : PE X a (tVar i)) (hl : EO X c lo to wo) (hh : EO X c hi tu wp) : ER X c (.Subscript a (.Slice lo hi none p2) pos) (tSl (rSlA X.K) (tVar i) to tu) (wSlV i wo wp) :=
  ⟨pe_slice sl_any ha hl.p hh.p, fun σ H0 H ρ Q G re hw k => by
    obtain ⟨hs, hw⟩ := hw
    obtain ⟨x, hx⟩ := re.isSet hs
    refine ⟨x, hx, hl.d σ H0 H ρ _ _ re hw fun lo ρ2 A2 B2 g2 e2 re2 => hh.d σ A2 B2 ρ2 _ _ re2 g2 fun hi ρ3 A3 B3 g3 e3 re3 => ?_⟩
    obtain ⟨x', d, hx', hf, rq⟩ := re3.peek g3
    rw [hx] at hx'
    cases hx'
    exact od_sl re3.ex rq hf fun z v A4 B4 gz gr fr => k z ρ3 v A4 B4 gz (e2.trans (e3.trans gr.b)) (re3.grow gr) (fr.rr re3)⟩

/-! ### calls of built-ins -/
inductive RqA (K : PySem.W.Frag) (H0 H : Hp) : List V → List D → Prop
  | nil : RqA K H0 H [] []
  | cons {v : V} {vs : List V} {d : D} {ds : List D} : Rq K H0 H v d → RqA K H0 H vs ds → RqA K H0 H (v :: vs) (d :: ds)
abbrev F1 := List D → (R → Prop) → Prop
def OC (K : PySem.W.Frag) (r : List V → Hp → VK → Prop) (f : F1) : Prop :=
  ∀ (xs : List V) (ds : List D) (H0 H : Hp) (Q : VK) (G : R → Prop), Ex H0 H → RqA K H0 H xs ds → f ds G →
    (∀ z v H0' H', G z → Grow H0 H H0' H' → FR K H H0' H' v z → Q v H') → r xs H Q
def peeks : List Ar → SEnv → (List D → Prop) → Prop
  | [], _, k => k []
  | .inl i :: as, ρ, k => peek i ρ fun d => peeks as ρ fun ds => k (d :: ds)
  | .inr d :: as, ρ, k => peeks as ρ fun ds => k (d :: ds)
theorem peeks_of {K : PySem.W.Frag} {H0 H : Hp} {σ : L2.St} {ρ : SEnv} (re : RE K c H0 H σ ρ) : ∀ {as : List Ar} {vs : List V} {k : List D → Prop}, peeks as ρ k → RA K H0 σ vs as → ∃ ds, k ds ∧ RqA K H0 H vs ds
  | [], _, k, h, r => by cases r; exact ⟨[], h, .nil⟩
  | .inl i :: as, _, k, h, r => by
    cases r with
    | sl h1 h2 =>
      obtain ⟨v, d, q1, q2, q3⟩ := re.peek (show peek i ρ fun d => peeks as ρ fun ds => k (d :: ds) from h)
      rw [h1] at q1
      cases q1
      obtain ⟨ds, w1, w2⟩ := peeks_of re q2 h2
      exact ⟨_, w1, .cons q3 w2⟩
  | .inr d :: as, _, k, h, r => by
    cases r with
    | da h1 h2 =>
      obtain ⟨ds, w1, w2⟩ := peeks_of re (show peeks as ρ fun ds => k (d :: ds) from h) h2
      exact ⟨_, w1, .cons (.inl h1) w2⟩
def wCB (f : F1) (wl : WA) : WE := fun ρ G => wl ρ fun as ρ' => peeks as ρ' fun ds => f ds fun z => G z ρ'
theorem de_cb {K : PySem.W.Frag} {r : List V → Hp → VK → Prop} {f : F1} (hr : OC K r f) (h : DA K c tl wl) : DE K c (tCB r tl) (wCB f wl) := fun σ H0 H ρ Q G re hw k => h σ H0 H ρ _ _ re hw fun as ρ' vs A B g e re' ra => by
  obtain ⟨ds, q1, q2⟩ := peeks_of re' g ra
  exact hr vs ds A B Q _ re'.ex q2 q1 fun z v A' B' gz gr fr => k z ρ' v A' B' gz (e.trans gr.b) (re'.grow gr) (fr.rr re')
section
variable {x : Str} {id T : String} {r : List V → Hp → VK → Prop} {f : F1}
theorem er_callB (hc : CallR X (.builtin id) r) (hr : OC X.K r f) (hm : X.mg x = none) (hv : bootBuiltins x = some (.builtin id)) (h : EA X c (a :: es) tl wl) (hg : Gl X x := by rfl) (hn : x ≠ "__name__" := by decide) (hdb : (x == ("__debug__" : Str)) = false := by decide)
    (he : starEach (a :: es) X.env = (false, eval a X.env) :: starEach es X.env := by rfl) (hpl : (backTo pos (starEach es X.env)).any (·.1) = false := by rfl) : ER X c (.Call (.Name x p) (a :: es) [] pos) (tCB r tl) (wCB f wl) := ⟨pe_callB hc hg hm hv h.p hn hdb he hpl, de_cb hr h.d⟩
theorem er_callTy (hc : CallR X (.type T) r) (hr : OC X.K r f) (hm : X.mg x = none) (hv : bootBuiltins x = some (.type T)) (h : EA X c (a :: es) tl wl) (hg : Gl X x := by rfl) (hn : x ≠ "__name__" := by decide) (hdb : (x == ("__debug__" : Str)) = false := by decide)
    (he : starEach (a :: es) X.env = (false, eval a X.env) :: starEach es X.env := by rfl) (hpl : (backTo pos (starEach es X.env)).any (·.1) = false := by rfl) : ER X c (.Call (.Name x p) (a :: es) [] pos) (tCB r tl) (wCB f wl) := ⟨pe_callTy hc hg hm hv h.p hn hdb he hpl, de_cb hr h.d⟩
end
/-- a def of the program -/
theorem er_call {k : Nat} {f : Addr} {fd : FuncData} {ps : List Str} {sem : Sem} {x : Str} (F : FnG X.prog X.w X.K X.mg X.base k f fd ps (spD X.K sem)) (hgd : X.A.guards = some []) (hr : Room k X.A) (hm : X.mg x = some (.ref f)) (hk : PySem.W.keepIn X.K (.ref f) = true) (hb : Binds X.K fd ps [])
    (h : EA X c (a :: es) tl wl) (hg : Gl X x := by rfl) (hdb : (x == ("__debug__" : Str)) = false := by decide)
    (he : starEach (a :: es) X.env = (false, eval a X.env) :: starEach es X.env := by rfl) (hpl : (backTo pos (starEach es X.env)).any (·.1) = false := by rfl) : ER X c (.Call (.Name x p) (a :: es) [] pos) (tCall (spD X.K sem) [] E0 tl) (wCall sem wl) :=
  ⟨pe_callG F hgd hr hg hm hk hb h.p hdb he hpl, de_call h.d⟩
theorem er_call0 {k : Nat} {f : Addr} {fd : FuncData} {sem : Sem} {x : Str} (F : FnG X.prog X.w X.K X.mg X.base k f fd [] (spD X.K sem)) (hgd : X.A.guards = some []) (hr : Room k X.A) (hm : X.mg x = some (.ref f)) (hk : PySem.W.keepIn X.K (.ref f) = true) (hb : Binds X.K fd [] [])
    (hg : Gl X x := by rfl) (hdb : (x == ("__debug__" : Str)) = false := by decide) : ER X c (.Call (.Name x p) [] [] pos) (tCall (spD X.K sem) [] E0 tNil) (wCall sem waNil) :=
  ⟨pe_callG0 F hgd hr hg hm hk hb hdb, de_call da_nil⟩
end
end DL
set_option Elab.async false
set_option linter.all false
set_option maxRecDepth 100000
set_option maxHeartbeats 2000000
namespace DL
open PySem PySem.Spec PyProof.Rows L2 Evl

/-! ### statements -/
section
variable {X : Cx} {c : Fx} {a b e : Expr} {st : Stmt} {rest sts : List Stmt} {ta tb te : TE} {wa wb wd : WD} {we wf : WE} {pos p : Pos} {tt : TT} {wt : WT} {ts tu : TS} {ws wu : WS}
def wNext : WS := fun G ρ => G.nx ρ
def wSeq (ws wu : WS) : WS := fun G ρ => ws { G with nx := wu G } ρ
def wBreak : WS := fun G ρ => G.bk ρ
def wCont : WS := fun G ρ => G.ct ρ
theorem ess_nil : ESs X c [] tNext wNext := ⟨pss_nil, fun σ H0 H ρ D G re hw k => k.nx σ ρ H0 H hw (Ex.refl _) re⟩
theorem ds_seq {K : PySem.W.Frag} (h1 : DS K c ts ws) (h2 : DS K c tu wu) : DS K c (tSeq ts tu) (wSeq ws wu) := fun σ H0 H ρ D G re hw k =>
  h1 σ H0 H ρ { D with nx := tu D } { G with nx := wu G } re hw ⟨fun σ' ρ' A B g e re' => h2 σ' A B ρ' D G re' g (k.up e), fun σ' ρ' A B g e re' => k.bk σ' ρ' A B g e re', fun σ' ρ' A B g e re' => k.ct σ' ρ' A B g e re', fun r ρ' σ' v A B g e re' rr => k.rt r ρ' σ' v A B g e re' rr⟩
theorem ess_cons (h1 : ES X c st ts ws) (h2 : ESs X c rest tu wu) : ESs X c (st :: rest) (tSeq ts tu) (wSeq ws wu) := ⟨pss_cons h1.p h2.p, ds_seq h1.d h2.d⟩
theorem ess_one (h1 : ES X c st ts ws) : ESs X c [st] ts ws := ⟨pss_one h1.p, h1.d⟩
theorem es_pass : ES X c (.Pass pos) tNext wNext := ⟨ps_pass, fun σ H0 H ρ D G re hw k => k.nx σ ρ H0 H hw (Ex.refl _) re⟩
theorem es_break : ES X c (.Break pos) tBreak wBreak := ⟨ps_break, fun σ H0 H ρ D G re hw k => k.bk σ ρ H0 H hw (Ex.refl _) re⟩
theorem es_continue : ES X c (.Continue pos) tCont wCont := ⟨ps_continue, fun σ H0 H ρ D G re hw k => k.ct σ ρ H0 H hw (Ex.refl _) re⟩
def wRet (we : WE) : WS := fun G ρ => we ρ G.rt
theorem es_ret (h : ER X c e te we) : ES X c (.Return (some e) pos) (tRet te) (wRet we) := ⟨ps_ret h.p, fun σ H0 H ρ D G re hw k => h.d σ H0 H ρ _ _ re hw fun r ρ' v A B g ex re' rr => k.rt r ρ' σ v A B g ex re' rr⟩
def wRetN : WS := fun G ρ => G.rt (.fr .non) ρ
theorem es_retN : ES X c (.Return none pos) tRetN wRetN := ⟨ps_retN, fun σ H0 H ρ D G re hw k => k.rt _ ρ σ .non H0 H hw (Ex.refl _) re .non⟩
def wIfS (wt : WT) (ws wu : WS) : WS := fun G ρ => wt ρ fun b ρ1 => if b = true then ws G ρ1 else wu G ρ1
theorem es_if {b1 b2 : List Stmt} (hc : ET X c a tt wt) (h1 : ESs X c b1 ts ws) (h2 : ESs X c b2 tu wu) : ES X c (.If a b1 b2 pos) (tIfS tt ts tu) (wIfS wt ws wu) :=
  ⟨ps_if hc.p h1.p h2.p, fun σ H0 H ρ D G re hw k => hc.d σ H0 H ρ _ _ re hw fun b ρ1 A B g e re1 => by
    cases b with
    | true =>
      show ts D σ B
      exact h1.d σ A B ρ1 D G re1 g (k.up e)
    | false =>
      show tu D σ B
      exact h2.d σ A B ρ1 D G re1 g (k.up e)⟩
/-- an expression for what it does -/
def wDrop (we : WE) : WS := fun G ρ => we ρ fun _ ρ' => G.nx ρ'
theorem es_expr (h : ER X c e te we) (hs : swapsWith e none pos.line X.env = pure false := by rfl) : ES X c (.Expr e pos) (tDrop te) (wDrop we) := ⟨ps_expr h.p hs, fun σ H0 H ρ D G re hw k => h.d σ H0 H ρ _ _ re hw fun r ρ' v A B g ex re' rr => k.nx σ ρ' A B g ex re'⟩

/-! targets -/
abbrev WG := D → SEnv → (SEnv → Prop) → Prop
def DG (K : PySem.W.Frag) (c : Fx) (js : List Nat) (tg : TG) (wg : WG) : Prop :=
  ∀ (σ : L2.St) (H0 H : Hp) (ρ : SEnv) (x : V) (d : D) (F : L2.St → Hp → Prop) (G : SEnv → Prop), RE K c H0 H σ ρ → Rp K H0 x d → wg d ρ G →
    (∀ σ' ρ' H0' H', G ρ' → Ex H0 H0' → RE K c H0' H' σ' ρ' → σ'.length = σ.length → (∀ i, i ∉ js → σ'[i]? = σ[i]?) → F σ' H') → tg x σ H F
def DGs (K : PySem.W.Frag) (c : Fx) (js : List Nat) (tg : TGs) (wg : List D → SEnv → (SEnv → Prop) → Prop) : Prop :=
  ∀ (σ : L2.St) (H0 H : Hp) (ρ : SEnv) (xs : List V) (ds : List D) (F : L2.St → Hp → Prop) (G : SEnv → Prop), RE K c H0 H σ ρ → RpA K H0 xs ds → wg ds ρ G →
    (∀ σ' ρ' H0' H', G ρ' → Ex H0 H0' → RE K c H0' H' σ' ρ' → σ'.length = σ.length → (∀ i, i ∉ js → σ'[i]? = σ[i]?) → F σ' H') → tg xs σ H F
structure EG (X : Cx) (c : Fx) (js : List Nat) (e : Expr) (tg : TG) (wg : WG) : Prop where
  p : PG X e tg
  d : DG X.K c js tg wg
structure EGs (X : Cx) (c : Fx) (js : List Nat) (es : List Expr) (tg : TGs) (wg : List D → SEnv → (SEnv → Prop) → Prop) : Prop where
  p : PGs X es tg
  d : DGs X.K c js tg wg
def gdName (i : Nat) : WG := fun d ρ k => k (ρ.set i (.r (.fr d)))
theorem eg_name {i : Nat} (h : PG X e (gName i)) : EG X c [i] e (gName i) (gdName i) := ⟨h, fun σ H0 H ρ x d F G re rp hw k => k _ _ H0 H hw (Ex.refl _) (re.setF rp) (by rw [List.length_set]) fun j hj => by
  rw [List.getElem?_set_ne]
  intro z
  exact hj (by simp [z])⟩
def gdNil : List D → SEnv → (SEnv → Prop) → Prop := fun ds ρ k => match ds with
  | [] => k ρ
  | _ => False
def gdCons (g : WG) (gs : List D → SEnv → (SEnv → Prop) → Prop) : List D → SEnv → (SEnv → Prop) → Prop := fun ds ρ k => match ds with
  | d :: r => g d ρ fun ρ' => gs r ρ' k
  | [] => False
theorem egs_nil : EGs X c [] [] gNil gdNil := ⟨pgs_nil, fun σ H0 H ρ xs ds F G re rp hw k => by
  cases ds with
  | nil =>
    cases rp
    exact ⟨rfl, k σ ρ H0 H hw (Ex.refl _) re rfl fun _ _ => rfl⟩
  | cons _ _ => exact hw.elim⟩
theorem egs_cons {js ks : List Nat} {e : Expr} {es : List Expr} {t : TG} {u : TGs} {g : WG} {gs : List D → SEnv → (SEnv → Prop) → Prop} (h1 : EG X c js e t g) (h2 : EGs X c ks es u gs) (hp : PGs X (e :: es) (gCons t u)) : EGs X c (js ++ ks) (e :: es) (gCons t u) (gdCons g gs) := ⟨hp, fun σ H0 H ρ xs ds F G re rp hw k => by
  cases ds with
  | nil => exact hw.elim
  | cons d r =>
    cases rp with
    | cons r1 r2 =>
      refine ⟨_, _, rfl, h1.d σ H0 H ρ _ d _ _ re r1 hw fun σ1 ρ1 A B g e1 re1 l1 s1 => h2.d σ1 A B ρ1 _ r _ _ re1 (r2.up e1) g fun σ2 ρ2 A2 B2 g2 e2 re2 l2 s2 => k σ2 ρ2 A2 B2 g2 (e1.trans e2) re2 (l2.trans l1) fun i hi => ?_⟩
      rw [List.mem_append, not_or] at hi
      rw [s2 i hi.2, s1 i hi.1]⟩
def gdTup (n : Nat) (gs : List D → SEnv → (SEnv → Prop) → Prop) : WG := fun d ρ k => match d with
  | .tup ds => ds.length = n ∧ gs ds ρ k
  | _ => False
theorem eg_tup {js : List Nat} {es : List Expr} {t : TGs} {n : Nat} {gs : List D → SEnv → (SEnv → Prop) → Prop} {kk : Nat} {tpos : Pos} (h : EGs X c js es t gs) (hp : PG X (.Tuple es kk tpos) (gTup X.K n t)) : EG X c js (.Tuple es kk tpos) (gTup X.K n t) (gdTup n gs) := ⟨hp, fun σ H0 H ρ x d F G re rp hw k => by
  unfold gdTup at hw
  split at hw
  · cases rp with
    | tup h1 h2 => exact ⟨_, _, rfl, ex_t re.ex h1, by rw [h2.length]; exact hw.1, h.d σ H0 H ρ _ _ F G re h2 hw.2 k⟩
  · exact hw.elim⟩

/-- x = e -/
def wAsg (i : Nat) (we : WE) : WS := fun G ρ => we ρ fun r ρ' => G.nx (ρ'.set i (.r r))
theorem ds_asg {K : PySem.W.Frag} {i : Nat} (h : DE K c te we) : DS K c (tAsg te (gName i)) (wAsg i we) := fun σ H0 H ρ D G re hw k => h σ H0 H ρ _ _ re hw fun r ρ' v A B g ex re' rr => k.nx _ _ A B g ex (re'.setR rr)
theorem es_set {i : Nat} {x : Str} {pos' : Pos} (h : ER X c e te we) (hp : PS X (.Assign [.Name x pos'] e pos) (tAsg te (gName i))) : ES X c (.Assign [.Name x pos'] e pos) (tAsg te (gName i)) (wAsg i we) := ⟨hp, ds_asg h.d⟩
/-- a, b = e -/
def wAsgT (wd : WD) (wg : WG) : WS := fun G ρ => wd ρ fun d ρ' => wg d ρ' G.nx
theorem es_setT {js : List Nat} {tg : Expr} {g : TG} {wg : WG} (h : ED X c e te wd) (hg : EG X c js tg g wg) (hp : PS X (.Assign [tg] e pos) (tAsg te g)) : ES X c (.Assign [tg] e pos) (tAsg te g) (wAsgT wd wg) :=
  ⟨hp, fun σ H0 H ρ D G re hw k => h.d σ H0 H ρ _ _ re hw fun d ρ' v A B g ex re' rp => hg.d σ A B ρ' v d _ _ re' rp g fun σ2 ρ2 A2 B2 g2 e2 re2 _ _ => k.nx σ2 ρ2 A2 B2 g2 (ex.trans e2) re2⟩
/-- x op= e, ints (or texts) -/
def wAug (f : F2) (i : Nat) (wd : WD) : WS := fun G ρ => (peek i ρ fun x => wd ρ fun d ρ' => f x d fun z => G.nx (ρ'.set i (.r z)))
/-- an owned slot i is changed at its thing -/
def atO (i : Nat) (ρ : SEnv) (k : O → Prop) : Prop := match ρ[i]? with
  | some (.r (.ow o)) => k o
  | some (.io o) => k o
  | some (.r (.fr _)) => False
  | some .un => False
  | none => False
def putO (i : Nat) (o : O) (ρ : SEnv) : SEnv := match ρ[i]? with
  | some s => ρ.set i (s.put o)
  | none => ρ
theorem atO_of {i : Nat} {ρ : SEnv} {k : O → Prop} (h : atO i ρ k) : ∃ s o, ρ[i]? = some s ∧ s.o? = some o ∧ k o := by
  unfold atO at h
  split at h
  · exact ⟨_, _, by assumption, rfl, h⟩
  · exact ⟨_, _, by assumption, rfl, h⟩
  · exact h.elim
  · exact h.elim
  · exact h.elim
theorem putO_of {i : Nat} {ρ : SEnv} {s : Sl} {o : O} (h : ρ[i]? = some s) : putO i o ρ = ρ.set i (s.put o) := by
  unfold putO
  rw [h]
def isO (i : Nat) (ρ : SEnv) : Prop := atO i ρ fun _ => True
theorem isO_set {i : Nat} {ρ : SEnv} (h : isO i ρ) : isSet i ρ := by
  obtain ⟨s, o, h1, h2, _⟩ := atO_of h
  unfold isSet
  rw [h1]
  cases s <;> first | trivial | cases h2
/-- x.append(e) -/
def onL (o : O) (k : List D → Prop) : Prop := match o with
  | .lst xs => k xs
def wApp (i : Nat) (wd : WD) : WS := fun G ρ => isO i ρ ∧ wd ρ fun d ρ' => atO i ρ' fun o => onL o fun xs => xs.length < sizeLine ∧ G.nx (putO i (.lst (xs ++ [d])) ρ')
theorem es_app {i : Nat} {o : Expr} {apos cpos : Pos} (ho : PE X o (tVar i)) (h : ED X c e te wd) (hp : PS X (.Expr (.Call (.Attribute o "append" apos) [e] [] cpos) pos) (tDrop (tBM X.K "list" rAppend (tVar i) (tCons te tNil)))) :
    ES X c (.Expr (.Call (.Attribute o "append" apos) [e] [] cpos) pos) (tDrop (tBM X.K "list" rAppend (tVar i) (tCons te tNil))) (wApp i wd) := ⟨hp, fun σ H0 H ρ D G re hw k => by
  obtain ⟨h0, hw⟩ := hw
  obtain ⟨s, o', h1, h2, _⟩ := atO_of h0
  obtain ⟨q, q1, q2, q3⟩ := re.ow i s o' h1 h2
  refine ⟨.ref q, q1, ?_, h.d σ H0 H ρ _ _ re hw fun d ρ' v A B g ex re' rp => ?_⟩
  · cases o' with
    | lst xs =>
      obtain ⟨vs, w1, w2⟩ := q3
      exact .inl ⟨rfl, vs, .inl (.inl w1)⟩
  · obtain ⟨s', o2, w1, w2, w3⟩ := atO_of g
    obtain ⟨q', z1, z2, z3⟩ := re'.ow i s' o2 w1 w2
    rw [q1] at z1
    cases z1
    cases o2 with
    | lst xs =>
      obtain ⟨hl, hn⟩ := w3
      obtain ⟨vs, y1, y2⟩ := z3
      refine ⟨q, vs, v, rfl, rfl, y1, by rw [y2.length]; exact hl, ?_⟩
      have re2 := re'.chg (u := .lst (vs ++ [v])) (o' := .lst (xs ++ [d])) w1 w2 q1 ⟨_, upd_same, y2.append (.one rp)⟩
      rw [← putO_of w1] at re2
      exact k.nx σ _ A _ hn ex re2⟩
/-- x[j] = e -/
def setD (xs : List D) (i : Int) (d : D) (k : List D → Prop) : Prop := match ixN xs.length i with
  | some j => k (xs.set j d)
  | none => False
theorem setD_of {xs : List D} {i : Int} {d : D} {k : List D → Prop} (h : setD xs i d k) : ∃ j, ixN xs.length i = some j ∧ k (xs.set j d) := by
  unfold setD at h
  split at h
  · exact ⟨_, by assumption, h⟩
  · exact h.elim
def wSetI (i : Nat) (wd wb : WD) : WS := fun G ρ => wd ρ fun d ρ1 => isO i ρ1 ∧ wb ρ1 fun z ρ' => onI z fun n => atO i ρ' fun o => onL o fun xs => setD xs n d fun ys => G.nx (putO i (.lst ys) ρ')
theorem es_setI {i : Nat} {o ix : Expr} {tpos : Pos} (ho : PE X o (tVar i)) (h : ED X c e te wd) (hi : ED X c ix tb wb) (hp : PS X (.Assign [.Subscript o ix tpos] e pos) (tAsg te (gSub (tVar i) tb rSetL))) :
    ES X c (.Assign [.Subscript o ix tpos] e pos) (tAsg te (gSub (tVar i) tb rSetL)) (wSetI i wd wb) := ⟨hp, fun σ H0 H ρ D G re hw k => h.d σ H0 H ρ _ _ re hw fun d ρ1 v A B g e1 re1 rp => by
  obtain ⟨h0, hw⟩ := g
  obtain ⟨s, o', h1, h2, _⟩ := atO_of h0
  obtain ⟨q, q1, q2, q3⟩ := re1.ow i s o' h1 h2
  refine ⟨.ref q, q1, hi.d σ A B ρ1 _ _ re1 hw fun z ρ' u A2 B2 g e2 re' rz => ?_⟩
  obtain ⟨n, rfl, g⟩ := onI_of g
  cases rz
  obtain ⟨s', o2, w1, w2, w3⟩ := atO_of g
  obtain ⟨q', z1, z2, z3⟩ := re'.ow i s' o2 w1 w2
  rw [q1] at z1
  cases z1
  cases o2 with
  | lst xs =>
    obtain ⟨j, hj, hn⟩ := setD_of (show setD xs n d (fun ys => G.nx (putO i (.lst ys) ρ')) from w3)
    obtain ⟨vs, y1, y2⟩ := z3
    refine ⟨q, vs, n, j, rfl, rfl, y1, by rw [y2.length]; exact hj, ?_⟩
    have re2 := re'.chg (u := .lst (vs.set j v)) (o' := .lst (xs.set j d)) w1 w2 q1 ⟨_, upd_same, RpA.set (rp.up e2) j y2⟩
    rw [← putO_of w1] at re2
    exact k.nx σ _ A2 _ hn (e1.trans e2) re2⟩
/-- x[j] += e: the index and what is added are data ahead of it -/
def rGetL : V → V → Hp → VK → Prop := fun o i H Q => ∃ p xs k j v, o = .ref p ∧ i = .int k ∧ H p = some (.lst xs) ∧ 0 ≤ k ∧ k.toNat = j ∧ xs[j]? = some v ∧ Q v H
theorem pget_list : PGet X rGetL := by
  intro pins s σ H o i ov iv Q I r1 r2 h
  obtain ⟨p, xs, n, j, v, rfl, rfl, hp, h0, rfl, hv, q⟩ := h
  cases r1
  obtain ⟨t, rfl⟩ := r2
  obtain ⟨its, r, pl, hz⟩ := I.list (.inl (.inl hp))
  obtain ⟨w, ew, rw'⟩ := r.get hv
  have hl := r.length
  have hj := (List.getElem?_eq_some_iff.mp hv).1
  have hn := line63
  exact wpAny_getItem_list pl.isList h0 (by omega) (by simpa using ew) ⟨v, H, I, rw', q⟩
def wAugI (f : Int → Int → Int) (i : Nat) (wb wd : WD) : WS := fun G ρ => isO i ρ ∧ wb ρ fun z ρ1 => onI z fun n => 0 ≤ n ∧ atO i ρ1 fun o => onL o fun xs => match xs[n.toNat]? with
  | some (.int x) => wd ρ1 fun d ρ' => onI d fun y => atO i ρ' fun o => onL o fun xs => setD xs n (.int (f x y)) fun ys => G.nx (putO i (.lst ys) ρ')
  | _ => False
theorem es_augI {i : Nat} {o ix : Expr} {tpos : Pos} {op : Operator} {f : Int → Int → Int} (ho : PE X o (tVar i)) (hi : ED X c ix tb wb) (h : ED X c e te wd) (hp : PS X (.AugAssign (.Subscript o ix tpos) op e pos) (tAugS (tVar i) tb te rGetL (ipI f) rSetL)) :
    ES X c (.AugAssign (.Subscript o ix tpos) op e pos) (tAugS (tVar i) tb te rGetL (ipI f) rSetL) (wAugI f i wb wd) := ⟨hp, fun σ H0 H ρ D G re hw k => by
  obtain ⟨h0, hw⟩ := hw
  obtain ⟨s, o', h1, h2, _⟩ := atO_of h0
  obtain ⟨q, q1, q2, q3⟩ := re.ow i s o' h1 h2
  refine ⟨.ref q, q1, hi.d σ H0 H ρ _ _ re hw fun z ρ1 u A B g e1 re1 rz => ?_⟩
  obtain ⟨n, rfl, hn0, g⟩ := onI_of g
  cases rz
  obtain ⟨s1, o1, w1, w2, w3⟩ := atO_of g
  obtain ⟨q', z1, z2, z3⟩ := re1.ow i s1 o1 w1 w2
  rw [q1] at z1
  cases z1
  cases o1 with
  | lst xs =>
    obtain ⟨vs, y1, y2⟩ := z3
    simp only [onL] at w3
    split at w3
    · rename_i x hx
      obtain ⟨v, hv, rv⟩ := y2.get hx
      cases rv
      refine ⟨q, vs, n, n.toNat, _, rfl, rfl, y1, hn0, rfl, hv, h.d σ A B ρ1 _ _ re1 w3 fun d ρ' u A2 B2 g e2 re' rd => ?_⟩
      obtain ⟨y, rfl, g⟩ := onI_of g
      cases rd
      refine ⟨x, y, rfl, rfl, ?_⟩
      obtain ⟨s', o2, w1', w2', w3'⟩ := atO_of g
      obtain ⟨q', z1, z2, z3⟩ := re'.ow i s' o2 w1' w2'
      rw [q1] at z1
      cases z1
      cases o2 with
      | lst xs2 =>
        obtain ⟨j, hj, hn⟩ := setD_of (show setD xs2 n (.int (f x y)) (fun ys => G.nx (putO i (.lst ys) ρ')) from w3')
        obtain ⟨vs2, y1', y2'⟩ := z3
        refine ⟨q, vs2, n, j, rfl, rfl, y1', by rw [y2'.length]; exact hj, ?_⟩
        have re2 := re'.chg (u := .lst (vs2.set j (.int (f x y)))) (o' := .lst (xs2.set j (.int (f x y)))) w1' w2' q1 ⟨_, upd_same, RpA.set (.int _) j y2'⟩
        rw [← putO_of w1'] at re2
        exact k.nx σ _ A2 _ hn (e1.trans e2) re2
    · exact w3.elim⟩
/-- x += e, ints -/
def wAugN (f : Int → Int → Int) (i : Nat) (wd : WD) : WS := fun G ρ => peek i ρ fun x => onI x fun m => wd ρ fun d ρ' => onI d fun n => G.nx (ρ'.set i (.r (.fr (.int (f m n)))))
theorem es_augN {i : Nat} {x : Str} {pos' : Pos} {op : Operator} {f : Int → Int → Int} (h : ED X c e te wd) (hp : PS X (.AugAssign (.Name x pos') op e pos) (tAug i te (ipI f))) : ES X c (.AugAssign (.Name x pos') op e pos) (tAug i te (ipI f)) (wAugN f i wd) :=
  ⟨hp, fun σ H0 H ρ D G re hw k => by
    obtain ⟨v, d, h1, h2, h3⟩ := re.peek hw
    obtain ⟨m, rfl, h2⟩ := onI_of h2
    have := h3.int
    subst this
    refine ⟨_, h1, h.d σ H0 H ρ _ _ re h2 fun d ρ' u A B g ex re' rd => ?_⟩
    obtain ⟨n, rfl, g⟩ := onI_of g
    cases rd
    exact ⟨m, n, rfl, rfl, k.nx _ _ A B g ex (re'.setF (.int _))⟩⟩

/-! ### loops -/
def ItOk (K : PySem.W.Frag) (J : It) (ds : List D) (H0 : Hp) : Prop := ∀ (A B : Hp) (i : Nat), Ex H0 A → Ex A B →
  (ds.length ≤ i → J.stop i B) ∧ ∀ d, ds[i]? = some d → J.go i B ∧ ∀ x B', J.yld i B x B' → ∃ A', Grow A B A' B' ∧ Rp K A' x d
abbrev WI := SEnv → (List D → SEnv → Prop) → Prop
def DI (K : PySem.W.Frag) (c : Fx) (ti : TI) (wi : WI) : Prop :=
  ∀ (σ : L2.St) (H0 H : Hp) (ρ : SEnv) (Q : It → Hp → Prop) (G : List D → SEnv → Prop), RE K c H0 H σ ρ → wi ρ G →
    (∀ ds ρ' J H0' H', G ds ρ' → Ex H0 H0' → RE K c H0' H' σ ρ' → ItOk K J ds H0' → Q J H') → ti σ H Q
structure EI (X : Cx) (c : Fx) (tg iter : Expr) (ti : TI) (wi : WI) : Prop where
  p : PI X tg iter ti
  d : DI X.K c ti wi
/-- a list | a tuple of data -/
def wIL (wd : WD) : WI := fun ρ G => wd ρ fun d ρ' => match d with
  | .lst ds => G ds ρ'
  | _ => False
def wIT (wd : WD) : WI := fun ρ G => wd ρ fun d ρ' => match d with
  | .tup ds => G ds ρ'
  | _ => False
theorem itok_list {K : PySem.W.Frag} {a : Addr} {vs : List V} {ds : List D} {H0 : Hp} (h1 : H0 a = some (.lst vs)) (h2 : RpA K H0 vs ds) : ItOk K (Itl K a) ds H0 := fun A B i e1 e2 => by
  have hb : SqL K B a vs := .inl (.inl (e2 _ _ (e1 _ _ h1)))
  refine ⟨fun hl => ⟨vs, hb, by rw [h2.length]; exact hl⟩, fun d hd => ?_⟩
  obtain ⟨v, hv, rv⟩ := h2.get hd
  refine ⟨⟨vs, v, hb, hv⟩, fun x B' hy => ?_⟩
  obtain ⟨rfl, hx⟩ := hy
  have := hx vs hb
  rw [hv] at this
  cases this
  exact ⟨A, Grow.refl e2, rv.up e1⟩
theorem itok_tup {K : PySem.W.Frag} {a : Addr} {vs : List V} {ds : List D} {H0 : Hp} (h1 : SqT K H0 a vs) (h2 : RpA K H0 vs ds) : ItOk K (Itt K a) ds H0 := fun A B i e1 e2 => by
  have hb : SqT K B a vs := ex_t e2 (ex_t e1 h1)
  refine ⟨fun hl => ⟨vs, hb, by rw [h2.length]; exact hl⟩, fun d hd => ?_⟩
  obtain ⟨v, hv, rv⟩ := h2.get hd
  refine ⟨⟨vs, v, hb, hv⟩, fun x B' hy => ?_⟩
  obtain ⟨rfl, hx⟩ := hy
  have := hx vs hb
  rw [hv] at this
  cases this
  exact ⟨A, Grow.refl e2, rv.up e1⟩
theorem ei_list {tg : Expr} (h : ED X c a ta wa) : EI X c tg a (iList X.K ta) (wIL wa) := ⟨pi_list h.p, fun σ H0 H ρ Q G re hw k => h.d σ H0 H ρ _ _ re hw fun d ρ' v A B g e re' rp => by
  cases d <;> first | exact g.elim | skip
  cases rp with
  | lst h1 h2 => exact ⟨_, rfl, ⟨_, .inl (.inl (re'.ex _ _ h1))⟩, k _ ρ' _ A B g e re' (itok_list h1 h2)⟩⟩
theorem ei_tup {tg : Expr} (h : ED X c a ta wa) : EI X c tg a (iTup X.K ta) (wIT wa) := ⟨pi_tup h.p, fun σ H0 H ρ Q G re hw k => h.d σ H0 H ρ _ _ re hw fun d ρ' v A B g e re' rp => by
  cases d <;> first | exact g.elim | skip
  cases rp with
  | tup h1 h2 => exact ⟨_, rfl, ⟨_, ex_t re'.ex h1⟩, k _ ρ' _ A B g e re' (itok_tup h1 h2)⟩⟩
/-- range -/
def rangeD (lo : Int) (n : Nat) : List D := (List.range n).map fun (i : Nat) => D.int (lo + (i : Int))
theorem rangeD_len (lo : Int) (n : Nat) : (rangeD lo n).length = n := by
  unfold rangeD
  rw [List.length_map, List.length_range]
theorem rangeD_get {lo : Int} {n i : Nat} (h : i < n) : (rangeD lo n)[i]? = some (.int (lo + (i : Int))) := by
  unfold rangeD
  rw [List.getElem?_map, List.getElem?_range h]
  rfl
theorem itok_range {K : PySem.W.Frag} {lo : Int} {n : Nat} {H0 : Hp} : ItOk K (Itr lo n) (rangeD lo n) H0 := fun A B i e1 e2 => by
  rw [rangeD_len]
  refine ⟨fun h => h, fun d hd => ?_⟩
  have hi : i < n := by
    have := (List.getElem?_eq_some_iff.mp hd).1
    rw [rangeD_len] at this
    exact this
  rw [rangeD_get hi] at hd
  cases hd
  refine ⟨hi, fun x B' hy => ?_⟩
  obtain ⟨rfl, rfl⟩ := hy
  exact ⟨A, Grow.refl e2, .int _⟩
def wIR1 (wl : WA) : WI := fun ρ G => wl ρ fun as ρ' => allD as fun ds => match ds with
  | [.int n] => (-(2 ^ 62) ≤ n ∧ n < 2 ^ 62) ∧ G (rangeD 0 n.toNat) ρ'
  | _ => False
def wIR2 (wl : WA) : WI := fun ρ G => wl ρ fun as ρ' => allD as fun ds => match ds with
  | [.int m, .int n] => (-(2 ^ 62) ≤ m ∧ m < 2 ^ 62 ∧ -(2 ^ 62) ≤ n ∧ n < 2 ^ 62) ∧ G (rangeD m (n - m).toNat) ρ'
  | _ => False
theorem ei_range1 {tg : Expr} {tl : TA} {wl : WA} {p : Pos} (h : EA X c [a] tl wl) (hm : X.mg "range" = none) (hg : Gl X "range" := by rfl) (hs : starEach [a] X.env = [(false, eval a X.env)] := by rfl) : EI X c tg (.Call (.Name "range" p) [a] [] pos) (iRng1 tl) (wIR1 wl) := ⟨pi_range1 hg hm h.p hs, fun σ H0 H ρ Q G re hw k => h.d σ H0 H ρ _ _ re hw fun as ρ' vs A B g e re' ra => by
  obtain ⟨ds, q1, q2⟩ := allD_of g ra
  split at q1
  · cases q2 with
    | cons r1 r2 =>
      cases r1
      cases r2
      exact ⟨_, rfl, q1.1.1, q1.1.2, k _ ρ' _ A B q1.2 e re' itok_range⟩
  · exact q1.elim⟩
theorem ei_range2 {tg : Expr} {tl : TA} {wl : WA} {p : Pos} (h : EA X c [a, b] tl wl) (hm : X.mg "range" = none) (hg : Gl X "range" := by rfl) (hs : starEach [a, b] X.env = [(false, eval a X.env), (false, eval b X.env)] := by rfl) (hp : PI X tg (.Call (.Name "range" p) [a, b] [] pos) (iRng2 tl)) : EI X c tg (.Call (.Name "range" p) [a, b] [] pos) (iRng2 tl) (wIR2 wl) := ⟨hp, fun σ H0 H ρ Q G re hw k => h.d σ H0 H ρ _ _ re hw fun as ρ' vs A B g e re' ra => by
  obtain ⟨ds, q1, q2⟩ := allD_of g ra
  split at q1
  · cases q2 with
    | cons r1 r2 =>
      cases r1
      cases r2 with
      | cons r3 r4 =>
        cases r3
        cases r4
        exact ⟨_, _, rfl, q1.1, k _ ρ' _ A B q1.2 e re' itok_range⟩
  · exact q1.elim⟩
/-- enumerate(list) -/
def enumD (i : Nat) : List D → List D
  | [] => []
  | d :: ds => .tup [.int (i : Int), d] :: enumD (i + 1) ds
theorem enumD_len : ∀ (i : Nat) (ds : List D), (enumD i ds).length = ds.length
  | _, [] => rfl
  | i, _ :: ds => congrArg (· + 1) (enumD_len (i + 1) ds)
theorem enumD_get : ∀ {i j : Nat} {ds : List D} {d : D}, ds[j]? = some d → (enumD i ds)[j]? = some (.tup [.int ((i + j : Nat) : Int), d])
  | _, _, [], _, h => by simp at h
  | i, 0, _ :: _, _, h => by simp at h; subst h; rfl
  | i, j + 1, _ :: ds, _, h => by
    have z := enumD_get (i := i + 1) (j := j) (ds := ds) (by simpa using h)
    rw [show i + 1 + j = i + (j + 1) by omega] at z
    simpa [enumD] using z
theorem itok_enum {K : PySem.W.Frag} {a : Addr} {vs : List V} {ds : List D} {H0 : Hp} (h1 : H0 a = some (.lst vs)) (h2 : RpA K H0 vs ds) : ItOk K (Ite K a) (enumD 0 ds) H0 := fun A B i e1 e2 => by
  have hb : SqL K B a vs := .inl (.inl (e2 _ _ (e1 _ _ h1)))
  rw [enumD_len]
  refine ⟨fun hl => ⟨vs, hb, by rw [h2.length]; exact hl⟩, fun d hd => ?_⟩
  have hi : i < ds.length := by
    have := (List.getElem?_eq_some_iff.mp hd).1
    rw [enumD_len] at this
    exact this
  rw [enumD_get (List.getElem?_eq_getElem hi), Nat.zero_add] at hd
  cases hd
  obtain ⟨v, hv, rv⟩ := h2.get (List.getElem?_eq_getElem hi)
  refine ⟨⟨vs, v, hb, hv⟩, fun x B' hy => ?_⟩
  obtain ⟨T, y, rfl, hT, rfl, hx⟩ := hy
  have := hx vs hb
  rw [hv] at this
  cases this
  obtain ⟨g, f⟩ := new_tup e2 hT (RpA.cons (.int _) (.one (rv.up e1)))
  exact ⟨_, g, f⟩
def wIE (wl : WA) : WI := fun ρ G => wl ρ fun as ρ' => allD as fun ds => match ds with
  | [.lst xs] => G (enumD 0 xs) ρ'
  | _ => False
theorem ei_enum {elts : List Expr} {kk : Nat} {tpos p : Pos} {tl : TA} {wl : WA} (h : EA X c [a] tl wl) (hm : X.mg "enumerate" = none) (hg : Gl X "enumerate" := by rfl) (hs : starEach [a] X.env = [(false, eval a X.env)] := by rfl) :
    EI X c (.Tuple elts kk tpos) (.Call (.Name "enumerate" p) [a] [] pos) (iEnum X.K tl) (wIE wl) := ⟨pi_enum hg hm h.p hs, fun σ H0 H ρ Q G re hw k => h.d σ H0 H ρ _ _ re hw fun as ρ' vs A B g e re' ra => by
  obtain ⟨ds, q1, q2⟩ := allD_of g ra
  split at q1
  · cases q2 with
    | cons r1 r2 =>
      cases r2
      cases r1 with
      | lst h1 h2 => exact ⟨_, _, rfl, .inl (.inl (re'.ex _ _ h1)), k _ ρ' _ A B q1 e re' (itok_enum h1 h2)⟩
  · exact q1.elim⟩
/-- for: an invariant over the turn; turn by turn (forGo) -/
def forI (g : WG) (body : WS) (G : WEnds) (ds : List D) (ρ : SEnv) : Prop := ∃ I : Nat → SEnv → Prop, I 0 ρ ∧
  (∀ (i : Nat) (d : D) (ρ : SEnv), ds[i]? = some d → I i ρ → g d ρ fun ρ1 => body { nx := I (i + 1), ct := I (i + 1), bk := G.nx, rt := G.rt } ρ1) ∧ ∀ ρ, I ds.length ρ → G.nx ρ
def forGo (g : WG) (body : WS) (G : WEnds) : List D → SEnv → Prop
  | [], ρ => G.nx ρ
  | d :: ds, ρ => g d ρ fun ρ1 => body { nx := forGo g body G ds, ct := forGo g body G ds, bk := G.nx, rt := G.rt } ρ1
theorem forI_of {g : WG} {body : WS} {G : WEnds} {ds : List D} {ρ : SEnv} (h : forGo g body G ds ρ) : forI g body G ds ρ := by
  refine ⟨fun i ρ => forGo g body G (ds.drop i) ρ, h, fun i d ρ hd h => ?_, fun ρ h => ?_⟩
  · obtain ⟨hl, e⟩ := List.getElem?_eq_some_iff.mp hd
    have h : forGo g body G (ds.drop i) ρ := h
    rw [List.drop_eq_getElem_cons hl, e] at h
    exact h
  · have h : forGo g body G (ds.drop ds.length) ρ := h
    rw [List.drop_eq_nil_of_le (Nat.le_refl _)] at h
    exact h
def wFor (wi : WI) (g : WG) (body : WS) : WS := fun G ρ => wi ρ fun ds ρ1 => forI g body G ds ρ1
theorem ds_for {K : PySem.W.Frag} {ti : TI} {wi : WI} {js : List Nat} {tg : TG} {g : WG} (hi : DI K c ti wi) (hg : DG K c js tg g) (hb : DS K c ts ws) : DS K c (tFor ti tg ts) (wFor wi g ws) := fun σ H0 H ρ D G re hw k =>
  hi σ H0 H ρ _ _ re hw fun ds ρ1 J A B hG e1 re1 ok => by
    obtain ⟨I, i0, turn, fin⟩ := hG
    refine ⟨fun i m σ' H' => ∃ A' ρ', Ex A A' ∧ RE K c A' H' σ' ρ' ∧ i + m = ds.length ∧ I i ρ', ⟨ds.length, A, ρ1, Ex.refl _, re1, Nat.zero_add _, i0⟩, fun i m σ' H' hW => ?_⟩
    obtain ⟨A', ρ', e2, re2, hm, hgo⟩ := hW
    obtain ⟨st, go⟩ := ok A' H' i e2 re2.ex
    by_cases hl : i < ds.length
    · obtain ⟨jg, jy⟩ := go _ (List.getElem?_eq_getElem hl)
      refine .inr ⟨jg, fun σ2 H2 => ∃ A2 ρ2, Ex A A2 ∧ RE K c A2 H2 σ2 ρ2 ∧ I (i + 1) ρ2, fun σ2 H2 hN => ?_, fun x H2 hy => ?_⟩
      · obtain ⟨A2, ρ2, q1, q2, q3⟩ := hN
        exact ⟨m - 1, by omega, A2, ρ2, q1, q2, by omega, q3⟩
      · obtain ⟨A2, gr, rx⟩ := jy x H2 hy
        have re3 := re2.grow gr
        refine hg σ' A2 H2 ρ' x _ _ _ re3 rx (turn i _ ρ' (List.getElem?_eq_getElem hl) hgo) fun σ3 ρ3 A3 B3 hw3 e3 re4 _ _ => ?_
        refine hb σ3 A3 B3 ρ3 _ _ re4 hw3 ?_
        have eA : Ex A A3 := e2.trans (gr.b.trans e3)
        have nxt : ∀ σ4 ρ4 A4 B4, I (i + 1) ρ4 → Ex A3 A4 → RE K c A4 B4 σ4 ρ4 → ∃ A2 ρ2, Ex A A2 ∧ RE K c A2 B4 σ4 ρ2 ∧ I (i + 1) ρ2 := fun σ4 ρ4 A4 B4 h e r => ⟨A4, ρ4, eA.trans e, r, h⟩
        exact ⟨nxt, fun σ4 ρ4 A4 B4 h e r => k.nx σ4 ρ4 A4 B4 h (e1.trans (eA.trans e)) r, nxt, fun r ρ4 σ4 v A4 B4 h e q w => k.rt r ρ4 σ4 v A4 B4 h (e1.trans (eA.trans e)) q w⟩
    · have e : i = ds.length := by omega
      subst e
      exact .inl ⟨st (Nat.le_refl _), k.nx σ' ρ' A' H' (fin _ hgo) (e1.trans e2) re2⟩
theorem es_for {tg iter : Expr} {body : List Stmt} {ti : TI} {wi : WI} {js : List Nat} {g : TG} {wg : WG} (hi : EI X c tg iter ti wi) (hg : EG X c js tg g wg) (hb : ESs X c body ts ws) (hc : X.calm = true := by rfl) (hp : PassesOwn (model X.prog X.w) X.A X.env X.xe := by exact PassesOwn.never)
    (hs : ∀ x, foldedSetIterable iter X.env x = pure x := by intro _; rfl) : ES X c (.For tg iter body [] pos) (tFor ti g ts) (wFor wi wg ws) := ⟨ps_for hp hc hi.p hg.p hb.p hs, ds_for hi.d hg.d hb.d⟩
/-- while -/
def wWhile (wt : WT) (ws : WS) : WS := fun G ρ => ∃ W : Nat → SEnv → Prop, (∃ m, W m ρ) ∧ ∀ m ρ, W m ρ → wt ρ fun b ρ1 => if b = true then ws { nx := fun ρ2 => ∃ m', m' < m ∧ W m' ρ2, ct := fun ρ2 => ∃ m', m' < m ∧ W m' ρ2, bk := G.nx, rt := G.rt } ρ1 else G.nx ρ1
theorem ds_while {K : PySem.W.Frag} (hc : DT K c tt wt) (hb : DS K c ts ws) : DS K c (tWhile tt ts) (wWhile wt ws) := fun σ H0 H ρ D G re hw k => by
  obtain ⟨W, ⟨m0, w0⟩, turn⟩ := hw
  refine ⟨fun m σ' H' => ∃ A ρ', Ex H0 A ∧ RE K c A H' σ' ρ' ∧ W m ρ', ⟨m0, H0, ρ, Ex.refl _, re, w0⟩, fun m σ' H' hW => ?_⟩
  obtain ⟨A, ρ', e1, re1, hm⟩ := hW
  refine hc σ' A H' ρ' _ _ re1 (turn m ρ' hm) fun b ρ1 A1 B1 g e2 re2 => ?_
  cases b with
  | false => exact k.nx σ' ρ1 A1 B1 g (e1.trans e2) re2
  | true =>
    refine ⟨fun σ2 H2 => ∃ A2 ρ2, Ex H0 A2 ∧ RE K c A2 H2 σ2 ρ2 ∧ ∃ m', m' < m ∧ W m' ρ2, fun σ2 H2 hN => ?_, ?_⟩
    · obtain ⟨A2, ρ2, q1, q2, m', q3, q4⟩ := hN
      exact ⟨m', q3, A2, ρ2, q1, q2, q4⟩
    · refine hb σ' A1 B1 ρ1 _ _ re2 g ?_
      have nxt : ∀ σ4 ρ4 A4 B4, (∃ m', m' < m ∧ W m' ρ4) → Ex A1 A4 → RE K c A4 B4 σ4 ρ4 → ∃ A2 ρ2, Ex H0 A2 ∧ RE K c A2 B4 σ4 ρ2 ∧ ∃ m', m' < m ∧ W m' ρ2 := fun σ4 ρ4 A4 B4 h e r => ⟨A4, ρ4, e1.trans (e2.trans e), r, h⟩
      exact ⟨nxt, fun σ4 ρ4 A4 B4 h e r => k.nx σ4 ρ4 A4 B4 h (e1.trans (e2.trans e)) r, nxt, fun r ρ4 σ4 v A4 B4 h e q w => k.rt r ρ4 σ4 v A4 B4 h (e1.trans (e2.trans e)) q w⟩
theorem es_while {body : List Stmt} (hc : ET X c a tt wt) (hb : ESs X c body ts ws) (hp : PassesOwn (model X.prog X.w) X.A X.env X.xe := by exact PassesOwn.never) : ES X c (.While a body [] pos) (tWhile tt ts) (wWhile wt ws) := ⟨ps_while hp hc.p hb.p, ds_while hc.d hb.d⟩
end
end DL
set_option Elab.async false
set_option linter.all false
set_option maxRecDepth 100000
set_option maxHeartbeats 2000000
namespace DL
open PySem PySem.Spec PyProof.Rows L2 Evl

/-! ### a list under construction: as part of what stood at the entry -/
def Fx.ext (c : Fx) (D : Addr) (u : HO) : Fx where
  pa := c.pa
  He := upd c.He D u
  Hb := fun a => if a = D then none else c.Hb a
  io := c.io
  ent := fun a h => by
    by_cases z : a = D
    · exact ⟨u, by rw [z]; exact upd_same⟩
    · obtain ⟨w, hw⟩ := c.ent a h
      exact ⟨w, by rw [upd_ne z]; exact hw⟩
section
variable {K : PySem.W.Frag} {c : Fx} {H H' H0 H0' : Hp} {σ : L2.St} {ρ : SEnv} {D : Addr} {u : HO}
theorem RE.ext (r : RE K c H0 H σ ρ) (h : H D = some u) (h0 : H0 D = none) (no : NoOwn σ ρ D) : RE K (c.ext D u) H0 H σ ρ := by
  refine ⟨r.ex, fun a w ha n => ?_, fun a w ha hb => ?_, r.iz, r.len, r.fr, r.ow, fun i o p e e1 => ?_, r.io, r.dj⟩
  · by_cases z : a = D
    · subst z
      rw [show (c.ext a u).He a = upd c.He a u a from rfl, upd_same] at ha
      cases ha
      exact h
    · exact r.fm a w (by rw [← upd_ne (H := c.He) (o := u) z]; exact ha) n
  · by_cases z : a = D
    · subst z; exact h0
    · refine r.nw a w (by rw [← upd_ne (H := c.He) (o := u) z]; exact ha) ?_
      have : (if a = D then none else c.Hb a) = none := hb
      rw [if_neg z] at this
      exact this
  · have z : p ≠ D := fun z => by subst z; exact no i _ o e rfl e1
    show upd c.He D u p = none
    rw [upd_ne z]
    exact r.fh i o p e e1
theorem RE.unext (r : RE K (c.ext D u) H0 H σ ρ) (he : c.He D = none) : RE K c H0 H σ ρ ∧ H D = some u ∧ H0 D = none ∧ NoOwn σ ρ D := by
  have nio : ¬ c.io D := fun z => by
    obtain ⟨w, hw⟩ := c.ent D z
    rw [he] at hw; cases hw
  have up : ∀ a w, c.He a = some w → a ≠ D := fun a w ha z => by subst z; rw [he] at ha; cases ha
  have dd : (c.ext D u).He D = some u := upd_same
  have db : (c.ext D u).Hb D = none := if_pos rfl
  refine ⟨⟨r.ex, fun a w ha n => ?_, fun a w ha hb => ?_, r.iz, r.len, r.fr, r.ow, fun i o p e e1 => ?_, r.io, r.dj⟩, r.fm D u dd nio, r.nw D u dd db, fun i s o e e1 e2 => ?_⟩
  · refine r.fm a w ?_ n
    show upd c.He D u a = some w
    rw [upd_ne (up a w ha)]; exact ha
  · refine r.nw a w ?_ ?_
    · show upd c.He D u a = some w
      rw [upd_ne (up a w ha)]; exact ha
    · show (if a = D then none else c.Hb a) = none
      rw [if_neg (up a w ha)]; exact hb
  · have q := r.fh i o p e e1
    have z : p ≠ D := fun z => by subst z; rw [dd] at q; cases q
    have q' : upd c.He D u p = none := q
    rw [upd_ne z] at q'
    exact q'
  · cases s with
    | un => cases e1
    | r x =>
      cases x with
      | fr d => cases e1
      | ow o' =>
        have q := r.fh i o' D e e2
        rw [dd] at q; cases q
    | io o' =>
      obtain ⟨q1, q2⟩ := r.io i o' e
      rw [e2] at q1
      have q3 : (c.ext D u).pa i = D := (V.ref.inj (Option.some.inj (Option.some.inj q1))).symm
      rw [q3] at q2
      exact nio q2
/-- a thing that no slot owns and the base does not hold is changed -/
theorem RE.updT (r : RE K c H0 H σ ρ) (h0 : H0 D = none) (he : c.He D = none) (no : NoOwn σ ρ D) : RE K c H0 (upd H D u) σ ρ := by
  refine ⟨Ex.mut r.ex h0, fun a w ha n => ?_, r.nw, fun a ha => ?_, r.len, r.fr, fun i s o e e1 => ?_, r.fh, r.io, r.dj⟩
  · have z : a ≠ D := fun z => by subst z; rw [he] at ha; cases ha
    rw [upd_ne z]
    exact r.fm a w ha n
  · obtain ⟨q, w, hw⟩ := r.iz a ha
    refine ⟨q, ?_⟩
    by_cases z : a = D
    · subst z; exact ⟨u, upd_same⟩
    · exact ⟨w, by rw [upd_ne z]; exact hw⟩
  · obtain ⟨p, q1, q2, q3⟩ := r.ow i s o e e1
    have z : p ≠ D := fun z => by subst z; exact no i s o e e1 q1
    exact ⟨p, q1, q2, q3.up (Ex.refl _) fun w hw => by rw [upd_ne z]; exact hw⟩
def wipeS (ρ : SEnv) : List Nat → SEnv
  | [] => ρ
  | v :: vs => (wipeS ρ vs).set v .un
theorem RE.wipe (r : RE K c H0 H σ ρ) : ∀ vs : List Nat, RE K c H0 H (L2.wipe σ vs) (wipeS ρ vs)
  | [] => r
  | _ :: vs => (r.wipe vs).setU
theorem wipe_get (σ : L2.St) (i : Nat) : ∀ vs : List Nat, (L2.wipe σ vs)[i]? = if i ∈ vs then (if i < σ.length then some none else none) else σ[i]?
  | [] => by simp [L2.wipe]
  | v :: vs => by
    show ((L2.wipe σ vs).set v none)[i]? = _
    have ih := wipe_get σ i vs
    by_cases z : v = i
    · subst z
      by_cases hl : v < σ.length
      · rw [List.getElem?_set_self (by rw [wipe_length]; exact hl)]
        simp [hl]
      · rw [List.getElem?_eq_none (by rw [List.length_set, wipe_length]; omega)]
        simp [hl]
    · rw [List.getElem?_set_ne z, ih]
      have z' : ¬ i = v := fun q => z q.symm
      simp [z']
theorem wipeS_get (ρ : SEnv) (i : Nat) : ∀ vs : List Nat, i ∉ vs → (wipeS ρ vs)[i]? = ρ[i]?
  | [], _ => rfl
  | v :: vs, h => by
    simp only [List.mem_cons, not_or] at h
    show ((wipeS ρ vs).set v .un)[i]? = _
    rw [List.getElem?_set_ne (fun q => h.1 q.symm)]
    exact wipeS_get ρ i vs h.2
theorem wipe_same {σ2 : L2.St} {vs : List Nat} (hl : σ2.length = (L2.wipe σ vs).length) (h : ∀ i, i ∉ vs → σ2[i]? = (L2.wipe σ vs)[i]?) : L2.wipe σ2 vs = L2.wipe σ vs := by
  refine List.ext_getElem? fun i => ?_
  rw [wipe_length] at hl
  rw [wipe_get, wipe_get, hl]
  by_cases z : i ∈ vs
  · simp [z]
  · have q := h i z
    rw [wipe_get] at q
    simp only [z, if_false] at q ⊢
    exact q
def okS (vs : List Nat) (ρ : SEnv) : Bool := vs.all fun v => match ρ[v]? with
  | some .un => true
  | some (.r (.fr _)) => true
  | some (.r (.ow _)) => false
  | some (.io _) => false
  | none => false
def restS : List Nat → SEnv → SEnv → SEnv
  | [], _, ρ2 => ρ2
  | v :: vs, ρ1, ρ2 => (restS vs ρ1 ρ2).set v (match ρ1[v]? with | some s => s | none => .un)
theorem restS_len (ρ1 ρ2 : SEnv) : ∀ vs : List Nat, (restS vs ρ1 ρ2).length = ρ2.length
  | [] => rfl
  | v :: vs => by
    show ((restS vs ρ1 ρ2).set v _).length = _
    rw [List.length_set, restS_len ρ1 ρ2 vs]
theorem restS_get {ρ1 ρ2 : SEnv} {i : Nat} {s : Sl} : ∀ {vs : List Nat}, okS vs ρ1 = true → (restS vs ρ1 ρ2)[i]? = some s → (i ∈ vs ∧ ρ1[i]? = some s ∧ (s = .un ∨ ∃ d, s = .r (.fr d))) ∨ (i ∉ vs ∧ ρ2[i]? = some s)
  | [], _, h => .inr ⟨by simp, h⟩
  | v :: vs, ok, h => by
    have ok2 := ok
    unfold okS at ok
    rw [List.all_cons, Bool.and_eq_true] at ok
    rcases set_get (show ((restS vs ρ1 ρ2).set v (match ρ1[v]? with | some s => s | none => .un))[i]? = some s from h) with ⟨rfl, e, _⟩ | ⟨ne, e⟩
    · refine .inl ⟨by simp, ?_⟩
      have o1 := ok.1
      split at o1
      · rename_i q
        rw [q] at e
        have e : Sl.un = s := e
        exact ⟨by rw [q, e], .inl e.symm⟩
      · rename_i d q
        rw [q] at e
        have e : Sl.r (R.fr d) = s := e
        exact ⟨by rw [q, e], .inr ⟨d, e.symm⟩⟩
      · cases o1
      · cases o1
      · cases o1
    · rcases restS_get (show okS vs ρ1 = true from ok.2) e with ⟨q1, q2⟩ | ⟨q1, q2⟩
      · exact .inl ⟨List.mem_cons_of_mem _ q1, q2⟩
      · refine .inr ⟨?_, q2⟩
        simp only [List.mem_cons, not_or]
        exact ⟨fun z => ne z.symm, q1⟩
theorem RE.rest {ρ1 ρ2 : SEnv} {vs : List Nat} {A B : Hp} (r1 : RE K c A B σ ρ1) (ok : okS vs ρ1 = true) (e : Ex A H0) (r2 : RE K c H0 H (L2.wipe σ vs) ρ2) : RE K c H0 H σ (restS vs ρ1 ρ2) := by
  have wg : ∀ {i : Nat} {v : V}, i ∉ vs → (L2.wipe σ vs)[i]? = some (some v) → σ[i]? = some (some v) := fun {i v} z q => by
    rw [wipe_get, if_neg z] at q; exact q
  refine ⟨r2.ex, r2.fm, r2.nw, r2.iz, by rw [restS_len, ← r2.len, wipe_length], fun i d q => ?_, fun i s o q q1 => ?_, fun i o p q q1 => ?_, fun i o q => ?_, fun i j s t o o' p ne ei ej es et si sj => ?_⟩
  · rcases restS_get ok q with ⟨z1, z2, z3⟩ | ⟨z1, z2⟩
    · obtain ⟨v, w1, w2⟩ := r1.fr i d z2
      exact ⟨v, w1, w2.up e⟩
    · obtain ⟨v, w1, w2⟩ := r2.fr i d z2
      exact ⟨v, wg z1 w1, w2⟩
  · rcases restS_get ok q with ⟨z1, z2, z3⟩ | ⟨z1, z2⟩
    · rcases z3 with rfl | ⟨d, rfl⟩ <;> cases q1
    · obtain ⟨p, w1, w2, w3⟩ := r2.ow i s o z2 q1
      exact ⟨p, wg z1 w1, w2, w3⟩
  · rcases restS_get ok q with ⟨z1, z2, z3⟩ | ⟨z1, z2⟩
    · rcases z3 with z3 | ⟨d, z3⟩ <;> cases z3
    · refine r2.fh i o p z2 ?_
      rw [wipe_get, if_neg z1]; exact q1
  · rcases restS_get ok q with ⟨z1, z2, z3⟩ | ⟨z1, z2⟩
    · rcases z3 with z3 | ⟨d, z3⟩ <;> cases z3
    · obtain ⟨w1, w2⟩ := r2.io i o z2
      exact ⟨wg z1 w1, w2⟩
  · have back : ∀ (i : Nat) (s : Sl) (o : O), (restS vs ρ1 ρ2)[i]? = some s → s.o? = some o → i ∉ vs ∧ ρ2[i]? = some s := fun i s o q q1 => by
      rcases restS_get ok q with ⟨z1, z2, z3⟩ | z
      · rcases z3 with rfl | ⟨d, rfl⟩ <;> cases q1
      · exact z
    obtain ⟨a1, a2⟩ := back i s o ei es
    obtain ⟨b1, b2⟩ := back j t o' ej et
    exact r2.dj i j s t o o' p ne a2 b2 es et (by rw [wipe_get, if_neg a1]; exact si) (by rw [wipe_get, if_neg b1]; exact sj)
end

/-! ### comprehensions -/
structure ETs (X : Cx) (c : Fx) (ifs : List Expr) (tt : TT) (wt : WT) : Prop where
  p : PTs X ifs tt
  d : DT X.K c tt wt
def wYes : WT := fun ρ G => G true ρ
def lcI (vs : List Nat) (g : WG) (wt : WT) (we : WE) (ds : List D) (ρ : SEnv) (k : List D → SEnv → Prop) : Prop := ∃ I : Nat → List D → SEnv → Prop, I 0 [] ρ ∧
  (∀ (i : Nat) (d : D) (acc : List D) (ρ : SEnv), ds[i]? = some d → I i acc ρ → g d ρ fun ρ1 => wt ρ1 fun b ρ2 => if b = true then we ρ2 fun r ρ3 => I (i + 1) (acc ++ [r.d]) (wipeS ρ3 vs) else I (i + 1) acc (wipeS ρ2 vs)) ∧
  ∀ acc ρ, I ds.length acc ρ → k acc ρ
def lcGo (vs : List Nat) (g : WG) (wt : WT) (we : WE) : List D → List D → SEnv → (List D → SEnv → Prop) → Prop
  | [], acc, ρ, k => k acc ρ
  | d :: ds, acc, ρ, k => g d ρ fun ρ1 => wt ρ1 fun b ρ2 => if b = true then we ρ2 fun r ρ3 => lcGo vs g wt we ds (acc ++ [r.d]) (wipeS ρ3 vs) k else lcGo vs g wt we ds acc (wipeS ρ2 vs) k
theorem lcI_of {vs : List Nat} {g : WG} {wt : WT} {we : WE} {ds : List D} {ρ : SEnv} {k : List D → SEnv → Prop} (h : lcGo vs g wt we ds [] ρ k) : lcI vs g wt we ds ρ k := by
  refine ⟨fun i acc ρ => lcGo vs g wt we (ds.drop i) acc ρ k, h, fun i d acc ρ hd h => ?_, fun acc ρ h => ?_⟩
  · obtain ⟨hl, e⟩ := List.getElem?_eq_some_iff.mp hd
    have h : lcGo vs g wt we (ds.drop i) acc ρ k := h
    rw [List.drop_eq_getElem_cons hl, e] at h
    exact h
  · have h : lcGo vs g wt we (ds.drop ds.length) acc ρ k := h
    rw [List.drop_eq_nil_of_le (Nat.le_refl _)] at h
    exact h
def wLc (vs : List Nat) (wi : WI) (g : WG) (wt : WT) (we : WE) : WE := fun ρ G => wi ρ fun ds ρ1 => okS vs ρ1 = true ∧ ds.length < sizeLine ∧ lcI vs g wt we ds (wipeS ρ1 vs) fun acc ρ2 => G (.ow (.lst acc)) (restS vs ρ1 ρ2)
theorem de_lc {K : PySem.W.Frag} {c : Fx} {js vs : List Nat} {ti : TI} {wi : WI} {tg : TG} {g : WG} {tt : TT} {wt : WT} {te : TE} {we : WE} (hi : DI K c ti wi) (hg : ∀ c, DG K c js tg g) (ht : ∀ c, DT K c tt wt) (he : ∀ c, DE K c te we) (hj : ∀ j ∈ js, j ∈ vs) :
    DE K c (tLc ti tg tt te vs) (wLc vs wi g wt we) := fun σ H0 H ρ Q G re hw k => hi σ H0 H ρ _ _ re hw fun ds ρ1 J A B hG e1 re1 ok D hD => by
  obtain ⟨okv, hlen, I, i0, turn, fin⟩ := hG
  have heD : c.He D = none := re1.he hD
  have h0D : A D = none := fresh_back re1.ex hD
  have noD : NoOwn σ ρ1 D := re1.noOwn_new hD
  have rw1 : RE K c A (upd B D (.lst [])) (L2.wipe σ vs) (wipeS ρ1 vs) := (re1.grow ⟨Ex.refl _, re1.ex.trans (Ex.new hD), Ex.new hD, fun _ _ _ h => h⟩).wipe vs
  have noW : NoOwn (L2.wipe σ vs) (wipeS ρ1 vs) D := fun i s o q1 q2 q3 => by
    obtain ⟨p, z1, z2, z3⟩ := (re1.wipe vs).ow i s o q1 q2
    rw [q3] at z1
    cases z1
    obtain ⟨w, hw⟩ := z3.some
    rw [hD] at hw
    cases hw
  refine ⟨fun i m H' => ∃ A' ρ' acc va, Ex A A' ∧ RE K c A' H' (L2.wipe σ vs) ρ' ∧ A' D = none ∧ NoOwn (L2.wipe σ vs) ρ' D ∧ H' D = some (.lst va) ∧ RpA K A' va acc ∧ acc.length ≤ i ∧ i + m = ds.length ∧ I i acc ρ',
    ⟨ds.length, A, wipeS ρ1 vs, [], [], Ex.refl _, rw1, h0D, noW, upd_same, .nil, Nat.le_refl _, Nat.zero_add _, i0⟩, fun i m H' hW => ?_⟩
  obtain ⟨A', ρ', acc, va, e2, re2, a0, no, hl, rv, hacc, hm, hgo⟩ := hW
  obtain ⟨st, go⟩ := ok A' H' i e2 re2.ex
  by_cases hlt : i < ds.length
  · obtain ⟨jg, jy⟩ := go _ (List.getElem?_eq_getElem hlt)
    refine .inr ⟨jg, fun H2 => ∃ A2 ρ2 acc2 va2, Ex A A2 ∧ RE K c A2 H2 (L2.wipe σ vs) ρ2 ∧ A2 D = none ∧ NoOwn (L2.wipe σ vs) ρ2 D ∧ H2 D = some (.lst va2) ∧ RpA K A2 va2 acc2 ∧ acc2.length ≤ i + 1 ∧ I (i + 1) acc2 ρ2, fun H2 hN => ?_, fun x H2 hy => ?_⟩
    · obtain ⟨A2, ρ2, acc2, va2, q1, q2, q3, q4, q5, q6, q7, q8⟩ := hN
      exact ⟨m - 1, by omega, A2, ρ2, acc2, va2, q1, q2, q3, q4, q5, q6, q7, by omega, q8⟩
    · obtain ⟨A2, gr, rx⟩ := jy x H2 hy
      have re3 := re2.grow gr
      have hl3 : H2 D = some (.lst va) := gr.h _ _ hl
      have a3 : A2 D = none := gr.n D _ hl a0
      have rex := re3.ext hl3 a3 no
      refine hg (c.ext D (.lst va)) (L2.wipe σ vs) A2 H2 ρ' x _ _ _ rex rx (turn i _ acc ρ' (List.getElem?_eq_getElem hlt) hgo) fun σ3 ρ3 A3 B3 hw3 e3 re4 hlen3 hsame => ?_
      have ws : L2.wipe σ3 vs = L2.wipe σ vs := wipe_same hlen3 fun i hi => hsame i fun z => hi (hj i z)
      refine ⟨ws, ht (c.ext D (.lst va)) σ3 A3 B3 ρ3 _ _ re4 hw3 fun b ρ4 A4 B4 hw4 e4 re5 => ?_⟩
      cases b with
      | false =>
        obtain ⟨re6, z1, z2, z3⟩ := re5.unext heD
        have re7 := re6.wipe vs
        rw [ws] at re7
        refine ⟨A4, wipeS ρ4 vs, acc, va, e2.trans (gr.b.trans (e3.trans e4)), re7, z2, fun i s o q1 q2 q3 => ?_, z1, rv.up (gr.b.trans (e3.trans e4)), by omega, hw4⟩
        rw [← ws] at q3
        obtain ⟨p, y1, y2, y3⟩ := (re5.wipe vs).ow i s o q1 q2
        rw [q3] at y1
        cases y1
        have := ((re5.wipe vs).unext heD).2.2.2 i s o q1 q2 q3
        exact this
      | true =>
        show te σ3 B4 _
        refine he (c.ext D (.lst va)) σ3 A4 B4 ρ4 _ _ re5 hw4 fun r ρ5 y A5 B5 hw5 e5 re6 rr => ?_
        obtain ⟨A6, e6, re7, rp⟩ := RR.fz re6 rr
        obtain ⟨re8, z1, z2, z3⟩ := re7.unext heD
        have e26 : Ex A' A6 := gr.b.trans (e3.trans (e4.trans (e5.trans e6)))
        refine ⟨va, z1, ?_, ?_⟩
        · rw [rv.length]
          omega
        · have re9 := (re8.updT (u := .lst (va ++ [y])) z2 heD z3).wipe vs
          rw [ws] at re9
          refine ⟨A6, wipeS ρ5 vs, acc ++ [r.d], va ++ [y], e2.trans e26, re9, z2, fun i s o q1 q2 q3 => ?_, upd_same, (rv.up e26).append (.one rp), by rw [List.length_append]; simp; omega, hw5⟩
          rw [← ws] at q3
          exact ((re7.wipe vs).unext heD).2.2.2 i s o q1 q2 q3
  · have ei : i = ds.length := by omega
    subst ei
    refine .inl ⟨st (Nat.le_refl _), ?_⟩
    have hgo := fin acc ρ' hgo
    have re3 := re1.rest okv e2 re2
    refine k _ _ _ A' H' hgo (e1.trans e2) re3 ⟨D, rfl, a0, heD, ⟨va, hl, rv⟩, fun i s o q1 q2 q3 => ?_⟩
    rcases restS_get okv q1 with ⟨z1, z2, z3⟩ | ⟨z1, z2⟩
    · rcases z3 with rfl | ⟨d, rfl⟩ <;> cases q2
    · exact no i s o z2 q2 (by rw [wipe_get, if_neg z1]; exact q3)
section
variable {X : Cx} {c : Fx} {a b e : Expr} {ta tb te : TE} {wa wb wd : WD} {we wf : WE} {pos p : Pos} {tt : TT} {wt : WT}
theorem ets_nil : ETs X c [] tYes wYes := ⟨pts_nil, fun σ H0 H ρ Q G re hw k => k true ρ H0 H hw (Ex.refl _) re⟩
theorem ets_one (h : ET X c a tt wt) : ETs X c [a] tt wt := ⟨pts_one h.p, h.d⟩
section
variable {elt tg iter : Expr} {ifs : List Expr} {scope : Scope} {own : List (Str × Nat)} {js vs : List Nat} {ti : TI} {wi : WI} {g : Shared → Hp → Addr → List (Str × Addr) → List Addr → TG} {wg : WG} {tt : Shared → Hp → Addr → List (Str × Addr) → List Addr → TT} {te : Shared → Hp → Addr → List (Str × Addr) → List Addr → TE}
theorem er_lc (hN : X.N.Nodup) (hi : EI X c tg iter ti wi) (ok : BlkOk X.N X.env.scope scope own) (hv : own.map (·.2) = vs)
    (hg : ∀ (c : Fx) (s : Shared) (H : Hp) (C : Addr) (cl : List (Str × Addr)) (fp : List Addr), EG (X.blk s H scope (compEnvC scope cl C X.env) fp) c js tg (g s H C cl fp) wg)
    (ht : ∀ (c : Fx) (s : Shared) (H : Hp) (C : Addr) (cl : List (Str × Addr)) (fp : List Addr), ETs (X.blk s H scope (compEnvC scope cl C X.env) fp) c ifs (tt s H C cl fp) wt)
    (he : ∀ (c : Fx) (s : Shared) (H : Hp) (C : Addr) (cl : List (Str × Addr)) (fp : List Addr), ER (X.blk s H scope (compEnvC scope cl C X.env) fp) c elt (te s H C cl fp) we)
    (eg : ∀ s H C cl fp, g s H C cl fp = g X.s_0 X.H_0 0 [] [] := by intros; rfl) (et : ∀ s H C cl fp, tt s H C cl fp = tt X.s_0 X.H_0 0 [] [] := by intros; rfl) (ee : ∀ s H C cl fp, te s H C cl fp = te X.s_0 X.H_0 0 [] [] := by intros; rfl)
    (hj : ∀ j ∈ js, j ∈ vs := by decide) (hc : X.calm = true := by rfl) (hs : ∀ x, foldedSetIterable iter X.env x = pure x := by intro _; rfl) :
    ER X c (.ListComp elt [⟨tg, iter, ifs, 0⟩] scope pos) (tLc ti (g X.s_0 X.H_0 0 [] []) (tt X.s_0 X.H_0 0 [] []) (te X.s_0 X.H_0 0 [] []) vs) (wLc vs wi wg wt we) := by
  subst hv
  exact ⟨pe_lc hc hN hi.p ok (fun s H C cl fp => eg s H C cl fp ▸ (hg c s H C cl fp).p) (fun s H C cl fp => et s H C cl fp ▸ (ht c s H C cl fp).p) (fun s H C cl fp => ee s H C cl fp ▸ (he c s H C cl fp).p) hs,
    de_lc hi.d (fun c' => (hg c' X.s_0 X.H_0 0 [] []).d) (fun c' => (ht c' X.s_0 X.H_0 0 [] []).d) (fun c' => (he c' X.s_0 X.H_0 0 [] []).d) hj⟩
/-- y = [..] -/
theorem es_setLc {i : Nat} {y : Str} {py : Pos} (hN : X.N.Nodup) (hy : X.N[i]? = some y) (hyl : X.env.scope.names.lookup y = some .local)
    (hsw : swapsWith (.ListComp elt [⟨tg, iter, ifs, 0⟩] scope p) (some (.Name y py)) pos.line X.env = pure true) (hi : EI X c tg iter ti wi) (ok : BlkOk X.N X.env.scope scope own) (hv : own.map (·.2) = vs)
    (hg : ∀ (c : Fx) (s : Shared) (H : Hp) (C : Addr) (cl : List (Str × Addr)) (fp : List Addr), EG (X.blk s H scope (compEnvC scope cl C X.env) fp) c js tg (g s H C cl fp) wg)
    (ht : ∀ (c : Fx) (s : Shared) (H : Hp) (C : Addr) (cl : List (Str × Addr)) (fp : List Addr), ETs (X.blk s H scope (compEnvC scope cl C X.env) fp) c ifs (tt s H C cl fp) wt)
    (he : ∀ (c : Fx) (s : Shared) (H : Hp) (C : Addr) (cl : List (Str × Addr)) (fp : List Addr), ER (X.blk s H scope (compEnvC scope cl C X.env) fp) c elt (te s H C cl fp) we)
    (eg : ∀ s H C cl fp, g s H C cl fp = g X.s_0 X.H_0 0 [] [] := by intros; rfl) (et : ∀ s H C cl fp, tt s H C cl fp = tt X.s_0 X.H_0 0 [] [] := by intros; rfl) (ee : ∀ s H C cl fp, te s H C cl fp = te X.s_0 X.H_0 0 [] [] := by intros; rfl)
    (hj : ∀ j ∈ js, j ∈ vs := by decide) (hc : X.calm = true := by rfl) (hs : ∀ x, foldedSetIterable iter X.env x = pure x := by intro _; rfl) :
    ES X c (.Assign [.Name y py] (.ListComp elt [⟨tg, iter, ifs, 0⟩] scope p) pos) (tAsg (tLc ti (g X.s_0 X.H_0 0 [] []) (tt X.s_0 X.H_0 0 [] []) (te X.s_0 X.H_0 0 [] []) vs) (gName i)) (wAsg i (wLc vs wi wg wt we)) := by
  subst hv
  exact ⟨ps_setLc hc hN hy hyl hsw hi.p ok (fun s H C cl fp => eg s H C cl fp ▸ (hg c s H C cl fp).p) (fun s H C cl fp => et s H C cl fp ▸ (ht c s H C cl fp).p) (fun s H C cl fp => ee s H C cl fp ▸ (he c s H C cl fp).p) hs,
    ds_asg (de_lc hi.d (fun c' => (hg c' X.s_0 X.H_0 0 [] []).d) (fun c' => (ht c' X.s_0 X.H_0 0 [] []).d) (fun c' => (he c' X.s_0 X.H_0 0 [] []).d) hj)⟩
end

/-! ### a op1 b op2 c op3 d -/
def wChain3 (f f' f2 : F2) (wa wb w3 w4 : WD) : WE := fun ρ G => wa ρ fun d ρ1 => wb ρ1 fun e ρ2 => f d e fun z => onB z.d fun k => if k = true then w3 ρ2 fun g ρ3 => f' e g fun z' => onB z'.d fun k' => if k' = true then w4 ρ3 fun h ρ4 => f2 g h fun z2 => G z2 ρ4 else G (.fr (.bl false)) ρ3 else G (.fr (.bl false)) ρ2
def tChain3 (r r' r2 : R2) (ta tb t3 t4 : TE) : TE := fun σ H Q => ta σ H fun x H1 => tb σ H1 fun y H2 => r x y H2 fun z H3 => ∃ k, z = .bl k ∧
  (if k = true then t3 σ H3 fun u H4 => r' y u H4 fun z' H5 => ∃ k', z' = .bl k' ∧ (if k' = true then t4 σ H5 fun v H6 => r2 u v H6 Q else Q (.bl false) H5) else Q (.bl false) H3)
theorem pe_chain3 {e3 e4 : Expr} {t3 t4 : TE} {op op' op2 : CmpOp} {r r' r2 : R2} (ho : OpR X (compareOp op) r) (ho' : OpR X (compareOp op') r') (ho2 : OpR X (compareOp op2) r2) (ha : PE X a ta) (hb : PE X b tb) (h3 : PE X e3 t3) (h4 : PE X e4 t4)
    (hm : lastMarks [op, op', op2] [b, e3, e4] = false) : PE X (.Compare a [op, op', op2] [b, e3, e4] pos) (tChain3 r r' r2 ta tb t3 t4) := by
  refine ⟨fun pins s σ H Q I h => ?_⟩
  refine Compare_chain (thn (ha.run pins s σ H _ I h) ?_) hm
  rintro v s1 ⟨x, H1, I1, r1, q1⟩
  refine chain_link (thn (hb.run pins s1 σ H1 _ I1 q1) ?_)
  rintro u s2 ⟨y, H2, I2, ry, q2⟩
  refine thn (ho pins s2 σ H2 x y v u _ I2 r1 ry q2) ?_
  rintro d s3 ⟨z, H3, I3, rz, k, e, q3⟩
  subst e
  cases rz
  refine wpAny_truthy_bool ?_
  cases k with
  | false => exact ite_ff ⟨.bl false, H3, I3, rfl, q3⟩
  | true =>
    refine ite_tt (chain_link (thn (h3.run pins s3 σ H3 _ I3 q3) ?_))
    rintro w4 s4 ⟨y3, H4, I4, r4, q4⟩
    refine thn (ho' pins s4 σ H4 y y3 u w4 _ I4 ry r4 q4) ?_
    rintro d s5 ⟨z, H5, I5, rz, k, e, q5⟩
    subst e
    cases rz
    refine wpAny_truthy_bool ?_
    cases k with
    | false => exact ite_ff ⟨.bl false, H5, I5, rfl, q5⟩
    | true =>
      refine ite_tt (chain_last (thn (h4.run pins s5 σ H5 _ I5 q5) ?_))
      rintro w6 s6 ⟨y4, H6, I6, r6, q6⟩
      exact ho2 pins s6 σ H6 y3 y4 w4 w6 Q I6 r4 r6 q6
theorem pt_chain3 {e3 e4 : Expr} {t3 t4 : TE} {op op' op2 : CmpOp} {r r' r2 : R2} (ho : OpR X (compareOp op) r) (ho' : OpR X (compareOp op') r') (ho2 : OpR X (compareOp op2) r2) (ha : PE X a ta) (hb : PE X b tb) (h3 : PE X e3 t3) (h4 : PE X e4 t4)
    (hm : lastMarks [op, op', op2] [b, e3, e4] = false) : PT X (.Compare a [op, op', op2] [b, e3, e4] pos) (tTest (tChain3 r r' r2 ta tb t3 t4)) := by
  refine ⟨fun pins s σ H Q I h => ?_⟩
  refine isTrue_chain (thn (ha.run pins s σ H _ I h) ?_) hm
  rintro v s1 ⟨x, H1, I1, r1, q1⟩
  refine test_link (thn (hb.run pins s1 σ H1 _ I1 q1) ?_)
  rintro u s2 ⟨y, H2, I2, ry, q2⟩
  refine thn (ho pins s2 σ H2 x y v u _ I2 r1 ry q2) ?_
  rintro d s3 ⟨z, H3, I3, rz, k, e, q3⟩
  subst e
  cases rz
  refine wpAny_truthy_bool ?_
  cases k with
  | false =>
    obtain ⟨k', e', q'⟩ := q3
    cases e'
    exact ite_ff ⟨H3, I3, q'⟩
  | true =>
    refine ite_tt (test_link (thn (h3.run pins s3 σ H3 _ I3 q3) ?_))
    rintro w4 s4 ⟨y3, H4, I4, r4, q4⟩
    refine thn (ho' pins s4 σ H4 y y3 u w4 _ I4 ry r4 q4) ?_
    rintro d s5 ⟨z, H5, I5, rz, k, e, q5⟩
    subst e
    cases rz
    refine wpAny_truthy_bool ?_
    cases k with
    | false =>
      obtain ⟨k', e', q'⟩ := q5
      cases e'
      exact ite_ff ⟨H5, I5, q'⟩
    | true =>
      refine ite_tt (test_last (thn (h4.run pins s5 σ H5 _ I5 q5) ?_))
      rintro w6 s6 ⟨y4, H6, I6, r6, q6⟩
      refine thn (ho2 pins s6 σ H6 y3 y4 w4 w6 _ I6 r4 r6 q6) ?_
      rintro d s7 ⟨z, H7, I7, rz, k, e, q7⟩
      subst e
      cases rz
      exact wpAny_truthy_bool ⟨H7, I7, q7⟩
theorem er_chain3 {e3 e4 : Expr} {t3 t4 : TE} {w3 w4 : WD} {op op' op2 : CmpOp} {r r' r2 : R2} {f f' f2 : F2} (ho : OpR X (compareOp op) r) (ho' : OpR X (compareOp op') r') (ho2 : OpR X (compareOp op2) r2) (hr : OD X.K r f) (hr' : OD X.K r' f') (hr2 : OD X.K r2 f2) (ha : ED X c a ta wa) (hb : ED X c b tb wb) (h3 : ED X c e3 t3 w3) (h4 : ED X c e4 t4 w4)
    (hm : lastMarks [op, op', op2] [b, e3, e4] = false := by with_unfolding_all rfl) : ER X c (.Compare a [op, op', op2] [b, e3, e4] pos) (tChain3 r r' r2 ta tb t3 t4) (wChain3 f f' f2 wa wb w3 w4) :=
  ⟨pe_chain3 ho ho' ho2 ha.p hb.p h3.p h4.p hm, fun σ H0 H ρ Q G re hw k => ha.d σ H0 H ρ _ _ re hw fun d ρ1 x A B g1 e1 re1 rp1 => hb.d σ A B ρ1 _ _ re1 g1 fun e ρ2 y A2 B2 g2 e2 re2 rp2 =>
    hr x y d e A2 B2 _ _ re2.ex (.inl (rp1.up e2)) (.inl rp2) g2 fun z v A3 B3 gz gr fr => by
      obtain ⟨k1, ek, hk⟩ := onB_of gz
      have ev := fr.bl ek
      have re3 := re2.grow gr
      refine ⟨k1, ev, ?_⟩
      cases k1 with
      | true =>
        show t3 σ B3 _
        refine h3.d σ A3 B3 ρ2 _ _ re3 hk fun g ρ3 u A4 B4 g4 e4 re4 rp4 => hr' y u e g A4 B4 _ _ re4.ex (.inl ((rp2.up gr.b).up e4)) (.inl rp4) g4 fun z' v' A5 B5 gz' gr' fr' => ?_
        obtain ⟨k2, ek2, hk2⟩ := onB_of gz'
        have ev2 := fr'.bl ek2
        have re5 := re4.grow gr'
        refine ⟨k2, ev2, ?_⟩
        have e05 : Ex H0 A5 := e1.trans (e2.trans (gr.b.trans (e4.trans gr'.b)))
        cases k2 with
        | true =>
          show t4 σ B5 _
          exact h4.d σ A5 B5 ρ3 _ _ re5 hk2 fun h ρ4 u2 A6 B6 g6 e6 re6 rp6 => hr2 u u2 g h A6 B6 Q _ re6.ex (.inl ((rp4.up gr'.b).up e6)) (.inl rp6) g6 fun z2 v2 A7 B7 gz2 gr2 fr2 => k z2 ρ4 v2 A7 B7 gz2 (e05.trans (e6.trans gr2.b)) (re6.grow gr2) (fr2.rr re6)
        | false =>
          show Q (.bl false) B5
          exact k _ ρ3 _ A5 B5 hk2 e05 re5 (.bl _)
      | false =>
        show Q (.bl false) B3
        exact k _ ρ2 _ A3 B3 hk (e1.trans (e2.trans gr.b)) re3 (.bl _)⟩
theorem et_chain3 {e3 e4 : Expr} {t3 t4 : TE} {w3 w4 : WD} {op op' op2 : CmpOp} {r r' r2 : R2} {f f' f2 : F2} (ho : OpR X (compareOp op) r) (ho' : OpR X (compareOp op') r') (ho2 : OpR X (compareOp op2) r2) (hr : OD X.K r f) (hr' : OD X.K r' f') (hr2 : OD X.K r2 f2) (ha : ED X c a ta wa) (hb : ED X c b tb wb) (h3 : ED X c e3 t3 w3) (h4 : ED X c e4 t4 w4)
    (hm : lastMarks [op, op', op2] [b, e3, e4] = false := by with_unfolding_all rfl) : ET X c (.Compare a [op, op', op2] [b, e3, e4] pos) (tTest (tChain3 r r' r2 ta tb t3 t4)) (wTb (wChain3 f f' f2 wa wb w3 w4)) :=
  ⟨pt_chain3 ho ho' ho2 ha.p hb.p h3.p h4.p hm, dt_test (er_chain3 (pos := pos) ho ho' ho2 hr hr' hr2 ha hb h3 h4 hm).d⟩
end
end DL
set_option Elab.async false
set_option linter.all false
set_option maxRecDepth 100000
set_option maxHeartbeats 2000000
namespace DL
open PySem PySem.Spec PyProof.Rows L2 Evl

/-! ### built-ins by data -/
section
variable {K : PySem.W.Frag} {H0 H : Hp} {v v1 v2 : V} {vs : List V} {d d1 d2 : D} {ds : List D}
theorem RqA.one (h : RqA K H0 H vs [d]) : ∃ v, vs = [v] ∧ Rq K H0 H v d := by
  cases h with
  | cons a b => cases b; exact ⟨_, rfl, a⟩
theorem RqA.two (h : RqA K H0 H vs [d1, d2]) : ∃ v1 v2, vs = [v1, v2] ∧ Rq K H0 H v1 d1 ∧ Rq K H0 H v2 d2 := by
  cases h with
  | cons a b =>
    obtain ⟨v2, rfl, r⟩ := b.one
    exact ⟨_, _, rfl, a, r⟩
end
def fLen : F1 := fun ds G => match ds with
  | [.lst xs] => G (.fr (.int (xs.length : Int)))
  | [.tup xs] => G (.fr (.int (xs.length : Int)))
  | [.str x] => x.length ≤ sizeLine ∧ G (.fr (.int (x.length : Int)))
  | _ => False
theorem oc_len {K : PySem.W.Frag} : OC K (fun xs H Q => ∃ x n, xs = [x] ∧ LenV K x H n ∧ Q (.int n) H) fLen := fun xs ds H0 H Q G ex r hf k => by
  unfold fLen at hf
  split at hf
  · obtain ⟨v, rfl, rv⟩ := r.one
    obtain ⟨p, vs, rfl, h1, h2⟩ := rv.lst ex
    exact ⟨_, _, rfl, .inl ⟨vs, .inl (.inl h1), h2.length.symm⟩, k _ _ H0 H hf (Grow.refl ex) (.int _)⟩
  · obtain ⟨v, rfl, rv⟩ := r.one
    obtain ⟨p, vs, rfl, h1, h2⟩ := rv.tup ex
    exact ⟨_, _, rfl, .inr ⟨vs, h1, h2.length.symm⟩, k _ _ H0 H hf (Grow.refl ex) (.int _)⟩
  · obtain ⟨v, rfl, rv⟩ := r.one
    rw [rv.str]
    exact ⟨_, _, rfl, ⟨hf.1, rfl⟩, k _ _ H0 H hf.2 (Grow.refl ex) (.int _)⟩
  · exact hf.elim
def fAbs : F1 := fun ds G => match ds with
  | [.int i] => G (.fr (.int (if i < 0 then -i else i)))
  | _ => False
theorem oc_abs {K : PySem.W.Frag} : OC K (fun xs H Q => ∃ i, xs = [.int i] ∧ Q (.int (if i < 0 then -i else i)) H) fAbs := fun xs ds H0 H Q G ex r hf k => by
  unfold fAbs at hf
  split at hf
  · obtain ⟨v, rfl, rv⟩ := r.one
    rw [rv.int]
    exact ⟨_, rfl, k _ _ H0 H hf (Grow.refl ex) (.int _)⟩
  · exact hf.elim
def fInt : F1 := fun ds G => match ds with
  | [.int i] => G (.fr (.int i))
  | [.bl k] => G (.fr (.int (if k then 1 else 0)))
  | _ => False
theorem oc_int {K : PySem.W.Frag} : OC K (fun xs H Q => (∃ i, xs = [.int i] ∧ Q (.int i) H) ∨ ∃ k, xs = [.bl k] ∧ Q (.int (if k then 1 else 0)) H) fInt := fun xs ds H0 H Q G ex r hf k => by
  unfold fInt at hf
  split at hf
  · obtain ⟨v, rfl, rv⟩ := r.one
    rw [rv.int]
    exact .inl ⟨_, rfl, k _ _ H0 H hf (Grow.refl ex) (.int _)⟩
  · obtain ⟨v, rfl, rv⟩ := r.one
    rw [rv.bl]
    exact .inr ⟨_, rfl, k _ _ H0 H hf (Grow.refl ex) (.int _)⟩
  · exact hf.elim
def fMax2 : F1 := fun ds G => match ds with
  | [.int i, .int j] => G (.fr (.int (if j > i then j else i)))
  | _ => False
theorem oc_max2 {K : PySem.W.Frag} : OC K (fun xs H Q => ∃ i j, xs = [.int i, .int j] ∧ Q (.int (if j > i then j else i)) H) fMax2 := fun xs ds H0 H Q G ex r hf k => by
  unfold fMax2 at hf
  split at hf
  · obtain ⟨v1, v2, rfl, r1, r2⟩ := r.two
    rw [r1.int, r2.int]
    exact ⟨_, _, rfl, k _ _ H0 H hf (Grow.refl ex) (.int _)⟩
  · exact hf.elim
def fMin2 : F1 := fun ds G => match ds with
  | [.int i, .int j] => G (.fr (.int (if j < i then j else i)))
  | _ => False
theorem oc_min2 {K : PySem.W.Frag} : OC K (fun xs H Q => ∃ i j, xs = [.int i, .int j] ∧ Q (.int (if j < i then j else i)) H) fMin2 := fun xs ds H0 H Q G ex r hf k => by
  unfold fMin2 at hf
  split at hf
  · obtain ⟨v1, v2, rfl, r1, r2⟩ := r.two
    rw [r1.int, r2.int]
    exact ⟨_, _, rfl, k _ _ H0 H hf (Grow.refl ex) (.int _)⟩
  · exact hf.elim
/-- lists of ints -/
def intsL (ds : List D) (k : List Int → Prop) : Prop := match ds with
  | [.lst xs] => ∃ ns : List Int, xs = ns.map D.int ∧ k ns
  | _ => False
theorem intsL_of {K : PySem.W.Frag} {H0 H : Hp} {vs : List V} {ds : List D} {k : List Int → Prop} (h : intsL ds k) (ex : Ex H0 H) (r : RqA K H0 H vs ds) : ∃ a ns, vs = [V.ref a] ∧ SqL K H a (ns.map V.int) ∧ k ns := by
  unfold intsL at h
  split at h
  · obtain ⟨ns, rfl, q⟩ := h
    obtain ⟨v, rfl, rv⟩ := r.one
    obtain ⟨p, us, rfl, h1, h2⟩ := rv.lst ex
    rw [h2.ints] at h1
    exact ⟨p, ns, rfl, .inl (.inl h1), q⟩
  · exact h.elim
def fSum : F1 := fun ds G => intsL ds fun ns => G (.fr (.int ns.sum))
theorem oc_sum {K : PySem.W.Frag} : OC K (rSum K) fSum := fun xs ds H0 H Q G ex r hf k => by
  obtain ⟨a, ns, rfl, h1, h2⟩ := intsL_of hf ex r
  exact ⟨a, ns, rfl, h1, k _ _ H0 H h2 (Grow.refl ex) (.int _)⟩
/-- the least, the greatest -/
def minI : List Int → Int
  | [] => 0
  | [x] => x
  | x :: y :: r => min x (minI (y :: r))
def maxI : List Int → Int
  | [] => 0
  | [x] => x
  | x :: y :: r => max x (maxI (y :: r))
theorem minI_mem : ∀ {ns : List Int}, ns ≠ [] → minI ns ∈ ns
  | [], h => (h rfl).elim
  | [x], _ => by simp [minI]
  | x :: y :: r, _ => by
    have ih := minI_mem (ns := y :: r) (by simp)
    unfold minI
    by_cases z : x ≤ minI (y :: r)
    · rw [Int.min_eq_left z]; simp
    · rw [Int.min_eq_right (by omega)]; exact List.mem_cons_of_mem _ ih
theorem minI_le : ∀ {ns : List Int} {y : Int}, y ∈ ns → minI ns ≤ y
  | [], _, h => by simp at h
  | [x], y, h => by simp at h; subst h; exact Int.le_refl _
  | x :: z :: r, y, h => by
    unfold minI
    rcases List.mem_cons.mp h with rfl | h
    · exact Int.min_le_left _ _
    · exact Int.le_trans (Int.min_le_right _ _) (minI_le h)
theorem maxI_mem : ∀ {ns : List Int}, ns ≠ [] → maxI ns ∈ ns
  | [], h => (h rfl).elim
  | [x], _ => by simp [maxI]
  | x :: y :: r, _ => by
    have ih := maxI_mem (ns := y :: r) (by simp)
    unfold maxI
    by_cases z : maxI (y :: r) ≤ x
    · rw [Int.max_eq_left z]; simp
    · rw [Int.max_eq_right (by omega)]; exact List.mem_cons_of_mem _ ih
theorem maxI_le : ∀ {ns : List Int} {y : Int}, y ∈ ns → y ≤ maxI ns
  | [], _, h => by simp at h
  | [x], y, h => by simp at h; subst h; exact Int.le_refl _
  | x :: z :: r, y, h => by
    unfold maxI
    rcases List.mem_cons.mp h with rfl | h
    · exact Int.le_max_left _ _
    · exact Int.le_trans (maxI_le h) (Int.le_max_right _ _)
def fMin : F1 := fun ds G => intsL ds fun ns => 0 < ns.length ∧ G (.fr (.int (minI ns)))
theorem oc_min {K : PySem.W.Frag} : OC K (rMin K) fMin := fun xs ds H0 H Q G ex r hf k => by
  obtain ⟨a, ns, rfl, h1, h2, h3⟩ := intsL_of hf ex r
  refine ⟨a, ns, rfl, h1, h2, fun m hm hle => ?_⟩
  have ne : ns ≠ [] := fun z => by subst z; simp at h2
  have e : m = minI ns := Int.le_antisymm (hle _ (minI_mem ne)) (minI_le hm)
  rw [e]
  exact k _ _ H0 H h3 (Grow.refl ex) (.int _)
def fMax : F1 := fun ds G => intsL ds fun ns => 0 < ns.length ∧ G (.fr (.int (maxI ns)))
theorem oc_max {K : PySem.W.Frag} : OC K (rMax K) fMax := fun xs ds H0 H Q G ex r hf k => by
  obtain ⟨a, ns, rfl, h1, h2, h3⟩ := intsL_of hf ex r
  refine ⟨a, ns, rfl, h1, h2, fun m hm hle => ?_⟩
  have ne : ns ≠ [] := fun z => by subst z; simp at h2
  have e : m = maxI ns := Int.le_antisymm (maxI_le hm) (hle _ (maxI_mem ne))
  rw [e]
  exact k _ _ H0 H h3 (Grow.refl ex) (.int _)
def fSorted : F1 := fun ds G => intsL ds fun ns => ∀ ms : List Int, ms.Perm ns → ms.Pairwise (· ≤ ·) → G (.ow (.lst (ms.map D.int)))
theorem oc_sorted {K : PySem.W.Frag} : OC K (rSortedI K) fSorted := fun xs ds H0 H Q G ex r hf k => by
  obtain ⟨a, ns, rfl, h1, h2⟩ := intsL_of hf ex r
  refine ⟨a, ns, rfl, h1, fun ms p hp hs hn => ?_⟩
  obtain ⟨g, f⟩ := new_lst ex hn (RpA.ofInts ms)
  exact k _ _ _ _ (h2 ms hp hs) g f
def fList : F1 := fun ds G => match ds with
  | [.lst xs] => G (.ow (.lst xs))
  | [.tup xs] => G (.ow (.lst xs))
  | [.ro xs] => G (.ow (.lst xs))
  | _ => False
theorem Rq.ro {K : PySem.W.Frag} {H0 H : Hp} {v : V} {ds : List D} (h : Rq K H0 H v (.ro ds)) (e : Ex H0 H) : ∃ p vs, v = .ref p ∧ SqL K H p vs ∧ RpA K H0 vs ds := by
  rcases h with h | ⟨p, o, rfl, h1, h⟩
  · cases h with
    | ro h1 h2 => exact ⟨_, _, rfl, ex_l e h1, h2⟩
  · cases o; cases h1
theorem oc_list {K : PySem.W.Frag} : OC K (fun xs H Q => ∃ p ys, xs = [.ref p] ∧ (SqL K H p ys ∨ SqT K H p ys) ∧ ∀ l, H l = none → Q (.ref l) (upd H l (.lst ys))) fList := fun xs ds H0 H Q G ex r hf k => by
  unfold fList at hf
  split at hf
  · obtain ⟨v, rfl, rv⟩ := r.one
    obtain ⟨p, vs, rfl, h1, h2⟩ := rv.lst ex
    refine ⟨p, vs, rfl, .inl (.inl (.inl h1)), fun l hl => ?_⟩
    obtain ⟨g, f⟩ := new_lst ex hl h2
    exact k _ _ _ _ hf g f
  · obtain ⟨v, rfl, rv⟩ := r.one
    obtain ⟨p, vs, rfl, h1, h2⟩ := rv.tup ex
    refine ⟨p, vs, rfl, .inr h1, fun l hl => ?_⟩
    obtain ⟨g, f⟩ := new_lst ex hl h2
    exact k _ _ _ _ hf g f
  · obtain ⟨v, rfl, rv⟩ := r.one
    obtain ⟨p, vs, rfl, h1, h2⟩ := rv.ro ex
    refine ⟨p, vs, rfl, .inl h1, fun l hl => ?_⟩
    obtain ⟨g, f⟩ := new_lst ex hl h2
    exact k _ _ _ _ hf g f
  · exact hf.elim
def fTuple : F1 := fun ds G => match ds with
  | [.lst xs] => G (.fr (.tup xs))
  | [.tup xs] => G (.fr (.tup xs))
  | _ => False
theorem Rq.stay {K : PySem.W.Frag} {H0 H : Hp} {v : V} {xs : List D} (h : Rq K H0 H v (.tup xs)) : Rp K H0 v (.tup xs) := by
  rcases h with h | ⟨p, o, rfl, h1, h⟩
  · exact h
  · cases o; cases h1
theorem oc_tuple {K : PySem.W.Frag} : OC K (fun xs H Q => ∃ p ys, xs = [.ref p] ∧ ((SqL K H p ys ∧ ∀ l, H l = none → Q (.ref l) (upd H l (.tup ys))) ∨ (SqT K H p ys ∧ Q (.ref p) H))) fTuple := fun xs ds H0 H Q G ex r hf k => by
  unfold fTuple at hf
  split at hf
  · obtain ⟨v, rfl, rv⟩ := r.one
    obtain ⟨p, vs, rfl, h1, h2⟩ := rv.lst ex
    refine ⟨p, vs, rfl, .inl ⟨.inl (.inl h1), fun l hl => ?_⟩⟩
    obtain ⟨g, f⟩ := new_tup ex hl h2
    exact k _ _ _ _ hf g f
  · obtain ⟨v, rfl, rv⟩ := r.one
    have st := rv.stay
    obtain ⟨p, vs, rfl, h1, h2⟩ := rv.tup ex
    exact ⟨p, vs, rfl, .inr ⟨h1, k _ _ H0 H hf (Grow.refl ex) st⟩⟩
  · exact hf.elim
/-- str of an int (of fewer than 578 figures) or of a text -/
def fStr : F1 := fun ds G => match ds with
  | [.int i] => i.natAbs.log2 < 1920 ∧ G (.fr (.str (toString i)))
  | [.str x] => G (.fr (.str x))
  | _ => False
theorem CallR.or {X : Cx} {f : Value} {r r' : List V → Hp → VK → Prop} (h : CallR X f r) (h' : CallR X f r') : CallR X f (fun xs H Q => r xs H Q ∨ r' xs H Q) := by
  intro pins s σ H xs us Q I rv q
  rcases q with q | q
  · exact h pins s σ H xs us Q I rv q
  · exact h' pins s σ H xs us Q I rv q
theorem call_strA {X : Cx} : CallR X (.type "str") (fun xs H Q => (∃ i, xs = [.int i] ∧ i.natAbs.log2 < 1920 ∧ Q (.str (toString i)) H) ∨ ∃ a, xs = [.str a] ∧ Q (.str a) H) := CallR.or call_str_int SkE.call_str_str
theorem oc_str {K : PySem.W.Frag} : OC K (fun xs H Q => (∃ i, xs = [.int i] ∧ i.natAbs.log2 < 1920 ∧ Q (.str (toString i)) H) ∨ ∃ a, xs = [.str a] ∧ Q (.str a) H) fStr := fun xs ds H0 H Q G ex r hf k => by
  unfold fStr at hf
  split at hf
  · obtain ⟨v, rfl, rv⟩ := r.one
    rw [rv.int]
    exact .inl ⟨_, rfl, hf.1, k _ _ H0 H hf.2 (Grow.refl ex) (.str _)⟩
  · obtain ⟨v, rfl, rv⟩ := r.one
    rw [rv.str]
    exact .inr ⟨_, rfl, k _ _ H0 H hf (Grow.refl ex) (.str _)⟩
  · exact hf.elim
/-- repr of a list or a tuple of plain data -/
def D.shows (d : D) : Prop := d.isData = true ∧ d.py.showable = true ∧ d.py.shown.length ≤ sizeLine ∧ d.py.depth ≤ 64
def D.isSeq : D → Bool
  | .lst _ => true
  | .tup _ => true
  | _ => false
def fRepr : F1 := fun ds G => match ds with
  | [d] => d.isSeq = true ∧ d.shows ∧ G (.fr (.str d.py.shown))
  | _ => False
mutual
theorem noDict : ∀ d : D, d.py.hasDict = false
  | .non => rfl
  | .bl _ => rfl
  | .int _ => rfl
  | .str _ => rfl
  | .tup xs => by simp only [D.py, PyData.hasDict]; exact noDicts xs
  | .lst xs => by simp only [D.py, PyData.hasDict]; exact noDicts xs
  | .ins _ _ _ => rfl
  | .ro _ => rfl
theorem noDicts : ∀ ds : List D, PyData.hasDictAll (D.pys ds) = false
  | [] => rfl
  | d :: ds => by simp only [D.pys, PyData.hasDictAll, noDict d, noDicts ds]; rfl
end
theorem call_reprD {X : Cx} (hg : X.A.guards = some []) (hu : X.A.units + 100 < cLine) : CallR X (.builtin "repr") (fun xs H Q => ∃ a d, xs = [.ref a] ∧ Dp X.K H (.ref a) d ∧ d.showable = true ∧ d.hasDict = false ∧ d.shown.length ≤ sizeLine ∧ d.depth ≤ 64 ∧ Q (.str d.shown) H) := by
  intro pins s σ H xs us Q I r h
  obtain ⟨a, d, rfl, hd, h1, h0, h2, h3, q⟩ := h
  obtain ⟨u, rfl, ru⟩ := vals1 r
  cases ru
  obtain ⟨as, rd⟩ := Dp.reads I d _ _ hd (show RelV (.ref a) (.ref a) from rfl)
  exact repr_of_reads' rd h1 (fun z => by rw [h0] at z; cases z) hg (by omega) (fun _ _ e => e) (fun h' u tk hk => ⟨.str _, H, I.kept hk, ⟨_, rfl⟩, q⟩) h2
theorem oc_repr {K : PySem.W.Frag} : OC K (fun xs H Q => ∃ a d, xs = [.ref a] ∧ Dp K H (.ref a) d ∧ d.showable = true ∧ d.hasDict = false ∧ d.shown.length ≤ sizeLine ∧ d.depth ≤ 64 ∧ Q (.str d.shown) H) fRepr := fun xs ds H0 H Q G ex r hf k => by
  unfold fRepr at hf
  split at hf
  · rename_i d
    obtain ⟨v, rfl, rv⟩ := r.one
    obtain ⟨h1, ⟨h2, h3, h4, h5⟩, h6⟩ := hf
    have hd := (rv.now ex).dp _ _ h2
    have fin : ∀ a, v = .ref a → ∃ a' d', [v] = [V.ref a'] ∧ Dp K H (.ref a') d' ∧ d'.showable = true ∧ d'.hasDict = false ∧ d'.shown.length ≤ sizeLine ∧ d'.depth ≤ 64 ∧ Q (.str d'.shown) H := fun a e => by
      subst e
      exact ⟨a, d.py, rfl, hd, h3, noDict d, h4, h5, k _ _ H0 H h6 (Grow.refl ex) (.str _)⟩
    cases d with
    | lst xs =>
      obtain ⟨p, vs, rfl, _⟩ := rv.lst ex
      exact fin p rfl
    | tup xs =>
      obtain ⟨p, vs, rfl, _⟩ := rv.tup ex
      exact fin p rfl
    | _ => cases h1
  · exact hf.elim
/-- isinstance(x, T), T a built-in class -/
def D.tyN : D → Option String
  | .non => some "NoneType"
  | .bl _ => some "bool"
  | .int _ => some "int"
  | .str _ => some "str"
  | .tup _ => some "tuple"
  | .lst _ => some "list"
  | .ins _ _ _ => none
  | .ro _ => none
def isTn (t T : String) : Bool := t == T || (t == "bool" && T == "int")
def isTb (T : String) (d : D) : Bool := match d with
  | .non => isTn "NoneType" T
  | .bl _ => isTn "bool" T
  | .int _ => isTn "int" T
  | .str _ => isTn "str" T
  | .tup _ => isTn "tuple" T
  | .lst _ => isTn "list" T
  | .ins _ _ _ => false
  | .ro _ => false
def D.notIns : D → Bool
  | .ins _ _ _ => false
  | .ro _ => false
  | _ => true
def wIsi (T : String) (wd : WD) : WD := fun ρ G => wd ρ fun d ρ' => d.notIns = true ∧ G (.bl (isTb T d)) ρ'
def wIsiV (T : String) (i : Nat) : WD := fun ρ G => peek i ρ fun d => d.notIns = true ∧ G (.bl (isTb T d)) ρ
theorem SqT.tyx {K : PySem.W.Frag} {H : Hp} {a : Addr} {vs : List V} (h : SqT K H a vs) : TyX K H (.ref a) (.type "tuple") := by
  rcases h with (h | ⟨o, h⟩) | ⟨o, items, n, h1, h2, _⟩
  · exact .base (.tup h)
  · exact .fTuple h
  · exact .kTuple h1 h2
theorem Rq.tyx {K : PySem.W.Frag} {H0 H : Hp} {v : V} {d : D} (ex : Ex H0 H) (h : Rq K H0 H v d) (hn : d.notIns = true) : ∃ t, d.tyN = some t ∧ TyX K H v (.type t) := by
  cases d with
  | non => rw [h.non]; exact ⟨_, rfl, .base .non⟩
  | bl b => rw [h.bl]; exact ⟨_, rfl, .base (.bl _)⟩
  | int b => rw [h.int]; exact ⟨_, rfl, .base (.int _)⟩
  | str b => rw [h.str]; exact ⟨_, rfl, .base (.str _)⟩
  | tup xs =>
    obtain ⟨p, vs, rfl, h1, h2⟩ := h.tup ex
    exact ⟨_, rfl, SqT.tyx h1⟩
  | lst xs =>
    obtain ⟨p, vs, rfl, h1, h2⟩ := h.lst ex
    exact ⟨_, rfl, .base (.lst h1)⟩
  | ins C ns xs => cases hn
  | ro xs => cases hn
/-- the classes whose answers are known -/
inductive KT : String → Prop
  | int : KT "int"
  | bool : KT "bool"
  | str : KT "str"
  | list : KT "list"
  | tuple : KT "tuple"
theorem kit_all {T t : String} {d : D} (hT : KT T) (ht : d.tyN = some t) : kitB t T = some (isTb T d) := by
  have z : ∀ t ∈ ["NoneType", "bool", "int", "str", "tuple", "list"], kitB t T = some (isTn t T) := by cases hT <;> decide +kernel
  cases d <;> cases ht <;> exact z _ (by decide)
section
variable {X : Cx} {c : Fx} {a : Expr} {ta : TE} {wa : WD} {pos p pt : Pos} {T : String} {x : Str}
def tIsi (K : PySem.W.Frag) (T : String) (ta : TE) : TE := tCB (rIsi K) (tCons ta (tCons (tC (.ty T)) tNil))
theorem dd_isi {K : PySem.W.Frag} (hT : KT T) (ha : DD K c ta wa) : DD K c (tIsi K T ta) (wIsi T wa) := fun σ H0 H ρ Q G re hw k => ha σ H0 H ρ _ _ re hw fun d ρ' v A B g e re' rp => by
  obtain ⟨t, h1, h2⟩ := Rq.tyx (K := K) re'.ex (.inl rp) g.1
  exact ⟨v, .ty T, .type t, .type T, isTb T d, rfl, .ty T, h2, kit_ty (kit_all hT h1), k _ ρ' _ A B g.2 e re' (.bl _)⟩
theorem dd_isiV {K : PySem.W.Frag} {i : Nat} (hT : KT T) : DD K c (tIsi K T (tVar i)) (wIsiV T i) := fun σ H0 H ρ Q G re hw k => by
  obtain ⟨v, d, q1, q2, q3⟩ := re.peek hw
  obtain ⟨t, h1, h2⟩ := Rq.tyx (K := K) re.ex q3 q2.1
  exact ⟨v, q1, v, .ty T, .type t, .type T, isTb T d, rfl, .ty T, h2, kit_ty (kit_all hT h1), k _ ρ _ H0 H q2.2 (Ex.refl _) re (.bl _)⟩
theorem pe_isi {e : Expr} {te : TE} (h : PE X e te) (hm : X.mg "isinstance" = none) (hmT : X.mg x = none) (hvT : bootBuiltins x = some (.type T)) (hg : Gl X "isinstance") (hgT : Gl X x) (hn : x ≠ "__name__") (hd : (x == ("__debug__" : Str)) = false)
    (h1 : starEach [e, .Name x pt] X.env = (false, eval e X.env) :: starEach [.Name x pt] X.env) (h2 : starEach [.Name x pt] X.env = (false, eval (.Name x pt) X.env) :: starEach [] X.env) (h3 : (backTo pos (starEach [.Name x pt] X.env)).any (·.1) = false) :
    PE X (.Call (.Name "isinstance" p) [e, .Name x pt] [] pos) (tIsi X.K T te) :=
  pe_callB call_isi hg hm (by decide +kernel) (pa_cons h (pa_cons (pe_bltn (v := .ty T) hgT hmT hvT rfl hn hd) pa_nil h2) h1) (by decide) (by decide) h1 h3
theorem ed_isi (hT : KT T) (ha : ED X c a ta wa) (hm : X.mg "isinstance" = none) (hmT : X.mg x = none) (hvT : bootBuiltins x = some (.type T)) (hg : Gl X "isinstance" := by rfl) (hgT : Gl X x := by rfl) (hn : x ≠ "__name__" := by decide) (hd : (x == ("__debug__" : Str)) = false := by decide)
    (h1 : starEach [a, .Name x pt] X.env = (false, eval a X.env) :: starEach [.Name x pt] X.env := by rfl) (h2 : starEach [.Name x pt] X.env = (false, eval (.Name x pt) X.env) :: starEach [] X.env := by rfl) (h3 : (backTo pos (starEach [.Name x pt] X.env)).any (·.1) = false := by rfl) :
    ED X c (.Call (.Name "isinstance" p) [a, .Name x pt] [] pos) (tIsi X.K T ta) (wIsi T wa) := ⟨pe_isi ha.p hm hmT hvT hg hgT hn hd h1 h2 h3, dd_isi hT ha.d⟩
theorem ed_isiV {i : Nat} (hT : KT T) (ha : PE X a (tVar i)) (hm : X.mg "isinstance" = none) (hmT : X.mg x = none) (hvT : bootBuiltins x = some (.type T)) (hg : Gl X "isinstance" := by rfl) (hgT : Gl X x := by rfl) (hn : x ≠ "__name__" := by decide) (hd : (x == ("__debug__" : Str)) = false := by decide)
    (h1 : starEach [a, .Name x pt] X.env = (false, eval a X.env) :: starEach [.Name x pt] X.env := by rfl) (h2 : starEach [.Name x pt] X.env = (false, eval (.Name x pt) X.env) :: starEach [] X.env := by rfl) (h3 : (backTo pos (starEach [.Name x pt] X.env)).any (·.1) = false := by rfl) :
    ED X c (.Call (.Name "isinstance" p) [a, .Name x pt] [] pos) (tIsi X.K T (tVar i)) (wIsiV T i) := ⟨pe_isi ha hm hmT hvT hg hgT hn hd h1 h2 h3, dd_isiV hT⟩
end
/-- a builtin's method with arguments, the receiver by value -/
abbrev FM := D → List D → (R → Prop) → Prop
def OM (K : PySem.W.Frag) (T : String) (r : V → List V → Hp → VK → Prop) (f : FM) : Prop :=
  ∀ (x : V) (d : D) (xs : List V) (ds : List D) (H0 H : Hp) (Q : VK) (G : R → Prop), Ex H0 H → Rq K H0 H x d → RqA K H0 H xs ds → f d ds G →
    (∀ z v H0' H', G z → Grow H0 H H0' H' → FR K H H0' H' v z → Q v H') → r x xs H Q
/-- xs.index(d) of ints -/
def fIndex : FM := fun d ds G => match d, ds with
  | .lst xs, [.int i] => ∃ ns : List Int, xs = ns.map D.int ∧ ∃ j : Nat, ns[j]? = some i ∧ (∀ m : Nat, m < j → ns[m]? ≠ some i) ∧ G (.fr (.int (j : Int)))
  | _, _ => False
end DL
set_option Elab.async false
set_option linter.all false
set_option maxRecDepth 100000
set_option maxHeartbeats 2000000
namespace DL
open PySem PySem.Spec PyProof.Rows L2 Evl

/-! ### more operations -/
abbrev fSub : F2 := fI0 fun i j => .int (i - j)
abbrev fDiv : F2 := fI CDiv fun i j => .int (i / j)
abbrev fMod : F2 := fI (fun _ j => 0 < j) fun i j => .int (i % j)
abbrev fPow : F2 := fI CPow fun i j => .int (i ^ j.toNat)
abbrev fLt : F2 := fI0 fun i j => .bl (decide (i < j))
abbrev fLe : F2 := fI0 fun i j => .bl (decide (i ≤ j))
abbrev fGt : F2 := fI0 fun i j => .bl (decide (j < i))
abbrev fGe : F2 := fI0 fun i j => .bl (decide (j ≤ i))
section
variable {K : PySem.W.Frag}
theorem od_sub : OD K (rI0 fun i j => .int (i - j)) fSub := od_I0 fun _ _ _ => .int _
theorem od_div : OD K (rI CDiv fun i j => .int (i / j)) fDiv := od_I fun _ _ _ => .int _
theorem od_mod : OD K (rI (fun _ j => 0 < j) fun i j => .int (i % j)) fMod := od_I fun _ _ _ => .int _
theorem od_pow : OD K (rI CPow fun i j => .int (i ^ j.toNat)) fPow := od_I fun _ _ _ => .int _
theorem od_lt : OD K (rI0 fun i j => .bl (decide (i < j))) fLt := od_I0 fun _ _ _ => .bl _
theorem od_le : OD K (rI0 fun i j => .bl (decide (i ≤ j))) fLe := od_I0 fun _ _ _ => .bl _
theorem od_gt : OD K (rI0 fun i j => .bl (decide (j < i))) fGt := od_I0 fun _ _ _ => .bl _
theorem od_ge : OD K (rI0 fun i j => .bl (decide (j ≤ i))) fGe := od_I0 fun _ _ _ => .bl _
end
/-- a * b of ints; a list times an int -/
def fMul : F2 := fun d e G => match d, e with
  | .int i, .int j => CMul i j ∧ G (.fr (.int (i * j)))
  | .lst xs, .int k => (-(2 ^ 63) ≤ k ∧ k < 2 ^ 63 ∧ xs.length * k.toNat ≤ sizeLine) ∧ G (.ow (.lst (List.replicate k.toNat xs).flatten))
  | _, _ => False
def rMulA : R2 := fun x y H Q => rI CMul (fun i j => .int (i * j)) x y H Q ∨ rRep x y H Q
theorem op_mulA {X : Cx} : OpR X (binaryOp .Mult) rMulA := op_mul.or op_rep
theorem RpA.rep {K : PySem.W.Frag} {H : Hp} {vs : List V} {ds : List D} (h : RpA K H vs ds) : ∀ n : Nat, RpA K H (List.replicate n vs).flatten (List.replicate n ds).flatten
  | 0 => .nil
  | n + 1 => by
    rw [List.replicate_succ, List.replicate_succ, List.flatten_cons, List.flatten_cons]
    exact h.append (h.rep n)
theorem od_mul {K : PySem.W.Frag} : OD K rMulA fMul := fun x y d e H0 H Q G ex rx ry hf k => by
  unfold fMul at hf
  split at hf
  · rw [rx.int, ry.int]
    exact .inl ⟨_, _, rfl, rfl, hf.1, k _ _ H0 H hf.2 (Grow.refl ex) (.int _)⟩
  · obtain ⟨p, vs, rfl, h1, h2⟩ := rx.lst ex
    rw [ry.int]
    refine .inr ⟨p, _, vs, rfl, rfl, h1, hf.1.1, hf.1.2.1, by rw [h2.length]; exact hf.1.2.2, fun t ht => ?_⟩
    obtain ⟨g, f⟩ := new_lst ex ht (h2.rep _)
    exact k _ _ _ _ hf.2 g f
  · exact hf.elim
/-- is True, is not True, is False .. -/
def fIsB : F2 := fun d e G => match d, e with
  | .bl a, .bl b => G (.fr (.bl (decide (a = b))))
  | _, _ => False
def fNotB : F2 := fun d e G => match d, e with
  | .bl a, .bl b => G (.fr (.bl (!decide (a = b))))
  | _, _ => False
/-- the greater layer's: what a def keeps at level k, and where it stands -/
def Has (P : Program) (w : World) (K : PySem.W.Frag) (mg : Str → Option Value) (B : Heap) (k : Nat) (x : Str) (ps : List Str) (sem : Sem) : Prop :=
  ∃ f fd, FnG P w K mg B k f fd ps (spD K sem) ∧ mg x = some (.ref f) ∧ PySem.W.keepIn K (.ref f) = true ∧ Binds K fd ps []
theorem Has.up {P : Program} {w : World} {K : PySem.W.Frag} {mg : Str → Option Value} {B : Heap} {j k : Nat} {x : Str} {ps : List Str} {sem : Sem} (h : Has P w K mg B j x ps sem) (hk : j ≤ k) : Has P w K mg B k x ps sem :=
  let ⟨f, fd, a, b, c, d⟩ := h; ⟨f, fd, a.up hk, b, c, d⟩
/-- where a def stands -/
structure At (K : PySem.W.Frag) (mg : Str → Option Value) (x : Str) (st : Stmt) (ps : List Str) (f : Addr) (fd : FuncData) : Prop where
  F : Fun K x x st f fd
  m : mg x = some (.ref f)
  b : Binds K fd ps []
theorem At.has {P : Program} {w : World} {K : PySem.W.Frag} {mg : Str → Option Value} {B : Heap} {k : Nat} {x : Str} {st : Stmt} {ps : List Str} {sem : Sem} {f : Addr} {fd : FuncData} (a : At K mg x st ps f fd) (h : FnG P w K mg B k f fd ps (spD K sem)) : Has P w K mg B k x ps sem := ⟨f, fd, h, a.m, a.F.kp, a.b⟩
section
variable {X : Cx} {c : Fx} {a b e : Expr} {es : List Expr} {ta tb te : TE} {wa wb wd : WD} {we : WE} {pos p pos' : Pos} {tl : TA} {wl : WA}
theorem er_fn {k : Nat} {ps : List Str} {sem : Sem} {x : Str} (F : Has X.prog X.w X.K X.mg X.base k x ps sem) (hgd : X.A.guards = some []) (hr : Room k X.A)
    (h : EA X c (a :: es) tl wl) (hg : Gl X x := by rfl) (hdb : (x == ("__debug__" : Str)) = false := by decide)
    (he : starEach (a :: es) X.env = (false, eval a X.env) :: starEach es X.env := by rfl) (hpl : (backTo pos (starEach es X.env)).any (·.1) = false := by rfl) : ER X c (.Call (.Name x p) (a :: es) [] pos) (tCall (spD X.K sem) [] E0 tl) (wCall sem wl) := by
  obtain ⟨f, fd, F, hm, hk, hb⟩ := F
  exact er_call F hgd hr hm hk hb h hg hdb he hpl
theorem er_fn0 {k : Nat} {sem : Sem} {x : Str} (F : Has X.prog X.w X.K X.mg X.base k x [] sem) (hgd : X.A.guards = some []) (hr : Room k X.A) (hg : Gl X x := by rfl) (hdb : (x == ("__debug__" : Str)) = false := by decide) :
    ER X c (.Call (.Name x p) [] [] pos) (tCall (spD X.K sem) [] E0 tNil) (wCall sem waNil) := by
  obtain ⟨f, fd, F, hm, hk, hb⟩ := F
  exact er_call0 F hgd hr hm hk hb hg hdb
/-- statements by names -/
theorem es_name {i : Nat} {x : Str} (hN : X.N.Nodup) (h : ER X c e te we) (hi : X.N[i]? = some x := by rfl) (hx : Loc X.env.scope x := by first | exact Or.inl rfl | exact Or.inr rfl) (hs : swapsWith e (some (.Name x pos')) pos.line X.env = pure false := by rfl)
    (hf : X.fn x = true ∨ X.env.scope.names.lookup x = some .local := by first | exact .inl rfl | exact .inr rfl) : ES X c (.Assign [.Name x pos'] e pos) (tAsg te (gName i)) (wAsg i we) := ⟨ps_set hN hi hx h.p hs hf, ds_asg h.d⟩
theorem eg_nm (i : Nat) {x : Str} (hN : X.N.Nodup) (hi : X.N[i]? = some x := by rfl) (hx : Loc X.env.scope x := by first | exact Or.inl rfl | exact Or.inr rfl) (hf : X.fn x = true ∨ X.env.scope.names.lookup x = some .local := by first | exact .inl rfl | exact .inr rfl) :
    EG X c [i] (.Name x pos) (gName i) (gdName i) := eg_name (pg_name hN hi hx hf)
theorem egs_cs {js ks : List Nat} {es : List Expr} {t : TG} {u : TGs} {g : WG} {gs : List D → SEnv → (SEnv → Prop) → Prop} (h1 : EG X c js e t g) (h2 : EGs X c ks es u gs)
    (hp : PGs X (e :: es) (gCons t u)) : EGs X c (js ++ ks) (e :: es) (gCons t u) (gdCons g gs) := egs_cons h1 h2 hp
theorem es_tg {js : List Nat} {tg : Expr} {g : TG} {wg : WG} (h : ED X c e te wd) (hg : EG X c js tg g wg) (hs : swapsWithSole [tg] e pos.line X.env = pure false := by rfl) (hw : swappedStores [tg] e X.env = pure none := by rfl)
    (h1 : (assignEach [tg] X.env).map (·.2) = [assign tg X.env] := by rfl) : ES X c (.Assign [tg] e pos) (tAsg te g) (wAsgT wd wg) := es_setT h hg (ps_asg h.p hg.p hs hw h1)
theorem es_append {i : Nat} {o : Expr} {apos cpos : Pos} (ho : PE X o (tVar i)) (h : ED X c e te wd) (hp : PE X (.Call (.Attribute o "append" apos) [e] [] cpos) (tBM X.K "list" rAppend (tVar i) (tCons te tNil)))
    (hs : swapsWith (.Call (.Attribute o "append" apos) [e] [] cpos) none pos.line X.env = pure false := by rfl) : ES X c (.Expr (.Call (.Attribute o "append" apos) [e] [] cpos) pos) (tDrop (tBM X.K "list" rAppend (tVar i) (tCons te tNil))) (wApp i wd) := es_app ho h (ps_expr hp hs)
theorem es_setItem {i : Nat} {o ix : Expr} {tpos : Pos} (ho : PE X o (tVar i)) (h : ED X c e te wd) (hi : ED X c ix tb wb) (hg : PG X (.Subscript o ix tpos) (gSub (tVar i) tb rSetL)) (hs : swapsWithSole [.Subscript o ix tpos] e pos.line X.env = pure false := by rfl) (hw : swappedStores [.Subscript o ix tpos] e X.env = pure none := by rfl)
    (h1 : (assignEach [.Subscript o ix tpos] X.env).map (·.2) = [assign (.Subscript o ix tpos) X.env] := by rfl) : ES X c (.Assign [.Subscript o ix tpos] e pos) (tAsg te (gSub (tVar i) tb rSetL)) (wSetI i wd wb) := es_setI ho h hi (ps_asg h.p hg hs hw h1)
theorem es_augAdd {i : Nat} {x : Str} (hN : X.N.Nodup) (h : ED X c e te wd) (hi : X.N[i]? = some x := by rfl) (hx : Loc X.env.scope x := by first | exact Or.inl rfl | exact Or.inr rfl) (hf : X.fn x = true ∨ X.env.scope.names.lookup x = some .local := by first | exact .inl rfl | exact .inr rfl) :
    ES X c (.AugAssign (.Name x pos') .Add e pos) (tAug i te (ipI fun i j => i + j)) (wAugN (fun i j => i + j) i wd) := es_augN h (ps_aug hN hi hx h.p ip_add hf)
theorem es_augSub {i : Nat} {x : Str} (hN : X.N.Nodup) (h : ED X c e te wd) (hi : X.N[i]? = some x := by rfl) (hx : Loc X.env.scope x := by first | exact Or.inl rfl | exact Or.inr rfl) (hf : X.fn x = true ∨ X.env.scope.names.lookup x = some .local := by first | exact .inl rfl | exact .inr rfl) :
    ES X c (.AugAssign (.Name x pos') .Sub e pos) (tAug i te (ipI fun i j => i - j)) (wAugN (fun i j => i - j) i wd) := es_augN h (ps_aug hN hi hx h.p ip_sub hf)
theorem es_augIx {i : Nat} {o ix : Expr} {tpos : Pos} (ho : PE X o (tVar i)) (hi : ED X c ix tb wb) (h : ED X c e te wd)
    (ha : ∀ ov iv new, augStore ix ov iv new = (do holding [new, ov, iv] (setItem ov iv new); release [new, ov, iv] []; pure .next) := by intros; rfl) : ES X c (.AugAssign (.Subscript o ix tpos) .Add e pos) (tAugS (tVar i) tb te rGetL (ipI fun i j => i + j) rSetL) (wAugI (fun i j => i + j) i wb wd) :=
  es_augI ho hi h (ps_augS ho hi.p pget_list h.p ip_add set_list ha)
end
end DL
set_option Elab.async false
set_option linter.all false
set_option maxRecDepth 100000
set_option maxHeartbeats 2000000
namespace DL
open PySem PySem.Spec PyProof.Rows L2 Evl

theorem od_isB {K : PySem.W.Frag} : OD K rIsB fIsB := fun x y d e H0 H Q G ex rx ry hf k => by
  unfold fIsB at hf
  split at hf
  · rw [rx.bl, ry.bl]
    exact ⟨_, _, rfl, rfl, k _ _ H0 H hf (Grow.refl ex) (Rp.bl _)⟩
  · exact hf.elim
theorem od_notB {K : PySem.W.Frag} : OD K rNotB fNotB := fun x y d e H0 H Q G ex rx ry hf k => by
  unfold fNotB at hf
  split at hf
  · rw [rx.bl, ry.bl]
    exact ⟨_, _, rfl, rfl, k _ _ H0 H hf (Grow.refl ex) (Rp.bl _)⟩
  · exact hf.elim
theorem u64 {k : Nat} {A : Around} (r : Room k A) : A.units + 64 < cLine := by have := r.un; omega
theorem u65 {k : Nat} {A : Around} (r : Room k A) : A.units + 65 < cLine := by have := r.un; omega
theorem u100 {k : Nat} {A : Around} (r : Room k A) : A.units + 100 < cLine := by have := r.un; omega
section
variable {X : Cx} {c : Fx} {a b e o : Expr} {es : List Expr} {ta tb te to : TE} {wa wb wd wo : WD} {we : WE} {pos p pos' apos cpos : Pos} {tl : TA} {wl : WA}
/-- the plain forms that a method's call asks of its arguments -/
def Few (X : Cx) (cpos : Pos) (es : List Expr) : Prop := ((backTo cpos (starEach es X.env)).all (fun x => !x.1) && (backToKw cpos (keywordEach [] X.env)).all (fun x => x.1.isSome) && decide (es.length + ([] : List Keyword).length + (if ([] : List Keyword).isEmpty then 0 else 1) < 30)) = true
theorem es_ap {i : Nat} (ho : PE X o (tVar i)) (h : ED X c e te wd) (hb : attributeBase o "append" X.env (eval o X.env) = eval o X.env := by rfl) (hl : (apos.endLine == cpos.line) = true := by rfl) (h0 : starEach [e] X.env = (false, eval e X.env) :: starEach [] X.env := by rfl)
    (hf : Few X cpos [e] := by rfl) (hpl : (backTo cpos (starEach [] X.env)).any (·.1) = false := by rfl) (hs : swapsWith (.Call (.Attribute o "append" apos) [e] [] cpos) none pos.line X.env = pure false := by rfl) :
    ES X c (.Expr (.Call (.Attribute o "append" apos) [e] [] cpos) pos) (tDrop (tBM X.K "list" rAppend (tVar i) (tCons te tNil))) (wApp i wd) :=
  es_app ho h (ps_expr (pe_bm PySem.F.plainAttrs_list PySem.F.slot_list_append PySem.F.type_list_append mt_append ho (pa_cons h.p pa_nil h0) hb hf hl h0 hpl) hs)
/-- the receiver is of the type T -/
def ofT (T : String) (d : D) : Prop := match d with
  | .lst _ => T = "list"
  | .str _ => T = "str"
  | _ => False
theorem Rq.tyV {K : PySem.W.Frag} {H0 H : Hp} {v : V} {d : D} {T : String} (ex : Ex H0 H) (h : Rq K H0 H v d) (ht : ofT T d) : L2.tyV K T v H := by
  cases d with
  | lst xs =>
    obtain ⟨q, vs, rfl, h1, h2⟩ := h.lst ex
    exact Or.inl ⟨ht, vs, .inl (.inl h1)⟩
  | str y => rw [h.str]; exact ht
  | _ => exact ht.elim
/-- methods of built-in types -/
def wBM (T : String) (f : FM) (wo : WD) (wl : WA) : WE := fun ρ G => wo ρ fun d ρ1 => ofT T d ∧ wl ρ1 fun as ρ' => peeks as ρ' fun ds => f d ds fun z => G z ρ'
def wBMV (T : String) (f : FM) (i : Nat) (wl : WA) : WE := fun ρ G => peek i ρ (ofT T) ∧ wl ρ fun as ρ' => peek i ρ' fun d => peeks as ρ' fun ds => f d ds fun z => G z ρ'
variable {name : Str} {T id : String} {r : V → List V → Hp → VK → Prop} {f : FM}
theorem de_bm {K : PySem.W.Frag} (hr : OM K T r f) (ho : DD K c to wo) (hl : DA K c tl wl) : DE K c (tBM K T r to tl) (wBM T f wo wl) := fun σ H0 H ρ Q G re hw k => ho σ H0 H ρ _ _ re hw fun d ρ1 x A B g e re1 rp => by
  refine ⟨Rq.tyV (K := K) re1.ex (.inl rp) g.1, hl σ A B ρ1 _ _ re1 g.2 fun as ρ' vs A2 B2 g2 e2 re2 ra => ?_⟩
  obtain ⟨ds, q1, q2⟩ := peeks_of re2 g2 ra
  exact hr x d vs ds A2 B2 Q _ re2.ex (.inl (rp.up e2)) q2 q1 fun z v A3 B3 gz gr fr => k z ρ' v A3 B3 gz (e.trans (e2.trans gr.b)) (re2.grow gr) (fr.rr re2)
theorem de_bmV {K : PySem.W.Frag} {i : Nat} (hr : OM K T r f) (hl : DA K c tl wl) : DE K c (tBM K T r (tVar i) tl) (wBMV T f i wl) := fun σ H0 H ρ Q G re hw k => by
  obtain ⟨h0, hw⟩ := hw
  obtain ⟨x, d0, hx, ht, rq0⟩ := re.peek h0
  refine ⟨x, hx, Rq.tyV re.ex rq0 ht, hl σ H0 H ρ _ _ re hw fun as ρ' vs A2 B2 g2 e2 re2 ra => ?_⟩
  obtain ⟨x', d, hx', g3, rq⟩ := re2.peek g2
  rw [hx] at hx'
  cases hx'
  obtain ⟨ds, q1, q2⟩ := peeks_of re2 g3 ra
  exact hr x d vs ds A2 B2 Q _ re2.ex rq q2 q1 fun z v A3 B3 gz gr fr => k z ρ' v A3 B3 gz (e2.trans gr.b) (re2.grow gr) (fr.rr re2)
theorem er_bm (pa : PlainAttrs T) (slot : Slot T name id) (hty : typeOf (.builtin id) = pure (.type "method_descriptor")) (hm : MtR X id r) (hr : OM X.K T r f) (ho : ED X c o to wo) (ha : EA X c (e :: es) tl wl) (hb : attributeBase o name X.env (eval o X.env) = eval o X.env := by rfl)
    (hl : (apos.endLine == cpos.line) = true := by rfl) (h0 : starEach (e :: es) X.env = (false, eval e X.env) :: starEach es X.env := by rfl) (hf : Few X cpos (e :: es) := by rfl) (hpl : (backTo cpos (starEach es X.env)).any (·.1) = false := by rfl) :
    ER X c (.Call (.Attribute o name apos) (e :: es) [] cpos) (tBM X.K T r to tl) (wBM T f wo wl) := ⟨pe_bm pa slot hty hm ho.p ha.p hb hf hl h0 hpl, de_bm hr ho.d ha.d⟩
theorem er_bmV {i : Nat} (pa : PlainAttrs T) (slot : Slot T name id) (hty : typeOf (.builtin id) = pure (.type "method_descriptor")) (hm : MtR X id r) (hr : OM X.K T r f) (ho : PE X o (tVar i)) (ha : EA X c (e :: es) tl wl) (hb : attributeBase o name X.env (eval o X.env) = eval o X.env := by rfl)
    (hl : (apos.endLine == cpos.line) = true := by rfl) (h0 : starEach (e :: es) X.env = (false, eval e X.env) :: starEach es X.env := by rfl) (hf : Few X cpos (e :: es) := by rfl) (hpl : (backTo cpos (starEach es X.env)).any (·.1) = false := by rfl) :
    ER X c (.Call (.Attribute o name apos) (e :: es) [] cpos) (tBM X.K T r (tVar i) tl) (wBMV T f i wl) := ⟨pe_bm pa slot hty hm ho ha.p hb hf hl h0 hpl, de_bmV hr ha.d⟩
end
theorem flat_ints (ns : List Int) : (ns.map V.int).all flatV = true := by
  rw [List.all_map]
  exact List.all_eq_true.mpr fun _ _ => rfl
theorem om_index {K : PySem.W.Frag} : OM K "list" (rIndex K) fIndex := fun x d xs ds H0 H Q G ex rx rs hf k => by
  unfold fIndex at hf
  split at hf
  · obtain ⟨ns, rfl, j, h1, h2, h3⟩ := hf
    obtain ⟨v, rfl, rv⟩ := rs.one
    obtain ⟨p, vs, rfl, q1, q2⟩ := rx.lst ex
    rw [q2.ints] at q1
    rw [rv.int]
    refine ⟨p, ns.map V.int, _, j, _, rfl, rfl, .inl (.inl q1), rfl, flat_ints ns, by rw [List.getElem?_map, h1]; rfl, ?_, fun m z hm hz => ?_, k _ _ H0 H h3 (Grow.refl ex) (Rp.int _)⟩
    · simp [eqV]
    · rw [List.getElem?_map] at hz
      cases hq : ns[m]? with
      | none => rw [hq] at hz; cases hz
      | some w =>
        rw [hq] at hz
        cases hz
        have := h2 m hm
        rw [hq] at this
        simp only [eqV]
        simpa using fun z => this (by rw [z])
  · exact hf.elim
theorem pg_nm (i : Nat) {X : Cx} {x : Str} {pos : Pos} (hN : X.N.Nodup) (hi : X.N[i]? = some x := by rfl) (hx : Loc X.env.scope x := by first | exact Or.inl rfl | exact Or.inr rfl) (hf : X.fn x = true ∨ X.env.scope.names.lookup x = some .local := by first | exact .inl rfl | exact .inr rfl) : PG X (.Name x pos) (gName i) := pg_name hN hi hx hf
section
variable {X : Cx} {c : Fx} {a b e o : Expr} {ta tb te to : TE} {wa wb wd wo : WD} {pos p : Pos} {tl : TA} {wl : WA}
theorem ei_rng2 {tg : Expr} (h : EA X c [a, b] tl wl) (hm : X.mg "range" = none) (hg : Gl X "range" := by rfl) (h1 : starEach [a, b] X.env = [(false, eval a X.env), (false, eval b X.env)] := by rfl) (h2 : starEach [b] X.env = [(false, eval b X.env)] := by rfl) :
    EI X c tg (.Call (.Name "range" p) [a, b] [] pos) (iRng2 tl) (wIR2 wl) := ei_range2 h hm hg h1 (pi_range2 hg hm h.p h1 h2)
theorem es_sI {i : Nat} {ix : Expr} {tpos : Pos} (ho : PE X o (tVar i)) (h : ED X c e te wd) (hi : ED X c ix tb wb) (ha : ∀ v, assign (.Subscript o ix tpos) X.env v = (do
      let ov ← holding [v] (eval o X.env)
      let iv ← holding [v, ov] (eval ix X.env)
      standAt tpos
      holding [v, ov, iv] (setItem ov iv v)
      release [v, ov, iv] []) := by intro _; rfl) (hs : swapsWithSole [.Subscript o ix tpos] e pos.line X.env = pure false := by rfl) (hw : swappedStores [.Subscript o ix tpos] e X.env = pure none := by rfl)
    (h1 : (assignEach [.Subscript o ix tpos] X.env).map (·.2) = [assign (.Subscript o ix tpos) X.env] := by rfl) : ES X c (.Assign [.Subscript o ix tpos] e pos) (tAsg te (gSub (tVar i) tb rSetL)) (wSetI i wd wb) := es_setItem ho h hi (pg_sub ho hi.p set_list ha) hs hw h1
def wNeg (wd : WD) : WD := fun ρ G => wd ρ fun z ρ' => onI z fun i => G (.int (-i)) ρ'
theorem ed_neg (h : ED X c a ta wa) : ED X c (.UnaryOp .USub a pos) (tUn (rU fun i => .int (-i)) ta) (wNeg wa) := ⟨pe_un un_neg h.p, fun σ H0 H ρ Q G re hw k => h.d σ H0 H ρ _ _ re hw fun z ρ' v A B g e re' rp => by
  obtain ⟨i, rfl, hi⟩ := onI_of g
  cases rp
  exact ⟨i, rfl, k _ ρ' _ A B hi e re' (Rp.int _)⟩⟩
end
end DL
set_option Elab.async false
set_option linter.all false
set_option maxRecDepth 100000
set_option maxHeartbeats 2000000
/-! facts for reading by simp -/
namespace DL
open PySem PySem.Spec PyProof.Rows L2 Evl

theorem D.eqv_int (i j : Int) : D.eqv (.int i) (.int j) = decide (i = j) := by
  simp [D.eqv, D.py, PyData.eqv, Bool.beq_eq_decide_eq]
theorem D.eqv_str (i j : Str) : D.eqv (.str i) (.str j) = decide (i = j) := by
  simp only [D.eqv, D.py, PyData.eqv]
  by_cases h : i = j <;> simp [h]
theorem D.eqv_bl (i j : Bool) : D.eqv (.bl i) (.bl j) = decide (i = j) := by
  simp [D.eqv, D.py, PyData.eqv, Bool.beq_eq_decide_eq]
theorem D.ok_int (i : Int) : (D.int i).ok := ⟨rfl, by simp [D.py, SeqAt.shaped, PyData.canLay0, PyData.depth]⟩
theorem D.ok_bl (i : Bool) : (D.bl i).ok := ⟨rfl, by simp [D.py, SeqAt.shaped, PyData.canLay0, PyData.depth]⟩
theorem D.ok_non : (D.non).ok := ⟨rfl, by simp [D.py, SeqAt.shaped, PyData.canLay0, PyData.depth]⟩
theorem atI_nn {α : Type} {xs : List α} {i : Int} (h0 : 0 ≤ i) : atI xs i = xs[i.toNat]? := by
  unfold atI ixN
  rw [if_pos h0]
  by_cases h : i < (xs.length : Int)
  · rw [if_pos h]; rfl
  · rw [if_neg h, List.getElem?_eq_none (by omega)]; rfl
theorem atI_ofNat {α : Type} (xs : List α) (i : Nat) : atI xs (i : Int) = xs[i]? := by
  rw [atI_nn (by omega)]; simp
theorem ixN_nn {n : Nat} {i : Int} (h0 : 0 ≤ i) (h : i < (n : Int)) : ixN n i = some i.toNat := by
  unfold ixN
  rw [if_pos h0, if_pos h]
theorem setD_nn {xs : List D} {i : Int} {d : D} {k : List D → Prop} (h0 : 0 ≤ i) (h : i < (xs.length : Int)) : setD xs i d k = k (xs.set i.toNat d) := by
  unfold setD
  rw [ixN_nn h0 h]
theorem le_line {n : Nat} (h : n ≤ 16000000) : n ≤ sizeLine := by rw [sizeLine_eq]; omega
theorem lt_line {n : Nat} (h : n < 16000000) : n < sizeLine := by rw [sizeLine_eq]; omega
theorem atI_lit {α : Type} (xs : List α) (n : Nat) : atI xs (no_index (OfNat.ofNat n : Int)) = xs[n]? := atI_ofNat xs n
theorem setD_lit (xs : List D) (n : Nat) (d : D) (k : List D → Prop) : setD xs (no_index (OfNat.ofNat n : Int)) d k = (n < xs.length ∧ k (xs.set n d)) := by
  show setD xs ((n : Nat) : Int) d k = _
  by_cases h : n < xs.length
  · rw [setD_nn (by omega) (by omega)]
    simp [h]
  · unfold setD ixN
    rw [if_pos (by omega), if_neg (by omega)]
    simp [h]
theorem peeks_0 (ρ : SEnv) (k : List D → Prop) : peeks [] ρ k = k [] := rfl
theorem peeks_1 (i : Nat) (as : List Ar) (ρ : SEnv) (k : List D → Prop) : peeks (.inl i :: as) ρ k = peek i ρ fun d => peeks as ρ fun ds => k (d :: ds) := rfl
theorem peeks_2 (d : D) (as : List Ar) (ρ : SEnv) (k : List D → Prop) : peeks (.inr d :: as) ρ k = peeks as ρ fun ds => k (d :: ds) := rfl
theorem allD_0 (k : List D → Prop) : allD [] k = k [] := rfl
theorem allD_1 (d : D) (as : List Ar) (k : List D → Prop) : allD (.inr d :: as) k = allD as fun ds => k (d :: ds) := rfl
theorem toArgs_0 (ρ : SEnv) (k : SEnv → Prop) : toArgs [] ρ k = k [] := rfl
theorem toArgs_1 (i : Nat) (as : List Ar) (ρ : SEnv) (k : SEnv → Prop) : toArgs (.inl i :: as) ρ k = (match ρ[i]? with
    | some (.r (.ow o)) => toArgs as ρ fun r => k (.io o :: r)
    | some (.io o) => toArgs as ρ fun r => k (.io o :: r)
    | some (.r (.fr _)) => False
    | some .un => False
    | none => False) := by
  exact toArgs.eq_2 ρ k i as
theorem toArgs_2 (d : D) (as : List Ar) (ρ : SEnv) (k : SEnv → Prop) : toArgs (.inr d :: as) ρ k = toArgs as ρ fun r => k (.r (.fr d) :: r) := rfl
theorem putBack_0 (ρ : SEnv) (k : SEnv → Prop) : putBack [] [] ρ k = k ρ := rfl
theorem putBack_1 (i : Nat) (o : O) (ads : List Ar) (as ρ : SEnv) (k : SEnv → Prop) : putBack (.inl i :: ads) (.io o :: as) ρ k = (match ρ[i]? with
    | some s => putBack ads as (ρ.set i (s.put o)) k
    | none => False) := by
  exact putBack.eq_2 ρ k i ads o as
theorem putBack_2 (d : D) (s : Sl) (ads : List Ar) (as ρ : SEnv) (k : SEnv → Prop) : putBack (.inr d :: ads) (s :: as) ρ k = putBack ads as ρ k := rfl
/-- a loop over encoded items -/
theorem forI_map {g : WG} {body : WS} {G : WEnds} {α : Type} {enc : α → D} {xs : List α} {ρ : SEnv} (I : Nat → SEnv → Prop) (h0 : I 0 ρ)
    (hs : ∀ (i : Nat) (x : α) (ρ : SEnv), xs[i]? = some x → I i ρ → g (enc x) ρ fun ρ1 => body { nx := I (i + 1), ct := I (i + 1), bk := G.nx, rt := G.rt } ρ1) (hd : ∀ ρ, I xs.length ρ → G.nx ρ) : forI g body G (xs.map enc) ρ := by
  refine ⟨I, h0, fun i d ρ hi h => ?_, fun ρ h => hd ρ (by rw [List.length_map] at h; exact h)⟩
  rw [List.getElem?_map] at hi
  cases hx : xs[i]? with
  | none => rw [hx] at hi; cases hi
  | some x =>
    rw [hx] at hi
    cases hi
    exact hs i x ρ hx h
end DL
set_option Elab.async false
set_option linter.all false
set_option maxRecDepth 100000
set_option maxHeartbeats 4000000
namespace DL
open PySem PySem.Spec PyProof.Rows L2 Evl
local macro_rules | `(tactic| walk_at "dl") => `(tactic| simp (config := {maxSteps := 400000}) only [wRet, wRetN, wSeq, wAsg, wAsgT, wIfS, wDrop, wApp, wSetI, wAugN, wAugI, wNext, wTb, wTt, wTtV, wAndT, wOrT, wNotT, wAndV, wOrV, wNotV, wIf, wOp, wOpV, wOpW, wOpVV, wVar, wC, wFz, wR, wGive, wChain, wChain3, wTup, wLst, wSl, wSlV, wNoPart, wPart, wCB, wCall, waNil, waSl, waDa, wIsi, wIsiV, wNeg, wBM, wBMV, wIL, wIT, wIE, wIR1, wIR2, peek, ↓peeks_0, ↓peeks_1, ↓peeks_2, isSet, isO, atO, putO, onL, onB, onT, onI, ↓allD_0, ↓allD_1, ↓toArgs_0, ↓toArgs_1, ↓toArgs_2, toArgs, ↓putBack_0, ↓putBack_1, ↓putBack_2, putBack, ndA, fAdd, fMul, fI0, fI, fIx, fSl, fEq, fNe, fIn, fNotIn, fIsN, fNotN, fIsB, fNotB, fLen, fAbs, fInt, fList, fTuple, R.d, O.d, Sl.put, gdName, gdTup, gdCons, gdNil, retEnds, wBack, D.isNon, D.truth, List.getElem?_cons_zero, List.getElem?_cons_succ, List.set_cons_zero, List.set_cons_succ, List.length_cons, List.length_nil, true_and, and_true, if_true, if_false, Bool.not_true, Bool.not_false, D.ok_int, D.ok_bl, D.ok_non, D.eqv_int, D.eqv_bl, decide_eq_true_eq, Bool.false_eq_true, ↓reduceIte, fSub, fDiv, fMod, fPow, fLt, fLe, fGt, fGe, atI_lit, ↓setD_lit, List.getElem?_nil, List.length_set, List.length_map, Nat.reduceAdd, Nat.reduceLT, Nat.reduceSub, Int.reduceLT, Int.reduceLE, Int.reduceToNat, Int.reducePow, Int.reduceNeg, Int.reduceAdd, Int.reduceSub, Int.reduceMul, Int.reduceEq, Nat.reduceEqDiff, Nat.succ_eq_add_one, decide_true, decide_false, Bool.and_true, Bool.true_and, Bool.and_false, Bool.false_and, and_self, false_and, and_false, sizeLine_eq, Nat.reduceLeDiff, isTb, isTn, String.reduceBEq, Bool.or_true, Bool.true_or, Bool.or_false, Bool.false_or, Bool.false_and, D.notIns, String.reduceEq, D.eqv_str, Nat.min_def, not_false_eq_true, not_true_eq_false, Nat.one_ne_zero, reduceCtorEq, Int.cast_ofNat_Int, Int.natCast_zero, true_or, or_true, D.isStr])
/-! ### the draws that every law of this kind makes -/
def W_feed : WS :=
  (wRet (wLst (waDa (wFz (wCB fList (waSl 0 waNil))) (waDa (wC (.int 0)) (waDa (wC (.int 0)) (waDa (wC (.int 1)) waNil))))))
def W_draw : WS :=
  (wSeq (wIfS (wAndT (wTb (wOp fEq (wFz (wOpV fIx 0 (wC (.int 2)))) (wC (.int 0)))) (wTb (wOp fLt (wFz (wOpV fIx 0 (wC (.int 1)))) (wFz (wCB fLen (waDa (wFz (wOpV fIx 0 (wC (.int 0)))) waNil)))))) (wSeq (wAsg 3 (wCB fAbs (waDa (wFz (wCB fInt (waDa (wFz (wOp fIx (wFz (wOpV fIx 0 (wC (.int 0)))) (wFz (wOpV fIx 0 (wC (.int 1)))))) waNil))) waNil)))
  (wSeq (wAugI (fun i j => i + j) 0 (wC (.int 1)) (wC (.int 1)))
  (wIfS (wTb (wOpV fGe 3 (wFz (wOp fPow (wC (.int 10)) (wC (.int 18)))))) (wSetI 0 (wVar 3) (wC (.int 2))) (wSetI 0 (wFz (wOp fMod (wFz (wCB fInt (waDa (wFz (wOp fAdd (wFz (wOp fAdd (wFz (wOp fMul (wFz (wOpV fIx 0 (wC (.int 3)))) (wC (.int 48271)))) (wFz (wOpV fMul 3 (wC (.int 69621)))))) (wFz (wOpV fIx 0 (wC (.int 1)))))) waNil))) (wC (.int 2147483647)))) (wC (.int 3)))))) wNext)
  (wSeq (wIfS (wTb (wOp fGt (wFz (wOpV fIx 0 (wC (.int 2)))) (wC (.int 0)))) (wSeq (wAsg 4 (wOpW fMod (wFz (wCB fInt (waDa (wFz (wOpV fIx 0 (wC (.int 2)))) waNil))) 1))
  (wSeq (wSetI 0 (wFz (wOpW fDiv (wFz (wOpV fIx 0 (wC (.int 2)))) 1)) (wC (.int 2)))
  (wRet (wGive 4)))) wNext)
  (wSeq (wSetI 0 (wFz (wOp fMod (wFz (wCB fInt (waDa (wFz (wOp fAdd (wFz (wOp fMul (wFz (wOpV fIx 0 (wC (.int 3)))) (wC (.int 16807)))) (wC (.int 12345)))) waNil))) (wC (.int 2147483647)))) (wC (.int 3)))
  (wSeq (wAsg 2 (wOp fMod (wFz (wCB fInt (waDa (wFz (wOp fAdd (wFz (wOp fMul (wFz (wOpV fIx 0 (wC (.int 3)))) (wFz (wOpV fIx 0 (wC (.int 3)))))) (wFz (wOpV fIx 0 (wC (.int 3)))))) waNil))) (wC (.int 2147483629))))
  (wRet (wOpW fMod (wFz (wOpV fDiv 2 (wC (.int 11)))) 1))))))

def FeedOk (o : O) : Prop := ∃ (ns : List Int) (i c s : Int), o = .lst [.lst (ns.map D.int), .int i, .int c, .int s] ∧ 0 ≤ i ∧ 0 ≤ c ∧ 0 ≤ s ∧ s < 2147483647
def sem_feed : Sem := fun as G => ∃ ns : List Int, as = [.f (.ro (ns.map D.int))] ∧ ∀ o, FeedOk o → G (.ow o) as
def sem_draw : Sem := fun as G => ∃ o many, as = [.io o, .f (.int many)] ∧ FeedOk o ∧ 0 < many ∧ many < 1073741824 ∧ ∀ t o', 0 ≤ t → t < many → FeedOk o' → G (.fr (.int t)) [.io o', .f (.int many)]
theorem rd_feed (as : SEnv) (G : R → SEnv → Prop) (h : sem_feed as G) : as.length = 1 ∧ W_feed (retEnds as G) (enter 1 as) := by
  obtain ⟨ns, rfl, h⟩ := h
  refine ⟨rfl, ?_⟩
  show W_feed _ [.f (.ro (ns.map D.int))]
  unfold W_feed
  walk_at "dl"
  exact h _ ⟨ns, 0, 0, 1, rfl, by omega, by omega, by omega, by omega⟩
theorem draw_end {ns : List Int} {i c s many : Int} {G : R → SEnv → Prop} (hi : 0 ≤ i) (hc : 0 ≤ c) (h0 : 0 < many) (h1 : many < 1073741824) (hs : 0 ≤ s) (hs2 : s < 2147483647)
    (h : ∀ (t : Int) (o' : O), 0 ≤ t → t < many → FeedOk o' → G (.fr (.int t)) [.io o', .f (.int many)]) :
    CMul s 16807 ∧ CMul ((s * 16807 + 12345) % 2147483647) ((s * 16807 + 12345) % 2147483647) ∧
      CDiv (((s * 16807 + 12345) % 2147483647 * ((s * 16807 + 12345) % 2147483647) + (s * 16807 + 12345) % 2147483647) % 2147483629) 11 ∧ 0 < many ∧
      G (.fr (.int (((s * 16807 + 12345) % 2147483647 * ((s * 16807 + 12345) % 2147483647) + (s * 16807 + 12345) % 2147483647) % 2147483629 / 11 % many))) [.io (.lst [.lst (ns.map D.int), .int i, .int c, .int ((s * 16807 + 12345) % 2147483647)]), .r (.fr (.int many))] := by
  have m1 := Int.emod_nonneg (s * 16807 + 12345) (show (2147483647 : Int) ≠ 0 by omega)
  have m2 := Int.emod_lt_of_pos (s * 16807 + 12345) (show (0 : Int) < 2147483647 by omega)
  refine ⟨.inr (by omega), .inl (by omega), ⟨by omega, by omega⟩, h0, h _ _ (Int.emod_nonneg _ (by omega)) (Int.emod_lt_of_pos _ h0) ⟨ns, i, c, _, rfl, hi, hc, m1, m2⟩⟩
theorem rd_draw (as : SEnv) (G : R → SEnv → Prop) (h : sem_draw as G) : as.length = 2 ∧ W_draw (retEnds as G) (enter 5 as) := by
  obtain ⟨o, many, rfl, ⟨ns, i, cc, s, rfl, hi, hc, hs, hs2⟩, h0, h1, h⟩ := h
  refine ⟨rfl, ?_⟩
  show W_draw _ [.io (.lst [.lst (ns.map D.int), .int i, .int cc, .int s]), .f (.int many), .un, .un, .un]
  unfold W_draw
  walk_at "dl"
  have tell : ∀ {i c s : Int}, 0 ≤ i → 0 ≤ c → 0 ≤ s → s < 2147483647 → 0 < c → 0 < many ∧ CDiv c many ∧ G (.fr (.int (c % many))) [.io (.lst [.lst (ns.map D.int), .int i, .int (c / many), .int s]), .r (.fr (.int many))] := by
    intro i c s hi hc hs hs2 hp
    exact ⟨h0, ⟨h0, h1⟩, h _ _ (Int.emod_nonneg _ (by omega)) (Int.emod_lt_of_pos _ h0) ⟨ns, i, _, s, rfl, hi, Int.ediv_nonneg hc (by omega), hs, hs2⟩⟩
  by_cases q1 : cc = 0
  · subst q1
    rw [if_pos rfl]
    by_cases q2 : i < (ns.length : Int)
    · rw [if_pos q2, atI_nn hi, List.getElem?_map, List.getElem?_eq_getElem (by omega)]
      simp only [Option.map_some]
      refine ⟨⟨by decide, by decide, by decide⟩, ?_⟩
      generalize ns[i.toNat] = n
      generalize hcell : (if n < 0 then -n else n) = cell
      have cell0 : 0 ≤ cell := by rw [← hcell]; split <;> omega
      by_cases q3 : (1000000000000000000 : Int) ≤ cell
      · rw [if_pos q3, if_pos (by omega)]
        exact tell (by omega) (by omega) hs hs2 (by omega)
      · rw [if_neg q3]
        simp only [Int.lt_irrefl, if_false]
        refine ⟨.inr (by omega), .inr (by omega), ?_⟩
        exact draw_end (by omega) (by omega) h0 h1 (Int.emod_nonneg _ (by omega)) (Int.emod_lt_of_pos _ (by omega)) h
    · rw [if_neg q2]
      simp only [Int.lt_irrefl, if_false]
      exact draw_end hi (by omega) h0 h1 hs hs2 h
  · rw [if_neg q1, if_pos (by omega)]
    exact tell hi hc hs hs2 (by omega)
theorem draw_eq (o : O) (many : Int) (G : R → SEnv → Prop) : sem_draw [.io o, .r (.fr (.int many))] G =
    (FeedOk o ∧ 0 < many ∧ many < 1073741824 ∧ ∀ (t : Int) (o' : O), 0 ≤ t → t < many → FeedOk o' → G (.fr (.int t)) [.io o', .r (.fr (.int many))]) := by
  apply propext
  constructor
  · rintro ⟨o1, m, q, h⟩
    cases q
    exact h
  · intro h
    exact ⟨o, many, rfl, h⟩
end DL
set_option Elab.async false
set_option linter.all false
set_option maxRecDepth 100000
set_option maxHeartbeats 2000000
/-! plain data of a bounded size -/
namespace DL
open PySem PySem.Spec PyProof.Rows L2 Evl
def Pl (n w : Nat) (d : D) : Prop := d.isData = true ∧ d.py.canLay0 = true ∧ d.py.depth ≤ n ∧ d.py.weight ≤ w ∧ d.py.intsShort 13 = true ∧ d.py.showable = true
theorem Pl.mono {n w n' w' : Nat} {d : D} (h : Pl n w d) (h1 : n ≤ n') (h2 : w ≤ w') : Pl n' w' d := ⟨h.1, h.2.1, Nat.le_trans h.2.2.1 h1, Nat.le_trans h.2.2.2.1 h2, h.2.2.2.2⟩
theorem Pl.ok {n w : Nat} {d : D} (h : Pl n w d) (h1 : n ≤ 64) : d.ok := ⟨h.1, by
  simp only [SeqAt.shaped, Bool.and_eq_true, decide_eq_true_eq]
  exact ⟨h.2.1, Nat.le_trans h.2.2.1 h1⟩⟩
theorem Pl.shows {n w : Nat} {d : D} (h : Pl n w d) (h1 : n ≤ 64) (h2 : w ≤ 1048576) : d.shows := ⟨h.1, h.2.2.2.2.2, by
  have e : d.py.layable0 = true := by
    simp only [PyData.layable0, Bool.and_eq_true, decide_eq_true_eq]
    exact ⟨⟨h.2.1, Nat.le_trans h.2.2.1 h1⟩, Nat.le_trans h.2.2.2.1 (by omega)⟩
  have := shown_le13 e h.2.2.2.2.1
  rw [sizeLine_eq]
  omega, Nat.le_trans h.2.2.1 h1⟩
theorem Pl.non : Pl 0 0 .non := ⟨rfl, rfl, Nat.le_refl _, Nat.le_refl _, rfl, rfl⟩
theorem Pl.bl (b : Bool) : Pl 0 0 (.bl b) := ⟨rfl, rfl, Nat.le_refl _, Nat.le_refl _, rfl, rfl⟩
theorem small_shown : ∀ i : Fin 2001, ((PyData.int ((i.val : Int) - 1000)).intsShort 13 && (PyData.int ((i.val : Int) - 1000)).showable && decide ((PyData.int ((i.val : Int) - 1000)).weight ≤ 11)) = true := by decide +kernel
theorem Pl.int {i : Int} (h0 : -1000 ≤ i) (h1 : i ≤ 1000) : Pl 0 11 (.int i) := by
  have := small_shown ⟨(i + 1000).toNat, by omega⟩
  have e : (((i + 1000).toNat : Nat) : Int) - 1000 = i := by omega
  simp only [e, Bool.and_eq_true, decide_eq_true_eq] at this
  exact ⟨rfl, rfl, Nat.le_refl _, this.2, this.1.1, this.1.2⟩
theorem Pl.str {x : Str} (h : PyData.strOk x = true) : Pl 0 x.cps.size (.str x) := ⟨rfl, h, Nat.le_refl _, Nat.le_refl _, rfl, rfl⟩
theorem Pl.all {n w : Nat} : ∀ {xs : List D}, (∀ x ∈ xs, Pl n w x) → D.areData xs = true ∧ PyData.canLayAll0 (D.pys xs) = true ∧ PyData.depthAll (D.pys xs) ≤ n ∧ PyData.weightAll (D.pys xs) ≤ xs.length * (w + 1) ∧ PyData.intsShortAll 13 (D.pys xs) = true ∧ PyData.showableAll (D.pys xs) = true
  | [], _ => ⟨rfl, rfl, Nat.zero_le _, Nat.zero_le _, rfl, rfl⟩
  | x :: xs, h => by
    have h1 := h x List.mem_cons_self
    have h2 := Pl.all (xs := xs) fun y hy => h y (List.mem_cons_of_mem _ hy)
    refine ⟨?_, ?_, ?_, ?_, ?_, ?_⟩
    · simp only [D.areData, h1.1, h2.1, Bool.and_self]
    · simp only [D.pys, PyData.canLayAll0, h1.2.1, h2.2.1, Bool.and_self]
    · simp only [D.pys, PyData.depthAll]
      exact Nat.max_le.mpr ⟨h1.2.2.1, h2.2.2.1⟩
    · simp only [D.pys, PyData.weightAll, List.length_cons]
      have a := h1.2.2.2.1
      have b := h2.2.2.2.1
      rw [Nat.succ_mul]
      omega
    · simp only [D.pys, PyData.intsShortAll, h1.2.2.2.2.1, h2.2.2.2.2.1, Bool.and_self]
    · simp only [D.pys, PyData.showableAll, h1.2.2.2.2.2, h2.2.2.2.2.2, Bool.and_self]
theorem Pl.lst {n w : Nat} {xs : List D} (h : ∀ x ∈ xs, Pl n w x) : Pl (n + 1) (xs.length * (w + 1)) (.lst xs) := by
  obtain ⟨a, b, c, d, e, f⟩ := Pl.all h
  exact ⟨by simp only [D.isData]; exact a, by simp only [D.py, PyData.canLay0]; exact b, by simp only [D.py, PyData.depth]; omega, by simp only [D.py, PyData.weight]; exact d, by simp only [D.py, PyData.intsShort]; exact e, by simp only [D.py, PyData.showable]; exact f⟩
theorem Pl.tup {n w : Nat} {xs : List D} (h : ∀ x ∈ xs, Pl n w x) : Pl (n + 1) (xs.length * (w + 1)) (.tup xs) := by
  obtain ⟨a, b, c, d, e, f⟩ := Pl.all h
  exact ⟨by simp only [D.isData]; exact a, by simp only [D.py, PyData.canLay0]; exact b, by simp only [D.py, PyData.depth]; omega, by simp only [D.py, PyData.weight]; exact d, by simp only [D.py, PyData.intsShort]; exact e, by simp only [D.py, PyData.showable]; exact f⟩
theorem Pl.lstN {n w m v : Nat} {xs : List D} (h : ∀ x ∈ xs, Pl n w x) (hl : xs.length ≤ m) (hv : m * (w + 1) ≤ v) : Pl (n + 1) v (.lst xs) := (Pl.lst h).mono (Nat.le_refl _) (Nat.le_trans (Nat.mul_le_mul_right _ hl) hv)
theorem Pl.tupN {n w m v : Nat} {xs : List D} (h : ∀ x ∈ xs, Pl n w x) (hl : xs.length ≤ m) (hv : m * (w + 1) ≤ v) : Pl (n + 1) v (.tup xs) := (Pl.tup h).mono (Nat.le_refl _) (Nat.le_trans (Nat.mul_le_mul_right _ hl) hv)
theorem map_nat_inj : ∀ {a b : List Char}, a.map Char.toNat = b.map Char.toNat → a = b
  | [], [], _ => rfl
  | [], _ :: _, h => by simp at h
  | _ :: _, [], h => by simp at h
  | x :: a, y :: b, h => by
    simp only [List.map_cons, List.cons.injEq] at h
    rw [map_nat_inj h.2, Char.toNat_inj.mp h.1]
theorem ofString_inj (a b : String) : (Str.ofString a = Str.ofString b) = (a = b) := by
  apply propext
  constructor
  · intro h
    rw [Str.ofString_eq_toList, Str.ofString_eq_toList, Str.mk.injEq] at h
    have h2 := map_nat_inj (by simpa using h)
    exact String.toList_inj.mp h2
  · rintro rfl
    rfl
theorem ok_lit (s : String) : (D.str (Str.ofString s)).ok := by
  refine (Pl.str (x := Str.ofString s) ?_).ok (by decide)
  rw [Str.ofString_eq_toList]
  simp only [PyData.strOk, Array.all_eq_true_iff_forall_mem, decide_eq_true_eq]
  intro c hc
  simp only [List.mem_toArray, List.mem_map] at hc
  obtain ⟨z, _, rfl⟩ := hc
  have := z.valid
  have e : z.toNat = z.val.toNat := rfl
  rcases this with h | h <;> omega
theorem Pl.tup3 {n w1 w2 w3 : Nat} {a b c : D} (h1 : Pl n w1 a) (h2 : Pl n w2 b) (h3 : Pl n w3 c) : Pl (n + 1) (w1 + w2 + w3 + 3) (.tup [a, b, c]) := by
  obtain ⟨a1, a2, a3, a4, a5, a6⟩ := h1
  obtain ⟨b1, b2, b3, b4, b5, b6⟩ := h2
  obtain ⟨c1, c2, c3, c4, c5, c6⟩ := h3
  refine ⟨by simp [D.isData, D.areData, a1, b1, c1], by simp [D.py, D.pys, PyData.canLay0, PyData.canLayAll0, a2, b2, c2], ?_, ?_, by simp [D.py, D.pys, PyData.intsShort, PyData.intsShortAll, a5, b5, c5], by simp [D.py, D.pys, PyData.showable, PyData.showableAll, a6, b6, c6]⟩
  · simp only [D.py, D.pys, PyData.depth, PyData.depthAll]
    omega
  · simp only [D.py, D.pys, PyData.weight, PyData.weightAll]
    omega
/-! lists of values of one kind -/
theorem forall_mem_map {α : Type} {f : α → D} {P : D → Prop} {xs : List α} (h : ∀ x ∈ xs, P (f x)) : ∀ d ∈ xs.map f, P d := by
  intro d hd
  obtain ⟨x, hx, rfl⟩ := List.mem_map.mp hd
  exact h x hx
/-- xs[:i] + [x] + xs[i+1:] -/
theorem cut_put {α : Type} (f : α → D) (xs : List α) (x : α) {i : Int} (h0 : 0 ≤ i) (h : i < (xs.length : Int)) : cutD (xs.map f) none (some i) ++ [f x] ++ cutD (xs.map f) (some (i + 1)) none = (xs.set i.toNat x).map f := by
  obtain ⟨k, rfl⟩ := Int.eq_ofNat_of_zero_le h0
  have e : ((k : Int) + 1) = ((k + 1 : Nat) : Int) := by omega
  unfold cutD
  rw [e, HT.sIx_none, HT.sIx_none, HT.sIx_nat, HT.sIx_nat, List.length_map, List.set_eq_take_append_cons_drop, if_pos (by omega), List.drop_zero, Nat.sub_zero,
    Nat.min_eq_left (by omega), Nat.min_eq_left (by omega), Int.toNat_natCast, List.take_of_length_le (i := xs.length - (k + 1)) (l := List.drop (k + 1) (List.map f xs)) (by rw [List.length_drop, List.length_map]; exact Nat.le_refl _)]
  simp [List.map_take, List.map_drop]
theorem sIx_none (n d : Nat) : HT.sIx n d none = d := rfl
theorem sIx_lit (n d k : Nat) : HT.sIx n d (some (no_index (OfNat.ofNat k : Int))) = min k n := HT.sIx_nat n d k
theorem cut1 (x : D) (xs : List D) : DL.cutD (x :: xs) (some 1) none = xs := by
  unfold DL.cutD
  rw [sIx_none, show HT.sIx (x :: xs).length 0 (some 1) = 1 from (HT.sIx_nat _ _ 1).trans (Nat.min_eq_left (by rw [List.length_cons]; omega))]
  simp
/-- the ints of a list of ints -/
theorem mapInt_inj : ∀ {xs ys : List Int}, xs.map D.int = ys.map D.int → xs = ys
  | [], [], _ => rfl
  | [], _ :: _, h => by simp at h
  | _ :: _, [], h => by simp at h
  | x :: xs, y :: ys, h => by
    simp only [List.map_cons, List.cons.injEq, D.int.injEq] at h
    rw [h.1, mapInt_inj h.2]
theorem enumD_of {α : Type} {f : α → D} : ∀ {k : Nat} {xs : List α} {i : Nat} {d : D}, (enumD k (xs.map f))[i]? = some d → ∃ x, xs[i]? = some x ∧ d = .tup [.int ((k + i : Nat) : Int), f x]
  | k, [], i, d, h => by simp [enumD] at h
  | k, x :: xs, 0, d, h => by
    simp only [List.map_cons, enumD, List.getElem?_cons_zero, Option.some.injEq] at h
    exact ⟨x, rfl, h.symm⟩
  | k, x :: xs, i + 1, d, h => by
    simp only [List.map_cons, enumD, List.getElem?_cons_succ] at h
    obtain ⟨y, h1, h2⟩ := enumD_of h
    exact ⟨y, by simpa using h1, by rw [h2]; congr 4; omega⟩
theorem forI_enum {g : WG} {body : WS} {G : WEnds} {α : Type} {f : α → D} {xs : List α} {ρ : SEnv} (I : Nat → SEnv → Prop) (h0 : I 0 ρ)
    (hs : ∀ (i : Nat) (x : α) (ρ : SEnv), xs[i]? = some x → I i ρ → g (.tup [.int (i : Int), f x]) ρ fun ρ1 => body { nx := I (i + 1), ct := I (i + 1), bk := G.nx, rt := G.rt } ρ1) (hd : ∀ ρ, I xs.length ρ → G.nx ρ) : forI g body G (enumD 0 (xs.map f)) ρ := by
  refine ⟨I, h0, fun i d ρ hi h => ?_, fun ρ h => hd ρ (by rw [enumD_len, List.length_map] at h; exact h)⟩
  obtain ⟨x, h1, rfl⟩ := enumD_of hi
  rw [Nat.zero_add]
  exact hs i x ρ h1 h
theorem forI_enum0 {g : WG} {body : WS} {G : WEnds} {xs : List D} {ρ : SEnv} (I : Nat → SEnv → Prop) (h0 : I 0 ρ)
    (hs : ∀ (i : Nat) (x : D) (ρ : SEnv), xs[i]? = some x → I i ρ → g (.tup [.int (i : Int), x]) ρ fun ρ1 => body { nx := I (i + 1), ct := I (i + 1), bk := G.nx, rt := G.rt } ρ1) (hd : ∀ ρ, I xs.length ρ → G.nx ρ) : forI g body G (enumD 0 xs) ρ := by
  have := forI_enum (f := fun d : D => d) (xs := xs) (ρ := ρ) (g := g) (body := body) (G := G) I h0 hs hd
  rwa [List.map_id'] at this
theorem rangeD_of {n i : Nat} {d : D} (h : (rangeD 0 n)[i]? = some d) : i < n ∧ d = .int (i : Int) := by
  obtain ⟨hl, e⟩ := List.getElem?_eq_some_iff.mp h
  rw [rangeD_len] at hl
  rw [rangeD_get hl, Option.some.injEq, Int.zero_add] at h
  exact ⟨hl, h.symm⟩
theorem forI_range {g : WG} {body : WS} {G : WEnds} {n : Nat} {ρ : SEnv} (I : Nat → SEnv → Prop) (h0 : I 0 ρ)
    (hs : ∀ (i : Nat) (ρ : SEnv), i < n → I i ρ → g (.int (i : Int)) ρ fun ρ1 => body { nx := I (i + 1), ct := I (i + 1), bk := G.nx, rt := G.rt } ρ1) (hd : ∀ ρ, I n ρ → G.nx ρ) : forI g body G (rangeD 0 n) ρ := by
  refine ⟨I, h0, fun i d ρ hi h => ?_, fun ρ h => hd ρ (by rw [rangeD_len] at h; exact h)⟩
  obtain ⟨h1, rfl⟩ := rangeD_of hi
  exact hs i ρ h1 h
theorem lcI_map {vs : List Nat} {g : WG} {wt : WT} {we : WE} {α : Type} {f : α → D} {xs : List α} {ρ : SEnv} {k : List D → SEnv → Prop} (I : Nat → List D → SEnv → Prop) (h0 : I 0 [] ρ)
    (hs : ∀ (i : Nat) (x : α) (acc : List D) (ρ : SEnv), xs[i]? = some x → I i acc ρ → g (f x) ρ fun ρ1 => wt ρ1 fun b ρ2 => if b = true then we ρ2 fun r ρ3 => I (i + 1) (acc ++ [r.d]) (wipeS ρ3 vs) else I (i + 1) acc (wipeS ρ2 vs))
    (hd : ∀ acc ρ, I xs.length acc ρ → k acc ρ) : lcI vs g wt we (xs.map f) ρ k := by
  refine ⟨I, h0, fun i d acc ρ hi h => ?_, fun acc ρ h => hd acc ρ (by rw [List.length_map] at h; exact h)⟩
  rw [List.getElem?_map] at hi
  cases hx : xs[i]? with
  | none => rw [hx] at hi; cases hi
  | some x =>
    rw [hx] at hi
    cases hi
    exact hs i x acc ρ hx h
theorem lcI_range {vs : List Nat} {g : WG} {wt : WT} {we : WE} {n : Nat} {ρ : SEnv} {k : List D → SEnv → Prop} (I : Nat → List D → SEnv → Prop) (h0 : I 0 [] ρ)
    (hs : ∀ (i : Nat) (acc : List D) (ρ : SEnv), i < n → I i acc ρ → g (.int (i : Int)) ρ fun ρ1 => wt ρ1 fun b ρ2 => if b = true then we ρ2 fun r ρ3 => I (i + 1) (acc ++ [r.d]) (wipeS ρ3 vs) else I (i + 1) acc (wipeS ρ2 vs))
    (hd : ∀ acc ρ, I n acc ρ → k acc ρ) : lcI vs g wt we (rangeD 0 n) ρ k := by
  refine ⟨I, h0, fun i d acc ρ hi h => ?_, fun acc ρ h => hd acc ρ (by rw [rangeD_len] at h; exact h)⟩
  obtain ⟨h1, rfl⟩ := rangeD_of hi
  exact hs i acc ρ h1 h
end DL
set_option Elab.async false
set_option linter.all false
set_option maxRecDepth 100000
set_option maxHeartbeats 2000000
/-! ### walking, one turn at a time: what comes next is held back (a token stands behind it) until the value before it is known -/
namespace DL
open PySem PySem.Spec PyProof.Rows L2 Evl
inductive Tok {α : Sort u} (k : α) : Type
  | mk
def kO {α : Type} (o : Option α) (k : α → Prop) (t : Tok k) : Prop := match o with
  | some a => k a
  | none => False
def kB (b : Bool) (A B : Prop) (t : Tok A) (u : Tok B) : Prop := if b = true then A else B
def kBl (z : D) (k : Bool → Prop) (t : Tok k) : Prop := onB z k
def kI (z : D) (k : Int → Prop) (t : Tok k) : Prop := onI z k
def kL (z : D) (k : List D → Prop) (t : Tok k) : Prop := match z with
  | .lst ds => k ds
  | _ => False
def kT (z : D) (k : List D → Prop) (t : Tok k) : Prop := match z with
  | .tup ds => k ds
  | _ => False
def kD (f : F2) (d e : D) (k : R → Prop) (t : Tok k) : Prop := f d e k
def k1 (f : F1) (ds : List D) (k : R → Prop) (t : Tok k) : Prop := f ds k
def kM (f : FM) (d : D) (ds : List D) (k : R → Prop) (t : Tok k) : Prop := f d ds k
def kSl (d : D) (lo hi : Option Int) (k : R → Prop) (t : Tok k) : Prop := fSl d lo hi k
def kS (sem : Sem) (as : SEnv) (k : R → SEnv → Prop) (t : Tok k) : Prop := sem as k
def kSet (xs : List D) (i : Int) (d : D) (k : List D → Prop) (t : Tok k) : Prop := setD xs i d k
def kF (g : WG) (body : WS) (G : WEnds) (t : Tok G) (u : Tok body) (v : Tok g) (ds : List D) (ρ : SEnv) : Prop := forI g body G ds ρ
def kC (vs : List Nat) (g : WG) (wt : WT) (we : WE) (ds : List D) (ρ : SEnv) (k : List D → SEnv → Prop) (t : Tok k) (u : Tok wt) (v : Tok we) (w : Tok g) : Prop := lcI vs g wt we ds ρ k
/-! what is known goes on -/
theorem kO_some {α : Type} (a : α) (k : α → Prop) (t : Tok k) : kO (some a) k t = k a := rfl
theorem kO_none {α : Type} (k : α → Prop) (t : Tok k) : kO none k t = False := rfl
theorem kB_true (A B : Prop) (t : Tok A) (u : Tok B) : kB true A B t u = A := if_pos rfl
theorem kB_false (A B : Prop) (t : Tok A) (u : Tok B) : kB false A B t u = B := if_neg (by simp)
theorem kB_not (b : Bool) (A B : Prop) (t : Tok A) (u : Tok B) : kB (!b) A B t u = kB b B A u t := by cases b <;> rfl
theorem kB_pos {P : Prop} [Decidable P] {A B : Prop} {t : Tok A} {u : Tok B} (h : P) : kB (decide P) A B t u = A := by rw [decide_eq_true h, kB_true]
theorem kB_neg {P : Prop} [Decidable P] {A B : Prop} {t : Tok A} {u : Tok B} (h : ¬ P) : kB (decide P) A B t u = B := by rw [decide_eq_false h, kB_false]
theorem kBl_bl (b : Bool) (k : Bool → Prop) (t : Tok k) : kBl (.bl b) k t = k b := rfl
theorem kI_int (i : Int) (k : Int → Prop) (t : Tok k) : kI (.int i) k t = k i := rfl
theorem kL_lst (ds : List D) (k : List D → Prop) (t : Tok k) : kL (.lst ds) k t = k ds := rfl
theorem kT_tup (ds : List D) (k : List D → Prop) (t : Tok k) : kT (.tup ds) k t = k ds := rfl
theorem kO_go {α : Type} {o : Option α} {a : α} {k : α → Prop} {t : Tok k} (h : o = some a) (q : k a) : kO o k t := by rw [h]; exact q
theorem kB_yes {P : Prop} [Decidable P] {A B : Prop} {t : Tok A} {u : Tok B} (h : P) (q : A) : kB (decide P) A B t u := by rw [kB_pos h]; exact q
theorem kB_no {P : Prop} [Decidable P] {A B : Prop} {t : Tok A} {u : Tok B} (h : ¬ P) (q : B) : kB (decide P) A B t u := by rw [kB_neg h]; exact q
theorem kB_t {b : Bool} {A B : Prop} {t : Tok A} {u : Tok B} (h : b = true) (q : A) : kB b A B t u := by rw [h, kB_true]; exact q
theorem kB_f {b : Bool} {A B : Prop} {t : Tok A} {u : Tok B} (h : b = false) (q : B) : kB b A B t u := by rw [h, kB_false]; exact q
section
variable (k : R → Prop) (t : Tok k)
theorem kD_fI0 (g : Int → Int → D) (i j : Int) : kD (fI0 g) (.int i) (.int j) k t = k (.fr (g i j)) := rfl
theorem kD_fI (C : Int → Int → Prop) (g : Int → Int → D) (i j : Int) : kD (fI C g) (.int i) (.int j) k t = (C i j ∧ k (.fr (g i j))) := rfl
theorem kD_addI (i j : Int) : kD fAdd (.int i) (.int j) k t = k (.fr (.int (i + j))) := rfl
theorem kD_addS (i j : Str) : kD fAdd (.str i) (.str j) k t = (i.length + j.length ≤ sizeLine ∧ k (.fr (.str (i ++ j)))) := rfl
theorem kD_addL (i j : List D) : kD fAdd (.lst i) (.lst j) k t = (i.length + j.length ≤ sizeLine ∧ k (.ow (.lst (i ++ j)))) := rfl
theorem kD_mulI (i j : Int) : kD fMul (.int i) (.int j) k t = (CMul i j ∧ k (.fr (.int (i * j)))) := rfl
theorem kD_mulL (xs : List D) (j : Int) : kD fMul (.lst xs) (.int j) k t = ((-(2 ^ 63) ≤ j ∧ j < 2 ^ 63 ∧ xs.length * j.toNat ≤ sizeLine) ∧ k (.ow (.lst (List.replicate j.toNat xs).flatten))) := rfl
theorem kD_ixL (xs : List D) (i : Int) : kD fIx (.lst xs) (.int i) k t = kO (atI xs i) (fun z => k (.fr z)) .mk := by
  show (match atI xs i with | some z => k (.fr z) | none => False) = _
  unfold kO
  cases atI xs i <;> rfl
theorem kD_ixT (xs : List D) (i : Int) : kD fIx (.tup xs) (.int i) k t = kO (atI xs i) (fun z => k (.fr z)) .mk := by
  show (match atI xs i with | some z => k (.fr z) | none => False) = _
  unfold kO
  cases atI xs i <;> rfl
theorem kD_ixS (s : Str) (i : Int) : kD fIx (.str s) (.int i) k t = (s.length ≤ sizeLine ∧ kO (atI s.cps.toList i) (fun c => k (.fr (.str ⟨#[c]⟩))) .mk) := by
  show (_ ∧ (match atI s.cps.toList i with | some c => k (.fr (.str ⟨#[c]⟩)) | none => False)) = _
  unfold kO
  cases atI s.cps.toList i <;> rfl
theorem kD_eq (d e : D) : kD fEq d e k t = (((d.ok ∧ e.ok) ∨ (d.isStr = true ∧ e.isStr = true)) ∧ k (.fr (.bl (D.eqv d e)))) := rfl
theorem kD_ne (d e : D) : kD fNe d e k t = (((d.ok ∧ e.ok) ∨ (d.isStr = true ∧ e.isStr = true)) ∧ k (.fr (.bl (!D.eqv d e)))) := rfl
theorem kD_in (d : D) (xs : List D) : kD fIn d (.lst xs) k t = (d.ok ∧ (D.lst xs).ok ∧ k (.fr (.bl (d.isIn xs)))) := rfl
theorem kD_notIn (d : D) (xs : List D) : kD fNotIn d (.lst xs) k t = (d.ok ∧ (D.lst xs).ok ∧ k (.fr (.bl (!d.isIn xs)))) := rfl
theorem kD_isN (d : D) : kD fIsN d .non k t = k (.fr (.bl d.isNon)) := rfl
theorem kD_notN (d : D) : kD fNotN d .non k t = k (.fr (.bl (!d.isNon))) := rfl
theorem kD_isB (a b : Bool) : kD fIsB (.bl a) (.bl b) k t = k (.fr (.bl (decide (a = b)))) := rfl
theorem kD_notB (a b : Bool) : kD fNotB (.bl a) (.bl b) k t = k (.fr (.bl (!decide (a = b)))) := rfl
theorem k1_lenL (xs : List D) : k1 fLen [.lst xs] k t = k (.fr (.int (xs.length : Int))) := rfl
theorem k1_lenT (xs : List D) : k1 fLen [.tup xs] k t = k (.fr (.int (xs.length : Int))) := rfl
theorem k1_lenS (x : Str) : k1 fLen [.str x] k t = (x.length ≤ sizeLine ∧ k (.fr (.int (x.length : Int)))) := rfl
theorem k1_abs (i : Int) : k1 fAbs [.int i] k t = k (.fr (.int (if i < 0 then -i else i))) := rfl
theorem k1_int (i : Int) : k1 fInt [.int i] k t = k (.fr (.int i)) := rfl
theorem k1_max2 (i j : Int) : k1 fMax2 [.int i, .int j] k t = k (.fr (.int (if j > i then j else i))) := rfl
theorem k1_min2 (i j : Int) : k1 fMin2 [.int i, .int j] k t = k (.fr (.int (if j < i then j else i))) := rfl
theorem k1_ints (f : F1) (r : List Int → (R → Prop) → Prop) (hf : ∀ ds G, f ds G = intsL ds fun ns => r ns G) (ns : List Int) : k1 f [.lst (ns.map D.int)] k t = r ns k := by
  unfold k1
  rw [hf]
  apply propext
  constructor
  · rintro ⟨ms, e, h⟩
    rw [mapInt_inj e]
    exact h
  · intro h
    exact ⟨ns, rfl, h⟩
theorem k1_sum (ns : List Int) : k1 fSum [.lst (ns.map D.int)] k t = k (.fr (.int ns.sum)) := k1_ints k t fSum (fun ns G => G (.fr (.int ns.sum))) (fun _ _ => rfl) ns
theorem k1_min (ns : List Int) : k1 fMin [.lst (ns.map D.int)] k t = (0 < ns.length ∧ k (.fr (.int (minI ns)))) := k1_ints k t fMin (fun ns G => 0 < ns.length ∧ G (.fr (.int (minI ns)))) (fun _ _ => rfl) ns
theorem k1_max (ns : List Int) : k1 fMax [.lst (ns.map D.int)] k t = (0 < ns.length ∧ k (.fr (.int (maxI ns)))) := k1_ints k t fMax (fun ns G => 0 < ns.length ∧ G (.fr (.int (maxI ns)))) (fun _ _ => rfl) ns
theorem k1_sorted (ns : List Int) : k1 fSorted [.lst (ns.map D.int)] k t = ∀ ms : List Int, ms.Perm ns → ms.Pairwise (· ≤ ·) → k (.ow (.lst (ms.map D.int))) := k1_ints k t fSorted (fun ns G => ∀ ms : List Int, ms.Perm ns → ms.Pairwise (· ≤ ·) → G (.ow (.lst (ms.map D.int)))) (fun _ _ => rfl) ns
theorem k1_listL (xs : List D) : k1 fList [.lst xs] k t = k (.ow (.lst xs)) := rfl
theorem k1_listT (xs : List D) : k1 fList [.tup xs] k t = k (.ow (.lst xs)) := rfl
theorem k1_listR (xs : List D) : k1 fList [.ro xs] k t = k (.ow (.lst xs)) := rfl
theorem k1_tupleL (xs : List D) : k1 fTuple [.lst xs] k t = k (.fr (.tup xs)) := rfl
theorem k1_tupleT (xs : List D) : k1 fTuple [.tup xs] k t = k (.fr (.tup xs)) := rfl
theorem k1_strI (i : Int) : k1 fStr [.int i] k t = (i.natAbs.log2 < 1920 ∧ k (.fr (.str (toString i)))) := rfl
theorem k1_strS (x : Str) : k1 fStr [.str x] k t = k (.fr (.str x)) := rfl
theorem k1_repr (d : D) : k1 fRepr [d] k t = (d.isSeq = true ∧ d.shows ∧ k (.fr (.str d.py.shown))) := rfl
theorem kSl_L (xs : List D) (lo hi : Option Int) : kSl (.lst xs) lo hi k t = k (.ow (.lst (DL.cutD xs lo hi))) := rfl
theorem kSl_S (x : Str) (lo hi : Option Int) : kSl (.str x) lo hi k t = (x.length ≤ sizeLine ∧ k (.fr (.str (cutS x lo hi)))) := rfl
theorem kSl_T (xs : List D) (lo hi : Option Int) : kSl (.tup xs) lo hi k t = (¬ (HT.sIx xs.length 0 lo = 0 ∧ HT.sIx xs.length xs.length hi = xs.length) ∧ k (.fr (.tup (DL.cutD xs lo hi)))) := rfl
end
theorem kSet_lit (xs : List D) (n : Nat) (d : D) (k : List D → Prop) (t : Tok k) : kSet xs (no_index (OfNat.ofNat n : Int)) d k t = (n < xs.length ∧ k (xs.set n d)) := setD_lit xs n d k
/-! the walk's rules -/
theorem xwOp (f : F2) (wa wb : WD) (ρ : SEnv) (G : R → SEnv → Prop) : wOp f wa wb ρ G = wa ρ fun d ρ1 => wb ρ1 fun e ρ2 => kD f d e (fun z => G z ρ2) .mk := rfl
theorem xpeek (i : Nat) (ρ : SEnv) (k : D → Prop) : peek i ρ k = kO ρ[i]? (fun s => match s with
  | .un => False
  | .r x => k x.d
  | .io o => k o.d) .mk := by
  unfold peek kO
  cases h : ρ[i]? with
  | none => rfl
  | some s => cases s <;> rfl
theorem xwOpV (f : F2) (i : Nat) (wb : WD) (ρ : SEnv) (G : R → SEnv → Prop) : wOpV f i wb ρ G = (isSet i ρ ∧ wb ρ fun e ρ2 => peek i ρ2 fun d => kD f d e (fun z => G z ρ2) .mk) := rfl
theorem xwOpW (f : F2) (wa : WD) (j : Nat) (ρ : SEnv) (G : R → SEnv → Prop) : wOpW f wa j ρ G = wa ρ fun d ρ1 => peek j ρ1 fun e => kD f d e (fun z => G z ρ1) .mk := rfl
theorem xwOpVV (f : F2) (i j : Nat) (ρ : SEnv) (G : R → SEnv → Prop) : wOpVV f i j ρ G = peek i ρ fun d => peek j ρ fun e => kD f d e (fun z => G z ρ) .mk := rfl
theorem xwVar (i : Nat) (ρ : SEnv) (G : D → SEnv → Prop) : wVar i ρ G = kO ρ[i]? (fun s => match s with
  | .r (.fr d) => G d ρ
  | .r (.ow o) => G o.d (ρ.set i (.r (.fr o.d)))
  | .io _ => False
  | .un => False) .mk := by
  unfold wVar kO
  cases h : ρ[i]? with
  | none => rfl
  | some s => cases s with
    | r x => cases x <;> rfl
    | _ => rfl
theorem xwGive (i : Nat) (ρ : SEnv) (G : R → SEnv → Prop) : wGive i ρ G = kO ρ[i]? (fun s => match s with
  | .r x => G x (ρ.set i .un)
  | .io _ => False
  | .un => False) .mk := by
  unfold wGive kO
  cases h : ρ[i]? with
  | none => rfl
  | some s => cases s <;> rfl
theorem xtoArgs (i : Nat) (as : List Ar) (ρ : SEnv) (k : SEnv → Prop) : toArgs (.inl i :: as) ρ k = kO ρ[i]? (fun s => match s with
    | .r (.ow o) => toArgs as ρ fun r => k (.io o :: r)
    | .io o => toArgs as ρ fun r => k (.io o :: r)
    | .r (.fr _) => False
    | .un => False) .mk := by
  rw [toArgs_1]
  unfold kO
  cases h : ρ[i]? with
  | none => rfl
  | some s => cases s with
    | r x => cases x <;> rfl
    | _ => rfl
theorem xputBack (i : Nat) (o : O) (ads : List Ar) (as ρ : SEnv) (k : SEnv → Prop) : putBack (.inl i :: ads) (.io o :: as) ρ k = kO ρ[i]? (fun s => putBack ads as (ρ.set i (s.put o)) k) .mk := by
  rw [putBack_1]
  unfold kO
  cases h : ρ[i]? with
  | none => rfl
  | some s => rfl
theorem xwCall (sem : Sem) (wa : WA) (ρ : SEnv) (G : R → SEnv → Prop) : wCall sem wa ρ G = wa ρ fun ads ρ1 => ndA ads = true ∧ toArgs ads ρ1 fun as => kS sem as (fun r as' => putBack ads as' ρ1 fun ρ2 => G r ρ2) .mk := rfl
theorem xwTb (we : WE) (ρ : SEnv) (G : Bool → SEnv → Prop) : wTb we ρ G = we ρ fun z ρ' => kBl z.d (fun b => G b ρ') .mk := rfl
theorem xonT (z : D) (k : Bool → Prop) : onT z k = kO z.truth k .mk := by
  unfold onT kO
  cases z.truth <;> rfl
theorem xwAndT (w1 w2 : WT) (ρ : SEnv) (G : Bool → SEnv → Prop) : wAndT w1 w2 ρ G = w1 ρ fun b ρ1 => kB b (w2 ρ1 G) (G false ρ1) .mk .mk := rfl
theorem xwOrT (w1 w2 : WT) (ρ : SEnv) (G : Bool → SEnv → Prop) : wOrT w1 w2 ρ G = w1 ρ fun b ρ1 => kB b (G true ρ1) (w2 ρ1 G) .mk .mk := rfl
theorem xwAndV (wa : WD) (wf : WE) (ρ : SEnv) (G : R → SEnv → Prop) : wAndV wa wf ρ G = wa ρ fun z ρ1 => kBl z (fun b => kB b (wf ρ1 G) (G (.fr (.bl false)) ρ1) .mk .mk) .mk := rfl
theorem xwOrV (wa : WD) (wf : WE) (ρ : SEnv) (G : R → SEnv → Prop) : wOrV wa wf ρ G = wa ρ fun z ρ1 => kBl z (fun b => kB b (G (.fr (.bl true)) ρ1) (wf ρ1 G) .mk .mk) .mk := rfl
theorem xwNotV (wa : WD) (ρ : SEnv) (G : D → SEnv → Prop) : wNotV wa ρ G = wa ρ fun z ρ1 => kBl z (fun b => G (.bl (!b)) ρ1) .mk := rfl
theorem xwIf (wt : WT) (we wf : WE) (ρ : SEnv) (G : R → SEnv → Prop) : wIf wt we wf ρ G = wt ρ fun b ρ1 => kB b (we ρ1 G) (wf ρ1 G) .mk .mk := rfl
theorem xwChain (f f' : F2) (wa wb w3 : WD) (ρ : SEnv) (G : R → SEnv → Prop) : wChain f f' wa wb w3 ρ G = wa ρ fun d ρ1 => wb ρ1 fun e ρ2 => kD f d e (fun z => kBl z.d (fun k => kB k (w3 ρ2 fun g ρ3 => kD f' e g (fun z' => G z' ρ3) .mk) (G (.fr (.bl false)) ρ2) .mk .mk) .mk) .mk := rfl
theorem xwChain3 (f f' f2 : F2) (wa wb w3 w4 : WD) (ρ : SEnv) (G : R → SEnv → Prop) : wChain3 f f' f2 wa wb w3 w4 ρ G = wa ρ fun d ρ1 => wb ρ1 fun e ρ2 => kD f d e (fun z => kBl z.d (fun k => kB k (w3 ρ2 fun g ρ3 => kD f' e g (fun z' => kBl z'.d (fun k' => kB k' (w4 ρ3 fun h ρ4 => kD f2 g h (fun z2 => G z2 ρ4) .mk) (G (.fr (.bl false)) ρ3) .mk .mk) .mk) .mk) (G (.fr (.bl false)) ρ2) .mk .mk) .mk) .mk := rfl
theorem xwPart (wd : WD) (ρ : SEnv) (G : Option Int → SEnv → Prop) : wPart wd ρ G = wd ρ fun z ρ' => kI z (fun i => G (some i) ρ') .mk := rfl
theorem xwSl (wa : WD) (wl wh : WO) (ρ : SEnv) (G : R → SEnv → Prop) : wSl wa wl wh ρ G = wa ρ fun d ρ1 => wl ρ1 fun lo ρ2 => wh ρ2 fun hi ρ3 => kSl d lo hi (fun z => G z ρ3) .mk := rfl
theorem xwSlV (i : Nat) (wl wh : WO) (ρ : SEnv) (G : R → SEnv → Prop) : wSlV i wl wh ρ G = (isSet i ρ ∧ wl ρ fun lo ρ2 => wh ρ2 fun hi ρ3 => peek i ρ3 fun d => kSl d lo hi (fun z => G z ρ3) .mk) := rfl
theorem xwCB (f : F1) (wl : WA) (ρ : SEnv) (G : R → SEnv → Prop) : wCB f wl ρ G = wl ρ fun as ρ' => peeks as ρ' fun ds => k1 f ds (fun z => G z ρ') .mk := rfl
theorem xwIfS (wt : WT) (ws wu : WS) (G : WEnds) (ρ : SEnv) : wIfS wt ws wu G ρ = wt ρ fun b ρ1 => kB b (ws G ρ1) (wu G ρ1) .mk .mk := rfl
theorem xgdTup (n : Nat) (gs : List D → SEnv → (SEnv → Prop) → Prop) (d : D) (ρ : SEnv) (k : SEnv → Prop) : gdTup n gs d ρ k = kT d (fun ds => ds.length = n ∧ gs ds ρ k) .mk := by
  cases d <;> rfl
theorem xatO (i : Nat) (ρ : SEnv) (k : O → Prop) : atO i ρ k = kO ρ[i]? (fun s => match s with
  | .r (.ow o) => k o
  | .io o => k o
  | .r (.fr _) => False
  | .un => False) .mk := by
  unfold atO kO
  cases h : ρ[i]? with
  | none => rfl
  | some s => cases s with
    | r x => cases x <;> rfl
    | _ => rfl
theorem xwSetI (i : Nat) (wd wb : WD) (G : WEnds) (ρ : SEnv) : wSetI i wd wb G ρ = wd ρ fun d ρ1 => isO i ρ1 ∧ wb ρ1 fun z ρ' => kI z (fun n => atO i ρ' fun o => onL o fun xs => kSet xs n d (fun ys => G.nx (putO i (.lst ys) ρ')) .mk) .mk := rfl
theorem xwAugN (f : Int → Int → Int) (i : Nat) (wd : WD) (G : WEnds) (ρ : SEnv) : wAugN f i wd G ρ = peek i ρ fun x => kI x (fun m => wd ρ fun d ρ' => kI d (fun n => G.nx (ρ'.set i (.r (.fr (.int (f m n)))))) .mk) .mk := rfl
theorem xwIL (wd : WD) (ρ : SEnv) (G : List D → SEnv → Prop) : wIL wd ρ G = wd ρ fun d ρ' => kL d (fun ds => G ds ρ') .mk := by
  unfold wIL
  congr 1
theorem xwIT (wd : WD) (ρ : SEnv) (G : List D → SEnv → Prop) : wIT wd ρ G = wd ρ fun d ρ' => kT d (fun ds => G ds ρ') .mk := by
  unfold wIT
  congr 1
theorem xwFor (wi : WI) (g : WG) (body : WS) (G : WEnds) (ρ : SEnv) : wFor wi g body G ρ = wi ρ fun ds ρ1 => kF g body G .mk .mk .mk ds ρ1 := rfl
theorem xwLc (vs : List Nat) (wi : WI) (g : WG) (wt : WT) (we : WE) (ρ : SEnv) (G : R → SEnv → Prop) : wLc vs wi g wt we ρ G = wi ρ fun ds ρ1 => okS vs ρ1 = true ∧ ds.length < sizeLine ∧ kC vs g wt we ds (wipeS ρ1 vs) (fun acc ρ2 => G (.ow (.lst acc)) (restS vs ρ1 ρ2)) .mk .mk .mk .mk := rfl
theorem xwBM (T : String) (f : FM) (wo : WD) (wl : WA) (ρ : SEnv) (G : R → SEnv → Prop) : wBM T f wo wl ρ G = wo ρ fun d ρ1 => ofT T d ∧ wl ρ1 fun as ρ' => peeks as ρ' fun ds => kM f d ds (fun z => G z ρ') .mk := rfl
theorem xwBMV (T : String) (f : FM) (i : Nat) (wl : WA) (ρ : SEnv) (G : R → SEnv → Prop) : wBMV T f i wl ρ G = (peek i ρ (ofT T) ∧ wl ρ fun as ρ' => peek i ρ' fun d => peeks as ρ' fun ds => kM f d ds (fun z => G z ρ') .mk) := rfl
theorem xwNeg (wd : WD) (ρ : SEnv) (G : D → SEnv → Prop) : wNeg wd ρ G = wd ρ fun z ρ' => kI z (fun i => G (.int (-i)) ρ') .mk := rfl
/-! the loops, read by an invariant -/
section
variable {g : WG} {body : WS} {G : WEnds} {t : Tok G} {u : Tok body} {v : Tok g} {ρ : SEnv}
theorem kF_range {n : Nat} (I : Nat → SEnv → Prop) (h0 : I 0 ρ)
    (hs : ∀ (i : Nat) (ρ : SEnv), i < n → I i ρ → g (.int (i : Int)) ρ fun ρ1 => body { nx := I (i + 1), ct := I (i + 1), bk := G.nx, rt := G.rt } ρ1) (hd : ∀ ρ, I n ρ → G.nx ρ) : kF g body G t u v (rangeD 0 n) ρ := forI_range I h0 hs hd
theorem kF_map {α : Type} {enc : α → D} {xs : List α} (I : Nat → SEnv → Prop) (h0 : I 0 ρ)
    (hs : ∀ (i : Nat) (x : α) (ρ : SEnv), xs[i]? = some x → I i ρ → g (enc x) ρ fun ρ1 => body { nx := I (i + 1), ct := I (i + 1), bk := G.nx, rt := G.rt } ρ1) (hd : ∀ ρ, I xs.length ρ → G.nx ρ) : kF g body G t u v (xs.map enc) ρ := forI_map I h0 hs hd
theorem kF_enum {α : Type} {f : α → D} {xs : List α} (I : Nat → SEnv → Prop) (h0 : I 0 ρ)
    (hs : ∀ (i : Nat) (x : α) (ρ : SEnv), xs[i]? = some x → I i ρ → g (.tup [.int (i : Int), f x]) ρ fun ρ1 => body { nx := I (i + 1), ct := I (i + 1), bk := G.nx, rt := G.rt } ρ1) (hd : ∀ ρ, I xs.length ρ → G.nx ρ) : kF g body G t u v (enumD 0 (xs.map f)) ρ := forI_enum I h0 hs hd
/-- a loop over values that all keep P, a state kept -/
theorem kF_each {ds : List D} (P : D → Prop) (I : SEnv → Prop) (hP : ∀ d ∈ ds, P d) (h0 : I ρ)
    (hs : ∀ (d : D) (ρ : SEnv), P d → I ρ → g d ρ fun ρ1 => body { nx := I, ct := I, bk := G.nx, rt := G.rt } ρ1) (hd : ∀ ρ, I ρ → G.nx ρ) : kF g body G t u v ds ρ :=
  ⟨fun _ ρ => I ρ, h0, fun i d ρ hi h => hs d ρ (hP d (List.mem_of_getElem? hi)) h, fun ρ h => hd ρ h⟩
end
section
variable {vs : List Nat} {g : WG} {wt : WT} {we : WE} {ρ : SEnv} {k : List D → SEnv → Prop} {t : Tok k} {u : Tok wt} {v : Tok we} {w : Tok g}
theorem kC_map {α : Type} {f : α → D} {xs : List α} (I : Nat → List D → SEnv → Prop) (h0 : I 0 [] ρ)
    (hs : ∀ (i : Nat) (x : α) (acc : List D) (ρ : SEnv), xs[i]? = some x → I i acc ρ → g (f x) ρ fun ρ1 => wt ρ1 fun b ρ2 => kB b (we ρ2 fun r ρ3 => I (i + 1) (acc ++ [r.d]) (wipeS ρ3 vs)) (I (i + 1) acc (wipeS ρ2 vs)) .mk .mk)
    (hd : ∀ acc ρ, I xs.length acc ρ → k acc ρ) : kC vs g wt we (xs.map f) ρ k t u v w := lcI_map I h0 hs hd
theorem kC_range {n : Nat} (I : Nat → List D → SEnv → Prop) (h0 : I 0 [] ρ)
    (hs : ∀ (i : Nat) (acc : List D) (ρ : SEnv), i < n → I i acc ρ → g (.int (i : Int)) ρ fun ρ1 => wt ρ1 fun b ρ2 => kB b (we ρ2 fun r ρ3 => I (i + 1) (acc ++ [r.d]) (wipeS ρ3 vs)) (I (i + 1) acc (wipeS ρ2 vs)) .mk .mk)
    (hd : ∀ acc ρ, I n acc ρ → k acc ρ) : kC vs g wt we (rangeD 0 n) ρ k t u v w := lcI_range I h0 hs hd
end
section
variable {g : WG} {body : WS} {G : WEnds} {t : Tok G} {u : Tok body} {v : Tok g} {ρ : SEnv}
/-- a loop over values that all keep P; only the loop's name changes -/
theorem kF_eachV {ds : List D} (n : Nat) (P : D → Prop) (s0 : Sl) (hP : ∀ d ∈ ds, P d) (h0 : ρ.set n s0 = ρ)
    (hs : ∀ (d : D) (s : Sl), P d → g d (ρ.set n s) fun ρ1 => body { nx := fun ρ' => ∃ s, ρ' = ρ.set n s, ct := fun ρ' => ∃ s, ρ' = ρ.set n s, bk := G.nx, rt := G.rt } ρ1)
    (hd : ∀ s, G.nx (ρ.set n s)) : kF g body G t u v ds ρ :=
  kF_each P (fun ρ' => ∃ s, ρ' = ρ.set n s) hP ⟨s0, h0.symm⟩ (fun d ρ' hp ⟨s, hs'⟩ => by rw [hs']; exact hs d s hp) (fun ρ' ⟨s, h⟩ => by rw [h]; exact hd s)
theorem kF_eachR {ds : List D} (P : D → Prop) (I : SEnv → SEnv → Prop) (hP : ∀ d ∈ ds, P d) (h0 : I ρ ρ)
    (hs : ∀ (d : D) (ρ' : SEnv), P d → I ρ ρ' → g d ρ' fun ρ1 => body { nx := I ρ, ct := I ρ, bk := G.nx, rt := G.rt } ρ1)
    (hd : ∀ ρ', I ρ ρ' → G.nx ρ') : kF g body G t u v ds ρ := kF_each P (I ρ) hP h0 hs hd
theorem kF_rangeR {n : Nat} (I : SEnv → Nat → SEnv → Prop) (h0 : I ρ 0 ρ)
    (hs : ∀ (i : Nat) (ρ' : SEnv), i < n → I ρ i ρ' → g (.int (i : Int)) ρ' fun ρ1 => body { nx := I ρ (i + 1), ct := I ρ (i + 1), bk := G.nx, rt := G.rt } ρ1) (hd : ∀ ρ', I ρ n ρ' → G.nx ρ') : kF g body G t u v (rangeD 0 n) ρ := kF_range (I ρ) h0 hs hd
end
section
variable {vs : List Nat} {g : WG} {wt : WT} {we : WE} {ρ : SEnv} {k : List D → SEnv → Prop} {t : Tok k} {u : Tok wt} {v : Tok we} {w : Tok g}
/-- a comprehension that leaves the slots as they are -/
theorem kC_mapS {α : Type} {f : α → D} {xs : List α} (P : Nat → List D → Prop) (h0 : P 0 [])
    (hs : ∀ (i : Nat) (x : α) (acc : List D), xs[i]? = some x → P i acc → g (f x) ρ fun ρ1 => wt ρ1 fun b ρ2 => kB b (we ρ2 fun r ρ3 => wipeS ρ3 vs = ρ ∧ P (i + 1) (acc ++ [r.d])) (wipeS ρ2 vs = ρ ∧ P (i + 1) acc) .mk .mk)
    (hd : ∀ acc, P xs.length acc → k acc ρ) : kC vs g wt we (xs.map f) ρ k t u v w :=
  kC_map (fun i acc ρ' => ρ' = ρ ∧ P i acc) ⟨rfl, h0⟩ (fun i x acc ρ' hx ⟨e, hp⟩ => by rw [e]; exact hs i x acc hx hp) (fun acc ρ' ⟨e, hp⟩ => by rw [e]; exact hd acc hp)
theorem kC_rangeS {n : Nat} (P : Nat → List D → Prop) (h0 : P 0 [])
    (hs : ∀ (i : Nat) (acc : List D), i < n → P i acc → g (.int (i : Int)) ρ fun ρ1 => wt ρ1 fun b ρ2 => kB b (we ρ2 fun r ρ3 => wipeS ρ3 vs = ρ ∧ P (i + 1) (acc ++ [r.d])) (wipeS ρ2 vs = ρ ∧ P (i + 1) acc) .mk .mk)
    (hd : ∀ acc, P n acc → k acc ρ) : kC vs g wt we (rangeD 0 n) ρ k t u v w :=
  kC_range (fun i acc ρ' => ρ' = ρ ∧ P i acc) ⟨rfl, h0⟩ (fun i acc ρ' hx ⟨e, hp⟩ => by rw [e]; exact hs i acc hx hp) (fun acc ρ' ⟨e, hp⟩ => by rw [e]; exact hd acc hp)
end
theorem kS_draw (o : O) (many : Int) (k : R → SEnv → Prop) (t : Tok k) : kS sem_draw [.io o, .r (.fr (.int many))] k t =
    (FeedOk o ∧ 0 < many ∧ many < 1073741824 ∧ ∀ (t : Int) (o' : O), 0 ≤ t → t < many → FeedOk o' → k (.fr (.int t)) [.io o', .r (.fr (.int many))]) := draw_eq o many k
end DL
set_option Elab.async false
set_option linter.all false
set_option maxRecDepth 100000
set_option maxHeartbeats 4000000
namespace K59
open PySem PySem.Spec PyProof.Rows L2 Evl DL
def topS (i : Nat) : Stmt := PySem.Challenge.pw_lightstold_k59_judge_of_broad_trees.main.body.getD i (.Pass ⟨0, 0, 0, 0⟩)
section
variable {P : Program} {w : World} {K : PySem.W.Frag} {mg : Str → Option Value} {B : Heap}
abbrev s_is_whole : Stmt := topS 1
theorem sc_is_whole : FnScope ["value"] ["value"] (defScope s_is_whole) := ⟨rfl, rfl, rfl, by decide +kernel, rfl, by decide +kernel, by decide +kernel⟩
def W_is_whole : WS :=
  (wRet (wAndV (wIsiV "int" 0) (wR (wNotV (wIsiV "bool" 0)))))
theorem der_is_whole {k : Nat} (z_isinstance : mg "isinstance" = none) (z_bool : mg "bool" = none) (z_int : mg "int" = none) {f : Addr} (cdv : Value) (A : Around) (fr : List Env) (s : Shared) (H : Hp) (E : XK) (c : Fx) (hgd : A.guards = some []) (hr : Room k (A.deeper (envOfC "is_whole" (defScope s_is_whole) s.heap.objs.size f cdv))) :
    ∃ ts, ESs (cxOf CX0 P w K mg B ["value"] "is_whole" (defScope s_is_whole) f cdv A fr s H E).nox c (defBody s_is_whole) ts (W_is_whole) := ⟨_,
  (ess_one (es_ret (er_and (ed_isiV .int (pv 0) z_isinstance z_int (by decide +kernel)) (er_one (ED.r (ed_not (ed_isiV .bool (pv 0) z_isinstance z_bool (by decide +kernel))))))))⟩
abbrev s_least_under : Stmt := topS 3
theorem sc_least_under : FnScope ["costs", "fixed", "total", "g", "option"] ["costs", "fixed"] (defScope s_least_under) := ⟨rfl, rfl, rfl, by decide +kernel, rfl, by decide +kernel, by decide +kernel⟩
def W_least_under : WS :=
  (wSeq (wAsg 2 (wR (wC (.int 0))))
  (wSeq (wFor (wIE (waDa (wVar 1) waNil)) (gdTup 2 (gdCons (gdName 3) (gdCons (gdName 4) gdNil))) (wIfS (wTb (wOpV fIsN 4 (wC .non))) (wAugN (fun i j => i + j) 2 (wFz (wCB fMin (waDa (wFz (wOpV fIx 0 (wVar 3))) waNil)))) (wAugN (fun i j => i + j) 2 (wFz (wOp fIx (wFz (wOpV fIx 0 (wVar 3))) (wVar 4))))))
  (wRet (wGive 2))))
theorem der_least_under {k : Nat} (z_enumerate : mg "enumerate" = none) (z_min : mg "min" = none) {f : Addr} (cdv : Value) (A : Around) (fr : List Env) (s : Shared) (H : Hp) (E : XK) (c : Fx) (hgd : A.guards = some []) (hr : Room k (A.deeper (envOfC "least_under" (defScope s_least_under) s.heap.objs.size f cdv))) :
    ∃ ts, ESs (cxOf CX0 P w K mg B ["costs", "fixed", "total", "g", "option"] "least_under" (defScope s_least_under) f cdv A fr s H E).nox c (defBody s_least_under) ts (W_least_under) := ⟨_,
  (ess_cons (es_name (i := 2) sc_least_under.nd (ED.r ed_int))
  (ess_cons (es_for (ei_enum (ea_cons (ed_var (pv 1)) ea_nil) z_enumerate) (eg_tup (n := 2) (egs_cons (eg_nm 3 sc_least_under.nd) (egs_cons (eg_nm 4 sc_least_under.nd) egs_nil (pgs_cons (pg_nm 4 sc_least_under.nd) pgs_nil)) (pgs_cons (pg_nm 3 sc_least_under.nd) (pgs_cons (pg_nm 4 sc_least_under.nd) pgs_nil))) (pg_tup (by rfl) (pgs_cons (pg_nm 3 sc_least_under.nd) (pgs_cons (pg_nm 4 sc_least_under.nd) pgs_nil)))) (ess_one (es_if (et_cmpV op_isN od_isN (pv 4) ed_non) (ess_one (es_augAdd (i := 2) sc_least_under.nd (ER.z (er_callB (cr_min (by rfl)) oc_min z_min (by decide +kernel) (ea_cons (ER.z (er_ixV (pv 0) (ed_var (pv 3)))) ea_nil))))) (ess_one (es_augAdd (i := 2) sc_least_under.nd (ER.z (er_ix (ER.z (er_ixV (pv 0) (ed_var (pv 3)))) (ed_var (pv 4)))))))))
  (ess_one (es_ret (er_give (pv 2))))))⟩
abbrev s_is_clash_leaf : Stmt := topS 4
theorem sc_is_clash_leaf : FnScope ["clashes", "fixed", "tree", "g", "h"] ["clashes", "fixed", "tree"] (defScope s_is_clash_leaf) := ⟨rfl, rfl, rfl, by decide +kernel, rfl, by decide +kernel, by decide +kernel⟩
def W_is_clash_leaf (Sis_whole : Sem) : WS :=
  (wSeq (wAsg 3 (wOpV fIx 2 (wC (.int 1))))
  (wSeq (wAsg 4 (wOpV fIx 2 (wC (.int 2))))
  (wSeq (wIfS (wOrT (wNotT (wTt (wFz (wCall Sis_whole (waDa (wVar 3) waNil))))) (wOrT (wNotT (wTt (wFz (wCall Sis_whole (waDa (wVar 4) waNil))))) (wNotT (wTb (wChain3 fLe fLt fLt (wC (.int 0)) (wVar 3) (wVar 4) (wFz (wCB fLen (waSl 1 waNil)))))))) (wRet (wR (wC (.bl false)))) wNext)
  (wSeq (wIfS (wOrT (wTb (wOp fIsN (wFz (wOpV fIx 1 (wVar 3))) (wC .non))) (wTb (wOp fIsN (wFz (wOpV fIx 1 (wVar 4))) (wC .non)))) (wRet (wR (wC (.bl false)))) wNext)
  (wRet (wOpW fIn (wTup (waDa (wTup (waDa (wVar 3) (waDa (wFz (wOpV fIx 1 (wVar 3))) waNil))) (waDa (wTup (waDa (wVar 4) (waDa (wFz (wOpV fIx 1 (wVar 4))) waNil))) waNil))) 0))))))
theorem der_is_clash_leaf {k : Nat} {Sis_whole : Sem} (his_whole : Has P w K mg B k "is_whole" ["value"] Sis_whole) (z_len : mg "len" = none) {f : Addr} (cdv : Value) (A : Around) (fr : List Env) (s : Shared) (H : Hp) (E : XK) (c : Fx) (hgd : A.guards = some []) (hr : Room k (A.deeper (envOfC "is_clash_leaf" (defScope s_is_clash_leaf) s.heap.objs.size f cdv))) :
    ∃ ts, ESs (cxOf CX0 P w K mg B ["clashes", "fixed", "tree", "g", "h"] "is_clash_leaf" (defScope s_is_clash_leaf) f cdv A fr s H E).nox c (defBody s_is_clash_leaf) ts (W_is_clash_leaf Sis_whole) := ⟨_,
  (ess_cons (es_name (i := 3) sc_is_clash_leaf.nd (er_ixV (pv 2) ed_int))
  (ess_cons (es_name (i := 4) sc_is_clash_leaf.nd (er_ixV (pv 2) ed_int))
  (ess_cons (es_if (EW.t (ew_or (et_not (et_truth (ER.z (er_fn his_whole hgd hr (ea_cons (ed_var (pv 3)) ea_nil))))) (ew_or (et_not (et_truth (ER.z (er_fn his_whole hgd hr (ea_cons (ed_var (pv 4)) ea_nil))))) (ew_or1 (et_not (et_chain3 op_le op_lt op_lt od_le od_lt od_lt ed_int (ed_var (pv 3)) (ed_var (pv 4)) (ER.z (er_callB call_len oc_len z_len (by decide +kernel) (ea_sl (pv 1) ea_nil))))))))) (ess_one (es_ret (ED.r ed_bl))) ess_nil)
  (ess_cons (es_if (EW.t (ew_or (et_cmp op_isN od_isN (ER.z (er_ixV (pv 1) (ed_var (pv 3)))) ed_non) (ew_or1 (et_cmp op_isN od_isN (ER.z (er_ixV (pv 1) (ed_var (pv 4)))) ed_non)))) (ess_one (es_ret (ED.r ed_bl))) ess_nil)
  (ess_one (es_ret (er_cmpW (op_inA (u65 hr)) od_in (ed_tup (ea_cons (ed_tup (ea_cons (ed_var (pv 3)) (ea_cons (ER.z (er_ixV (pv 1) (ed_var (pv 3)))) ea_nil))) (ea_cons (ed_tup (ea_cons (ed_var (pv 4)) (ea_cons (ER.z (er_ixV (pv 1) (ed_var (pv 4)))) ea_nil))) ea_nil))) (pv 0))))))))⟩
abbrev s_is_split : Stmt := topS 5
theorem sc_is_split : FnScope ["costs", "clashes", "bound", "fixed", "tree", "group", "branches", "option", "branch", "under"] ["costs", "clashes", "bound", "fixed", "tree"] (defScope s_is_split) := ⟨rfl, rfl, rfl, by decide +kernel, rfl, by decide +kernel, by decide +kernel⟩
def W_is_split (Sis_whole : Sem) (Sis_tree : Sem) : WS :=
  (wSeq (wAsg 5 (wOpV fIx 4 (wC (.int 1))))
  (wSeq (wAsg 6 (wOpV fIx 4 (wC (.int 2))))
  (wSeq (wIfS (wOrT (wNotT (wTt (wFz (wCall Sis_whole (waDa (wVar 5) waNil))))) (wOrT (wNotT (wTb (wChain fLe fLt (wC (.int 0)) (wVar 5) (wFz (wCB fLen (waSl 3 waNil)))))) (wTb (wOp fNotN (wFz (wOpV fIx 3 (wVar 5))) (wC .non))))) (wRet (wR (wC (.bl false)))) wNext)
  (wSeq (wIfS (wOrT (wNotT (wTt (wIsiV "list" 6))) (wTb (wOp fNe (wFz (wCB fLen (waSl 6 waNil))) (wFz (wCB fLen (waDa (wFz (wOpV fIx 0 (wVar 5))) waNil)))))) (wRet (wR (wC (.bl false)))) wNext)
  (wSeq (wFor (wIE (waDa (wVar 6) waNil)) (gdTup 2 (gdCons (gdName 7) (gdCons (gdName 8) gdNil))) (wSeq (wAsg 9 (wOp fAdd (wFz (wOp fAdd (wFz (wSlV 3 wNoPart (wPart (wVar 5)))) (wFz (wLst (waDa (wVar 7) waNil))))) (wFz (wSlV 3 (wPart (wFz (wOpV fAdd 5 (wC (.int 1))))) wNoPart))))
  (wIfS (wNotT (wTt (wFz (wCall Sis_tree (waDa (wVar 0) (waDa (wVar 1) (waDa (wVar 2) (waDa (wVar 9) (waDa (wVar 8) waNil))))))))) (wRet (wR (wC (.bl false)))) wNext)))
  (wRet (wR (wC (.bl true)))))))))
theorem der_is_split {k : Nat} {Sis_whole : Sem} {Sis_tree : Sem} (his_whole : Has P w K mg B k "is_whole" ["value"] Sis_whole) (his_tree : Has P w K mg B k "is_tree" ["costs", "clashes", "bound", "fixed", "tree"] Sis_tree) (z_len : mg "len" = none) (z_isinstance : mg "isinstance" = none) (z_list : mg "list" = none) (z_enumerate : mg "enumerate" = none) {f : Addr} (cdv : Value) (A : Around) (fr : List Env) (s : Shared) (H : Hp) (E : XK) (c : Fx) (hgd : A.guards = some []) (hr : Room k (A.deeper (envOfC "is_split" (defScope s_is_split) s.heap.objs.size f cdv))) :
    ∃ ts, ESs (cxOf CX0 P w K mg B ["costs", "clashes", "bound", "fixed", "tree", "group", "branches", "option", "branch", "under"] "is_split" (defScope s_is_split) f cdv A fr s H E).nox c (defBody s_is_split) ts (W_is_split Sis_whole Sis_tree) := ⟨_,
  (ess_cons (es_name (i := 5) sc_is_split.nd (er_ixV (pv 4) ed_int))
  (ess_cons (es_name (i := 6) sc_is_split.nd (er_ixV (pv 4) ed_int))
  (ess_cons (es_if (EW.t (ew_or (et_not (et_truth (ER.z (er_fn his_whole hgd hr (ea_cons (ed_var (pv 5)) ea_nil))))) (ew_or (et_not (et_chain op_le op_lt od_le od_lt ed_int (ed_var (pv 5)) (ER.z (er_callB call_len oc_len z_len (by decide +kernel) (ea_sl (pv 3) ea_nil))))) (ew_or1 (et_cmp op_notN od_notN (ER.z (er_ixV (pv 3) (ed_var (pv 5)))) ed_non))))) (ess_one (es_ret (ED.r ed_bl))) ess_nil)
  (ess_cons (es_if (EW.t (ew_or (et_not (et_truth (ed_isiV .list (pv 6) z_isinstance z_list (by decide +kernel)))) (ew_or1 (et_cmp (op_neA (u64 hr)) od_ne (ER.z (er_callB call_len oc_len z_len (by decide +kernel) (ea_sl (pv 6) ea_nil))) (ER.z (er_callB call_len oc_len z_len (by decide +kernel) (ea_cons (ER.z (er_ixV (pv 0) (ed_var (pv 5)))) ea_nil))))))) (ess_one (es_ret (ED.r ed_bl))) ess_nil)
  (ess_cons (es_for (ei_enum (ea_cons (ed_var (pv 6)) ea_nil) z_enumerate) (eg_tup (n := 2) (egs_cons (eg_nm 7 sc_is_split.nd) (egs_cons (eg_nm 8 sc_is_split.nd) egs_nil (pgs_cons (pg_nm 8 sc_is_split.nd) pgs_nil)) (pgs_cons (pg_nm 7 sc_is_split.nd) (pgs_cons (pg_nm 8 sc_is_split.nd) pgs_nil))) (pg_tup (by rfl) (pgs_cons (pg_nm 7 sc_is_split.nd) (pgs_cons (pg_nm 8 sc_is_split.nd) pgs_nil)))) (ess_cons (es_name (i := 9) sc_is_split.nd (er_op op_addA od_add (ER.z (er_op op_addA od_add (ER.z (er_slV (pv 3) eo_none (eo_some (ed_var (pv 5))))) (ER.z (er_lst (ea_cons (ed_var (pv 7)) ea_nil))))) (ER.z (er_slV (pv 3) (eo_some (ER.z (er_opV op_addA od_add (pv 5) ed_int))) eo_none))))
  (ess_one (es_if (et_not (et_truth (ER.z (er_fn his_tree hgd hr (ea_cons (ed_var (pv 0)) (ea_cons (ed_var (pv 1)) (ea_cons (ed_var (pv 2)) (ea_cons (ed_var (pv 9)) (ea_cons (ed_var (pv 8)) ea_nil))))))))) (ess_one (es_ret (ED.r ed_bl))) ess_nil))))
  (ess_one (es_ret (ED.r ed_bl))))))))⟩
abbrev s_is_tree : Stmt := topS 6
theorem sc_is_tree : FnScope ["costs", "clashes", "bound", "fixed", "tree"] ["costs", "clashes", "bound", "fixed", "tree"] (defScope s_is_tree) := ⟨rfl, rfl, rfl, by decide +kernel, rfl, by decide +kernel, by decide +kernel⟩
def W_is_tree (Sleast_under : Sem) (Sis_clash_leaf : Sem) (Sis_split : Sem) : WS :=
  (wSeq (wIfS (wNotT (wTt (wIsiV "tuple" 4))) (wRet (wR (wC (.bl false)))) wNext)
  (wSeq (wIfS (wAndT (wTb (wOp fEq (wFz (wCB fLen (waSl 4 waNil))) (wC (.int 1)))) (wTb (wOp fEq (wFz (wOpV fIx 4 (wC (.int 0)))) (wC (.str "dear"))))) (wRet (wAndV (wFz (wOpV fNotN 2 (wC .non))) (wOpW fGe (wFz (wCall Sleast_under (waDa (wVar 0) (waDa (wVar 3) waNil)))) 2))) wNext)
  (wSeq (wIfS (wTb (wOp fNe (wFz (wCB fLen (waSl 4 waNil))) (wC (.int 3)))) (wRet (wR (wC (.bl false)))) wNext)
  (wSeq (wIfS (wTb (wOp fEq (wFz (wOpV fIx 4 (wC (.int 0)))) (wC (.str "clash")))) (wRet (wCall Sis_clash_leaf (waDa (wVar 1) (waDa (wVar 3) (waDa (wVar 4) waNil))))) wNext)
  (wSeq (wIfS (wTb (wOp fEq (wFz (wOpV fIx 4 (wC (.int 0)))) (wC (.str "split")))) (wRet (wCall Sis_split (waDa (wVar 0) (waDa (wVar 1) (waDa (wVar 2) (waDa (wVar 3) (waDa (wVar 4) waNil))))))) wNext)
  (wRet (wR (wC (.bl false)))))))))
theorem der_is_tree {k : Nat} {Sleast_under : Sem} {Sis_clash_leaf : Sem} {Sis_split : Sem} (hleast_under : Has P w K mg B k "least_under" ["costs", "fixed"] Sleast_under) (his_clash_leaf : Has P w K mg B k "is_clash_leaf" ["clashes", "fixed", "tree"] Sis_clash_leaf) (his_split : Has P w K mg B k "is_split" ["costs", "clashes", "bound", "fixed", "tree"] Sis_split) (z_isinstance : mg "isinstance" = none) (z_tuple : mg "tuple" = none) (z_len : mg "len" = none) {f : Addr} (cdv : Value) (A : Around) (fr : List Env) (s : Shared) (H : Hp) (E : XK) (c : Fx) (hgd : A.guards = some []) (hr : Room k (A.deeper (envOfC "is_tree" (defScope s_is_tree) s.heap.objs.size f cdv))) :
    ∃ ts, ESs (cxOf CX0 P w K mg B ["costs", "clashes", "bound", "fixed", "tree"] "is_tree" (defScope s_is_tree) f cdv A fr s H E).nox c (defBody s_is_tree) ts (W_is_tree Sleast_under Sis_clash_leaf Sis_split) := ⟨_,
  (ess_cons (es_if (et_not (et_truth (ed_isiV .tuple (pv 4) z_isinstance z_tuple (by decide +kernel)))) (ess_one (es_ret (ED.r ed_bl))) ess_nil)
  (ess_cons (es_if (EW.t (ew_and (et_cmp (op_eqA (u64 hr)) od_eq (ER.z (er_callB call_len oc_len z_len (by decide +kernel) (ea_sl (pv 4) ea_nil))) ed_int) (ew_and1 (et_cmp (op_eqA (u64 hr)) od_eq (ER.z (er_ixV (pv 4) ed_int)) ed_str)))) (ess_one (es_ret (er_and (ER.z (er_cmpV op_notN od_notN (pv 2) ed_non)) (er_one (er_cmpW op_ge od_ge (ER.z (er_fn hleast_under hgd hr (ea_cons (ed_var (pv 0)) (ea_cons (ed_var (pv 3)) ea_nil)))) (pv 2)))))) ess_nil)
  (ess_cons (es_if (et_cmp (op_neA (u64 hr)) od_ne (ER.z (er_callB call_len oc_len z_len (by decide +kernel) (ea_sl (pv 4) ea_nil))) ed_int) (ess_one (es_ret (ED.r ed_bl))) ess_nil)
  (ess_cons (es_if (et_cmp (op_eqA (u64 hr)) od_eq (ER.z (er_ixV (pv 4) ed_int)) ed_str) (ess_one (es_ret (er_fn his_clash_leaf hgd hr (ea_cons (ed_var (pv 1)) (ea_cons (ed_var (pv 3)) (ea_cons (ed_var (pv 4)) ea_nil)))))) ess_nil)
  (ess_cons (es_if (et_cmp (op_eqA (u64 hr)) od_eq (ER.z (er_ixV (pv 4) ed_int)) ed_str) (ess_one (es_ret (er_fn his_split hgd hr (ea_cons (ed_var (pv 0)) (ea_cons (ed_var (pv 1)) (ea_cons (ed_var (pv 2)) (ea_cons (ed_var (pv 3)) (ea_cons (ed_var (pv 4)) ea_nil)))))))) ess_nil)
  (ess_one (es_ret (ED.r ed_bl))))))))⟩
abbrev s_shows_tree : Stmt := topS 7
theorem sc_shows_tree : FnScope ["costs", "clashes", "bound", "tree"] ["costs", "clashes", "bound", "tree"] (defScope s_shows_tree) := ⟨rfl, rfl, rfl, by decide +kernel, rfl, by decide +kernel, by decide +kernel⟩
def W_shows_tree (Sis_whole : Sem) (Sis_tree : Sem) : WS :=
  (wSeq (wIfS (wAndT (wTb (wOpV fNotN 2 (wC .non))) (wNotT (wTt (wFz (wCall Sis_whole (waDa (wVar 2) waNil)))))) (wRet (wR (wC (.bl false)))) wNext)
  (wRet (wCall Sis_tree (waDa (wVar 0) (waDa (wVar 1) (waDa (wVar 2) (waDa (wFz (wOp fMul (wFz (wLst (waDa (wC .non) waNil))) (wFz (wCB fLen (waSl 0 waNil))))) (waDa (wVar 3) waNil))))))))
theorem der_shows_tree {k : Nat} {Sis_whole : Sem} {Sis_tree : Sem} (his_whole : Has P w K mg B k "is_whole" ["value"] Sis_whole) (his_tree : Has P w K mg B k "is_tree" ["costs", "clashes", "bound", "fixed", "tree"] Sis_tree) (z_len : mg "len" = none) {f : Addr} (cdv : Value) (A : Around) (fr : List Env) (s : Shared) (H : Hp) (E : XK) (c : Fx) (hgd : A.guards = some []) (hr : Room k (A.deeper (envOfC "shows_tree" (defScope s_shows_tree) s.heap.objs.size f cdv))) :
    ∃ ts, ESs (cxOf CX0 P w K mg B ["costs", "clashes", "bound", "tree"] "shows_tree" (defScope s_shows_tree) f cdv A fr s H E).nox c (defBody s_shows_tree) ts (W_shows_tree Sis_whole Sis_tree) := ⟨_,
  (ess_cons (es_if (EW.t (ew_and (et_cmpV op_notN od_notN (pv 2) ed_non) (ew_and1 (et_not (et_truth (ER.z (er_fn his_whole hgd hr (ea_cons (ed_var (pv 2)) ea_nil)))))))) (ess_one (es_ret (ED.r ed_bl))) ess_nil)
  (ess_one (es_ret (er_fn his_tree hgd hr (ea_cons (ed_var (pv 0)) (ea_cons (ed_var (pv 1)) (ea_cons (ed_var (pv 2)) (ea_cons (ER.z (er_op op_mulA od_mul (ER.z (er_lst (ea_cons ed_non ea_nil))) (ER.z (er_callB call_len oc_len z_len (by decide +kernel) (ea_sl (pv 0) ea_nil))))) (ea_cons (ed_var (pv 3)) ea_nil)))))))))⟩
abbrev s__law_feed : Stmt := topS 9
theorem sc__law_feed : FnScope ["script"] ["script"] (defScope s__law_feed) := ⟨rfl, rfl, rfl, by decide +kernel, rfl, by decide +kernel, by decide +kernel⟩
def W__law_feed : WS :=
  (wRet (wLst (waDa (wFz (wCB fList (waSl 0 waNil))) (waDa (wC (.int 0)) (waDa (wC (.int 0)) (waDa (wC (.int 1)) waNil))))))
theorem der__law_feed {k : Nat} (z_list : mg "list" = none) {f : Addr} (cdv : Value) (A : Around) (fr : List Env) (s : Shared) (H : Hp) (E : XK) (c : Fx) (hgd : A.guards = some []) (hr : Room k (A.deeper (envOfC "_law_feed" (defScope s__law_feed) s.heap.objs.size f cdv))) :
    ∃ ts, ESs (cxOf CX0 P w K mg B ["script"] "_law_feed" (defScope s__law_feed) f cdv A fr s H E).nox c (defBody s__law_feed) ts (W__law_feed) := ⟨_,
  (ess_one (es_ret (er_lst (ea_cons (ER.z (er_callTy call_list_of oc_list z_list (by decide +kernel) (ea_sl (pv 0) ea_nil))) (ea_cons ed_int (ea_cons ed_int (ea_cons ed_int ea_nil)))))))⟩
abbrev s__law_draw : Stmt := topS 10
theorem sc__law_draw : FnScope ["feed", "many", "mixed", "cell", "told"] ["feed", "many"] (defScope s__law_draw) := ⟨rfl, rfl, rfl, by decide +kernel, rfl, by decide +kernel, by decide +kernel⟩
def W__law_draw : WS :=
  (wSeq (wIfS (wAndT (wTb (wOp fEq (wFz (wOpV fIx 0 (wC (.int 2)))) (wC (.int 0)))) (wTb (wOp fLt (wFz (wOpV fIx 0 (wC (.int 1)))) (wFz (wCB fLen (waDa (wFz (wOpV fIx 0 (wC (.int 0)))) waNil)))))) (wSeq (wAsg 3 (wCB fAbs (waDa (wFz (wCB fInt (waDa (wFz (wOp fIx (wFz (wOpV fIx 0 (wC (.int 0)))) (wFz (wOpV fIx 0 (wC (.int 1)))))) waNil))) waNil)))
  (wSeq (wAugI (fun i j => i + j) 0 (wC (.int 1)) (wC (.int 1)))
  (wIfS (wTb (wOpV fGe 3 (wFz (wOp fPow (wC (.int 10)) (wC (.int 18)))))) (wSetI 0 (wVar 3) (wC (.int 2))) (wSetI 0 (wFz (wOp fMod (wFz (wCB fInt (waDa (wFz (wOp fAdd (wFz (wOp fAdd (wFz (wOp fMul (wFz (wOpV fIx 0 (wC (.int 3)))) (wC (.int 48271)))) (wFz (wOpV fMul 3 (wC (.int 69621)))))) (wFz (wOpV fIx 0 (wC (.int 1)))))) waNil))) (wC (.int 2147483647)))) (wC (.int 3)))))) wNext)
  (wSeq (wIfS (wTb (wOp fGt (wFz (wOpV fIx 0 (wC (.int 2)))) (wC (.int 0)))) (wSeq (wAsg 4 (wOpW fMod (wFz (wCB fInt (waDa (wFz (wOpV fIx 0 (wC (.int 2)))) waNil))) 1))
  (wSeq (wSetI 0 (wFz (wOpW fDiv (wFz (wOpV fIx 0 (wC (.int 2)))) 1)) (wC (.int 2)))
  (wRet (wGive 4)))) wNext)
  (wSeq (wSetI 0 (wFz (wOp fMod (wFz (wCB fInt (waDa (wFz (wOp fAdd (wFz (wOp fMul (wFz (wOpV fIx 0 (wC (.int 3)))) (wC (.int 16807)))) (wC (.int 12345)))) waNil))) (wC (.int 2147483647)))) (wC (.int 3)))
  (wSeq (wAsg 2 (wOp fMod (wFz (wCB fInt (waDa (wFz (wOp fAdd (wFz (wOp fMul (wFz (wOpV fIx 0 (wC (.int 3)))) (wFz (wOpV fIx 0 (wC (.int 3)))))) (wFz (wOpV fIx 0 (wC (.int 3)))))) waNil))) (wC (.int 2147483629))))
  (wRet (wOpW fMod (wFz (wOpV fDiv 2 (wC (.int 11)))) 1))))))
theorem der__law_draw {k : Nat} (z_len : mg "len" = none) (z_abs : mg "abs" = none) (z_int : mg "int" = none) {f : Addr} (cdv : Value) (A : Around) (fr : List Env) (s : Shared) (H : Hp) (E : XK) (c : Fx) (hgd : A.guards = some []) (hr : Room k (A.deeper (envOfC "_law_draw" (defScope s__law_draw) s.heap.objs.size f cdv))) :
    ∃ ts, ESs (cxOf CX0 P w K mg B ["feed", "many", "mixed", "cell", "told"] "_law_draw" (defScope s__law_draw) f cdv A fr s H E).nox c (defBody s__law_draw) ts (W__law_draw) := ⟨_,
  (ess_cons (es_if (EW.t (ew_and (et_cmp (op_eqA (u64 hr)) od_eq (ER.z (er_ixV (pv 0) ed_int)) ed_int) (ew_and1 (et_cmp op_lt od_lt (ER.z (er_ixV (pv 0) ed_int)) (ER.z (er_callB call_len oc_len z_len (by decide +kernel) (ea_cons (ER.z (er_ixV (pv 0) ed_int)) ea_nil))))))) (ess_cons (es_name (i := 3) sc__law_draw.nd (er_callB call_abs oc_abs z_abs (by decide +kernel) (ea_cons (ER.z (er_callTy call_int1 oc_int z_int (by decide +kernel) (ea_cons (ER.z (er_ix (ER.z (er_ixV (pv 0) ed_int)) (ER.z (er_ixV (pv 0) ed_int)))) ea_nil))) ea_nil)))
  (ess_cons (es_augIx (pv 0) ed_int ed_int)
  (ess_one (es_if (et_cmpV op_ge od_ge (pv 3) (ER.z (er_op op_pow od_pow ed_int ed_int))) (ess_one (es_sI (pv 0) (ed_var (pv 3)) ed_int)) (ess_one (es_sI (pv 0) (ER.z (er_op op_mod od_mod (ER.z (er_callTy call_int1 oc_int z_int (by decide +kernel) (ea_cons (ER.z (er_op op_addA od_add (ER.z (er_op op_addA od_add (ER.z (er_op op_mulA od_mul (ER.z (er_ixV (pv 0) ed_int)) ed_int)) (ER.z (er_opV op_mulA od_mul (pv 3) ed_int)))) (ER.z (er_ixV (pv 0) ed_int)))) ea_nil))) ed_int)) ed_int)))))) ess_nil)
  (ess_cons (es_if (et_cmp op_gt od_gt (ER.z (er_ixV (pv 0) ed_int)) ed_int) (ess_cons (es_name (i := 4) sc__law_draw.nd (er_opW op_mod od_mod (ER.z (er_callTy call_int1 oc_int z_int (by decide +kernel) (ea_cons (ER.z (er_ixV (pv 0) ed_int)) ea_nil))) (pv 1)))
  (ess_cons (es_sI (pv 0) (ER.z (er_opW op_fdiv od_div (ER.z (er_ixV (pv 0) ed_int)) (pv 1))) ed_int)
  (ess_one (es_ret (er_give (pv 4)))))) ess_nil)
  (ess_cons (es_sI (pv 0) (ER.z (er_op op_mod od_mod (ER.z (er_callTy call_int1 oc_int z_int (by decide +kernel) (ea_cons (ER.z (er_op op_addA od_add (ER.z (er_op op_mulA od_mul (ER.z (er_ixV (pv 0) ed_int)) ed_int)) ed_int)) ea_nil))) ed_int)) ed_int)
  (ess_cons (es_name (i := 2) sc__law_draw.nd (er_op op_mod od_mod (ER.z (er_callTy call_int1 oc_int z_int (by decide +kernel) (ea_cons (ER.z (er_op op_addA od_add (ER.z (er_op op_mulA od_mul (ER.z (er_ixV (pv 0) ed_int)) (ER.z (er_ixV (pv 0) ed_int)))) (ER.z (er_ixV (pv 0) ed_int)))) ea_nil))) ed_int))
  (ess_one (es_ret (er_opW op_mod od_mod (ER.z (er_opV op_fdiv od_div (pv 2) ed_int)) (pv 1))))))))⟩
abbrev s__law_is_whole : Stmt := topS 11
theorem sc__law_is_whole : FnScope ["x"] ["x"] (defScope s__law_is_whole) := ⟨rfl, rfl, rfl, by decide +kernel, rfl, by decide +kernel, by decide +kernel⟩
def W__law_is_whole : WS :=
  (wRet (wAndV (wIsiV "int" 0) (wR (wNotV (wIsiV "bool" 0)))))
theorem der__law_is_whole {k : Nat} (z_isinstance : mg "isinstance" = none) (z_bool : mg "bool" = none) (z_int : mg "int" = none) {f : Addr} (cdv : Value) (A : Around) (fr : List Env) (s : Shared) (H : Hp) (E : XK) (c : Fx) (hgd : A.guards = some []) (hr : Room k (A.deeper (envOfC "_law_is_whole" (defScope s__law_is_whole) s.heap.objs.size f cdv))) :
    ∃ ts, ESs (cxOf CX0 P w K mg B ["x"] "_law_is_whole" (defScope s__law_is_whole) f cdv A fr s H E).nox c (defBody s__law_is_whole) ts (W__law_is_whole) := ⟨_,
  (ess_one (es_ret (er_and (ed_isiV .int (pv 0) z_isinstance z_int (by decide +kernel)) (er_one (ED.r (ed_not (ed_isiV .bool (pv 0) z_isinstance z_bool (by decide +kernel))))))))⟩
abbrev s__law_least : Stmt := topS 12
theorem sc__law_least : FnScope ["costs", "fixed", "g"] ["costs", "fixed"] (defScope s__law_least) := ⟨rfl, rfl, rfl, by decide +kernel, rfl, by decide +kernel, by decide +kernel⟩
def W__law_least : WS :=
  (wRet (wCB fSum (waDa (wFz (wLc [2] (wIR1 (waDa (wFz (wCB fLen (waSl 0 waNil))) waNil)) (gdName 2) wYes (wIf (wTb (wOp fIsN (wFz (wOpV fIx 1 (wVar 2))) (wC .non))) (wCB fMin (waDa (wFz (wOpV fIx 0 (wVar 2))) waNil)) (wOp fIx (wFz (wOpV fIx 0 (wVar 2))) (wFz (wOpV fIx 1 (wVar 2))))))) waNil)))
theorem der__law_least {k : Nat} (z_sum : mg "sum" = none) (z_range : mg "range" = none) (z_len : mg "len" = none) (z_min : mg "min" = none) {f : Addr} (cdv : Value) (A : Around) (fr : List Env) (s : Shared) (H : Hp) (E : XK) (c : Fx) (hgd : A.guards = some []) (hr : Room k (A.deeper (envOfC "_law_least" (defScope s__law_least) s.heap.objs.size f cdv))) :
    ∃ ts, ESs (cxOf CX0 P w K mg B ["costs", "fixed", "g"] "_law_least" (defScope s__law_least) f cdv A fr s H E).nox c (defBody s__law_least) ts (W__law_least) := ⟨_,
  (ess_one (es_ret (er_callB (cr_sum (by rfl)) oc_sum z_sum (by decide +kernel) (ea_cons (ER.z (er_lc sc__law_least.nd (ei_range1 (ea_cons (ER.z (er_callB call_len oc_len z_len (by decide +kernel) (ea_sl (pv 0) ea_nil))) ea_nil) z_range) (blkOk_by (N := ["costs", "fixed", "g"]) (sc := defScope s__law_least) (own := [("g", 2)]) (by decide +kernel)) rfl (fun _ _ _ _ _ _ => (eg_nm 2 sc__law_least.nd)) (fun _ _ _ _ _ _ => ets_nil) (fun _ _ _ _ _ _ => (er_if (et_cmp op_isN od_isN (ER.z (er_ixV (pv 1) (ed_var (pv 2)))) ed_non) (er_callB (cr_min (by rfl)) oc_min z_min (by decide +kernel) (ea_cons (ER.z (er_ixV (pv 0) (ed_var (pv 2)))) ea_nil)) (er_ix (ER.z (er_ixV (pv 0) (ed_var (pv 2)))) (ER.z (er_ixV (pv 1) (ed_var (pv 2))))))))) ea_nil))))⟩
abbrev s__law_tree : Stmt := topS 13
theorem sc__law_tree : FnScope ["costs", "clashes", "bound", "fixed", "tree", "o", "g", "rest"] ["costs", "clashes", "bound", "fixed", "tree"] (defScope s__law_tree) := ⟨rfl, rfl, rfl, by decide +kernel, rfl, by decide +kernel, by decide +kernel⟩
def W__law_tree (S_law_least : Sem) (S_law_is_whole : Sem) (S_law_tree : Sem) : WS :=
  (wSeq (wIfS (wOrT (wNotT (wTt (wIsiV "tuple" 4))) (wOrT (wTb (wOp fEq (wFz (wCB fLen (waSl 4 waNil))) (wC (.int 0)))) (wNotT (wTt (wIsi "str" (wFz (wOpV fIx 4 (wC (.int 0))))))))) (wRet (wR (wC (.bl false)))) wNext)
  (wSeq (wIfS (wTb (wOp fEq (wFz (wOpV fIx 4 (wC (.int 0)))) (wC (.str "dear")))) (wRet (wAndV (wFz (wOp fEq (wFz (wCB fLen (waSl 4 waNil))) (wC (.int 1)))) (wAndV (wFz (wOpV fNotN 2 (wC .non))) (wOpW fGe (wFz (wCall S_law_least (waDa (wVar 0) (waDa (wVar 3) waNil)))) 2)))) wNext)
  (wSeq (wIfS (wOrT (wTb (wOp fNe (wFz (wCB fLen (waSl 4 waNil))) (wC (.int 3)))) (wOrT (wNotT (wTt (wFz (wCall S_law_is_whole (waDa (wFz (wOpV fIx 4 (wC (.int 1)))) waNil))))) (wNotT (wTb (wChain fLe fLt (wC (.int 0)) (wFz (wOpV fIx 4 (wC (.int 1)))) (wFz (wCB fLen (waSl 0 waNil)))))))) (wRet (wR (wC (.bl false)))) wNext)
  (wSeq (wAsgT (wFz (wSlV 4 (wPart (wC (.int 1))) wNoPart)) (gdTup 2 (gdCons (gdName 6) (gdCons (gdName 7) gdNil))))
  (wSeq (wIfS (wTb (wOp fEq (wFz (wOpV fIx 4 (wC (.int 0)))) (wC (.str "clash")))) (wSeq (wIfS (wOrT (wNotT (wTt (wFz (wCall S_law_is_whole (waDa (wVar 7) waNil))))) (wOrT (wNotT (wTb (wChain fLt fLt (wVar 6) (wVar 7) (wFz (wCB fLen (waSl 0 waNil)))))) (wOrT (wTb (wOp fIsN (wFz (wOpV fIx 3 (wVar 6))) (wC .non))) (wTb (wOp fIsN (wFz (wOpV fIx 3 (wVar 7))) (wC .non)))))) (wRet (wR (wC (.bl false)))) wNext)
  (wRet (wOpW fIn (wTup (waDa (wTup (waDa (wVar 6) (waDa (wFz (wOpV fIx 3 (wVar 6))) waNil))) (waDa (wTup (waDa (wVar 7) (waDa (wFz (wOpV fIx 3 (wVar 7))) waNil))) waNil))) 1))) wNext)
  (wSeq (wIfS (wOrT (wTb (wOp fNe (wFz (wOpV fIx 4 (wC (.int 0)))) (wC (.str "split")))) (wOrT (wTb (wOp fNotN (wFz (wOpV fIx 3 (wVar 6))) (wC .non))) (wOrT (wNotT (wTt (wIsiV "list" 7))) (wTb (wOp fNe (wFz (wCB fLen (waSl 7 waNil))) (wFz (wCB fLen (waDa (wFz (wOpV fIx 0 (wVar 6))) waNil)))))))) (wRet (wR (wC (.bl false)))) wNext)
  (wSeq (wFor (wIR1 (waDa (wFz (wCB fLen (waSl 7 waNil))) waNil)) (gdName 5) (wIfS (wNotT (wTt (wFz (wCall S_law_tree (waDa (wVar 0) (waDa (wVar 1) (waDa (wVar 2) (waDa (wFz (wOp fAdd (wFz (wOp fAdd (wFz (wSlV 3 wNoPart (wPart (wVar 6)))) (wFz (wLst (waDa (wVar 5) waNil))))) (wFz (wSlV 3 (wPart (wFz (wOpV fAdd 6 (wC (.int 1))))) wNoPart)))) (waDa (wFz (wOpV fIx 7 (wVar 5))) waNil))))))))) (wRet (wR (wC (.bl false)))) wNext))
  (wRet (wR (wC (.bl true)))))))))))
theorem der__law_tree {k : Nat} {S_law_least : Sem} {S_law_is_whole : Sem} {S_law_tree : Sem} (h_law_least : Has P w K mg B k "_law_least" ["costs", "fixed"] S_law_least) (h_law_is_whole : Has P w K mg B k "_law_is_whole" ["x"] S_law_is_whole) (h_law_tree : Has P w K mg B k "_law_tree" ["costs", "clashes", "bound", "fixed", "tree"] S_law_tree) (z_isinstance : mg "isinstance" = none) (z_str : mg "str" = none) (z_len : mg "len" = none) (z_tuple : mg "tuple" = none) (z_list : mg "list" = none) (z_range : mg "range" = none) {f : Addr} (cdv : Value) (A : Around) (fr : List Env) (s : Shared) (H : Hp) (E : XK) (c : Fx) (hgd : A.guards = some []) (hr : Room k (A.deeper (envOfC "_law_tree" (defScope s__law_tree) s.heap.objs.size f cdv))) :
    ∃ ts, ESs (cxOf CX0 P w K mg B ["costs", "clashes", "bound", "fixed", "tree", "o", "g", "rest"] "_law_tree" (defScope s__law_tree) f cdv A fr s H E).nox c (defBody s__law_tree) ts (W__law_tree S_law_least S_law_is_whole S_law_tree) := ⟨_,
  (ess_cons (es_if (EW.t (ew_or (et_not (et_truth (ed_isiV .tuple (pv 4) z_isinstance z_tuple (by decide +kernel)))) (ew_or (et_cmp (op_eqA (u64 hr)) od_eq (ER.z (er_callB call_len oc_len z_len (by decide +kernel) (ea_sl (pv 4) ea_nil))) ed_int) (ew_or1 (et_not (et_truth (ed_isi .str (ER.z (er_ixV (pv 4) ed_int)) z_isinstance z_str (by decide +kernel)))))))) (ess_one (es_ret (ED.r ed_bl))) ess_nil)
  (ess_cons (es_if (et_cmp (op_eqA (u64 hr)) od_eq (ER.z (er_ixV (pv 4) ed_int)) ed_str) (ess_one (es_ret (er_and (ER.z (er_cmp (op_eqA (u64 hr)) od_eq (ER.z (er_callB call_len oc_len z_len (by decide +kernel) (ea_sl (pv 4) ea_nil))) ed_int)) (er_and (ER.z (er_cmpV op_notN od_notN (pv 2) ed_non)) (er_one (er_cmpW op_ge od_ge (ER.z (er_fn h_law_least hgd hr (ea_cons (ed_var (pv 0)) (ea_cons (ed_var (pv 3)) ea_nil)))) (pv 2))))))) ess_nil)
  (ess_cons (es_if (EW.t (ew_or (et_cmp (op_neA (u64 hr)) od_ne (ER.z (er_callB call_len oc_len z_len (by decide +kernel) (ea_sl (pv 4) ea_nil))) ed_int) (ew_or (et_not (et_truth (ER.z (er_fn h_law_is_whole hgd hr (ea_cons (ER.z (er_ixV (pv 4) ed_int)) ea_nil))))) (ew_or1 (et_not (et_chain op_le op_lt od_le od_lt ed_int (ER.z (er_ixV (pv 4) ed_int)) (ER.z (er_callB call_len oc_len z_len (by decide +kernel) (ea_sl (pv 0) ea_nil))))))))) (ess_one (es_ret (ED.r ed_bl))) ess_nil)
  (ess_cons (es_tg (ER.z (er_slV (pv 4) (eo_some ed_int) eo_none)) (eg_tup (n := 2) (egs_cons (eg_nm 6 sc__law_tree.nd) (egs_cons (eg_nm 7 sc__law_tree.nd) egs_nil (pgs_cons (pg_nm 7 sc__law_tree.nd) pgs_nil)) (pgs_cons (pg_nm 6 sc__law_tree.nd) (pgs_cons (pg_nm 7 sc__law_tree.nd) pgs_nil))) (pg_tup (by rfl) (pgs_cons (pg_nm 6 sc__law_tree.nd) (pgs_cons (pg_nm 7 sc__law_tree.nd) pgs_nil)))))
  (ess_cons (es_if (et_cmp (op_eqA (u64 hr)) od_eq (ER.z (er_ixV (pv 4) ed_int)) ed_str) (ess_cons (es_if (EW.t (ew_or (et_not (et_truth (ER.z (er_fn h_law_is_whole hgd hr (ea_cons (ed_var (pv 7)) ea_nil))))) (ew_or (et_not (et_chain op_lt op_lt od_lt od_lt (ed_var (pv 6)) (ed_var (pv 7)) (ER.z (er_callB call_len oc_len z_len (by decide +kernel) (ea_sl (pv 0) ea_nil))))) (ew_or (et_cmp op_isN od_isN (ER.z (er_ixV (pv 3) (ed_var (pv 6)))) ed_non) (ew_or1 (et_cmp op_isN od_isN (ER.z (er_ixV (pv 3) (ed_var (pv 7)))) ed_non)))))) (ess_one (es_ret (ED.r ed_bl))) ess_nil)
  (ess_one (es_ret (er_cmpW (op_inA (u65 hr)) od_in (ed_tup (ea_cons (ed_tup (ea_cons (ed_var (pv 6)) (ea_cons (ER.z (er_ixV (pv 3) (ed_var (pv 6)))) ea_nil))) (ea_cons (ed_tup (ea_cons (ed_var (pv 7)) (ea_cons (ER.z (er_ixV (pv 3) (ed_var (pv 7)))) ea_nil))) ea_nil))) (pv 1))))) ess_nil)
  (ess_cons (es_if (EW.t (ew_or (et_cmp (op_neA (u64 hr)) od_ne (ER.z (er_ixV (pv 4) ed_int)) ed_str) (ew_or (et_cmp op_notN od_notN (ER.z (er_ixV (pv 3) (ed_var (pv 6)))) ed_non) (ew_or (et_not (et_truth (ed_isiV .list (pv 7) z_isinstance z_list (by decide +kernel)))) (ew_or1 (et_cmp (op_neA (u64 hr)) od_ne (ER.z (er_callB call_len oc_len z_len (by decide +kernel) (ea_sl (pv 7) ea_nil))) (ER.z (er_callB call_len oc_len z_len (by decide +kernel) (ea_cons (ER.z (er_ixV (pv 0) (ed_var (pv 6)))) ea_nil))))))))) (ess_one (es_ret (ED.r ed_bl))) ess_nil)
  (ess_cons (es_for (ei_range1 (ea_cons (ER.z (er_callB call_len oc_len z_len (by decide +kernel) (ea_sl (pv 7) ea_nil))) ea_nil) z_range) (eg_nm 5 sc__law_tree.nd) (ess_one (es_if (et_not (et_truth (ER.z (er_fn h_law_tree hgd hr (ea_cons (ed_var (pv 0)) (ea_cons (ed_var (pv 1)) (ea_cons (ed_var (pv 2)) (ea_cons (ER.z (er_op op_addA od_add (ER.z (er_op op_addA od_add (ER.z (er_slV (pv 3) eo_none (eo_some (ed_var (pv 6))))) (ER.z (er_lst (ea_cons (ed_var (pv 5)) ea_nil))))) (ER.z (er_slV (pv 3) (eo_some (ER.z (er_opV op_addA od_add (pv 6) ed_int))) eo_none)))) (ea_cons (ER.z (er_ixV (pv 7) (ed_var (pv 5)))) ea_nil))))))))) (ess_one (es_ret (ED.r ed_bl))) ess_nil)))
  (ess_one (es_ret (ED.r ed_bl))))))))))⟩
abbrev s__law_costs : Stmt := topS 14
theorem sc__law_costs : FnScope ["feed", "costs", "g", "most", "o"] ["feed"] (defScope s__law_costs) := ⟨rfl, rfl, rfl, by decide +kernel, rfl, by decide +kernel, by decide +kernel⟩
def W__law_costs (S_law_draw : Sem) : WS :=
  (wSeq (wAsg 1 (wLst waNil))
  (wSeq (wFor (wIR1 (waDa (wFz (wOp fAdd (wC (.int 1)) (wFz (wCall S_law_draw (waSl 0 (waDa (wC (.int 8)) waNil)))))) waNil)) (gdName 2) (wSeq (wAsg 3 (wOp fIx (wFz (wLst (waDa (wC (.int 2)) (waDa (wC (.int 10)) (waDa (wC (.int 100)) waNil))))) (wFz (wCall S_law_draw (waSl 0 (waDa (wC (.int 3)) waNil))))))
  (wApp 1 (wFz (wLc [4] (wIR1 (waDa (wFz (wOp fAdd (wC (.int 1)) (wFz (wCall S_law_draw (waSl 0 (waDa (wC (.int 4)) waNil)))))) waNil)) (gdName 4) wYes (wCall S_law_draw (waSl 0 (waDa (wVar 3) waNil))))))))
  (wRet (wGive 1))))
theorem der__law_costs {k : Nat} {S_law_draw : Sem} (h_law_draw : Has P w K mg B k "_law_draw" ["feed", "many"] S_law_draw) (z_range : mg "range" = none) {f : Addr} (cdv : Value) (A : Around) (fr : List Env) (s : Shared) (H : Hp) (E : XK) (c : Fx) (hgd : A.guards = some []) (hr : Room k (A.deeper (envOfC "_law_costs" (defScope s__law_costs) s.heap.objs.size f cdv))) :
    ∃ ts, ESs (cxOf CX0 P w K mg B ["feed", "costs", "g", "most", "o"] "_law_costs" (defScope s__law_costs) f cdv A fr s H E).nox c (defBody s__law_costs) ts (W__law_costs S_law_draw) := ⟨_,
  (ess_cons (es_name (i := 1) sc__law_costs.nd (er_lst ea_nil))
  (ess_cons (es_for (ei_range1 (ea_cons (ER.z (er_op op_addA od_add ed_int (ER.z (er_fn h_law_draw hgd hr (ea_sl (pv 0) (ea_cons ed_int ea_nil)))))) ea_nil) z_range) (eg_nm 2 sc__law_costs.nd) (ess_cons (es_name (i := 3) sc__law_costs.nd (er_ix (ER.z (er_lst (ea_cons ed_int (ea_cons ed_int (ea_cons ed_int ea_nil))))) (ER.z (er_fn h_law_draw hgd hr (ea_sl (pv 0) (ea_cons ed_int ea_nil))))))
  (ess_one (es_ap (pv 1) (ER.z (er_lc sc__law_costs.nd (ei_range1 (ea_cons (ER.z (er_op op_addA od_add ed_int (ER.z (er_fn h_law_draw hgd hr (ea_sl (pv 0) (ea_cons ed_int ea_nil)))))) ea_nil) z_range) (blkOk_by (N := ["feed", "costs", "g", "most", "o"]) (sc := defScope s__law_costs) (own := [("o", 4)]) (by decide +kernel)) rfl (fun _ _ _ _ _ _ => (eg_nm 4 sc__law_costs.nd)) (fun _ _ _ _ _ _ => ets_nil) (fun _ _ _ _ _ _ => (er_fn h_law_draw hgd hr (ea_sl (pv 0) (ea_cons (ed_var (pv 3)) ea_nil))))))))))
  (ess_one (es_ret (er_give (pv 1))))))⟩
abbrev s__law_cheap : Stmt := topS 15
theorem sc__law_cheap : FnScope ["row"] ["row"] (defScope s__law_cheap) := ⟨rfl, rfl, rfl, by decide +kernel, rfl, by decide +kernel, by decide +kernel⟩
def W__law_cheap : WS :=
  (wRet (wBMV "list" fIndex 0 (waDa (wFz (wCB fMin (waSl 0 waNil))) waNil)))
theorem der__law_cheap {k : Nat} (z_min : mg "min" = none) {f : Addr} (cdv : Value) (A : Around) (fr : List Env) (s : Shared) (H : Hp) (E : XK) (c : Fx) (hgd : A.guards = some []) (hr : Room k (A.deeper (envOfC "_law_cheap" (defScope s__law_cheap) s.heap.objs.size f cdv))) :
    ∃ ts, ESs (cxOf CX0 P w K mg B ["row"] "_law_cheap" (defScope s__law_cheap) f cdv A fr s H E).nox c (defBody s__law_cheap) ts (W__law_cheap) := ⟨_,
  (ess_one (es_ret (er_bmV PySem.F.plainAttrs_list PySem.F.slot_list_index PySem.F.type_list_index mt_index om_index (pv 0) (ea_cons (ER.z (er_callB (cr_min (by rfl)) oc_min z_min (by decide +kernel) (ea_sl (pv 0) ea_nil))) ea_nil))))⟩
abbrev s__law_clashes : Stmt := topS 16
theorem sc__law_clashes : FnScope ["feed", "costs", "g", "h", "clashes", "k", "i", "j"] ["feed", "costs", "g", "h"] (defScope s__law_clashes) := ⟨rfl, rfl, rfl, by decide +kernel, rfl, by decide +kernel, by decide +kernel⟩
def W__law_clashes (S_law_cheap : Sem) (S_law_draw : Sem) : WS :=
  (wSeq (wAsg 4 (wLst (waDa (wTup (waDa (wTup (waDa (wVar 2) (waDa (wFz (wCall S_law_cheap (waDa (wFz (wOpV fIx 1 (wVar 2))) waNil))) waNil))) (waDa (wTup (waDa (wVar 3) (waDa (wFz (wCall S_law_cheap (waDa (wFz (wOpV fIx 1 (wVar 3))) waNil))) waNil))) waNil))) waNil)))
  (wSeq (wFor (wIR1 (waDa (wFz (wCall S_law_draw (waSl 0 (waDa (wC (.int 5)) waNil)))) waNil)) (gdName 5) (wSeq (wAsg 6 (wCall S_law_draw (waSl 0 (waDa (wFz (wOp fSub (wFz (wCB fLen (waSl 1 waNil))) (wC (.int 1)))) waNil))))
  (wSeq (wAsg 7 (wOp fAdd (wFz (wOpV fAdd 6 (wC (.int 1)))) (wFz (wCall S_law_draw (waSl 0 (waDa (wFz (wOpW fSub (wFz (wOp fSub (wFz (wCB fLen (waSl 1 waNil))) (wC (.int 1)))) 6)) waNil))))))
  (wApp 4 (wTup (waDa (wTup (waDa (wVar 6) (waDa (wFz (wCall S_law_draw (waSl 0 (waDa (wFz (wCB fLen (waDa (wFz (wOpV fIx 1 (wVar 6))) waNil))) waNil)))) waNil))) (waDa (wTup (waDa (wVar 7) (waDa (wFz (wCall S_law_draw (waSl 0 (waDa (wFz (wCB fLen (waDa (wFz (wOpV fIx 1 (wVar 7))) waNil))) waNil)))) waNil))) waNil)))))))
  (wRet (wGive 4))))
theorem der__law_clashes {k : Nat} {S_law_cheap : Sem} {S_law_draw : Sem} (h_law_cheap : Has P w K mg B k "_law_cheap" ["row"] S_law_cheap) (h_law_draw : Has P w K mg B k "_law_draw" ["feed", "many"] S_law_draw) (z_range : mg "range" = none) (z_len : mg "len" = none) {f : Addr} (cdv : Value) (A : Around) (fr : List Env) (s : Shared) (H : Hp) (E : XK) (c : Fx) (hgd : A.guards = some []) (hr : Room k (A.deeper (envOfC "_law_clashes" (defScope s__law_clashes) s.heap.objs.size f cdv))) :
    ∃ ts, ESs (cxOf CX0 P w K mg B ["feed", "costs", "g", "h", "clashes", "k", "i", "j"] "_law_clashes" (defScope s__law_clashes) f cdv A fr s H E).nox c (defBody s__law_clashes) ts (W__law_clashes S_law_cheap S_law_draw) := ⟨_,
  (ess_cons (es_name (i := 4) sc__law_clashes.nd (er_lst (ea_cons (ed_tup (ea_cons (ed_tup (ea_cons (ed_var (pv 2)) (ea_cons (ER.z (er_fn h_law_cheap hgd hr (ea_cons (ER.z (er_ixV (pv 1) (ed_var (pv 2)))) ea_nil))) ea_nil))) (ea_cons (ed_tup (ea_cons (ed_var (pv 3)) (ea_cons (ER.z (er_fn h_law_cheap hgd hr (ea_cons (ER.z (er_ixV (pv 1) (ed_var (pv 3)))) ea_nil))) ea_nil))) ea_nil))) ea_nil)))
  (ess_cons (es_for (ei_range1 (ea_cons (ER.z (er_fn h_law_draw hgd hr (ea_sl (pv 0) (ea_cons ed_int ea_nil)))) ea_nil) z_range) (eg_nm 5 sc__law_clashes.nd) (ess_cons (es_name (i := 6) sc__law_clashes.nd (er_fn h_law_draw hgd hr (ea_sl (pv 0) (ea_cons (ER.z (er_op op_sub od_sub (ER.z (er_callB call_len oc_len z_len (by decide +kernel) (ea_sl (pv 1) ea_nil))) ed_int)) ea_nil))))
  (ess_cons (es_name (i := 7) sc__law_clashes.nd (er_op op_addA od_add (ER.z (er_opV op_addA od_add (pv 6) ed_int)) (ER.z (er_fn h_law_draw hgd hr (ea_sl (pv 0) (ea_cons (ER.z (er_opW op_sub od_sub (ER.z (er_op op_sub od_sub (ER.z (er_callB call_len oc_len z_len (by decide +kernel) (ea_sl (pv 1) ea_nil))) ed_int)) (pv 6))) ea_nil))))))
  (ess_one (es_ap (pv 4) (ed_tup (ea_cons (ed_tup (ea_cons (ed_var (pv 6)) (ea_cons (ER.z (er_fn h_law_draw hgd hr (ea_sl (pv 0) (ea_cons (ER.z (er_callB call_len oc_len z_len (by decide +kernel) (ea_cons (ER.z (er_ixV (pv 1) (ed_var (pv 6)))) ea_nil))) ea_nil)))) ea_nil))) (ea_cons (ed_tup (ea_cons (ed_var (pv 7)) (ea_cons (ER.z (er_fn h_law_draw hgd hr (ea_sl (pv 0) (ea_cons (ER.z (er_callB call_len oc_len z_len (by decide +kernel) (ea_cons (ER.z (er_ixV (pv 1) (ed_var (pv 7)))) ea_nil))) ea_nil)))) ea_nil))) ea_nil))))))))
  (ess_one (es_ret (er_give (pv 4))))))⟩
abbrev s__law_grow : Stmt := topS 17
theorem sc__law_grow : FnScope ["costs", "clashes", "bound", "fixed", "order", "g", "branches", "o", "one", "two"] ["costs", "clashes", "bound", "fixed", "order"] (defScope s__law_grow) := ⟨rfl, rfl, rfl, by decide +kernel, rfl, by decide +kernel, by decide +kernel⟩
def W__law_grow (S_law_least : Sem) (S_law_grow : Sem) : WS :=
  (wSeq (wFor (wIL (wVar 1)) (gdTup 2 (gdCons (gdName 8) (gdCons (gdName 9) gdNil))) (wIfS (wAndT (wTb (wOp fEq (wFz (wOpV fIx 3 (wFz (wOpV fIx 8 (wC (.int 0)))))) (wFz (wOpV fIx 8 (wC (.int 1)))))) (wTb (wOp fEq (wFz (wOpV fIx 3 (wFz (wOpV fIx 9 (wC (.int 0)))))) (wFz (wOpV fIx 9 (wC (.int 1))))))) (wRet (wR (wTup (waDa (wC (.str "clash")) (waDa (wFz (wOpV fIx 8 (wC (.int 0)))) (waDa (wFz (wOpV fIx 9 (wC (.int 0)))) waNil)))))) wNext))
  (wSeq (wIfS (wOrT (wTb (wOp fEq (wFz (wCB fLen (waSl 4 waNil))) (wC (.int 0)))) (wAndT (wTb (wOpV fNotN 2 (wC .non))) (wTb (wOpW fGe (wFz (wCall S_law_least (waDa (wVar 0) (waDa (wVar 3) waNil)))) 2)))) (wRet (wR (wTup (waDa (wC (.str "dear")) waNil)))) wNext)
  (wSeq (wAsg 5 (wOpV fIx 4 (wC (.int 0))))
  (wSeq (wAsg 6 (wLst waNil))
  (wSeq (wFor (wIR1 (waDa (wFz (wCB fLen (waDa (wFz (wOpV fIx 0 (wVar 5))) waNil))) waNil)) (gdName 7) (wApp 6 (wFz (wCall S_law_grow (waDa (wVar 0) (waDa (wVar 1) (waDa (wVar 2) (waDa (wFz (wOp fAdd (wFz (wOp fAdd (wFz (wSlV 3 wNoPart (wPart (wVar 5)))) (wFz (wLst (waDa (wVar 7) waNil))))) (wFz (wSlV 3 (wPart (wFz (wOpV fAdd 5 (wC (.int 1))))) wNoPart)))) (waDa (wFz (wSlV 4 (wPart (wC (.int 1))) wNoPart)) waNil)))))))))
  (wRet (wR (wTup (waDa (wC (.str "split")) (waDa (wVar 5) (waDa (wVar 6) waNil)))))))))))
theorem der__law_grow {k : Nat} {S_law_least : Sem} {S_law_grow : Sem} (h_law_least : Has P w K mg B k "_law_least" ["costs", "fixed"] S_law_least) (h_law_grow : Has P w K mg B k "_law_grow" ["costs", "clashes", "bound", "fixed", "order"] S_law_grow) (z_len : mg "len" = none) (z_range : mg "range" = none) {f : Addr} (cdv : Value) (A : Around) (fr : List Env) (s : Shared) (H : Hp) (E : XK) (c : Fx) (hgd : A.guards = some []) (hr : Room k (A.deeper (envOfC "_law_grow" (defScope s__law_grow) s.heap.objs.size f cdv))) :
    ∃ ts, ESs (cxOf CX0 P w K mg B ["costs", "clashes", "bound", "fixed", "order", "g", "branches", "o", "one", "two"] "_law_grow" (defScope s__law_grow) f cdv A fr s H E).nox c (defBody s__law_grow) ts (W__law_grow S_law_least S_law_grow) := ⟨_,
  (ess_cons (es_for (ei_list (ed_var (pv 1))) (eg_tup (n := 2) (egs_cons (eg_nm 8 sc__law_grow.nd) (egs_cons (eg_nm 9 sc__law_grow.nd) egs_nil (pgs_cons (pg_nm 9 sc__law_grow.nd) pgs_nil)) (pgs_cons (pg_nm 8 sc__law_grow.nd) (pgs_cons (pg_nm 9 sc__law_grow.nd) pgs_nil))) (pg_tup (by rfl) (pgs_cons (pg_nm 8 sc__law_grow.nd) (pgs_cons (pg_nm 9 sc__law_grow.nd) pgs_nil)))) (ess_one (es_if (EW.t (ew_and (et_cmp (op_eqA (u64 hr)) od_eq (ER.z (er_ixV (pv 3) (ER.z (er_ixV (pv 8) ed_int)))) (ER.z (er_ixV (pv 8) ed_int))) (ew_and1 (et_cmp (op_eqA (u64 hr)) od_eq (ER.z (er_ixV (pv 3) (ER.z (er_ixV (pv 9) ed_int)))) (ER.z (er_ixV (pv 9) ed_int)))))) (ess_one (es_ret (ED.r (ed_tup (ea_cons ed_str (ea_cons (ER.z (er_ixV (pv 8) ed_int)) (ea_cons (ER.z (er_ixV (pv 9) ed_int)) ea_nil))))))) ess_nil)))
  (ess_cons (es_if (EW.t (ew_or (et_cmp (op_eqA (u64 hr)) od_eq (ER.z (er_callB call_len oc_len z_len (by decide +kernel) (ea_sl (pv 4) ea_nil))) ed_int) (ew_or1 (EW.t (ew_and (et_cmpV op_notN od_notN (pv 2) ed_non) (ew_and1 (et_cmpW op_ge od_ge (ER.z (er_fn h_law_least hgd hr (ea_cons (ed_var (pv 0)) (ea_cons (ed_var (pv 3)) ea_nil)))) (pv 2)))))))) (ess_one (es_ret (ED.r (ed_tup (ea_cons ed_str ea_nil))))) ess_nil)
  (ess_cons (es_name (i := 5) sc__law_grow.nd (er_ixV (pv 4) ed_int))
  (ess_cons (es_name (i := 6) sc__law_grow.nd (er_lst ea_nil))
  (ess_cons (es_for (ei_range1 (ea_cons (ER.z (er_callB call_len oc_len z_len (by decide +kernel) (ea_cons (ER.z (er_ixV (pv 0) (ed_var (pv 5)))) ea_nil))) ea_nil) z_range) (eg_nm 7 sc__law_grow.nd) (ess_one (es_ap (pv 6) (ER.z (er_fn h_law_grow hgd hr (ea_cons (ed_var (pv 0)) (ea_cons (ed_var (pv 1)) (ea_cons (ed_var (pv 2)) (ea_cons (ER.z (er_op op_addA od_add (ER.z (er_op op_addA od_add (ER.z (er_slV (pv 3) eo_none (eo_some (ed_var (pv 5))))) (ER.z (er_lst (ea_cons (ed_var (pv 7)) ea_nil))))) (ER.z (er_slV (pv 3) (eo_some (ER.z (er_opV op_addA od_add (pv 5) ed_int))) eo_none)))) (ea_cons (ER.z (er_slV (pv 4) (eo_some ed_int) eo_none)) ea_nil))))))))))
  (ess_one (es_ret (ED.r (ed_tup (ea_cons ed_str (ea_cons (ed_var (pv 5)) (ea_cons (ed_var (pv 6)) ea_nil))))))))))))⟩
abbrev s__law_put : Stmt := topS 18
theorem sc__law_put : FnScope ["feed", "tree", "leaf", "at"] ["feed", "tree", "leaf"] (defScope s__law_put) := ⟨rfl, rfl, rfl, by decide +kernel, rfl, by decide +kernel, by decide +kernel⟩
def W__law_put (S_law_draw : Sem) (S_law_put : Sem) : WS :=
  (wSeq (wIfS (wTb (wOp fNe (wFz (wOpV fIx 1 (wC (.int 0)))) (wC (.str "split")))) (wRet (wGive 2)) wNext)
  (wSeq (wAsg 3 (wCall S_law_draw (waSl 0 (waDa (wFz (wCB fLen (waDa (wFz (wOpV fIx 1 (wC (.int 2)))) waNil))) waNil))))
  (wRet (wR (wTup (waDa (wC (.str "split")) (waDa (wFz (wOpV fIx 1 (wC (.int 1)))) (waDa (wFz (wOp fAdd (wFz (wOp fAdd (wFz (wSl (wFz (wOpV fIx 1 (wC (.int 2)))) wNoPart (wPart (wVar 3)))) (wFz (wLst (waDa (wFz (wCall S_law_put (waSl 0 (waDa (wFz (wOp fIx (wFz (wOpV fIx 1 (wC (.int 2)))) (wVar 3))) (waDa (wVar 2) waNil))))) waNil))))) (wFz (wSl (wFz (wOpV fIx 1 (wC (.int 2)))) (wPart (wFz (wOpV fAdd 3 (wC (.int 1))))) wNoPart)))) waNil))))))))
theorem der__law_put {k : Nat} {S_law_draw : Sem} {S_law_put : Sem} (h_law_draw : Has P w K mg B k "_law_draw" ["feed", "many"] S_law_draw) (h_law_put : Has P w K mg B k "_law_put" ["feed", "tree", "leaf"] S_law_put) (z_len : mg "len" = none) {f : Addr} (cdv : Value) (A : Around) (fr : List Env) (s : Shared) (H : Hp) (E : XK) (c : Fx) (hgd : A.guards = some []) (hr : Room k (A.deeper (envOfC "_law_put" (defScope s__law_put) s.heap.objs.size f cdv))) :
    ∃ ts, ESs (cxOf CX0 P w K mg B ["feed", "tree", "leaf", "at"] "_law_put" (defScope s__law_put) f cdv A fr s H E).nox c (defBody s__law_put) ts (W__law_put S_law_draw S_law_put) := ⟨_,
  (ess_cons (es_if (et_cmp (op_neA (u64 hr)) od_ne (ER.z (er_ixV (pv 1) ed_int)) ed_str) (ess_one (es_ret (er_give (pv 2)))) ess_nil)
  (ess_cons (es_name (i := 3) sc__law_put.nd (er_fn h_law_draw hgd hr (ea_sl (pv 0) (ea_cons (ER.z (er_callB call_len oc_len z_len (by decide +kernel) (ea_cons (ER.z (er_ixV (pv 1) ed_int)) ea_nil))) ea_nil))))
  (ess_one (es_ret (ED.r (ed_tup (ea_cons ed_str (ea_cons (ER.z (er_ixV (pv 1) ed_int)) (ea_cons (ER.z (er_op op_addA od_add (ER.z (er_op op_addA od_add (ER.z (er_sl (ER.z (er_ixV (pv 1) ed_int)) eo_none (eo_some (ed_var (pv 3))))) (ER.z (er_lst (ea_cons (ER.z (er_fn h_law_put hgd hr (ea_sl (pv 0) (ea_cons (ER.z (er_ix (ER.z (er_ixV (pv 1) ed_int)) (ed_var (pv 3)))) (ea_cons (ed_var (pv 2)) ea_nil))))) ea_nil))))) (ER.z (er_sl (ER.z (er_ixV (pv 1) ed_int)) (eo_some (ER.z (er_opV op_addA od_add (pv 3) ed_int))) eo_none)))) ea_nil)))))))))⟩
abbrev s__law_asks : Stmt := topS 19
theorem sc__law_asks : FnScope ["costs", "clashes", "bound", "tree", "due", "kept", "told", "row"] ["costs", "clashes", "bound", "tree"] (defScope s__law_asks) := ⟨rfl, rfl, rfl, by decide +kernel, rfl, by decide +kernel, by decide +kernel⟩
def W__law_asks (S_law_tree : Sem) (Sshows_tree : Sem) : WS :=
  (wSeq (wAsg 4 (wCall S_law_tree (waDa (wVar 0) (waDa (wVar 1) (waDa (wVar 2) (waDa (wFz (wLc [7] (wIL (wVar 0)) (gdName 7) wYes (wR (wC .non)))) (waDa (wVar 3) waNil)))))))
  (wSeq (wAsg 5 (wCB fRepr (waDa (wTup (waDa (wVar 0) (waDa (wVar 1) (waDa (wVar 3) waNil)))) waNil)))
  (wSeq (wAsg 6 (wCall Sshows_tree (waDa (wVar 0) (waDa (wVar 1) (waDa (wVar 2) (waDa (wVar 3) waNil))))))
  (wRet (wAndV (wIsiV "bool" 6) (wAndV (wFz (wOpVV fEq 6 4)) (wOpW fEq (wFz (wCB fRepr (waDa (wTup (waDa (wVar 0) (waDa (wVar 1) (waDa (wVar 3) waNil)))) waNil))) 5)))))))
theorem der__law_asks {k : Nat} {S_law_tree : Sem} {Sshows_tree : Sem} (h_law_tree : Has P w K mg B k "_law_tree" ["costs", "clashes", "bound", "fixed", "tree"] S_law_tree) (hshows_tree : Has P w K mg B k "shows_tree" ["costs", "clashes", "bound", "tree"] Sshows_tree) (z_repr : mg "repr" = none) (z_isinstance : mg "isinstance" = none) (z_bool : mg "bool" = none) {f : Addr} (cdv : Value) (A : Around) (fr : List Env) (s : Shared) (H : Hp) (E : XK) (c : Fx) (hgd : A.guards = some []) (hr : Room k (A.deeper (envOfC "_law_asks" (defScope s__law_asks) s.heap.objs.size f cdv))) :
    ∃ ts, ESs (cxOf CX0 P w K mg B ["costs", "clashes", "bound", "tree", "due", "kept", "told", "row"] "_law_asks" (defScope s__law_asks) f cdv A fr s H E).nox c (defBody s__law_asks) ts (W__law_asks S_law_tree Sshows_tree) := ⟨_,
  (ess_cons (es_name (i := 4) sc__law_asks.nd (er_fn h_law_tree hgd hr (ea_cons (ed_var (pv 0)) (ea_cons (ed_var (pv 1)) (ea_cons (ed_var (pv 2)) (ea_cons (ER.z (er_lc sc__law_asks.nd (ei_list (ed_var (pv 0))) (blkOk_by (N := ["costs", "clashes", "bound", "tree", "due", "kept", "told", "row"]) (sc := defScope s__law_asks) (own := [("row", 7)]) (by decide +kernel)) rfl (fun _ _ _ _ _ _ => (eg_nm 7 sc__law_asks.nd)) (fun _ _ _ _ _ _ => ets_nil) (fun _ _ _ _ _ _ => (ED.r ed_non)))) (ea_cons (ed_var (pv 3)) ea_nil)))))))
  (ess_cons (es_name (i := 5) sc__law_asks.nd (er_callB (call_reprD hgd (u100 hr)) oc_repr z_repr (by decide +kernel) (ea_cons (ed_tup (ea_cons (ed_var (pv 0)) (ea_cons (ed_var (pv 1)) (ea_cons (ed_var (pv 3)) ea_nil)))) ea_nil)))
  (ess_cons (es_name (i := 6) sc__law_asks.nd (er_fn hshows_tree hgd hr (ea_cons (ed_var (pv 0)) (ea_cons (ed_var (pv 1)) (ea_cons (ed_var (pv 2)) (ea_cons (ed_var (pv 3)) ea_nil))))))
  (ess_one (es_ret (er_and (ed_isiV .bool (pv 6) z_isinstance z_bool (by decide +kernel)) (er_and (ER.z (er_cmpVV (op_eqA (u64 hr)) od_eq (pv 6) (pv 4))) (er_one (er_cmpW (op_eqA (u64 hr)) od_eq (ER.z (er_callB (call_reprD hgd (u100 hr)) oc_repr z_repr (by decide +kernel) (ea_cons (ed_tup (ea_cons (ed_var (pv 0)) (ea_cons (ed_var (pv 1)) (ea_cons (ed_var (pv 3)) ea_nil)))) ea_nil))) (pv 5))))))))))⟩
abbrev s_law : Stmt := topS 20
theorem sc_law : FnScope ["script", "feed", "turn", "eight", "bound", "inner", "tree", "costs", "total", "told", "g", "h", "clashes", "order", "k", "at", "first", "second", "limit", "more", "leaf", "spoilt", "other", "row"] ["script"] (defScope s_law) := ⟨rfl, rfl, rfl, by decide +kernel, rfl, by decide +kernel, by decide +kernel⟩
def W_law (S_law_feed : Sem) (S_law_costs : Sem) (S_law_asks : Sem) (S_law_draw : Sem) (S_law_clashes : Sem) (S_law_grow : Sem) (S_law_put : Sem) (Sshows_tree : Sem) : WS :=
  (wSeq (wAsg 1 (wCall S_law_feed (waDa (wVar 0) waNil)))
  (wSeq (wFor (wIR1 (waDa (wC (.int 2)) waNil)) (gdName 2) (wSeq (wAsg 7 (wCall S_law_costs (waSl 1 waNil)))
  (wSeq (wAsg 8 (wCB fSum (waDa (wFz (wLc [23] (wIL (wVar 7)) (gdName 23) wYes (wCB fMin (waSl 23 waNil)))) waNil)))
  (wSeq (wFor (wIL (wFz (wLst (waDa (wVar 8) (waDa (wFz (wOpV fAdd 8 (wC (.int 1)))) (waDa (wFz (wOpV fSub 8 (wC (.int 1)))) (waDa (wC .non) waNil))))))) (gdName 4) (wIfS (wNotT (wTt (wFz (wCall S_law_asks (waDa (wVar 7) (waDa (wFz (wLst waNil)) (waDa (wVar 4) (waDa (wTup (waDa (wC (.str "dear")) waNil)) waNil)))))))) (wRet (wR (wC (.bl false)))) wNext))
  (wIfS (wTb (wOp fGt (wFz (wCB fLen (waSl 7 waNil))) (wC (.int 1)))) (wSeq (wAsg 10 (wCall S_law_draw (waSl 1 (waDa (wFz (wOp fSub (wFz (wCB fLen (waSl 7 waNil))) (wC (.int 1)))) waNil))))
  (wSeq (wAsg 11 (wOp fAdd (wFz (wOpV fAdd 10 (wC (.int 1)))) (wFz (wCall S_law_draw (waSl 1 (waDa (wFz (wOpW fSub (wFz (wOp fSub (wFz (wCB fLen (waSl 7 waNil))) (wC (.int 1)))) 10)) waNil))))))
  (wSeq (wAsg 12 (wCall S_law_clashes (waSl 1 (waDa (wVar 7) (waDa (wVar 10) (waDa (wVar 11) waNil))))))
  (wSeq (wAsg 13 (wLst waNil))
  (wSeq (wFor (wIR1 (waDa (wFz (wCall S_law_draw (waSl 1 (waDa (wC (.int 3)) waNil)))) waNil)) (gdName 14) (wSeq (wAsg 19 (wCall S_law_draw (waSl 1 (waDa (wFz (wCB fLen (waSl 7 waNil))) waNil))))
  (wIfS (wTb (wOpV fNotIn 19 (wFz (wOpV fAdd 13 (wFz (wLst (waDa (wVar 10) (waDa (wVar 11) waNil)))))))) (wApp 13 (wVar 19)) wNext)))
  (wSeq (wAsg 15 (wCall S_law_draw (waSl 1 (waDa (wFz (wOp fAdd (wFz (wCB fLen (waSl 13 waNil))) (wC (.int 1)))) waNil))))
  (wSeq (wAsg 13 (wOp fAdd (wFz (wOp fAdd (wFz (wSlV 13 wNoPart (wPart (wVar 15)))) (wFz (wOp fIx (wFz (wLst (waDa (wFz (wLst (waDa (wVar 10) (waDa (wVar 11) waNil)))) (waDa (wFz (wLst (waDa (wVar 11) (waDa (wVar 10) waNil)))) waNil)))) (wFz (wCall S_law_draw (waSl 1 (waDa (wC (.int 2)) waNil)))))))) (wFz (wSlV 13 (wPart (wVar 15)) wNoPart))))
  (wSeq (wAsg 16 (wOp fSub (wFz (wOp fIx (wFz (wCB fSorted (waDa (wFz (wOp fAdd (wFz (wOpV fIx 7 (wVar 10))) (wFz (wLst (waDa (wC (.int 99)) waNil))))) waNil))) (wC (.int 1)))) (wFz (wCB fMin (waDa (wFz (wOpV fIx 7 (wVar 10))) waNil)))))
  (wSeq (wAsg 17 (wOp fSub (wFz (wOp fIx (wFz (wCB fSorted (waDa (wFz (wOp fAdd (wFz (wOpV fIx 7 (wVar 11))) (wFz (wLst (waDa (wC (.int 99)) waNil))))) waNil))) (wC (.int 1)))) (wFz (wCB fMin (waDa (wFz (wOpV fIx 7 (wVar 11))) waNil)))))
  (wSeq (wAsg 4 (wOpV fAdd 8 (wFz (wCB fMin2 (waSl 16 (waSl 17 waNil))))))
  (wFor (wIL (wFz (wLst (waDa (wVar 4) (waDa (wFz (wOpV fAdd 4 (wC (.int 1)))) (waDa (wFz (wOpV fSub 4 (wC (.int 1)))) (waDa (wC .non) waNil))))))) (gdName 18) (wSeq (wAsg 6 (wCall S_law_grow (waDa (wVar 7) (waDa (wVar 12) (waDa (wVar 18) (waDa (wFz (wLc [23] (wIL (wVar 7)) (gdName 23) wYes (wR (wC .non)))) (waDa (wVar 13) waNil)))))))
  (wSeq (wAsg 20 (wLst (waDa (wTup (waDa (wC (.str "dear")) waNil)) (waDa (wTup (waDa (wC (.str "clash")) (waDa (wVar 10) (waDa (wVar 11) waNil)))) (waDa (wTup (waDa (wC (.str "clash")) (waDa (wVar 11) (waDa (wVar 10) waNil)))) (waDa (wTup (waDa (wC (.str "split")) (waDa (wVar 10) (waDa (wFz (wLst waNil)) waNil)))) (waDa (wTup (waDa (wC (.str "clash")) (waDa (wC (.int 0)) (waDa (wFz (wOp fSub (wFz (wCB fLen (waSl 7 waNil))) (wC (.int 1)))) waNil)))) waNil)))))))
  (wSeq (wAsg 21 (wCall S_law_put (waSl 1 (waDa (wVar 6) (waDa (wFz (wOpV fIx 20 (wFz (wCall S_law_draw (waSl 1 (waDa (wC (.int 5)) waNil)))))) waNil)))))
  (wFor (wIL (wFz (wLst (waDa (wVar 4) (waDa (wFz (wOpV fAdd 4 (wC (.int 1)))) (waDa (wVar 18) waNil)))))) (gdName 22) (wIfS (wOrT (wNotT (wTt (wFz (wCall S_law_asks (waDa (wVar 7) (waDa (wVar 12) (waDa (wVar 22) (waDa (wVar 6) waNil)))))))) (wNotT (wTt (wFz (wCall S_law_asks (waDa (wVar 7) (waDa (wVar 12) (waDa (wVar 22) (waDa (wVar 21) waNil))))))))) (wRet (wR (wC (.bl false)))) wNext)))))))))))))))) wNext)))))
  (wSeq (wAsg 3 (wLc [14] (wIR1 (waDa (wC (.int 8)) waNil)) (gdName 14) wYes (wLst (waDa (wC (.int 9)) (waDa (wC (.int 9)) (waDa (wC (.int 9)) (waDa (wFz (wOpW fAdd (wC (.int 1)) 14)) waNil)))))))
  (wSeq (wFor (wIL (wFz (wLst (waDa (wC (.int 36)) (waDa (wC (.int 37)) waNil))))) (gdName 4) (wSeq (wAsg 9 (wCall Sshows_tree (waDa (wFz (wLc [23] (wIL (wVar 3)) (gdName 23) wYes (wCB fList (waSl 23 waNil)))) (waDa (wFz (wLst waNil)) (waDa (wVar 4) (waDa (wTup (waDa (wC (.str "dear")) waNil)) waNil))))))
  (wIfS (wOrT (wNotT (wTt (wIsiV "bool" 9))) (wTb (wOpV fNe 9 (wFz (wOpV fEq 4 (wC (.int 36))))))) (wRet (wR (wC (.bl false)))) wNext)))
  (wSeq (wAsg 5 (wR (wTup (waDa (wC (.str "split")) (waDa (wC (.int 6)) (waDa (wFz (wLst (waDa (wTup (waDa (wC (.str "dear")) waNil)) (waDa (wTup (waDa (wC (.str "dear")) waNil)) (waDa (wTup (waDa (wC (.str "dear")) waNil)) (waDa (wTup (waDa (wC (.str "clash")) (waDa (wC (.int 6)) (waDa (wC (.int 7)) waNil)))) waNil)))))) waNil))))))
  (wSeq (wAsg 6 (wR (wTup (waDa (wC (.str "split")) (waDa (wC (.int 7)) (waDa (wFz (wLst (waDa (wTup (waDa (wC (.str "dear")) waNil)) (waDa (wTup (waDa (wC (.str "dear")) waNil)) (waDa (wTup (waDa (wC (.str "dear")) waNil)) (waDa (wVar 5) waNil)))))) waNil))))))
  (wSeq (wIfS (wTb (wOp fNotB (wFz (wCall Sshows_tree (waDa (wVar 3) (waDa (wFz (wLst (waDa (wTup (waDa (wTup (waDa (wC (.int 6)) (waDa (wC (.int 3)) waNil))) (waDa (wTup (waDa (wC (.int 7)) (waDa (wC (.int 3)) waNil))) waNil))) waNil))) (waDa (wC (.int 37)) (waDa (wVar 6) waNil)))))) (wC (.bl true)))) (wRet (wR (wC (.bl false)))) wNext)
  (wRet (wOp fIsB (wFz (wCall Sshows_tree (waDa (wVar 3) (waDa (wFz (wLst (waDa (wTup (waDa (wTup (waDa (wC (.int 6)) (waDa (wC (.int 3)) waNil))) (waDa (wTup (waDa (wC (.int 7)) (waDa (wC (.int 3)) waNil))) waNil))) waNil))) (waDa (wC (.int 38)) (waDa (wVar 6) waNil)))))) (wC (.bl false)))))))))))
theorem der_law {k : Nat} {S_law_feed : Sem} {S_law_costs : Sem} {S_law_asks : Sem} {S_law_draw : Sem} {S_law_clashes : Sem} {S_law_grow : Sem} {S_law_put : Sem} {Sshows_tree : Sem} (h_law_feed : Has P w K mg B k "_law_feed" ["script"] S_law_feed) (h_law_costs : Has P w K mg B k "_law_costs" ["feed"] S_law_costs) (h_law_asks : Has P w K mg B k "_law_asks" ["costs", "clashes", "bound", "tree"] S_law_asks) (h_law_draw : Has P w K mg B k "_law_draw" ["feed", "many"] S_law_draw) (h_law_clashes : Has P w K mg B k "_law_clashes" ["feed", "costs", "g", "h"] S_law_clashes) (h_law_grow : Has P w K mg B k "_law_grow" ["costs", "clashes", "bound", "fixed", "order"] S_law_grow) (h_law_put : Has P w K mg B k "_law_put" ["feed", "tree", "leaf"] S_law_put) (hshows_tree : Has P w K mg B k "shows_tree" ["costs", "clashes", "bound", "tree"] Sshows_tree) (z_range : mg "range" = none) (z_sum : mg "sum" = none) (z_min : mg "min" = none) (z_len : mg "len" = none) (z_sorted : mg "sorted" = none) (z_list : mg "list" = none) (z_isinstance : mg "isinstance" = none) (z_bool : mg "bool" = none) {f : Addr} (cdv : Value) (A : Around) (fr : List Env) (s : Shared) (H : Hp) (E : XK) (c : Fx) (hgd : A.guards = some []) (hr : Room k (A.deeper (envOfC "law" (defScope s_law) s.heap.objs.size f cdv))) :
    ∃ ts, ESs (cxOf CX0 P w K mg B ["script", "feed", "turn", "eight", "bound", "inner", "tree", "costs", "total", "told", "g", "h", "clashes", "order", "k", "at", "first", "second", "limit", "more", "leaf", "spoilt", "other", "row"] "law" (defScope s_law) f cdv A fr s H E).nox c (defBody s_law) ts (W_law S_law_feed S_law_costs S_law_asks S_law_draw S_law_clashes S_law_grow S_law_put Sshows_tree) := ⟨_,
  (ess_cons (es_name (i := 1) sc_law.nd (er_fn h_law_feed hgd hr (ea_cons (ed_var (pv 0)) ea_nil)))
  (ess_cons (es_for (ei_range1 (ea_cons ed_int ea_nil) z_range) (eg_nm 2 sc_law.nd) (ess_cons (es_name (i := 7) sc_law.nd (er_fn h_law_costs hgd hr (ea_sl (pv 1) ea_nil)))
  (ess_cons (es_name (i := 8) sc_law.nd (er_callB (cr_sum (by rfl)) oc_sum z_sum (by decide +kernel) (ea_cons (ER.z (er_lc sc_law.nd (ei_list (ed_var (pv 7))) (blkOk_by (N := ["script", "feed", "turn", "eight", "bound", "inner", "tree", "costs", "total", "told", "g", "h", "clashes", "order", "k", "at", "first", "second", "limit", "more", "leaf", "spoilt", "other", "row"]) (sc := defScope s_law) (own := [("row", 23)]) (by decide +kernel)) rfl (fun _ _ _ _ _ _ => (eg_nm 23 sc_law.nd)) (fun _ _ _ _ _ _ => ets_nil) (fun _ _ _ _ _ _ => (er_callB (cr_min (by rfl)) oc_min z_min (by decide +kernel) (ea_sl (pv 23) ea_nil))))) ea_nil)))
  (ess_cons (es_for (ei_list (ER.z (er_lst (ea_cons (ed_var (pv 8)) (ea_cons (ER.z (er_opV op_addA od_add (pv 8) ed_int)) (ea_cons (ER.z (er_opV op_sub od_sub (pv 8) ed_int)) (ea_cons ed_non ea_nil))))))) (eg_nm 4 sc_law.nd) (ess_one (es_if (et_not (et_truth (ER.z (er_fn h_law_asks hgd hr (ea_cons (ed_var (pv 7)) (ea_cons (ER.z (er_lst ea_nil)) (ea_cons (ed_var (pv 4)) (ea_cons (ed_tup (ea_cons ed_str ea_nil)) ea_nil)))))))) (ess_one (es_ret (ED.r ed_bl))) ess_nil)))
  (ess_one (es_if (et_cmp op_gt od_gt (ER.z (er_callB call_len oc_len z_len (by decide +kernel) (ea_sl (pv 7) ea_nil))) ed_int) (ess_cons (es_name (i := 10) sc_law.nd (er_fn h_law_draw hgd hr (ea_sl (pv 1) (ea_cons (ER.z (er_op op_sub od_sub (ER.z (er_callB call_len oc_len z_len (by decide +kernel) (ea_sl (pv 7) ea_nil))) ed_int)) ea_nil))))
  (ess_cons (es_name (i := 11) sc_law.nd (er_op op_addA od_add (ER.z (er_opV op_addA od_add (pv 10) ed_int)) (ER.z (er_fn h_law_draw hgd hr (ea_sl (pv 1) (ea_cons (ER.z (er_opW op_sub od_sub (ER.z (er_op op_sub od_sub (ER.z (er_callB call_len oc_len z_len (by decide +kernel) (ea_sl (pv 7) ea_nil))) ed_int)) (pv 10))) ea_nil))))))
  (ess_cons (es_name (i := 12) sc_law.nd (er_fn h_law_clashes hgd hr (ea_sl (pv 1) (ea_cons (ed_var (pv 7)) (ea_cons (ed_var (pv 10)) (ea_cons (ed_var (pv 11)) ea_nil))))))
  (ess_cons (es_name (i := 13) sc_law.nd (er_lst ea_nil))
  (ess_cons (es_for (ei_range1 (ea_cons (ER.z (er_fn h_law_draw hgd hr (ea_sl (pv 1) (ea_cons ed_int ea_nil)))) ea_nil) z_range) (eg_nm 14 sc_law.nd) (ess_cons (es_name (i := 19) sc_law.nd (er_fn h_law_draw hgd hr (ea_sl (pv 1) (ea_cons (ER.z (er_callB call_len oc_len z_len (by decide +kernel) (ea_sl (pv 7) ea_nil))) ea_nil))))
  (ess_one (es_if (et_cmpV (op_notInA (u65 hr)) od_notIn (pv 19) (ER.z (er_opV op_addA od_add (pv 13) (ER.z (er_lst (ea_cons (ed_var (pv 10)) (ea_cons (ed_var (pv 11)) ea_nil))))))) (ess_one (es_ap (pv 13) (ed_var (pv 19)))) ess_nil))))
  (ess_cons (es_name (i := 15) sc_law.nd (er_fn h_law_draw hgd hr (ea_sl (pv 1) (ea_cons (ER.z (er_op op_addA od_add (ER.z (er_callB call_len oc_len z_len (by decide +kernel) (ea_sl (pv 13) ea_nil))) ed_int)) ea_nil))))
  (ess_cons (es_name (i := 13) sc_law.nd (er_op op_addA od_add (ER.z (er_op op_addA od_add (ER.z (er_slV (pv 13) eo_none (eo_some (ed_var (pv 15))))) (ER.z (er_ix (ER.z (er_lst (ea_cons (ER.z (er_lst (ea_cons (ed_var (pv 10)) (ea_cons (ed_var (pv 11)) ea_nil)))) (ea_cons (ER.z (er_lst (ea_cons (ed_var (pv 11)) (ea_cons (ed_var (pv 10)) ea_nil)))) ea_nil)))) (ER.z (er_fn h_law_draw hgd hr (ea_sl (pv 1) (ea_cons ed_int ea_nil)))))))) (ER.z (er_slV (pv 13) (eo_some (ed_var (pv 15))) eo_none))))
  (ess_cons (es_name (i := 16) sc_law.nd (er_op op_sub od_sub (ER.z (er_ix (ER.z (er_callB cr_sortedI oc_sorted z_sorted (by decide +kernel) (ea_cons (ER.z (er_op op_addA od_add (ER.z (er_ixV (pv 7) (ed_var (pv 10)))) (ER.z (er_lst (ea_cons ed_int ea_nil))))) ea_nil))) ed_int)) (ER.z (er_callB (cr_min (by rfl)) oc_min z_min (by decide +kernel) (ea_cons (ER.z (er_ixV (pv 7) (ed_var (pv 10)))) ea_nil)))))
  (ess_cons (es_name (i := 17) sc_law.nd (er_op op_sub od_sub (ER.z (er_ix (ER.z (er_callB cr_sortedI oc_sorted z_sorted (by decide +kernel) (ea_cons (ER.z (er_op op_addA od_add (ER.z (er_ixV (pv 7) (ed_var (pv 11)))) (ER.z (er_lst (ea_cons ed_int ea_nil))))) ea_nil))) ed_int)) (ER.z (er_callB (cr_min (by rfl)) oc_min z_min (by decide +kernel) (ea_cons (ER.z (er_ixV (pv 7) (ed_var (pv 11)))) ea_nil)))))
  (ess_cons (es_name (i := 4) sc_law.nd (er_opV op_addA od_add (pv 8) (ER.z (er_callB (call_min2 (by rfl)) oc_min2 z_min (by decide +kernel) (ea_sl (pv 16) (ea_sl (pv 17) ea_nil))))))
  (ess_one (es_for (ei_list (ER.z (er_lst (ea_cons (ed_var (pv 4)) (ea_cons (ER.z (er_opV op_addA od_add (pv 4) ed_int)) (ea_cons (ER.z (er_opV op_sub od_sub (pv 4) ed_int)) (ea_cons ed_non ea_nil))))))) (eg_nm 18 sc_law.nd) (ess_cons (es_name (i := 6) sc_law.nd (er_fn h_law_grow hgd hr (ea_cons (ed_var (pv 7)) (ea_cons (ed_var (pv 12)) (ea_cons (ed_var (pv 18)) (ea_cons (ER.z (er_lc sc_law.nd (ei_list (ed_var (pv 7))) (blkOk_by (N := ["script", "feed", "turn", "eight", "bound", "inner", "tree", "costs", "total", "told", "g", "h", "clashes", "order", "k", "at", "first", "second", "limit", "more", "leaf", "spoilt", "other", "row"]) (sc := defScope s_law) (own := [("row", 23)]) (by decide +kernel)) rfl (fun _ _ _ _ _ _ => (eg_nm 23 sc_law.nd)) (fun _ _ _ _ _ _ => ets_nil) (fun _ _ _ _ _ _ => (ED.r ed_non)))) (ea_cons (ed_var (pv 13)) ea_nil)))))))
  (ess_cons (es_name (i := 20) sc_law.nd (er_lst (ea_cons (ed_tup (ea_cons ed_str ea_nil)) (ea_cons (ed_tup (ea_cons ed_str (ea_cons (ed_var (pv 10)) (ea_cons (ed_var (pv 11)) ea_nil)))) (ea_cons (ed_tup (ea_cons ed_str (ea_cons (ed_var (pv 11)) (ea_cons (ed_var (pv 10)) ea_nil)))) (ea_cons (ed_tup (ea_cons ed_str (ea_cons (ed_var (pv 10)) (ea_cons (ER.z (er_lst ea_nil)) ea_nil)))) (ea_cons (ed_tup (ea_cons ed_str (ea_cons ed_int (ea_cons (ER.z (er_op op_sub od_sub (ER.z (er_callB call_len oc_len z_len (by decide +kernel) (ea_sl (pv 7) ea_nil))) ed_int)) ea_nil)))) ea_nil)))))))
  (ess_cons (es_name (i := 21) sc_law.nd (er_fn h_law_put hgd hr (ea_sl (pv 1) (ea_cons (ed_var (pv 6)) (ea_cons (ER.z (er_ixV (pv 20) (ER.z (er_fn h_law_draw hgd hr (ea_sl (pv 1) (ea_cons ed_int ea_nil)))))) ea_nil)))))
  (ess_one (es_for (ei_list (ER.z (er_lst (ea_cons (ed_var (pv 4)) (ea_cons (ER.z (er_opV op_addA od_add (pv 4) ed_int)) (ea_cons (ed_var (pv 18)) ea_nil)))))) (eg_nm 22 sc_law.nd) (ess_one (es_if (EW.t (ew_or (et_not (et_truth (ER.z (er_fn h_law_asks hgd hr (ea_cons (ed_var (pv 7)) (ea_cons (ed_var (pv 12)) (ea_cons (ed_var (pv 22)) (ea_cons (ed_var (pv 6)) ea_nil)))))))) (ew_or1 (et_not (et_truth (ER.z (er_fn h_law_asks hgd hr (ea_cons (ed_var (pv 7)) (ea_cons (ed_var (pv 12)) (ea_cons (ed_var (pv 22)) (ea_cons (ed_var (pv 21)) ea_nil))))))))))) (ess_one (es_ret (ED.r ed_bl))) ess_nil))))))))))))))))))) ess_nil))))))
  (ess_cons (es_setLc (i := 3) sc_law.nd rfl rfl (sw_true rfl rfl rfl (by decide +kernel)) (ei_range1 (ea_cons ed_int ea_nil) z_range) (blkOk_by (N := ["script", "feed", "turn", "eight", "bound", "inner", "tree", "costs", "total", "told", "g", "h", "clashes", "order", "k", "at", "first", "second", "limit", "more", "leaf", "spoilt", "other", "row"]) (sc := defScope s_law) (own := [("k", 14)]) (by decide +kernel)) rfl (fun _ _ _ _ _ _ => (eg_nm 14 sc_law.nd)) (fun _ _ _ _ _ _ => ets_nil) (fun _ _ _ _ _ _ => (er_lst (ea_cons ed_int (ea_cons ed_int (ea_cons ed_int (ea_cons (ER.z (er_opW op_addA od_add ed_int (pv 14))) ea_nil)))))))
  (ess_cons (es_for (ei_list (ER.z (er_lst (ea_cons ed_int (ea_cons ed_int ea_nil))))) (eg_nm 4 sc_law.nd) (ess_cons (es_name (i := 9) sc_law.nd (er_fn hshows_tree hgd hr (ea_cons (ER.z (er_lc sc_law.nd (ei_list (ed_var (pv 3))) (blkOk_by (N := ["script", "feed", "turn", "eight", "bound", "inner", "tree", "costs", "total", "told", "g", "h", "clashes", "order", "k", "at", "first", "second", "limit", "more", "leaf", "spoilt", "other", "row"]) (sc := defScope s_law) (own := [("row", 23)]) (by decide +kernel)) rfl (fun _ _ _ _ _ _ => (eg_nm 23 sc_law.nd)) (fun _ _ _ _ _ _ => ets_nil) (fun _ _ _ _ _ _ => (er_callTy call_list_of oc_list z_list (by decide +kernel) (ea_sl (pv 23) ea_nil))))) (ea_cons (ER.z (er_lst ea_nil)) (ea_cons (ed_var (pv 4)) (ea_cons (ed_tup (ea_cons ed_str ea_nil)) ea_nil))))))
  (ess_one (es_if (EW.t (ew_or (et_not (et_truth (ed_isiV .bool (pv 9) z_isinstance z_bool (by decide +kernel)))) (ew_or1 (et_cmpV (op_neA (u64 hr)) od_ne (pv 9) (ER.z (er_cmpV (op_eqA (u64 hr)) od_eq (pv 4) ed_int)))))) (ess_one (es_ret (ED.r ed_bl))) ess_nil))))
  (ess_cons (es_name (i := 5) sc_law.nd (ED.r (ed_tup (ea_cons ed_str (ea_cons ed_int (ea_cons (ER.z (er_lst (ea_cons (ed_tup (ea_cons ed_str ea_nil)) (ea_cons (ed_tup (ea_cons ed_str ea_nil)) (ea_cons (ed_tup (ea_cons ed_str ea_nil)) (ea_cons (ed_tup (ea_cons ed_str (ea_cons ed_int (ea_cons ed_int ea_nil)))) ea_nil)))))) ea_nil))))))
  (ess_cons (es_name (i := 6) sc_law.nd (ED.r (ed_tup (ea_cons ed_str (ea_cons ed_int (ea_cons (ER.z (er_lst (ea_cons (ed_tup (ea_cons ed_str ea_nil)) (ea_cons (ed_tup (ea_cons ed_str ea_nil)) (ea_cons (ed_tup (ea_cons ed_str ea_nil)) (ea_cons (ed_var (pv 5)) ea_nil)))))) ea_nil))))))
  (ess_cons (es_if (et_cmp op_notBl od_notB (ER.z (er_fn hshows_tree hgd hr (ea_cons (ed_var (pv 3)) (ea_cons (ER.z (er_lst (ea_cons (ed_tup (ea_cons (ed_tup (ea_cons ed_int (ea_cons ed_int ea_nil))) (ea_cons (ed_tup (ea_cons ed_int (ea_cons ed_int ea_nil))) ea_nil))) ea_nil))) (ea_cons ed_int (ea_cons (ed_var (pv 6)) ea_nil)))))) ed_bl) (ess_one (es_ret (ED.r ed_bl))) ess_nil)
  (ess_one (es_ret (er_cmp op_isBl od_isB (ER.z (er_fn hshows_tree hgd hr (ea_cons (ed_var (pv 3)) (ea_cons (ER.z (er_lst (ea_cons (ed_tup (ea_cons (ed_tup (ea_cons ed_int (ea_cons ed_int ea_nil))) (ea_cons (ed_tup (ea_cons ed_int (ea_cons ed_int ea_nil))) ea_nil))) ea_nil))) (ea_cons ed_int (ea_cons (ed_var (pv 6)) ea_nil)))))) ed_bl))))))))))⟩
end
end K59
set_option Elab.async false
set_option linter.all false
set_option maxRecDepth 100000
set_option maxHeartbeats 4000000
namespace K59
open PySem PySem.Spec PyProof.Rows L2 Evl DL
local macro_rules | `(tactic| walk_at "dl") => `(tactic| simp (config := {maxSteps := 400000}) only [wRet, wRetN, wSeq, wAsg, wAsgT, wIfS, wDrop, wApp, wSetI, wAugN, wAugI, wNext, wTb, wTt, wTtV, wAndT, wOrT, wNotT, wAndV, wOrV, wNotV, wIf, wOp, wOpV, wOpW, wOpVV, wVar, wC, wFz, wR, wGive, wChain, wChain3, wTup, wLst, wSl, wSlV, wNoPart, wPart, wCB, wCall, waNil, waSl, waDa, wIsi, wIsiV, wNeg, wBM, wBMV, wIL, wIT, wIE, wIR1, wIR2, peek, ↓peeks_0, ↓peeks_1, ↓peeks_2, isSet, isO, atO, putO, onL, onB, onT, onI, ↓allD_0, ↓allD_1, ↓toArgs_0, ↓toArgs_1, ↓toArgs_2, toArgs, ↓putBack_0, ↓putBack_1, ↓putBack_2, putBack, ndA, fAdd, fMul, fI0, fI, fIx, fSl, fEq, fNe, fIn, fNotIn, fIsN, fNotN, fIsB, fNotB, fLen, fAbs, fInt, fList, fTuple, R.d, O.d, Sl.put, gdName, gdTup, gdCons, gdNil, retEnds, wBack, D.isNon, D.truth, List.getElem?_cons_zero, List.getElem?_cons_succ, List.set_cons_zero, List.set_cons_succ, List.length_cons, List.length_nil, true_and, and_true, if_true, if_false, Bool.not_true, Bool.not_false, D.ok_int, D.ok_bl, D.ok_non, D.eqv_int, D.eqv_bl, decide_eq_true_eq, Bool.false_eq_true, ↓reduceIte, fSub, fDiv, fMod, fPow, fLt, fLe, fGt, fGe, atI_lit, ↓setD_lit, List.getElem?_nil, List.length_set, List.length_map, Nat.reduceAdd, Nat.reduceLT, Nat.reduceSub, Int.reduceLT, Int.reduceLE, Int.reduceToNat, Int.reducePow, Int.reduceNeg, Int.reduceAdd, Int.reduceSub, Int.reduceMul, Int.reduceEq, Nat.reduceEqDiff, Nat.succ_eq_add_one, decide_true, decide_false, Bool.and_true, Bool.true_and, Bool.and_false, Bool.false_and, and_self, false_and, and_false, sizeLine_eq, Nat.reduceLeDiff, isTb, isTn, String.reduceBEq, Bool.or_true, Bool.true_or, Bool.or_false, Bool.false_or, Bool.false_and, D.notIns, ofString_inj, String.reduceEq, ok_lit, D.eqv_str, cut1, sIx_lit, sIx_none, Nat.min_def, not_false_eq_true, not_true_eq_false, Nat.one_ne_zero, reduceCtorEq, Int.cast_ofNat_Int, Int.natCast_zero, true_or, or_true, D.isStr, List.all_cons, List.all_nil, Nat.reduceBNe, Bool.and_self])
local macro_rules | `(tactic| walk_at "dlh") => `(tactic| simp only [wRet, wRetN, wSeq, wAsg, wAsgT, wIfS, wDrop, wApp, wSetI, wAugN, wAugI, wNext, wTb, wTt, wTtV, wAndT, wOrT, wNotT, wAndV, wOrV, wNotV, wIf, wOp, wOpV, wOpW, wOpVV, wVar, wC, wFz, wR, wGive, wChain, wChain3, wTup, wLst, wSl, wSlV, wNoPart, wPart, wCB, wCall, waNil, waSl, waDa, wIsi, wIsiV, wNeg, wBM, wBMV, wIL, wIT, wIE, wIR1, wIR2, peek, ↓peeks_0, ↓peeks_1, ↓peeks_2, isSet, isO, atO, putO, onL, onB, onT, onI, ↓allD_0, ↓allD_1, ↓toArgs_0, ↓toArgs_1, ↓toArgs_2, toArgs, ↓putBack_0, ↓putBack_1, ↓putBack_2, putBack, ndA, fAdd, fMul, fI0, fI, fIx, fSl, fEq, fNe, fIn, fNotIn, fIsN, fNotN, fIsB, fNotB, fLen, fAbs, fInt, fList, fTuple, R.d, O.d, Sl.put, gdName, gdTup, gdCons, gdNil, retEnds, wBack, D.isNon, D.truth, List.getElem?_cons_zero, List.getElem?_cons_succ, List.set_cons_zero, List.set_cons_succ, List.length_cons, List.length_nil, true_and, and_true, if_true, if_false, Bool.not_true, Bool.not_false, D.ok_int, D.ok_bl, D.ok_non, D.eqv_int, D.eqv_bl, decide_eq_true_eq, Bool.false_eq_true, ↓reduceIte, fSub, fDiv, fMod, fPow, fLt, fLe, fGt, fGe, atI_lit, ↓setD_lit, List.getElem?_nil, List.length_set, List.length_map, Nat.reduceAdd, Nat.reduceLT, Nat.reduceSub, Int.reduceLT, Int.reduceLE, Int.reduceToNat, Int.reducePow, Int.reduceNeg, Int.reduceAdd, Int.reduceSub, Int.reduceMul, Int.reduceEq, Nat.reduceEqDiff, Nat.succ_eq_add_one, decide_true, decide_false, Bool.and_true, Bool.true_and, Bool.and_false, Bool.false_and, and_self, false_and, and_false, sizeLine_eq, Nat.reduceLeDiff, isTb, isTn, String.reduceBEq, Bool.or_true, Bool.true_or, Bool.or_false, Bool.false_or, Bool.false_and, D.notIns, ofString_inj, String.reduceEq, ok_lit, D.eqv_str, cut1, sIx_lit, sIx_none, Nat.min_def, not_false_eq_true, not_true_eq_false, Nat.one_ne_zero, reduceCtorEq, Int.cast_ofNat_Int, Int.natCast_zero, true_or, or_true, D.isStr, List.all_cons, List.all_nil, Nat.reduceBNe, Bool.and_self] at *)
/-! ### what the values are -/
def isWhole : D → Bool
  | .int _ => true
  | _ => false
def rowD (r : List Int) : D := .lst (r.map D.int)
def costsD (cs : List (List Int)) : D := .lst (cs.map rowD)
def optD : Option Int → D
  | none => .non
  | some i => .int i
def optsD (fx : List (Option Int)) : D := .lst (fx.map optD)
def linkD (q : (Int × Int) × (Int × Int)) : D := .tup [.tup [.int q.1.1, .int q.1.2], .tup [.int q.2.1, .int q.2.2]]
def CsOk (cs : List (List Int)) : Prop := 1 ≤ cs.length ∧ cs.length ≤ 8 ∧ ∀ r ∈ cs, 0 < r.length ∧ r.length ≤ 4 ∧ ∀ c ∈ r, 0 ≤ c ∧ c ≤ 100
def Fits (cs : List (List Int)) (fx : List (Option Int)) : Prop := fx.length = cs.length ∧ ∀ (g : Nat) (o : Int) (r : List Int), fx[g]? = some (some o) → cs[g]? = some r → 0 ≤ o ∧ o < (r.length : Int)
def leastAt (cs : List (List Int)) (fx : List (Option Int)) (g : Nat) : Int := match cs[g]?, fx[g]? with
  | some r, some none => minI r
  | some r, some (some o) => (r[o.toNat]?).getD 0
  | _, _ => 0
def leastTo (cs : List (List Int)) (fx : List (Option Int)) : Nat → Int
  | 0 => 0
  | n + 1 => leastTo cs fx n + leastAt cs fx n
def least (cs : List (List Int)) (fx : List (Option Int)) : Int := leastTo cs fx cs.length
theorem Pl.opt {o : Option Int} (h : ∀ i, o = some i → -1000 ≤ i ∧ i ≤ 1000) : Pl 0 11 (optD o) := by
  cases o with
  | none => exact Pl.non.mono (Nat.le_refl _) (Nat.zero_le _)
  | some i => exact Pl.int (h i rfl).1 (h i rfl).2
theorem optD_ok (o : Option Int) : (optD o).ok := by
  cases o with
  | none => exact D.ok_non
  | some i => exact D.ok_int i
theorem optD_isNon (o : Option Int) : (optD o).isNon = o.isNone := by cases o <;> rfl

def sem_is_whole : Sem := fun as G => ∃ d, as = [.f d] ∧ d.notIns = true ∧ G (.fr (.bl (isWhole d))) as
def sem_least : Sem := fun as G => ∃ cs fx, as = [.f (costsD cs), .f (optsD fx)] ∧ CsOk cs ∧ Fits cs fx ∧ G (.fr (.int (least cs fx))) as

theorem rd_is_whole : ∀ as G, sem_is_whole as G → as.length = 1 ∧ W_is_whole (retEnds as G) (enter 1 as) := by
  rintro as G ⟨d, rfl, hd, h⟩
  refine ⟨rfl, ?_⟩
  show W_is_whole _ [.f d]
  unfold W_is_whole
  walk_at "dl"
  cases d <;> simp [isTb, isTn, isWhole] at h ⊢ <;> simp_all [D.notIns]
theorem rd__law_is_whole : ∀ as G, sem_is_whole as G → as.length = 1 ∧ W__law_is_whole (retEnds as G) (enter 1 as) := rd_is_whole

theorem row_at {cs : List (List Int)} (g : Nat) : (cs.map rowD)[g]? = (cs[g]?).map rowD := List.getElem?_map
theorem ints_row (r : List Int) : intsL [rowD r] = fun k => ∃ ns : List Int, r.map D.int = ns.map D.int ∧ k ns := rfl
theorem intsL_row {r : List Int} {k : List Int → Prop} (h : k r) : intsL [rowD r] k := ⟨r, rfl, h⟩
theorem atI_int {r : List Int} {o : Int} (h0 : 0 ≤ o) (h1 : o < (r.length : Int)) : atI (r.map D.int) o = some (.int ((r[o.toNat]?).getD 0)) := by
  rw [atI_nn h0, List.getElem?_map, List.getElem?_eq_getElem (by omega)]
  rfl

theorem rd_least_under : ∀ as G, sem_least as G → as.length = 2 ∧ W_least_under (retEnds as G) (enter 5 as) := by
  rintro as G ⟨cs, fx, rfl, hc, hf, h⟩
  refine ⟨rfl, ?_⟩
  show W_least_under _ [.f (costsD cs), .f (optsD fx), .un, .un, .un]
  unfold W_least_under costsD optsD
  walk_at "dl"
  unfold wFor
  walk_at "dl"
  refine forI_enum (fun i ρ => ∃ s3 s4, ρ = [.f (costsD cs), .f (optsD fx), .f (.int (leastTo cs fx i)), s3, s4]) ⟨_, _, rfl⟩ ?_ ?_
  · rintro i o ρ ho ⟨s3, s4, rfl⟩
    have hi : i < cs.length := by
      obtain ⟨hl, _⟩ := List.getElem?_eq_some_iff.mp ho
      rw [← hf.1]
      exact hl
    have hr : cs[i]? = some cs[i] := List.getElem?_eq_getElem hi
    unfold costsD
    walk_at "dl"
    rw [atI_ofNat, row_at, hr]
    cases o with
    | none =>
      simp only [optD, D.isNon, if_true, Option.map_some]
      have e : leastTo cs fx (i + 1) = leastTo cs fx i + minI cs[i] := by simp only [leastTo, leastAt, hr, ho]
      rw [e]
      exact ⟨_, rfl, (hc.2.2 _ (List.getElem_mem hi)).1, _, _, rfl⟩
    | some o =>
      obtain ⟨q1, q2⟩ := hf.2 i o _ ho hr
      simp only [optD, D.isNon, Bool.false_eq_true, if_false, Option.map_some]
      unfold rowD
      walk_at "dl"
      rw [atI_int q1 q2]
      have e : leastTo cs fx (i + 1) = leastTo cs fx i + ((cs[i])[o.toNat]?).getD 0 := by simp only [leastTo, leastAt, hr, ho]
      rw [e]
      exact ⟨_, _, rfl⟩
  · rintro ρ ⟨s3, s4, rfl⟩
    walk_at "dl"
    rw [hf.1]
    exact h
theorem sum_least {cs : List (List Int)} {fx : List (Option Int)} : ∀ n, ((List.range n).map fun g => leastAt cs fx g).sum = leastTo cs fx n
  | 0 => rfl
  | n + 1 => by
    rw [List.range_succ, List.map_append, List.sum_append, sum_least n]
    simp [leastTo]
theorem rd__law_least : ∀ as G, sem_least as G → as.length = 2 ∧ W__law_least (retEnds as G) (enter 3 as) := by
  rintro as G ⟨cs, fx, rfl, hc, hf, h⟩
  refine ⟨rfl, ?_⟩
  show W__law_least _ [.f (costsD cs), .f (optsD fx), .un]
  unfold W__law_least costsD optsD
  walk_at "dl"
  unfold wLc
  walk_at "dl"
  refine ⟨by have := hc.2.1; omega, rfl, lt_line ?_, ?_⟩
  · rw [rangeD_len]
    have := hc.2.1
    simp only [Int.toNat_natCast]
    omega
  rw [Int.toNat_natCast]
  refine lcI_range (fun i acc ρ => acc = ((List.range i).map fun g => leastAt cs fx g).map D.int ∧ ρ = [.f (costsD cs), .f (optsD fx), .un]) ⟨rfl, rfl⟩ ?_ ?_
  · rintro i acc ρ hi ⟨rfl, rfl⟩
    have hr : cs[i]? = some cs[i] := List.getElem?_eq_getElem hi
    unfold costsD optsD
    simp only [wYes, wipeS]
    walk_at "dl"
    obtain ⟨o, ho⟩ : ∃ o, fx[i]? = some o := ⟨_, List.getElem?_eq_getElem (by rw [hf.1]; exact hi)⟩
    rw [atI_ofNat, List.getElem?_map, ho, atI_ofNat, row_at, hr]
    simp only [Option.map_some]
    cases o with
    | none =>
      simp only [optD, D.isNon, if_true]
      refine ⟨_, rfl, (hc.2.2 _ (List.getElem_mem hi)).1, ?_⟩
      simp [List.range_succ, leastAt, hr, ho]
    | some o =>
      obtain ⟨q1, q2⟩ := hf.2 i o _ ho hr
      simp only [optD, D.isNon, Bool.false_eq_true, if_false]
      unfold rowD
      walk_at "dl"
      rw [atI_int q1 q2]
      simp [List.range_succ, leastAt, hr, ho]
  · rintro acc ρ ⟨rfl, rfl⟩
    simp only [restS]
    walk_at "dl"
    refine ⟨_, rfl, ?_⟩
    show G (R.fr (D.int (((List.range cs.length).map fun g => leastAt cs fx g).sum))) _
    rw [sum_least]
    exact h
theorem whole_eq (d : D) (G : R → SEnv → Prop) : sem_is_whole [.r (.fr d)] G = (d.notIns = true ∧ G (.fr (.bl (isWhole d))) [.r (.fr d)]) := by
  apply propext
  constructor
  · rintro ⟨e, q, h⟩
    cases q
    exact h
  · intro h
    exact ⟨d, rfl, h⟩
theorem whole_int (i : Int) : isWhole (.int i) = true := rfl
theorem notIns_int (i : Int) : (D.int i).notIns = true := rfl
end K59
set_option Elab.async false
set_option linter.all false
set_option maxRecDepth 100000
set_option maxHeartbeats 4000000
namespace K59
open PySem PySem.Spec PyProof.Rows L2 Evl DL
local macro_rules | `(tactic| walk_at "dl") => `(tactic| simp (config := {maxSteps := 400000}) only [wRet, wRetN, wSeq, wAsg, wAsgT, wIfS, wDrop, wApp, wSetI, wAugN, wAugI, wNext, wTb, wTt, wTtV, wAndT, wOrT, wNotT, wAndV, wOrV, wNotV, wIf, wOp, wOpV, wOpW, wOpVV, wVar, wC, wFz, wR, wGive, wChain, wChain3, wTup, wLst, wSl, wSlV, wNoPart, wPart, wCB, wCall, waNil, waSl, waDa, wIsi, wIsiV, wNeg, wBM, wBMV, wIL, wIT, wIE, wIR1, wIR2, peek, ↓peeks_0, ↓peeks_1, ↓peeks_2, isSet, isO, atO, putO, onL, onB, onT, onI, ↓allD_0, ↓allD_1, ↓toArgs_0, ↓toArgs_1, ↓toArgs_2, toArgs, ↓putBack_0, ↓putBack_1, ↓putBack_2, putBack, ndA, fAdd, fMul, fI0, fI, fIx, fSl, fEq, fNe, fIn, fNotIn, fIsN, fNotN, fIsB, fNotB, fLen, fAbs, fInt, fList, fTuple, R.d, O.d, Sl.put, gdName, gdTup, gdCons, gdNil, retEnds, wBack, D.isNon, D.truth, List.getElem?_cons_zero, List.getElem?_cons_succ, List.set_cons_zero, List.set_cons_succ, List.length_cons, List.length_nil, true_and, and_true, if_true, if_false, Bool.not_true, Bool.not_false, D.ok_int, D.ok_bl, D.ok_non, D.eqv_int, D.eqv_bl, decide_eq_true_eq, Bool.false_eq_true, ↓reduceIte, fSub, fDiv, fMod, fPow, fLt, fLe, fGt, fGe, atI_lit, ↓setD_lit, List.getElem?_nil, List.length_set, List.length_map, Nat.reduceAdd, Nat.reduceLT, Nat.reduceSub, Int.reduceLT, Int.reduceLE, Int.reduceToNat, Int.reducePow, Int.reduceNeg, Int.reduceAdd, Int.reduceSub, Int.reduceMul, Int.reduceEq, Nat.reduceEqDiff, Nat.succ_eq_add_one, decide_true, decide_false, Bool.and_true, Bool.true_and, Bool.and_false, Bool.false_and, and_self, false_and, and_false, sizeLine_eq, Nat.reduceLeDiff, isTb, isTn, String.reduceBEq, Bool.or_true, Bool.true_or, Bool.or_false, Bool.false_or, Bool.false_and, D.notIns, ofString_inj, String.reduceEq, ok_lit, D.eqv_str, cut1, sIx_lit, sIx_none, Nat.min_def, not_false_eq_true, not_true_eq_false, Nat.one_ne_zero, reduceCtorEq, Int.cast_ofNat_Int, Int.natCast_zero, true_or, or_true, D.isStr, List.all_cons, List.all_nil, Nat.reduceBNe, Bool.and_self, ↓whole_eq, whole_int, notIns_int])
local macro_rules | `(tactic| walk_at "dlh") => `(tactic| simp only [wRet, wRetN, wSeq, wAsg, wAsgT, wIfS, wDrop, wApp, wSetI, wAugN, wAugI, wNext, wTb, wTt, wTtV, wAndT, wOrT, wNotT, wAndV, wOrV, wNotV, wIf, wOp, wOpV, wOpW, wOpVV, wVar, wC, wFz, wR, wGive, wChain, wChain3, wTup, wLst, wSl, wSlV, wNoPart, wPart, wCB, wCall, waNil, waSl, waDa, wIsi, wIsiV, wNeg, wBM, wBMV, wIL, wIT, wIE, wIR1, wIR2, peek, ↓peeks_0, ↓peeks_1, ↓peeks_2, isSet, isO, atO, putO, onL, onB, onT, onI, ↓allD_0, ↓allD_1, ↓toArgs_0, ↓toArgs_1, ↓toArgs_2, toArgs, ↓putBack_0, ↓putBack_1, ↓putBack_2, putBack, ndA, fAdd, fMul, fI0, fI, fIx, fSl, fEq, fNe, fIn, fNotIn, fIsN, fNotN, fIsB, fNotB, fLen, fAbs, fInt, fList, fTuple, R.d, O.d, Sl.put, gdName, gdTup, gdCons, gdNil, retEnds, wBack, D.isNon, D.truth, List.getElem?_cons_zero, List.getElem?_cons_succ, List.set_cons_zero, List.set_cons_succ, List.length_cons, List.length_nil, true_and, and_true, if_true, if_false, Bool.not_true, Bool.not_false, D.ok_int, D.ok_bl, D.ok_non, D.eqv_int, D.eqv_bl, decide_eq_true_eq, Bool.false_eq_true, ↓reduceIte, fSub, fDiv, fMod, fPow, fLt, fLe, fGt, fGe, atI_lit, ↓setD_lit, List.getElem?_nil, List.length_set, List.length_map, Nat.reduceAdd, Nat.reduceLT, Nat.reduceSub, Int.reduceLT, Int.reduceLE, Int.reduceToNat, Int.reducePow, Int.reduceNeg, Int.reduceAdd, Int.reduceSub, Int.reduceMul, Int.reduceEq, Nat.reduceEqDiff, Nat.succ_eq_add_one, decide_true, decide_false, Bool.and_true, Bool.true_and, Bool.and_false, Bool.false_and, and_self, false_and, and_false, sizeLine_eq, Nat.reduceLeDiff, isTb, isTn, String.reduceBEq, Bool.or_true, Bool.true_or, Bool.or_false, Bool.false_or, Bool.false_and, D.notIns, ofString_inj, String.reduceEq, ok_lit, D.eqv_str, cut1, sIx_lit, sIx_none, Nat.min_def, not_false_eq_true, not_true_eq_false, Nat.one_ne_zero, reduceCtorEq, Int.cast_ofNat_Int, Int.natCast_zero, true_or, or_true, D.isStr, List.all_cons, List.all_nil, Nat.reduceBNe, Bool.and_self] at *)
def clD (cl : List ((Int × Int) × (Int × Int))) : D := .lst (cl.map linkD)
def ClOk (cs : List (List Int)) (cl : List ((Int × Int) × (Int × Int))) : Prop := cl.length ≤ 8 ∧ ∀ q ∈ cl, (0 ≤ q.1.1 ∧ q.1.1 < (cs.length : Int) ∧ 0 ≤ q.1.2 ∧ q.1.2 ≤ 100) ∧ (0 ≤ q.2.1 ∧ q.2.1 < (cs.length : Int) ∧ 0 ≤ q.2.2 ∧ q.2.2 ≤ 100)
def dearT : D := .tup [.str "dear"]
def clashT (g h : Int) : D := .tup [.str "clash", .int g, .int h]
def splitT (g : Int) (bs : List D) : D := .tup [.str "split", .int g, .lst bs]
def TreeOk : Nat → D → Prop
  | 0, d => d = dearT ∨ ∃ g h, d = clashT g h ∧ (-100 ≤ g ∧ g ≤ 100) ∧ (-100 ≤ h ∧ h ≤ 100)
  | n + 1, d => (d = dearT ∨ ∃ g h, d = clashT g h ∧ (-100 ≤ g ∧ g ≤ 100) ∧ (-100 ≤ h ∧ h ≤ 100)) ∨ ∃ g bs, d = splitT g bs ∧ (0 ≤ g ∧ g ≤ 100) ∧ bs.length ≤ 4 ∧ ∀ b ∈ bs, TreeOk n b
def clashB (cl : List ((Int × Int) × (Int × Int))) (fx : List (Option Int)) (g h : Int) : Bool := if 0 ≤ g ∧ g < h ∧ h < (fx.length : Int) then
    match fx[g.toNat]?, fx[h.toNat]? with
    | some (some a), some (some b) => D.isIn (linkD ((g, a), (h, b))) (cl.map linkD)
    | _, _ => false
  else false
def splitB (cs : List (List Int)) (f : List (Option Int) → D → Bool) (fx : List (Option Int)) (g : Int) (bs : List D) : Bool := if 0 ≤ g ∧ g < (fx.length : Int) then
    match fx[g.toNat]?, cs[g.toNat]? with
    | some none, some r => decide (bs.length = r.length) && (List.range bs.length).all fun o => f (fx.set g.toNat (some (o : Int))) (bs.getD o .non)
    | _, _ => false
  else false
def treeB (cs : List (List Int)) (cl : List ((Int × Int) × (Int × Int))) (bd : Option Int) (f : List (Option Int) → D → Bool) (fx : List (Option Int)) (d : D) : Bool := match d with
  | .tup [_] => (match bd with | none => false | some b => decide (b ≤ least cs fx))
  | .tup [_, .int g, .int h] => clashB cl fx g h
  | .tup [_, .int g, .lst bs] => splitB cs f fx g bs
  | _ => false
def isTreeN (cs : List (List Int)) (cl : List ((Int × Int) × (Int × Int))) (bd : Option Int) : Nat → List (Option Int) → D → Bool
  | 0 => treeB cs cl bd fun _ _ => false
  | n + 1 => treeB cs cl bd (isTreeN cs cl bd n)
def BdOk (bd : Option Int) : Prop := ∀ b, bd = some b → -1000 ≤ b ∧ b ≤ 1000

theorem Pl.dear : Pl 1 5 dearT := (Pl.tup (n := 0) (w := 4) (by intro x hx; simp at hx; subst hx; exact Pl.str (by decide +kernel))).mono (by decide) (by decide)
theorem Pl.clash {g h : Int} (hg : -100 ≤ g ∧ g ≤ 100) (hh : -100 ≤ h ∧ h ≤ 100) : Pl 1 36 (clashT g h) := Pl.tup (n := 0) (w := 11) (by
  intro x hx
  simp only [List.mem_cons, List.not_mem_nil, or_false] at hx
  rcases hx with rfl | rfl | rfl
  · exact (Pl.str (by decide +kernel)).mono (Nat.le_refl _) (by decide +kernel)
  · exact Pl.int (by omega) (by omega)
  · exact Pl.int (by omega) (by omega))
def tw : Nat → Nat
  | 0 => 36
  | n + 1 => 4 * (tw n + 1) + 25
theorem tw_le : ∀ n, 36 ≤ tw n
  | 0 => Nat.le_refl _
  | n + 1 => by have := tw_le n; show 36 ≤ 4 * (tw n + 1) + 25; omega
theorem Pl.tree : ∀ {n : Nat} {d : D}, TreeOk n d → Pl (2 * n + 1) (tw n) d
  | n, d, h => by
    have leaf : d = dearT ∨ (∃ g h, d = clashT g h ∧ (-100 ≤ g ∧ g ≤ 100) ∧ (-100 ≤ h ∧ h ≤ 100)) → Pl (2 * n + 1) (tw n) d := by
      have := tw_le n
      rintro (rfl | ⟨g, h, rfl, h1, h2⟩)
      · exact Pl.dear.mono (by omega) (by omega)
      · exact (Pl.clash h1 h2).mono (by omega) (by omega)
    cases n with
    | zero => exact leaf h
    | succ n =>
      rcases h with h | ⟨g, bs, rfl, h1, h2, h3⟩
      · exact leaf h
      · have q1 : Pl (2 * n + 2) 11 (.str "split") := (Pl.str (x := "split") (by decide +kernel)).mono (Nat.zero_le _) (by decide +kernel)
        have q2 : Pl (2 * n + 2) 11 (.int g) := (Pl.int (by omega) (by omega)).mono (Nat.zero_le _) (Nat.le_refl _)
        have q3 : Pl (2 * n + 2) (4 * (tw n + 1)) (.lst bs) := Pl.lstN (n := 2 * n + 1) (w := tw n) (m := 4) (v := 4 * (tw n + 1)) (fun b hb => Pl.tree (h3 b hb)) h2 (Nat.le_refl _)
        exact (Pl.tup3 q1 q2 q3).mono (by omega) (by show _ ≤ 4 * (tw n + 1) + 25; omega)
theorem Pl.pair {a b : Int} (ha : -1000 ≤ a ∧ a ≤ 1000) (hb : -1000 ≤ b ∧ b ≤ 1000) : Pl 1 24 (.tup [.int a, .int b]) := Pl.tup (n := 0) (w := 11) (by
  intro x hx
  simp only [List.mem_cons, List.not_mem_nil, or_false] at hx
  rcases hx with rfl | rfl
  · exact Pl.int (by omega) (by omega)
  · exact Pl.int (by omega) (by omega))
theorem Pl.link {q : (Int × Int) × (Int × Int)} (h : (-1000 ≤ q.1.1 ∧ q.1.1 ≤ 1000) ∧ (-1000 ≤ q.1.2 ∧ q.1.2 ≤ 1000) ∧ (-1000 ≤ q.2.1 ∧ q.2.1 ≤ 1000) ∧ (-1000 ≤ q.2.2 ∧ q.2.2 ≤ 1000)) : Pl 2 50 (linkD q) := Pl.tup (n := 1) (w := 24) (by
  intro x hx
  simp only [List.mem_cons, List.not_mem_nil, or_false] at hx
  rcases hx with rfl | rfl
  · exact Pl.pair h.1 h.2.1
  · exact Pl.pair h.2.2.1 h.2.2.2)
theorem Pl.cl {cs : List (List Int)} {cl : List ((Int × Int) × (Int × Int))} (hc : CsOk cs) (h : ClOk cs cl) : Pl 3 408 (clD cl) := Pl.lstN (n := 2) (w := 50) (m := 8) (by
  apply forall_mem_map
  intro q hq
  have := hc.2.1
  have := h.2 q hq
  exact Pl.link (by omega)) (by rw [List.length_map]; exact h.1) (by decide)
theorem Pl.costs {cs : List (List Int)} (hc : CsOk cs) : Pl 2 392 (costsD cs) := Pl.lstN (n := 1) (w := 48) (m := 8) (by
  apply forall_mem_map
  intro r hr
  have := hc.2.2 r hr
  exact Pl.lstN (n := 0) (w := 11) (m := 4) (by
    apply forall_mem_map
    intro c hc
    have := this.2.2 c hc
    exact Pl.int (by omega) (by omega)) (by rw [List.length_map]; exact this.2.1) (by decide)) (by rw [List.length_map]; exact hc.2.1) (by decide)

def sem_is_clash_leaf : Sem := fun as G => ∃ cs cl fx g h, as = [.f (clD cl), .f (optsD fx), .f (clashT g h)] ∧ CsOk cs ∧ ClOk cs cl ∧ Fits cs fx ∧ G (.fr (.bl (clashB cl fx g h))) as
theorem fits_small {cs : List (List Int)} {fx : List (Option Int)} (hc : CsOk cs) (hf : Fits cs fx) {g : Nat} {o : Int} (h : fx[g]? = some (some o)) : 0 ≤ o ∧ o < 4 := by
  have hl : g < cs.length := by
    obtain ⟨hl, _⟩ := List.getElem?_eq_some_iff.mp h
    rw [← hf.1]
    exact hl
  have := hf.2 g o _ h (List.getElem?_eq_getElem hl)
  have := (hc.2.2 _ (List.getElem_mem hl)).2.1
  omega
theorem rd_is_clash_leaf : ∀ as G, sem_is_clash_leaf as G → as.length = 3 ∧ W_is_clash_leaf sem_is_whole (retEnds as G) (enter 5 as) := by
  rintro as G ⟨cs, cl, fx, g, h, rfl, hc, hcl, hf, hG⟩
  refine ⟨rfl, ?_⟩
  show W_is_clash_leaf _ _ [.f (clD cl), .f (optsD fx), .f (clashT g h), .un, .un]
  unfold W_is_clash_leaf optsD clashT clD
  walk_at "dl"
  have e := clashB.eq_1 cl fx g h
  by_cases h1 : 0 ≤ g
  · rw [if_pos h1]
    by_cases h2 : g < h
    · rw [if_pos h2]
      by_cases h3 : h < (fx.length : Int)
      · rw [if_neg (by simp [h3])]
        rw [if_pos ⟨h1, h2, h3⟩] at e
        have ha : fx[g.toNat]? = some fx[g.toNat] := List.getElem?_eq_getElem (by omega)
        have hb : fx[h.toNat]? = some fx[h.toNat] := List.getElem?_eq_getElem (by omega)
        rw [atI_nn h1, atI_nn (by omega), List.getElem?_map, List.getElem?_map, ha, hb]
        rw [ha, hb] at e
        generalize fx[g.toNat] = a at *
        generalize fx[h.toNat] = b at *
        cases a with
        | none =>
          simp only [Option.map_some, optD, if_true]
          rw [e] at hG
          exact hG
        | some a =>
          simp only [Option.map_some, optD]
          rw [if_neg (by simp)]
          cases b with
          | none =>
            simp only [Option.map_some, optD, if_true]
            rw [e] at hG
            exact hG
          | some b =>
            simp only [Option.map_some, optD]
            rw [if_neg (by simp)]
            rw [e] at hG
            have b1 := fits_small hc hf ha
            have b2 := fits_small hc hf hb
            have b3 := hf.1
            have b4 := hc.2.1
            exact ⟨(Pl.link (q := ((g, a), (h, b))) (by simp only []; omega)).ok (by decide), (Pl.cl hc hcl).ok (by decide), hG⟩
      · rw [if_pos (by simp [h3])]
        rw [if_neg (by omega)] at e
        rw [e] at hG
        exact hG
    · rw [if_neg h2]
      rw [if_neg (by omega)] at e
      rw [e] at hG
      exact hG
  · rw [if_neg h1]
    rw [if_neg (by omega)] at e
    rw [e] at hG
    exact hG
theorem clash_eq (x y z : D) (G : R → SEnv → Prop) : sem_is_clash_leaf [.r (.fr x), .r (.fr y), .r (.fr z)] G = ∃ cs cl fx g h, x = clD cl ∧ y = optsD fx ∧ z = clashT g h ∧ CsOk cs ∧ ClOk cs cl ∧ Fits cs fx ∧ G (.fr (.bl (clashB cl fx g h))) [.r (.fr x), .r (.fr y), .r (.fr z)] := by
  apply propext
  constructor
  · rintro ⟨cs, cl, fx, g, h, q, r⟩
    cases q
    exact ⟨cs, cl, fx, g, h, rfl, rfl, rfl, r⟩
  · rintro ⟨cs, cl, fx, g, h, rfl, rfl, rfl, r⟩
    exact ⟨cs, cl, fx, g, h, rfl, r⟩
def sem_is_tree (n : Nat) : Sem := fun as G => ∃ cs cl bd fx t, as = [.f (costsD cs), .f (clD cl), .f (optD bd), .f (optsD fx), .f t] ∧ CsOk cs ∧ ClOk cs cl ∧ Fits cs fx ∧ TreeOk n t ∧ G (.fr (.bl (isTreeN cs cl bd n fx t))) as
def sem_is_split (n : Nat) : Sem := fun as G => ∃ cs cl bd fx g bs, as = [.f (costsD cs), .f (clD cl), .f (optD bd), .f (optsD fx), .f (splitT g bs)] ∧ CsOk cs ∧ ClOk cs cl ∧ Fits cs fx ∧ bs.length ≤ 4 ∧ (∀ b ∈ bs, TreeOk n b) ∧ G (.fr (.bl (splitB cs (isTreeN cs cl bd n) fx g bs))) as
def sem_is_splitP : Nat → Sem
  | 0 => fun _ _ => False
  | n + 1 => sem_is_split n
theorem fits_set {cs : List (List Int)} {fx : List (Option Int)} (hf : Fits cs fx) {g : Int} {o : Nat} {r : List Int} (h0 : 0 ≤ g) (hr : cs[g.toNat]? = some r) (ho : o < r.length) : Fits cs (fx.set g.toNat (some (o : Int))) := by
  refine ⟨by rw [List.length_set]; exact hf.1, fun i p q h1 h2 => ?_⟩
  rw [List.getElem?_set] at h1
  split at h1
  · rename_i e
    subst e
    rw [hr] at h2
    cases h2
    split at h1
    · cases h1
      omega
    · cases h1
  · exact hf.2 i p q h1 h2
theorem rd_is_split (n : Nat) : ∀ as G, sem_is_split n as G → as.length = 5 ∧ W_is_split sem_is_whole (sem_is_tree n) (retEnds as G) (enter 10 as) := by
  rintro as G ⟨cs, cl, bd, fx, g, bs, rfl, hc, hcl, hf, hbl, hbs, hG⟩
  refine ⟨rfl, ?_⟩
  show W_is_split _ _ _ [.f (costsD cs), .f (clD cl), .f (optD bd), .f (optsD fx), .f (splitT g bs), .un, .un, .un, .un, .un]
  unfold W_is_split optsD splitT costsD
  walk_at "dl"
  have e := splitB.eq_1 cs (isTreeN cs cl bd n) fx g bs
  have no : splitB cs (isTreeN cs cl bd n) fx g bs = false → G (R.fr (D.bl false))
        [Sl.r (R.fr (D.lst (List.map rowD cs))), Sl.r (R.fr (clD cl)), Sl.r (R.fr (optD bd)),
          Sl.r (R.fr (D.lst (List.map optD fx))), Sl.r (R.fr (D.tup [D.str (Str.ofString "split"), D.int g, D.lst bs]))] := by
    intro q
    rw [q] at hG
    exact hG
  by_cases h1 : 0 ≤ g
  · rw [if_pos h1]
    by_cases h2 : g < (fx.length : Int)
    · rw [if_neg (by simp [h2])]
      rw [if_pos ⟨h1, h2⟩] at e
      have hl := hf.1
      have ha : fx[g.toNat]? = some fx[g.toNat] := List.getElem?_eq_getElem (by omega)
      have hr : cs[g.toNat]? = some cs[g.toNat] := List.getElem?_eq_getElem (by omega)
      rw [atI_nn h1, atI_nn h1, List.getElem?_map, List.getElem?_map, ha, hr]
      rw [ha, hr] at e
      generalize fx[g.toNat] = a at *
      generalize cs[g.toNat] = r at *
      cases a with
      | some a =>
        simp only [Option.map_some, optD, Bool.not_false, if_true]
        exact no e
      | none =>
        simp only [Option.map_some, optD, Bool.not_true, Bool.false_eq_true, if_false]
        unfold rowD
        walk_at "dl"
        by_cases h3 : bs.length = r.length
        · rw [if_neg (by simp [h3])]
          simp only [h3, decide_true, Bool.true_and] at e
          unfold wFor
          walk_at "dl"
          refine forI_enum0 (fun i ρ => (∃ s7 s8 s9, ρ = [.f (costsD cs), .f (clD cl), .f (optD bd), .f (optsD fx), .f (splitT g bs), .f (.int g), .f (.lst bs), s7, s8, s9]) ∧ ∀ o < i, isTreeN cs cl bd n (fx.set g.toNat (some (o : Int))) (bs.getD o .non) = true) ⟨⟨_, _, _, rfl⟩, by omega⟩ ?_ ?_
          · rintro i b ρ hi ⟨⟨s7, s8, s9, rfl⟩, hall⟩
            obtain ⟨hil, hie⟩ := List.getElem?_eq_some_iff.mp hi
            unfold optsD
            walk_at "dl"
            have hcut := cut_put optD fx (some (i : Int)) h1 h2
            simp only [optD] at hcut
            rw [hcut]
            have hset := fits_set (o := i) hf h1 hr (by omega)
            have b1 := hc.2.1
            have b2 : ∀ lo hi, (DL.cutD (fx.map optD) lo hi).length ≤ 8 := by
              intro lo hi
              unfold DL.cutD
              rw [List.length_take, List.length_drop, List.length_map]
              omega
            have b3 := b2 none (some g)
            have b4 := b2 (some (g + 1)) none
            refine ⟨by omega, by simp only [List.length_append, List.length_cons, List.length_nil]; omega, cs, cl, bd, _, b, rfl, hc, hcl, hset, hbs b (List.mem_of_getElem? hi), ?_⟩
            have hget : bs.getD i .non = b := by rw [List.getD_eq_getElem?_getD, hi]; rfl
            walk_at "dl"
            cases q : isTreeN cs cl bd n (fx.set g.toNat (some (i : Int))) b with
            | false =>
              rw [if_pos (by rfl)]
              refine no ?_
              rw [e, List.all_eq_false]
              exact ⟨i, List.mem_range.mpr (by omega), by rw [hget, q]; simp⟩
            | true =>
              rw [if_neg (by simp)]
              refine ⟨⟨_, _, _, rfl⟩, fun o ho => ?_⟩
              by_cases z : o = i
              · subst z
                rw [hget]
                exact q
              · exact hall o (by omega)
          · rintro ρ ⟨⟨s7, s8, s9, rfl⟩, hall⟩
            walk_at "dl"
            have : splitB cs (isTreeN cs cl bd n) fx g bs = true := by
              rw [e, List.all_eq_true]
              intro o ho
              exact hall o (by rw [List.mem_range] at ho; omega)
            rw [this] at hG
            exact hG
        · rw [if_pos (by simp; omega)]
          simp only [h3, decide_false, Bool.false_and] at e
          exact no e
    · rw [if_pos (by simp [h2])]
      rw [if_neg (by omega)] at e
      exact no e
  · rw [if_neg h1]
    rw [if_neg (by omega)] at e
    exact no e
def treesOk (n : Nat) : D → Prop := TreeOk n
theorem treeOk_leaf {n : Nat} {d : D} (h : d = dearT ∨ ∃ g h, d = clashT g h ∧ (-100 ≤ g ∧ g ≤ 100) ∧ (-100 ≤ h ∧ h ≤ 100)) : TreeOk n d := by
  cases n with
  | zero => exact h
  | succ n => exact .inl h
theorem least_eq (x y : D) (G : R → SEnv → Prop) {cs : List (List Int)} {fx : List (Option Int)} (hc : CsOk cs) (hf : Fits cs fx) (h : G (.fr (.int (least cs fx))) [.r (.fr (costsD cs)), .r (.fr (optsD fx))]) : sem_least [.r (.fr (costsD cs)), .r (.fr (optsD fx))] G := ⟨cs, fx, rfl, hc, hf, h⟩
theorem isTreeN_dear (cs : List (List Int)) (cl : List ((Int × Int) × (Int × Int))) (bd : Option Int) (n : Nat) (fx : List (Option Int)) : isTreeN cs cl bd n fx dearT = (match bd with | none => false | some b => decide (b ≤ least cs fx)) := by cases n <;> rfl
theorem isTreeN_clash (cs : List (List Int)) (cl : List ((Int × Int) × (Int × Int))) (bd : Option Int) (n : Nat) (fx : List (Option Int)) (g h : Int) : isTreeN cs cl bd n fx (clashT g h) = clashB cl fx g h := by cases n <;> rfl
theorem rd_is_tree (n : Nat) : ∀ as G, sem_is_tree n as G → as.length = 5 ∧ W_is_tree sem_least sem_is_clash_leaf (sem_is_splitP n) (retEnds as G) (enter 5 as) := by
  rintro as G ⟨cs, cl, bd, fx, t, rfl, hc, hcl, hf, ht, hG⟩
  refine ⟨rfl, ?_⟩
  show W_is_tree _ _ _ _ [.f (costsD cs), .f (clD cl), .f (optD bd), .f (optsD fx), .f t]
  have key : (t = dearT ∨ ∃ g h, t = clashT g h ∧ (-100 ≤ g ∧ g ≤ 100) ∧ (-100 ≤ h ∧ h ≤ 100)) ∨ ∃ m g bs, n = m + 1 ∧ t = splitT g bs ∧ (0 ≤ g ∧ g ≤ 100) ∧ bs.length ≤ 4 ∧ ∀ b ∈ bs, TreeOk m b := by
    cases n with
    | zero => exact .inl ht
    | succ m =>
      rcases ht with h | ⟨g, bs, h⟩
      · exact .inl h
      · exact .inr ⟨m, g, bs, rfl, h⟩
  unfold W_is_tree
  rcases key with (rfl | ⟨g, h, rfl, h1, h2⟩) | ⟨m, g, bs, rfl, rfl, h1, h2, h3⟩
  · unfold dearT
    walk_at "dl"
    rw [isTreeN_dear] at hG
    cases bd with
    | none =>
      simp only [optD]
      walk_at "dl"
      exact hG
    | some b =>
      simp only [optD]
      walk_at "dl"
      refine ⟨cs, fx, rfl, hc, hf, ?_⟩
      walk_at "dl"
      exact hG
  · unfold clashT
    walk_at "dl"
    refine ⟨cs, cl, fx, g, h, rfl, hc, hcl, hf, ?_⟩
    walk_at "dl"
    rw [isTreeN_clash] at hG
    exact hG
  · unfold splitT
    walk_at "dl"
    refine ⟨cs, cl, bd, fx, g, bs, rfl, hc, hcl, hf, h2, h3, ?_⟩
    walk_at "dl"
    exact hG
def sem_is_treeP : Nat → Sem
  | 0 => fun _ _ => False
  | n + 1 => sem_is_tree n
theorem rd__law_tree (n : Nat) : ∀ as G, sem_is_tree n as G → as.length = 5 ∧ W__law_tree sem_least sem_is_whole (sem_is_treeP n) (retEnds as G) (enter 8 as) := by
  rintro as G ⟨cs, cl, bd, fx, t, rfl, hc, hcl, hf, ht, hG⟩
  refine ⟨rfl, ?_⟩
  show W__law_tree _ _ _ _ [.f (costsD cs), .f (clD cl), .f (optD bd), .f (optsD fx), .f t, .un, .un, .un]
  have key : (t = dearT ∨ ∃ g h, t = clashT g h ∧ (-100 ≤ g ∧ g ≤ 100) ∧ (-100 ≤ h ∧ h ≤ 100)) ∨ ∃ m g bs, n = m + 1 ∧ t = splitT g bs ∧ (0 ≤ g ∧ g ≤ 100) ∧ bs.length ≤ 4 ∧ ∀ b ∈ bs, TreeOk m b := by
    cases n with
    | zero => exact .inl ht
    | succ m =>
      rcases ht with h | ⟨g, bs, h⟩
      · exact .inl h
      · exact .inr ⟨m, g, bs, rfl, h⟩
  unfold W__law_tree
  rcases key with (rfl | ⟨g, h, rfl, h1, h2⟩) | ⟨m, g, bs, rfl, rfl, h1, h2, h3⟩
  · unfold dearT
    walk_at "dl"
    rw [isTreeN_dear] at hG
    cases bd with
    | none =>
      simp only [optD]
      walk_at "dl"
      exact hG
    | some b =>
      simp only [optD]
      walk_at "dl"
      refine ⟨cs, fx, rfl, hc, hf, ?_⟩
      walk_at "dl"
      exact hG
  · unfold clashT costsD clD optsD
    walk_at "dl"
    rw [isTreeN_clash] at hG
    have e := clashB.eq_1 cl fx g h
    have no : clashB cl fx g h = false → G (R.fr (D.bl false)) [Sl.r (R.fr (D.lst (List.map rowD cs))), Sl.r (R.fr (D.lst (List.map linkD cl))), Sl.r (R.fr (optD bd)), Sl.r (R.fr (D.lst (List.map optD fx))), Sl.r (R.fr (D.tup [D.str (Str.ofString "clash"), D.int g, D.int h]))] := by
      intro q
      rw [q] at hG
      exact hG
    have hl := hf.1
    by_cases z1 : 0 ≤ g
    · rw [if_pos z1]
      by_cases z2 : g < (cs.length : Int)
      · rw [if_neg (by simp [z2])]
        by_cases z3 : g < h
        · rw [if_pos z3]
          by_cases z4 : h < (cs.length : Int)
          · rw [if_neg (by simp [z4])]
            rw [if_pos (by omega)] at e
            have ha : fx[g.toNat]? = some fx[g.toNat] := List.getElem?_eq_getElem (by omega)
            have hb : fx[h.toNat]? = some fx[h.toNat] := List.getElem?_eq_getElem (by omega)
            rw [atI_nn z1, atI_nn (by omega), List.getElem?_map, List.getElem?_map, ha, hb]
            rw [ha, hb] at e
            generalize fx[g.toNat] = a at *
            generalize fx[h.toNat] = b at *
            cases a with
            | none =>
              simp only [Option.map_some, optD, if_true]
              exact no e
            | some a =>
              cases b with
              | none =>
                simp only [Option.map_some, optD]
                simp only [Bool.false_eq_true, if_false, if_true]
                exact no e
              | some b =>
                simp only [Option.map_some, optD]
                simp only [Bool.false_eq_true, if_false, if_true]
                rw [e] at hG
                have b1 := fits_small hc hf ha
                have b2 := fits_small hc hf hb
                have b4 := hc.2.1
                exact ⟨(Pl.link (q := ((g, a), (h, b))) (by simp only []; omega)).ok (by decide), (Pl.cl hc hcl).ok (by decide), hG⟩
          · rw [if_pos (by simp [z4])]
            rw [if_neg (by omega)] at e
            exact no e
        · rw [if_neg z3]
          rw [if_neg (by omega)] at e
          exact no e
      · rw [if_pos (by simp [z2])]
        rw [if_neg (by omega)] at e
        exact no e
    · rw [if_neg z1]
      rw [if_neg (by omega)] at e
      exact no e
  · unfold splitT costsD optsD
    walk_at "dl"
    have e := splitB.eq_1 cs (isTreeN cs cl bd m) fx g bs
    have no : splitB cs (isTreeN cs cl bd m) fx g bs = false → G (R.fr (D.bl false)) [Sl.r (R.fr (D.lst (List.map rowD cs))), Sl.r (R.fr (clD cl)), Sl.r (R.fr (optD bd)), Sl.r (R.fr (D.lst (List.map optD fx))), Sl.r (R.fr (D.tup [D.str (Str.ofString "split"), D.int g, D.lst bs]))] := by
      intro q
      rw [show isTreeN cs cl bd (m + 1) fx (splitT g bs) = false from q] at hG
      exact hG
    have hl := hf.1
    by_cases z1 : 0 ≤ g
    · rw [if_pos z1]
      by_cases z2 : g < (cs.length : Int)
      · rw [if_neg (by simp [z2])]
        rw [if_pos (by omega)] at e
        have ha : fx[g.toNat]? = some fx[g.toNat] := List.getElem?_eq_getElem (by omega)
        have hr : cs[g.toNat]? = some cs[g.toNat] := List.getElem?_eq_getElem (by omega)
        rw [atI_nn z1, atI_nn z1, List.getElem?_map, List.getElem?_map, ha, hr]
        rw [ha, hr] at e
        generalize fx[g.toNat] = a at *
        generalize cs[g.toNat] = r at *
        cases a with
        | some a =>
          simp only [Option.map_some, optD, Bool.not_false, if_true]
          exact no e
        | none =>
          simp only [Option.map_some, optD, Bool.not_true, Bool.false_eq_true, if_false]
          unfold rowD
          walk_at "dl"
          by_cases z3 : bs.length = r.length
          · rw [if_neg (by simp [z3])]
            simp only [z3, decide_true, Bool.true_and] at e
            unfold wFor
            walk_at "dl"
            refine ⟨by omega, ?_⟩
            rw [Int.toNat_natCast]
            refine forI_range (fun i ρ => (∃ s5, ρ = [.f (costsD cs), .f (clD cl), .f (optD bd), .f (optsD fx), .f (splitT g bs), s5, .f (.int g), .f (.lst bs)]) ∧ ∀ o < i, isTreeN cs cl bd m (fx.set g.toNat (some (o : Int))) (bs.getD o .non) = true) ⟨⟨_, rfl⟩, by omega⟩ ?_ ?_
            · rintro i ρ hi ⟨⟨s5, rfl⟩, hall⟩
              obtain ⟨b, hib⟩ : ∃ b, bs[i]? = some b := ⟨_, List.getElem?_eq_getElem hi⟩
              unfold optsD
              walk_at "dl"
              have hcut := cut_put optD fx (some (i : Int)) z1 (by omega)
              simp only [optD] at hcut
              rw [hcut, atI_ofNat, hib]
              have hset := fits_set (o := i) hf z1 hr (by omega)
              have b1 := hc.2.1
              have b2 : ∀ lo hi, (DL.cutD (fx.map optD) lo hi).length ≤ 8 := by
                intro lo hi
                unfold DL.cutD
                rw [List.length_take, List.length_drop, List.length_map]
                omega
              have b3 := b2 none (some g)
              have b4 := b2 (some (g + 1)) none
              refine ⟨by omega, by simp only [List.length_append, List.length_cons, List.length_nil]; omega, cs, cl, bd, _, b, rfl, hc, hcl, hset, h3 b (List.mem_of_getElem? hib), ?_⟩
              have hget : bs.getD i .non = b := by rw [List.getD_eq_getElem?_getD, hib]; rfl
              walk_at "dl"
              cases q : isTreeN cs cl bd m (fx.set g.toNat (some (i : Int))) b with
              | false =>
                rw [if_pos (by rfl)]
                refine no ?_
                rw [e, List.all_eq_false]
                exact ⟨i, List.mem_range.mpr (by omega), by rw [hget, q]; simp⟩
              | true =>
                rw [if_neg (by simp)]
                refine ⟨⟨_, rfl⟩, fun o ho => ?_⟩
                by_cases z : o = i
                · subst z
                  rw [hget]
                  exact q
                · exact hall o (by omega)
            · rintro ρ ⟨⟨s5, rfl⟩, hall⟩
              walk_at "dl"
              have : splitB cs (isTreeN cs cl bd m) fx g bs = true := by
                rw [e, List.all_eq_true]
                intro o ho
                exact hall o (by rw [List.mem_range] at ho; omega)
              rw [show isTreeN cs cl bd (m + 1) fx (splitT g bs) = true from this] at hG
              exact hG
          · rw [if_pos (by simp; omega)]
            simp only [z3, decide_false, Bool.false_and] at e
            exact no e
      · rw [if_pos (by simp [z2])]
        rw [if_neg (by omega)] at e
        exact no e
    · rw [if_neg z1]
      rw [if_neg (by omega)] at e
      exact no e
end K59
set_option Elab.async false
set_option linter.all false
set_option maxRecDepth 100000
set_option maxHeartbeats 4000000
namespace K59
open PySem PySem.Spec PyProof.Rows L2 Evl DL
local macro_rules | `(tactic| walk_at "dl") => `(tactic| simp (config := {maxSteps := 400000}) only [wRet, wRetN, wSeq, wAsg, wAsgT, wIfS, wDrop, wApp, wSetI, wAugN, wAugI, wNext, wTb, wTt, wTtV, wAndT, wOrT, wNotT, wAndV, wOrV, wNotV, wIf, wOp, wOpV, wOpW, wOpVV, wVar, wC, wFz, wR, wGive, wChain, wChain3, wTup, wLst, wSl, wSlV, wNoPart, wPart, wCB, wCall, waNil, waSl, waDa, wIsi, wIsiV, wNeg, wBM, wBMV, wIL, wIT, wIE, wIR1, wIR2, peek, ↓peeks_0, ↓peeks_1, ↓peeks_2, isSet, isO, atO, putO, onL, onB, onT, onI, ↓allD_0, ↓allD_1, ↓toArgs_0, ↓toArgs_1, ↓toArgs_2, toArgs, ↓putBack_0, ↓putBack_1, ↓putBack_2, putBack, ndA, fAdd, fMul, fI0, fI, fIx, fSl, fEq, fNe, fIn, fNotIn, fIsN, fNotN, fIsB, fNotB, fLen, fAbs, fInt, fList, fTuple, R.d, O.d, Sl.put, gdName, gdTup, gdCons, gdNil, retEnds, wBack, D.isNon, D.truth, List.getElem?_cons_zero, List.getElem?_cons_succ, List.set_cons_zero, List.set_cons_succ, List.length_cons, List.length_nil, true_and, and_true, if_true, if_false, Bool.not_true, Bool.not_false, D.ok_int, D.ok_bl, D.ok_non, D.eqv_int, D.eqv_bl, decide_eq_true_eq, Bool.false_eq_true, ↓reduceIte, fSub, fDiv, fMod, fPow, fLt, fLe, fGt, fGe, atI_lit, ↓setD_lit, List.getElem?_nil, List.length_set, List.length_map, Nat.reduceAdd, Nat.reduceLT, Nat.reduceSub, Int.reduceLT, Int.reduceLE, Int.reduceToNat, Int.reducePow, Int.reduceNeg, Int.reduceAdd, Int.reduceSub, Int.reduceMul, Int.reduceEq, Nat.reduceEqDiff, Nat.succ_eq_add_one, decide_true, decide_false, Bool.and_true, Bool.true_and, Bool.and_false, Bool.false_and, and_self, false_and, and_false, sizeLine_eq, Nat.reduceLeDiff, isTb, isTn, String.reduceBEq, Bool.or_true, Bool.true_or, Bool.or_false, Bool.false_or, Bool.false_and, D.notIns, ofString_inj, String.reduceEq, ok_lit, D.eqv_str, cut1, sIx_lit, sIx_none, Nat.min_def, not_false_eq_true, not_true_eq_false, Nat.one_ne_zero, reduceCtorEq, Int.cast_ofNat_Int, Int.natCast_zero, true_or, or_true, D.isStr, List.all_cons, List.all_nil, Nat.reduceBNe, Bool.and_self, ↓draw_eq, ↓whole_eq, whole_int, notIns_int])
local macro_rules | `(tactic| walk_at "x") => `(tactic| simp (config := {maxSteps := 400000}) only [↓xwOp, ↓xpeek, ↓xwOpV, ↓xwOpW, ↓xwOpVV, ↓xwVar, ↓xwGive, ↓xtoArgs, ↓xputBack, ↓xwCall, ↓xwTb, ↓xonT, ↓xwAndT, ↓xwOrT, ↓xwAndV, ↓xwOrV, ↓xwNotV, ↓xwIf, ↓xwChain, ↓xwChain3, ↓xwPart, ↓xwSl, ↓xwSlV, ↓xwCB, ↓xwIfS, ↓xgdTup, ↓xatO, ↓xwSetI, ↓xwAugN, ↓xwIL, ↓xwIT, ↓xwFor, ↓xwLc, ↓xwBM, ↓xwBMV, ↓xwNeg, wRet, wRetN, wSeq, wAsg, wAsgT, wDrop, wApp, wAugI, wNext, wTt, wTtV, wNotT, wC, wFz, wR, wTup, wLst, wNoPart, waNil, waSl, waDa, wIsi, wIsiV, wIE, wIR1, wIR2, ↓peeks_0, ↓peeks_1, ↓peeks_2, isSet, isO, putO, onL, ↓allD_0, ↓allD_1, ↓toArgs_0, ↓toArgs_2, ↓putBack_0, ↓putBack_2, ndA, R.d, O.d, Sl.put, gdName, gdCons, gdNil, retEnds, wBack, D.isNon, D.truth, List.getElem?_cons_zero, List.getElem?_cons_succ, List.set_cons_zero, List.set_cons_succ, List.length_cons, List.length_nil, true_and, and_true, if_true, if_false, Bool.not_true, Bool.not_false, D.ok_int, D.ok_bl, D.ok_non, D.eqv_int, D.eqv_bl, decide_eq_true_eq, Bool.false_eq_true, ↓reduceIte, atI_lit, List.getElem?_nil, List.length_set, List.length_map, Nat.reduceAdd, Nat.reduceLT, Nat.reduceSub, Int.reduceLT, Int.reduceLE, Int.reduceToNat, Int.reducePow, Int.reduceNeg, Int.reduceAdd, Int.reduceSub, Int.reduceMul, Int.reduceEq, Nat.reduceEqDiff, Nat.succ_eq_add_one, decide_true, decide_false, Bool.and_true, Bool.true_and, Bool.and_false, Bool.false_and, and_self, false_and, and_false, sizeLine_eq, Nat.reduceLeDiff, isTb, isTn, String.reduceBEq, Bool.or_true, Bool.true_or, Bool.or_false, Bool.false_or, D.notIns, ofString_inj, String.reduceEq, ok_lit, D.eqv_str, cut1, sIx_lit, sIx_none, Nat.min_def, not_false_eq_true, not_true_eq_false, Nat.one_ne_zero, reduceCtorEq, Int.cast_ofNat_Int, Int.natCast_zero, true_or, or_true, D.isStr, List.all_cons, List.all_nil, Nat.reduceBNe, Bool.and_self, kO_some, kO_none, kB_true, kB_false, kB_not, kBl_bl, kI_int, kL_lst, kT_tup, kD_fI0, kD_fI, kD_addI, kD_addS, kD_addL, kD_mulI, kD_mulL, kD_ixL, kD_ixT, kD_ixS, kD_eq, kD_ne, kD_in, kD_notIn, kD_isN, kD_notN, kD_isB, kD_notB, k1_lenL, k1_lenT, k1_lenS, k1_abs, k1_int, k1_max2, k1_min2, k1_sum, k1_min, k1_max, k1_sorted, k1_listL, k1_listT, k1_listR, k1_tupleL, k1_tupleT, k1_strI, k1_strS, k1_repr, kSl_L, kSl_S, kSl_T, kSet_lit, wWhile, okS, wipeS, restS, wYes, ofT, kS_draw, Option.map_some])
/-! ### the program's own way in, the law's makers -/
def nones (cs : List (List Int)) : List (Option Int) := List.replicate cs.length none
theorem fits_nones (cs : List (List Int)) : Fits cs (nones cs) := ⟨List.length_replicate, fun g o r h _ => by
  unfold nones at h
  rw [List.getElem?_replicate] at h
  split at h <;> cases h⟩
def sem_shows (n : Nat) : Sem := fun as G => ∃ cs cl bd t, as = [.f (costsD cs), .f (clD cl), .f (optD bd), .f t] ∧ CsOk cs ∧ ClOk cs cl ∧ TreeOk n t ∧ G (.fr (.bl (isTreeN cs cl bd n (nones cs) t))) as
theorem rep_nones (n : Nat) : (List.replicate n [D.non]).flatten = (List.replicate n (none : Option Int)).map optD := by
  induction n with
  | zero => rfl
  | succ n ih => rw [List.replicate_succ, List.flatten_cons, ih, List.replicate_succ, List.map_cons]; rfl
theorem rd_shows_tree (n : Nat) : ∀ as G, sem_shows n as G → as.length = 4 ∧ W_shows_tree sem_is_whole (sem_is_tree n) (retEnds as G) (enter 4 as) := by
  rintro as G ⟨cs, cl, bd, t, rfl, hc, hcl, ht, hG⟩
  refine ⟨rfl, ?_⟩
  show W_shows_tree _ _ _ [.f (costsD cs), .f (clD cl), .f (optD bd), .f t]
  have hl := hc.2.1
  have e : (List.replicate (cs.length) [D.non]).flatten = (nones cs).map optD := rep_nones _
  unfold W_shows_tree costsD
  cases bd with
  | none =>
    simp only [optD]
    walk_at "dl"
    rw [Int.toNat_natCast, e]
    refine ⟨⟨by omega, by omega, by omega⟩, cs, cl, none, nones cs, t, rfl, hc, hcl, fits_nones cs, ht, ?_⟩
    walk_at "dl"
    exact hG
  | some b =>
    simp only [optD]
    walk_at "dl"
    rw [Int.toNat_natCast, e]
    refine ⟨⟨by omega, by omega, by omega⟩, cs, cl, some b, nones cs, t, rfl, hc, hcl, fits_nones cs, ht, ?_⟩
    walk_at "dl"
    exact hG
def sem_cheap : Sem := fun as G => ∃ r : List Int, as = [.f (rowD r)] ∧ 0 < r.length ∧ ∀ j : Nat, j < r.length → G (.fr (.int (j : Int))) as
theorem first_at {x : Int} : ∀ {r : List Int}, x ∈ r → ∃ j : Nat, r[j]? = some x ∧ ∀ m : Nat, m < j → r[m]? ≠ some x
  | [], h => by cases h
  | y :: r, h => by
    by_cases e : y = x
    · exact ⟨0, by rw [e]; rfl, fun m hm => absurd hm (Nat.not_lt_zero _)⟩
    · rcases List.mem_cons.mp h with h | h
      · exact absurd h.symm e
      · obtain ⟨j, h1, h2⟩ := first_at h
        refine ⟨j + 1, by simpa using h1, fun m hm => ?_⟩
        cases m with
        | zero => simpa using e
        | succ m => simpa using h2 m (by omega)
theorem rd__law_cheap : ∀ as G, sem_cheap as G → as.length = 1 ∧ W__law_cheap (retEnds as G) (enter 1 as) := by
  rintro as G ⟨r, rfl, hr, hG⟩
  refine ⟨rfl, ?_⟩
  show W__law_cheap _ [.f (rowD r)]
  unfold W__law_cheap rowD
  walk_at "dl"
  obtain ⟨j, h1, h2⟩ := first_at (minI_mem (ns := r) (by intro z; subst z; simp at hr))
  refine ⟨rfl, r, rfl, hr, r, rfl, j, h1, h2, ?_⟩
  exact hG j (List.getElem?_eq_some_iff.mp h1).1
def sem_costs : Sem := fun as G => ∃ o, as = [.io o] ∧ FeedOk o ∧ ∀ cs o', CsOk cs → FeedOk o' → G (.ow (.lst (cs.map rowD))) [.io o']
theorem rd__law_costs : ∀ as G, sem_costs as G → as.length = 1 ∧ W__law_costs sem_draw (retEnds as G) (enter 5 as) := by
  rintro as G ⟨o, rfl, ho, hG⟩
  refine ⟨rfl, ?_⟩
  show W__law_costs _ _ [.io o, .un, .un, .un, .un]
  unfold W__law_costs
  walk_at "dl"
  unfold wFor
  walk_at "dl"
  refine ⟨ho, fun t o1 ht0 ht1 ho1 => ?_⟩
  refine ⟨by omega, ?_⟩
  refine forI_range (fun i ρ => ∃ o cs s2 d3, FeedOk o ∧ ρ = [.io o, .w (.lst (cs.map rowD)), s2, d3, .un] ∧ cs.length = i ∧ ∀ r ∈ cs, 0 < r.length ∧ r.length ≤ 4 ∧ ∀ c ∈ r, 0 ≤ c ∧ c ≤ 100) ⟨o1, [], _, _, ho1, rfl, rfl, by simp⟩ ?_ ?_
  · rintro i ρ hi ⟨o2, cs, s2, s3, ho2, rfl, hl, hcs⟩
    walk_at "dl"
    refine ⟨ho2, fun t2 o3 h20 h21 ho3 => ?_⟩
    have ht2 : t2 = 0 ∨ t2 = 1 ∨ t2 = 2 := by omega
    have : ∃ most : Int, atI [D.int 2, D.int 10, D.int 100] t2 = some (.int most) ∧ 0 < most ∧ most ≤ 100 := by
      rcases ht2 with rfl | rfl | rfl
      · exact ⟨2, rfl, by omega, by omega⟩
      · exact ⟨10, rfl, by omega, by omega⟩
      · exact ⟨100, rfl, by omega, by omega⟩
    obtain ⟨most, hm, hm0, hm1⟩ := this
    rw [hm]
    walk_at "dl"
    unfold wLc
    walk_at "dl"
    refine ⟨ho3, fun t4 o4 h40 h41 ho4 => ?_⟩
    refine ⟨by omega, rfl, ?_, ?_⟩
    · rw [rangeD_len]
      exact lt_line (by omega)
    refine lcI_range (fun j acc ρ => ∃ o r s2, FeedOk o ∧ acc = r.map D.int ∧ r.length = j ∧ (∀ c ∈ r, 0 ≤ c ∧ c ≤ 100) ∧ ρ = [.io o, .w (.lst (cs.map rowD)), s2, .f (.int most), .un]) ⟨o4, [], _, ho4, rfl, rfl, by simp, rfl⟩ ?_ ?_
    · rintro j acc ρ hj ⟨o5, r, s2, ho5, rfl, hrl, hr, rfl⟩
      simp only [wYes, wipeS]
      walk_at "dl"
      refine ⟨ho5, hm0, by omega, fun c o6 hc0 hc1 ho6 => ?_⟩
      refine ⟨o6, r ++ [c], _, ho6, by simp, by simp [hrl], ?_, rfl⟩
      intro z hz
      rcases List.mem_append.mp hz with h | h
      · exact hr z h
      · simp at h
        subst h
        omega
    · rintro acc ρ ⟨o5, r, s2, ho5, rfl, hrl, hr, rfl⟩
      simp only [restS]
      walk_at "dl"
      have em : cs.map rowD ++ [rowD r] = (cs ++ [r]).map rowD := by simp
      refine ⟨by omega, o5, cs ++ [r], _, _, ho5, congrArg (fun z => [Sl.io o5, .w (.lst z), _, _, .un]) em, by simp [hl], ?_⟩
      intro z hz
      rcases List.mem_append.mp hz with h | h
      · exact hcs z h
      · simp at h
        subst h
        exact ⟨by omega, by omega, hr⟩
  · rintro ρ ⟨o2, cs, s2, s3, ho2, rfl, hl, hcs⟩
    walk_at "dl"
    exact hG cs o2 ⟨by omega, by omega, hcs⟩ ho2
end K59
set_option Elab.async false
set_option linter.all false
set_option maxRecDepth 100000
set_option maxHeartbeats 4000000
namespace K59
open PySem PySem.Spec PyProof.Rows L2 Evl DL
theorem kS_whole (d : D) (k : R → SEnv → Prop) (t : Tok k) : kS sem_is_whole [.r (.fr d)] k t = (d.notIns = true ∧ k (.fr (.bl (isWhole d))) [.r (.fr d)]) := whole_eq d k
theorem kS_cheap (r : List Int) (k : R → SEnv → Prop) (t : Tok k) : kS sem_cheap [.r (.fr (.lst (r.map D.int)))] k t = (0 < r.length ∧ ∀ j : Nat, j < r.length → k (.fr (.int (j : Int))) [.r (.fr (.lst (r.map D.int)))]) := by
  apply propext
  constructor
  · rintro ⟨r', q, h⟩
    simp only [rowD, List.cons.injEq, Sl.r.injEq, R.fr.injEq, D.lst.injEq, and_true] at q
    have e := mapInt_inj q
    subst e
    exact h
  · intro h
    exact ⟨r, rfl, h⟩
local macro_rules | `(tactic| walk_at "dl") => `(tactic| simp (config := {maxSteps := 400000}) only [wRet, wRetN, wSeq, wAsg, wAsgT, wIfS, wDrop, wApp, wSetI, wAugN, wAugI, wNext, wTb, wTt, wTtV, wAndT, wOrT, wNotT, wAndV, wOrV, wNotV, wIf, wOp, wOpV, wOpW, wOpVV, wVar, wC, wFz, wR, wGive, wChain, wChain3, wTup, wLst, wSl, wSlV, wNoPart, wPart, wCB, wCall, waNil, waSl, waDa, wIsi, wIsiV, wNeg, wBM, wBMV, wIL, wIT, wIE, wIR1, wIR2, peek, ↓peeks_0, ↓peeks_1, ↓peeks_2, isSet, isO, atO, putO, onL, onB, onT, onI, ↓allD_0, ↓allD_1, ↓toArgs_0, ↓toArgs_1, ↓toArgs_2, toArgs, ↓putBack_0, ↓putBack_1, ↓putBack_2, putBack, ndA, fAdd, fMul, fI0, fI, fIx, fSl, fEq, fNe, fIn, fNotIn, fIsN, fNotN, fIsB, fNotB, fLen, fAbs, fInt, fList, fTuple, R.d, O.d, Sl.put, gdName, gdTup, gdCons, gdNil, retEnds, wBack, D.isNon, D.truth, List.getElem?_cons_zero, List.getElem?_cons_succ, List.set_cons_zero, List.set_cons_succ, List.length_cons, List.length_nil, true_and, and_true, if_true, if_false, Bool.not_true, Bool.not_false, D.ok_int, D.ok_bl, D.ok_non, D.eqv_int, D.eqv_bl, decide_eq_true_eq, Bool.false_eq_true, ↓reduceIte, fSub, fDiv, fMod, fPow, fLt, fLe, fGt, fGe, atI_lit, ↓setD_lit, List.getElem?_nil, List.length_set, List.length_map, Nat.reduceAdd, Nat.reduceLT, Nat.reduceSub, Int.reduceLT, Int.reduceLE, Int.reduceToNat, Int.reducePow, Int.reduceNeg, Int.reduceAdd, Int.reduceSub, Int.reduceMul, Int.reduceEq, Nat.reduceEqDiff, Nat.succ_eq_add_one, decide_true, decide_false, Bool.and_true, Bool.true_and, Bool.and_false, Bool.false_and, and_self, false_and, and_false, sizeLine_eq, Nat.reduceLeDiff, isTb, isTn, String.reduceBEq, Bool.or_true, Bool.true_or, Bool.or_false, Bool.false_or, Bool.false_and, D.notIns, ofString_inj, String.reduceEq, ok_lit, D.eqv_str, cut1, sIx_lit, sIx_none, Nat.min_def, not_false_eq_true, not_true_eq_false, Nat.one_ne_zero, reduceCtorEq, Int.cast_ofNat_Int, Int.natCast_zero, true_or, or_true, D.isStr, List.all_cons, List.all_nil, Nat.reduceBNe, Bool.and_self])
local macro_rules | `(tactic| walk_at "x") => `(tactic| simp (config := {maxSteps := 400000, dsimp := false}) only [↓xwOp, ↓xpeek, ↓xwOpV, ↓xwOpW, ↓xwOpVV, ↓xwVar, ↓xwGive, ↓xtoArgs, ↓xputBack, ↓xwCall, ↓xwTb, ↓xonT, ↓xwAndT, ↓xwOrT, ↓xwAndV, ↓xwOrV, ↓xwNotV, ↓xwIf, ↓xwChain, ↓xwChain3, ↓xwPart, ↓xwSl, ↓xwSlV, ↓xwCB, ↓xwIfS, ↓xgdTup, ↓xatO, ↓xwSetI, ↓xwAugN, ↓xwIL, ↓xwIT, ↓xwFor, ↓xwLc, ↓xwBM, ↓xwBMV, ↓xwNeg, wRet, wRetN, wSeq, wAsg, wAsgT, wDrop, wApp, wAugI, wNext, wTt, wTtV, wNotT, wC, wFz, wR, wTup, wLst, wNoPart, waNil, waSl, waDa, wIsi, wIsiV, wIE, wIR1, wIR2, ↓peeks_0, ↓peeks_1, ↓peeks_2, isSet, isO, putO, onL, ↓allD_0, ↓allD_1, ↓toArgs_0, ↓toArgs_2, ↓putBack_0, ↓putBack_2, ndA, R.d, O.d, Sl.put, gdName, gdCons, gdNil, retEnds, wBack, D.isNon, D.truth, List.getElem?_cons_zero, List.getElem?_cons_succ, List.set_cons_zero, List.set_cons_succ, List.length_cons, List.length_nil, true_and, and_true, if_true, if_false, Bool.not_true, Bool.not_false, D.ok_int, D.ok_bl, D.ok_non, D.eqv_int, D.eqv_bl, decide_eq_true_eq, Bool.false_eq_true, ↓reduceIte, atI_lit, List.getElem?_nil, List.length_set, List.length_map, Nat.reduceAdd, Nat.reduceLT, Nat.reduceSub, Int.reduceLT, Int.reduceLE, Int.reduceToNat, Int.reducePow, Int.reduceNeg, Int.reduceAdd, Int.reduceSub, Int.reduceMul, Int.reduceEq, Nat.reduceEqDiff, Nat.succ_eq_add_one, decide_true, decide_false, Bool.and_true, Bool.true_and, Bool.and_false, Bool.false_and, and_self, false_and, and_false, sizeLine_eq, Nat.reduceLeDiff, isTb, isTn, String.reduceBEq, Bool.or_true, Bool.true_or, Bool.or_false, Bool.false_or, D.notIns, ofString_inj, String.reduceEq, ok_lit, D.eqv_str, cut1, sIx_lit, sIx_none, Nat.min_def, not_false_eq_true, not_true_eq_false, Nat.one_ne_zero, reduceCtorEq, Int.cast_ofNat_Int, Int.natCast_zero, true_or, or_true, D.isStr, List.all_cons, List.all_nil, Nat.reduceBNe, Bool.and_self, kO_some, kO_none, kB_true, kB_false, kB_not, kBl_bl, kI_int, kL_lst, kT_tup, kD_fI0, kD_fI, kD_addI, kD_addS, kD_addL, kD_mulI, kD_mulL, kD_ixL, kD_ixT, kD_ixS, kD_eq, kD_ne, kD_in, kD_notIn, kD_isN, kD_notN, kD_isB, kD_notB, k1_lenL, k1_lenT, k1_lenS, k1_abs, k1_int, k1_max2, k1_min2, k1_sum, k1_min, k1_max, k1_sorted, k1_listL, k1_listT, k1_listR, k1_tupleL, k1_tupleT, k1_strI, k1_strS, k1_repr, kSl_L, kSl_S, kSl_T, kSet_lit, wWhile, okS, wipeS, restS, wYes, ofT, kS_draw, Option.map_some, List.map_cons, List.map_nil, eq_self, D.isSeq, kS_cheap, kS_whole, whole_int, notIns_int])
def sem_clashes : Sem := fun as G => ∃ o cs g h, as = [.io o, .f (costsD cs), .f (.int g), .f (.int h)] ∧ FeedOk o ∧ CsOk cs ∧ 2 ≤ cs.length ∧ (0 ≤ g ∧ g < h ∧ h < (cs.length : Int)) ∧
  ∀ cl o', ClOk cs cl → FeedOk o' → G (.ow (.lst (cl.map linkD))) [.io o', .f (costsD cs), .f (.int g), .f (.int h)]
theorem row_get {cs : List (List Int)} {g : Int} (h0 : 0 ≤ g) (h : g < (cs.length : Int)) : ∃ r, cs[g.toNat]? = some r ∧ r ∈ cs ∧ atI (cs.map rowD) g = some (.lst (r.map D.int)) := by
  have e : cs[g.toNat]? = some cs[g.toNat] := List.getElem?_eq_getElem (by omega)
  exact ⟨_, e, List.getElem_mem (by omega), by rw [atI_nn h0, row_at, e]; rfl⟩
theorem rd__law_clashes : ∀ as G, sem_clashes as G → as.length = 4 ∧ W__law_clashes sem_cheap sem_draw (retEnds as G) (enter 8 as) := by
  rintro as G ⟨o, cs, g, h, rfl, ho, hc, hl2, ⟨g0, gh, h1⟩, hG⟩
  refine ⟨rfl, ?_⟩
  show W__law_clashes _ _ _ [.io o, .f (costsD cs), .f (.int g), .f (.int h), .un, .un, .un, .un]
  unfold W__law_clashes costsD
  have hl := hc.2.1
  obtain ⟨rg, e1, m1, e2⟩ := row_get (cs := cs) (g := g) (by omega) (by omega)
  obtain ⟨rh, e3, m3, e4⟩ := row_get (cs := cs) (g := h) (by omega) (by omega)
  obtain ⟨b1, b2, b3⟩ := hc.2.2 rg m1
  obtain ⟨b4, b5, b6⟩ := hc.2.2 rh m3

  walk_at "x"
  rw [e2]
  walk_at "x"
  refine ⟨b1, fun j hj => ?_⟩
  rw [e4]
  walk_at "x"
  refine ⟨b4, fun j2 hj2 => ?_⟩
  refine ⟨ho, fun t o1 ht0 ht1 ho1 => ?_⟩
  refine ⟨by omega, ?_⟩
  refine kF_range (fun i ρ => ∃ o cl s5 s6 s7, FeedOk o ∧ ρ = [.io o, .f (costsD cs), .f (.int g), .f (.int h), .w (.lst (cl.map linkD)), s5, s6, s7] ∧ cl.length = i + 1 ∧ ∀ q ∈ cl, (0 ≤ q.1.1 ∧ q.1.1 < (cs.length : Int) ∧ 0 ≤ q.1.2 ∧ q.1.2 ≤ 100) ∧ (0 ≤ q.2.1 ∧ q.2.1 < (cs.length : Int) ∧ 0 ≤ q.2.2 ∧ q.2.2 ≤ 100))
    ⟨o1, [((g, (j : Int)), (h, (j2 : Int)))], _, _, _, ho1, rfl, rfl, by intro q hq; simp only [List.mem_cons, List.not_mem_nil, or_false] at hq; subst hq; simp only []; omega⟩ ?_ ?_
  · rintro i ρ hi ⟨o2, cl, s5, s6, s7, ho2, rfl, hcl, hq⟩
    unfold costsD
    walk_at "x"
    refine ⟨ho2, by omega, by omega, fun x o3 hx0 hx1 ho3 => ?_⟩
    refine ⟨ho3, by omega, by omega, fun y o4 hy0 hy1 ho4 => ?_⟩
    obtain ⟨rx, e5, m5, e6⟩ := row_get (cs := cs) (g := x) (by omega) (by omega)
    obtain ⟨c1, c2, c3⟩ := hc.2.2 rx m5
    obtain ⟨ry, e7, m7, e8⟩ := row_get (cs := cs) (g := x + 1 + y) (by omega) (by omega)
    obtain ⟨d1, d2, d3⟩ := hc.2.2 ry m7

    rw [e6]
    walk_at "x"
    refine ⟨ho4, by omega, by omega, fun a o5 ha0 ha1 ho5 => ?_⟩
    rw [e8]
    walk_at "x"
    refine ⟨ho5, by omega, by omega, fun b o6 hb0 hb1 ho6 => ?_⟩
    have em : cl.map linkD ++ [linkD ((x, a), (x + 1 + y, b))] = (cl ++ [((x, a), (x + 1 + y, b))]).map linkD := by simp
    refine ⟨by omega, o6, cl ++ [((x, a), (x + 1 + y, b))], _, _, _, ho6, congrArg (fun z => [Sl.io o6, .f (costsD cs), .f (.int g), .f (.int h), .w (.lst z), _, _, _]) em, by simp [hcl], ?_⟩
    intro z hz
    rcases List.mem_append.mp hz with h | h
    · exact hq z h
    · simp only [List.mem_cons, List.not_mem_nil, or_false] at h
      subst h
      simp only []
      omega
  · rintro ρ ⟨o2, cl, s5, s6, s7, ho2, rfl, hcl, hq⟩
    walk_at "x"
    exact hG cl o2 ⟨by omega, hq⟩ ho2
end K59
set_option Elab.async false
set_option linter.all false
set_option maxRecDepth 100000
set_option maxHeartbeats 4000000
namespace K59
open PySem PySem.Spec PyProof.Rows L2 Evl DL
theorem kS_least (x y : D) (k : R → SEnv → Prop) (t : Tok k) : kS sem_least [.r (.fr x), .r (.fr y)] k t = ∃ cs fx, x = costsD cs ∧ y = optsD fx ∧ CsOk cs ∧ Fits cs fx ∧ k (.fr (.int (least cs fx))) [.r (.fr x), .r (.fr y)] := by
  apply propext
  constructor
  · rintro ⟨cs, fx, q, h⟩
    cases q
    exact ⟨cs, fx, rfl, rfl, h⟩
  · rintro ⟨cs, fx, rfl, rfl, h⟩
    exact ⟨cs, fx, rfl, h⟩
local macro_rules | `(tactic| walk_at "dl") => `(tactic| simp (config := {maxSteps := 400000}) only [wRet, wRetN, wSeq, wAsg, wAsgT, wIfS, wDrop, wApp, wSetI, wAugN, wAugI, wNext, wTb, wTt, wTtV, wAndT, wOrT, wNotT, wAndV, wOrV, wNotV, wIf, wOp, wOpV, wOpW, wOpVV, wVar, wC, wFz, wR, wGive, wChain, wChain3, wTup, wLst, wSl, wSlV, wNoPart, wPart, wCB, wCall, waNil, waSl, waDa, wIsi, wIsiV, wNeg, wBM, wBMV, wIL, wIT, wIE, wIR1, wIR2, peek, ↓peeks_0, ↓peeks_1, ↓peeks_2, isSet, isO, atO, putO, onL, onB, onT, onI, ↓allD_0, ↓allD_1, ↓toArgs_0, ↓toArgs_1, ↓toArgs_2, toArgs, ↓putBack_0, ↓putBack_1, ↓putBack_2, putBack, ndA, fAdd, fMul, fI0, fI, fIx, fSl, fEq, fNe, fIn, fNotIn, fIsN, fNotN, fIsB, fNotB, fLen, fAbs, fInt, fList, fTuple, R.d, O.d, Sl.put, gdName, gdTup, gdCons, gdNil, retEnds, wBack, D.isNon, D.truth, List.getElem?_cons_zero, List.getElem?_cons_succ, List.set_cons_zero, List.set_cons_succ, List.length_cons, List.length_nil, true_and, and_true, if_true, if_false, Bool.not_true, Bool.not_false, D.ok_int, D.ok_bl, D.ok_non, D.eqv_int, D.eqv_bl, decide_eq_true_eq, Bool.false_eq_true, ↓reduceIte, fSub, fDiv, fMod, fPow, fLt, fLe, fGt, fGe, atI_lit, ↓setD_lit, List.getElem?_nil, List.length_set, List.length_map, Nat.reduceAdd, Nat.reduceLT, Nat.reduceSub, Int.reduceLT, Int.reduceLE, Int.reduceToNat, Int.reducePow, Int.reduceNeg, Int.reduceAdd, Int.reduceSub, Int.reduceMul, Int.reduceEq, Nat.reduceEqDiff, Nat.succ_eq_add_one, decide_true, decide_false, Bool.and_true, Bool.true_and, Bool.and_false, Bool.false_and, and_self, false_and, and_false, sizeLine_eq, Nat.reduceLeDiff, isTb, isTn, String.reduceBEq, Bool.or_true, Bool.true_or, Bool.or_false, Bool.false_or, Bool.false_and, D.notIns, ofString_inj, String.reduceEq, ok_lit, D.eqv_str, cut1, sIx_lit, sIx_none, Nat.min_def, not_false_eq_true, not_true_eq_false, Nat.one_ne_zero, reduceCtorEq, Int.cast_ofNat_Int, Int.natCast_zero, true_or, or_true, D.isStr, List.all_cons, List.all_nil, Nat.reduceBNe, Bool.and_self])
local macro_rules | `(tactic| walk_at "x") => `(tactic| simp (config := {maxSteps := 400000, dsimp := false}) only [↓xwOp, ↓xpeek, ↓xwOpV, ↓xwOpW, ↓xwOpVV, ↓xwVar, ↓xwGive, ↓xtoArgs, ↓xputBack, ↓xwCall, ↓xwTb, ↓xonT, ↓xwAndT, ↓xwOrT, ↓xwAndV, ↓xwOrV, ↓xwNotV, ↓xwIf, ↓xwChain, ↓xwChain3, ↓xwPart, ↓xwSl, ↓xwSlV, ↓xwCB, ↓xwIfS, ↓xgdTup, ↓xatO, ↓xwSetI, ↓xwAugN, ↓xwIL, ↓xwIT, ↓xwFor, ↓xwLc, ↓xwBM, ↓xwBMV, ↓xwNeg, wRet, wRetN, wSeq, wAsg, wAsgT, wDrop, wApp, wAugI, wNext, wTt, wTtV, wNotT, wC, wFz, wR, wTup, wLst, wNoPart, waNil, waSl, waDa, wIsi, wIsiV, wIE, wIR1, wIR2, ↓peeks_0, ↓peeks_1, ↓peeks_2, isSet, isO, putO, onL, ↓allD_0, ↓allD_1, ↓toArgs_0, ↓toArgs_2, ↓putBack_0, ↓putBack_2, ndA, R.d, O.d, Sl.put, gdName, gdCons, gdNil, retEnds, wBack, D.isNon, D.truth, List.getElem?_cons_zero, List.getElem?_cons_succ, List.set_cons_zero, List.set_cons_succ, List.length_cons, List.length_nil, true_and, and_true, if_true, if_false, Bool.not_true, Bool.not_false, D.ok_int, D.ok_bl, D.ok_non, D.eqv_int, D.eqv_bl, decide_eq_true_eq, Bool.false_eq_true, ↓reduceIte, atI_lit, List.getElem?_nil, List.length_set, List.length_map, Nat.reduceAdd, Nat.reduceLT, Nat.reduceSub, Int.reduceLT, Int.reduceLE, Int.reduceToNat, Int.reducePow, Int.reduceNeg, Int.reduceAdd, Int.reduceSub, Int.reduceMul, Int.reduceEq, Nat.reduceEqDiff, Nat.succ_eq_add_one, decide_true, decide_false, Bool.and_true, Bool.true_and, Bool.and_false, Bool.false_and, and_self, false_and, and_false, sizeLine_eq, Nat.reduceLeDiff, isTb, isTn, String.reduceBEq, Bool.or_true, Bool.true_or, Bool.or_false, Bool.false_or, D.notIns, ofString_inj, String.reduceEq, ok_lit, D.eqv_str, cut1, sIx_lit, sIx_none, Nat.min_def, not_false_eq_true, not_true_eq_false, Nat.one_ne_zero, reduceCtorEq, Int.cast_ofNat_Int, Int.natCast_zero, true_or, or_true, D.isStr, List.all_cons, List.all_nil, Nat.reduceBNe, Bool.and_self, kO_some, kO_none, kB_true, kB_false, kB_not, kBl_bl, kI_int, kL_lst, kT_tup, kD_fI0, kD_fI, kD_addI, kD_addS, kD_addL, kD_mulI, kD_mulL, kD_ixL, kD_ixT, kD_ixS, kD_eq, kD_ne, kD_in, kD_notIn, kD_isN, kD_notN, kD_isB, kD_notB, k1_lenL, k1_lenT, k1_lenS, k1_abs, k1_int, k1_max2, k1_min2, k1_sum, k1_min, k1_max, k1_sorted, k1_listL, k1_listT, k1_listR, k1_tupleL, k1_tupleT, k1_strI, k1_strS, k1_repr, kSl_L, kSl_S, kSl_T, kSet_lit, wWhile, okS, wipeS, restS, wYes, ofT, kS_draw, Option.map_some, List.map_cons, List.map_nil, eq_self, D.isSeq, kS_cheap, kS_whole, whole_int, notIns_int, kS_least])
def GrowOk : Nat → D → Prop
  | 0, d => d = dearT ∨ ∃ g h, d = clashT g h ∧ (-100 ≤ g ∧ g ≤ 100) ∧ (-100 ≤ h ∧ h ≤ 100)
  | n + 1, d => (d = dearT ∨ ∃ g h, d = clashT g h ∧ (-100 ≤ g ∧ g ≤ 100) ∧ (-100 ≤ h ∧ h ≤ 100)) ∨ ∃ g bs, d = splitT g bs ∧ (0 ≤ g ∧ g ≤ 100) ∧ (0 < bs.length ∧ bs.length ≤ 4) ∧ ∀ b ∈ bs, GrowOk n b
theorem GrowOk.leaf {n : Nat} {d : D} (h : d = dearT ∨ ∃ g h, d = clashT g h ∧ (-100 ≤ g ∧ g ≤ 100) ∧ (-100 ≤ h ∧ h ≤ 100)) : GrowOk n d := by
  cases n with
  | zero => exact h
  | succ n => exact .inl h
theorem GrowOk.ok : ∀ {n : Nat} {d : D}, GrowOk n d → TreeOk n d
  | 0, d, h => h
  | n + 1, d, h => by
    rcases h with h | ⟨g, bs, h1, h2, h3, h4⟩
    · exact .inl h
    · exact .inr ⟨g, bs, h1, h2, h3.2, fun b hb => (h4 b hb).ok⟩
theorem TreeOk.up : ∀ {n : Nat} {d : D}, TreeOk n d → TreeOk (n + 1) d
  | 0, d, h => .inl h
  | n + 1, d, h => by
    rcases h with h | ⟨g, bs, h1, h2, h3, h4⟩
    · exact .inl h
    · exact .inr ⟨g, bs, h1, h2, h3, fun b hb => (h4 b hb).up⟩
theorem TreeOk.upTo {n m : Nat} {d : D} (h : TreeOk n d) (hm : n ≤ m) : TreeOk m d := by
  induction hm with
  | refl => exact h
  | step _ ih => exact ih.up
def sem_grow (n : Nat) : Sem := fun as G => ∃ cs cl bd fx, ∃ od : List Int, as = [.f (costsD cs), .f (clD cl), .f (optD bd), .f (optsD fx), .f (.lst (od.map D.int))] ∧ CsOk cs ∧ ClOk cs cl ∧ Fits cs fx ∧ od.length ≤ n ∧ (∀ x ∈ od, 0 ≤ x ∧ x < (cs.length : Int)) ∧ ∀ t, GrowOk n t → G (.fr t) as
def sem_growP : Nat → Sem
  | 0 => fun _ _ => False
  | n + 1 => sem_grow n
theorem opt_get {fx : List (Option Int)} {g : Int} (h0 : 0 ≤ g) (h : g < (fx.length : Int)) : ∃ o, fx[g.toNat]? = some o ∧ atI (fx.map optD) g = some (optD o) := by
  have e : fx[g.toNat]? = some fx[g.toNat] := List.getElem?_eq_getElem (by omega)
  exact ⟨_, e, by rw [atI_nn h0, List.getElem?_map, e]; rfl⟩
theorem rd__law_grow (n : Nat) : ∀ as G, sem_grow n as G → as.length = 5 ∧ W__law_grow sem_least (sem_growP n) (retEnds as G) (enter 10 as) := by
  rintro as G ⟨cs, cl, bd, fx, od, rfl, hc, hcl, hf, hod, hin, hG⟩
  refine ⟨rfl, ?_⟩
  show W__law_grow _ _ _ [.f (costsD cs), .f (clD cl), .f (optD bd), .f (optsD fx), .f (.lst (od.map D.int)), .un, .un, .un, .un, .un]
  have hl := hc.2.1
  have hfl := hf.1
  have leafs : ∀ d, (d = dearT ∨ ∃ g h, d = clashT g h ∧ (-100 ≤ g ∧ g ≤ 100) ∧ (-100 ≤ h ∧ h ≤ 100)) → G (.fr d) [.f (costsD cs), .f (clD cl), .f (optD bd), .f (optsD fx), .f (.lst (od.map D.int))] := fun d hd => hG d (GrowOk.leaf hd)
  unfold W__law_grow clD
  walk_at "x"
  refine kF_map (fun i ρ => ∃ s8 s9, ρ = [.f (costsD cs), .f (clD cl), .f (optD bd), .f (optsD fx), .f (.lst (od.map D.int)), .un, .un, .un, s8, s9]) ⟨_, _, rfl⟩ ?_ ?_
  · rintro i ⟨⟨a, b⟩, ⟨c, d⟩⟩ ρ hi ⟨s8, s9, rfl⟩
    have hq := hcl.2 _ (List.mem_of_getElem? hi)
    simp only at hq
    obtain ⟨oa, ea, ga⟩ := opt_get (fx := fx) (g := a) (by omega) (by omega)
    obtain ⟨oc, ec, gc⟩ := opt_get (fx := fx) (g := c) (by omega) (by omega)
    unfold linkD optsD
    walk_at "x"
    rw [ga]
    walk_at "x"
    refine ⟨.inl (optD_ok oa), ?_⟩
    cases D.eqv (optD oa) (.int b) with
    | false =>
      walk_at "x"
      exact ⟨_, _, rfl⟩
    | true =>
      walk_at "x"
      rw [gc]
      walk_at "x"
      refine ⟨.inl (optD_ok oc), ?_⟩
      cases D.eqv (optD oc) (.int d) with
      | false =>
        walk_at "x"
        exact ⟨_, _, rfl⟩
      | true =>
        walk_at "x"
        exact leafs _ (.inr ⟨a, c, rfl, by omega, by omega⟩)
  · rintro ρ ⟨s8, s9, rfl⟩
    walk_at "x"
    have dear := leafs _ (.inl rfl)
    unfold dearT clD at dear
    cases od with
    | nil =>
      walk_at "x"
      exact dear
    | cons g od' =>
      obtain ⟨m, rfl⟩ : ∃ m, n = m + 1 := ⟨n - 1, by simp only [List.length_cons] at hod; omega⟩
      have hod' : od'.length ≤ m := by simp only [List.length_cons] at hod; omega
      have hg := hin g List.mem_cons_self
      obtain ⟨rg, e1, m1, e2⟩ := row_get (cs := cs) (g := g) (by omega) (by omega)
      obtain ⟨b1, b2, b3⟩ := hc.2.2 rg m1
      walk_at "x"
      rw [kB_neg (by omega)]
      walk_at "x"
      have hb : (bd = none ∨ ∃ b, bd = some b ∧ ¬ b ≤ least cs fx) ∨ ∃ b, bd = some b ∧ b ≤ least cs fx := by
        cases bd with
        | none => exact .inl (.inl rfl)
        | some b =>
          by_cases h : b ≤ least cs fx
          · exact .inr ⟨b, rfl, h⟩
          · exact .inl (.inr ⟨b, rfl, h⟩)
      rcases hb with hb | ⟨b, rfl, hb⟩
      rotate_left
      · simp only [optD]
        walk_at "x"
        refine ⟨cs, fx, rfl, rfl, hc, hf, ?_⟩
        rw [kB_pos hb]
        walk_at "x"
        exact dear
      rcases hb with rfl | ⟨b, rfl, hb⟩
      all_goals
        simp only [optD]
        walk_at "x"
        try
          refine ⟨cs, fx, rfl, rfl, hc, hf, ?_⟩
          rw [kB_neg hb]
          walk_at "x"
        unfold costsD
        walk_at "x"
        rw [e2]
        walk_at "x"
        refine ⟨by omega, ?_⟩
        rw [Int.toNat_natCast]
        first
        | (obtain ⟨z, hz, hz2⟩ : ∃ z, z = (none : Option Int) ∧ D.non = optD z := ⟨none, rfl, rfl⟩; rw [hz2]; rw [← hz] at hG)
        | (obtain ⟨z, hz, hz2⟩ : ∃ z, z = some b ∧ D.int b = optD z := ⟨some b, rfl, rfl⟩; rw [hz2]; rw [← hz] at hG)
        refine kF_range (fun i ρ => ∃ bs : List D, ∃ s7 s8 s9, ρ = [.f (costsD cs), .f (clD cl), .f (optD z), .f (optsD fx), .f (.lst ((g :: od').map D.int)), .f (.int g), .w (.lst bs), s7, s8, s9] ∧ bs.length = i ∧ ∀ b ∈ bs, GrowOk m b) ⟨[], _, _, _, rfl, rfl, by simp⟩ ?_ ?_
        · rintro i ρ hi ⟨bs, s7, s8, s9, rfl, hbl, hbs⟩
          unfold optsD
          walk_at "x"
          have hcut := cut_put optD fx (some (i : Int)) hg.1 (by omega)
          have hcut' : DL.cutD (List.map optD fx) none (some g) ++ [D.int ↑i] ++ DL.cutD (List.map optD fx) (some (g + 1)) none = List.map optD (fx.set g.toNat (some ↑i)) := hcut
          rw [hcut']
          have hset := fits_set (o := i) hf hg.1 e1 (by omega)
          have b2' : ∀ lo hi, (DL.cutD (fx.map optD) lo hi).length ≤ 8 := by
            intro lo hi
            unfold DL.cutD
            rw [List.length_take, List.length_drop, List.length_map]
            omega
          have b3' := b2' none (some g)
          have b4' := b2' (some (g + 1)) none
          refine ⟨by omega, by simp only [List.length_append, List.length_cons, List.length_nil]; omega, cs, cl, _, _, od', rfl, hc, hcl, hset, hod', fun x hx => hin x (List.mem_cons_of_mem _ hx), fun t ht => ?_⟩
          walk_at "x"
          refine ⟨by omega, bs ++ [t], _, _, _, rfl, by simp [hbl], fun b hb' => ?_⟩
          rcases List.mem_append.mp hb' with h | h
          · exact hbs b h
          · simp at h
            subst h
            exact ht
        · rintro ρ ⟨bs, s7, s8, s9, rfl, hbl, hbs⟩
          walk_at "x"
          exact hG _ (.inr ⟨g, bs, rfl, by omega, by omega, hbs⟩)
end K59
set_option Elab.async false
set_option linter.all false
set_option maxRecDepth 100000
set_option maxHeartbeats 4000000
namespace K59
open PySem PySem.Spec PyProof.Rows L2 Evl DL
local macro_rules | `(tactic| walk_at "dl") => `(tactic| simp (config := {maxSteps := 400000}) only [wRet, wRetN, wSeq, wAsg, wAsgT, wIfS, wDrop, wApp, wSetI, wAugN, wAugI, wNext, wTb, wTt, wTtV, wAndT, wOrT, wNotT, wAndV, wOrV, wNotV, wIf, wOp, wOpV, wOpW, wOpVV, wVar, wC, wFz, wR, wGive, wChain, wChain3, wTup, wLst, wSl, wSlV, wNoPart, wPart, wCB, wCall, waNil, waSl, waDa, wIsi, wIsiV, wNeg, wBM, wBMV, wIL, wIT, wIE, wIR1, wIR2, peek, ↓peeks_0, ↓peeks_1, ↓peeks_2, isSet, isO, atO, putO, onL, onB, onT, onI, ↓allD_0, ↓allD_1, ↓toArgs_0, ↓toArgs_1, ↓toArgs_2, toArgs, ↓putBack_0, ↓putBack_1, ↓putBack_2, putBack, ndA, fAdd, fMul, fI0, fI, fIx, fSl, fEq, fNe, fIn, fNotIn, fIsN, fNotN, fIsB, fNotB, fLen, fAbs, fInt, fList, fTuple, R.d, O.d, Sl.put, gdName, gdTup, gdCons, gdNil, retEnds, wBack, D.isNon, D.truth, List.getElem?_cons_zero, List.getElem?_cons_succ, List.set_cons_zero, List.set_cons_succ, List.length_cons, List.length_nil, true_and, and_true, if_true, if_false, Bool.not_true, Bool.not_false, D.ok_int, D.ok_bl, D.ok_non, D.eqv_int, D.eqv_bl, decide_eq_true_eq, Bool.false_eq_true, ↓reduceIte, fSub, fDiv, fMod, fPow, fLt, fLe, fGt, fGe, atI_lit, ↓setD_lit, List.getElem?_nil, List.length_set, List.length_map, Nat.reduceAdd, Nat.reduceLT, Nat.reduceSub, Int.reduceLT, Int.reduceLE, Int.reduceToNat, Int.reducePow, Int.reduceNeg, Int.reduceAdd, Int.reduceSub, Int.reduceMul, Int.reduceEq, Nat.reduceEqDiff, Nat.succ_eq_add_one, decide_true, decide_false, Bool.and_true, Bool.true_and, Bool.and_false, Bool.false_and, and_self, false_and, and_false, sizeLine_eq, Nat.reduceLeDiff, isTb, isTn, String.reduceBEq, Bool.or_true, Bool.true_or, Bool.or_false, Bool.false_or, Bool.false_and, D.notIns, ofString_inj, String.reduceEq, ok_lit, D.eqv_str, cut1, sIx_lit, sIx_none, Nat.min_def, not_false_eq_true, not_true_eq_false, Nat.one_ne_zero, reduceCtorEq, Int.cast_ofNat_Int, Int.natCast_zero, true_or, or_true, D.isStr, List.all_cons, List.all_nil, Nat.reduceBNe, Bool.and_self])
local macro_rules | `(tactic| walk_at "x") => `(tactic| simp (config := {maxSteps := 400000, dsimp := false}) only [↓xwOp, ↓xpeek, ↓xwOpV, ↓xwOpW, ↓xwOpVV, ↓xwVar, ↓xwGive, ↓xtoArgs, ↓xputBack, ↓xwCall, ↓xwTb, ↓xonT, ↓xwAndT, ↓xwOrT, ↓xwAndV, ↓xwOrV, ↓xwNotV, ↓xwIf, ↓xwChain, ↓xwChain3, ↓xwPart, ↓xwSl, ↓xwSlV, ↓xwCB, ↓xwIfS, ↓xgdTup, ↓xatO, ↓xwSetI, ↓xwAugN, ↓xwIL, ↓xwIT, ↓xwFor, ↓xwLc, ↓xwBM, ↓xwBMV, ↓xwNeg, wRet, wRetN, wSeq, wAsg, wAsgT, wDrop, wApp, wAugI, wNext, wTt, wTtV, wNotT, wC, wFz, wR, wTup, wLst, wNoPart, waNil, waSl, waDa, wIsi, wIsiV, wIE, wIR1, wIR2, ↓peeks_0, ↓peeks_1, ↓peeks_2, isSet, isO, putO, onL, ↓allD_0, ↓allD_1, ↓toArgs_0, ↓toArgs_2, ↓putBack_0, ↓putBack_2, ndA, R.d, O.d, Sl.put, gdName, gdCons, gdNil, retEnds, wBack, D.isNon, D.truth, List.getElem?_cons_zero, List.getElem?_cons_succ, List.set_cons_zero, List.set_cons_succ, List.length_cons, List.length_nil, true_and, and_true, if_true, if_false, Bool.not_true, Bool.not_false, D.ok_int, D.ok_bl, D.ok_non, D.eqv_int, D.eqv_bl, decide_eq_true_eq, Bool.false_eq_true, ↓reduceIte, atI_lit, List.getElem?_nil, List.length_set, List.length_map, Nat.reduceAdd, Nat.reduceLT, Nat.reduceSub, Int.reduceLT, Int.reduceLE, Int.reduceToNat, Int.reducePow, Int.reduceNeg, Int.reduceAdd, Int.reduceSub, Int.reduceMul, Int.reduceEq, Nat.reduceEqDiff, Nat.succ_eq_add_one, decide_true, decide_false, Bool.and_true, Bool.true_and, Bool.and_false, Bool.false_and, and_self, false_and, and_false, sizeLine_eq, Nat.reduceLeDiff, isTb, isTn, String.reduceBEq, Bool.or_true, Bool.true_or, Bool.or_false, Bool.false_or, D.notIns, ofString_inj, String.reduceEq, ok_lit, D.eqv_str, cut1, sIx_lit, sIx_none, Nat.min_def, not_false_eq_true, not_true_eq_false, Nat.one_ne_zero, reduceCtorEq, Int.cast_ofNat_Int, Int.natCast_zero, true_or, or_true, D.isStr, List.all_cons, List.all_nil, Nat.reduceBNe, Bool.and_self, kO_some, kO_none, kB_true, kB_false, kB_not, kBl_bl, kI_int, kL_lst, kT_tup, kD_fI0, kD_fI, kD_addI, kD_addS, kD_addL, kD_mulI, kD_mulL, kD_ixL, kD_ixT, kD_ixS, kD_eq, kD_ne, kD_in, kD_notIn, kD_isN, kD_notN, kD_isB, kD_notB, k1_lenL, k1_lenT, k1_lenS, k1_abs, k1_int, k1_max2, k1_min2, k1_sum, k1_min, k1_max, k1_sorted, k1_listL, k1_listT, k1_listR, k1_tupleL, k1_tupleT, k1_strI, k1_strS, k1_repr, kSl_L, kSl_S, kSl_T, kSet_lit, wWhile, okS, wipeS, restS, wYes, ofT, kS_draw, Option.map_some, List.map_cons, List.map_nil, eq_self, D.isSeq, kS_cheap, kS_whole, whole_int, notIns_int, kS_least])
theorem cut_put0 (xs : List D) (x : D) {i : Int} (h0 : 0 ≤ i) (h : i < (xs.length : Int)) : DL.cutD xs none (some i) ++ [x] ++ DL.cutD xs (some (i + 1)) none = xs.set i.toNat x := by
  have := cut_put (fun d : D => d) xs x h0 h
  rwa [List.map_id', List.map_id'] at this
def sem_put (n : Nat) : Sem := fun as G => ∃ o t leaf, as = [.io o, .f t, .f leaf] ∧ FeedOk o ∧ GrowOk n t ∧ TreeOk 1 leaf ∧ ∀ t' o', TreeOk (n + 1) t' → FeedOk o' → G (.fr t') [.io o', .f t, .f leaf]
def sem_putP : Nat → Sem
  | 0 => fun _ _ => False
  | n + 1 => sem_put n
theorem rd__law_put (n : Nat) : ∀ as G, sem_put n as G → as.length = 3 ∧ W__law_put sem_draw (sem_putP n) (retEnds as G) (enter 4 as) := by
  rintro as G ⟨o, t, leaf, rfl, ho, ht, hlf, hG⟩
  refine ⟨rfl, ?_⟩
  show W__law_put _ _ _ [.io o, .f t, .f leaf, .un]
  unfold W__law_put
  have hleaf : TreeOk (n + 1) leaf := hlf.upTo (by omega)
  have key : (t = dearT ∨ ∃ g h, t = clashT g h ∧ (-100 ≤ g ∧ g ≤ 100) ∧ (-100 ≤ h ∧ h ≤ 100)) ∨ ∃ m g bs, n = m + 1 ∧ t = splitT g bs ∧ (0 ≤ g ∧ g ≤ 100) ∧ (0 < bs.length ∧ bs.length ≤ 4) ∧ ∀ b ∈ bs, GrowOk m b := by
    cases n with
    | zero => exact .inl ht
    | succ m =>
      rcases ht with h | ⟨g, bs, h⟩
      · exact .inl h
      · exact .inr ⟨m, g, bs, rfl, h⟩
  rcases key with (rfl | ⟨g, h, rfl, h1, h2⟩) | ⟨m, g, bs, rfl, rfl, h1, h2, h3⟩
  · unfold dearT at *
    walk_at "x"
    exact hG leaf o hleaf ho
  · unfold clashT at *
    walk_at "x"
    exact hG leaf o hleaf ho
  · unfold splitT at *
    walk_at "x"
    refine ⟨ho, by omega, by omega, fun x o1 hx0 hx1 ho1 => ?_⟩
    obtain ⟨b, hb⟩ : ∃ b, bs[x.toNat]? = some b := ⟨_, List.getElem?_eq_getElem (by omega)⟩
    have hcl : ∀ lo hi, (DL.cutD bs lo hi).length ≤ 4 := by
      intro lo hi
      unfold DL.cutD
      rw [List.length_take, List.length_drop]
      omega
    have c1 := hcl none (some x)
    have c2 := hcl (some (x + 1)) none
    rw [atI_nn hx0, hb]
    walk_at "x"
    refine ⟨o1, b, leaf, rfl, ho1, h3 b (List.mem_of_getElem? hb), hlf, fun t' o2 ht' ho2 => ?_⟩
    walk_at "x"
    rw [cut_put0 bs t' hx0 (by omega)]
    refine ⟨by omega, by simp only [List.length_append, List.length_cons, List.length_nil]; omega, hG _ o2 ?_ ho2⟩
    refine .inr ⟨g, bs.set x.toNat t', rfl, h1, by rw [List.length_set]; exact h2.2, fun z hz => ?_⟩
    rcases List.mem_or_eq_of_mem_set hz with h | h
    · exact ((h3 z h).ok).up
    · rw [h]
      exact ht'
def sem_asks (n : Nat) : Sem := fun as G => ∃ cs cl bd t, as = [.f (costsD cs), .f (clD cl), .f (optD bd), .f t] ∧ CsOk cs ∧ ClOk cs cl ∧ TreeOk n t ∧ n ≤ 5 ∧ G (.fr (.bl true)) as
theorem tw_mono : ∀ n, tw n ≤ tw (n + 1)
  | n => by show tw n ≤ 4 * (tw n + 1) + 25; omega
theorem tw_small {n : Nat} (h : n ≤ 5) : tw n ≤ 100000 := by
  have e : n = 0 ∨ n = 1 ∨ n = 2 ∨ n = 3 ∨ n = 4 ∨ n = 5 := by omega
  rcases e with rfl | rfl | rfl | rfl | rfl | rfl <;> decide
theorem isTree_depth {n : Nat} {d : D} (h : TreeOk n d) : True := trivial
theorem rd__law_asks (n : Nat) : ∀ as G, sem_asks n as G → as.length = 4 ∧ W__law_asks (sem_is_tree n) (sem_shows n) (retEnds as G) (enter 8 as) := by
  rintro as G ⟨cs, cl, bd, t, rfl, hc, hcl, ht, hn, hG⟩
  refine ⟨rfl, ?_⟩
  show W__law_asks _ _ _ [.f (costsD cs), .f (clD cl), .f (optD bd), .f t, .un, .un, .un, .un]
  have hl := hc.2.1
  have hsh : (D.tup [costsD cs, clD cl, t]).shows := by
    have q := (Pl.tup3 (n := 2 * n + 5) ((Pl.costs hc).mono (by omega) (Nat.le_refl _)) ((Pl.cl hc hcl).mono (by omega) (Nat.le_refl _)) ((Pl.tree ht).mono (by omega) (Nat.le_refl _)))
    have := tw_small hn
    exact q.shows (by omega) (by omega)
  unfold W__law_asks costsD
  walk_at "x"
  refine ⟨by omega, ?_⟩
  refine kC_map (fun i acc ρ => acc = (List.replicate i (none : Option Int)).map optD ∧ ρ = [.f (costsD cs), .f (clD cl), .f (optD bd), .f t, .un, .un, .un, .un]) ⟨rfl, rfl⟩ ?_ ?_
  · rintro i r acc ρ hi ⟨rfl, rfl⟩
    walk_at "x"
    rw [List.replicate_succ', List.map_append]
    rfl
  · rintro acc ρ ⟨rfl, rfl⟩
    unfold costsD
    walk_at "x"
    refine ⟨cs, cl, bd, nones cs, t, rfl, hc, hcl, fits_nones cs, ht, ?_⟩
    walk_at "x"
    refine ⟨hsh, cs, cl, bd, t, rfl, hc, hcl, ht, ?_⟩
    walk_at "x"
    exact ⟨hsh, hG⟩
end K59
set_option Elab.async false
set_option linter.all false
set_option maxRecDepth 100000
set_option maxHeartbeats 400000
namespace K59
open PySem PySem.Spec PyProof.Rows L2 Evl DL
theorem kS_costs (o : O) (k : R → SEnv → Prop) (t : Tok k) : kS sem_costs [.io o] k t = (FeedOk o ∧ ∀ cs o', CsOk cs → FeedOk o' → k (.ow (.lst (cs.map rowD))) [.io o']) := by
  apply propext
  constructor
  · rintro ⟨o1, q, h⟩
    cases q
    exact h
  · intro h
    exact ⟨o, rfl, h⟩
theorem kS_feed (ns : List Int) (k : R → SEnv → Prop) (t : Tok k) : kS sem_feed [.r (.fr (.ro (ns.map D.int)))] k t = ∀ o, FeedOk o → k (.ow o) [.r (.fr (.ro (ns.map D.int)))] := by
  apply propext
  constructor
  · rintro ⟨ms, q, h⟩
    simp only [List.cons.injEq, Sl.r.injEq, R.fr.injEq, D.ro.injEq, and_true] at q
    have e := mapInt_inj q
    subst e
    exact h
  · intro h
    exact ⟨ns, rfl, h⟩
theorem map_app1 (r : List Int) (x : Int) : r.map D.int ++ [D.int x] = (r ++ [x]).map D.int := by simp
local macro_rules | `(tactic| walk_at "dl") => `(tactic| simp (config := {maxSteps := 400000}) only [wRet, wRetN, wSeq, wAsg, wAsgT, wIfS, wDrop, wApp, wSetI, wAugN, wAugI, wNext, wTb, wTt, wTtV, wAndT, wOrT, wNotT, wAndV, wOrV, wNotV, wIf, wOp, wOpV, wOpW, wOpVV, wVar, wC, wFz, wR, wGive, wChain, wChain3, wTup, wLst, wSl, wSlV, wNoPart, wPart, wCB, wCall, waNil, waSl, waDa, wIsi, wIsiV, wNeg, wBM, wBMV, wIL, wIT, wIE, wIR1, wIR2, peek, ↓peeks_0, ↓peeks_1, ↓peeks_2, isSet, isO, atO, putO, onL, onB, onT, onI, ↓allD_0, ↓allD_1, ↓toArgs_0, ↓toArgs_1, ↓toArgs_2, toArgs, ↓putBack_0, ↓putBack_1, ↓putBack_2, putBack, ndA, fAdd, fMul, fI0, fI, fIx, fSl, fEq, fNe, fIn, fNotIn, fIsN, fNotN, fIsB, fNotB, fLen, fAbs, fInt, fList, fTuple, R.d, O.d, Sl.put, gdName, gdTup, gdCons, gdNil, retEnds, wBack, D.isNon, D.truth, List.getElem?_cons_zero, List.getElem?_cons_succ, List.set_cons_zero, List.set_cons_succ, List.length_cons, List.length_nil, true_and, and_true, if_true, if_false, Bool.not_true, Bool.not_false, D.ok_int, D.ok_bl, D.ok_non, D.eqv_int, D.eqv_bl, decide_eq_true_eq, Bool.false_eq_true, ↓reduceIte, fSub, fDiv, fMod, fPow, fLt, fLe, fGt, fGe, atI_lit, ↓setD_lit, List.getElem?_nil, List.length_set, List.length_map, Nat.reduceAdd, Nat.reduceLT, Nat.reduceSub, Int.reduceLT, Int.reduceLE, Int.reduceToNat, Int.reducePow, Int.reduceNeg, Int.reduceAdd, Int.reduceSub, Int.reduceMul, Int.reduceEq, Nat.reduceEqDiff, Nat.succ_eq_add_one, decide_true, decide_false, Bool.and_true, Bool.true_and, Bool.and_false, Bool.false_and, and_self, false_and, and_false, sizeLine_eq, Nat.reduceLeDiff, isTb, isTn, String.reduceBEq, Bool.or_true, Bool.true_or, Bool.or_false, Bool.false_or, Bool.false_and, D.notIns, ofString_inj, String.reduceEq, ok_lit, D.eqv_str, cut1, sIx_lit, sIx_none, Nat.min_def, not_false_eq_true, not_true_eq_false, Nat.one_ne_zero, reduceCtorEq, Int.cast_ofNat_Int, Int.natCast_zero, true_or, or_true, D.isStr, List.all_cons, List.all_nil, Nat.reduceBNe, Bool.and_self])
local macro_rules | `(tactic| walk_at "x") => `(tactic| simp (config := {maxSteps := 400000, dsimp := false}) only [↓xwOp, ↓xpeek, ↓xwOpV, ↓xwOpW, ↓xwOpVV, ↓xwVar, ↓xwGive, ↓xtoArgs, ↓xputBack, ↓xwCall, ↓xwTb, ↓xonT, ↓xwAndT, ↓xwOrT, ↓xwAndV, ↓xwOrV, ↓xwNotV, ↓xwIf, ↓xwChain, ↓xwChain3, ↓xwPart, ↓xwSl, ↓xwSlV, ↓xwCB, ↓xwIfS, ↓xgdTup, ↓xatO, ↓xwSetI, ↓xwAugN, ↓xwIL, ↓xwIT, ↓xwFor, ↓xwLc, ↓xwBM, ↓xwBMV, ↓xwNeg, wRet, wRetN, wSeq, wAsg, wAsgT, wDrop, wApp, wAugI, wNext, wTt, wTtV, wNotT, wC, wFz, wR, wTup, wLst, wNoPart, waNil, waSl, waDa, wIsi, wIsiV, wIE, wIR1, wIR2, ↓peeks_0, ↓peeks_1, ↓peeks_2, isSet, isO, putO, onL, ↓allD_0, ↓allD_1, ↓toArgs_0, ↓toArgs_2, ↓putBack_0, ↓putBack_2, ndA, R.d, O.d, Sl.put, gdName, gdCons, gdNil, retEnds, wBack, D.isNon, D.truth, List.getElem?_cons_zero, List.getElem?_cons_succ, List.set_cons_zero, List.set_cons_succ, List.length_cons, List.length_nil, true_and, and_true, if_true, if_false, Bool.not_true, Bool.not_false, D.ok_int, D.ok_bl, D.ok_non, D.eqv_int, D.eqv_bl, decide_eq_true_eq, Bool.false_eq_true, ↓reduceIte, atI_lit, List.getElem?_nil, List.length_set, List.length_map, Nat.reduceAdd, Nat.reduceLT, Nat.reduceSub, Int.reduceLT, Int.reduceLE, Int.reduceToNat, Int.reducePow, Int.reduceNeg, Int.reduceAdd, Int.reduceSub, Int.reduceMul, Int.reduceEq, Nat.reduceEqDiff, Nat.succ_eq_add_one, decide_true, decide_false, Bool.and_true, Bool.true_and, Bool.and_false, Bool.false_and, and_self, false_and, and_false, sizeLine_eq, Nat.reduceLeDiff, isTb, isTn, String.reduceBEq, Bool.or_true, Bool.true_or, Bool.or_false, Bool.false_or, D.notIns, ofString_inj, String.reduceEq, ok_lit, D.eqv_str, cut1, sIx_lit, sIx_none, Nat.min_def, not_false_eq_true, not_true_eq_false, Nat.one_ne_zero, reduceCtorEq, Int.cast_ofNat_Int, Int.natCast_zero, true_or, or_true, D.isStr, List.all_cons, List.all_nil, Nat.reduceBNe, Bool.and_self, kO_some, kO_none, kB_true, kB_false, kB_not, kBl_bl, kI_int, kL_lst, kT_tup, kD_fI0, kD_fI, kD_addI, kD_addS, kD_addL, kD_mulI, kD_mulL, kD_ixL, kD_ixT, kD_ixS, kD_eq, kD_ne, kD_in, kD_notIn, kD_isN, kD_notN, kD_isB, kD_notB, k1_lenL, k1_lenT, k1_lenS, k1_abs, k1_int, k1_max2, k1_min2, k1_sum, k1_min, k1_max, k1_sorted, k1_listL, k1_listT, k1_listR, k1_tupleL, k1_tupleT, k1_strI, k1_strS, k1_repr, kSl_L, kSl_S, kSl_T, kSet_lit, wWhile, okS, wipeS, restS, wYes, ofT, kS_draw, Option.map_some, List.map_cons, List.map_nil, eq_self, D.isSeq, kS_whole, whole_int, notIns_int, kS_costs, kS_feed, map_app1])
local macro_rules | `(tactic| walk_at "xc") => `(tactic| trace_state)
def sem_law : Sem := fun as G => ∃ ns : List Int, as = [.f (.ro (ns.map D.int))] ∧ G (.fr (.bl true)) as
def cs8 : List (List Int) := (List.range 8).map fun (k : Nat) => [9, 9, 9, 1 + (k : Int)]
theorem cut_take {α : Type} (f : α → D) (xs : List α) {i : Int} (h0 : 0 ≤ i) (h : i ≤ (xs.length : Int)) : DL.cutD (xs.map f) none (some i) = (xs.take i.toNat).map f := by
  obtain ⟨k, rfl⟩ := Int.eq_ofNat_of_zero_le h0
  unfold DL.cutD
  rw [HT.sIx_none, HT.sIx_nat, List.length_map, List.drop_zero, Nat.sub_zero, Nat.min_eq_left (by omega), Int.toNat_natCast, List.map_take]
theorem cut_drop {α : Type} (f : α → D) (xs : List α) {i : Int} (h0 : 0 ≤ i) (h : i ≤ (xs.length : Int)) : DL.cutD (xs.map f) (some i) none = (xs.drop i.toNat).map f := by
  obtain ⟨k, rfl⟩ := Int.eq_ofNat_of_zero_le h0
  unfold DL.cutD
  rw [HT.sIx_none, HT.sIx_nat, List.length_map, Nat.min_eq_left (by omega), Int.toNat_natCast, List.take_of_length_le (by rw [List.length_drop, List.length_map]; exact Nat.le_refl _), List.map_drop]
theorem cs8ok : CsOk cs8 := by
  unfold CsOk
  decide
def cl8 : List ((Int × Int) × (Int × Int)) := [((6, 3), (7, 3))]
theorem cl8ok : ClOk cs8 cl8 := by
  unfold ClOk
  decide
def t8 : D := splitT 7 [dearT, dearT, dearT, splitT 6 [dearT, dearT, dearT, clashT 6 7]]
theorem t8ok : TreeOk 2 t8 := by
  refine .inr ⟨7, _, rfl, by omega, by simp, ?_⟩
  intro b hb
  simp only [List.mem_cons, List.not_mem_nil, or_false] at hb
  rcases hb with rfl | rfl | rfl | rfl
  · exact treeOk_leaf (.inl rfl)
  · exact treeOk_leaf (.inl rfl)
  · exact treeOk_leaf (.inl rfl)
  · refine .inr ⟨6, _, rfl, by omega, by simp, ?_⟩
    intro b hb
    simp only [List.mem_cons, List.not_mem_nil, or_false] at hb
    rcases hb with rfl | rfl | rfl | rfl
    · exact treeOk_leaf (.inl rfl)
    · exact treeOk_leaf (.inl rfl)
    · exact treeOk_leaf (.inl rfl)
    · exact treeOk_leaf (.inr ⟨6, 7, rfl, by omega, by omega⟩)
theorem e36 : isTreeN cs8 [] (some 36) 2 (nones cs8) dearT = true := by decide +kernel
theorem e37 : isTreeN cs8 [] (some 37) 2 (nones cs8) dearT = false := by decide +kernel
theorem f37 : isTreeN cs8 cl8 (some 37) 2 (nones cs8) t8 = true := by decide +kernel
theorem f38 : isTreeN cs8 cl8 (some 38) 2 (nones cs8) t8 = false := by decide +kernel
/-- the law's slots between two turns -/
def St (ns : List Int) (ρ : SEnv) : Prop := ∃ (o : O) (s2 s4 s6 s7 s8 s10 s11 s12 s13 s14 s15 s16 s17 s18 s19 s20 s21 s22 : Sl), FeedOk o ∧ (s14 = .un ∨ ∃ d, s14 = .f d) ∧
  ρ = [.f (.ro (ns.map D.int)), .w o, s2, .un, s4, .un, s6, s7, s8, .un, s10, s11, s12, s13, s14, s15, s16, s17, s18, s19, s20, s21, s22, .un]
def isBd (d : D) : Prop := ∃ bd, d = optD bd
theorem rd_law : ∀ as G, sem_law as G → as.length = 1 ∧ W_law sem_feed sem_costs (sem_asks 5) sem_draw sem_clashes (sem_grow 4) (sem_put 4) (sem_shows 2) (retEnds as G) (enter 24 as) := by
  rintro as G ⟨ns, rfl, hG⟩
  refine ⟨rfl, ?_⟩
  show W_law _ _ _ _ _ _ _ _ _ [.f (.ro (ns.map D.int)), .un, .un, .un, .un, .un, .un, .un, .un, .un, .un, .un, .un, .un, .un, .un, .un, .un, .un, .un, .un, .un, .un, .un]
  unfold W_law
  walk_at "x"
  intro o0 ho0
  refine kF_range (fun i ρ => St ns ρ) ⟨o0, _, _, _, _, _, _, _, _, _, _, _, _, _, _, _, _, _, _, ho0, .inl rfl, rfl⟩ ?_ ?_
  · rintro i ρ hi ⟨o, s2, s4, s6, s7, s8, s10, s11, s12, s13, s14, s15, s16, s17, s18, s19, s20, s21, s22, ho, h14, rfl⟩
    walk_at "x"
    refine ⟨ho, fun cs o1 hc ho1 => ?_⟩
    have hl := hc.2.1
    refine ⟨by omega, ?_⟩
    refine kC_mapS (fun _ acc => ∃ ms : List Int, acc = ms.map D.int) ⟨[], rfl⟩ ?_ ?_
    · rintro i r acc hi ⟨ms, rfl⟩
      unfold rowD
      walk_at "x"
      refine ⟨(hc.2.2 r (List.mem_of_getElem? hi)).1, ms ++ [minI r], ?_⟩
      simp
    rintro acc ⟨ms, rfl⟩
    walk_at "x"
    generalize ms.sum = total
    refine kF_eachV 4 isBd _ ?_ rfl ?_ ?_
    · intro d hd
      simp only [List.mem_cons, List.not_mem_nil, or_false] at hd
      rcases hd with rfl | rfl | rfl | rfl
      · exact ⟨some _, rfl⟩
      · exact ⟨some _, rfl⟩
      · exact ⟨some _, rfl⟩
      · exact ⟨none, rfl⟩
    · rintro d s ⟨bd, rfl⟩
      walk_at "x"
      refine ⟨cs, [], bd, dearT, rfl, hc, ⟨by simp, by simp⟩, treeOk_leaf (.inl rfl), by omega, ?_⟩
      walk_at "x"
      exact ⟨_, rfl⟩
    intro s4'
    walk_at "x"
    by_cases hlen : 1 < (cs.length : Int)
    case neg =>
      rw [kB_neg hlen]
      exact ⟨_, _, _, _, _, _, _, _, _, _, _, _, _, _, _, _, _, _, _, ho1, h14, rfl⟩
    rw [kB_pos hlen]
    walk_at "x"
    refine ⟨ho1, by omega, by omega, fun g o2 hg0 hg1 ho2 => ⟨ho2, by omega, by omega, fun gg o3 hh0 hh1 ho3 => ?_⟩⟩
    refine ⟨o3, cs, g, g + 1 + gg, rfl, ho3, hc, by omega, ⟨by omega, by omega, by omega⟩, fun cl o4 hcl ho4 => ?_⟩
    obtain ⟨h, hh⟩ : ∃ h, h = g + 1 + gg := ⟨_, rfl⟩
    rw [← hh]
    have hgh : 0 ≤ g ∧ g < h ∧ h < (cs.length : Int) := by omega
    walk_at "x"
    refine ⟨ho4, fun t5 o5 h50 h51 ho5 => ?_⟩
    refine ⟨by omega, ?_⟩
    refine kF_rangeR (fun ρ0 i ρ' => ∃ (o : O) (od : List Int) (s14 s19 : Sl), FeedOk o ∧ (s14 = .un ∨ ∃ d, s14 = .f d) ∧ od.length ≤ i ∧ (∀ x ∈ od, 0 ≤ x ∧ x < (cs.length : Int)) ∧ ρ' = (((ρ0.set 1 (.w o)).set 13 (.w (.lst (od.map D.int)))).set 14 s14).set 19 s19) ⟨o5, [], s14, s19, ho5, h14, by simp, by simp, rfl⟩ ?_ ?_
    · rintro j ρ' hj ⟨o6, od, x14, x19, ho6, hx14, hodl, hod, rfl⟩
      walk_at "x"
      refine ⟨ho6, by omega, by omega, fun m o7 hm0 hm1 ho7 => ?_⟩
      have hokl : (D.lst (List.map D.int od ++ [D.int g, D.int h])).ok := by
        have e : List.map D.int od ++ [D.int g, D.int h] = (od ++ [g, h]).map D.int := by simp
        rw [e]
        refine (Pl.lst (n := 0) (w := 11) (forall_mem_map fun x hx => ?_)).ok (by decide)
        rcases List.mem_append.mp hx with q | q
        · have := hod x q
          exact Pl.int (by omega) (by omega)
        · simp only [List.mem_cons, List.not_mem_nil, or_false] at q
          rcases q with rfl | rfl <;> exact Pl.int (by omega) (by omega)
      refine ⟨by omega, hokl, ?_⟩
      cases (D.int m).isIn (List.map D.int od ++ [D.int g, D.int h]) with
      | true =>
        rw [kB_true]
        exact ⟨o7, od, _, _, ho7, .inr ⟨_, rfl⟩, by omega, hod, rfl⟩
      | false =>
        rw [kB_false]
        walk_at "x"
        refine ⟨by omega, o7, od ++ [m], _, _, ho7, .inr ⟨_, rfl⟩, by simp only [List.length_append, List.length_cons, List.length_nil]; omega, fun x hx => ?_, rfl⟩
        rcases List.mem_append.mp hx with q | q
        · exact hod x q
        · simp only [List.mem_cons, List.not_mem_nil, or_false] at q
          subst q
          omega
    rintro ρ' ⟨o6, od, x14, x19, ho6, hx14, hodl, hod, rfl⟩
    walk_at "x"
    refine ⟨ho6, by omega, by omega, fun at_ o7 ha0 ha1 ho7 => ⟨ho7, fun tt o8 ht0 ht1 ho8 => ?_⟩⟩
    have hxy : ∃ x y, (x = g ∧ y = h ∨ x = h ∧ y = g) ∧ atI [D.lst [D.int g, D.int h], D.lst [D.int h, D.int g]] tt = some (.lst [.int x, .int y]) := by
      have q : tt = 0 ∨ tt = 1 := by omega
      rcases q with rfl | rfl
      · exact ⟨g, h, .inl ⟨rfl, rfl⟩, rfl⟩
      · exact ⟨h, g, .inr ⟨rfl, rfl⟩, rfl⟩
    obtain ⟨x, y, hxy, hat⟩ := hxy
    refine kO_go hat ?_
    have ct := cut_take D.int od ha0 (by omega)
    have cd := cut_drop D.int od ha0 (by omega)
    simp only [ct]
    walk_at "x"
    obtain ⟨rg, eg1, mg1, eg2⟩ := row_get (cs := cs) (g := g) (by omega) (by omega)
    obtain ⟨rh, eh1, mh1, eh2⟩ := row_get (cs := cs) (g := h) (by omega) (by omega)
    obtain ⟨bg1, bg2, bg3⟩ := hc.2.2 rg mg1
    obtain ⟨bh1, bh2, bh3⟩ := hc.2.2 rh mh1
    have second : ∀ {r ms : List Int}, 0 < r.length → ms.Perm (r ++ [99]) → ∃ z, (ms.map D.int)[1]? = some (.int z) := by
      intro r ms hr hp
      have hl := hp.length_eq
      simp only [List.length_append, List.length_cons, List.length_nil] at hl
      exact ⟨ms[1]'(by omega), by rw [List.getElem?_map, List.getElem?_eq_getElem (by omega)]; rfl⟩
    refine ⟨by simp only [List.length_take]; omega, by rw [cd]; simp only [List.length_append, List.length_map, List.length_take, List.length_drop, List.length_cons, List.length_nil]; omega, ?_⟩
    refine kO_go eg2 ?_
    walk_at "x"
    refine ⟨by omega, fun ms1 hp1 hs1 => ?_⟩
    obtain ⟨z1, hz1⟩ := second bg1 hp1
    refine kO_go hz1 ?_
    walk_at "x"
    refine kO_go eg2 ?_
    walk_at "x"
    refine ⟨bg1, kO_go eh2 ?_⟩
    walk_at "x"
    refine ⟨by omega, fun ms2 hp2 hs2 => ?_⟩
    obtain ⟨z2, hz2⟩ := second bh1 hp2
    refine kO_go hz2 ?_
    walk_at "x"
    refine kO_go eh2 ?_
    walk_at "x"
    refine ⟨bh1, ?_⟩
    have hL : ∃ od2 : List Int, List.map D.int (List.take at_.toNat od) ++ [D.int x, D.int y] ++ DL.cutD (List.map D.int od) (some at_) none = od2.map D.int ∧ od2.length ≤ 4 ∧ ∀ z ∈ od2, 0 ≤ z ∧ z < (cs.length : Int) := by
      refine ⟨od.take at_.toNat ++ [x, y] ++ od.drop at_.toNat, by rw [cd]; simp, ?_, ?_⟩
      · simp only [List.length_append, List.length_take, List.length_drop, List.length_cons, List.length_nil]
        omega
      · intro z hz
        simp only [List.mem_append, List.mem_cons, List.not_mem_nil, or_false] at hz
        rcases hz with (hz | hz) | hz
        · exact hod z (List.mem_of_mem_take hz)
        · omega
        · exact hod z (List.mem_of_mem_drop hz)
    obtain ⟨od2, hL, hod2l, hod2⟩ := hL
    refine kF_eachR isBd (fun ρ0 ρ' => ∃ (o : O) (s6 s18 s20 s21 s22 : Sl) (r12 r13 : R), FeedOk o ∧ ((r12 = .ow (.lst (cl.map linkD)) ∧ r13 = .ow (.lst (od2.map D.int))) ∨ (r12 = .fr (.lst (cl.map linkD)) ∧ r13 = .fr (.lst (od2.map D.int)))) ∧
      ρ' = ((((((((ρ0.set 1 (.w o)).set 6 s6).set 12 (.r r12)).set 13 (.r r13)).set 18 s18).set 20 s20).set 21 s21).set 22 s22)) ?_ ⟨o8, _, _, _, _, _, .ow _, .ow (.lst _), ho8, .inl ⟨rfl, by rw [← hL]⟩, rfl⟩ ?_ ?_
    · intro d hd
      simp only [List.mem_cons, List.not_mem_nil, or_false] at hd
      rcases hd with rfl | rfl | rfl | rfl
      · exact ⟨some _, rfl⟩
      · exact ⟨some _, rfl⟩
      · exact ⟨some _, rfl⟩
      · exact ⟨none, rfl⟩
    · rintro d ρ' ⟨bd, rfl⟩ ⟨o, s6, s18, s20, s21, s22, r12, r13, ho, hr, rfl⟩
      rcases hr with ⟨rfl, rfl⟩ | ⟨rfl, rfl⟩
      all_goals
        walk_at "x"
        refine ⟨by omega, ?_⟩
        refine kC_mapS (fun i acc => acc = (List.replicate i (none : Option Int)).map optD) rfl ?_ ?_
        · rintro i r acc hi rfl
          walk_at "x"
          rw [List.replicate_succ', List.map_append]
          rfl
        rintro acc rfl
        walk_at "x"
        refine ⟨cs, cl, bd, nones cs, od2, rfl, hc, hcl, fits_nones cs, hod2l, hod2, fun tr htr => ?_⟩
        walk_at "x"
        refine ⟨ho, fun tt2 o9 ht20 ht21 ho9 => ?_⟩
        have hleaf : ∃ lf, atI [dearT, clashT g h, clashT h g, splitT g [], clashT 0 ((cs.length : Int) - 1)] tt2 = some lf ∧ TreeOk 1 lf := by
          have q : tt2 = 0 ∨ tt2 = 1 ∨ tt2 = 2 ∨ tt2 = 3 ∨ tt2 = 4 := by omega
          rcases q with rfl | rfl | rfl | rfl | rfl
          · exact ⟨_, rfl, treeOk_leaf (.inl rfl)⟩
          · exact ⟨_, rfl, treeOk_leaf (.inr ⟨g, h, rfl, by omega, by omega⟩)⟩
          · exact ⟨_, rfl, treeOk_leaf (.inr ⟨h, g, rfl, by omega, by omega⟩)⟩
          · exact ⟨_, rfl, .inr ⟨g, [], rfl, by omega, by simp, by simp⟩⟩
          · exact ⟨_, rfl, treeOk_leaf (.inr ⟨0, _, rfl, by omega, by omega⟩)⟩
        obtain ⟨lf, hlf, hlfo⟩ := hleaf
        refine kO_go hlf ?_
        walk_at "x"
        refine ⟨o9, tr, lf, rfl, ho9, htr, hlfo, fun sp o10 hsp ho10 => ?_⟩
        walk_at "x"
        refine kF_eachV 22 isBd _ ?_ rfl ?_ ?_
        · intro d hd
          simp only [List.mem_cons, List.not_mem_nil, or_false] at hd
          rcases hd with rfl | rfl | rfl
          · exact ⟨some _, rfl⟩
          · exact ⟨some _, rfl⟩
          · exact ⟨bd, rfl⟩
        · rintro d s ⟨bd', rfl⟩
          walk_at "x"
          refine ⟨cs, cl, bd', tr, rfl, hc, hcl, htr.ok.upTo (by omega), by omega, ?_⟩
          walk_at "x"
          refine ⟨cs, cl, bd', sp, rfl, hc, hcl, hsp, by omega, ?_⟩
          walk_at "x"
          exact ⟨_, rfl⟩
        · intro s
          exact ⟨o10, _, _, _, _, _, _, _, ho10, .inr ⟨rfl, rfl⟩, rfl⟩
    · rintro ρ' ⟨o, s6, s18, s20, s21, s22, r12, r13, ho, hr, rfl⟩
      exact ⟨o, _, _, _, _, _, _, _, _, _, _, _, _, _, _, _, _, _, _, ho, hx14, rfl⟩
  · rintro ρ ⟨o, s2, s4, s6, s7, s8, s10, s11, s12, s13, s14, s15, s16, s17, s18, s19, s20, s21, s22, ho, h14, rfl⟩
    have ok14 : (match some s14 with
      | some Sl.un => true
      | some (Sl.r (R.fr d)) => true
      | some (Sl.r (R.ow o)) => false
      | some (Sl.io o) => false
      | none => false) = true := by
      rcases h14 with rfl | ⟨d, rfl⟩ <;> rfl
    walk_at "x"
    have lr := rangeD_len 0 8
    refine ⟨ok14, by omega, ?_⟩
    refine kC_rangeS (fun i acc => acc = (List.range i).map fun (k : Nat) => rowD [9, 9, 9, 1 + (k : Int)]) rfl ?_ ?_
    · rintro i acc hi rfl
      walk_at "x"
      rw [List.range_succ, List.map_append]
      rfl
    rintro acc rfl
    have e8 : ((List.range 8).map fun (k : Nat) => rowD [9, 9, 9, 1 + (k : Int)]) = cs8.map rowD := rfl
    rw [e8]
    walk_at "x"
    refine kF_eachR (fun d => d = .int 36 ∨ d = .int 37) (fun ρ0 ρ' => ∃ (r3 : R) (s4 s9 : Sl), (r3 = .ow (.lst (cs8.map rowD)) ∨ r3 = .fr (.lst (cs8.map rowD))) ∧ ρ' = (((ρ0.set 3 (.r r3)).set 4 s4).set 9 s9)) ?_ ⟨_, _, _, .inl rfl, rfl⟩ ?_ ?_
    · intro d hd
      simpa using hd
    · rintro d ρ' hd ⟨r3, x4, x9, hr, rfl⟩
      rcases hr with rfl | rfl
      all_goals
        rcases hd with rfl | rfl
        all_goals
          walk_at "x"
          refine ⟨by have := cs8ok.2.1; omega, ?_⟩
          refine kC_mapS (fun i acc => acc = (cs8.take i).map rowD) rfl ?_ ?_
          · rintro i r acc hi rfl
            unfold rowD
            walk_at "x"
            rw [List.take_add_one, hi, List.map_append]
            rfl
          rintro acc rfl
          rw [List.take_length]
          walk_at "x"
          first
          | (refine ⟨cs8, [], some 36, dearT, rfl, cs8ok, ⟨by simp, by simp⟩, treeOk_leaf (.inl rfl), ?_⟩; rw [e36])
          | (refine ⟨cs8, [], some 37, dearT, rfl, cs8ok, ⟨by simp, by simp⟩, treeOk_leaf (.inl rfl), ?_⟩; rw [e37])
          walk_at "x"
          exact ⟨_, _, _, .inr rfl, rfl⟩
    rintro ρ' ⟨r3, x4, x9, hr, rfl⟩
    rcases hr with rfl | rfl
    all_goals
      walk_at "x"
      refine ⟨cs8, cl8, some 37, t8, rfl, cs8ok, cl8ok, t8ok, ?_⟩
      rw [f37]
      walk_at "x"
      refine ⟨cs8, cl8, some 38, t8, rfl, cs8ok, cl8ok, t8ok, ?_⟩
      rw [f38]
      walk_at "x"
      exact hG
end K59
set_option Elab.async false
set_option linter.all false
set_option maxRecDepth 100000
set_option maxHeartbeats 4000000
namespace K59
open PySem PySem.Spec PyProof.Rows L2 Evl DL
/-! ### what the top has written; who calls whom -/
section
variable {P : Program} {w : World} {K : PySem.W.Frag} {mg : Str → Option Value} {B : Heap}
/-- every def stands where its name says -/
structure Defs (K : PySem.W.Frag) (mg : Str → Option Value) : Prop where
  d1 : ∃ f fd, At K mg "is_whole" s_is_whole ["value"] f fd
  d2 : ∃ f fd, At K mg "least_under" s_least_under ["costs", "fixed"] f fd
  d3 : ∃ f fd, At K mg "is_clash_leaf" s_is_clash_leaf ["clashes", "fixed", "tree"] f fd
  d4 : ∃ f fd, At K mg "is_split" s_is_split ["costs", "clashes", "bound", "fixed", "tree"] f fd
  d5 : ∃ f fd, At K mg "is_tree" s_is_tree ["costs", "clashes", "bound", "fixed", "tree"] f fd
  d6 : ∃ f fd, At K mg "shows_tree" s_shows_tree ["costs", "clashes", "bound", "tree"] f fd
  d7 : ∃ f fd, At K mg "_law_feed" s__law_feed ["script"] f fd
  d8 : ∃ f fd, At K mg "_law_draw" s__law_draw ["feed", "many"] f fd
  d9 : ∃ f fd, At K mg "_law_is_whole" s__law_is_whole ["x"] f fd
  d10 : ∃ f fd, At K mg "_law_least" s__law_least ["costs", "fixed"] f fd
  d11 : ∃ f fd, At K mg "_law_tree" s__law_tree ["costs", "clashes", "bound", "fixed", "tree"] f fd
  d12 : ∃ f fd, At K mg "_law_costs" s__law_costs ["feed"] f fd
  d13 : ∃ f fd, At K mg "_law_cheap" s__law_cheap ["row"] f fd
  d14 : ∃ f fd, At K mg "_law_clashes" s__law_clashes ["feed", "costs", "g", "h"] f fd
  d15 : ∃ f fd, At K mg "_law_grow" s__law_grow ["costs", "clashes", "bound", "fixed", "order"] f fd
  d16 : ∃ f fd, At K mg "_law_put" s__law_put ["feed", "tree", "leaf"] f fd
  d17 : ∃ f fd, At K mg "_law_asks" s__law_asks ["costs", "clashes", "bound", "tree"] f fd
  d18 : ∃ f fd, At K mg "law" s_law ["script"] f fd
  z_abs : mg "abs" = none
  z_bool : mg "bool" = none
  z_enumerate : mg "enumerate" = none
  z_int : mg "int" = none
  z_isinstance : mg "isinstance" = none
  z_len : mg "len" = none
  z_list : mg "list" = none
  z_min : mg "min" = none
  z_range : mg "range" = none
  z_repr : mg "repr" = none
  z_sorted : mg "sorted" = none
  z_str : mg "str" = none
  z_sum : mg "sum" = none
  z_tuple : mg "tuple" = none
end
theorem all_mk {K : PySem.W.Frag} {h : Heap} {mg : Str → Option Value} {fa : Addr} (X : K.In h) (G : h.Ns mainGlobals mg) (hfa : mg "law" = some (.ref fa))
    {f1 : Addr} {od1 an1 : Option Addr} {sl1 : Array (Option Value)} {oc1 kV1 dc1 pm1 cd1 ct1 : Value} {f2 : Addr} {od2 an2 : Option Addr} {sl2 : Array (Option Value)} {oc2 kV2 dc2 pm2 cd2 ct2 : Value} {f3 : Addr} {od3 an3 : Option Addr} {sl3 : Array (Option Value)} {oc3 kV3 dc3 pm3 cd3 ct3 : Value} {f4 : Addr} {od4 an4 : Option Addr} {sl4 : Array (Option Value)} {oc4 kV4 dc4 pm4 cd4 ct4 : Value} {f5 : Addr} {od5 an5 : Option Addr} {sl5 : Array (Option Value)} {oc5 kV5 dc5 pm5 cd5 ct5 : Value} {f6 : Addr} {od6 an6 : Option Addr} {sl6 : Array (Option Value)} {oc6 kV6 dc6 pm6 cd6 ct6 : Value} {f7 : Addr} {od7 an7 : Option Addr} {sl7 : Array (Option Value)} {oc7 kV7 dc7 pm7 cd7 ct7 : Value} {f8 : Addr} {od8 an8 : Option Addr} {sl8 : Array (Option Value)} {oc8 kV8 dc8 pm8 cd8 ct8 : Value} {f9 : Addr} {od9 an9 : Option Addr} {sl9 : Array (Option Value)} {oc9 kV9 dc9 pm9 cd9 ct9 : Value} {f10 : Addr} {od10 an10 : Option Addr} {sl10 : Array (Option Value)} {oc10 kV10 dc10 pm10 cd10 ct10 : Value} {f11 : Addr} {od11 an11 : Option Addr} {sl11 : Array (Option Value)} {oc11 kV11 dc11 pm11 cd11 ct11 : Value} {f12 : Addr} {od12 an12 : Option Addr} {sl12 : Array (Option Value)} {oc12 kV12 dc12 pm12 cd12 ct12 : Value} {f13 : Addr} {od13 an13 : Option Addr} {sl13 : Array (Option Value)} {oc13 kV13 dc13 pm13 cd13 ct13 : Value} {f14 : Addr} {od14 an14 : Option Addr} {sl14 : Array (Option Value)} {oc14 kV14 dc14 pm14 cd14 ct14 : Value} {f15 : Addr} {od15 an15 : Option Addr} {sl15 : Array (Option Value)} {oc15 kV15 dc15 pm15 cd15 ct15 : Value} {f16 : Addr} {od16 an16 : Option Addr} {sl16 : Array (Option Value)} {oc16 kV16 dc16 pm16 cd16 ct16 : Value} {f17 : Addr} {od17 an17 : Option Addr} {sl17 : Array (Option Value)} {oc17 kV17 dc17 pm17 cd17 ct17 : Value} {f18 : Addr} {od18 an18 : Option Addr} {sl18 : Array (Option Value)} {oc18 kV18 dc18 pm18 cd18 ct18 : Value}
    (a1 : PySem.W.nsIn K mainGlobals "is_whole" = some (some (.ref f1))) (l1 : K.lookup f1 = some ⟨oc1, od1, .func (PySem.W.fnOf "is_whole" "is_whole" (defArgs s_is_whole) (defBody s_is_whole) (defScope s_is_whole) .none kV1 dc1 pm1 an1 cd1 ct1), sl1⟩) (c1 : PySem.W.codeIn K cd1 "is_whole" = true) (k1 : PySem.W.keepIn K (.ref f1) = true)
    (a2 : PySem.W.nsIn K mainGlobals "least_under" = some (some (.ref f2))) (l2 : K.lookup f2 = some ⟨oc2, od2, .func (PySem.W.fnOf "least_under" "least_under" (defArgs s_least_under) (defBody s_least_under) (defScope s_least_under) .none kV2 dc2 pm2 an2 cd2 ct2), sl2⟩) (c2 : PySem.W.codeIn K cd2 "least_under" = true) (k2 : PySem.W.keepIn K (.ref f2) = true)
    (a3 : PySem.W.nsIn K mainGlobals "is_clash_leaf" = some (some (.ref f3))) (l3 : K.lookup f3 = some ⟨oc3, od3, .func (PySem.W.fnOf "is_clash_leaf" "is_clash_leaf" (defArgs s_is_clash_leaf) (defBody s_is_clash_leaf) (defScope s_is_clash_leaf) .none kV3 dc3 pm3 an3 cd3 ct3), sl3⟩) (c3 : PySem.W.codeIn K cd3 "is_clash_leaf" = true) (k3 : PySem.W.keepIn K (.ref f3) = true)
    (a4 : PySem.W.nsIn K mainGlobals "is_split" = some (some (.ref f4))) (l4 : K.lookup f4 = some ⟨oc4, od4, .func (PySem.W.fnOf "is_split" "is_split" (defArgs s_is_split) (defBody s_is_split) (defScope s_is_split) .none kV4 dc4 pm4 an4 cd4 ct4), sl4⟩) (c4 : PySem.W.codeIn K cd4 "is_split" = true) (k4 : PySem.W.keepIn K (.ref f4) = true)
    (a5 : PySem.W.nsIn K mainGlobals "is_tree" = some (some (.ref f5))) (l5 : K.lookup f5 = some ⟨oc5, od5, .func (PySem.W.fnOf "is_tree" "is_tree" (defArgs s_is_tree) (defBody s_is_tree) (defScope s_is_tree) .none kV5 dc5 pm5 an5 cd5 ct5), sl5⟩) (c5 : PySem.W.codeIn K cd5 "is_tree" = true) (k5 : PySem.W.keepIn K (.ref f5) = true)
    (a6 : PySem.W.nsIn K mainGlobals "shows_tree" = some (some (.ref f6))) (l6 : K.lookup f6 = some ⟨oc6, od6, .func (PySem.W.fnOf "shows_tree" "shows_tree" (defArgs s_shows_tree) (defBody s_shows_tree) (defScope s_shows_tree) .none kV6 dc6 pm6 an6 cd6 ct6), sl6⟩) (c6 : PySem.W.codeIn K cd6 "shows_tree" = true) (k6 : PySem.W.keepIn K (.ref f6) = true)
    (a7 : PySem.W.nsIn K mainGlobals "_law_feed" = some (some (.ref f7))) (l7 : K.lookup f7 = some ⟨oc7, od7, .func (PySem.W.fnOf "_law_feed" "_law_feed" (defArgs s__law_feed) (defBody s__law_feed) (defScope s__law_feed) .none kV7 dc7 pm7 an7 cd7 ct7), sl7⟩) (c7 : PySem.W.codeIn K cd7 "_law_feed" = true) (k7 : PySem.W.keepIn K (.ref f7) = true)
    (a8 : PySem.W.nsIn K mainGlobals "_law_draw" = some (some (.ref f8))) (l8 : K.lookup f8 = some ⟨oc8, od8, .func (PySem.W.fnOf "_law_draw" "_law_draw" (defArgs s__law_draw) (defBody s__law_draw) (defScope s__law_draw) .none kV8 dc8 pm8 an8 cd8 ct8), sl8⟩) (c8 : PySem.W.codeIn K cd8 "_law_draw" = true) (k8 : PySem.W.keepIn K (.ref f8) = true)
    (a9 : PySem.W.nsIn K mainGlobals "_law_is_whole" = some (some (.ref f9))) (l9 : K.lookup f9 = some ⟨oc9, od9, .func (PySem.W.fnOf "_law_is_whole" "_law_is_whole" (defArgs s__law_is_whole) (defBody s__law_is_whole) (defScope s__law_is_whole) .none kV9 dc9 pm9 an9 cd9 ct9), sl9⟩) (c9 : PySem.W.codeIn K cd9 "_law_is_whole" = true) (k9 : PySem.W.keepIn K (.ref f9) = true)
    (a10 : PySem.W.nsIn K mainGlobals "_law_least" = some (some (.ref f10))) (l10 : K.lookup f10 = some ⟨oc10, od10, .func (PySem.W.fnOf "_law_least" "_law_least" (defArgs s__law_least) (defBody s__law_least) (defScope s__law_least) .none kV10 dc10 pm10 an10 cd10 ct10), sl10⟩) (c10 : PySem.W.codeIn K cd10 "_law_least" = true) (k10 : PySem.W.keepIn K (.ref f10) = true)
    (a11 : PySem.W.nsIn K mainGlobals "_law_tree" = some (some (.ref f11))) (l11 : K.lookup f11 = some ⟨oc11, od11, .func (PySem.W.fnOf "_law_tree" "_law_tree" (defArgs s__law_tree) (defBody s__law_tree) (defScope s__law_tree) .none kV11 dc11 pm11 an11 cd11 ct11), sl11⟩) (c11 : PySem.W.codeIn K cd11 "_law_tree" = true) (k11 : PySem.W.keepIn K (.ref f11) = true)
    (a12 : PySem.W.nsIn K mainGlobals "_law_costs" = some (some (.ref f12))) (l12 : K.lookup f12 = some ⟨oc12, od12, .func (PySem.W.fnOf "_law_costs" "_law_costs" (defArgs s__law_costs) (defBody s__law_costs) (defScope s__law_costs) .none kV12 dc12 pm12 an12 cd12 ct12), sl12⟩) (c12 : PySem.W.codeIn K cd12 "_law_costs" = true) (k12 : PySem.W.keepIn K (.ref f12) = true)
    (a13 : PySem.W.nsIn K mainGlobals "_law_cheap" = some (some (.ref f13))) (l13 : K.lookup f13 = some ⟨oc13, od13, .func (PySem.W.fnOf "_law_cheap" "_law_cheap" (defArgs s__law_cheap) (defBody s__law_cheap) (defScope s__law_cheap) .none kV13 dc13 pm13 an13 cd13 ct13), sl13⟩) (c13 : PySem.W.codeIn K cd13 "_law_cheap" = true) (k13 : PySem.W.keepIn K (.ref f13) = true)
    (a14 : PySem.W.nsIn K mainGlobals "_law_clashes" = some (some (.ref f14))) (l14 : K.lookup f14 = some ⟨oc14, od14, .func (PySem.W.fnOf "_law_clashes" "_law_clashes" (defArgs s__law_clashes) (defBody s__law_clashes) (defScope s__law_clashes) .none kV14 dc14 pm14 an14 cd14 ct14), sl14⟩) (c14 : PySem.W.codeIn K cd14 "_law_clashes" = true) (k14 : PySem.W.keepIn K (.ref f14) = true)
    (a15 : PySem.W.nsIn K mainGlobals "_law_grow" = some (some (.ref f15))) (l15 : K.lookup f15 = some ⟨oc15, od15, .func (PySem.W.fnOf "_law_grow" "_law_grow" (defArgs s__law_grow) (defBody s__law_grow) (defScope s__law_grow) .none kV15 dc15 pm15 an15 cd15 ct15), sl15⟩) (c15 : PySem.W.codeIn K cd15 "_law_grow" = true) (k15 : PySem.W.keepIn K (.ref f15) = true)
    (a16 : PySem.W.nsIn K mainGlobals "_law_put" = some (some (.ref f16))) (l16 : K.lookup f16 = some ⟨oc16, od16, .func (PySem.W.fnOf "_law_put" "_law_put" (defArgs s__law_put) (defBody s__law_put) (defScope s__law_put) .none kV16 dc16 pm16 an16 cd16 ct16), sl16⟩) (c16 : PySem.W.codeIn K cd16 "_law_put" = true) (k16 : PySem.W.keepIn K (.ref f16) = true)
    (a17 : PySem.W.nsIn K mainGlobals "_law_asks" = some (some (.ref f17))) (l17 : K.lookup f17 = some ⟨oc17, od17, .func (PySem.W.fnOf "_law_asks" "_law_asks" (defArgs s__law_asks) (defBody s__law_asks) (defScope s__law_asks) .none kV17 dc17 pm17 an17 cd17 ct17), sl17⟩) (c17 : PySem.W.codeIn K cd17 "_law_asks" = true) (k17 : PySem.W.keepIn K (.ref f17) = true)
    (a18 : PySem.W.nsIn K mainGlobals "law" = some (some (.ref f18))) (l18 : K.lookup f18 = some ⟨oc18, od18, .func (PySem.W.fnOf "law" "law" (defArgs s_law) (defBody s_law) (defScope s_law) .none kV18 dc18 pm18 an18 cd18 ct18), sl18⟩) (c18 : PySem.W.codeIn K cd18 "law" = true) (k18 : PySem.W.keepIn K (.ref f18) = true)
    (y0 : PySem.W.nsIn K mainGlobals "abs" = some none)
    (y1 : PySem.W.nsIn K mainGlobals "bool" = some none)
    (y2 : PySem.W.nsIn K mainGlobals "enumerate" = some none)
    (y3 : PySem.W.nsIn K mainGlobals "int" = some none)
    (y4 : PySem.W.nsIn K mainGlobals "isinstance" = some none)
    (y5 : PySem.W.nsIn K mainGlobals "len" = some none)
    (y6 : PySem.W.nsIn K mainGlobals "list" = some none)
    (y7 : PySem.W.nsIn K mainGlobals "min" = some none)
    (y8 : PySem.W.nsIn K mainGlobals "range" = some none)
    (y9 : PySem.W.nsIn K mainGlobals "repr" = some none)
    (y10 : PySem.W.nsIn K mainGlobals "sorted" = some none)
    (y11 : PySem.W.nsIn K mainGlobals "str" = some none)
    (y12 : PySem.W.nsIn K mainGlobals "sum" = some none)
    (y13 : PySem.W.nsIn K mainGlobals "tuple" = some none)
    : Defs K mg ∧ ∃ fd, At K mg "law" s_law ["script"] fa fd ∧ ∀ (s : Shared) (v : Value), BindsTo s fd ⟨[v], []⟩ [("script", v)] := by
  have e := hfa.symm.trans (PySem.W.mg_of X G a18)
  cases e
  have F1 := fun_mk (st := s_is_whole) l1 c1 k1
  have b1 := F1.binds (ps := ["value"]) fun _ _ _ _ _ _ us hl => match us, hl with | [_], _ => rfl
  have F2 := fun_mk (st := s_least_under) l2 c2 k2
  have b2 := F2.binds (ps := ["costs", "fixed"]) fun _ _ _ _ _ _ us hl => match us, hl with | [_, _], _ => rfl
  have F3 := fun_mk (st := s_is_clash_leaf) l3 c3 k3
  have b3 := F3.binds (ps := ["clashes", "fixed", "tree"]) fun _ _ _ _ _ _ us hl => match us, hl with | [_, _, _], _ => rfl
  have F4 := fun_mk (st := s_is_split) l4 c4 k4
  have b4 := F4.binds (ps := ["costs", "clashes", "bound", "fixed", "tree"]) fun _ _ _ _ _ _ us hl => match us, hl with | [_, _, _, _, _], _ => rfl
  have F5 := fun_mk (st := s_is_tree) l5 c5 k5
  have b5 := F5.binds (ps := ["costs", "clashes", "bound", "fixed", "tree"]) fun _ _ _ _ _ _ us hl => match us, hl with | [_, _, _, _, _], _ => rfl
  have F6 := fun_mk (st := s_shows_tree) l6 c6 k6
  have b6 := F6.binds (ps := ["costs", "clashes", "bound", "tree"]) fun _ _ _ _ _ _ us hl => match us, hl with | [_, _, _, _], _ => rfl
  have F7 := fun_mk (st := s__law_feed) l7 c7 k7
  have b7 := F7.binds (ps := ["script"]) fun _ _ _ _ _ _ us hl => match us, hl with | [_], _ => rfl
  have F8 := fun_mk (st := s__law_draw) l8 c8 k8
  have b8 := F8.binds (ps := ["feed", "many"]) fun _ _ _ _ _ _ us hl => match us, hl with | [_, _], _ => rfl
  have F9 := fun_mk (st := s__law_is_whole) l9 c9 k9
  have b9 := F9.binds (ps := ["x"]) fun _ _ _ _ _ _ us hl => match us, hl with | [_], _ => rfl
  have F10 := fun_mk (st := s__law_least) l10 c10 k10
  have b10 := F10.binds (ps := ["costs", "fixed"]) fun _ _ _ _ _ _ us hl => match us, hl with | [_, _], _ => rfl
  have F11 := fun_mk (st := s__law_tree) l11 c11 k11
  have b11 := F11.binds (ps := ["costs", "clashes", "bound", "fixed", "tree"]) fun _ _ _ _ _ _ us hl => match us, hl with | [_, _, _, _, _], _ => rfl
  have F12 := fun_mk (st := s__law_costs) l12 c12 k12
  have b12 := F12.binds (ps := ["feed"]) fun _ _ _ _ _ _ us hl => match us, hl with | [_], _ => rfl
  have F13 := fun_mk (st := s__law_cheap) l13 c13 k13
  have b13 := F13.binds (ps := ["row"]) fun _ _ _ _ _ _ us hl => match us, hl with | [_], _ => rfl
  have F14 := fun_mk (st := s__law_clashes) l14 c14 k14
  have b14 := F14.binds (ps := ["feed", "costs", "g", "h"]) fun _ _ _ _ _ _ us hl => match us, hl with | [_, _, _, _], _ => rfl
  have F15 := fun_mk (st := s__law_grow) l15 c15 k15
  have b15 := F15.binds (ps := ["costs", "clashes", "bound", "fixed", "order"]) fun _ _ _ _ _ _ us hl => match us, hl with | [_, _, _, _, _], _ => rfl
  have F16 := fun_mk (st := s__law_put) l16 c16 k16
  have b16 := F16.binds (ps := ["feed", "tree", "leaf"]) fun _ _ _ _ _ _ us hl => match us, hl with | [_, _, _], _ => rfl
  have F17 := fun_mk (st := s__law_asks) l17 c17 k17
  have b17 := F17.binds (ps := ["costs", "clashes", "bound", "tree"]) fun _ _ _ _ _ _ us hl => match us, hl with | [_, _, _, _], _ => rfl
  have F18 := fun_mk (st := s_law) l18 c18 k18
  have b18 := F18.binds (ps := ["script"]) fun _ _ _ _ _ _ us hl => match us, hl with | [_], _ => rfl
  exact ⟨⟨⟨_, _, ⟨F1, PySem.W.mg_of X G a1, b1⟩⟩, ⟨_, _, ⟨F2, PySem.W.mg_of X G a2, b2⟩⟩, ⟨_, _, ⟨F3, PySem.W.mg_of X G a3, b3⟩⟩, ⟨_, _, ⟨F4, PySem.W.mg_of X G a4, b4⟩⟩, ⟨_, _, ⟨F5, PySem.W.mg_of X G a5, b5⟩⟩, ⟨_, _, ⟨F6, PySem.W.mg_of X G a6, b6⟩⟩, ⟨_, _, ⟨F7, PySem.W.mg_of X G a7, b7⟩⟩, ⟨_, _, ⟨F8, PySem.W.mg_of X G a8, b8⟩⟩, ⟨_, _, ⟨F9, PySem.W.mg_of X G a9, b9⟩⟩, ⟨_, _, ⟨F10, PySem.W.mg_of X G a10, b10⟩⟩, ⟨_, _, ⟨F11, PySem.W.mg_of X G a11, b11⟩⟩, ⟨_, _, ⟨F12, PySem.W.mg_of X G a12, b12⟩⟩, ⟨_, _, ⟨F13, PySem.W.mg_of X G a13, b13⟩⟩, ⟨_, _, ⟨F14, PySem.W.mg_of X G a14, b14⟩⟩, ⟨_, _, ⟨F15, PySem.W.mg_of X G a15, b15⟩⟩, ⟨_, _, ⟨F16, PySem.W.mg_of X G a16, b16⟩⟩, ⟨_, _, ⟨F17, PySem.W.mg_of X G a17, b17⟩⟩, ⟨_, _, ⟨F18, PySem.W.mg_of X G a18, b18⟩⟩, PySem.W.mg_none_of X G y0, PySem.W.mg_none_of X G y1, PySem.W.mg_none_of X G y2, PySem.W.mg_none_of X G y3, PySem.W.mg_none_of X G y4, PySem.W.mg_none_of X G y5, PySem.W.mg_none_of X G y6, PySem.W.mg_none_of X G y7, PySem.W.mg_none_of X G y8, PySem.W.mg_none_of X G y9, PySem.W.mg_none_of X G y10, PySem.W.mg_none_of X G y11, PySem.W.mg_none_of X G y12, PySem.W.mg_none_of X G y13⟩, _, ⟨F18, PySem.W.mg_of X G a18, b18⟩, fun s v => .of_eq rfl⟩
theorem law_spD {K : PySem.W.Frag} {H : Hp} {a : Addr} {ns : List Int} {sem : Sem} {E : XK} (hS : SqL K H a (ns.map V.int)) (h : ∀ G : R → SEnv → Prop, G (.fr (.bl true)) [.f (.ro (ns.map D.int))] → sem [.f (.ro (ns.map D.int))] G) :
    spD K sem [.ref a] H (fun v _ => v = .bl true) E := by
  refine ⟨[.f (.ro (ns.map D.int))], ⟨fun _ => a, H, H, fun _ => False, fun _ h => h.elim⟩, H, fun r as' => r = .fr (.bl true), rfl, rfl, fun b => ⟨fun h => h.elim, fun h => ?_⟩, ?_, fun i s hs => ?_, h _ rfl, fun r as' v H0' H' g e re rr => ?_⟩
  · obtain ⟨i, o, h1, _⟩ := h
    cases i with
    | zero => cases h1
    | succ i => cases h1
  · have get : ∀ {i : Nat} {s : Sl}, ([.f (.ro (ns.map D.int))] : SEnv)[i]? = some s → i = 0 ∧ s = .f (.ro (ns.map D.int)) := by
      intro i s hs
      cases i with
      | zero => exact ⟨rfl, (Option.some.inj hs).symm⟩
      | succ i => cases hs
    refine ⟨Ex.refl _, fun b u hb _ => hb, fun b u hb hb2 => ?_, fun b h => h.elim, rfl, fun i d hi => ?_, fun i s o hi ho => ?_, fun i o p hi => ?_, fun i o hi => ?_, fun i j s t o o' p hij hi => ?_⟩
    · exact absurd (hb.symm.trans hb2) (by simp)
    · obtain ⟨rfl, q⟩ := get hi
      cases q
      exact ⟨_, rfl, .ro hS (RpA.ofInts ns)⟩
    · obtain ⟨rfl, rfl⟩ := get hi
      cases ho
    · obtain ⟨_, q⟩ := get hi
      cases q
    · obtain ⟨_, q⟩ := get hi
      cases q
    · intro hj ho ho'
      obtain ⟨rfl, rfl⟩ := get hi
      cases ho
  · cases i with
    | zero =>
      cases hs
      rfl
    | succ i => cases hs
  · subst g
    cases rr
    rfl
theorem has_tree {P : Program} {w : World} {K : PySem.W.Frag} {mg : Str → Option Value} {B : Heap} (D : Defs K mg) : ∀ n : Nat, Has P w K mg B (2 * n + 3) "is_tree" ["costs", "clashes", "bound", "fixed", "tree"] (sem_is_tree n) := by
  obtain ⟨⟨f1, fd1, A1⟩, ⟨f2, fd2, A2⟩, ⟨f3, fd3, A3⟩, ⟨f4, fd4, A4⟩, ⟨f5, fd5, A5⟩, ⟨f6, fd6, A6⟩, ⟨f7, fd7, A7⟩, ⟨f8, fd8, A8⟩, ⟨f9, fd9, A9⟩, ⟨f10, fd10, A10⟩, ⟨f11, fd11, A11⟩, ⟨f12, fd12, A12⟩, ⟨f13, fd13, A13⟩, ⟨f14, fd14, A14⟩, ⟨f15, fd15, A15⟩, ⟨f16, fd16, A16⟩, ⟨f17, fd17, A17⟩, ⟨f18, fd18, A18⟩, z_abs, z_bool, z_enumerate, z_int, z_isinstance, z_len, z_list, z_min, z_range, z_repr, z_sorted, z_str, z_sum, z_tuple⟩ := D
  have h_is_whole : Has P w K mg B 1 "is_whole" ["value"] sem_is_whole := by
    exact A1.has (fnD A1.F sc_is_whole (fun cdv A fr s H E c hgd hr => by apply der_is_whole <;> assumption) rd_is_whole)
  have h_least_under : Has P w K mg B 1 "least_under" ["costs", "fixed"] sem_least := by
    exact A2.has (fnD A2.F sc_least_under (fun cdv A fr s H E c hgd hr => by apply der_least_under <;> assumption) rd_least_under)
  have h_is_clash_leaf : Has P w K mg B 2 "is_clash_leaf" ["clashes", "fixed", "tree"] sem_is_clash_leaf := by
    have u0 := (h_is_whole).up (k := 1) (by omega)
    exact A3.has (fnD A3.F sc_is_clash_leaf (fun cdv A fr s H E c hgd hr => by apply der_is_clash_leaf <;> assumption) rd_is_clash_leaf)
  intro n
  induction n with
  | zero =>
    have hsp : Has P w K mg B 2 "is_split" ["costs", "clashes", "bound", "fixed", "tree"] (sem_is_splitP 0) := A4.has (FnG.nothing fun vs H Q E h => by
      obtain ⟨as, c, H0, G, _, _, _, _, _, h, _⟩ := h
      exact h)
    have u0 := h_least_under.up (k := 2) (by omega)
    have u1 := h_is_clash_leaf.up (k := 2) (by omega)
    exact A5.has (fnD (k := 2) A5.F sc_is_tree (fun cdv A fr s H E c hgd hr => by apply der_is_tree <;> assumption) (rd_is_tree 0))
  | succ n ih =>
    have hsp : Has P w K mg B (2 * n + 4) "is_split" ["costs", "clashes", "bound", "fixed", "tree"] (sem_is_splitP (n + 1)) := by
      have u0 := h_is_whole.up (k := 2 * n + 3) (by omega)
      exact A4.has (fnD (k := 2 * n + 3) A4.F sc_is_split (fun cdv A fr s H E c hgd hr => by apply der_is_split <;> assumption) (rd_is_split n))
    have u0 := h_least_under.up (k := 2 * n + 4) (by omega)
    have u1 := h_is_clash_leaf.up (k := 2 * n + 4) (by omega)
    exact A5.has (fnD (k := 2 * n + 4) A5.F sc_is_tree (fun cdv A fr s H E c hgd hr => by apply der_is_tree <;> assumption) (rd_is_tree (n + 1)))
theorem has_ltree {P : Program} {w : World} {K : PySem.W.Frag} {mg : Str → Option Value} {B : Heap} (D : Defs K mg) : ∀ n : Nat, Has P w K mg B (n + 2) "_law_tree" ["costs", "clashes", "bound", "fixed", "tree"] (sem_is_tree n) := by
  obtain ⟨⟨f1, fd1, A1⟩, ⟨f2, fd2, A2⟩, ⟨f3, fd3, A3⟩, ⟨f4, fd4, A4⟩, ⟨f5, fd5, A5⟩, ⟨f6, fd6, A6⟩, ⟨f7, fd7, A7⟩, ⟨f8, fd8, A8⟩, ⟨f9, fd9, A9⟩, ⟨f10, fd10, A10⟩, ⟨f11, fd11, A11⟩, ⟨f12, fd12, A12⟩, ⟨f13, fd13, A13⟩, ⟨f14, fd14, A14⟩, ⟨f15, fd15, A15⟩, ⟨f16, fd16, A16⟩, ⟨f17, fd17, A17⟩, ⟨f18, fd18, A18⟩, z_abs, z_bool, z_enumerate, z_int, z_isinstance, z_len, z_list, z_min, z_range, z_repr, z_sorted, z_str, z_sum, z_tuple⟩ := D
  have h__law_is_whole : Has P w K mg B 1 "_law_is_whole" ["x"] sem_is_whole := by
    exact A9.has (fnD A9.F sc__law_is_whole (fun cdv A fr s H E c hgd hr => by apply der__law_is_whole <;> assumption) rd__law_is_whole)
  have h__law_least : Has P w K mg B 1 "_law_least" ["costs", "fixed"] sem_least := by
    exact A10.has (fnD A10.F sc__law_least (fun cdv A fr s H E c hgd hr => by apply der__law_least <;> assumption) rd__law_least)
  intro n
  induction n with
  | zero =>
    have hsp : Has P w K mg B 1 "_law_tree" ["costs", "clashes", "bound", "fixed", "tree"] (sem_is_treeP 0) := A11.has (FnG.nothing fun vs H Q E h => by
      obtain ⟨as, c, H0, G, _, _, _, _, _, h, _⟩ := h
      exact h)
    have u0 := h__law_least.up (k := 1) (by omega)
    have u1 := h__law_is_whole.up (k := 1) (by omega)
    exact A11.has (fnD (k := 1) A11.F sc__law_tree (fun cdv A fr s H E c hgd hr => by apply der__law_tree <;> assumption) (rd__law_tree 0))
  | succ n ih =>
    have hsp : Has P w K mg B (n + 2) "_law_tree" ["costs", "clashes", "bound", "fixed", "tree"] (sem_is_treeP (n + 1)) := ih
    have u0 := h__law_least.up (k := n + 2) (by omega)
    have u1 := h__law_is_whole.up (k := n + 2) (by omega)
    exact A11.has (fnD (k := n + 2) A11.F sc__law_tree (fun cdv A fr s H E c hgd hr => by apply der__law_tree <;> assumption) (rd__law_tree (n + 1)))
theorem has_grow {P : Program} {w : World} {K : PySem.W.Frag} {mg : Str → Option Value} {B : Heap} (D : Defs K mg) : ∀ n : Nat, Has P w K mg B (n + 2) "_law_grow" ["costs", "clashes", "bound", "fixed", "order"] (sem_grow n) := by
  obtain ⟨⟨f1, fd1, A1⟩, ⟨f2, fd2, A2⟩, ⟨f3, fd3, A3⟩, ⟨f4, fd4, A4⟩, ⟨f5, fd5, A5⟩, ⟨f6, fd6, A6⟩, ⟨f7, fd7, A7⟩, ⟨f8, fd8, A8⟩, ⟨f9, fd9, A9⟩, ⟨f10, fd10, A10⟩, ⟨f11, fd11, A11⟩, ⟨f12, fd12, A12⟩, ⟨f13, fd13, A13⟩, ⟨f14, fd14, A14⟩, ⟨f15, fd15, A15⟩, ⟨f16, fd16, A16⟩, ⟨f17, fd17, A17⟩, ⟨f18, fd18, A18⟩, z_abs, z_bool, z_enumerate, z_int, z_isinstance, z_len, z_list, z_min, z_range, z_repr, z_sorted, z_str, z_sum, z_tuple⟩ := D
  have h__law_least : Has P w K mg B 1 "_law_least" ["costs", "fixed"] sem_least := by
    exact A10.has (fnD A10.F sc__law_least (fun cdv A fr s H E c hgd hr => by apply der__law_least <;> assumption) rd__law_least)
  intro n
  induction n with
  | zero =>
    have hsp : Has P w K mg B 1 "_law_grow" ["costs", "clashes", "bound", "fixed", "order"] (sem_growP 0) := A15.has (FnG.nothing fun vs H Q E h => by
      obtain ⟨as, c, H0, G, _, _, _, _, _, h, _⟩ := h
      exact h)
    have u0 := h__law_least.up (k := 1) (by omega)
    exact A15.has (fnD (k := 1) A15.F sc__law_grow (fun cdv A fr s H E c hgd hr => by apply der__law_grow <;> assumption) (rd__law_grow 0))
  | succ n ih =>
    have hsp : Has P w K mg B (n + 2) "_law_grow" ["costs", "clashes", "bound", "fixed", "order"] (sem_growP (n + 1)) := ih
    have u0 := h__law_least.up (k := n + 2) (by omega)
    exact A15.has (fnD (k := n + 2) A15.F sc__law_grow (fun cdv A fr s H E c hgd hr => by apply der__law_grow <;> assumption) (rd__law_grow (n + 1)))
theorem has_put {P : Program} {w : World} {K : PySem.W.Frag} {mg : Str → Option Value} {B : Heap} (D : Defs K mg) : ∀ n : Nat, Has P w K mg B (n + 2) "_law_put" ["feed", "tree", "leaf"] (sem_put n) := by
  obtain ⟨⟨f1, fd1, A1⟩, ⟨f2, fd2, A2⟩, ⟨f3, fd3, A3⟩, ⟨f4, fd4, A4⟩, ⟨f5, fd5, A5⟩, ⟨f6, fd6, A6⟩, ⟨f7, fd7, A7⟩, ⟨f8, fd8, A8⟩, ⟨f9, fd9, A9⟩, ⟨f10, fd10, A10⟩, ⟨f11, fd11, A11⟩, ⟨f12, fd12, A12⟩, ⟨f13, fd13, A13⟩, ⟨f14, fd14, A14⟩, ⟨f15, fd15, A15⟩, ⟨f16, fd16, A16⟩, ⟨f17, fd17, A17⟩, ⟨f18, fd18, A18⟩, z_abs, z_bool, z_enumerate, z_int, z_isinstance, z_len, z_list, z_min, z_range, z_repr, z_sorted, z_str, z_sum, z_tuple⟩ := D
  have h__law_draw : Has P w K mg B 1 "_law_draw" ["feed", "many"] sem_draw := by
    exact A8.has (fnD A8.F sc__law_draw (fun cdv A fr s H E c hgd hr => by apply der__law_draw <;> assumption) rd_draw)
  intro n
  induction n with
  | zero =>
    have hsp : Has P w K mg B 1 "_law_put" ["feed", "tree", "leaf"] (sem_putP 0) := A16.has (FnG.nothing fun vs H Q E h => by
      obtain ⟨as, c, H0, G, _, _, _, _, _, h, _⟩ := h
      exact h)
    have u0 := h__law_draw.up (k := 1) (by omega)
    exact A16.has (fnD (k := 1) A16.F sc__law_put (fun cdv A fr s H E c hgd hr => by apply der__law_put <;> assumption) (rd__law_put 0))
  | succ n ih =>
    have hsp : Has P w K mg B (n + 2) "_law_put" ["feed", "tree", "leaf"] (sem_putP (n + 1)) := ih
    have u0 := h__law_draw.up (k := n + 2) (by omega)
    exact A16.has (fnD (k := n + 2) A16.F sc__law_put (fun cdv A fr s H E c hgd hr => by apply der__law_put <;> assumption) (rd__law_put (n + 1)))
theorem has_shows {P : Program} {w : World} {K : PySem.W.Frag} {mg : Str → Option Value} {B : Heap} (D : Defs K mg) (n : Nat) : Has P w K mg B (2 * n + 4) "shows_tree" ["costs", "clashes", "bound", "tree"] (sem_shows n) := by
  have ht := has_tree (P := P) (w := w) (B := B) D n
  obtain ⟨⟨f1, fd1, A1⟩, ⟨f2, fd2, A2⟩, ⟨f3, fd3, A3⟩, ⟨f4, fd4, A4⟩, ⟨f5, fd5, A5⟩, ⟨f6, fd6, A6⟩, ⟨f7, fd7, A7⟩, ⟨f8, fd8, A8⟩, ⟨f9, fd9, A9⟩, ⟨f10, fd10, A10⟩, ⟨f11, fd11, A11⟩, ⟨f12, fd12, A12⟩, ⟨f13, fd13, A13⟩, ⟨f14, fd14, A14⟩, ⟨f15, fd15, A15⟩, ⟨f16, fd16, A16⟩, ⟨f17, fd17, A17⟩, ⟨f18, fd18, A18⟩, z_abs, z_bool, z_enumerate, z_int, z_isinstance, z_len, z_list, z_min, z_range, z_repr, z_sorted, z_str, z_sum, z_tuple⟩ := D
  have h_is_whole : Has P w K mg B 1 "is_whole" ["value"] sem_is_whole := by
    exact A1.has (fnD A1.F sc_is_whole (fun cdv A fr s H E c hgd hr => by apply der_is_whole <;> assumption) rd_is_whole)
  have u0 := h_is_whole.up (k := 2 * n + 3) (by omega)
  exact A6.has (fnD (k := 2 * n + 3) A6.F sc_shows_tree (fun cdv A fr s H E c hgd hr => by apply der_shows_tree <;> assumption) (rd_shows_tree n))
theorem ok_law {P : Program} {w : World} {K : PySem.W.Frag} {mg : Str → Option Value} {B : Heap} (D : Defs K mg) {f : Addr} {fd : FuncData} (AL : At K mg "law" s_law ["script"] f fd) : FnG P w K mg B 16 f fd ["script"] (spD K sem_law) := by
  have ht5 := has_ltree (P := P) (w := w) (B := B) D 5
  have hs5 := has_shows (P := P) (w := w) (B := B) D 5
  have hs2 := has_shows (P := P) (w := w) (B := B) D 2
  have hg4 := has_grow (P := P) (w := w) (B := B) D 4
  have hp4 := has_put (P := P) (w := w) (B := B) D 4
  obtain ⟨⟨f1, fd1, A1⟩, ⟨f2, fd2, A2⟩, ⟨f3, fd3, A3⟩, ⟨f4, fd4, A4⟩, ⟨f5, fd5, A5⟩, ⟨f6, fd6, A6⟩, ⟨f7, fd7, A7⟩, ⟨f8, fd8, A8⟩, ⟨f9, fd9, A9⟩, ⟨f10, fd10, A10⟩, ⟨f11, fd11, A11⟩, ⟨f12, fd12, A12⟩, ⟨f13, fd13, A13⟩, ⟨f14, fd14, A14⟩, ⟨f15, fd15, A15⟩, ⟨f16, fd16, A16⟩, ⟨f17, fd17, A17⟩, ⟨f18, fd18, A18⟩, z_abs, z_bool, z_enumerate, z_int, z_isinstance, z_len, z_list, z_min, z_range, z_repr, z_sorted, z_str, z_sum, z_tuple⟩ := D
  have h__law_feed : Has P w K mg B 1 "_law_feed" ["script"] sem_feed := by
    exact A7.has (fnD A7.F sc__law_feed (fun cdv A fr s H E c hgd hr => by apply der__law_feed <;> assumption) rd_feed)
  have h__law_draw : Has P w K mg B 1 "_law_draw" ["feed", "many"] sem_draw := by
    exact A8.has (fnD A8.F sc__law_draw (fun cdv A fr s H E c hgd hr => by apply der__law_draw <;> assumption) rd_draw)
  have h__law_cheap : Has P w K mg B 1 "_law_cheap" ["row"] sem_cheap := by
    exact A13.has (fnD A13.F sc__law_cheap (fun cdv A fr s H E c hgd hr => by apply der__law_cheap <;> assumption) rd__law_cheap)
  have h__law_costs : Has P w K mg B 2 "_law_costs" ["feed"] sem_costs := by
    have u0 := (h__law_draw).up (k := 1) (by omega)
    exact A12.has (fnD A12.F sc__law_costs (fun cdv A fr s H E c hgd hr => by apply der__law_costs <;> assumption) rd__law_costs)
  have h__law_clashes : Has P w K mg B 2 "_law_clashes" ["feed", "costs", "g", "h"] sem_clashes := by
    have u0 := (h__law_draw).up (k := 1) (by omega)
    have u1 := (h__law_cheap).up (k := 1) (by omega)
    exact A14.has (fnD A14.F sc__law_clashes (fun cdv A fr s H E c hgd hr => by apply der__law_clashes <;> assumption) rd__law_clashes)
  have h__law_asks : Has P w K mg B 15 "_law_asks" ["costs", "clashes", "bound", "tree"] (sem_asks 5) := by
    have u0 := (ht5).up (k := 14) (by omega)
    have u1 := (hs5).up (k := 14) (by omega)
    exact A17.has (fnD A17.F sc__law_asks (fun cdv A fr s H E c hgd hr => by apply der__law_asks <;> assumption) (rd__law_asks 5))
  have v0 := h__law_feed.up (k := 15) (by omega)
  have v1 := h__law_draw.up (k := 15) (by omega)
  have v2 := h__law_costs.up (k := 15) (by omega)
  have v3 := h__law_clashes.up (k := 15) (by omega)
  have v4 := hg4.up (k := 15) (by omega)
  have v5 := hp4.up (k := 15) (by omega)
  have v6 := hs2.up (k := 15) (by omega)
  exact fnD (k := 15) AL.F sc_law (fun cdv A fr s H E c hgd hr => by apply der_law <;> assumption) rd_law
theorem use {l : PySem.W.OpenLaw} {w : World} {K : PySem.W.Frag} {mg : Str → Option Value} {fa : Addr}
    (h : Defs K mg ∧ ∃ fd, At K mg "law" s_law ["script"] fa fd ∧ ∀ (s : Shared) (v : Value), BindsTo s fd ⟨[v], []⟩ [("script", v)]) :
    ∃ fd : FuncData, (∀ (s : Shared) (u : Value), BindsTo s fd ⟨[u], []⟩ [("script", u)]) ∧ ∀ B : Heap, K.In B → B.Ns mainGlobals mg → FnG l.prog w K mg B 16 fa fd ["script"] (spD K sem_law) :=
  let ⟨D, fd, AL, hb⟩ := h
  ⟨fd, hb, fun B _ _ => ok_law D AL⟩
end K59
open PySem PySem.W PyProof.Rows
set_option maxHeartbeats 0 in
theorem PySem.Challenge.cw_lightstold_k59_judge_of_broad_trees_holds : PySem.Challenge.rw_lightstold_k59_judge_of_broad_trees.Holds := by
  w_on; o_law; k_head; (case hw => w_witness2)
  k_fill
  refine DL.walkG (l := PySem.Challenge.rw_lightstold_k59_judge_of_broad_trees) (k := 16) (x := "script") (sp := fun K => DL.spD K K59.sem_law) rfl rfl ⟨rfl, by decide, by decide⟩ (fun w h Y => PySem.W.kIn_of Y) ?F (fun K H a ns hl _ hS => K59.law_spD hS fun G h => ⟨ns, rfl, h⟩)
  case F =>
    intro w mg fa h KX G hmg
    refine' K59.use (K59.all_mk KX G hmg ?a1 ?l1 ?c1 ?k1 ?a2 ?l2 ?c2 ?k2 ?a3 ?l3 ?c3 ?k3 ?a4 ?l4 ?c4 ?k4 ?a5 ?l5 ?c5 ?k5 ?a6 ?l6 ?c6 ?k6 ?a7 ?l7 ?c7 ?k7 ?a8 ?l8 ?c8 ?k8 ?a9 ?l9 ?c9 ?k9 ?a10 ?l10 ?c10 ?k10 ?a11 ?l11 ?c11 ?k11 ?a12 ?l12 ?c12 ?k12 ?a13 ?l13 ?c13 ?k13 ?a14 ?l14 ?c14 ?k14 ?a15 ?l15 ?c15 ?k15 ?a16 ?l16 ?c16 ?k16 ?a17 ?l17 ?c17 ?k17 ?a18 ?l18 ?c18 ?k18 ?y0 ?y1 ?y2 ?y3 ?y4 ?y5 ?y6 ?y7 ?y8 ?y9 ?y10 ?y11 ?y12 ?y13)
    (case a1 => k_is); (case l1 => k_is); (case c1 => k_is); (case k1 => k_is)
    (case a2 => k_is); (case l2 => k_is); (case c2 => k_is); (case k2 => k_is)
    (case a3 => k_is); (case l3 => k_is); (case c3 => k_is); (case k3 => k_is)
    (case a4 => k_is); (case l4 => k_is); (case c4 => k_is); (case k4 => k_is)
    (case a5 => k_is); (case l5 => k_is); (case c5 => k_is); (case k5 => k_is)
    (case a6 => k_is); (case l6 => k_is); (case c6 => k_is); (case k6 => k_is)
    (case a7 => k_is); (case l7 => k_is); (case c7 => k_is); (case k7 => k_is)
    (case a8 => k_is); (case l8 => k_is); (case c8 => k_is); (case k8 => k_is)
    (case a9 => k_is); (case l9 => k_is); (case c9 => k_is); (case k9 => k_is)
    (case a10 => k_is); (case l10 => k_is); (case c10 => k_is); (case k10 => k_is)
    (case a11 => k_is); (case l11 => k_is); (case c11 => k_is); (case k11 => k_is)
    (case a12 => k_is); (case l12 => k_is); (case c12 => k_is); (case k12 => k_is)
    (case a13 => k_is); (case l13 => k_is); (case c13 => k_is); (case k13 => k_is)
    (case a14 => k_is); (case l14 => k_is); (case c14 => k_is); (case k14 => k_is)
    (case a15 => k_is); (case l15 => k_is); (case c15 => k_is); (case k15 => k_is)
    (case a16 => k_is); (case l16 => k_is); (case c16 => k_is); (case k16 => k_is)
    (case a17 => k_is); (case l17 => k_is); (case c17 => k_is); (case k17 => k_is)
    (case a18 => k_is); (case l18 => k_is); (case c18 => k_is); (case k18 => k_is)
    (case y0 => k_is); (case y1 => k_is); (case y2 => k_is); (case y3 => k_is); (case y4 => k_is); (case y5 => k_is); (case y6 => k_is); (case y7 => k_is); (case y8 => k_is); (case y9 => k_is); (case y10 => k_is); (case y11 => k_is); (case y12 => k_is); (case y13 => k_is)
