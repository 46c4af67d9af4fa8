import PyProof.Rows.All
import Wide.All
import OpenK.AllK
import Wide.FinOn
import HandS.ForMost
import HandS.SetFor
import HandS.DictComp
import HandS.SortInts
import HandS.Deep
import HandS.Conv
import HandS.Strs
import HandS.WideBits
import HandS.Small
import HandS.Wide
import HandS.IsInst
import HandS.Codes
import HandS.Zip
import PySem.Challenge.RW_threadmark_k44_sums_of_lists
set_option Elab.async false
set_option linter.all false
set_option maxRecDepth 100000
set_option maxHeartbeats 2000000
/-! Data without a heap: what a value holds, read off the abstract heap. -/
namespace DL
open PySem PySem.Spec PyProof.Rows L2

/-- a value as plain data -/
inductive D where
  | non | bl (b : Bool) | int (i : Int) | str (s : List Nat) | lst (l : List D) | tup (l : List D) | dct (l : List (D × D)) | dcu (l : List (D × D)) | web (m e : D)

mutual
def D.eqb : D → D → Bool
  | .non, .non => true
  | .bl a, .bl b => a == b
  | .int a, .int b => a == b
  | .str a, .str b => a == b
  | .lst a, .lst b => D.eqbs a b
  | .tup a, .tup b => D.eqbs a b
  | .dct a, .dct b => D.eqbp a b
  | .dcu a, .dcu b => D.eqbp a b
  | .web a b, .web c d => D.eqb a c && D.eqb b d
  | _, _ => false
def D.eqbs : List D → List D → Bool
  | [], [] => true
  | a :: r, b :: s => D.eqb a b && D.eqbs r s
  | _, _ => false
def D.eqbp : List (D × D) → List (D × D) → Bool
  | [], [] => true
  | (a, x) :: r, (b, y) :: s => D.eqb a b && D.eqb x y && D.eqbp r s
  | _, _ => false
end
mutual
theorem D.eqb_iff : ∀ a b : D, D.eqb a b = true ↔ a = b
  | .non, b => by cases b <;> simp [D.eqb]
  | .bl a, b => by cases b <;> simp [D.eqb]
  | .int a, b => by cases b <;> simp [D.eqb]
  | .str a, b => by cases b <;> simp [D.eqb]
  | .lst a, b => by cases b <;> simp [D.eqb, D.eqbs_iff a]
  | .tup a, b => by cases b <;> simp [D.eqb, D.eqbs_iff a]
  | .dct a, b => by cases b <;> simp [D.eqb, D.eqbp_iff a]
  | .dcu a, b => by cases b <;> simp [D.eqb, D.eqbp_iff a]
  | .web a c, b => by cases b <;> simp [D.eqb, D.eqb_iff a, D.eqb_iff c]
theorem D.eqbs_iff : ∀ a b : List D, D.eqbs a b = true ↔ a = b
  | [], b => by cases b <;> simp [D.eqbs]
  | a :: r, b => by cases b <;> simp [D.eqbs, D.eqb_iff a, D.eqbs_iff r]
theorem D.eqbp_iff : ∀ a b : List (D × D), D.eqbp a b = true ↔ a = b
  | [], b => by cases b <;> simp [D.eqbp]
  | (a, x) :: r, b => by
    rcases b with _ | ⟨⟨c, y⟩, s⟩ <;> simp [D.eqbp, D.eqb_iff a, D.eqb_iff x, D.eqbp_iff r]
end
instance : DecidableEq D := fun a b => decidable_of_iff (D.eqb a b = true) (D.eqb_iff a b)

structure G where
  K : PySem.W.Frag
  C : Addr
  P : Program
  w : World

abbrev mkS (l : List Nat) : Str := ⟨l.toArray⟩
theorem mkS_cps (x : Str) : mkS x.cps.toList = x := by cases x; rfl
def keyD : Key → D
  | .inl i => .int i
  | .inr s => .str s.cps.toList
theorem keyD_inj {a b : Key} (h : keyD a = keyD b) : a = b := by
  cases a with
  | inl i => cases b with
    | inl j => simp only [keyD, D.int.injEq] at h; rw [h]
    | inr s => simp [keyD] at h
  | inr s => cases b with
    | inl j => simp [keyD] at h
    | inr t =>
      simp only [keyD, D.str.injEq] at h
      rw [← mkS_cps s, ← mkS_cps t, h]
theorem keyDs_inj : ∀ {a b : List Key}, a.map keyD = b.map keyD → a = b
  | [], [], _ => rfl
  | [], _ :: _, h => by simp at h
  | _ :: _, [], h => by simp at h
  | x :: a, y :: b, h => by
    simp only [List.map_cons, List.cons.injEq] at h
    rw [keyD_inj h.1, keyDs_inj h.2]

/-- a tuple, tracked or written -/
def TupAt (K : PySem.W.Frag) (H : Hp) (a : Addr) (xs : List V) : Prop :=
  H a = some (.tup xs) ∨ ∃ (o : Obj) (its : Array Value) (n : Nat), K.lookup a = some o ∧ o.cls = .type "tuple" ∧ o.data = .seq its n ∧ its.size ≤ sizeLine ∧ Vals xs its.toList
theorem TupAt.sqT {K : PySem.W.Frag} {H : Hp} {a : Addr} {xs : List V} (h : TupAt K H a xs) : SqT K H a xs := by
  rcases h with h | h
  · exact .inl (.inl h)
  · exact .inr h
def webF (vm ve : V) : List (Str × V) := putF "edge_ends" ve (putF "node_marks" vm [])

mutual
def Rep (g : G) : D → V → Hp → Prop
  | .non, v, _ => v = .non
  | .bl b, v, _ => v = .bl b
  | .int i, v, _ => v = .int i
  | .str s, v, _ => v = .str (mkS s)
  | .lst l, v, F => ∃ a vs, v = .ref a ∧ SqL g.K F a vs ∧ Reps g l vs F
  | .tup l, v, F => ∃ a vs, v = .ref a ∧ TupAt g.K F a vs ∧ Reps g l vs F
  | .dct l, v, F => ∃ a kvs, v = .ref a ∧ Rd F a (.dK kvs) ∧ RepK g l kvs F
  | .dcu l, v, F => ∃ a kvs, v = .ref a ∧ Rd F a (.dT kvs) ∧ RepT g l kvs F
  | .web m e, v, F => ∃ a dx vm ve, v = .ref a ∧ F a = some (.ins g.C dx (webF vm ve)) ∧ Rep g m vm F ∧ Rep g e ve F
def Reps (g : G) : List D → List V → Hp → Prop
  | [], vs, _ => vs = []
  | d :: l, vs, F => ∃ v r, vs = v :: r ∧ Rep g d v F ∧ Reps g l r F
def RepK (g : G) : List (D × D) → List (Key × V) → Hp → Prop
  | [], kvs, _ => kvs = []
  | (k, d) :: l, kvs, F => ∃ q v r, kvs = (q, v) :: r ∧ k = keyD q ∧ Rep g d v F ∧ RepK g l r F
def RepT (g : G) : List (D × D) → List (List Key × V) → Hp → Prop
  | [], kvs, _ => kvs = []
  | (k, d) :: l, kvs, F => ∃ q v r, kvs = (q, v) :: r ∧ k = .tup (q.map keyD) ∧ Rep g d v F ∧ RepT g l r F
end

abbrev Ext (F H : Hp) : Prop := ∀ a o, F a = some o → H a = some o
theorem Ext.refl (F : Hp) : Ext F F := fun _ _ h => h
theorem Ext.trans {F G H : Hp} (a : Ext F G) (b : Ext G H) : Ext F H := fun x o h => b x o (a x o h)
theorem Ext.new {H : Hp} {p : Addr} {o : HO} (h : H p = none) : Ext H (upd H p o) := fun a u e => by
  rw [upd_ne (ne_of_none e h)]
  exact e
theorem Ext.updR {F H : Hp} {p : Addr} {o : HO} (e : Ext F H) (h : F p = none) : Ext F (upd H p o) := fun a u ha => by
  rw [upd_ne (ne_of_none ha h)]
  exact e a u ha
theorem Ext.both {F H : Hp} {p : Addr} {o : HO} (e : Ext F H) (h : H p = some o) : Ext (upd F p o) H := fun a u ha => by
  by_cases q : a = p
  · subst q; rw [upd_same] at ha; cases ha; exact h
  · rw [upd_ne q] at ha; exact e a u ha
theorem Ext.rd {F H : Hp} {a : Addr} {u : HO} (e : Ext F H) (h : Rd F a u) : Rd H a u := by
  rcases h with h | ⟨o, h⟩
  · exact .inl (e _ _ h)
  · exact .inr ⟨o, e _ _ h⟩
theorem Ext.l {K : PySem.W.Frag} {F H : Hp} {a : Addr} {xs : List V} (e : Ext F H) (h : SqL K F a xs) : SqL K H a xs := by
  rcases h with h | h
  · exact .inl (e.rd h)
  · exact .inr h
theorem Ext.t {K : PySem.W.Frag} {F H : Hp} {a : Addr} {xs : List V} (e : Ext F H) (h : TupAt K F a xs) : TupAt K H a xs := by
  rcases h with h | h
  · exact .inl (e _ _ h)
  · exact .inr h
theorem Ext.none {F H : Hp} {p : Addr} (e : Ext F H) (h : H p = Option.none) : F p = Option.none := by
  cases q : F p with
  | none => rfl
  | some o => rw [e p o q] at h; cases h

/-- a relation between heaps under which representations go on -/
structure Le (K : PySem.W.Frag) (F F' : Hp) : Prop where
  l : ∀ {a xs}, SqL K F a xs → SqL K F' a xs
  t : ∀ {a xs}, TupAt K F a xs → TupAt K F' a xs
  k : ∀ {a kvs}, Rd F a (.dK kvs) → Rd F' a (.dK kvs)
  u : ∀ {a kvs}, Rd F a (.dT kvs) → Rd F' a (.dT kvs)
  i : ∀ {a C dx fs}, F a = some (.ins C dx fs) → F' a = some (.ins C dx fs)
theorem Ext.le {K : PySem.W.Frag} {F H : Hp} (e : Ext F H) : Le K F H := ⟨e.l, e.t, e.rd, e.rd, e _ _⟩

mutual
theorem Rep.le {g : G} {F F' : Hp} (e : Le g.K F F') : ∀ {d : D} {v : V}, Rep g d v F → Rep g d v F'
  | .non, _, h => h
  | .bl _, _, h => h
  | .int _, _, h => h
  | .str _, _, h => h
  | .lst l, _, ⟨a, vs, e1, h1, h2⟩ => ⟨a, vs, e1, e.l h1, Reps.le e h2⟩
  | .tup l, _, ⟨a, vs, e1, h1, h2⟩ => ⟨a, vs, e1, e.t h1, Reps.le e h2⟩
  | .dct l, _, ⟨a, kvs, e1, h1, h2⟩ => ⟨a, kvs, e1, e.k h1, RepK.le e h2⟩
  | .dcu l, _, ⟨a, kvs, e1, h1, h2⟩ => ⟨a, kvs, e1, e.u h1, RepT.le e h2⟩
  | .web m n, _, ⟨a, dx, vm, ve, e1, h1, h2, h3⟩ => ⟨a, dx, vm, ve, e1, e.i h1, Rep.le e h2, Rep.le e h3⟩
theorem Reps.le {g : G} {F F' : Hp} (e : Le g.K F F') : ∀ {l : List D} {vs : List V}, Reps g l vs F → Reps g l vs F'
  | [], _, h => h
  | _ :: _, _, ⟨v, r, e1, h1, h2⟩ => ⟨v, r, e1, Rep.le e h1, Reps.le e h2⟩
theorem RepK.le {g : G} {F F' : Hp} (e : Le g.K F F') : ∀ {l : List (D × D)} {kvs : List (Key × V)}, RepK g l kvs F → RepK g l kvs F'
  | [], _, h => h
  | (_, _) :: _, _, ⟨q, v, r, e1, e2, h1, h2⟩ => ⟨q, v, r, e1, e2, Rep.le e h1, RepK.le e h2⟩
theorem RepT.le {g : G} {F F' : Hp} (e : Le g.K F F') : ∀ {l : List (D × D)} {kvs : List (List Key × V)}, RepT g l kvs F → RepT g l kvs F'
  | [], _, h => h
  | (_, _) :: _, _, ⟨q, v, r, e1, e2, h1, h2⟩ => ⟨q, v, r, e1, e2, Rep.le e h1, RepT.le e h2⟩
end
section
variable {g : G} {F F' H : Hp} {d : D} {v : V} {l m : List D} {vs ws : List V}
theorem Rep.mono (e : Ext F F') (h : Rep g d v F) : Rep g d v F' := h.le e.le
theorem Reps.mono (e : Ext F F') (h : Reps g l vs F) : Reps g l vs F' := h.le e.le
theorem RepK.mono {l : List (D × D)} {vs} (e : Ext F F') (h : RepK g l vs F) : RepK g l vs F' := h.le e.le
theorem RepT.mono {l : List (D × D)} {vs} (e : Ext F F') (h : RepT g l vs F) : RepT g l vs F' := h.le e.le
theorem Reps.len : ∀ {l : List D} {vs : List V}, Reps g l vs F → vs.length = l.length
  | [], _, h => by cases h; rfl
  | _ :: _, _, ⟨_, _, e, _, h⟩ => by subst e; simp [h.len]
theorem Reps.append : ∀ {l m : List D} {vs ws : List V}, Reps g l vs F → Reps g m ws F → Reps g (l ++ m) (vs ++ ws) F
  | [], _, _, _, h, k => by cases h; exact k
  | _ :: _, _, _, _, ⟨v, r, e, h1, h⟩, k => by subst e; exact ⟨v, r ++ _, rfl, h1, h.append k⟩
theorem Reps.one (h : Rep g d v F) : Reps g [d] [v] F := ⟨v, [], rfl, h, rfl⟩
theorem Reps.cons (h : Rep g d v F) (k : Reps g l vs F) : Reps g (d :: l) (v :: vs) F := ⟨v, vs, rfl, h, k⟩
theorem Reps.get : ∀ {l : List D} {vs : List V} {i : Nat} {d : D}, Reps g l vs F → l[i]? = some d → ∃ v, vs[i]? = some v ∧ Rep g d v F
  | [], _, _, _, _, e => by simp at e
  | _ :: _, _, 0, _, ⟨v, r, e1, h1, h⟩, e => by simp at e; subst e e1; exact ⟨v, rfl, h1⟩
  | _ :: _, _, i + 1, _, ⟨v, r, e1, h1, h⟩, e => by subst e1; simpa using h.get (by simpa using e)
theorem Reps.getV : ∀ {l : List D} {vs : List V} {i : Nat} {v : V}, Reps g l vs F → vs[i]? = some v → ∃ d, l[i]? = some d ∧ Rep g d v F
  | [], _, _, _, h, e => by cases h; simp at e
  | _ :: _, _, 0, _, ⟨v, r, e1, h1, h⟩, e => by subst e1; simp at e; subst e; exact ⟨_, rfl, h1⟩
  | _ :: _, _, i + 1, _, ⟨v, r, e1, h1, h⟩, e => by subst e1; simpa using h.getV (by simpa using e)
theorem Reps.take : ∀ {l : List D} {vs : List V} (n : Nat), Reps g l vs F → Reps g (l.take n) (vs.take n) F
  | _, _, 0, _ => by simp [Reps]
  | [], _, n + 1, h => by cases h; simp [Reps]
  | _ :: _, _, n + 1, ⟨v, r, e1, h1, h⟩ => by subst e1; exact ⟨v, _, rfl, h1, h.take n⟩
theorem Reps.drop : ∀ {l : List D} {vs : List V} (n : Nat), Reps g l vs F → Reps g (l.drop n) (vs.drop n) F
  | _, _, 0, h => h
  | [], _, n + 1, h => by cases h; simp [Reps]
  | _ :: _, _, n + 1, ⟨v, r, e1, h1, h⟩ => by subst e1; exact h.drop n
theorem Reps.set : ∀ {l : List D} {vs : List V} {d : D} {v : V} (i : Nat), Reps g l vs F → Rep g d v F → Reps g (l.set i d) (vs.set i v) F
  | [], _, _, _, _, h, _ => by cases h; simp [Reps]
  | _ :: _, _, _, _, 0, ⟨v, r, e1, h1, h⟩, k => by subst e1; exact ⟨_, _, rfl, k, h⟩
  | _ :: _, _, _, _, i + 1, ⟨v, r, e1, h1, h⟩, k => by subst e1; exact ⟨v, _, rfl, h1, h.set i k⟩
theorem Reps.reverse : ∀ {l : List D} {vs : List V}, Reps g l vs F → Reps g l.reverse vs.reverse F
  | [], _, h => by cases h; simp [Reps]
  | d :: l, _, ⟨v, r, e1, h1, h⟩ => by subst e1; rw [List.reverse_cons, List.reverse_cons]; exact h.reverse.append (.one h1)
theorem Reps.ints {ns : List Int} : Reps g (ns.map D.int) vs F ↔ vs = ns.map V.int := by
  induction ns generalizing vs with
  | nil => rfl
  | cons n r ih =>
    constructor
    · rintro ⟨v, s, rfl, h1, h⟩
      have e : v = .int n := h1
      rw [e, ih.mp h]; rfl
    · rintro rfl
      exact ⟨_, _, rfl, rfl, ih.mpr rfl⟩
theorem Reps.strs {ns : List (List Nat)} : Reps g (ns.map D.str) vs F ↔ vs = (ns.map mkS).map V.str := by
  induction ns generalizing vs with
  | nil => rfl
  | cons n r ih =>
    constructor
    · rintro ⟨v, s, rfl, h1, h⟩
      have e : v = .str (mkS n) := h1
      rw [e, ih.mp h]; rfl
    · rintro rfl
      exact ⟨_, _, rfl, rfl, ih.mpr rfl⟩
theorem Reps.bls {ns : List Bool} : Reps g (ns.map D.bl) vs F ↔ vs = ns.map V.bl := by
  induction ns generalizing vs with
  | nil => rfl
  | cons n r ih =>
    constructor
    · rintro ⟨v, s, rfl, h1, h⟩
      have e : v = .bl n := h1
      rw [e, ih.mp h]; rfl
    · rintro rfl
      exact ⟨_, _, rfl, rfl, ih.mpr rfl⟩
end

/-! ### dicts -/
def dget (l : List (D × D)) (k : D) : Option D := (l.find? fun p => decide (p.1 = k)).map (·.2)
def dput (l : List (D × D)) (k d : D) : List (D × D) :=
  if l.any (fun p => decide (p.1 = k)) = true then l.map (fun p => if p.1 = k then (p.1, d) else p) else l ++ [(k, d)]
section
variable {g : G} {F : Hp}
theorem RepK.get : ∀ {l : List (D × D)} {kvs : List (Key × V)} (q : Key), RepK g l kvs F → (∃ d v, dget l (keyD q) = some d ∧ valV kvs q = some v ∧ Rep g d v F) ∨ (dget l (keyD q) = none ∧ valV kvs q = none)
  | [], _, q, h => by cases h; exact .inr ⟨rfl, rfl⟩
  | (k, d) :: l, _, q, ⟨p, v, r, e, ek, h1, h⟩ => by
    subst e ek
    by_cases c : p = q
    · subst c
      exact .inl ⟨d, v, by simp [dget], by simp [valV], h1⟩
    · have c' : ¬ keyD p = keyD q := fun z => c (keyD_inj z)
      have e1 : dget ((keyD p, d) :: l) (keyD q) = dget l (keyD q) := by simp [dget, List.find?_cons, c']
      have e2 : valV ((p, v) :: r) q = valV r q := by simp [valV, List.find?_cons, c]
      rw [e1, e2]
      exact h.get q
theorem RepT.get : ∀ {l : List (D × D)} {kvs : List (List Key × V)} (q : List Key), RepT g l kvs F → (∃ d v, dget l (.tup (q.map keyD)) = some d ∧ valV kvs q = some v ∧ Rep g d v F) ∨ (dget l (.tup (q.map keyD)) = none ∧ valV kvs q = none)
  | [], _, q, h => by cases h; exact .inr ⟨rfl, rfl⟩
  | (k, d) :: l, _, q, ⟨p, v, r, e, ek, h1, h⟩ => by
    subst e ek
    by_cases c : p = q
    · subst c
      exact .inl ⟨d, v, by simp [dget], by simp [valV], h1⟩
    · have c' : ¬ D.tup (p.map keyD) = D.tup (q.map keyD) := fun z => c (keyDs_inj (D.tup.inj z))
      have e1 : dget ((.tup (p.map keyD), d) :: l) (.tup (q.map keyD)) = dget l (.tup (q.map keyD)) := by simp [dget, List.find?_cons, c']
      have e2 : valV ((p, v) :: r) q = valV r q := by simp [valV, List.find?_cons, c]
      rw [e1, e2]
      exact h.get q
theorem RepK.len : ∀ {l : List (D × D)} {kvs : List (Key × V)}, RepK g l kvs F → kvs.length = l.length
  | [], _, h => by cases h; rfl
  | (_, _) :: _, _, ⟨_, _, _, e, _, _, h⟩ => by subst e; simp [h.len]
theorem RepT.len : ∀ {l : List (D × D)} {kvs : List (List Key × V)}, RepT g l kvs F → kvs.length = l.length
  | [], _, h => by cases h; rfl
  | (_, _) :: _, _, ⟨_, _, _, e, _, _, h⟩ => by subst e; simp [h.len]
theorem RepK.append : ∀ {l m : List (D × D)} {vs ws : List (Key × V)}, RepK g l vs F → RepK g m ws F → RepK g (l ++ m) (vs ++ ws) F
  | [], _, _, _, h, k => by cases h; exact k
  | (_, _) :: _, _, _, _, ⟨q, v, r, e, ek, h1, h⟩, k => by subst e; exact ⟨q, v, r ++ _, rfl, ek, h1, h.append k⟩
theorem RepT.append : ∀ {l m : List (D × D)} {vs ws : List (List Key × V)}, RepT g l vs F → RepT g m ws F → RepT g (l ++ m) (vs ++ ws) F
  | [], _, _, _, h, k => by cases h; exact k
  | (_, _) :: _, _, _, _, ⟨q, v, r, e, ek, h1, h⟩, k => by subst e; exact ⟨q, v, r ++ _, rfl, ek, h1, h.append k⟩
theorem RepK.any : ∀ {l : List (D × D)} {kvs : List (Key × V)} (q : Key), RepK g l kvs F → (kvs.any fun kv => decide (kv.1 = q)) = l.any fun p => decide (p.1 = keyD q)
  | [], _, q, h => by cases h; rfl
  | (k, d) :: l, _, q, ⟨p, v, r, e, ek, h1, h⟩ => by
    subst e ek
    rw [List.any_cons, List.any_cons, h.any q]
    congr 1
    by_cases c : p = q
    · subst c; simp
    · have c' : ¬ keyD p = keyD q := fun z => c (keyD_inj z)
      simp [c, c']
theorem RepT.any : ∀ {l : List (D × D)} {kvs : List (List Key × V)} (q : List Key), RepT g l kvs F → (kvs.any fun kv => decide (kv.1 = q)) = l.any fun p => decide (p.1 = .tup (q.map keyD))
  | [], _, q, h => by cases h; rfl
  | (k, d) :: l, _, q, ⟨p, v, r, e, ek, h1, h⟩ => by
    subst e ek
    rw [List.any_cons, List.any_cons, h.any q]
    congr 1
    by_cases c : p = q
    · subst c; simp
    · have c' : ¬ D.tup (p.map keyD) = D.tup (q.map keyD) := fun z => c (keyDs_inj (D.tup.inj z))
      simp [c, c']
theorem RepK.map : ∀ {l : List (D × D)} {kvs : List (Key × V)} (q : Key) {d : D} {v : V}, RepK g l kvs F → Rep g d v F →
    RepK g (l.map fun p => if p.1 = keyD q then (p.1, d) else p) (kvs.map fun kv => if kv.1 = q then (kv.1, v) else kv) F
  | [], _, q, _, _, h, _ => by cases h; rfl
  | (k, d') :: l, _, q, d, v, ⟨p, v', r, e, ek, h1, h⟩, hr => by
    subst e ek
    by_cases c : p = q
    · subst c
      rw [List.map_cons, List.map_cons, show (if (keyD p, d').1 = keyD p then ((keyD p, d').1, d) else (keyD p, d')) = (keyD p, d) from if_pos rfl, show (if (p, v').1 = p then ((p, v').1, v) else (p, v')) = (p, v) from if_pos rfl]
      exact ⟨p, v, _, rfl, rfl, hr, h.map p hr⟩
    · have c' : ¬ keyD p = keyD q := fun z => c (keyD_inj z)
      rw [List.map_cons, List.map_cons, show (if (keyD p, d').1 = keyD q then ((keyD p, d').1, d) else (keyD p, d')) = (keyD p, d') from if_neg c', show (if (p, v').1 = q then ((p, v').1, v) else (p, v')) = (p, v') from if_neg c]
      exact ⟨p, v', _, rfl, rfl, h1, h.map q hr⟩
theorem RepT.map : ∀ {l : List (D × D)} {kvs : List (List Key × V)} (q : List Key) {d : D} {v : V}, RepT g l kvs F → Rep g d v F →
    RepT g (l.map fun p => if p.1 = .tup (q.map keyD) then (p.1, d) else p) (kvs.map fun kv => if kv.1 = q then (kv.1, v) else kv) F
  | [], _, q, _, _, h, _ => by cases h; rfl
  | (k, d') :: l, _, q, d, v, ⟨p, v', r, e, ek, h1, h⟩, hr => by
    subst e ek
    by_cases c : p = q
    · subst c
      rw [List.map_cons, List.map_cons, show (if (D.tup (p.map keyD), d').1 = D.tup (p.map keyD) then ((D.tup (p.map keyD), d').1, d) else (D.tup (p.map keyD), d')) = (D.tup (p.map keyD), d) from if_pos rfl, show (if (p, v').1 = p then ((p, v').1, v) else (p, v')) = (p, v) from if_pos rfl]
      exact ⟨p, v, _, rfl, rfl, hr, h.map p hr⟩
    · have c' : ¬ D.tup (p.map keyD) = D.tup (q.map keyD) := fun z => c (keyDs_inj (D.tup.inj z))
      rw [List.map_cons, List.map_cons, show (if (D.tup (p.map keyD), d').1 = D.tup (q.map keyD) then ((D.tup (p.map keyD), d').1, d) else (D.tup (p.map keyD), d')) = (D.tup (p.map keyD), d') from if_neg c', show (if (p, v').1 = q then ((p, v').1, v) else (p, v')) = (p, v') from if_neg c]
      exact ⟨p, v', _, rfl, rfl, h1, h.map q hr⟩
theorem RepK.put {l : List (D × D)} {kvs : List (Key × V)} {q : Key} {d : D} {v : V} (h : RepK g l kvs F) (hr : Rep g d v F) : RepK g (dput l (keyD q) d) (putK kvs q v) F := by
  unfold dput putK
  rw [h.any q]
  split
  · exact h.map q hr
  · exact h.append ⟨q, v, [], rfl, rfl, hr, rfl⟩
theorem RepT.put {l : List (D × D)} {kvs : List (List Key × V)} {q : List Key} {d : D} {v : V} (h : RepT g l kvs F) (hr : Rep g d v F) : RepT g (dput l (.tup (q.map keyD)) d) (putK kvs q v) F := by
  unfold dput putK
  rw [h.any q]
  split
  · exact h.map q hr
  · exact h.append ⟨q, v, [], rfl, rfl, hr, rfl⟩
/-- a key's value -/
theorem rep_key (q : Key) : Rep g (keyD q) (kV q) F := by
  cases q with
  | inl i => rfl
  | inr s => show V.str s = .str (mkS s.cps.toList); rw [mkS_cps]
theorem key_of {d : D} {v : V} (h : Rep g d v F) (hd : (∃ i, d = .int i) ∨ ∃ s, d = .str s) : ∃ q, v = kV q ∧ d = keyD q := by
  rcases hd with ⟨i, rfl⟩ | ⟨s, rfl⟩
  · exact ⟨.inl i, h, rfl⟩
  · exact ⟨.inr (mkS s), h, by simp [keyD]⟩
theorem reps_keys : ∀ (q : List Key), Reps g (q.map keyD) (q.map kV) F
  | [] => rfl
  | k :: q => ⟨_, _, rfl, rep_key k, reps_keys q⟩
/-- keys of a dict -/
def keyOk : D → Bool
  | .int _ => true
  | .str _ => true
  | _ => false
theorem keys_of : ∀ {l : List D} {vs : List V}, Reps g l vs F → l.all keyOk = true → ∃ q : List Key, vs = q.map kV ∧ l = q.map keyD
  | [], _, h, _ => by cases h; exact ⟨[], rfl, rfl⟩
  | d :: l, _, ⟨v, r, e, h1, h⟩, ok => by
    subst e
    simp only [List.all_cons, Bool.and_eq_true] at ok
    obtain ⟨q, e1, e2⟩ := keys_of h ok.2
    have hd : (∃ i, d = .int i) ∨ ∃ s, d = .str s := by
      cases d <;> simp [keyOk] at ok <;> simp
    obtain ⟨k, e3, e4⟩ := key_of h1 hd
    exact ⟨k :: q, by rw [e1, e3]; rfl, by rw [e2, e4]; rfl⟩
end
end DL
set_option maxRecDepth 100000
set_option maxHeartbeats 2000000
namespace DL
open PySem PySem.Spec PyProof.Rows L2

def ob {α : Type} (o : Option α) (k : α → Prop) : Prop := match o with
  | some a => k a
  | none => False
theorem ob_some {α : Type} (a : α) (k : α → Prop) : ob (some a) k = k a := rfl
theorem ob_none {α : Type} (k : α → Prop) : ob none k = False := rfl
theorem ob_el {α : Type} {o : Option α} {k : α → Prop} (h : ob o k) : ∃ a, o = some a ∧ k a := by
  cases o with
  | none => exact h.elim
  | some a => exact ⟨a, rfl, h⟩

inductive Slot where
  | un | fz (d : D) | ow (d : D) | bo (d : D) | bg | br (i : Nat)
abbrev En := List Slot
structure Bs where
  F0 : Hp
  H0 : Hp
  b : Option Addr

/-- the bag of a law: its script, its place, its number, its salt -/
def BagOk (K : PySem.W.Frag) (a : Addr) (F H : Hp) : Prop := ∃ (l : Addr) (ns : List Int) (i j k : Int), H a = some (.lst [.ref l, .int i, .int j, .int k]) ∧ SqL K F l (ns.map V.int) ∧ ns.length ≤ 63 ∧ 0 ≤ i ∧ 0 ≤ j ∧ 0 ≤ k ∧ k < 2147483549

def CellOk (g : G) (d : D) (o : HO) (F : Hp) : Prop := match d, o with
  | .lst l, .lst vs => Reps g l vs F
  | .dct l, .dK kvs => RepK g l kvs F
  | .dcu l, .dT kvs => RepT g l kvs F
  | _, _ => False
def RepC (g : G) (F H : Hp) (d : D) (v : V) : Prop := match d with
  | .lst l => ∃ a vs, v = .ref a ∧ SqL g.K H a vs ∧ Reps g l vs F
  | .tup l => ∃ a vs, v = .ref a ∧ TupAt g.K H a vs ∧ Reps g l vs F
  | .dct l => ∃ a kvs, v = .ref a ∧ Rd H a (.dK kvs) ∧ RepK g l kvs F
  | .dcu l => ∃ a kvs, v = .ref a ∧ Rd H a (.dT kvs) ∧ RepT g l kvs F
  | d => Rep g d v F
theorem CellOk.mono {g : G} {d : D} {o : HO} {F F' : Hp} (e : Ext F F') (h : CellOk g d o F) : CellOk g d o F' := by
  unfold CellOk at h ⊢
  split at h
  · exact Reps.mono e h
  · exact RepK.mono e h
  · exact RepT.mono e h
  · exact h.elim
theorem RepC.of {g : G} {F H : Hp} {d : D} {v : V} (e : Ext F H) (h : Rep g d v F) : RepC g F H d v := by
  cases d with
  | lst l => obtain ⟨a, vs, e1, h1, h2⟩ := h; exact ⟨a, vs, e1, e.l h1, h2⟩
  | tup l => obtain ⟨a, vs, e1, h1, h2⟩ := h; exact ⟨a, vs, e1, e.t h1, h2⟩
  | dct l => obtain ⟨a, kvs, e1, h1, h2⟩ := h; exact ⟨a, kvs, e1, e.rd h1, h2⟩
  | dcu l => obtain ⟨a, kvs, e1, h1, h2⟩ := h; exact ⟨a, kvs, e1, e.rd h1, h2⟩
  | _ => exact h
theorem RepC.cell {g : G} {F H : Hp} {d : D} {p : Addr} {o : HO} (e : H p = some o) (h : CellOk g d o F) : RepC g F H d (.ref p) := by
  unfold CellOk at h
  split at h
  · exact ⟨p, _, rfl, .inl (.inl e), h⟩
  · exact ⟨p, _, rfl, .inl e, h⟩
  · exact ⟨p, _, rfl, .inl e, h⟩
  · exact h.elim
theorem RepC.mono {g : G} {F F' H H' : Hp} {d : D} {v : V} (e : Ext F F') (k : Ext H H') (h : RepC g F H d v) : RepC g F' H' d v := by
  cases d with
  | lst l => obtain ⟨a, vs, e1, h1, h2⟩ := h; exact ⟨a, vs, e1, k.l h1, h2.mono e⟩
  | tup l => obtain ⟨a, vs, e1, h1, h2⟩ := h; exact ⟨a, vs, e1, k.t h1, h2.mono e⟩
  | dct l => obtain ⟨a, kvs, e1, h1, h2⟩ := h; exact ⟨a, kvs, e1, k.rd h1, h2.mono e⟩
  | dcu l => obtain ⟨a, kvs, e1, h1, h2⟩ := h; exact ⟨a, kvs, e1, k.rd h1, h2.mono e⟩
  | non => exact h
  | bl b => exact h
  | int i => exact h
  | str s => exact h
  | web m n => exact Rep.mono e (show Rep g (.web m n) v F from h)
/-- without the bag -/
def nob (b : Option Addr) (H : Hp) : Hp := fun a => if b = some a then none else H a
theorem nob_ext (b : Option Addr) (H : Hp) : Ext (nob b H) H := fun a o h => by
  unfold nob at h
  split at h
  · cases h
  · exact h
theorem nob_at {b : Option Addr} {H : Hp} {a : Addr} (h : b ≠ some a) : nob b H a = H a := if_neg h
theorem nob_none (H : Hp) : nob none H = H := by
  funext a
  exact if_neg (fun z => nomatch z)
theorem nob_mono {b : Option Addr} {H H' : Hp} (k : ∀ a o, b ≠ some a → H a = some o → H' a = some o) : Ext (nob b H) (nob b H') := fun a o h => by
  unfold nob at h ⊢
  split at h
  · cases h
  · rename_i q
    rw [if_neg q]
    exact k a o q h
/-- data without an address -/
def scal : D → Bool
  | .non => true
  | .bl _ => true
  | .int _ => true
  | .str _ => true
  | .web _ _ => true
  | _ => false
theorem RepC.rep {g : G} {F H : Hp} {d : D} {v : V} (hs : scal d = true) (h : RepC g F H d v) : Rep g d v F := by
  cases d <;> first | exact h | (simp [scal] at hs)

def rdS (env : En) : Slot → Option D
  | .fz d => some d
  | .ow d => some d
  | .bo d => some d
  | .br j => match env[j]? with
    | some (.fz d) => some d
    | some (.ow d) => some d
    | some (.bo d) => some d
    | _ => none
  | _ => none
def isCell : Slot → Bool
  | .fz _ => true
  | .ow _ => true
  | .bo _ => true
  | _ => false

def SlotOk (g : G) (B : Bs) (F H : Hp) (own : Addr → Nat) (env : En) (σ : L2.St) (i : Nat) : Slot → Option V → Prop
  | .un, _ => True
  | .fz d, ov => ∃ v, ov = some v ∧ Rep g d v F
  | .ow d, ov => ∃ p o, ov = some (.ref p) ∧ H p = some o ∧ CellOk g d o F ∧ F p = none ∧ B.H0 p = none ∧ own p = i
  | .bo d, ov => ∃ v, ov = some v ∧ RepC g F (nob B.b B.H0) d v
  | .bg, ov => ∃ a, B.b = some a ∧ ov = some (.ref a)
  | .br j, ov => ∃ v s, ov = some v ∧ σ[j]? = some (some v) ∧ env[j]? = some s ∧ isCell s = true ∧ j < i

structure StF (g : G) (B : Bs) (F : Hp) (own : Addr → Nat) (env : En) (σ : L2.St) (H : Hp) : Prop where
  f0 : Ext B.F0 F
  fh : Ext F H
  h0 : ∀ a o, B.b ≠ some a → B.H0 a = some o → H a = some o
  nw : ∀ a o, F a = some o → B.F0 a = some o ∨ B.H0 a = none
  bag : ∀ a, B.b = some a → BagOk g.K a F H ∧ (∃ o, B.H0 a = some o) ∧ F a = none
  len : env.length = σ.length
  sl : ∀ (i : Nat) (s : Slot), env[i]? = some s → ∃ ov, σ[i]? = some ov ∧ SlotOk g B F H own env σ i s ov

def RV (g : G) (t : Slot) (v : V) (H F' H' : Hp) : Prop := match t with
  | .fz d => Rep g d v F'
  | .ow d => ∃ p o, v = .ref p ∧ H' p = some o ∧ CellOk g d o F' ∧ F' p = none ∧ H p = none
  | _ => False
/-- what an operation, a call gives -/
structure Res (g : G) (F H : Hp) (b : Option Addr) (t : Slot) (v : V) (F' H' : Hp) : Prop where
  ff : Ext F F'
  fh : Ext F' H'
  hh : ∀ a o, b ≠ some a → H a = some o → H' a = some o
  nw : ∀ a o, F' a = some o → F a = some o ∨ H a = none
  bag : ∀ a, b = some a → BagOk g.K a F' H'
  val : RV g t v H F' H'
theorem Res.scal {g : G} {F H : Hp} {d : D} {v : V} (e : Ext F H) (r : Rep g d v F) : Res g F H none (.fz d) v F H :=
  ⟨.refl F, e, fun _ _ _ h => h, fun _ _ h => .inl h, (fun _ z => nomatch z), r⟩
theorem Res.own {g : G} {F H : Hp} {d : D} {p : Addr} {o : HO} (e : Ext F H) (hp : H p = none) (c : CellOk g d o F) : Res g F H none (.ow d) (.ref p) F (upd H p o) :=
  ⟨.refl F, e.trans (.new hp), fun a u _ h => (Ext.new hp) a u h, fun _ _ h => .inl h, (fun _ z => nomatch z), p, o, rfl, upd_same, c, e.none hp, hp⟩
theorem Res.tup {g : G} {F H : Hp} {l : List D} {vs : List V} {p : Addr} (e : Ext F H) (hp : H p = none) (c : Reps g l vs F) : Res g F H none (.fz (.tup l)) (.ref p) (upd F p (.tup vs)) (upd H p (.tup vs)) := by
  have fp := e.none hp
  refine ⟨.new fp, fun a o h => ?_, fun a u _ h => (Ext.new hp) a u h, fun a o h => ?_, (fun _ z => nomatch z), p, vs, rfl, .inl upd_same, c.mono (.new fp)⟩
  · by_cases q : a = p
    · subst q; rw [upd_same] at h ⊢; exact h
    · rw [upd_ne q] at h ⊢; exact e a o h
  · by_cases q : a = p
    · subst q; exact .inr hp
    · rw [upd_ne q] at h; exact .inl h

section
variable {g : G} {B : Bs} {F F' H H' : Hp} {own : Addr → Nat} {env : En} {σ : L2.St}
theorem StF.grow (S : StF g B F own env σ H) (ff : Ext F F') (fh : Ext F' H') (hh : ∀ a o, B.b ≠ some a → H a = some o → H' a = some o) (nw : ∀ a o, F' a = some o → F a = some o ∨ H a = none)
    (bag : ∀ a, B.b = some a → BagOk g.K a F' H') : StF g B F' own env σ H' where
  f0 := S.f0.trans ff
  fh := fh
  h0 := fun a o hb h => hh a o hb (S.h0 a o hb h)
  nw := fun a o h => by
    rcases nw a o h with q | q
    · exact S.nw a o q
    · refine .inr ?_
      cases z : B.H0 a with
      | none => rfl
      | some u =>
        by_cases hb : B.b = some a
        · obtain ⟨⟨_, _, _, _, _, e, _⟩, _, _⟩ := S.bag a hb
          rw [q] at e; cases e
        · have := S.h0 a u hb z
          rw [q] at this; cases this
  bag := fun a hb => by
    obtain ⟨⟨_, _, _, _, _, e, _⟩, h0, f⟩ := S.bag a hb
    refine ⟨bag a hb, h0, ?_⟩
    cases q : F' a with
    | none => rfl
    | some u =>
      rcases nw a u q with z | z
      · rw [f] at z; cases z
      · rw [e] at z; cases z
  len := S.len
  sl := fun i s e => by
    obtain ⟨ov, h1, h2⟩ := S.sl i s e
    refine ⟨ov, h1, ?_⟩
    cases s with
    | un => trivial
    | fz d => obtain ⟨v, e1, r⟩ := h2; exact ⟨v, e1, r.mono ff⟩
    | ow d =>
      obtain ⟨p, o, e1, e2, c, e3, e4, e5⟩ := h2
      have pb : B.b ≠ some p := fun z => by
        obtain ⟨_, ⟨o', h0⟩, _⟩ := S.bag p z
        rw [e4] at h0; cases h0
      refine ⟨p, o, e1, hh p o pb e2, c.mono ff, ?_, e4, e5⟩
      cases q : F' p with
      | none => rfl
      | some u =>
        rcases nw p u q with z | z
        · rw [e3] at z; cases z
        · rw [e2] at z; cases z
    | bo d => obtain ⟨v, e1, r⟩ := h2; exact ⟨v, e1, r.mono ff (.refl _)⟩
    | bg => exact h2
    | br j => exact h2

theorem StF.slotLt (S : StF g B F own env σ H) {i : Nat} {s : Slot} (e : env[i]? = some s) : i < σ.length := by
  have := (List.getElem?_eq_some_iff.mp e).1
  rw [S.len] at this
  exact this
theorem SlotOk.longer {i : Nat} {s : Slot} {ov : Option V} {ts : En} {vs : L2.St} (hl : env.length = σ.length) (h : SlotOk g B F H own env σ i s ov) : SlotOk g B F H own (env ++ ts) (σ ++ vs) i s ov := by
  cases s with
  | br j =>
    obtain ⟨v, s', e1, e2, e3, e4, e5⟩ := h
    have hj := (List.getElem?_eq_some_iff.mp e3).1
    refine ⟨v, s', e1, ?_, ?_, e4, e5⟩
    · rw [List.getElem?_append_left (by omega)]; exact e2
    · rw [List.getElem?_append_left hj]; exact e3
  | _ => exact h
/-- a new last slot -/
theorem StF.push {own' : Addr → Nat} {t : Slot} {v : V} (S : StF g B F own env σ H) (ho : ∀ i s p, env[i]? = some s → σ[i]? = some (some (.ref p)) → own p = i → (∃ d, s = .ow d) → own' p = i)
    (h : SlotOk g B F H own' env σ env.length t (some v)) : StF g B F own' (env ++ [t]) (σ ++ [some v]) H where
  f0 := S.f0
  fh := S.fh
  h0 := S.h0
  nw := S.nw
  bag := S.bag
  len := by simp [S.len]
  sl := fun i s e => by
    by_cases hi : i < env.length
    · rw [List.getElem?_append_left hi] at e
      obtain ⟨ov, h1, h2⟩ := S.sl i s e
      refine ⟨ov, by rw [List.getElem?_append_left (by rw [← S.len]; exact hi)]; exact h1, ?_⟩
      refine SlotOk.longer S.len ?_
      cases s with
      | ow d =>
        obtain ⟨p, o, e1, e2, c, e3, e4, e5⟩ := h2
        subst e1
        exact ⟨p, o, rfl, e2, c, e3, e4, ho i _ p e h1 e5 ⟨d, rfl⟩⟩
      | _ => exact h2
    · rw [List.getElem?_append_right (by omega)] at e
      have hi2 : i = env.length := by
        cases q : i - env.length with
        | zero => omega
        | succ n => rw [q] at e; simp at e
      subst hi2
      simp at e
      subst e
      exact ⟨some v, by rw [S.len]; simp, SlotOk.longer S.len h⟩
theorem StF.res {b : Option Addr} {t : Slot} {v : V} (S : StF g B F own env σ H) (hb : b = none ∨ b = B.b) (r : Res g F H b t v F' H') : ∃ own', StF g B F' own' (env ++ [t]) (σ ++ [some v]) H' := by
  have hh : ∀ a o, B.b ≠ some a → H a = some o → H' a = some o := fun a o q h => by
    refine r.hh a o ?_ h
    rcases hb with e | e
    · rw [e]; intro z; cases z
    · rw [e]; exact q
  have bag : ∀ a, B.b = some a → BagOk g.K a F' H' := fun a q => by
    rcases hb with e | e
    · obtain ⟨⟨l, ns, i, j, k, h1, h2, h3⟩, _⟩ := S.bag a q
      exact ⟨l, ns, i, j, k, r.hh a _ (by rw [e]; exact fun z => nomatch z) h1, r.ff.l h2, h3⟩
    · exact r.bag a (e.trans q)
  have S' := S.grow r.ff r.fh hh r.nw bag
  have val := r.val
  cases t with
  | fz d => exact ⟨own, S'.push (fun _ _ _ _ _ q _ => q) ⟨v, rfl, val⟩⟩
  | ow d =>
    obtain ⟨p, o, e1, e2, c, e3, e4⟩ := val
    subst e1
    refine ⟨fun a => if a = p then env.length else own a, S'.push (fun i s q e1 e5 e6 hs => ?_) ⟨p, o, rfl, e2, c, e3, ?_, if_pos rfl⟩⟩
    · obtain ⟨d', hs⟩ := hs
      subst hs
      obtain ⟨ov, h1, h2⟩ := S.sl i _ e1
      rw [e5] at h1
      cases h1
      obtain ⟨p', o', z1, z2, _⟩ := h2
      cases z1
      show (if q = p then env.length else own q) = i
      rw [if_neg (fun z => by rw [z, e4] at z2; cases z2)]
      exact e6
    · cases z : B.H0 p with
      | none => rfl
      | some u =>
        by_cases hb : B.b = some p
        · obtain ⟨⟨_, _, _, _, _, e, _⟩, _, _⟩ := S.bag p hb
          rw [e4] at e; cases e
        · have := S.h0 p u hb z
          rw [e4] at this; cases this
  | _ => exact val.elim
theorem StF.take {ts : En} {vs : L2.St} (S : StF g B F own (env ++ ts) (σ ++ vs) H) (hl : σ.length = env.length) : StF g B F own env σ H where
  f0 := S.f0
  fh := S.fh
  h0 := S.h0
  nw := S.nw
  bag := S.bag
  len := hl.symm
  sl := fun i s e => by
    have hi := (List.getElem?_eq_some_iff.mp e).1
    obtain ⟨ov, h1, h2⟩ := S.sl i s (by rw [List.getElem?_append_left hi]; exact e)
    rw [List.getElem?_append_left (by omega)] at h1
    refine ⟨ov, h1, ?_⟩
    cases s with
    | br j =>
      obtain ⟨v, s', e1, e2, e3, e4, e5⟩ := h2
      rw [List.getElem?_append_left (by omega)] at e2 e3
      exact ⟨v, s', e1, e2, e3, e4, e5⟩
    | _ => exact h2
theorem StF.pnb (S : StF g B F own env σ H) {p : Addr} (h : B.H0 p = none) : B.b ≠ some p := fun z => by
  obtain ⟨_, ⟨o', h0⟩, _⟩ := S.bag p z
  rw [h] at h0; cases h0
theorem StF.fnb (S : StF g B F own env σ H) : Ext F (nob B.b H) := fun a o e => by
  rw [nob_at fun z => by have := (S.bag a z).2.2; rw [e] at this; cases this]
  exact S.fh a o e
/-- what stands in a slot is to be read -/
theorem StF.rd {i : Nat} {s : Slot} {v : V} {d : D} (S : StF g B F own env σ H) (e : env[i]? = some s) (ev : σ[i]? = some (some v)) (hd : rdS env s = some d) : RepC g F (nob B.b H) d v := by
  have cell : ∀ {i : Nat} {s : Slot} {v : V} {d : D}, env[i]? = some s → σ[i]? = some (some v) → (s = .fz d ∨ s = .ow d ∨ s = .bo d) → RepC g F (nob B.b H) d v := fun {i s v d} e ev hs => by
    obtain ⟨ov, h1, h2⟩ := S.sl i s e
    rw [ev] at h1
    cases h1
    rcases hs with rfl | rfl | rfl
    · obtain ⟨v', e1, r⟩ := h2
      cases e1
      exact .of S.fnb r
    · obtain ⟨p, o, e1, e2, c, e3, e4, e5⟩ := h2
      cases e1
      exact .cell (by rw [nob_at (S.pnb e4)]; exact e2) c
    · obtain ⟨v', e1, r⟩ := h2
      cases e1
      exact r.mono (.refl F) (nob_mono S.h0)
  cases s with
  | fz d' => cases hd; exact cell e ev (.inl rfl)
  | ow d' => cases hd; exact cell e ev (.inr (.inl rfl))
  | bo d' => cases hd; exact cell e ev (.inr (.inr rfl))
  | br j =>
    obtain ⟨ov, h1, h2⟩ := S.sl i _ e
    rw [ev] at h1
    cases h1
    obtain ⟨v', s', e1, e2, e3, e4, e5⟩ := h2
    cases e1
    have hd' : (match env[j]? with | some (.fz d) => some d | some (.ow d) => some d | some (.bo d) => some d | _ => none) = some d := hd
    rw [e3] at hd'
    cases s' with
    | fz d' => cases hd'; exact cell e3 e2 (.inl rfl)
    | ow d' => cases hd'; exact cell e3 e2 (.inr (.inl rfl))
    | bo d' => cases hd'; exact cell e3 e2 (.inr (.inr rfl))
    | _ => cases e4
  | _ => cases hd

/-- freezing what is to be kept -/
def frz (env : En) : Slot → Option (D × En)
  | .fz d => some (d, env)
  | .ow d => some (d, env)
  | .bo d => if scal d = true then some (d, env) else none
  | .br j => match env[j]? with
    | some (.fz d) => some (d, env)
    | some (.ow d) => some (d, env.set j (.fz d))
    | some (.bo d) => if scal d = true then some (d, env) else none
    | _ => none
  | _ => none
theorem NB_frz {t : Slot} {d : D} {e1 : En} (nb : ∀ s ∈ env, ∀ j, s ≠ .br j) (h : DL.frz env t = some (d, e1)) : ∀ s ∈ e1, ∀ j, s ≠ .br j := by
  have st : ∀ j d', ∀ s ∈ env.set j (.fz d'), ∀ j, s ≠ .br j := fun j d' s hs i => by
    rcases List.mem_or_eq_of_mem_set hs with h | h
    · exact nb s h i
    · rw [h]; intro z; cases z
  cases t with
  | fz d' => cases h; exact nb
  | ow d' => cases h; exact nb
  | bo d' =>
    have h' : (if scal d' = true then some (d', env) else none) = some (d, e1) := h
    split at h'
    · cases h'; exact nb
    · cases h'
  | br j =>
    have h' : (match env[j]? with | some (.fz d) => some (d, env) | some (.ow d) => some (d, env.set j (.fz d)) | some (.bo d) => if scal d = true then some (d, env) else none | _ => none) = some (d, e1) := h
    split at h'
    · cases h'; exact nb
    · cases h'; exact st _ _
    · split at h'
      · cases h'; exact nb
      · cases h'
    · cases h'
  | _ => cases h
/-- an own object is kept from now on as it stands -/
theorem StF.ice {i : Nat} {d : D} {p : Addr} (S : StF g B F own env σ H) (e : env[i]? = some (.ow d)) (ev : σ[i]? = some (some (.ref p))) :
    ∃ F', StF g B F' own (env.set i (.fz d)) σ H ∧ Ext F F' ∧ Rep g d (.ref p) F' := by
  obtain ⟨ov, h1, h2⟩ := S.sl i _ e
  rw [ev] at h1
  cases h1
  obtain ⟨p', o, e1, e2, c, e3, e4, e5⟩ := h2
  cases e1
  have ext : Ext F (upd F p o) := .new e3
  have rep : Rep g d (.ref p) (upd F p o) := by
    have c' := c.mono ext
    unfold CellOk at c'
    split at c'
    · exact ⟨p, _, rfl, .inl (.inl upd_same), c'⟩
    · exact ⟨p, _, rfl, .inl upd_same, c'⟩
    · exact ⟨p, _, rfl, .inl upd_same, c'⟩
    · exact c'.elim
  refine ⟨upd F p o, ⟨S.f0.trans ext, S.fh.both e2, S.h0, fun a u h => ?_, fun a hb => ?_, by simp [S.len], fun j s q => ?_⟩, ext, rep⟩
  · by_cases q : a = p
    · subst q; exact .inr e4
    · rw [upd_ne q] at h; exact S.nw a u h
  · obtain ⟨⟨l, ns, x, y, z, h1, h2, h3⟩, h4, h5⟩ := S.bag a hb
    refine ⟨⟨l, ns, x, y, z, h1, ext.l h2, h3⟩, h4, ?_⟩
    rw [upd_ne (fun z => S.pnb e4 (by rw [← z]; exact hb))]
    exact h5
  · have hi := (List.getElem?_eq_some_iff.mp e).1
    by_cases hj : j = i
    · subst hj
      rw [List.getElem?_set_self hi] at q
      cases q
      exact ⟨_, ev, _, rfl, rep⟩
    · rw [List.getElem?_set_ne (Ne.symm hj)] at q
      obtain ⟨ov, h1, h2⟩ := S.sl j s q
      refine ⟨ov, h1, ?_⟩
      cases s with
      | un => trivial
      | fz d' => obtain ⟨v, z1, r⟩ := h2; exact ⟨v, z1, r.mono ext⟩
      | ow d' =>
        obtain ⟨p', o', z1, z2, c', z3, z4, z5⟩ := h2
        refine ⟨p', o', z1, z2, c'.mono ext, ?_, z4, z5⟩
        rw [upd_ne (fun z => hj (by rw [← z5, ← e5, z]))]
        exact z3
      | bo d' => obtain ⟨v, z1, r⟩ := h2; exact ⟨v, z1, r.mono ext (.refl _)⟩
      | bg => exact h2
      | br m =>
        obtain ⟨v, s', z1, z2, z3, z4, z5⟩ := h2
        by_cases hm : m = i
        · subst hm
          exact ⟨v, .fz d, z1, z2, List.getElem?_set_self hi, rfl, z5⟩
        · exact ⟨v, s', z1, z2, by rw [List.getElem?_set_ne (Ne.symm hm)]; exact z3, z4, z5⟩
/-- a slot said anew, the value as it is -/
theorem StF.reset {i : Nat} {s s' : Slot} {v : V} (S : StF g B F own env σ H) (e : env[i]? = some s) (ev : σ[i]? = some (some v)) (hc : isCell s' = true ∨ isCell s = false) (h : SlotOk g B F H own env σ i s' (some v)) : StF g B F own (env.set i s') σ H := by
  have hi := (List.getElem?_eq_some_iff.mp e).1
  have brs : ∀ (j : Nat) (t : Slot) (ov : Option V), SlotOk g B F H own env σ j t ov → SlotOk g B F H own (env.set i s') σ j t ov := fun j t ov q => by
    cases t with
    | br m =>
      obtain ⟨v, s1, z1, z2, z3, z4, z5⟩ := q
      by_cases hm : m = i
      · subst hm
        rw [e] at z3
        cases z3
        rcases hc with hc | hc
        · exact ⟨v, s', z1, z2, List.getElem?_set_self hi, hc, z5⟩
        · rw [hc] at z4; cases z4
      · exact ⟨v, s1, z1, z2, by rw [List.getElem?_set_ne (Ne.symm hm)]; exact z3, z4, z5⟩
    | _ => exact q
  refine ⟨S.f0, S.fh, S.h0, S.nw, S.bag, by simp [S.len], fun j t q => ?_⟩
  by_cases hj : j = i
  · subst hj
    rw [List.getElem?_set_self hi] at q
    cases q
    exact ⟨_, ev, brs _ _ _ h⟩
  · rw [List.getElem?_set_ne (Ne.symm hj)] at q
    obtain ⟨ov, h1, h2⟩ := S.sl j t q
    exact ⟨ov, h1, brs _ _ _ h2⟩
/-- freezing the temporary at k (behind the names env) -/
theorem StF.frz {ts : En} {vs : L2.St} {k : Nat} {t : Slot} {v : V} {d : D} {env' : En} (S : StF g B F own (env ++ ts) (σ ++ vs) H) (hl : σ.length = env.length) (e : ts[k]? = some t) (ev : vs[k]? = some (some v)) (hb : ∀ j, t = .br j → j < env.length)
    (hf : frz env t = some (d, env')) : ∃ F', StF g B F' own (env' ++ ts.set k (.fz d)) (σ ++ vs) H ∧ Ext F F' ∧ env'.length = env.length ∧ Rep g d v F' := by
  have hk := (List.getElem?_eq_some_iff.mp e).1
  have e' : (env ++ ts)[env.length + k]? = some t := by rw [List.getElem?_append_right (by omega)]; simpa using e
  have ev' : (σ ++ vs)[env.length + k]? = some (some v) := by rw [List.getElem?_append_right (by omega)]; simpa [hl] using ev
  have sk : ∀ s, (env ++ ts).set (env.length + k) s = env ++ ts.set k s := fun s => by rw [List.set_append_right _ _ (by omega)]; simp
  have fin : ∀ {d : D}, Rep g d v F → (isCell t = true ∨ ∃ j, t = .br j) → ∃ F', StF g B F' own (env ++ ts.set k (.fz d)) (σ ++ vs) H ∧ Ext F F' ∧ env.length = env.length ∧ Rep g d v F' := fun {d} r _ =>
    ⟨F, by rw [← sk]; exact S.reset e' ev' (.inl rfl) ⟨v, rfl, r⟩, .refl F, rfl, r⟩
  obtain ⟨ov, h1, h2⟩ := S.sl _ _ e'
  rw [ev'] at h1
  cases h1
  cases t with
  | fz d' =>
    cases hf
    obtain ⟨v', z, r⟩ := h2
    cases z
    exact fin r (.inl rfl)
  | ow d' =>
    cases hf
    obtain ⟨p, o, z, _⟩ := id h2
    cases z
    obtain ⟨F', S', x, r⟩ := S.ice e' ev'
    exact ⟨F', by rw [← sk]; exact S', x, rfl, r⟩
  | bo d' =>
    have hf' : (if scal d' = true then some (d', env) else none) = some (d, env') := hf
    by_cases hs : scal d' = true
    · rw [if_pos hs] at hf'
      cases hf'
      obtain ⟨v', z, r⟩ := h2
      cases z
      exact fin (r.rep hs) (.inl rfl)
    · rw [if_neg hs] at hf'; cases hf'
  | br j =>
    have hj := hb j rfl
    obtain ⟨v', s', z1, z2, z3, z4, z5⟩ := h2
    cases z1
    have z3' : env[j]? = some s' := by rw [List.getElem?_append_left hj] at z3; exact z3
    have hf' : (match env[j]? with | some (.fz d) => some (d, env) | some (.ow d) => some (d, env.set j (.fz d)) | some (.bo d) => if scal d = true then some (d, env) else none | _ => none) = some (d, env') := hf
    rw [z3'] at hf'
    obtain ⟨ov, q1, q2⟩ := S.sl j s' z3
    rw [z2] at q1
    cases q1
    cases s' with
    | fz d' =>
      cases hf'
      obtain ⟨v', z, r⟩ := q2
      cases z
      exact fin r (.inr ⟨j, rfl⟩)
    | ow d' =>
      cases hf'
      obtain ⟨p, o, z, _⟩ := id q2
      cases z
      obtain ⟨F', S', x, r⟩ := S.ice z3 z2
      have e2 : ((env ++ ts).set j (.fz d))[env.length + k]? = some (.br j) := by rw [List.getElem?_set_ne (by omega)]; exact e'
      refine ⟨F', ?_, x, by simp, r⟩
      have S2 := S'.reset (s' := .fz d) e2 ev' (.inl rfl) ⟨.ref p, rfl, r⟩
      rw [List.set_append_left _ _ hj] at S2
      have sk2 : ∀ s, (env.set j (.fz d) ++ ts).set (env.length + k) s = env.set j (.fz d) ++ ts.set k s := fun s => by rw [List.set_append_right _ _ (by simp)]; simp
      rw [← sk2]
      exact S2
    | bo d' =>
      have hf2 : (if scal d' = true then some (d', env) else none) = some (d, env') := hf'
      by_cases hs : scal d' = true
      · rw [if_pos hs] at hf2
        cases hf2
        obtain ⟨v', z, r⟩ := q2
        cases z
        exact fin (r.rep hs) (.inr ⟨j, rfl⟩)
      · rw [if_neg hs] at hf2; cases hf2
    | _ => cases z4
  | _ => cases hf
end
end DL
set_option maxRecDepth 100000
set_option maxHeartbeats 2000000
namespace DL
open PySem PySem.Spec PyProof.Rows L2

abbrev DK := Slot → En → Prop
abbrev DX := En → DK → Prop
abbrev DT := En → (Bool → En → Prop) → Prop
abbrev DA := En → (List Slot → En → Prop) → Prop
/-- the names' slots are no borrowed ones -/
def NB (env : En) : Prop := ∀ s ∈ env, ∀ j, s ≠ .br j
def St (g : G) (B : Bs) (env ts : En) (σ vs : L2.St) (H : Hp) : Prop := NB env ∧ ∃ F own, StF g B F own (env ++ ts) (σ ++ vs) H
abbrev BrOk (n : Nat) (t : Slot) : Prop := ∀ j, t = .br j → j < n

def SndX (g : G) (te : TE) (de : DX) : Prop := ∀ (B : Bs) (env ts : En) (σ vs : L2.St) (H : Hp) (k : DK) (Q : VK), σ.length = env.length → vs.length = ts.length → St g B env ts σ vs H → de env k →
  (∀ v H' t env', env'.length = env.length → BrOk env.length t → St g B env' (ts ++ [t]) σ (vs ++ [some v]) H' → k t env' → Q v H') → te σ H Q
def SndT (g : G) (tt : TT) (de : DT) : Prop := ∀ (B : Bs) (env ts : En) (σ vs : L2.St) (H : Hp) (k : Bool → En → Prop) (Q : Bool → Hp → Prop), σ.length = env.length → vs.length = ts.length → St g B env ts σ vs H → de env k →
  (∀ b H' env', env'.length = env.length → St g B env' ts σ vs H' → k b env' → Q b H') → tt σ H Q
def SndA (g : G) (ta : TA) (de : DA) : Prop := ∀ (B : Bs) (env ts : En) (σ vs : L2.St) (H : Hp) (k : List Slot → En → Prop) (Q : List V → Hp → Prop), σ.length = env.length → vs.length = ts.length → St g B env ts σ vs H → de env k →
  (∀ xs H' as env', env'.length = env.length → as.length = xs.length → (∀ t ∈ as, BrOk env.length t) → St g B env' (ts ++ as) σ (vs ++ xs.map some) H' → k as env' → Q xs H') → ta σ H Q

section
variable {g : G} {B : Bs} {F F' H H' : Hp} {own : Addr → Nat} {env ts : En} {σ vs : L2.St}
theorem rdS_app {t : Slot} (hb : BrOk env.length t) : rdS (env ++ ts) t = rdS env t := by
  cases t with
  | br j => show (match (env ++ ts)[j]? with | some (.fz d) => some d | some (.ow d) => some d | some (.bo d) => some d | _ => none) = _; rw [List.getElem?_append_left (hb j rfl)]; rfl
  | _ => rfl
theorem StF.rdT {k : Nat} {t : Slot} {v : V} {d : D} (S : StF g B F own (env ++ ts) (σ ++ vs) H) (hl : σ.length = env.length) (e : ts[k]? = some t) (ev : vs[k]? = some (some v)) (hb : BrOk env.length t) (hd : rdS env t = some d) : RepC g F (nob B.b H) d v :=
  S.rd (i := env.length + k) (s := t) (by rw [List.getElem?_append_right (by omega)]; simpa using e) (by rw [List.getElem?_append_right (by omega)]; simpa [hl] using ev) (by rw [rdS_app hb]; exact hd)
theorem StF.drop {more : En} {mv : L2.St} (S : StF g B F own (env ++ (ts ++ more)) (σ ++ (vs ++ mv)) H) (hl : σ.length = env.length) (hv : vs.length = ts.length) : StF g B F own (env ++ ts) (σ ++ vs) H := by
  rw [← List.append_assoc, ← List.append_assoc] at S
  exact S.take (by simp [hl, hv])
theorem StF.out {b : Option Addr} {t : Slot} {v : V} {more : En} {mv : L2.St} (S : StF g B F own (env ++ (ts ++ more)) (σ ++ (vs ++ mv)) H) (hl : σ.length = env.length) (hv : vs.length = ts.length) (nb : NB env) (hb : b = none ∨ b = B.b) (r : Res g F H b t v F' H') :
    St g B env (ts ++ [t]) σ (vs ++ [some v]) H' := by
  obtain ⟨own', S'⟩ := (S.drop hl hv).res hb r
  rw [List.append_assoc, List.append_assoc] at S'
  exact ⟨nb, F', own', S'⟩
theorem Res.br {b : Option Addr} {t : Slot} {v : V} {n : Nat} (r : Res g F H b t v F' H') : BrOk n t := fun j e => by
  subst e
  exact r.val.elim
theorem St.drop {more : En} {mv : L2.St} (S : St g B env (ts ++ more) σ (vs ++ mv) H) (hl : σ.length = env.length) (hv : vs.length = ts.length) : St g B env ts σ vs H := by
  obtain ⟨nb, F, own, S⟩ := S
  exact ⟨nb, F, own, S.drop hl hv⟩

/-! ### names, constants -/
def xVar (i : Nat) : DX := fun env k => match env[i]? with
  | some (.fz d) => k (.fz d) env
  | some (.ow _) => k (.br i) env
  | some (.bo _) => k (.br i) env
  | some .bg => k .bg env
  | _ => False
theorem snd_var {i : Nat} : SndX g (tVar i) (xVar i) := fun B env ts σ vs H k Q hl hv S h q => by
  unfold xVar at h
  obtain ⟨nb, F, own, S⟩ := S
  cases e : env[i]? with
  | none => rw [e] at h; exact h.elim
  | some s =>
    rw [e] at h
    have hi := (List.getElem?_eq_some_iff.mp e).1
    have e' : (env ++ ts)[i]? = some s := by rw [List.getElem?_append_left hi]; exact e
    obtain ⟨ov, h1, h2⟩ := S.sl i s e'
    have h1' : σ[i]? = some ov := by rw [List.getElem?_append_left (by omega)] at h1; exact h1
    have push : ∀ {t : Slot} {v : V}, SlotOk g B F H own (env ++ ts) (σ ++ vs) (env ++ ts).length t (some v) → St g B env (ts ++ [t]) σ (vs ++ [some v]) H := fun {t v} z => by
      have S' := S.push (fun _ _ _ _ _ q _ => q) z
      rw [List.append_assoc, List.append_assoc] at S'
      exact ⟨nb, F, own, S'⟩
    cases s with
    | fz d =>
      obtain ⟨v, e1, r⟩ := h2
      subst e1
      exact ⟨v, h1', q v H (.fz d) env rfl (fun _ z => nomatch z) (push ⟨v, rfl, r⟩) h⟩
    | ow d =>
      obtain ⟨p, o, e1, _⟩ := h2
      subst e1
      exact ⟨_, h1', q _ H (.br i) env rfl (fun j z => by cases z; exact hi) (push ⟨_, _, rfl, h1, e', rfl, by simp; omega⟩) h⟩
    | bo d =>
      obtain ⟨v, e1, _⟩ := h2
      subst e1
      exact ⟨_, h1', q _ H (.br i) env rfl (fun j z => by cases z; exact hi) (push ⟨_, _, rfl, h1, e', rfl, by simp; omega⟩) h⟩
    | bg =>
      obtain ⟨a, e1, e2⟩ := h2
      subst e2
      exact ⟨_, h1', q _ H .bg env rfl (fun _ z => nomatch z) (push ⟨a, e1, rfl⟩) h⟩
    | _ => exact h.elim
/-- a frozen datum comes -/
theorem St.fz {d : D} {v : V} (S : St g B env ts σ vs H) (r : ∀ F : Hp, Rep g d v F) : St g B env (ts ++ [.fz d]) σ (vs ++ [some v]) H := by
  obtain ⟨nb, F, own, S⟩ := S
  have S' := S.push (t := .fz d) (v := v) (fun _ _ _ _ _ q _ => q) ⟨v, rfl, r F⟩
  rw [List.append_assoc, List.append_assoc] at S'
  exact ⟨nb, F, own, S'⟩
def xC (d : D) : DX := fun env k => k (.fz d) env
theorem snd_c {d : D} {v : V} (r : ∀ F : Hp, Rep g d v F) : SndX g (tC v) (xC d) := fun B env ts σ vs H k Q hl hv S h q => q v H (.fz d) env rfl (fun _ z => nomatch z) (S.fz r) h

/-! ### operations by values -/
def OpV (g : G) (r : R2) (f : D → D → (Slot → Prop) → Prop) : Prop := ∀ (F H : Hp) (x y : V) (dx dy : D) (post : Slot → Prop) (Q : VK), Ext F H → RepC g F H dx x → RepC g F H dy y → f dx dy post →
  (∀ t v F' H', Res g F H none t v F' H' → post t → Q v H') → r x y H Q
def UnV (g : G) (r : V → Hp → VK → Prop) (f : D → (Slot → Prop) → Prop) : Prop := ∀ (F H : Hp) (x : V) (dx : D) (post : Slot → Prop) (Q : VK), Ext F H → RepC g F H dx x → f dx post →
  (∀ t v F' H', Res g F H none t v F' H' → post t → Q v H') → r x H Q
def RepCs (g : G) (F H : Hp) : List D → List V → Prop
  | [], xs => xs = []
  | d :: ds, xs => ∃ x r, xs = x :: r ∧ RepC g F H d x ∧ RepCs g F H ds r
def CallV (g : G) (r : List V → Hp → VK → Prop) (f : List D → (Slot → Prop) → Prop) : Prop := ∀ (F H : Hp) (xs : List V) (ds : List D) (post : Slot → Prop) (Q : VK), Ext F H → RepCs g F H ds xs → f ds post →
  (∀ t v F' H', Res g F H none t v F' H' → post t → Q v H') → r xs H Q
def xOp (f : D → D → (Slot → Prop) → Prop) (da db : DX) : DX := fun env k => da env fun t1 e1 => db e1 fun t2 e2 => ob (rdS e2 t1) fun a => ob (rdS e2 t2) fun b => f a b fun t => k t e2
def xUn (f : D → (Slot → Prop) → Prop) (da : DX) : DX := fun env k => da env fun t1 e1 => ob (rdS e1 t1) fun a => f a fun t => k t e1
theorem snd_op {r : R2} {f : D → D → (Slot → Prop) → Prop} {ta tb : TE} {da db : DX} (ho : OpV g r f) (ha : SndX g ta da) (hb : SndX g tb db) : SndX g (tOp r ta tb) (xOp f da db) := fun B env ts σ vs H k Q hl hv S h q => by
  refine ha B env ts σ vs H _ _ hl hv S h fun x H1 t1 e1 l1 b1 S1 h1 => ?_
  refine hb B e1 (ts ++ [t1]) σ (vs ++ [some x]) H1 _ _ (by omega) (by simp [hv]) S1 h1 fun y H2 t2 e2 l2 b2 S2 h2 => ?_
  obtain ⟨a, ea, h2⟩ := ob_el h2
  obtain ⟨b, eb, h2⟩ := ob_el h2
  obtain ⟨nb, F, own, S2⟩ := S2
  have hl2 : σ.length = e2.length := by omega
  have ra := S2.rdT (k := ts.length) (t := t1) (v := x) hl2 (by simp) (by simp [← hv]) (by rw [l2, l1]; exact b1) ea
  have rb := S2.rdT (k := ts.length + 1) (t := t2) (v := y) hl2 (by simp) (by simp [← hv]) (by rw [l2]; exact b2) eb
  refine ho F H2 x y a b _ Q S2.fh (ra.mono (.refl _) (nob_ext _ _)) (rb.mono (.refl _) (nob_ext _ _)) h2 fun t v F' H' r p => ?_
  rw [List.append_assoc ts, List.append_assoc vs] at S2
  exact q v H' t e2 (by omega) r.br (S2.out hl2 hv nb (.inl rfl) r) p
theorem snd_un {r : V → Hp → VK → Prop} {f : D → (Slot → Prop) → Prop} {ta : TE} {da : DX} (ho : UnV g r f) (ha : SndX g ta da) : SndX g (tUn r ta) (xUn f da) := fun B env ts σ vs H k Q hl hv S h q => by
  refine ha B env ts σ vs H _ _ hl hv S h fun x H1 t1 e1 l1 b1 S1 h1 => ?_
  obtain ⟨a, ea, h1⟩ := ob_el h1
  obtain ⟨nb, F, own, S1⟩ := S1
  have hl1 : σ.length = e1.length := by omega
  have ra := S1.rdT (k := ts.length) (t := t1) (v := x) hl1 (by simp) (by simp [← hv]) (by rw [l1]; exact b1) ea
  refine ho F H1 x a _ Q S1.fh (ra.mono (.refl _) (nob_ext _ _)) h1 fun t v F' H' r p => ?_
  exact q v H' t e1 (by omega) r.br (S1.out hl1 hv nb (.inl rfl) r) p

/-! ### tests -/
def dT (da : DX) : DT := fun env k => da env fun t e1 => match rdS e1 t with
  | some (.bl b) => k b e1
  | _ => False
theorem dT_el {da : DX} {env : En} {k : Bool → En → Prop} (h : dT da env k) : da env fun t e1 => match rdS e1 t with
  | some (.bl b) => k b e1
  | _ => False := h
theorem snd_test {te : TE} {da : DX} (ha : SndX g te da) : SndT g (tTest te) (dT da) := fun B env ts σ vs H k Q hl hv S h q => by
  refine ha B env ts σ vs H _ _ hl hv S h fun x H1 t1 e1 l1 b1 S1 h1 => ?_
  cases ea : rdS e1 t1 with
  | none => rw [ea] at h1; exact h1.elim
  | some d =>
    rw [ea] at h1
    obtain ⟨nb, F, own, S1'⟩ := id S1
    have hl1 : σ.length = e1.length := by omega
    have ra := S1'.rdT (k := ts.length) (t := t1) (v := x) hl1 (by simp) (by simp [← hv]) (by rw [l1]; exact b1) ea
    cases d with
    | bl b => exact ⟨b, ra, q b H1 e1 l1 (S1.drop hl1 hv) h1⟩
    | _ => exact h1.elim
theorem snd_tB {te : TE} {da : DX} (ha : SndX g te da) : SndT g (tB te) (dT da) := snd_test ha
def dAnd (a b : DT) : DT := fun env k => a env fun c e1 => match c with
  | true => b e1 k
  | false => k false e1
def dOr (a b : DT) : DT := fun env k => a env fun c e1 => match c with
  | true => k true e1
  | false => b e1 k
def dNot (a : DT) : DT := fun env k => a env fun c e1 => k (!c) e1
theorem snd_and {t u : TT} {a b : DT} (h1 : SndT g t a) (h2 : SndT g u b) : SndT g (tAnd t u) (dAnd a b) := fun B env ts σ vs H k Q hl hv S h q => by
  refine h1 B env ts σ vs H _ _ hl hv S h fun c H1 e1 l1 S1 p => ?_
  cases c with
  | true =>
    show (if true = true then u σ H1 Q else Q false H1)
    rw [if_pos rfl]
    exact h2 B e1 ts σ vs H1 k Q (by omega) hv S1 p fun b H2 e2 l2 S2 p2 => q b H2 e2 (by omega) S2 p2
  | false =>
    show (if false = true then u σ H1 Q else Q false H1)
    rw [if_neg Bool.false_ne_true]
    exact q false H1 e1 l1 S1 p
theorem snd_or {t u : TT} {a b : DT} (h1 : SndT g t a) (h2 : SndT g u b) : SndT g (tOr t u) (dOr a b) := fun B env ts σ vs H k Q hl hv S h q => by
  refine h1 B env ts σ vs H _ _ hl hv S h fun c H1 e1 l1 S1 p => ?_
  cases c with
  | true =>
    show (if true = true then Q true H1 else u σ H1 Q)
    rw [if_pos rfl]
    exact q true H1 e1 l1 S1 p
  | false =>
    show (if false = true then Q true H1 else u σ H1 Q)
    rw [if_neg Bool.false_ne_true]
    exact h2 B e1 ts σ vs H1 k Q (by omega) hv S1 p fun b H2 e2 l2 S2 p2 => q b H2 e2 (by omega) S2 p2
theorem snd_not {t : TT} {a : DT} (h1 : SndT g t a) : SndT g (tNot t) (dNot a) := fun B env ts σ vs H k Q hl hv S h q =>
  h1 B env ts σ vs H _ _ hl hv S h fun c H1 e1 l1 S1 p => q (!c) H1 e1 l1 S1 p
def dYes : DT := fun env k => k true env
theorem snd_yes : SndT g tYes dYes := fun B env ts σ vs H k Q hl hv S h q => q true H env rfl S h
def xIf (c : DT) (a b : DX) : DX := fun env k => c env fun z e1 => match z with
  | true => a e1 k
  | false => b e1 k
theorem snd_if {t : TT} {ta tb : TE} {c : DT} {a b : DX} (h0 : SndT g t c) (h1 : SndX g ta a) (h2 : SndX g tb b) : SndX g (tIf t ta tb) (xIf c a b) := fun B env ts σ vs H k Q hl hv S h q => by
  refine h0 B env ts σ vs H _ _ hl hv S h fun z H1 e1 l1 S1 p => ?_
  cases z with
  | true =>
    show (if true = true then ta σ H1 Q else tb σ H1 Q)
    rw [if_pos rfl]
    exact h1 B e1 ts σ vs H1 k Q (by omega) hv S1 p fun v H2 t e2 l2 b2 S2 p2 => q v H2 t e2 (by omega) (by rw [← l1]; exact b2) S2 p2
  | false =>
    show (if false = true then ta σ H1 Q else tb σ H1 Q)
    rw [if_neg Bool.false_ne_true]
    exact h2 B e1 ts σ vs H1 k Q (by omega) hv S1 p fun v H2 t e2 l2 b2 S2 p2 => q v H2 t e2 (by omega) (by rw [← l1]; exact b2) S2 p2
/-- and, or, not of truth values, as values -/
def xOfT (c : DT) : DX := fun env k => c env fun b e1 => k (.fz (.bl b)) e1
theorem snd_andV {ta tb : TE} {a b : DX} (h1 : SndX g ta a) (h2 : SndX g tb b) : SndX g (tAndV ta tb) (xOfT (dAnd (dT a) (dT b))) := fun B env ts σ vs H k Q hl hv S h q => by
  refine snd_test h1 B env ts σ vs H _ _ hl hv S h fun c H1 e1 l1 S1 p => ?_
  cases c with
  | true =>
    show (if true = true then tb σ H1 Q else _)
    rw [if_pos rfl]
    refine h2 B e1 ts σ vs H1 _ Q (by omega) hv S1 p fun v H2 t e2 l2 b2 S2 p2 => ?_
    cases ea : rdS e2 t with
    | none => rw [ea] at p2; exact p2.elim
    | some d =>
      rw [ea] at p2
      obtain ⟨nb, F, own, S2'⟩ := id S2
      have ra := S2'.rdT (k := ts.length) (t := t) (v := v) (by omega) (by simp) (by simp [← hv]) (by rw [l2]; exact b2) ea
      cases d with
      | bl b =>
        have ev : v = .bl b := ra
        subst ev
        exact q _ H2 (.fz (.bl b)) e2 (by omega) (fun _ z => nomatch z) ((S2.drop (by omega) hv).fz fun _ => rfl) p2
      | _ => exact p2.elim
  | false =>
    show (if false = true then tb σ H1 Q else Q (.bl false) H1)
    rw [if_neg Bool.false_ne_true]
    exact q _ H1 (.fz (.bl false)) e1 l1 (fun _ z => nomatch z) (S1.fz fun _ => rfl) p
theorem snd_orV {ta tb : TE} {a b : DX} (h1 : SndX g ta a) (h2 : SndX g tb b) : SndX g (tOrV ta tb) (xOfT (dOr (dT a) (dT b))) := fun B env ts σ vs H k Q hl hv S h q => by
  refine snd_test h1 B env ts σ vs H _ _ hl hv S h fun c H1 e1 l1 S1 p => ?_
  cases c with
  | false =>
    show (if false = true then _ else tb σ H1 Q)
    rw [if_neg Bool.false_ne_true]
    refine h2 B e1 ts σ vs H1 _ Q (by omega) hv S1 p fun v H2 t e2 l2 b2 S2 p2 => ?_
    cases ea : rdS e2 t with
    | none => rw [ea] at p2; exact p2.elim
    | some d =>
      rw [ea] at p2
      obtain ⟨nb, F, own, S2'⟩ := id S2
      have ra := S2'.rdT (k := ts.length) (t := t) (v := v) (by omega) (by simp) (by simp [← hv]) (by rw [l2]; exact b2) ea
      cases d with
      | bl b =>
        have ev : v = .bl b := ra
        subst ev
        exact q _ H2 (.fz (.bl b)) e2 (by omega) (fun _ z => nomatch z) ((S2.drop (by omega) hv).fz fun _ => rfl) p2
      | _ => exact p2.elim
  | true =>
    show (if true = true then Q (.bl true) H1 else _)
    rw [if_pos rfl]
    exact q _ H1 (.fz (.bl true)) e1 l1 (fun _ z => nomatch z) (S1.fz fun _ => rfl) p
theorem snd_notV {ta : TE} {a : DX} (h1 : SndX g ta a) : SndX g (tNotV ta) (xOfT (dNot (dT a))) := fun B env ts σ vs H k Q hl hv S h q =>
  snd_test h1 B env ts σ vs H _ _ hl hv S h fun c H1 e1 l1 S1 p => q _ H1 (.fz (.bl (!c))) e1 l1 (fun _ z => nomatch z) (S1.fz fun _ => rfl) p

/-! ### argument lists -/
def aNil : DA := fun env k => k [] env
def aCons (x : DX) (r : DA) : DA := fun env k => x env fun t e1 => r e1 fun as e2 => k (t :: as) e2
theorem snd_aNil : SndA g tNil aNil := fun B env ts σ vs H k Q hl hv S h q => q [] H [] env rfl rfl (fun _ z => nomatch z) (by simpa using S) h
theorem snd_aCons {te : TE} {ta : TA} {x : DX} {r : DA} (h1 : SndX g te x) (h2 : SndA g ta r) : SndA g (tCons te ta) (aCons x r) := fun B env ts σ vs H k Q hl hv S h q => by
  refine h1 B env ts σ vs H _ _ hl hv S h fun v H1 t e1 l1 b1 S1 p => ?_
  refine h2 B e1 (ts ++ [t]) σ (vs ++ [some v]) H1 _ _ (by omega) (by simp [hv]) S1 p fun xs H2 as e2 l2 la b2 S2 p2 => ?_
  refine q (v :: xs) H2 (t :: as) e2 (by omega) (by simp [la]) (fun s hs => ?_) (by simpa using S2) p2
  rcases List.mem_cons.mp hs with rfl | hs
  · exact b1
  · rw [← l1]; exact b2 s hs
/-- all arguments read -/
def rdAll (env : En) : List Slot → Option (List D)
  | [] => some []
  | t :: as => match rdS env t, rdAll env as with
    | some d, some ds => some (d :: ds)
    | _, _ => none
theorem StF.rdAll : ∀ {as : En} {xs : List V} {ds : List D} {ts : En} {vs : L2.St}, StF g B F own (env ++ (ts ++ as)) (σ ++ (vs ++ xs.map some)) H → σ.length = env.length → vs.length = ts.length → as.length = xs.length → (∀ t ∈ as, BrOk env.length t) → DL.rdAll env as = some ds → RepCs g F (nob B.b H) ds xs
  | [], xs, ds, ts, vs, S, hl, hv, ha, hb, h => by
    have : xs = [] := by cases xs with | nil => rfl | cons _ _ => simp at ha
    subst this
    cases h
    rfl
  | t :: as, xs, ds, ts, vs, S, hl, hv, ha, hb, h => by
    cases xs with
    | nil => simp at ha
    | cons x xs =>
      unfold DL.rdAll at h
      cases e1 : rdS env t with
      | none => rw [e1] at h; cases h
      | some d =>
        cases e2 : DL.rdAll env as with
        | none => rw [e1, e2] at h; cases h
        | some ds' =>
          rw [e1, e2] at h
          cases h
          refine ⟨x, xs, rfl, S.rdT (k := ts.length) (t := t) (v := x) hl (by simp) (by simp [← hv]) (hb t List.mem_cons_self) e1, ?_⟩
          have S' : StF g B F own (env ++ ((ts ++ [t]) ++ as)) (σ ++ ((vs ++ [some x]) ++ xs.map some)) H := by simpa using S
          exact StF.rdAll S' hl (by simp [hv]) (by simpa using ha) (fun s hs => hb s (List.mem_cons_of_mem _ hs)) e2
theorem RepCs.mono : ∀ {ds : List D} {xs : List V}, Ext F F' → Ext H H' → RepCs g F H ds xs → RepCs g F' H' ds xs
  | [], _, _, _, h => h
  | _ :: _, _, e, k, ⟨x, r, e1, h1, h⟩ => ⟨x, r, e1, h1.mono e k, h.mono e k⟩
def xCB (f : List D → (Slot → Prop) → Prop) (da : DA) : DX := fun env k => da env fun as e1 => ob (rdAll e1 as) fun ds => f ds fun t => k t e1
theorem snd_cb {r : List V → Hp → VK → Prop} {f : List D → (Slot → Prop) → Prop} {ta : TA} {da : DA} (hc : CallV g r f) (ha : SndA g ta da) : SndX g (tCB r ta) (xCB f da) := fun B env ts σ vs H k Q hl hv S h q => by
  refine ha B env ts σ vs H _ _ hl hv S h fun xs H1 as e1 l1 la b1 S1 h1 => ?_
  obtain ⟨ds, ed, h1⟩ := ob_el h1
  obtain ⟨nb, F, own, S1⟩ := S1
  have hl1 : σ.length = e1.length := by omega
  have r0 := S1.rdAll hl1 hv la (by rw [l1]; exact b1) ed
  refine hc F H1 xs ds _ Q S1.fh (r0.mono (.refl _) (nob_ext _ _)) h1 fun t v F' H' r p => ?_
  exact q v H' t e1 (by omega) r.br (S1.out hl1 hv nb (.inl rfl) r) p
end
end DL
set_option maxRecDepth 100000
set_option maxHeartbeats 2000000
namespace DL
open PySem PySem.Spec PyProof.Rows L2

section
variable {g : G} {F H : Hp}
theorem mkS_app (a b : List Nat) : mkS a ++ mkS b = mkS (a ++ b) := by
  show (⟨a.toArray ++ b.toArray⟩ : Str) = _
  simp [mkS]
theorem mkS_len (a : List Nat) : (mkS a).length = a.length := by simp [mkS, Str.length]
theorem mkS_inj {a b : List Nat} : mkS a = mkS b ↔ a = b := by
  constructor
  · intro h
    have := congrArg (fun z : Str => z.cps.toList) h
    simpa [mkS] using this
  · rintro rfl; rfl

/-! ### + -/
def rCatG (K : PySem.W.Frag) : R2 := fun x y H Q => ∃ l b xs zs, x = .ref l ∧ y = .ref b ∧ SqL K H l xs ∧ SqL K H b zs ∧ xs.length + zs.length ≤ sizeLine ∧ ∀ p, H p = none → Q (.ref p) (upd H p (.lst (xs ++ zs)))
theorem op_catG {X : Cx} : OpR X (binaryOp .Add) (rCatG X.K) := by
  intro pins s σ H x y v u Q I rx ry h
  obtain ⟨l, b, xs, zs, rfl, rfl, hl, hb, hz, q⟩ := h
  cases rx
  cases ry
  obtain ⟨its, r, ⟨⟨cls, dd, data, sl⟩, n, ho, hc, hd, hs⟩, _⟩ := I.list hl
  obtain ⟨its2, r2, ⟨⟨cls2, dd2, data2, sl2⟩, n2, ho2, hc2, hd2, hs2⟩, _⟩ := I.list hb
  simp only at hc hd hs hc2 hd2 hs2
  subst hc hd hs hc2 hd2 hs2
  have ea : its.toArray ++ its2.toArray = (its ++ its2).toArray := by simp
  have hz' : its.toArray.size + its2.toArray.size ≤ sizeLine := by rw [List.size_toArray, List.size_toArray, ← r.length, ← r2.length]; exact hz
  refine concat_meets ⟨_, ho, rfl⟩ ⟨_, ho2, rfl⟩ noFill_list_add seq_list_add PySem.F.slot_list_add PySem.F.entry_list_add (PySem.F.args_list_add_2 _ _) (list_addW l b its.toArray its2.toArray n n2 none none sl sl2 hz') ⟨ho, ho2, ?_⟩
  rw [ea]
  exact ⟨.ref _, _, I.lnew (t' := s.toks) (r.append r2) (by rw [List.length_append]; exact hz), rfl, q _ I.fresh⟩
def rAddI : R2 := rI0 fun i j => .int (i + j)
def rAddS : R2 := fun x y H Q => ∃ i j, x = .str i ∧ y = .str j ∧ i.length + j.length ≤ sizeLine ∧ Q (.str (i ++ j)) H
def rAddA (K : PySem.W.Frag) : R2 := fun x y H Q => rAddI x y H Q ∨ (rAddS x y H Q ∨ (rCatG K x y H Q ∨ rCatT K x y H Q))
theorem op_addA {X : Cx} : OpR X (binaryOp .Add) (rAddA X.K) := OpR.or op_add (OpR.or op_add_str (OpR.or op_catG op_catT))
def fAdd (a b : D) (k : Slot → Prop) : Prop := match a, b with
  | .int i, .int j => k (.fz (.int (i + j)))
  | .str s, .str t => s.length + t.length ≤ sizeLine ∧ k (.fz (.str (s ++ t)))
  | .lst l, .lst m => l.length + m.length ≤ sizeLine ∧ k (.ow (.lst (l ++ m)))
  | .tup l, .tup m => l ≠ [] ∧ m ≠ [] ∧ l.length + m.length ≤ sizeLine ∧ k (.fz (.tup (l ++ m)))
  | _, _ => False
theorem ov_add : OpV g (rAddA g.K) fAdd := fun F H x y dx dy post Q e rx ry h q => by
  unfold fAdd at h
  split at h
  · have ex : x = .int _ := rx
    have ey : y = .int _ := ry
    subst ex ey
    exact .inl ⟨_, _, rfl, rfl, q _ _ _ _ (.scal (d := .int _) e rfl) h⟩
  · have ex : x = .str (mkS _) := rx
    have ey : y = .str (mkS _) := ry
    subst ex ey
    refine .inr (.inl ⟨_, _, rfl, rfl, by rw [mkS_len, mkS_len]; exact h.1, ?_⟩)
    rw [mkS_app]
    exact q _ _ _ _ (.scal (d := .str _) e rfl) h.2
  · obtain ⟨a, vs, rfl, h1, h2⟩ := rx
    obtain ⟨b, ws, rfl, h3, h4⟩ := ry
    refine .inr (.inr (.inl ⟨a, b, vs, ws, rfl, rfl, h1, h3, by rw [h2.len, h4.len]; exact h.1, fun p hp => ?_⟩))
    exact q _ _ _ _ (.own (d := .lst _) e hp (h2.append h4)) h.2
  · obtain ⟨a, vs, rfl, h1, h2⟩ := rx
    obtain ⟨b, ws, rfl, h3, h4⟩ := ry
    obtain ⟨n1, n2, hz, hk⟩ := h
    have z1 : vs ≠ [] := fun z => n1 (List.eq_nil_of_length_eq_zero (by rw [← h2.len, z]; rfl))
    have z2 : ws ≠ [] := fun z => n2 (List.eq_nil_of_length_eq_zero (by rw [← h4.len, z]; rfl))
    refine .inr (.inr (.inr ⟨a, b, vs, ws, rfl, rfl, h1.sqT, h3.sqT, z1, by rw [h2.len, h4.len]; exact hz, fun z => absurd z z2, fun _ p hp => ?_⟩))
    exact q _ _ _ _ (.tup e hp (h2.append h4)) hk
  · exact h.elim

/-! ### ints -/
def fI (C : Int → Int → Prop) (f : Int → Int → D) (a b : D) (k : Slot → Prop) : Prop := match a, b with
  | .int i, .int j => C i j ∧ k (.fz (f i j))
  | _, _ => False
theorem ov_I {C : Int → Int → Prop} {f : Int → Int → D} {v : Int → Int → V} (hf : ∀ i j F, Rep g (f i j) (v i j) F) : OpV g (rI C v) (fI C f) := fun F H x y dx dy post Q e rx ry h q => by
  unfold fI at h
  split at h
  · have ex : x = .int _ := rx
    have ey : y = .int _ := ry
    subst ex ey
    exact ⟨_, _, rfl, rfl, h.1, q _ _ _ _ (.scal e (hf _ _ F)) h.2⟩
  · exact h.elim
def fI0 (f : Int → Int → D) (a b : D) (k : Slot → Prop) : Prop := match a, b with
  | .int i, .int j => k (.fz (f i j))
  | _, _ => False
theorem ov_I0 {f : Int → Int → D} {v : Int → Int → V} (hf : ∀ i j F, Rep g (f i j) (v i j) F) : OpV g (rI0 v) (fI0 f) := fun F H x y dx dy post Q e rx ry h q => by
  unfold fI0 at h
  split at h
  · have ex : x = .int _ := rx
    have ey : y = .int _ := ry
    subst ex ey
    exact ⟨_, _, rfl, rfl, q _ _ _ _ (.scal e (hf _ _ F)) h⟩
  · exact h.elim
abbrev fSub : D → D → (Slot → Prop) → Prop := fI0 fun i j => .int (i - j)
abbrev fMul : D → D → (Slot → Prop) → Prop := fI CMul fun i j => .int (i * j)
abbrev fDiv : D → D → (Slot → Prop) → Prop := fI CDiv fun i j => .int (i / j)
abbrev fMod : D → D → (Slot → Prop) → Prop := fI (fun _ j => 0 < j) fun i j => .int (i % j)
abbrev fPow : D → D → (Slot → Prop) → Prop := fI CPow fun i j => .int (i ^ j.toNat)
abbrev fShl : D → D → (Slot → Prop) → Prop := fI CPow fun i j => .int (i * 2 ^ j.toNat)
abbrev fShr : D → D → (Slot → Prop) → Prop := fI (fun _ j => 0 ≤ j) fun i j => .int (i / 2 ^ j.toNat)
abbrev fAndB : D → D → (Slot → Prop) → Prop := fI0 fun i j => .int (Builtin.bitAnd i j)
abbrev fXor : D → D → (Slot → Prop) → Prop := fI0 fun i j => .int (Builtin.bitXor i j)
abbrev fLe : D → D → (Slot → Prop) → Prop := fI0 fun i j => .bl (decide (i ≤ j))
abbrev fGe : D → D → (Slot → Prop) → Prop := fI0 fun i j => .bl (decide (j ≤ i))
abbrev fGt : D → D → (Slot → Prop) → Prop := fI0 fun i j => .bl (decide (j < i))
def fNeg (a : D) (k : Slot → Prop) : Prop := match a with
  | .int i => k (.fz (.int (-i)))
  | _ => False
theorem uv_neg : UnV g (rU fun i => .int (-i)) fNeg := fun F H x dx post Q e rx h q => by
  unfold fNeg at h
  split at h
  · have ex : x = .int _ := rx
    subst ex
    exact ⟨_, rfl, q _ _ _ _ (.scal (d := .int _) e rfl) h⟩
  · exact h.elim
/-- < of ints, of texts -/
def rLtA : R2 := fun x y H Q => rI0 (fun i j => .bl (decide (i < j))) x y H Q ∨ ∃ i j, x = .str i ∧ y = .str j ∧ Q (.bl (decide (i.cps.toList < j.cps.toList))) H
theorem op_ltA {X : Cx} : OpR X (compareOp .Lt) rLtA := OpR.or op_lt op_lt_str
def fLt (a b : D) (k : Slot → Prop) : Prop := match a, b with
  | .int i, .int j => k (.fz (.bl (decide (i < j))))
  | .str s, .str t => k (.fz (.bl (decide (s < t))))
  | _, _ => False
theorem ov_lt : OpV g rLtA fLt := fun F H x y dx dy post Q e rx ry h q => by
  unfold fLt at h
  split at h
  · have ex : x = .int _ := rx
    have ey : y = .int _ := ry
    subst ex ey
    exact .inl ⟨_, _, rfl, rfl, q _ _ _ _ (.scal (d := .bl _) e rfl) h⟩
  · have ex : x = .str (mkS _) := rx
    have ey : y = .str (mkS _) := ry
    subst ex ey
    refine .inr ⟨_, _, rfl, rfl, ?_⟩
    simp only [mkS]
    exact q _ _ _ _ (.scal (d := .bl _) e rfl) h
  · exact h.elim

/-! ### == -/
mutual
def toPy : D → PyData
  | .non => .none
  | .bl b => .bool b
  | .int i => .int i
  | .str s => .str (mkS s)
  | .lst l => .list (toPys l)
  | .tup l => .tuple (toPys l)
  | .dct _ => .none
  | .dcu _ => .none
  | .web _ _ => .none
def toPys : List D → List PyData
  | [] => []
  | d :: l => toPy d :: toPys l
end
mutual
/-- no truth values, no dicts within: == tells the data -/
def plain : D → Bool
  | .non => true
  | .bl _ => false
  | .int _ => true
  | .str s => s.all (· < 1114112)
  | .lst l => plains l
  | .tup l => plains l
  | .dct _ => false
  | .dcu _ => false
  | .web _ _ => false
def plains : List D → Bool
  | [] => true
  | d :: l => plain d && plains l
end
mutual
def dep : D → Nat
  | .lst l => deps l + 1
  | .tup l => deps l + 1
  | _ => 0
def deps : List D → Nat
  | [] => 0
  | d :: l => max (dep d) (deps l)
end
mutual
theorem plain_lay : ∀ {d : D}, plain d = true → (toPy d).canLay0 = true
  | .non, _ => rfl
  | .bl _, h => by simp [plain] at h
  | .int _, _ => rfl
  | .str s, h => by
    show PyData.strOk (mkS s) = true
    simpa [PyData.strOk, mkS, plain] using h
  | .lst l, h => plains_lay (l := l) h
  | .tup l, h => plains_lay (l := l) h
  | .dct _, h => by simp [plain] at h
  | .dcu _, h => by simp [plain] at h
  | .web _ _, h => by simp [plain] at h
theorem plains_lay : ∀ {l : List D}, plains l = true → PyData.canLayAll0 (toPys l) = true
  | [], _ => rfl
  | d :: l, h => by
    simp only [plains, Bool.and_eq_true] at h
    show (PyData.canLay0 (toPy d) && PyData.canLayAll0 (toPys l)) = true
    rw [plain_lay h.1, plains_lay h.2]; rfl
end
mutual
theorem toPy_dep : ∀ (d : D), (toPy d).depth = dep d
  | .non => rfl
  | .bl _ => rfl
  | .int _ => rfl
  | .str _ => rfl
  | .lst l => by show PyData.depthAll (toPys l) + 1 = deps l + 1; rw [toPys_dep l]
  | .tup l => by show PyData.depthAll (toPys l) + 1 = deps l + 1; rw [toPys_dep l]
  | .dct _ => rfl
  | .dcu _ => rfl
  | .web _ _ => rfl
theorem toPys_dep : ∀ (l : List D), PyData.depthAll (toPys l) = deps l
  | [] => rfl
  | d :: l => by show max (PyData.depth (toPy d)) (PyData.depthAll (toPys l)) = max (dep d) (deps l); rw [toPy_dep d, toPys_dep l]
end
theorem beq_mkS (a b : List Nat) : (mkS a == mkS b) = decide (a = b) := by
  rw [Bool.eq_iff_iff]
  simp [mkS_inj]
mutual
theorem eqv_plain : ∀ {a b : D}, plain a = true → plain b = true → PyData.eqv (toPy a) (toPy b) = decide (a = b)
  | .bl _, _, h, _ => by simp [plain] at h
  | .dct _, _, h, _ => by simp [plain] at h
  | .dcu _, _, h, _ => by simp [plain] at h
  | .web _ _, _, h, _ => by simp [plain] at h
  | .non, b, _, hb => by cases b <;> simp [plain] at hb <;> simp [toPy, PyData.eqv]
  | .int i, b, _, hb => by cases b <;> simp [plain] at hb <;> simp [toPy, PyData.eqv] <;> rfl
  | .str s, b, _, hb => by
    cases b with
    | str t => simp [toPy, PyData.eqv, beq_mkS]
    | _ => simp [plain] at hb <;> simp [toPy, PyData.eqv]
  | .lst l, b, ha, hb => by
    cases b with
    | lst m =>
      show PyData.eqvAll (toPys l) (toPys m) = _
      rw [eqvs_plain (l := l) (m := m) ha hb]; simp
    | _ => simp [plain] at hb <;> simp [toPy, PyData.eqv]
  | .tup l, b, ha, hb => by
    cases b with
    | tup m =>
      show PyData.eqvAll (toPys l) (toPys m) = _
      rw [eqvs_plain (l := l) (m := m) ha hb]; simp
    | _ => simp [plain] at hb <;> simp [toPy, PyData.eqv]
theorem eqvs_plain : ∀ {l m : List D}, plains l = true → plains m = true → PyData.eqvAll (toPys l) (toPys m) = decide (l = m)
  | [], [], _, _ => rfl
  | [], _ :: _, _, _ => by simp [toPys, PyData.eqvAll]
  | _ :: _, [], _, _ => by simp [toPys, PyData.eqvAll]
  | a :: l, b :: m, h, k => by
    simp only [plains, Bool.and_eq_true] at h k
    show (PyData.eqv (toPy a) (toPy b) && PyData.eqvAll (toPys l) (toPys m)) = _
    rw [eqv_plain h.1 k.1, eqvs_plain h.2 k.2]
    by_cases c : a = b <;> by_cases c' : l = m <;> simp [c, c']
end
mutual
theorem Rep.dp : ∀ {d : D} {v : V}, plain d = true → Rep g d v F → Dp g.K F v (toPy d)
  | .non, _, _, h => by cases h; exact .non
  | .bl _, _, p, _ => by simp [plain] at p
  | .int _, _, _, h => by cases h; exact .int _
  | .str _, _, _, h => by cases h; exact .str _
  | .lst l, _, p, ⟨a, vs, e, h1, h2⟩ => by subst e; exact .lst h1 (Reps.dp (l := l) p h2)
  | .tup l, _, p, ⟨a, vs, e, h1, h2⟩ => by subst e; exact .tup h1.sqT (Reps.dp (l := l) p h2)
  | .dct _, _, p, _ => by simp [plain] at p
  | .dcu _, _, p, _ => by simp [plain] at p
  | .web _ _, _, p, _ => by simp [plain] at p
theorem Reps.dp : ∀ {l : List D} {vs : List V}, plains l = true → Reps g l vs F → DpAll g.K F vs (toPys l)
  | [], _, _, h => by cases h; exact .nil
  | d :: l, _, p, ⟨v, r, e, h1, h2⟩ => by
    subst e
    simp only [plains, Bool.and_eq_true] at p
    exact .cons (Rep.dp p.1 h1) (Reps.dp p.2 h2)
end
theorem RepC.dp {d : D} {v : V} (e : Ext F H) (p : plain d = true) (h : RepC g F H d v) : Dp g.K H v (toPy d) := by
  cases d with
  | lst l => obtain ⟨a, vs, rfl, h1, h2⟩ := h; exact .lst h1 (Reps.dp p (h2.mono e))
  | tup l => obtain ⟨a, vs, rfl, h1, h2⟩ := h; exact .tup h1.sqT (Reps.dp p (h2.mono e))
  | dct _ => simp [plain] at p
  | dcu _ => simp [plain] at p
  | web _ _ => simp [plain] at p
  | non => exact Rep.dp p (Rep.mono e (show Rep g .non v F from h))
  | bl b => simp [plain] at p
  | int i => exact Rep.dp p (Rep.mono e (show Rep g (.int i) v F from h))
  | str s => exact Rep.dp p (Rep.mono e (show Rep g (.str s) v F from h))
theorem shaped_of {d : D} (p : plain d = true) (h : dep d ≤ 64) : SeqAt.shaped (toPy d) = true := by
  unfold SeqAt.shaped
  rw [plain_lay p, toPy_dep d, decide_eq_true h]; rfl
def rEqA (K : PySem.W.Frag) : R2 := fun x y H Q => rEq x y H Q ∨ rEqD K x y H Q
def rNeA (K : PySem.W.Frag) : R2 := fun x y H Q => rNe x y H Q ∨ rNeD K x y H Q
theorem op_eqA {X : Cx} (hu : X.A.units + 64 < cLine) : OpR X (compareOp .Eq) (rEqA X.K) := OpR.or op_eq (op_eqD hu)
theorem op_neA {X : Cx} (hu : X.A.units + 64 < cLine) : OpR X (compareOp .NotEq) (rNeA X.K) := OpR.or op_ne (op_neD hu)
/-- what == asks, what it answers -/
def eqOk (a b : D) : Prop := match a, b with
  | .int _, .int _ => True
  | .str _, .str _ => True
  | .bl _, .bl _ => True
  | .non, .str _ => True
  | .non, .int _ => True
  | .str _, .non => True
  | .int _, .non => True
  | a, b => plain a = true ∧ plain b = true ∧ dep a ≤ 64 ∧ dep b ≤ 64
def fEq (a b : D) (k : Slot → Prop) : Prop := eqOk a b ∧ k (.fz (.bl (decide (a = b))))
def fNe (a b : D) (k : Slot → Prop) : Prop := eqOk a b ∧ k (.fz (.bl (!decide (a = b))))
theorem eq_scal {a b : D} {x y : V} (h : eqOk a b) (rx : RepC g F H a x) (ry : RepC g F H b y) (e : Ext F H) : (L2.scal x y = true ∧ decide (x = y) = decide (a = b)) ∨ ∃ d e, Dp g.K H x d ∧ Dp g.K H y e ∧ SeqAt.shaped d = true ∧ SeqAt.shaped e = true ∧ PyData.eqv d e = decide (a = b) := by
  unfold eqOk at h
  split at h
  · have ex : x = .int _ := rx
    have ey : y = .int _ := ry
    subst ex ey
    exact .inl ⟨rfl, by simp⟩
  · have ex : x = .str (mkS _) := rx
    have ey : y = .str (mkS _) := ry
    subst ex ey
    exact .inl ⟨rfl, by simp [mkS_inj]⟩
  · have ex : x = .bl _ := rx
    have ey : y = .bl _ := ry
    subst ex ey
    exact .inl ⟨rfl, by simp⟩
  · have ex : x = .non := rx
    have ey : y = .str (mkS _) := ry
    subst ex ey
    exact .inl ⟨rfl, by simp⟩
  · have ex : x = .non := rx
    have ey : y = .int _ := ry
    subst ex ey
    exact .inl ⟨rfl, by simp⟩
  · have ex : x = .str (mkS _) := rx
    have ey : y = .non := ry
    subst ex ey
    exact .inl ⟨rfl, by simp⟩
  · have ex : x = .int _ := rx
    have ey : y = .non := ry
    subst ex ey
    exact .inl ⟨rfl, by simp⟩
  · obtain ⟨p1, p2, d1, d2⟩ := h
    exact .inr ⟨_, _, rx.dp e p1, ry.dp e p2, shaped_of p1 d1, shaped_of p2 d2, eqv_plain p1 p2⟩
theorem ov_eq : OpV g (rEqA g.K) fEq := fun F H x y dx dy post Q e rx ry h q => by
  have z := q _ _ _ _ (.scal (d := .bl (decide (dx = dy))) (v := .bl (decide (dx = dy))) e rfl) h.2
  rcases eq_scal h.1 rx ry e with ⟨h1, h2⟩ | ⟨d, d', h1, h2, h3, h4, h5⟩
  · exact .inl ⟨h1, by rw [h2]; exact z⟩
  · exact .inr ⟨d, d', h1, h2, h3, h4, by rw [h5]; exact z⟩
theorem ov_ne : OpV g (rNeA g.K) fNe := fun F H x y dx dy post Q e rx ry h q => by
  have z := q _ _ _ _ (.scal (d := .bl (!decide (dx = dy))) (v := .bl (!decide (dx = dy))) e rfl) h.2
  rcases eq_scal h.1 rx ry e with ⟨h1, h2⟩ | ⟨d, d', h1, h2, h3, h4, h5⟩
  · exact .inl ⟨h1, by rw [h2]; exact z⟩
  · exact .inr ⟨d, d', h1, h2, h3, h4, by rw [h5]; exact z⟩
end
end DL
set_option maxRecDepth 100000
set_option maxHeartbeats 2000000
namespace DL
open PySem PySem.Spec PyProof.Rows L2

structure DEnds where
  nx : En → Prop
  rt : Slot → Prop
  bk : En → Prop := fun _ => False
  ct : En → Prop := fun _ => False
abbrev DS := DEnds → En → Prop
abbrev DG := D → En → (En → Prop) → Prop
abbrev DI := En → (List D → En → Prop) → Prop

/-- what follows, on both sides -/
structure EndsOk (g : G) (B : Bs) (n : Nat) (E : DEnds) (D : Ends) : Prop where
  nx : ∀ σ H env, σ.length = env.length → env.length = n → St g B env [] σ [] H → E.nx env → D.nx σ H
  rt : ∀ t v F' H', Res g B.F0 B.H0 B.b t v F' H' → E.rt t → D.rt v H'
  bk : ∀ σ H env, σ.length = env.length → env.length = n → St g B env [] σ [] H → E.bk env → D.bk σ H
  ct : ∀ σ H env, σ.length = env.length → env.length = n → St g B env [] σ [] H → E.ct env → D.ct σ H
def SndS (g : G) (ts : TS) (ds : DS) : Prop := ∀ (B : Bs) (env : En) (σ : L2.St) (H : Hp) (E : DEnds) (D : Ends), σ.length = env.length → St g B env [] σ [] H → ds E env → EndsOk g B env.length E D → ts D σ H
/-- a store of a kept datum -/
def SndG (g : G) (tg : TG) (dg : DG) : Prop := ∀ (B : Bs) (F : Hp) (own : Addr → Nat) (env ts : En) (σ vs : L2.St) (H : Hp) (d : D) (v : V) (k : En → Prop) (Q : L2.St → Hp → Prop), σ.length = env.length → vs.length = ts.length → NB env → StF g B F own (env ++ ts) (σ ++ vs) H → (∀ t ∈ ts, ∀ j, t ≠ .br j) → Rep g d v F → dg d env k →
  (∀ σ' env', σ'.length = env'.length → env'.length = env.length → NB env' → StF g B F own (env' ++ ts) (σ' ++ vs) H → k env' → Q σ' H) → tg v σ H Q

section
variable {g : G} {B : Bs} {F F' H H' : Hp} {own : Addr → Nat} {env ts : En} {σ vs : L2.St}
theorem NB.set {i : Nat} {s : Slot} (nb : NB env) (hs : ∀ j, s ≠ .br j) : NB (env.set i s) := fun t ht j => by
  rcases List.mem_or_eq_of_mem_set ht with h | h
  · exact nb t h j
  · rw [h]; exact hs j
/-- a slot gets a new value -/
theorem StF.setv {i : Nat} {s : Slot} {v : V} {own' : Addr → Nat} (S : StF g B F own env σ H) (hi : i < env.length) (hb : ∀ (m j : Nat), env[m]? = some (.br j) → j ≠ i) (hs : ∀ j, s ≠ .br j)
    (ho : ∀ m d p, m ≠ i → env[m]? = some (.ow d) → σ[m]? = some (some (.ref p)) → own p = m → own' p = m) (h : SlotOk g B F H own' env σ i s (some v)) : StF g B F own' (env.set i s) (σ.set i (some v)) H := by
  have hl := S.len
  refine ⟨S.f0, S.fh, S.h0, S.nw, S.bag, by simp [hl], fun m t e => ?_⟩
  by_cases hm : m = i
  · subst hm
    rw [List.getElem?_set_self hi] at e
    cases e
    refine ⟨some v, List.getElem?_set_self (by omega), ?_⟩
    cases s with
    | br j => exact absurd rfl (hs j)
    | _ => exact h
  · rw [List.getElem?_set_ne (Ne.symm hm)] at e
    obtain ⟨ov, h1, h2⟩ := S.sl m t e
    refine ⟨ov, by rw [List.getElem?_set_ne (Ne.symm hm)]; exact h1, ?_⟩
    cases t with
    | br j =>
      obtain ⟨v', s', z1, z2, z3, z4, z5⟩ := h2
      have hj := hb m j e
      exact ⟨v', s', z1, by rw [List.getElem?_set_ne (Ne.symm hj)]; exact z2, by rw [List.getElem?_set_ne (Ne.symm hj)]; exact z3, z4, z5⟩
    | ow d =>
      obtain ⟨p, o, e1, e2, c, e3, e4, e5⟩ := h2
      subst e1
      exact ⟨p, o, rfl, e2, c, e3, e4, ho m d p hm e h1 e5⟩
    | _ => exact h2
theorem NB.br (nb : NB env) (nt : ∀ t ∈ ts, ∀ j, t ≠ .br j) {m j i : Nat} (e : (env ++ ts)[m]? = some (.br j)) : j ≠ i := by
  have := List.mem_of_getElem? e
  rcases List.mem_append.mp this with h | h
  · exact absurd rfl (nb _ h j)
  · exact absurd rfl (nt _ h j)
def gN (i : Nat) : DG := fun d env k => i < env.length ∧ k (env.set i (.fz d))
theorem snd_gN {i : Nat} : SndG g (gName i) (gN i) := fun B F own env ts σ vs H d v k Q hl hv nb S nt r h q => by
  obtain ⟨hi, h⟩ := h
  have S' := S.setv (i := i) (s := .fz d) (v := v) (own' := own) (by simp; omega) (fun m j e => nb.br nt e) (fun _ z => nomatch z) (fun _ _ _ _ _ _ z => z) ⟨v, rfl, r⟩
  rw [List.set_append_left _ _ hi, List.set_append_left _ _ (by omega)] at S'
  exact q (σ.set i (some v)) (env.set i (.fz d)) (by simp [hl]) (by simp) (nb.set fun _ z => nomatch z) S' h
abbrev DGs := List D → En → (En → Prop) → Prop
def SndGs (g : G) (tg : TGs) (dg : DGs) : Prop := ∀ (B : Bs) (F : Hp) (own : Addr → Nat) (env ts : En) (σ vs : L2.St) (H : Hp) (ds : List D) (xs : List V) (k : En → Prop) (Q : L2.St → Hp → Prop), σ.length = env.length → vs.length = ts.length → NB env → StF g B F own (env ++ ts) (σ ++ vs) H → (∀ t ∈ ts, ∀ j, t ≠ .br j) → Reps g ds xs F → dg ds env k →
  (∀ σ' env', σ'.length = env'.length → env'.length = env.length → NB env' → StF g B F own (env' ++ ts) (σ' ++ vs) H → k env' → Q σ' H) → tg xs σ H Q
def gsN : DGs := fun ds env k => match ds with
  | [] => k env
  | _ => False
def gsC (a : DG) (r : DGs) : DGs := fun ds env k => match ds with
  | d :: ds => a d env fun e1 => r ds e1 k
  | _ => False
def gT (n : Nat) (r : DGs) : DG := fun d env k => match d with
  | .tup l => l.length = n ∧ r l env k
  | _ => False
theorem snd_gsN : SndGs g gNil gsN := fun B F own env ts σ vs H ds xs k Q hl hv nb S nt r h q => by
  cases ds with
  | nil => cases r; exact ⟨rfl, q σ env hl rfl nb S h⟩
  | cons => exact h.elim
theorem snd_gsC {t : TG} {u : TGs} {a : DG} {b : DGs} (h1 : SndG g t a) (h2 : SndGs g u b) : SndGs g (gCons t u) (gsC a b) := fun B F own env ts σ vs H ds xs k Q hl hv nb S nt r h q => by
  cases ds with
  | nil => exact h.elim
  | cons d ds =>
    obtain ⟨x, xs, rfl, r1, r⟩ := r
    refine ⟨x, xs, rfl, ?_⟩
    refine h1 B F own env ts σ vs H d x _ _ hl hv nb S nt r1 h fun σ1 e1 l1 l2 nb1 S1 h => ?_
    exact h2 B F own e1 ts σ1 vs H ds xs k Q l1 hv nb1 S1 nt r h fun σ2 e2 l3 l4 nb2 S2 h => q σ2 e2 l3 (by omega) nb2 S2 h
theorem snd_gT {n : Nat} {u : TGs} {b : DGs} (h2 : SndGs g u b) : SndG g (gTup g.K n u) (gT n b) := fun B F own env ts σ vs H d v k Q hl hv nb S nt r h q => by
  cases d with
  | tup l =>
    obtain ⟨a, xs, rfl, h1, h3⟩ := r
    exact ⟨a, xs, rfl, (S.fh.t h1).sqT, by rw [h3.len]; exact h.1, h2 B F own env ts σ vs H l xs k Q hl hv nb S nt h3 h.2 q⟩
  | _ => exact h.elim

/-! ### statements -/
def sSeq (a b : DS) : DS := fun E env => a { E with nx := b E } env
theorem snd_seq {t u : TS} {a b : DS} (h1 : SndS g t a) (h2 : SndS g u b) : SndS g (tSeq t u) (sSeq a b) := fun B env σ H E D hl S h k => by
  refine h1 B env σ H _ { D with nx := u D } hl S h ⟨fun σ' H' e' l1 l2 S' h' => ?_, k.rt, k.bk, k.ct⟩
  refine h2 B e' σ' H' E D l1 S' h' ?_
  rw [l2]
  exact k
def sNext : DS := fun E env => E.nx env
theorem snd_next : SndS g tNext sNext := fun B env σ H E D hl S h k => k.nx σ H env hl rfl S h
def sBreak : DS := fun E env => E.bk env
theorem snd_break : SndS g tBreak sBreak := fun B env σ H E D hl S h k => k.bk σ H env hl rfl S h
def sCont : DS := fun E env => E.ct env
theorem snd_cont : SndS g tCont sCont := fun B env σ H E D hl S h k => k.ct σ H env hl rfl S h
def sNever : DS := fun _ _ => False
theorem snd_never {t : TS} : SndS g t sNever := fun _ _ _ _ _ _ _ _ h _ => h.elim
theorem snd_neverT : SndS g tNever sNever := fun _ _ _ _ _ _ _ _ h _ => h.elim
def sDrop (a : DX) : DS := fun E env => a env fun _ e1 => E.nx e1
theorem St.nil {t : Slot} {v : V} (S : St g B env ([] ++ [t]) σ ([] ++ [some v]) H) (hl : σ.length = env.length) : St g B env [] σ [] H := S.drop hl rfl
theorem snd_drop {te : TE} {a : DX} (h1 : SndX g te a) : SndS g (tDrop te) (sDrop a) := fun B env σ H E D hl S h k => by
  refine h1 B env [] σ [] H _ _ hl rfl S h fun v H1 t e1 l1 b1 S1 p => ?_
  exact k.nx σ H1 e1 (by omega) l1 (S1.nil (by omega)) p
def retT (env : En) : Slot → Option Slot
  | .fz d => some (.fz d)
  | .ow d => some (.ow d)
  | .bo d => if scal d = true then some (.fz d) else none
  | .br j => match env[j]? with
    | some (.fz d) => some (.fz d)
    | some (.ow d) => some (.ow d)
    | some (.bo d) => if scal d = true then some (.fz d) else none
    | _ => none
  | _ => none
def sRet (a : DX) : DS := fun E env => a env fun t e1 => ob (retT e1 t) E.rt
theorem StF.ret {i : Nat} {s t : Slot} {v : V} (S : StF g B F own env σ H) (e : env[i]? = some s) (ev : σ[i]? = some (some v)) (ht : retT env s = some t) : Res g B.F0 B.H0 B.b t v F H := by
  have mk : RV g t v B.H0 F H → Res g B.F0 B.H0 B.b t v F H :=
    fun z => ⟨S.f0, S.fh, fun a o hb h => S.h0 a o hb h, S.nw, fun a hb => (S.bag a hb).1, z⟩
  have cell : ∀ {i : Nat} {s : Slot}, env[i]? = some s → σ[i]? = some (some v) → ∀ t, (s = .fz t ∨ (s = .bo t ∧ scal t = true)) → Rep g t v F := fun {i s} e ev t hs => by
    obtain ⟨ov, h1, h2⟩ := S.sl i s e
    rw [ev] at h1
    cases h1
    rcases hs with rfl | ⟨rfl, hs⟩
    · obtain ⟨v', e1, r⟩ := h2; cases e1; exact r
    · obtain ⟨v', e1, r⟩ := h2; cases e1; exact r.rep hs
  have cellO : ∀ {i : Nat} {d : D}, env[i]? = some (.ow d) → σ[i]? = some (some v) → ∃ p o, v = .ref p ∧ H p = some o ∧ CellOk g d o F ∧ F p = none ∧ B.H0 p = none := fun {i d} e ev => by
    obtain ⟨ov, h1, h2⟩ := S.sl i _ e
    rw [ev] at h1
    cases h1
    obtain ⟨p, o, e1, e2, c, e3, e4, e5⟩ := h2
    cases e1
    exact ⟨p, o, rfl, e2, c, e3, e4⟩
  refine mk ?_
  cases s with
  | fz d => cases ht; exact cell e ev d (.inl rfl)
  | ow d => cases ht; exact cellO e ev
  | bo d =>
    have ht' : (if scal d = true then some (Slot.fz d) else none) = some t := ht
    by_cases hs : scal d = true
    · rw [if_pos hs] at ht'; cases ht'; exact cell e ev d (.inr ⟨rfl, hs⟩)
    · rw [if_neg hs] at ht'; cases ht'
  | br j =>
    obtain ⟨ov, h1, h2⟩ := S.sl i _ e
    rw [ev] at h1
    cases h1
    obtain ⟨v', s', z1, z2, z3, z4, z5⟩ := h2
    cases z1
    have ht' : (match env[j]? with | some (.fz d) => some (Slot.fz d) | some (.ow d) => some (.ow d) | some (.bo d) => if scal d = true then some (.fz d) else none | _ => none) = some t := ht
    rw [z3] at ht'
    cases s' with
    | fz d => cases ht'; exact cell z3 z2 d (.inl rfl)
    | ow d => cases ht'; exact cellO z3 z2
    | bo d =>
      have ht2 : (if scal d = true then some (Slot.fz d) else none) = some t := ht'
      by_cases hs : scal d = true
      · rw [if_pos hs] at ht2; cases ht2; exact cell z3 z2 d (.inr ⟨rfl, hs⟩)
      · rw [if_neg hs] at ht2; cases ht2
    | _ => cases z4
  | _ => cases ht
theorem retT_app {t : Slot} (hb : BrOk env.length t) : retT (env ++ ts) t = retT env t := by
  cases t with
  | br j => show (match (env ++ ts)[j]? with | some (.fz d) => some (Slot.fz d) | some (.ow d) => some (.ow d) | some (.bo d) => if scal d = true then some (.fz d) else none | _ => none) = _; rw [List.getElem?_append_left (hb j rfl)]; rfl
  | _ => rfl
theorem snd_ret {te : TE} {a : DX} (h1 : SndX g te a) : SndS g (tRet te) (sRet a) := fun B env σ H E D hl S h k => by
  refine h1 B env [] σ [] H _ _ hl rfl S h fun v H1 t e1 l1 b1 S1 p => ?_
  obtain ⟨t', et, p⟩ := ob_el p
  obtain ⟨nb, F, own, S1⟩ := S1
  exact k.rt t' v F H1 (S1.ret (i := e1.length) (s := t) (by simp) (by rw [show e1.length = σ.length by omega]; simp) (by rw [retT_app (by rw [l1]; exact b1)]; exact et)) p
def sRetN : DS := fun E _ => E.rt (.fz .non)
theorem snd_retN : SndS g tRetN sRetN := fun B env σ H E D hl S h k => by
  obtain ⟨nb, F, own, S⟩ := S
  exact k.rt (.fz .non) .non F H ⟨S.f0, S.fh, fun a o hb h => S.h0 a o hb h, S.nw, fun a hb => (S.bag a hb).1, rfl⟩ h
def sIf (c : DT) (a b : DS) : DS := fun E env => c env fun z e1 => match z with
  | true => a E e1
  | false => b E e1
theorem snd_ifS {t : TT} {u w : TS} {c : DT} {a b : DS} (h0 : SndT g t c) (h1 : SndS g u a) (h2 : SndS g w b) : SndS g (tIfS t u w) (sIf c a b) := fun B env σ H E D hl S h k => by
  refine h0 B env [] σ [] H _ _ hl rfl S h fun z H1 e1 l1 S1 p => ?_
  cases z with
  | true =>
    show (if true = true then u D σ H1 else w D σ H1)
    rw [if_pos rfl]
    exact h1 B e1 σ H1 E D (by omega) S1 p (by rw [l1]; exact k)
  | false =>
    show (if false = true then u D σ H1 else w D σ H1)
    rw [if_neg Bool.false_ne_true]
    exact h2 B e1 σ H1 E D (by omega) S1 p (by rw [l1]; exact k)

/-! ### stores -/
/-- the value to be stored, and what becomes of the names -/
def keep (env : En) : Slot → Option (Slot × En)
  | .ow d => some (.ow d, env)
  | .bg => some (.bg, env)
  | t => match frz env t with
    | some (d, e) => some (.fz d, e)
    | none => none
/-- the temporary at k made storable -/
theorem StF.keepT {k : Nat} {t t' : Slot} {v : V} {env' : En} (S : StF g B F own (env ++ ts) (σ ++ vs) H) (hl : σ.length = env.length) (nb : NB env) (e : ts[k]? = some t) (ev : vs[k]? = some (some v)) (hb : BrOk env.length t) (hf : keep env t = some (t', env')) :
    ∃ F', StF g B F' own (env' ++ ts.set k t') (σ ++ vs) H ∧ Ext F F' ∧ env'.length = env.length ∧ NB env' ∧ (∀ j, t' ≠ .br j) ∧ ∀ d, t' = .fz d → Rep g d v F' := by
  have nbf : ∀ {d : D} {e1 : En}, DL.frz env t = some (d, e1) → NB e1 := fun h => NB_frz nb h
  have viaF : (match DL.frz env t with | some (d, e) => some (Slot.fz d, e) | none => none) = some (t', env') → ∃ F', StF g B F' own (env' ++ ts.set k t') (σ ++ vs) H ∧ Ext F F' ∧ env'.length = env.length ∧ NB env' ∧ (∀ j, t' ≠ .br j) ∧ ∀ d, t' = .fz d → Rep g d v F' := fun h => by
    cases q : DL.frz env t with
    | none => rw [q] at h; cases h
    | some p =>
      obtain ⟨d, e1⟩ := p
      rw [q] at h
      cases h
      obtain ⟨F', S', x, l, r⟩ := S.frz hl e ev hb q
      exact ⟨F', S', x, l, nbf q, (fun _ z => nomatch z), fun d' z => by cases z; exact r⟩
  have same : ts.set k t = ts := by
    obtain ⟨hk, he⟩ := List.getElem?_eq_some_iff.mp e
    rw [← he]; exact List.set_getElem_self hk
  cases t with
  | ow d => cases hf; exact ⟨F, by rw [same]; exact S, .refl F, rfl, nb, (fun _ z => nomatch z), fun _ z => nomatch z⟩
  | bg => cases hf; exact ⟨F, by rw [same]; exact S, .refl F, rfl, nb, (fun _ z => nomatch z), fun _ z => nomatch z⟩
  | fz d => exact viaF hf
  | bo d => exact viaF hf
  | br j => exact viaF hf
  | un => exact viaF hf
/-- the last temporary moves into a slot -/
theorem StF.move {i : Nat} {t : Slot} {v : V} (S : StF g B F own (env ++ (ts ++ [t])) (σ ++ (vs ++ [some v])) H) (hl : σ.length = env.length) (hv : vs.length = ts.length) (nb : NB env) (nt : ∀ s ∈ ts, ∀ j, s ≠ .br j) (ht : ∀ j, t ≠ .br j) (hi : i < env.length) :
    ∃ own', StF g B F own' (env.set i t ++ ts) (σ.set i (some v) ++ vs) H := by
  have hlen : (env ++ ts).length = (σ ++ vs).length := by simp [hl, hv]
  obtain ⟨ov, h1, h2⟩ := S.sl (env ++ ts).length t (by simp)
  have : ov = some v := by
    rw [hlen] at h1
    simpa using h1.symm
  subst this
  have nbA : ∀ (m j : Nat), (env ++ ts)[m]? = some (.br j) → j ≠ i := fun m j e => nb.br nt e
  have S0 : StF g B F own (env ++ ts) (σ ++ vs) H := by
    rw [← List.append_assoc, ← List.append_assoc] at S
    exact S.take hlen.symm
  have fin : ∀ own', (∀ m d p, m ≠ i → (env ++ ts)[m]? = some (.ow d) → (σ ++ vs)[m]? = some (some (.ref p)) → own p = m → own' p = m) → SlotOk g B F H own' (env ++ ts) (σ ++ vs) i t (some v) → ∃ own', StF g B F own' (env.set i t ++ ts) (σ.set i (some v) ++ vs) H := fun own' ho h => by
    have S' := S0.setv (i := i) (s := t) (v := v) (own' := own') (by simp; omega) nbA ht ho h
    rw [List.set_append_left _ _ hi, List.set_append_left _ _ (by omega)] at S'
    exact ⟨own', S'⟩
  cases t with
  | un => exact fin own (fun _ _ _ _ _ _ z => z) trivial
  | fz d => exact fin own (fun _ _ _ _ _ _ z => z) h2
  | bo d => exact fin own (fun _ _ _ _ _ _ z => z) h2
  | bg => exact fin own (fun _ _ _ _ _ _ z => z) h2
  | br j => exact absurd rfl (ht j)
  | ow d =>
    obtain ⟨p, o, e1, e2, c, e3, e4, e5⟩ := h2
    cases e1
    refine fin (fun a => if a = p then i else own a) (fun m d' q hm q1 q2 q3 => ?_) ⟨p, o, rfl, e2, c, e3, e4, if_pos rfl⟩
    show (if q = p then i else own q) = m
    have hne : q ≠ p := fun z => by
      rw [z, e5] at q3
      have := (List.getElem?_eq_some_iff.mp q1).1
      omega
    rw [if_neg hne]
    exact q3
/-- name = value -/
def sSet (i : Nat) (a : DX) : DS := fun E env => a env fun t e1 => ob (keep e1 t) fun p => i < p.2.length ∧ E.nx (p.2.set i p.1)
theorem snd_set {i : Nat} {te : TE} {a : DX} (h1 : SndX g te a) : SndS g (tAsg te (gName i)) (sSet i a) := fun B env σ H E D hl S h k => by
  refine h1 B env [] σ [] H _ _ hl rfl S h fun v H1 t e1 l1 b1 S1 p => ?_
  obtain ⟨⟨t', e2⟩, et, hi, p⟩ := ob_el p
  obtain ⟨nb, F, own, S1⟩ := S1
  obtain ⟨F', S2, x, l2, nb2, nt, r⟩ := S1.keepT (k := 0) (t := t) (v := v) (by omega) nb rfl rfl (by rw [l1]; exact b1) et
  obtain ⟨own', S3⟩ := StF.move (ts := []) (vs := []) (i := i) (t := t') (v := v) S2 (by omega) rfl nb2 (fun _ z => nomatch z) nt hi
  exact k.nx (σ.set i (some v)) H1 (e2.set i t') (by simp; omega) (by simp; omega) ⟨nb2.set nt, F', own', S3⟩ p
/-- (a, b, ..) = value -/
def sUnp (a : DX) (r : DG) : DS := fun E env => a env fun t e1 => ob (frz e1 t) fun p => r p.1 p.2 E.nx
theorem snd_unp {te : TE} {tg : TG} {a : DX} {r : DG} (h1 : SndX g te a) (h2 : SndG g tg r) : SndS g (tAsg te tg) (sUnp a r) := fun B env σ H E D hl S h k => by
  refine h1 B env [] σ [] H _ _ hl rfl S h fun v H1 t e1 l1 b1 S1 p => ?_
  obtain ⟨⟨d, e2⟩, et, p⟩ := ob_el p
  obtain ⟨nb, F, own, S1⟩ := S1
  have hk : keep e1 (.fz d) = some (.fz d, e1) := rfl
  obtain ⟨F', S2, x, l2, r2⟩ := S1.frz (k := 0) (by omega) rfl rfl (by rw [l1]; exact b1) et
  have nb2 : NB e2 := NB_frz nb et
  have S3 : StF g B F' own (e2 ++ []) (σ ++ []) H1 := StF.drop (ts := []) (vs := []) S2 (by omega) rfl
  exact h2 B F' own e2 [] σ [] H1 d v _ _ (by omega) rfl nb2 S3 (fun _ z => nomatch z) r2 p fun σ' e' l3 l4 nb3 S4 p => k.nx σ' H1 e' l3 (by omega) ⟨nb3, F', own, S4⟩ p
/-- x, y = a, b -/
def sPar (i j : Nat) (a : DA) : DS := fun E env => a env fun ts e1 => match ts with
  | [t, u] => ob (keep e1 t) fun p => ob (keep p.2 u) fun q => i < q.2.length ∧ j < q.2.length ∧ E.nx ((q.2.set i p.1).set j q.1)
  | _ => False
theorem snd_par {i j : Nat} {ta : TA} {a : DA} (hij : i ≠ j) (h1 : SndA g ta a) : SndS g (tPar i j ta) (sPar i j a) := fun B env σ H E D hl S h k => by
  refine h1 B env [] σ [] H _ _ hl rfl S h fun xs H1 as e1 l1 la b1 S1 p => ?_
  match as, xs, la with
  | [t, u], [v, w], _ =>
    obtain ⟨⟨t', e2⟩, et, p⟩ := ob_el p
    obtain ⟨⟨u', e3⟩, eu, hi, hj, p⟩ := ob_el p
    obtain ⟨nb, F, own, S1⟩ := S1
    obtain ⟨F2, S2, x2, l2, nb2, nt, r2⟩ := S1.keepT (k := 0) (t := t) (v := v) (by omega) nb rfl rfl (by rw [l1]; exact b1 t (by simp)) et
    obtain ⟨F3, S3, x3, l3, nb3, nu, r3⟩ := S2.keepT (k := 1) (t := u) (v := w) (by omega) nb2 rfl rfl (by rw [l2, l1]; exact b1 u (by simp)) eu
    obtain ⟨own4, S4⟩ := StF.move (ts := [t']) (vs := [some v]) (i := j) (t := u') (v := w) S3 (by omega) rfl nb3 (fun s hs => (List.mem_singleton.mp hs) ▸ nt) nu hj
    obtain ⟨own5, S5⟩ := StF.move (ts := []) (vs := []) (i := i) (t := t') (v := v) S4 (by simp; omega) rfl (nb3.set nu) (fun _ z => nomatch z) nt (by simpa using hi)
    have c1 : (e3.set j u').set i t' = (e3.set i t').set j u' := (List.set_comm _ _ hij).symm
    have c2 : (σ.set j (some w)).set i (some v) = (σ.set i (some v)).set j (some w) := (List.set_comm _ _ hij).symm
    rw [c1, c2] at S5
    exact ⟨v, w, rfl, k.nx _ H1 _ (by simp; omega) (by simp; omega) ⟨(nb3.set nt).set nu, F3, own5, S5⟩ p⟩
/-- i += e, ints -/
def sAug (i : Nat) (a : DX) (f : Int → Int → Int) : DS := fun E env => match env[i]? with
  | some (.fz (.int x)) => a env fun t e1 => match rdS e1 t with
    | some (.int y) => i < e1.length ∧ E.nx (e1.set i (.fz (.int (f x y))))
    | _ => False
  | some (.bo (.int x)) => a env fun t e1 => match rdS e1 t with
    | some (.int y) => i < e1.length ∧ E.nx (e1.set i (.fz (.int (f x y))))
    | _ => False
  | _ => False
theorem snd_aug {i : Nat} {te : TE} {a : DX} {f : Int → Int → Int} (h1 : SndX g te a) : SndS g (tAug i te (ipI f)) (sAug i a f) := fun B env σ H E D hl S h k => by
  unfold sAug at h
  have main : ∀ x, σ[i]? = some (some (.int x)) → (a env fun t e1 => match rdS e1 t with
    | some (.int y) => i < e1.length ∧ E.nx (e1.set i (.fz (.int (f x y))))
    | _ => False) → tAug i te (ipI f) D σ H := fun x ex h => by
    refine ⟨.int x, ex, ?_⟩
    refine h1 B env [] σ [] H _ _ hl rfl S h fun v H1 t e1 l1 b1 S1 p => ?_
    cases q : rdS e1 t with
    | none => rw [q] at p; exact p.elim
    | some d =>
      rw [q] at p
      obtain ⟨nb, F, own, S1'⟩ := id S1
      have rr := S1'.rdT (k := 0) (t := t) (v := v) (by omega) (by simp) (by simp) (by rw [l1]; exact b1) q
      cases d with
      | int y =>
        have ev : v = .int y := rr
        refine ⟨x, y, rfl, ev, ?_⟩
        obtain ⟨hi, p⟩ := p
        have S2 : StF g B F own (e1 ++ []) (σ ++ []) H1 := StF.drop (ts := []) (vs := []) S1' (by omega) rfl
        have S3 := S2.setv (i := i) (s := .fz (.int (f x y))) (v := .int (f x y)) (own' := own) (by simpa using hi) (fun m j e => nb.br (by intro _ z; cases z) e) (by intro _ z; cases z) (fun _ _ _ _ _ _ z => z) ⟨_, rfl, rfl⟩
        rw [List.set_append_left _ _ hi, List.set_append_left _ _ (by omega)] at S3
        exact k.nx _ H1 _ (by simp; omega) (by simp; omega) ⟨nb.set (by intro _ z; cases z), F, own, S3⟩ p
      | _ => exact p.elim
  obtain ⟨nb, F, own, S'⟩ := id S
  cases e : env[i]? with
  | none => rw [e] at h; exact h.elim
  | some s =>
    rw [e] at h
    obtain ⟨ov, z1, z2⟩ := S'.sl i s (by simpa using e)
    rw [List.append_nil] at z1
    cases s with
    | fz d =>
      obtain ⟨v', e1, r⟩ := z2
      cases d with
      | int x =>
        have ev : v' = .int x := r
        rw [e1, ev] at z1
        exact main x z1 h
      | _ => exact h.elim
    | bo d =>
      obtain ⟨v', e1, r⟩ := z2
      cases d with
      | int x =>
        have ev : v' = .int x := r
        rw [e1, ev] at z1
        exact main x z1 h
      | _ => exact h.elim
    | _ => exact h.elim

/-! ### loops -/
/-- what is walked: the items, kept -/
def Walk (g : G) (F Hb : Hp) (J : It) (items : List D) : Prop := ∀ F' H', Ext F F' → Ext F' H' → Ext Hb H' → ∀ i, (items.length ≤ i → J.stop i H') ∧ (i < items.length → J.go i H' ∧ ∀ x H'', J.yld i H' x H'' → ∃ d F'', items[i]? = some d ∧ Res g F' H' none (.fz d) x F'' H'')
def SndI (g : G) (wi : TI) (di : DI) : Prop := ∀ (B : Bs) (env ts : En) (σ vs : L2.St) (H : Hp) (k : List D → En → Prop) (R : It → Hp → Prop), σ.length = env.length → vs.length = ts.length → St g B env ts σ vs H → di env k →
  (∀ J H' items env' F' own', env'.length = env.length → NB env' → StF g B F' own' (env' ++ ts) (σ ++ vs) H' → Walk g F' (nob B.b B.H0) J items → k items env' → R J H') → wi σ H R
def sFor (di : DI) (r : DG) (b : DS) : DS := fun E env => di env fun items e1 => ∃ Iv : Nat → En → Prop, Iv 0 e1 ∧
  (∀ i d e, items[i]? = some d → e.length = e1.length → Iv i e → r d e fun e2 => b { E with nx := Iv (i + 1), ct := Iv (i + 1), bk := E.nx } e2) ∧ ∀ e, e.length = e1.length → Iv items.length e → E.nx e
theorem StF.hb (S : StF g B F own env σ H) : Ext (nob B.b B.H0) H := fun a o h => by
  unfold nob at h
  split at h
  · cases h
  · rename_i q
    exact S.h0 a o q h
/-- the loop itself -/
theorem for_core {tg : TG} {tb : TS} {r : DG} {b : DS} {J : It} {H1 : Hp} {items : List D} {e1 : En} {F1 : Hp} {own1 : Addr → Nat} {Iv : Nat → En → Prop} {E : DEnds} {D : Ends} (h2 : SndG g tg r) (h3 : SndS g tb b) (hl : σ.length = e1.length) (nb1 : NB e1) (S1 : StF g B F1 own1 (e1 ++ []) (σ ++ []) H1)
    (W : Walk g F1 (nob B.b B.H0) J items) (i0 : Iv 0 e1) (step : ∀ i d e, items[i]? = some d → e.length = e1.length → Iv i e → r d e fun e2 => b { E with nx := Iv (i + 1), ct := Iv (i + 1), bk := E.nx } e2) (fin : ∀ e, e.length = e1.length → Iv items.length e → E.nx e) (k : EndsOk g B e1.length E D) :
    ∃ W : Nat → Nat → L2.St → Hp → Prop, (∃ m, W 0 m σ H1) ∧ ∀ i m σ H, W i m σ H → (J.stop i H ∧ D.nx σ H) ∨ (J.go i H ∧ ∃ N : L2.St → Hp → Prop, (∀ σ' H', N σ' H' → ∃ m', m' < m ∧ W (i + 1) m' σ' H') ∧ ∀ x H', J.yld i H x H' → tg x σ H' fun σ2 H2 => tb { D with nx := N, ct := N, bk := D.nx } σ2 H2) := by
  refine ⟨fun i m σ' H' => m = items.length - i ∧ i ≤ items.length ∧ ∃ e F' own', Iv i e ∧ σ'.length = e.length ∧ e.length = e1.length ∧ NB e ∧ Ext F1 F' ∧ StF g B F' own' (e ++ []) (σ' ++ []) H', ⟨items.length, by simp, Nat.zero_le _, e1, F1, own1, i0, by omega, rfl, nb1, .refl _, S1⟩, ?_⟩
  rintro i m σ' H' ⟨rfl, hi, e, F', own', iv, le, le1, nb, x, S'⟩
  obtain ⟨hstop, hgo⟩ := W F' H' x S'.fh S'.hb i
  by_cases hlt : i < items.length
  · refine .inr ⟨(hgo hlt).1, fun σ2 H2 => ∃ e F' own', Iv (i + 1) e ∧ σ2.length = e.length ∧ e.length = e1.length ∧ NB e ∧ Ext F1 F' ∧ StF g B F' own' (e ++ []) (σ2 ++ []) H2, fun σ2 H2 q => ⟨items.length - (i + 1), by omega, rfl, by omega, q⟩, fun v H2 hy => ?_⟩
    obtain ⟨d, F2, ed, res⟩ := (hgo hlt).2 v H2 hy
    have nbag : ∀ a, B.b = some a → BagOk g.K a F2 H2 := fun a q => by
      obtain ⟨⟨l, ns, x1, x2, x3, q1, q2, q3⟩, _⟩ := S'.bag a q
      exact ⟨l, ns, x1, x2, x3, res.hh a _ (fun z => nomatch z) q1, res.ff.l q2, q3⟩
    have S2 := S'.grow res.ff res.fh (fun a o _ q => res.hh a o (fun z => nomatch z) q) res.nw nbag
    refine h2 B F2 own' e [] σ' [] H2 d v _ _ le rfl nb S2 (fun _ z => nomatch z) res.val (step i d e ed le1 iv) fun σ3 e3 l3 l4 nb3 S3 p => ?_
    -- the body: what is kept of F is told by a base of its own
    have key : ∀ (E' : DEnds) (D' : Ends), b E' e3 → EndsOk g { B with F0 := F2 } e3.length E' D' → tb D' σ3 H2 := fun E' D' p k' => by
      refine h3 { B with F0 := F2 } e3 σ3 H2 E' D' l3 ⟨nb3, F2, own', ⟨.refl F2, S3.fh, S3.h0, fun a o q => .inl q, S3.bag, S3.len, S3.sl⟩⟩ p k'
    have back : ∀ {e : En} {σ : L2.St} {H : Hp}, St g { B with F0 := F2 } e [] σ [] H → NB e ∧ ∃ F' own', Ext F2 F' ∧ StF g B F' own' (e ++ []) (σ ++ []) H := fun {e σ H} z => by
      obtain ⟨nb, F', own', z⟩ := z
      exact ⟨nb, F', own', z.f0, ⟨S2.f0.trans z.f0, z.fh, z.h0, fun a o q => (z.nw a o q).elim (fun q => S2.nw a o q) .inr, z.bag, z.len, z.sl⟩⟩
    refine key _ _ p ⟨fun σ4 H4 e4 l5 l6 S4 iv => ?_, fun t v F' H' z => ?_, fun σ4 H4 e4 l5 l6 S4 iv => ?_, fun σ4 H4 e4 l5 l6 S4 iv => ?_⟩
    · obtain ⟨nb4, F', own', x', S4⟩ := back S4
      exact ⟨e4, F', own', iv, l5, by omega, nb4, (x.trans res.ff).trans x', S4⟩
    · exact k.rt t v F' H' ⟨S2.f0.trans z.ff, z.fh, z.hh, fun a o q => (z.nw a o q).elim (fun q => S2.nw a o q) .inr, z.bag, z.val⟩
    · obtain ⟨nb4, F', own', x', S4⟩ := back S4
      exact k.nx σ4 H4 e4 l5 (by omega) ⟨nb4, F', own', S4⟩ iv
    · obtain ⟨nb4, F', own', x', S4⟩ := back S4
      exact ⟨e4, F', own', iv, l5, by omega, nb4, (x.trans res.ff).trans x', S4⟩
  · have ei : i = items.length := by omega
    subst ei
    exact .inl ⟨hstop (Nat.le_refl _), k.nx σ' H' e le (by omega) ⟨nb, F', own', S'⟩ (fin e le1 iv)⟩
theorem snd_for {wi : TI} {tg : TG} {tb : TS} {di : DI} {r : DG} {b : DS} (h1 : SndI g wi di) (h2 : SndG g tg r) (h3 : SndS g tb b) : SndS g (tFor wi tg tb) (sFor di r b) := fun B env σ H E D hl S h k => by
  refine h1 B env [] σ [] H _ _ hl rfl S h fun J H1 items e1 F1 own1 l1 nb1 S1 W h => ?_
  obtain ⟨Iv, i0, step, fin⟩ := h
  exact for_core h2 h3 (by omega) nb1 S1 W i0 step fin (by rw [l1]; exact k)
/-- while: a word, a number that falls -/
def sWhile (c : DT) (b : DS) : DS := fun E env => ∃ (Iv : Nat → En → Prop), (∃ m, Iv m env) ∧ ∀ m e, e.length = env.length → Iv m e → c e fun z e1 => match z with
  | true => b { E with nx := fun e2 => ∃ m', m' < m ∧ Iv m' e2, ct := fun e2 => ∃ m', m' < m ∧ Iv m' e2, bk := E.nx } e1
  | false => E.nx e1
theorem snd_while {tc : TT} {tb : TS} {c : DT} {b : DS} (h1 : SndT g tc c) (h2 : SndS g tb b) : SndS g (tWhile tc tb) (sWhile c b) := fun B env σ H E D hl S h k => by
  obtain ⟨Iv, ⟨m0, i0⟩, turn⟩ := h
  refine ⟨fun m σ' H' => ∃ e, Iv m e ∧ σ'.length = e.length ∧ e.length = env.length ∧ St g B e [] σ' [] H', ⟨m0, env, i0, hl, rfl, S⟩, ?_⟩
  rintro m σ' H' ⟨e, iv, l1, l2, S'⟩
  refine h1 B e [] σ' [] H' _ _ l1 rfl S' (turn m e l2 iv) fun z H1 e1 l3 S1 p => ?_
  cases z with
  | true =>
    rw [if_pos rfl]
    refine ⟨fun σ2 H2 => ∃ m', m' < m ∧ ∃ e, Iv m' e ∧ σ2.length = e.length ∧ e.length = env.length ∧ St g B e [] σ2 [] H2, fun σ2 H2 q => q, ?_⟩
    have nxt : ∀ σ2 H2 e2, σ2.length = e2.length → e2.length = e1.length → St g B e2 [] σ2 [] H2 → (∃ m', m' < m ∧ Iv m' e2) → ∃ m', m' < m ∧ ∃ e, Iv m' e ∧ σ2.length = e.length ∧ e.length = env.length ∧ St g B e [] σ2 [] H2 := fun σ2 H2 e2 l4 l5 S2 ⟨m', hm, iv'⟩ => ⟨m', hm, e2, iv', l4, by omega, S2⟩
    exact h2 B e1 σ' H1 _ _ (by omega) S1 p ⟨nxt, k.rt, fun σ2 H2 e2 l4 l5 S2 q => k.nx σ2 H2 e2 l4 (by omega) S2 q, nxt⟩
  | false =>
    rw [if_neg Bool.false_ne_true]
    exact k.nx σ' H1 e1 (by omega) (by omega) S1 p
end
end DL
set_option maxRecDepth 100000
set_option maxHeartbeats 2000000
namespace DL
open PySem PySem.Spec PyProof.Rows L2

/-- how a parameter is handed over: read only, kept, the bag -/
inductive Mode where
  | R | F | B
abbrev Con := List D → (Slot → Prop) → Prop
def ArgOk (g : G) (F H : Hp) (b : Option Addr) (m : Mode) (d : D) (v : V) : Prop := match m with
  | .R => RepC g F (nob b H) d v
  | .F => Rep g d v F
  | .B => ∃ a, b = some a ∧ v = .ref a
def ArgsOk (g : G) (F H : Hp) (b : Option Addr) : List Mode → List D → List V → Prop
  | [], ds, vs => ds = [] ∧ vs = []
  | m :: ms, ds, vs => ∃ d r v s, ds = d :: r ∧ vs = v :: s ∧ ArgOk g F H b m d v ∧ ArgsOk g F H b ms r s
def spD (g : G) (ms : List Mode) (c : Con) : Sp := fun vs H Q _ => ∃ (F : Hp) (b : Option Addr) (ds : List D) (post : Slot → Prop), Ext F H ∧ (∀ a, b = some a → BagOk g.K a F H ∧ F a = none) ∧ ArgsOk g F H b ms ds vs ∧ c ds post ∧
  ∀ t v F' H', Res g F H b t v F' H' → post t → Q v H'
def slotM : Mode → D → Slot
  | .R, d => .bo d
  | .F, d => .fz d
  | .B, _ => .bg
def env0 (ms : List Mode) (ds : List D) (n : Nat) : En := (List.zipWith slotM ms ds) ++ List.replicate (n - ms.length) .un
def DSs (g : G) (X : Cx) (body : List Stmt) (ds : DS) : Prop := ∃ t, PSs X body t ∧ SndS g t ds

section
variable {g : G} {F H : Hp} {b : Option Addr}
theorem ArgsOk.len : ∀ {ms : List Mode} {ds : List D} {vs : List V}, ArgsOk g F H b ms ds vs → ds.length = ms.length ∧ vs.length = ms.length
  | [], _, _, ⟨e1, e2⟩ => by subst e1 e2; exact ⟨rfl, rfl⟩
  | _ :: _, _, _, ⟨d, r, v, s, e1, e2, _, h⟩ => by
    subst e1 e2
    have := h.len
    simp [this.1, this.2]
theorem ArgsOk.at : ∀ {ms : List Mode} {ds : List D} {vs : List V} {i : Nat} {s : Slot}, ArgsOk g F H b ms ds vs → (List.zipWith slotM ms ds)[i]? = some s → ∃ m d v, s = slotM m d ∧ vs[i]? = some v ∧ ArgOk g F H b m d v
  | [], _, _, _, _, ⟨e1, e2⟩, h => by subst e1 e2; simp at h
  | m :: ms, _, _, 0, s, ⟨d, r, v, s', e1, e2, h1, _⟩, h => by
    subst e1 e2
    simp at h
    exact ⟨m, d, v, h.symm, rfl, h1⟩
  | m :: ms, _, _, i + 1, s, ⟨d, r, v, s', e1, e2, _, h1⟩, h => by
    subst e1 e2
    simpa using h1.at (i := i) (s := s) (by simpa using h)
theorem startD {ms : List Mode} {ds : List D} {vs : List V} {N : List Str} (e : Ext F H) (hb : ∀ a, b = some a → BagOk g.K a F H ∧ F a = none) (A : ArgsOk g F H b ms ds vs) (hn : ms.length ≤ N.length) :
    St g ⟨F, H, b⟩ (env0 ms ds N.length) [] (start N vs) [] H := by
  have ⟨l1, l2⟩ := A.len
  refine ⟨fun s hs j => ?_, F, fun _ => 0, ⟨.refl F, e, fun a o _ h => h, fun a o h => .inl h, fun a q => ⟨(hb a q).1, ?_, (hb a q).2⟩, ?_, fun i s h => ?_⟩⟩
  · rcases List.mem_append.mp hs with h | h
    · obtain ⟨i, hi, e⟩ := List.getElem_of_mem h
      obtain ⟨m, d, v, e2, _, _⟩ := A.at (i := i) (s := s) (by rw [List.getElem?_eq_getElem hi, e])
      subst e2
      cases m <;> (intro z; cases z)
    · rw [List.eq_of_mem_replicate h]; intro z; cases z
  · obtain ⟨_, _, _, _, _, h, _⟩ := (hb a q).1
    exact ⟨_, h⟩
  · simp [env0, L2.start, l1, l2]
  · rw [List.append_nil] at h ⊢
    rw [List.append_nil]
    unfold env0 at h
    unfold L2.start
    by_cases hi : i < (List.zipWith slotM ms ds).length
    · rw [List.getElem?_append_left hi] at h
      obtain ⟨m, d, v, e2, ev, r⟩ := A.at h
      have hv : i < (vs.map some).length := by simp at hi; simp; omega
      refine ⟨some v, by rw [List.getElem?_append_left hv]; simp [ev], ?_⟩
      subst e2
      cases m with
      | R => exact ⟨v, rfl, r⟩
      | F => exact ⟨v, rfl, r⟩
      | B => obtain ⟨a, e1, e2⟩ := r; subst e2; exact ⟨a, e1, rfl⟩
    · have hr := h
      rw [List.getElem?_append_right (by omega)] at h
      have hs := List.eq_of_mem_replicate (List.mem_of_getElem? h)
      have hlt := (List.getElem?_eq_some_iff.mp hr).1
      simp at hlt hi
      refine ⟨none, ?_, by rw [hs]; trivial⟩
      rw [List.getElem?_append_right (by simp; omega), List.getElem?_replicate]
      simp
      omega
end

section
variable {P : Program} {w : World} {K : PySem.W.Frag} {mg : Str → Option Value} {base : Heap}
/-- THE RULE for a def over data -/
theorem fnD {C : Addr} {x qual : Str} {st : Stmt} {f : Addr} {fd : FuncData} {N ps : List Str} {k : Nat} {ms : List Mode} {c : Con} {ds : DS} (F : Fun K x qual st f fd) (S : FnScope N ps (defScope st)) (hm : ms.length = ps.length) (hn : ms.length ≤ N.length)
    (hb : ∀ (cdv : Value) (A : Around) (outer : List Env) (s : Shared) (H : Hp) (E : XK), Room k (A.deeper (envOfC qual (defScope st) s.heap.objs.size f cdv)) →
      DSs ⟨K, C, P, w⟩ (cxOf CX0 P w K mg base N qual (defScope st) f cdv A outer s H E).nox (defBody st) ds)
    (wp : ∀ args post, args.length = ms.length → c args post → ds { nx := fun _ => post (.fz .non), rt := post } (env0 ms args N.length)) : FnOk P w K mg base CX0 (k + 1) f fd ps (spD ⟨K, C, P, w⟩ ms c) := by
  refine F.ok S (fun vs H Q E h => ?_) (fun cdv A outer s H vs Q E hr h => ?_)
  · obtain ⟨F', b, ds', post, _, _, a, _⟩ := h
    rw [a.len.2, hm]
  · obtain ⟨F', b, args, post, e, hbag, a, hc, q⟩ := h
    obtain ⟨t, ht, snd⟩ := hb cdv A outer s H E hr
    refine ⟨t, ht, ?_⟩
    refine snd ⟨F', H, b⟩ (env0 ms args N.length) (L2.start N vs) H _ _ ?_ (startD e hbag a hn) (wp args post a.len.1 hc) ⟨fun σ' H' env' l1 l2 S' p => ?_, fun t v F2 H2 r p => q t v F2 H2 r p, fun _ _ _ _ _ _ h => h.elim, fun _ _ _ _ _ _ h => h.elim⟩
    · have := a.len
      simp [env0, L2.start, this.1, this.2]
    · obtain ⟨nb, F2, own, S'⟩ := S'
      exact q (.fz .non) .non F2 H' ⟨S'.f0, S'.fh, fun a o hb h => S'.h0 a o hb h, S'.nw, fun a hb => (S'.bag a hb).1, rfl⟩ p
end

/-! ### calls -/
def prep : List Mode → List Slot → En → Option (List D × En)
  | [], [], env => some ([], env)
  | .R :: ms, t :: as, env => match rdS env t with
    | some d => (match prep ms as env with | some p => some (d :: p.1, p.2) | none => none)
    | none => none
  | .F :: ms, t :: as, env => match frz env t with
    | some q => (match prep ms as q.2 with | some p => some (q.1 :: p.1, p.2) | none => none)
    | none => none
  | .B :: ms, t :: as, env => match t with
    | .bg => (match prep ms as env with | some p => some (.non :: p.1, p.2) | none => none)
    | _ => none
  | _, _, _ => none
section
variable {g : G} {B : Bs} {F F' H H' : Hp} {own : Addr → Nat} {env ts : En} {σ vs : L2.St}
theorem ArgOk.mono {m : Mode} {d : D} {v : V} {b : Option Addr} (e : Ext F F') (h : ArgOk g F H b m d v) : ArgOk g F' H b m d v := by
  cases m with
  | R => exact RepC.mono e (.refl _) h
  | F => exact Rep.mono e h
  | B => exact h
theorem StF.prep : ∀ {ms : List Mode} {as : En} {xs : List V} {ds : List D} {env env' ts : En} {vs : L2.St} {F : Hp}, StF g B F own (env ++ (ts ++ as)) (σ ++ (vs ++ xs.map some)) H → σ.length = env.length → vs.length = ts.length → as.length = xs.length → NB env → (∀ t ∈ as, BrOk env.length t) → DL.prep ms as env = some (ds, env') →
    ∃ F', (∃ ts', ts'.length = (ts ++ as).length ∧ StF g B F' own (env' ++ ts') (σ ++ (vs ++ xs.map some)) H ∧ ∀ (m : Nat), m < ts.length → ts'[m]? = ts[m]?) ∧ Ext F F' ∧ env'.length = env.length ∧ NB env' ∧ ArgsOk g F' H B.b ms ds xs
  | [], [], xs, ds, env, env', ts, vs, F, S, hl, hv, ha, nb, hb, h => by
    have : xs = [] := by cases xs with | nil => rfl | cons _ _ => simp at ha
    subst this
    cases h
    exact ⟨F, ⟨ts, by simp, by simpa using S, fun _ _ => rfl⟩, .refl F, rfl, nb, rfl, rfl⟩
  | m :: ms, t :: as, xs, ds, env, env', ts, vs, F, S, hl, hv, ha, nb, hb, h => by
    cases xs with
    | nil => simp at ha
    | cons x xs =>
      have e1 : (ts ++ t :: as)[ts.length]? = some t := by simp
      have e2 : (vs ++ (x :: xs).map some)[ts.length]? = some (some x) := by simp [← hv]
      -- the rest, from a state where the first is told
      have go : ∀ {t' : Slot} {env1 : En} {F1 : Hp} {d : D} {ds' : List D}, StF g B F1 own (env1 ++ ((ts ++ [t']) ++ as)) (σ ++ (vs ++ (x :: xs).map some)) H → env1.length = env.length → NB env1 → Ext F F1 → ArgOk g F1 H B.b m d x → DL.prep ms as env1 = some (ds', env') →
          ∃ F', (∃ ts', ts'.length = (ts ++ t :: as).length ∧ StF g B F' own (env' ++ ts') (σ ++ (vs ++ (x :: xs).map some)) H ∧ ∀ (m : Nat), m < ts.length → ts'[m]? = ts[m]?) ∧ Ext F F' ∧ env'.length = env.length ∧ NB env' ∧ ArgsOk g F' H B.b (m :: ms) (d :: ds') (x :: xs) := fun {t' env1 F1 d ds'} S1 l1 nb1 x1 a1 h1 => by
        have S1' : StF g B F1 own (env1 ++ ((ts ++ [t']) ++ as)) (σ ++ ((vs ++ [some x]) ++ xs.map some)) H := by simpa using S1
        obtain ⟨F', ⟨ts', lt, S2, keep⟩, x2, l2, nb2, a2⟩ := StF.prep S1' (by omega) (by simp [hv]) (by simpa using ha) nb1 (fun s hs => by rw [l1]; exact hb s (List.mem_cons_of_mem _ hs)) h1
        refine ⟨F', ⟨ts', by simpa [Nat.add_comm, Nat.add_left_comm, Nat.add_assoc] using lt, by simpa using S2, fun m hm => ?_⟩, x1.trans x2, by omega, nb2, _, _, _, _, rfl, rfl, a1.mono x2, a2⟩
        rw [keep m (by simp; omega), List.getElem?_append_left hm]
      cases m with
      | R =>
        have h' : (match rdS env t with | some d => (match DL.prep ms as env with | some p => some (d :: p.1, p.2) | none => none) | none => none) = some (ds, env') := h
        cases q : rdS env t with
        | none => rw [q] at h'; cases h'
        | some d =>
          rw [q] at h'
          cases q2 : DL.prep ms as env with
          | none => rw [q2] at h'; cases h'
          | some p =>
            rw [q2] at h'
            cases h'
            exact go (t' := t) (by simpa using S) rfl nb (.refl F) (S.rdT hl e1 e2 (hb t List.mem_cons_self) q) q2
      | F =>
        have h' : (match DL.frz env t with | some q => (match DL.prep ms as q.2 with | some p => some (q.1 :: p.1, p.2) | none => none) | none => none) = some (ds, env') := h
        cases q : DL.frz env t with
        | none => rw [q] at h'; cases h'
        | some r =>
          obtain ⟨d, env1⟩ := r
          rw [q] at h'
          cases q2 : DL.prep ms as env1 with
          | none => simp only at h'; rw [q2] at h'; cases h'
          | some p =>
            simp only at h'
            rw [q2] at h'
            cases h'
            obtain ⟨F1, S1, x1, l1, r1⟩ := S.frz hl e1 e2 (hb t List.mem_cons_self) q
            have es : (ts ++ t :: as).set ts.length (.fz d) = (ts ++ [.fz d]) ++ as := by simp
            rw [es] at S1
            exact go S1 l1 (NB_frz nb q) x1 r1 q2
      | B =>
        cases t with
        | bg =>
          have h' : (match DL.prep ms as env with | some p => some (D.non :: p.1, p.2) | none => none) = some (ds, env') := h
          cases q2 : DL.prep ms as env with
          | none => rw [q2] at h'; cases h'
          | some p =>
            rw [q2] at h'
            cases h'
            obtain ⟨ov, z1, z2⟩ := S.sl (env.length + ts.length) .bg (by rw [List.getElem?_append_right (by omega)]; simp)
            have z3 : (σ ++ (vs ++ (x :: xs).map some))[env.length + ts.length]? = some (some x) := by rw [List.getElem?_append_right (by omega)]; simp [hl, ← hv]
            rw [z3] at z1
            cases z1
            obtain ⟨a, w1, w2⟩ := z2
            cases w2
            exact go (t' := .bg) (by simpa using S) rfl nb (.refl F) ⟨a, w1, rfl⟩ q2
        | _ => cases h
  | [], _ :: _, _, _, _, _, _, _, _, _, _, _, _, _, _, h => by cases h
  | m :: ms, [], _, _, _, _, _, _, _, _, _, _, _, _, _, h => by cases m <;> cases h
/-- f(..) of a def by its contract -/
def xCall (ms : List Mode) (c : Con) (a : DA) : DX := fun env k => a env fun as e1 => ob (prep ms as e1) fun p => c p.1 fun t => k t p.2
theorem StF.same {F1 : Hp} {ts' : En} (S : StF g B F1 own (env ++ ts') (σ ++ vs) H) (hl : σ.length = env.length) : StF g B F1 own env σ H := S.take hl
theorem call_core {ms : List Mode} {c : Con} {as : En} {xs : List V} {ds : List D} {env' : En} {k : DK} {Q : VK} {E : XK} (S : StF g B F own (env ++ (ts ++ as)) (σ ++ (vs ++ xs.map some)) H) (hl : σ.length = env.length) (hv : vs.length = ts.length) (ha : as.length = xs.length) (nb : NB env) (hbr : ∀ t ∈ as, BrOk env.length t)
    (hp : DL.prep ms as env = some (ds, env')) (hc : c ds fun t => k t env') (q : ∀ v H' t env', env'.length = env.length → BrOk env.length t → St g B env' (ts ++ [t]) σ (vs ++ [some v]) H' → k t env' → Q v H') : spD g ms c xs H Q E := by
  obtain ⟨F', ⟨ts', lt, S', kp⟩, x, l2, nb2, A⟩ := S.prep hl hv ha nb hbr hp
  refine ⟨F', B.b, ds, _, S'.fh, fun a e => ⟨(S'.bag a e).1, (S'.bag a e).2.2⟩, A, hc, fun t v F2 H2 r p => ?_⟩
  have lts : ts'.length = ts.length + as.length := by simpa using lt
  have e1 : ts' = ts ++ ts'.drop ts.length := by
    have : ts'.take ts.length = ts := by
      apply List.ext_getElem?
      intro m
      by_cases hm : m < ts.length
      · rw [List.getElem?_take_of_lt hm, kp m hm]
      · rw [List.getElem?_eq_none (by simp; omega), List.getElem?_eq_none (by omega)]
    conv => lhs; rw [← List.take_append_drop ts.length ts', this]
  rw [e1] at S'
  exact q v H2 t env' l2 r.br (S'.out (by omega) hv nb2 (.inr rfl) r) p
theorem snd_call {ms : List Mode} {c : Con} {ta : TA} {a : DA} {E : XK} (ha : SndA g ta a) : SndX g (tCall (spD g ms c) [] E ta) (xCall ms c a) := fun B env ts σ vs H k Q hl hv S h q => by
  refine ha B env ts σ vs H _ _ hl hv S h fun xs H1 as e1 l1 la b1 S1 h1 => ?_
  obtain ⟨⟨ds, e2⟩, ep, h1⟩ := ob_el h1
  obtain ⟨nb, F, own, S1⟩ := S1
  show spD g ms c (xs ++ []) H1 Q E
  rw [List.append_nil]
  exact call_core S1 (by omega) hv la nb (by rw [l1]; exact b1) ep h1 fun v H' t env' l2 b2 S2 p => q v H' t env' (by omega) (by rw [← l1]; exact b2) S2 p
/-- o.m(..) of a web -/
def xMeth (ms : List Mode) (c : Con) (o : DX) (a : DA) : DX := fun env k => o env fun t e1 => match rdS e1 t with
  | some (.web _ _) => a e1 fun as e2 => ob (prep ms (t :: as) e2) fun p => c p.1 fun t => k t p.2
  | _ => False
theorem snd_meth {m : Str} {ms : List Mode} {c : Con} {to : TE} {ta : TA} {o : DX} {a : DA} {E : XK} (hm : ∀ vm ve, (webF vm ve).lookup m = none) (ho : SndX g to o) (ha : SndA g ta a) : SndX g (tMeth g.C m (spD g ms c) [] E to ta) (xMeth ms c o a) := fun B env ts σ vs H k Q hl hv S h q => by
  refine ho B env ts σ vs H _ _ hl hv S h fun v H1 t e1 l1 b1 S1 h1 => ?_
  cases qr : rdS e1 t with
  | none => rw [qr] at h1; exact h1.elim
  | some d =>
    rw [qr] at h1
    cases d with
    | web wm we =>
      obtain ⟨nb, F, own, S1'⟩ := id S1
      have r := S1'.rdT (k := ts.length) (t := t) (v := v) (by omega) (by simp) (by simp [← hv]) (by rw [l1]; exact b1) qr
      obtain ⟨a', dx, vm, ve, e, hi, _, _⟩ := (show Rep g (.web wm we) v F from r)
      subst e
      refine ⟨a', dx, _, rfl, S1'.fh _ _ hi, hm vm ve, ?_⟩
      refine ha B e1 (ts ++ [t]) σ (vs ++ [some (.ref a')]) H1 _ _ (by omega) (by simp [hv]) S1 h1 fun xs H2 as e2 l2 la b2 S2 h2 => ?_
      obtain ⟨⟨ds, e3⟩, ep, h2⟩ := ob_el h2
      obtain ⟨nb2, F2, own2, S2⟩ := S2
      rw [List.append_nil]
      have S3 : StF g B F2 own2 (e2 ++ (ts ++ (t :: as))) (σ ++ (vs ++ (V.ref a' :: xs).map some)) H2 := by simpa using S2
      exact call_core S3 (by omega) hv (by simp [la]) nb2 (fun s hs => by
        rcases List.mem_cons.mp hs with rfl | hs
        · rw [l2, l1]; exact b1
        · rw [l2]; exact b2 s hs) ep h2 fun v H' t env' l3 b3 S4 p => q v H' t env' (by omega) (by rw [← l1, ← l2]; exact b3) S4 p
    | _ => exact h1.elim
end
end DL
set_option maxRecDepth 100000
set_option maxHeartbeats 2000000
namespace DL
open PySem PySem.Spec PyProof.Rows L2

def wipeE (env : En) : List Nat → En
  | [] => env
  | v :: vs => (wipeE env vs).set v .un
/-- the names of a block in the def around: not bound, or to a kept datum -/
def okW (env : En) (vs : List Nat) : Bool := vs.all fun j => match env[j]? with
  | some .un => true
  | some (.fz _) => true
  | _ => false
def deBr (env : En) (vs : List Nat) : Slot → Slot
  | .br j => if vs.contains j = true then (match env[j]? with | some (.fz d) => .fz d | _ => .un) else .br j
  | t => t
section
variable {g : G} {B : Bs} {F F' H H' : Hp} {own : Addr → Nat} {env ts : En} {σ vs : L2.St}
theorem wipeE_len (env : En) : ∀ vs : List Nat, (wipeE env vs).length = env.length
  | [] => rfl
  | v :: vs => by unfold wipeE; rw [List.length_set, wipeE_len env vs]
theorem wipeE_out {i : Nat} : ∀ {vs : List Nat}, i ∉ vs → (wipeE env vs)[i]? = env[i]?
  | [], _ => rfl
  | v :: vs, h => by
    have h1 : v ≠ i := fun e => h (by rw [e]; exact List.mem_cons_self)
    unfold wipeE
    rw [List.getElem?_set_ne h1]
    exact wipeE_out fun m => h (List.mem_cons_of_mem _ m)
theorem wipeE_in {i : Nat} : ∀ {vs : List Nat}, i ∈ vs → i < env.length → (wipeE env vs)[i]? = some .un
  | [], h, _ => by simp at h
  | v :: vs, h, hi => by
    unfold wipeE
    by_cases e : v = i
    · subst e
      rw [List.getElem?_set_self (by rw [wipeE_len]; exact hi)]
    · rw [List.getElem?_set_ne e]
      exact wipeE_in ((List.mem_cons.mp h).resolve_left fun z => e z.symm) hi
theorem NB.wipe (nb : NB env) : ∀ vs : List Nat, NB (wipeE env vs)
  | [] => nb
  | v :: vs => (NB.wipe nb vs).set (by intro j z; cases z)
/-- slots that nothing borrows, forgotten -/
theorem StF.forget {i : Nat} (S : StF g B F own env σ H) (hb : ∀ (m j : Nat), env[m]? = some (.br j) → j ≠ i) : StF g B F own (env.set i .un) (σ.set i none) H := by
  refine ⟨S.f0, S.fh, S.h0, S.nw, S.bag, by simp [S.len], fun m t e => ?_⟩
  by_cases hm : m = i
  · subst hm
    by_cases hi : m < env.length
    · rw [List.getElem?_set_self hi] at e
      cases e
      exact ⟨none, List.getElem?_set_self (by rw [← S.len]; exact hi), trivial⟩
    · rw [List.getElem?_eq_none (by simp; omega)] at e; cases e
  · rw [List.getElem?_set_ne (Ne.symm hm)] at e
    obtain ⟨ov, h1, h2⟩ := S.sl m t e
    refine ⟨ov, by rw [List.getElem?_set_ne (Ne.symm hm)]; exact h1, ?_⟩
    cases t with
    | br j =>
      obtain ⟨v', s', z1, z2, z3, z4, z5⟩ := h2
      have hj := hb m j e
      exact ⟨v', s', z1, by rw [List.getElem?_set_ne (Ne.symm hj)]; exact z2, by rw [List.getElem?_set_ne (Ne.symm hj)]; exact z3, z4, z5⟩
    | _ => exact h2
theorem StF.wipe : ∀ {ws : List Nat}, StF g B F own (env ++ ts) (σ ++ vs) H → σ.length = env.length → NB env → (∀ j ∈ ws, j < env.length) → (∀ t ∈ ts, ∀ j, t = .br j → j ∉ ws) → StF g B F own (wipeE env ws ++ ts) (L2.wipe σ ws ++ vs) H
  | [], S, _, _, _, _ => S
  | w :: ws, S, hl, nb, hw, ht => by
    have S1 := StF.wipe (ws := ws) S hl nb (fun j hj => hw j (List.mem_cons_of_mem _ hj)) fun t h j e m => ht t h j e (List.mem_cons_of_mem _ m)
    have S2 := S1.forget (i := w) fun m j e => by
      rcases List.mem_append.mp (List.mem_of_getElem? e) with h | h
      · exact absurd rfl (NB.wipe nb ws _ h j)
      · intro z
        exact ht _ h j rfl (by rw [z]; exact List.mem_cons_self)
    have hwl := hw w List.mem_cons_self
    rw [List.set_append_left _ _ (by rw [wipeE_len]; exact hwl), List.set_append_left _ _ (by rw [wipe_length]; omega)] at S2
    exact S2
theorem okW_at {ws : List Nat} (h : okW env ws = true) {j : Nat} (hj : j ∈ ws) : j < env.length ∧ (env[j]? = some .un ∨ ∃ d, env[j]? = some (.fz d)) := by
  have := List.all_eq_true.mp h j hj
  cases e : env[j]? with
  | none => simp [e] at this
  | some s =>
    have hl := (List.getElem?_eq_some_iff.mp e).1
    cases s with
    | un => exact ⟨hl, .inl rfl⟩
    | fz d => exact ⟨hl, .inr ⟨d, rfl⟩⟩
    | _ => simp [e] at this
/-- into the block -/
theorem StF.wipeS {ws : List Nat} (S : StF g B F own (env ++ ts) (σ ++ vs) H) (hl : σ.length = env.length) (nb : NB env) (ok : okW env ws = true) : StF g B F own (wipeE env ws ++ ts.map (deBr env ws)) (L2.wipe σ ws ++ vs) H := by
  have S1 : StF g B F own (env ++ ts.map (deBr env ws)) (σ ++ vs) H := by
    refine ⟨S.f0, S.fh, S.h0, S.nw, S.bag, by simpa using S.len, fun m t e => ?_⟩
    by_cases hm : m < env.length
    · rw [List.getElem?_append_left hm] at e
      have e' : (env ++ ts)[m]? = some t := by rw [List.getElem?_append_left hm]; exact e
      obtain ⟨ov, h1, h2⟩ := S.sl m t e'
      refine ⟨ov, h1, ?_⟩
      cases t with
      | br j => exact absurd rfl (nb _ (List.mem_of_getElem? e) j)
      | _ => exact h2
    · rw [List.getElem?_append_right (by omega), List.getElem?_map] at e
      cases q : ts[m - env.length]? with
      | none => rw [q] at e; cases e
      | some t0 =>
        rw [q] at e
        have e0 : deBr env ws t0 = t := Option.some.inj e
        have e' : (env ++ ts)[m]? = some t0 := by rw [List.getElem?_append_right (by omega)]; exact q
        obtain ⟨ov, h1, h2⟩ := S.sl m t0 e'
        refine ⟨ov, h1, ?_⟩
        cases t0 with
        | br j =>
          obtain ⟨v, s, z1, z2, z3, z4, z5⟩ := h2
          have e0 : (if ws.contains j = true then (match env[j]? with | some (.fz d) => Slot.fz d | _ => .un) else .br j) = t := e0
          by_cases hj : ws.contains j = true
          · rw [if_pos hj] at e0
            obtain ⟨hjl, hu⟩ := okW_at ok (List.contains_iff_mem.mp hj)
            rw [List.getElem?_append_left hjl] at z3
            rcases hu with hu | ⟨d, hu⟩
            · rw [hu] at z3; cases z3; cases z4
            · rw [hu] at e0
              have e1 : Slot.fz d = t := e0
              subst e1
              obtain ⟨ov2, w1, w2⟩ := S.sl j (.fz d) (by rw [List.getElem?_append_left hjl]; exact hu)
              rw [z2] at w1
              cases w1
              obtain ⟨v2, x1, x2⟩ := w2
              cases x1
              exact ⟨v, z1, x2⟩
          · rw [if_neg hj] at e0
            subst e0
            refine ⟨v, s, z1, z2, ?_, z4, z5⟩
            by_cases hjl : j < env.length
            · rw [List.getElem?_append_left hjl] at z3 ⊢; exact z3
            · rw [List.getElem?_append_right (by omega)] at z3 ⊢
              rw [List.getElem?_map, z3]
              cases s with
              | br _ => cases z4
              | _ => rfl
        | un => subst e0; exact h2
        | fz d => subst e0; exact h2
        | ow d => subst e0; exact h2
        | bo d => subst e0; exact h2
        | bg => subst e0; exact h2
  refine S1.wipe hl nb (fun j hj => (okW_at ok hj).1) fun t ht j e hj => ?_
  obtain ⟨t0, h0, h1⟩ := List.mem_map.mp ht
  subst e
  cases t0 with
  | br i =>
    have h1 : (if ws.contains i = true then (match env[i]? with | some (.fz d) => Slot.fz d | _ => .un) else .br i) = .br j := h1
    by_cases hi : ws.contains i = true
    · rw [if_pos hi] at h1
      split at h1 <;> cases h1
    · rw [if_neg hi] at h1
      cases h1
      exact hi (List.contains_iff_mem.mpr hj)
  | _ => cases h1
/-- out of the block -/
theorem StF.unwipe {ws : List Nat} {own' : Addr → Nat} {more : En} {mv : L2.St} (S : StF g B F own (env ++ ts) (σ ++ vs) H) (hl : σ.length = env.length) (hv : vs.length = ts.length) (nb : NB env) (ok : okW env ws = true) (x : Ext F F') (hm : ∀ t ∈ more, ∀ j, t ≠ .br j)
    (S' : StF g B F' own' (wipeE env ws ++ (ts.map (deBr env ws) ++ more)) (L2.wipe σ ws ++ (vs ++ mv)) H') : StF g B F' own' (env ++ (ts ++ more)) (σ ++ (vs ++ mv)) H' := by
  have hlen := S'.len
  simp [wipeE_len, wipe_length] at hlen
  refine ⟨S'.f0, S'.fh, S'.h0, S'.nw, S'.bag, by simp; omega, fun m t e => ?_⟩
  have plainS : ∀ {t : Slot} {ov : Option V} {e1 e2 : En} {s1 s2 : L2.St} {m : Nat}, (∀ j, t ≠ .br j) → SlotOk g B F' H' own' e1 s1 m t ov → SlotOk g B F' H' own' e2 s2 m t ov := fun {t ov e1 e2 s1 s2 m} ht h => by
    cases t with
    | br j => exact absurd rfl (ht j)
    | _ => exact h
  by_cases hme : m < env.length
  · rw [List.getElem?_append_left hme] at e
    have ht : ∀ j, t ≠ .br j := nb t (List.mem_of_getElem? e)
    by_cases hw : m ∈ ws
    · obtain ⟨_, hu⟩ := okW_at ok hw
      obtain ⟨ov, h1, h2⟩ := S.sl m t (by rw [List.getElem?_append_left hme]; exact e)
      rw [List.getElem?_append_left (by omega)] at h1 ⊢
      refine ⟨ov, h1, ?_⟩
      rcases hu with hu | ⟨d, hu⟩
      · rw [hu] at e; cases e; trivial
      · rw [hu] at e; cases e
        obtain ⟨v, z1, z2⟩ := h2
        exact ⟨v, z1, z2.mono x⟩
    · obtain ⟨ov, h1, h2⟩ := S'.sl m t (by rw [List.getElem?_append_left (by rw [wipeE_len]; exact hme), wipeE_out hw]; exact e)
      rw [List.getElem?_append_left (by rw [wipe_length]; omega), wipe_out hw] at h1
      rw [List.getElem?_append_left (by omega)]
      exact ⟨ov, h1, plainS ht h2⟩
  · rw [List.getElem?_append_right (by omega)] at e
    by_cases hmt : m - env.length < ts.length
    · rw [List.getElem?_append_left hmt] at e
      have e0 : (env ++ ts)[m]? = some t := by rw [List.getElem?_append_right (by omega)]; exact e
      obtain ⟨ov0, w1, w2⟩ := S.sl m t e0
      have lσ : (σ ++ (vs ++ mv))[m]? = (σ ++ vs)[m]? := by
        rw [← List.append_assoc, List.getElem?_append_left (by simp; omega)]
      refine ⟨ov0, lσ.trans w1, ?_⟩
      by_cases hb : ∃ j, t = .br j
      · obtain ⟨j, hb⟩ := hb
        subst hb
        obtain ⟨v, s, z1, z2, z3, z4, z5⟩ := w2
        have hjl : j < (env ++ ts).length := (List.getElem?_eq_some_iff.mp z3).1
        rw [List.length_append] at hjl
        by_cases hje : j < env.length
        · refine ⟨v, s, z1, ?_, ?_, z4, z5⟩
          · rw [List.getElem?_append_left (by omega)] at z2 ⊢; exact z2
          · rw [List.getElem?_append_left hje] at z3 ⊢; exact z3
        · refine ⟨v, s, z1, ?_, ?_, z4, z5⟩
          · rw [List.getElem?_append_right (by omega)] at z2 ⊢; rw [List.getElem?_append_left (by omega)]; exact z2
          · rw [List.getElem?_append_right (by omega)] at z3 ⊢; rw [List.getElem?_append_left (by omega)]; exact z3
      · have ht : ∀ j, t ≠ .br j := fun j z => hb ⟨j, z⟩
        have e2 : (wipeE env ws ++ (ts.map (deBr env ws) ++ more))[m]? = some t := by
          rw [List.getElem?_append_right (by rw [wipeE_len]; omega), wipeE_len, List.getElem?_append_left (by simpa using hmt), List.getElem?_map, e]
          cases t with
          | br j => exact absurd rfl (ht j)
          | _ => rfl
        obtain ⟨ov, h1, h2⟩ := S'.sl m t e2
        have : ov = ov0 := by
          rw [List.getElem?_append_right (by rw [wipe_length]; omega), wipe_length, List.getElem?_append_left (by omega)] at h1
          rw [List.getElem?_append_right (by omega)] at w1
          exact Option.some.inj (h1.symm.trans w1)
        subst this
        exact plainS ht h2
    · rw [List.getElem?_append_right (by omega)] at e
      have ht := hm t (List.mem_of_getElem? e)
      have e2 : (wipeE env ws ++ (ts.map (deBr env ws) ++ more))[m]? = some t := by
        rw [List.getElem?_append_right (by rw [wipeE_len]; omega), wipeE_len, List.getElem?_append_right (by simp; omega)]
        simpa using e
      obtain ⟨ov, h1, h2⟩ := S'.sl m t e2
      refine ⟨ov, ?_, plainS ht h2⟩
      rw [List.getElem?_append_right (by rw [wipe_length]; omega), wipe_length] at h1
      rw [List.getElem?_append_right (by omega)]
      exact h1
/-- a new object as the last temporary -/
theorem StF.newT {d : D} {p : Addr} {o : HO} (S : StF g B F own (env ++ ts) (σ ++ vs) H) (hl : σ.length = env.length) (hv : vs.length = ts.length) (nb : NB env) (hp : H p = none) (c : CellOk g d o F) : ∃ own', StF g B F own' (env ++ (ts ++ [.ow d])) (σ ++ (vs ++ [some (.ref p)])) (upd H p o) := by
  obtain ⟨own', S'⟩ := StF.res S (.inl rfl) (Res.own S.fh hp c)
  rw [List.append_assoc, List.append_assoc] at S'
  exact ⟨own', S'⟩
/-- an own object's new contents -/
theorem StF.put {i : Nat} {d d' : D} {p : Addr} {o' : HO} (S : StF g B F own env σ H) (e : env[i]? = some (.ow d)) (ev : σ[i]? = some (some (.ref p))) (c : CellOk g d' o' F) : StF g B F own (env.set i (.ow d')) σ (upd H p o') := by
  obtain ⟨ov, h1, h2⟩ := S.sl i _ e
  rw [ev] at h1
  cases h1
  obtain ⟨p', o, e1, e2, _, e3, e4, e5⟩ := h2
  cases e1
  have hi := (List.getElem?_eq_some_iff.mp e).1
  refine ⟨S.f0, S.fh.updR e3, fun a u hb h => ?_, S.nw, fun a hb => ?_, by simp [S.len], fun j s q => ?_⟩
  · rw [upd_ne (fun z => by rw [z, e4] at h; cases h)]
    exact S.h0 a u hb h
  · obtain ⟨⟨l, ns, x, y, z, q1, q2, q3⟩, h4, h5⟩ := S.bag a hb
    refine ⟨⟨l, ns, x, y, z, ?_, q2, q3⟩, h4, h5⟩
    rw [upd_ne (fun z => S.pnb e4 (by rw [← z]; exact hb))]
    exact q1
  · by_cases hj : j = i
    · subst hj
      rw [List.getElem?_set_self hi] at q
      cases q
      exact ⟨_, ev, p, o', rfl, upd_same, c, e3, e4, e5⟩
    · rw [List.getElem?_set_ne (Ne.symm hj)] at q
      obtain ⟨ov, h1, h2⟩ := S.sl j s q
      refine ⟨ov, h1, ?_⟩
      cases s with
      | ow d2 =>
        obtain ⟨p2, o2, z1, z2, c2, z3, z4, z5⟩ := h2
        exact ⟨p2, o2, z1, by rw [upd_ne (fun z => hj (by rw [← z5, ← e5, z]))]; exact z2, c2, z3, z4, z5⟩
      | br m =>
        obtain ⟨v, s', z1, z2, z3, z4, z5⟩ := h2
        by_cases hm : m = i
        · subst hm
          exact ⟨v, .ow d', z1, z2, List.getElem?_set_self hi, rfl, z5⟩
        · exact ⟨v, s', z1, z2, by rw [List.getElem?_set_ne (Ne.symm hm)]; exact z3, z4, z5⟩
      | _ => exact h2

/-! ### list comprehensions -/
def xLc (di : DI) (r : DG) (c : DT) (x : DX) (ws : List Nat) : DX := fun env k => di env fun items e1 => okW e1 ws = true ∧ ∃ Iv : Nat → List D → Prop, Iv 0 [] ∧
  (∀ i d l, items[i]? = some d → Iv i l → r d (wipeE e1 ws) fun e2 => wipeE e2 ws = wipeE e1 ws ∧ c e2 fun z e3 => match z with
    | true => x e3 fun t e4 => ob (frz e4 t) fun p => wipeE p.2 ws = wipeE e1 ws ∧ l.length < sizeLine ∧ Iv (i + 1) (l ++ [p.1])
    | false => wipeE e3 ws = wipeE e1 ws ∧ Iv (i + 1) l) ∧ ∀ l, Iv items.length l → k (.ow (.lst l)) e1
theorem deBr_nb {ws : List Nat} {t : Slot} (j : Nat) (h : deBr env ws t = .br j) : j ∉ ws := by
  cases t with
  | br i =>
    have h1 : (if ws.contains i = true then (match env[i]? with | some (.fz d) => Slot.fz d | _ => .un) else .br i) = .br j := h
    by_cases hi : ws.contains i = true
    · rw [if_pos hi] at h1
      split at h1 <;> cases h1
    · rw [if_neg hi] at h1
      cases h1
      exact fun m => hi (List.contains_iff_mem.mpr m)
  | _ => cases h
/-- a kept datum's store within a block: temporaries may borrow other names -/
def SndG' (g : G) (tg : TG) (dg : DG) (ws : List Nat) : Prop := ∀ (B : Bs) (F : Hp) (own : Addr → Nat) (env ts : En) (σ vs : L2.St) (H : Hp) (d : D) (v : V) (k : En → Prop) (Q : L2.St → Hp → Prop), σ.length = env.length → vs.length = ts.length → NB env → StF g B F own (env ++ ts) (σ ++ vs) H → (∀ t ∈ ts, ∀ j, t = .br j → j ∉ ws) → Rep g d v F → dg d env k →
  (∀ σ' env', σ'.length = env'.length → env'.length = env.length → NB env' → L2.wipe σ' ws = L2.wipe σ ws → StF g B F own (env' ++ ts) (σ' ++ vs) H → k env' → Q σ' H) → tg v σ H Q
def SndGs' (g : G) (tg : TGs) (dg : DGs) (ws : List Nat) : Prop := ∀ (B : Bs) (F : Hp) (own : Addr → Nat) (env ts : En) (σ vs : L2.St) (H : Hp) (ds : List D) (xs : List V) (k : En → Prop) (Q : L2.St → Hp → Prop), σ.length = env.length → vs.length = ts.length → NB env → StF g B F own (env ++ ts) (σ ++ vs) H → (∀ t ∈ ts, ∀ j, t = .br j → j ∉ ws) → Reps g ds xs F → dg ds env k →
  (∀ σ' env', σ'.length = env'.length → env'.length = env.length → NB env' → L2.wipe σ' ws = L2.wipe σ ws → StF g B F own (env' ++ ts) (σ' ++ vs) H → k env' → Q σ' H) → tg xs σ H Q
theorem wipe_set {i : Nat} {x : Option V} : ∀ {ws : List Nat}, i ∈ ws → L2.wipe (σ.set i x) ws = L2.wipe σ ws
  | [], h => by simp at h
  | w :: ws, h => by
    show (L2.wipe (σ.set i x) ws).set w none = (L2.wipe σ ws).set w none
    by_cases e : i ∈ ws
    · rw [wipe_set e]
    · have ew : w = i := ((List.mem_cons.mp h).resolve_right e).symm
      subst ew
      have : ∀ (ws : List Nat), w ∉ ws → L2.wipe (σ.set w x) ws = (L2.wipe σ ws).set w x := by
        intro ws
        induction ws with
        | nil => intro _; rfl
        | cons u us ih =>
          intro hu
          have h1 : u ≠ w := fun z => hu (by rw [z]; exact List.mem_cons_self)
          show (L2.wipe (σ.set w x) us).set u none = ((L2.wipe σ us).set u none).set w x
          rw [ih fun m => hu (List.mem_cons_of_mem _ m), List.set_comm _ _ (Ne.symm h1)]
      rw [this ws e, List.set_set]
theorem snd_gN' {i : Nat} {ws : List Nat} (hi : i ∈ ws) : SndG' g (gName i) (gN i) ws := fun B F own env ts σ vs H d v k Q hl hv nb S nt r h q => by
  obtain ⟨hi', h⟩ := h
  have S' := S.setv (i := i) (s := .fz d) (v := v) (own' := own) (by simp; omega) (fun m j e => by
    rcases List.mem_append.mp (List.mem_of_getElem? e) with z | z
    · exact absurd rfl (nb _ z j)
    · exact fun e2 => nt _ z j rfl (e2 ▸ hi)) (by intro _ z; cases z) (fun _ _ _ _ _ _ z => z) ⟨v, rfl, r⟩
  rw [List.set_append_left _ _ hi', List.set_append_left _ _ (by omega)] at S'
  exact q (σ.set i (some v)) (env.set i (.fz d)) (by simp [hl]) (by simp) (nb.set (by intro _ z; cases z)) (wipe_set hi) S' h
theorem snd_gsN' {ws : List Nat} : SndGs' g gNil gsN ws := fun B F own env ts σ vs H ds xs k Q hl hv nb S nt r h q => by
  cases ds with
  | nil => cases r; exact ⟨rfl, q σ env hl rfl nb rfl S h⟩
  | cons => exact h.elim
theorem snd_gsC' {ws : List Nat} {t : TG} {u : TGs} {a : DG} {b : DGs} (h1 : SndG' g t a ws) (h2 : SndGs' g u b ws) : SndGs' g (gCons t u) (gsC a b) ws := fun B F own env ts σ vs H ds xs k Q hl hv nb S nt r h q => by
  cases ds with
  | nil => exact h.elim
  | cons d ds =>
    obtain ⟨x, xs, rfl, r1, r⟩ := r
    refine ⟨x, xs, rfl, ?_⟩
    refine h1 B F own env ts σ vs H d x _ _ hl hv nb S nt r1 h fun σ1 e1 l1 l2 nb1 w1 S1 h => ?_
    exact h2 B F own e1 ts σ1 vs H ds xs k Q l1 hv nb1 S1 nt r h fun σ2 e2 l3 l4 nb2 w2 S2 h => q σ2 e2 l3 (by omega) nb2 (w2.trans w1) S2 h
theorem snd_gT' {n : Nat} {ws : List Nat} {u : TGs} {b : DGs} (h2 : SndGs' g u b ws) : SndG' g (gTup g.K n u) (gT n b) ws := fun B F own env ts σ vs H d v k Q hl hv nb S nt r h q => by
  cases d with
  | tup l =>
    obtain ⟨a, xs, rfl, h1, h3⟩ := r
    exact ⟨a, xs, rfl, (S.fh.t h1).sqT, by rw [h3.len]; exact h.1, h2 B F own env ts σ vs H l xs k Q hl hv nb S nt h3 h.2 q⟩
  | _ => exact h.elim
theorem lc_core {J : It} {tg : TG} {tt : TT} {te : TE} {r : DG} {c : DT} {x : DX} {ws : List Nat} {H1 : Hp} {items : List D} {e1 : En} {F1 : Hp} {own1 : Addr → Nat} {Iv : Nat → List D → Prop} {Dl : Addr} {Qd : Hp → Prop} (h2 : SndG' g tg r ws) (h3 : SndT g tt c) (h4 : SndX g te x) (hl1 : σ.length = e1.length) (hv : vs.length = ts.length) (nb1 : NB e1) (S1 : StF g B F1 own1 (e1 ++ ts) (σ ++ vs) H1) (W : Walk g F1 (nob B.b B.H0) J items)
    (ok : okW e1 ws = true) (i0 : Iv 0 []) (step : ∀ i d l, items[i]? = some d → Iv i l → r d (wipeE e1 ws) fun e2 => wipeE e2 ws = wipeE e1 ws ∧ c e2 fun z e3 => match z with
    | true => x e3 fun t e4 => ob (frz e4 t) fun p => wipeE p.2 ws = wipeE e1 ws ∧ l.length < sizeLine ∧ Iv (i + 1) (l ++ [p.1])
    | false => wipeE e3 ws = wipeE e1 ws ∧ Iv (i + 1) l) (hD : H1 Dl = none) (q : ∀ H' F' own' l, Iv items.length l → Ext F1 F' → StF g B F' own' (e1 ++ (ts ++ [.ow (.lst l)])) (σ ++ (vs ++ [some (.ref Dl)])) H' → Qd H') :
    ∃ W : Nat → Nat → Hp → Prop, (∃ m, W 0 m (upd H1 Dl (.lst []))) ∧ ∀ i m H, W i m H → (J.stop i H ∧ Qd H) ∨ (J.go i H ∧ ∃ Nx : Hp → Prop, (∀ H', Nx H' → ∃ m', m' < m ∧ W (i + 1) m' H') ∧ ∀ x H', J.yld i H x H' → tg x (L2.wipe σ ws) H' fun σ2 H2 => L2.wipe σ2 ws = L2.wipe σ ws ∧ tt σ2 H2 fun b H3 =>
      if b = true then te σ2 H3 fun y H4 => ∃ acc, H4 Dl = some (.lst acc) ∧ acc.length < sizeLine ∧ Nx (upd H4 Dl (.lst (acc ++ [y]))) else Nx H3) := by
  have hwl : (L2.wipe σ ws).length = (wipeE e1 ws).length := by rw [wipe_length, wipeE_len]; omega
  have Sw := S1.wipeS hl1 nb1 ok
  obtain ⟨own2, S2⟩ := Sw.newT (d := .lst []) (o := .lst []) hwl (by simp [hv]) (nb1.wipe ws) hD (show CellOk g (.lst []) (.lst []) F1 from rfl)
  have nbT : ∀ t ∈ (ts.map (deBr e1 ws)) ++ [Slot.ow (.lst [])], True := fun _ _ => trivial
  refine ⟨fun i m H' => m = items.length - i ∧ i ≤ items.length ∧ ∃ l F' own', Iv i l ∧ Ext F1 F' ∧ StF g B F' own' (wipeE e1 ws ++ (ts.map (deBr e1 ws) ++ [.ow (.lst l)])) (L2.wipe σ ws ++ (vs ++ [some (.ref Dl)])) H', ⟨items.length, by simp, Nat.zero_le _, [], F1, own2, i0, .refl _, S2⟩, ?_⟩
  rintro i m H' ⟨rfl, hi, l, F', own', iv, x', S'⟩
  obtain ⟨hstop, hgo⟩ := W F' H' x' S'.fh S'.hb i
  by_cases hlt : i < items.length
  · refine .inr ⟨(hgo hlt).1, fun H2 => ∃ l F' own', Iv (i + 1) l ∧ Ext F1 F' ∧ StF g B F' own' (wipeE e1 ws ++ (ts.map (deBr e1 ws) ++ [.ow (.lst l)])) (L2.wipe σ ws ++ (vs ++ [some (.ref Dl)])) H2, fun H2 z => ⟨items.length - (i + 1), by omega, rfl, by omega, z⟩, fun v H2 hy => ?_⟩
    obtain ⟨d, F2, ed, res⟩ := (hgo hlt).2 v H2 hy
    have nbag : ∀ a, B.b = some a → BagOk g.K a F2 H2 := fun a z => by
      obtain ⟨⟨l, ns, x1, x2, x3, q1, q2, q3⟩, _⟩ := S'.bag a z
      exact ⟨l, ns, x1, x2, x3, res.hh a _ (by intro z; cases z) q1, res.ff.l q2, q3⟩
    have S2 := S'.grow res.ff res.fh (fun a o _ z => res.hh a o (by intro z; cases z) z) res.nw nbag
    have hv2 : (vs ++ [some (V.ref Dl)]).length = (ts.map (deBr e1 ws) ++ [Slot.ow (.lst l)]).length := by simp [hv]
    refine h2 B F2 own' (wipeE e1 ws) _ (L2.wipe σ ws) _ H2 d v _ _ hwl hv2 (nb1.wipe ws) S2 (fun t ht j e => ?_) res.val (step i d l ed iv) fun σ3 e3 l3 l4 nb3 w3 S3 p => ?_
    · subst e
      rcases List.mem_append.mp ht with z | z
      · obtain ⟨t0, _, z⟩ := List.mem_map.mp z
        exact deBr_nb j z
      · have := List.mem_singleton.mp z
        cases this
    obtain ⟨p0, p⟩ := p
    have lw : ∀ (σ : L2.St), L2.wipe (L2.wipe σ ws) ws = L2.wipe σ ws := fun σ => by
      apply List.ext_getElem?
      intro m
      by_cases hm : m ∈ ws
      · have : ∀ (τ : L2.St) (us : List Nat), m ∈ us → m < τ.length → (L2.wipe τ us)[m]? = some none := by
          intro τ us
          induction us with
          | nil => intro h; simp at h
          | cons u us ih =>
            intro h hl
            show ((L2.wipe τ us).set u none)[m]? = some none
            by_cases e : u = m
            · subst e; rw [List.getElem?_set_self (by rw [wipe_length]; exact hl)]
            · rw [List.getElem?_set_ne e]; exact ih ((List.mem_cons.mp h).resolve_left fun z => e z.symm) hl
        by_cases hml : m < σ.length
        · rw [this _ ws hm (by rw [wipe_length]; exact hml), this _ ws hm hml]
        · rw [List.getElem?_eq_none (by rw [wipe_length, wipe_length]; omega), List.getElem?_eq_none (by rw [wipe_length]; omega)]
      · rw [wipe_out hm]
    refine ⟨by rw [w3]; exact lw σ, ?_⟩
    have w4 : L2.wipe σ3 ws = L2.wipe σ ws := w3.trans (lw σ)
    -- the turn runs over a base of its own, so that what is kept is told
    have St3 : St g { B with F0 := F2 } e3 (ts.map (deBr e1 ws) ++ [.ow (.lst l)]) σ3 (vs ++ [some (.ref Dl)]) H2 := ⟨nb3, F2, own', ⟨.refl F2, S3.fh, S3.h0, fun a o q => .inl q, S3.bag, S3.len, S3.sl⟩⟩
    have back : ∀ {F3 : Hp} {o3 : Addr → Nat} {e : En} {σ : L2.St} {H : Hp}, StF g { B with F0 := F2 } F3 o3 e σ H → Ext F2 F3 ∧ StF g B F3 o3 e σ H := fun {F3 o3 e σ H} z =>
      ⟨z.f0, ⟨S2.f0.trans z.f0, z.fh, z.h0, fun a o q => (z.nw a o q).elim (fun q => S2.nw a o q) .inr, z.bag, z.len, z.sl⟩⟩
    have clean : ∀ {F3 : Hp} {o3 : Addr → Nat} {e : En} {H3 : Hp} {l : List D}, StF g B F3 o3 (e ++ (ts.map (deBr e1 ws) ++ [.ow (.lst l)])) (σ3 ++ (vs ++ [some (.ref Dl)])) H3 → e.length = e3.length → NB e → wipeE e ws = wipeE e1 ws → StF g B F3 o3 (wipeE e1 ws ++ (ts.map (deBr e1 ws) ++ [.ow (.lst l)])) (L2.wipe σ ws ++ (vs ++ [some (.ref Dl)])) H3 := fun {F3 o3 e H3 l} z le nb we => by
      rw [← we, ← w4]
      refine z.wipe (by omega) nb (fun j hj => ?_) fun t ht j e hj => ?_
      · rw [le, l4, wipeE_len]; exact (okW_at ok hj).1
      · subst e
        rcases List.mem_append.mp ht with z | z
        · obtain ⟨t0, _, z⟩ := List.mem_map.mp z
          exact deBr_nb j z hj
        · have := List.mem_singleton.mp z
          cases this
    refine h3 { B with F0 := F2 } e3 _ σ3 _ H2 _ _ l3 hv2 St3 p fun z H4 e4 l5 S4 p => ?_
    cases z with
    | false =>
      show (if false = true then _ else _)
      rw [if_neg Bool.false_ne_true]
      obtain ⟨nb4, F4, o4, S4⟩ := S4
      obtain ⟨x4, S4⟩ := back S4
      exact ⟨l, F4, o4, p.2, (x'.trans res.ff).trans x4, clean S4 l5 nb4 p.1⟩
    | true =>
      show (if true = true then _ else _)
      rw [if_pos rfl]
      refine h4 { B with F0 := F2 } e4 _ σ3 _ H4 _ _ (by omega) hv2 S4 p fun y H5 t e5 l6 b5 S5 p => ?_
      obtain ⟨⟨d', e6⟩, ef, p1, p2, p3⟩ := ob_el p
      obtain ⟨nb5, F5, o5, S5⟩ := S5
      have hk : (ts.map (deBr e1 ws) ++ [Slot.ow (.lst l)] ++ [t])[(ts.map (deBr e1 ws) ++ [Slot.ow (.lst l)]).length]? = some t := by simp
      have hkv : (vs ++ [some (V.ref Dl)] ++ [some y])[(ts.map (deBr e1 ws) ++ [Slot.ow (.lst l)]).length]? = some (some y) := by rw [← hv2]; simp
      obtain ⟨F6, S6, x6, l7, r6⟩ := S5.frz (by omega) hk hkv (by rw [l6]; exact b5) ef
      have S7 : StF g { B with F0 := F2 } F6 o5 (e6 ++ (ts.map (deBr e1 ws) ++ [.ow (.lst l)])) (σ3 ++ (vs ++ [some (.ref Dl)])) H5 := by
        have es : (ts.map (deBr e1 ws) ++ [Slot.ow (.lst l)] ++ [t]).set (ts.map (deBr e1 ws) ++ [Slot.ow (.lst l)]).length (.fz d') = (ts.map (deBr e1 ws) ++ [Slot.ow (.lst l)]) ++ [.fz d'] := by simp
        rw [es] at S6
        exact S6.drop (by omega) hv2
      obtain ⟨x7, S7⟩ := back S7
      have S8 := clean S7 (by omega) (NB_frz nb5 ef) p1
      have ei : (wipeE e1 ws ++ (ts.map (deBr e1 ws) ++ [Slot.ow (.lst l)]))[(wipeE e1 ws).length + ts.length]? = some (.ow (.lst l)) := by
        rw [List.getElem?_append_right (by omega), List.getElem?_append_right (by simp)]; simp
      have ev : (L2.wipe σ ws ++ (vs ++ [some (V.ref Dl)]))[(wipeE e1 ws).length + ts.length]? = some (some (.ref Dl)) := by
        rw [List.getElem?_append_right (by omega), hwl, List.getElem?_append_right (by omega)]; simp [hv]
      obtain ⟨ov, z1, z2⟩ := S8.sl _ _ ei
      rw [ev] at z1
      cases z1
      obtain ⟨p', o, y1, y2, yc, _⟩ := z2
      cases y1
      cases o with
      | lst xs =>
        have rl : Reps g l xs F6 := yc
        refine ⟨xs, y2, by rw [rl.len]; exact p2, l ++ [d'], F6, o5, p3, (x'.trans res.ff).trans x7, ?_⟩
        have S9 := S8.put (d' := .lst (l ++ [d'])) (o' := .lst (xs ++ [y])) ei ev (rl.append (.one r6))
        have es : (wipeE e1 ws ++ (ts.map (deBr e1 ws) ++ [Slot.ow (.lst l)])).set ((wipeE e1 ws).length + ts.length) (.ow (.lst (l ++ [d']))) = wipeE e1 ws ++ (ts.map (deBr e1 ws) ++ [Slot.ow (.lst (l ++ [d']))]) := by
          rw [List.set_append_right _ _ (by omega), List.set_append_right _ _ (by simp)]; simp
        rw [es] at S9
        exact S9
      | _ => exact yc.elim
  · have ei : i = items.length := by omega
    subst ei
    exact .inl ⟨hstop (Nat.le_refl _), q H' F' own' l iv x' (S1.unwipe hl1 hv nb1 ok x' (fun t ht j => by rw [List.mem_singleton.mp ht]; intro z; cases z) S')⟩
theorem snd_lc {wi : TI} {tg : TG} {tt : TT} {te : TE} {di : DI} {r : DG} {c : DT} {x : DX} {ws : List Nat} (h1 : SndI g wi di) (h2 : SndG' g tg r ws) (h3 : SndT g tt c) (h4 : SndX g te x) : SndX g (tLc wi tg tt te ws) (xLc di r c x ws) := fun B env ts σ vs H k Q hl hv S h q => by
  refine h1 B env ts σ vs H _ _ hl hv S h fun J H1 items e1 F1 own1 l1 nb1 S1 W h => ?_
  obtain ⟨ok, Iv, i0, step, fin⟩ := h
  intro Dl hD
  exact lc_core h2 h3 h4 (by omega) hv nb1 S1 W ok i0 step hD fun H' F' own' l iv x' S' => q (.ref Dl) H' (.ow (.lst l)) e1 l1 (by intro _ z; cases z) ⟨nb1, F', own', S'⟩ (fin l iv)
end
end DL
set_option maxRecDepth 100000
set_option maxHeartbeats 2000000
namespace DL
open PySem PySem.Spec PyProof.Rows L2

/-! ### what is walked -/
def iSeq (K : PySem.W.Frag) (tl : TE) : TI := fun σ H R => tl σ H fun x H1 => (∃ a, x = .ref a ∧ (∃ xs, SqL K H1 a xs) ∧ R (Itl K a) H1) ∨ (∃ a, x = .ref a ∧ (∃ xs, SqT K H1 a xs) ∧ R (Itt K a) H1) ∨ ∃ y, x = .str y ∧ R (Its y) H1
theorem pi_seq {X : Cx} {tg l : Expr} {tl : TE} (hl : PE X l tl) : PI X tg l (iSeq X.K tl) := by
  refine ⟨fun pins s σ H R I h => ?_⟩
  refine thn (hl.run pins s σ H _ I h) fun v s1 ⟨x, H1, I1, r1, q1⟩ => ?_
  rcases q1 with ⟨a, e, ⟨xs, hq⟩, q⟩ | ⟨a, e, ⟨xs, hq⟩, q⟩ | ⟨y, e, q⟩
  · subst e
    cases r1
    obtain ⟨its, rv, p, hz⟩ := I1.list hq
    refine wpAny_pyIter_list p.isList ?_
    refine ⟨s1.heap.objs.size, [s1.heap.objs.size], _, _, H1, rfl, I1.kept (t' := s1.toks) fun b o e => Heap.get?_push_of_some _ e, turn_list a _, ⟨_, Heap.get?_push_size _ rfl, rfl, rfl⟩, fun b hb => ?_, q⟩
    have e : b = s1.heap.objs.size := by simpa using hb
    subst e
    exact I1.fpOk (Nat.le_refl _) (I1.hok.fresh (Nat.le_refl _))
  · subst e
    cases r1
    obtain ⟨its, rv, p, hz⟩ := I1.tuple hq
    refine wpAny_pyIter_tuple (show s1.heap.IsTuple a its.toArray from p) ?_
    refine ⟨s1.heap.objs.size, [s1.heap.objs.size], _, _, H1, rfl, I1.kept (t' := s1.toks) fun b o e => Heap.get?_push_of_some _ e, turn_tuple a _, ⟨_, Heap.get?_push_size _ rfl, rfl, rfl⟩, fun b hb => ?_, q⟩
    have e : b = s1.heap.objs.size := by simpa using hb
    subst e
    exact I1.fpOk (Nat.le_refl _) (I1.hok.fresh (Nat.le_refl _))
  · subst e
    obtain ⟨t, rfl⟩ := r1
    cases ha : y.cps.all (· < 128)
    · exact wpAny_pyIter_wide ha (pi_one (tk := s1.toks) I1 _ (turn_str _ y t "str_iterator" (.inr rfl)) ⟨_, Heap.get?_push_size _ rfl, rfl, rfl⟩ q)
    · exact wpAny_pyIter_ascii ha (pi_one (tk := s1.toks) I1 _ (turn_str _ y t "str_ascii_iterator" (.inl rfl)) ⟨_, Heap.get?_push_size _ rfl, rfl, rfl⟩ q)

section
variable {g : G} {B : Bs} {F F' H H' : Hp} {own : Addr → Nat} {env ts : En} {σ vs : L2.St}
/-- the walked thing itself is kept, unless it is borrowed from the caller -/
def frzB (env : En) : Slot → Option (D × En)
  | .bo d => some (d, env)
  | .br j => match env[j]? with
    | some (.fz d) => some (d, env)
    | some (.ow d) => some (d, env.set j (.fz d))
    | some (.bo d) => some (d, env)
    | _ => none
  | t => frz env t
theorem StF.frzB {k : Nat} {t : Slot} {v : V} {d : D} {env' : En} (S : StF g B F own (env ++ ts) (σ ++ vs) H) (hl : σ.length = env.length) (nb : NB env) (e : ts[k]? = some t) (ev : vs[k]? = some (some v)) (hb : BrOk env.length t)
    (hf : DL.frzB env t = some (d, env')) : ∃ F' t', StF g B F' own (env' ++ ts.set k t') (σ ++ vs) H ∧ Ext F F' ∧ env'.length = env.length ∧ NB env' ∧ (Rep g d v F' ∨ RepC g F' (nob B.b B.H0) d v) := by
  have viaF : DL.frz env t = some (d, env') → ∃ F' t', StF g B F' own (env' ++ ts.set k t') (σ ++ vs) H ∧ Ext F F' ∧ env'.length = env.length ∧ NB env' ∧ (Rep g d v F' ∨ RepC g F' (nob B.b B.H0) d v) := fun h => by
    obtain ⟨F', S', x, l, r⟩ := S.frz hl e ev hb h
    exact ⟨F', _, S', x, l, NB_frz nb h, .inl r⟩
  have same : ts.set k t = ts := by
    obtain ⟨hk, he⟩ := List.getElem?_eq_some_iff.mp e
    rw [← he]; exact List.set_getElem_self hk
  have e' : (env ++ ts)[env.length + k]? = some t := by rw [List.getElem?_append_right (by omega)]; simpa using e
  have ev' : (σ ++ vs)[env.length + k]? = some (some v) := by rw [List.getElem?_append_right (by omega)]; simpa [hl] using ev
  obtain ⟨ov, h1, h2⟩ := S.sl _ _ e'
  rw [ev'] at h1
  cases h1
  cases t with
  | bo d' =>
    cases hf
    obtain ⟨v', z, r⟩ := h2
    cases z
    exact ⟨F, _, by rw [same]; exact S, .refl F, rfl, nb, .inr r⟩
  | br j =>
    have hj := hb j rfl
    obtain ⟨v', s', z1, z2, z3, z4, z5⟩ := h2
    cases z1
    have z3' : env[j]? = some s' := by rw [List.getElem?_append_left hj] at z3; exact z3
    have hf' : (match env[j]? with | some (.fz d) => some (d, env) | some (.ow d) => some (d, env.set j (.fz d)) | some (.bo d) => some (d, env) | _ => none) = some (d, env') := hf
    rw [z3'] at hf'
    cases s' with
    | fz d' =>
      cases hf'
      exact viaF (by show (match env[j]? with | some (.fz d) => some (d, env) | some (.ow d) => some (d, env.set j (.fz d)) | some (.bo d) => if scal d = true then some (d, env) else none | _ => none) = _; rw [z3'])
    | ow d' =>
      cases hf'
      exact viaF (by show (match env[j]? with | some (.fz d) => some (d, env) | some (.ow d) => some (d, env.set j (.fz d)) | some (.bo d) => if scal d = true then some (d, env) else none | _ => none) = _; rw [z3'])
    | bo d' =>
      cases hf'
      obtain ⟨ov, q1, q2⟩ := S.sl j _ z3
      rw [z2] at q1
      cases q1
      obtain ⟨v', z, r⟩ := q2
      cases z
      exact ⟨F, _, by rw [same]; exact S, .refl F, rfl, nb, .inr r⟩
    | _ => cases z4
  | fz d' => exact viaF hf
  | ow d' => exact viaF hf
  | un => exact viaF hf
  | bg => exact viaF hf
def itemsOf : D → Option (List D)
  | .lst l => some l
  | .tup l => some l
  | .str s => some (s.map fun c => .str [c])
  | _ => none
def iOf (a : DX) : DI := fun env k => a env fun t e1 => ob (frzB e1 t) fun p => ob (itemsOf p.1) fun l => k l p.2
theorem walk_list {Hb : Hp} {a : Addr} {xs : List V} {l : List D} (hs : ∀ H', Ext F H' → Ext Hb H' → SqL g.K H' a xs) (r : Reps g l xs F) : Walk g F Hb (Itl g.K a) l := fun F' H' x e hb i => by
  have hq := hs H' (x.trans e) hb
  refine ⟨fun hi => ⟨xs, hq, by rw [r.len]; exact hi⟩, fun hi => ?_⟩
  have ei := List.getElem?_eq_getElem hi
  obtain ⟨v, ev, rv⟩ := r.get ei
  refine ⟨⟨xs, v, hq, ev⟩, fun y H'' hy => ?_⟩
  obtain ⟨e1, e2⟩ := hy
  subst e1
  have : y = v := Option.some.inj ((e2 xs hq).symm.trans ev)
  subst this
  exact ⟨_, F', ei, .scal e (rv.mono x)⟩
theorem walk_tup {Hb : Hp} {a : Addr} {xs : List V} {l : List D} (hs : ∀ H', Ext F H' → Ext Hb H' → SqT g.K H' a xs) (r : Reps g l xs F) : Walk g F Hb (Itt g.K a) l := fun F' H' x e hb i => by
  have hq := hs H' (x.trans e) hb
  refine ⟨fun hi => ⟨xs, hq, by rw [r.len]; exact hi⟩, fun hi => ?_⟩
  have ei := List.getElem?_eq_getElem hi
  obtain ⟨v, ev, rv⟩ := r.get ei
  refine ⟨⟨xs, v, hq, ev⟩, fun y H'' hy => ?_⟩
  obtain ⟨e1, e2⟩ := hy
  subst e1
  have : y = v := Option.some.inj ((e2 xs hq).symm.trans ev)
  subst this
  exact ⟨_, F', ei, .scal e (rv.mono x)⟩
theorem walk_str {Hb : Hp} {s : List Nat} : Walk g F Hb (Its (mkS s)) (s.map fun c => .str [c]) := fun F' H' x e hb i => by
  refine ⟨fun hi => by simpa [Its, mkS] using hi, fun hi => ?_⟩
  refine ⟨by simpa [Its, mkS] using hi, fun y H'' hy => ?_⟩
  obtain ⟨e1, c, e2, e3⟩ := hy
  subst e1 e3
  have ec : s[i]? = some c := by simpa [mkS] using e2
  exact ⟨.str [c], F', by rw [List.getElem?_map, ec]; rfl, .scal (d := .str [c]) e (show V.str _ = V.str (mkS [c]) from rfl)⟩
theorem snd_iOf {te : TE} {a : DX} (h1 : SndX g te a) : SndI g (iSeq g.K te) (iOf a) := fun B env ts σ vs H k R hl hv S h q => by
  refine h1 B env ts σ vs H _ _ hl hv S h fun v H1 t e1 l1 b1 S1 h1 => ?_
  obtain ⟨⟨d, e2⟩, ef, h1⟩ := ob_el h1
  obtain ⟨l, el, h1⟩ := ob_el h1
  obtain ⟨nb, F, own, S1⟩ := S1
  obtain ⟨F', t', S2, x, l2, nb2, r⟩ := S1.frzB (k := ts.length) (t := t) (v := v) (by omega) nb (by simp) (by simp [← hv]) (by rw [l1]; exact b1) ef
  have es : (ts ++ [t]).set ts.length t' = ts ++ [t'] := by simp
  rw [es] at S2
  have S3 := S2.drop (by omega) hv
  have fin : ∀ J, Walk g F' (nob B.b B.H0) J l → R J H1 := fun J w => q J H1 l e2 F' own (by omega) nb2 S3 w h1
  cases d with
  | lst m =>
    cases el
    rcases r with ⟨a', xs, rfl, hs, hr⟩ | ⟨a', xs, rfl, hs, hr⟩
    · exact .inl ⟨a', rfl, ⟨xs, S3.fh.l hs⟩, fin _ (walk_list (fun H' x _ => x.l hs) hr)⟩
    · exact .inl ⟨a', rfl, ⟨xs, S3.hb.l hs⟩, fin _ (walk_list (fun H' _ x => x.l hs) hr)⟩
  | tup m =>
    cases el
    rcases r with ⟨a', xs, rfl, hs, hr⟩ | ⟨a', xs, rfl, hs, hr⟩
    · exact .inr (.inl ⟨a', rfl, ⟨xs, (S3.fh.t hs).sqT⟩, fin _ (walk_tup (fun H' x _ => (x.t hs).sqT) hr)⟩)
    · exact .inr (.inl ⟨a', rfl, ⟨xs, (S3.hb.t hs).sqT⟩, fin _ (walk_tup (fun H' _ x => (x.t hs).sqT) hr)⟩)
  | str s =>
    cases el
    have ev : v = .str (mkS s) := by rcases r with r | r <;> exact r
    subst ev
    exact .inr (.inr ⟨_, rfl, fin _ walk_str⟩)
  | _ => cases el
/-- ranges -/
def rngD (lo : Int) (n : Nat) : List D := (List.range n).map fun i => .int (lo + (i : Nat))
theorem walk_rng {Hb : Hp} {lo : Int} {n : Nat} : Walk g F Hb (Itr lo n) (rngD lo n) := fun F' H' x e hb i => by
  have ln : (rngD lo n).length = n := by simp [rngD]
  refine ⟨fun hi => by rw [ln] at hi; exact hi, fun hi => ?_⟩
  rw [ln] at hi
  refine ⟨hi, fun y H'' hy => ?_⟩
  obtain ⟨e1, e2⟩ := hy
  subst e1 e2
  exact ⟨.int (lo + (i : Nat)), F', by simp [rngD, List.getElem?_range hi], .scal (d := .int _) e rfl⟩
def iRange1 (a : DA) : DI := fun env k => a env fun as e1 => match rdAll e1 as with
  | some [.int n] => -(2 ^ 62) ≤ n ∧ n < 2 ^ 62 ∧ k (rngD 0 n.toNat) e1
  | _ => False
theorem snd_range1 {ta : TA} {a : DA} (h1 : SndA g ta a) : SndI g (iRng1 ta) (iRange1 a) := fun B env ts σ vs H k R hl hv S h q => by
  refine h1 B env ts σ vs H _ _ hl hv S h fun xs H1 as e1 l1 la b1 S1 h1 => ?_
  obtain ⟨nb, F, own, S1⟩ := S1
  split at h1
  · rename_i n er
    have r := S1.rdAll (by omega) hv la (by rw [l1]; exact b1) er
    obtain ⟨x, r', ex, r1, r2⟩ := r
    have e1' : x = .int n := r1
    have e2' : r' = [] := r2
    subst ex e1' e2'
    exact ⟨n, rfl, h1.1, h1.2.1, q _ H1 _ e1 F own l1 nb (S1.drop (by omega) hv) walk_rng h1.2.2⟩
  · exact h1.elim
def iRange2 (a : DA) : DI := fun env k => a env fun as e1 => match rdAll e1 as with
  | some [.int m, .int n] => (-(2 ^ 62) ≤ m ∧ m < 2 ^ 62 ∧ -(2 ^ 62) ≤ n ∧ n < 2 ^ 62) ∧ k (rngD m (n - m).toNat) e1
  | _ => False
theorem snd_range2 {ta : TA} {a : DA} (h1 : SndA g ta a) : SndI g (iRng2 ta) (iRange2 a) := fun B env ts σ vs H k R hl hv S h q => by
  refine h1 B env ts σ vs H _ _ hl hv S h fun xs H1 as e1 l1 la b1 S1 h1 => ?_
  obtain ⟨nb, F, own, S1⟩ := S1
  split at h1
  · rename_i m n er
    have r := S1.rdAll (by omega) hv la (by rw [l1]; exact b1) er
    obtain ⟨x, r', ex, r1, y, r'', ey, r2, r3⟩ := r
    have e1' : x = .int m := r1
    have e2' : y = .int n := r2
    have e3' : r'' = [] := r3
    subst ex ey e1' e2' e3'
    exact ⟨m, n, rfl, h1.1, q _ H1 _ e1 F own l1 nb (S1.drop (by omega) hv) walk_rng h1.2⟩
  · exact h1.elim
/-- enumerate of a list -/
def enumD (l : List D) : List D := l.mapIdx fun i d => .tup [.int (i : Nat), d]
def iEnumD (a : DA) : DI := fun env k => a env fun as e1 => match as with
  | [t] => ob (frzB e1 t) fun p => match p.1 with
    | .lst l => k (enumD l) p.2
    | _ => False
  | _ => False
theorem snd_enum {ta : TA} {a : DA} (h1 : SndA g ta a) : SndI g (iEnum g.K ta) (iEnumD a) := fun B env ts σ vs H k R hl hv S h q => by
  refine h1 B env ts σ vs H _ _ hl hv S h fun xs H1 as e1 l1 la b1 S1 h1 => ?_
  match as, xs, la with
  | [t], [v], _ =>
    obtain ⟨⟨d, e2⟩, ef, h1⟩ := ob_el h1
    obtain ⟨nb, F, own, S1⟩ := S1
    obtain ⟨F', t', S2, x, l2, nb2, r⟩ := S1.frzB (k := ts.length) (t := t) (v := v) (by omega) nb (by simp) (by simp [← hv]) (by rw [l1]; exact b1 t (by simp)) ef
    have es : (ts ++ [t]).set ts.length t' = ts ++ [t'] := by simp
    rw [es] at S2
    have S3 := S2.drop (by omega) hv
    cases d with
    | lst l =>
      have go : ∀ a' xs, (∀ H', Ext F' H' → Ext (nob B.b B.H0) H' → SqL g.K H' a' xs) → Reps g l xs F' → v = .ref a' → ∃ a xs', [v] = [V.ref a] ∧ SqL g.K H1 a xs' ∧ R (Ite g.K a) H1 := fun a' xs hs rr ev => by
        subst ev
        refine ⟨a', xs, rfl, hs H1 S3.fh S3.hb, q _ H1 _ e2 F' own (by omega) nb2 S3 (fun F2 H2 x2 y2 hb i => ?_) h1⟩
        have hq := hs H2 (x2.trans y2) hb
        refine ⟨fun hi => ⟨xs, hq, by rw [rr.len]; simpa [enumD] using hi⟩, fun hi => ?_⟩
        have hi' : i < l.length := by simpa [enumD] using hi
        have ei := List.getElem?_eq_getElem hi'
        obtain ⟨w, ew, rw'⟩ := rr.get ei
        refine ⟨⟨xs, w, hq, ew⟩, fun y H3 hy => ?_⟩
        obtain ⟨T, z, e1', nT, e2', e3'⟩ := hy
        have : z = w := Option.some.inj ((e3' xs hq).symm.trans ew)
        subst e1' e2' this
        exact ⟨.tup [.int (i : Nat), l[i]], _, by simp [enumD, List.getElem?_mapIdx, ei], .tup y2 nT (.cons (d := .int _) rfl (.one (rw'.mono x2)))⟩
      rcases r with ⟨a', xs, ev, hs, hr⟩ | ⟨a', xs, ev, hs, hr⟩
      · exact go a' xs (fun H' x _ => x.l hs) hr ev
      · exact go a' xs (fun H' _ x => x.l hs) hr ev
    | _ => exact h1.elim
  | [], _, _ => exact h1.elim
  | _ :: _ :: _, _, _ => exact h1.elim

/-! ### dicts walked: locked while it goes on -/
def lockB (B : Bs) (d : Addr) (kvs : List (Key × V)) (od : Obj) : Bs := ⟨upd B.F0 d (.frz od (.dK kvs)), fun a => if a = d ∧ (B.H0 d).isSome = true then some (.frz od (.dK kvs)) else B.H0 a, B.b⟩
theorem le_lock {K : PySem.W.Frag} {d : Addr} {kvs : List (Key × V)} {od : Obj} (h : F d = some (.dK kvs)) : Le K F (upd F d (.frz od (.dK kvs))) := by
  have ne : ∀ {a o}, F a = some o → o ≠ .dK kvs → upd F d (.frz od (.dK kvs)) a = some o := fun {a o} e n => by
    rw [upd_ne (fun z => by rw [z, h] at e; exact n (Option.some.inj e).symm)]; exact e
  have rd : ∀ {a u}, Rd F a u → u ≠ .dK kvs → Rd (upd F d (.frz od (.dK kvs))) a u := fun {a u} r n => by
    rcases r with r | ⟨o, r⟩
    · exact .inl (ne r n)
    · exact .inr ⟨o, ne r (by intro z; cases z)⟩
  refine ⟨fun {a xs} r => ?_, fun {a xs} r => ?_, fun {a ks} r => ?_, fun {a ks} r => rd r (by intro z; cases z), fun {a C dx fs} r => ne r (by intro z; cases z)⟩
  · rcases r with r | r
    · exact .inl (rd r (by intro z; cases z))
    · exact .inr r
  · rcases r with r | r
    · exact .inl (ne r (by intro z; cases z))
    · exact .inr r
  · by_cases q : ks = kvs
    · subst q
      rcases r with r | ⟨o, r⟩
      · by_cases e : a = d
        · subst e; exact .inr ⟨od, upd_same⟩
        · exact .inl (by rw [upd_ne e]; exact r)
      · exact .inr ⟨o, ne r (by intro z; cases z)⟩
    · exact rd r (by intro z; cases z; exact q rfl)
theorem le_unlock {K : PySem.W.Frag} {d : Addr} {kvs : List (Key × V)} {od : Obj} (h : F d = some (.frz od (.dK kvs))) : Le K F (upd F d (.dK kvs)) := by
  have ne : ∀ {a o}, F a = some o → o ≠ .frz od (.dK kvs) → upd F d (.dK kvs) a = some o := fun {a o} e n => by
    rw [upd_ne (fun z => by rw [z, h] at e; exact n (Option.some.inj e).symm)]; exact e
  have rd : ∀ {a u}, Rd F a u → u ≠ .dK kvs → (∀ o w, u ≠ .frz o w) → Rd (upd F d (.dK kvs)) a u := fun {a u} r n nf => by
    rcases r with r | ⟨o, r⟩
    · exact .inl (ne r (nf _ _))
    · refine .inr ⟨o, ne r ?_⟩
      intro z
      cases z
      exact n rfl
  refine ⟨fun {a xs} r => ?_, fun {a xs} r => ?_, fun {a ks} r => ?_, fun {a ks} r => rd r (by intro z; cases z) (by intro _ _ z; cases z), fun {a C dx fs} r => ne r (by intro z; cases z)⟩
  · rcases r with r | r
    · exact .inl (rd r (by intro z; cases z) (by intro _ _ z; cases z))
    · exact .inr r
  · rcases r with r | r
    · exact .inl (ne r (by intro z; cases z))
    · exact .inr r
  · by_cases q : ks = kvs
    · subst q
      rcases r with r | ⟨o, r⟩
      · exact .inl (ne r (by intro z; cases z))
      · by_cases e : a = d
        · subst e; exact .inl upd_same
        · exact .inr ⟨o, by rw [upd_ne e]; exact r⟩
    · exact rd r (by intro z; cases z; exact q rfl) (by intro _ _ z; cases z)
theorem RepC.le {g : G} {F F' H H' : Hp} {d : D} {v : V} (e : Le g.K F F') (k : Le g.K H H') (h : RepC g F H d v) : RepC g F' H' d v := by
  cases d with
  | lst l => obtain ⟨a, vs, e1, h1, h2⟩ := h; exact ⟨a, vs, e1, k.l h1, h2.le e⟩
  | tup l => obtain ⟨a, vs, e1, h1, h2⟩ := h; exact ⟨a, vs, e1, k.t h1, h2.le e⟩
  | dct l => obtain ⟨a, kvs, e1, h1, h2⟩ := h; exact ⟨a, kvs, e1, k.k h1, h2.le e⟩
  | dcu l => obtain ⟨a, kvs, e1, h1, h2⟩ := h; exact ⟨a, kvs, e1, k.u h1, h2.le e⟩
  | non => exact h
  | bl b => exact h
  | int i => exact h
  | str s => exact h
  | web m n => exact Rep.le e (show Rep g (.web m n) v F from h)
theorem CellOk.le {g : G} {d : D} {o : HO} {F F' : Hp} (e : Le g.K F F') (h : CellOk g d o F) : CellOk g d o F' := by
  unfold CellOk at h ⊢
  split at h
  · exact Reps.le e h
  · exact RepK.le e h
  · exact RepT.le e h
  · exact h.elim
theorem nob_upd {b : Option Addr} {H : Hp} {d : Addr} {o : HO} (hb : b ≠ some d) : nob b (upd H d o) = upd (nob b H) d o := by
  funext a
  unfold nob upd
  by_cases e : a = d
  · subst e; simp [hb]
  · simp [e]
theorem SlotOk.conv {B B' : Bs} {i : Nat} {s : Slot} {ov : Option V} (hF : Le g.K F F') (hb : B'.b = B.b) (h0 : Le g.K (nob B.b B.H0) (nob B'.b B'.H0)) (hp : ∀ p o, H p = some o → F p = none → B.H0 p = none → H' p = some o ∧ F' p = none ∧ B'.H0 p = none)
    (h : SlotOk g B F H own env σ i s ov) : SlotOk g B' F' H' own env σ i s ov := by
  cases s with
  | un => trivial
  | fz d => obtain ⟨v, e, r⟩ := h; exact ⟨v, e, r.le hF⟩
  | ow d =>
    obtain ⟨p, o, e1, e2, c, e3, e4, e5⟩ := h
    obtain ⟨a1, a2, a3⟩ := hp p o e2 e3 e4
    exact ⟨p, o, e1, a1, c.le hF, a2, a3, e5⟩
  | bo d => obtain ⟨v, e, r⟩ := h; exact ⟨v, e, r.le hF h0⟩
  | bg => obtain ⟨a, e1, e2⟩ := h; exact ⟨a, hb.trans e1, e2⟩
  | br j => exact h
theorem Le.refl {K : PySem.W.Frag} (F : Hp) : Le K F F := (Ext.refl F).le
theorem StF.lock {d : Addr} {kvs : List (Key × V)} (S : StF g B F own env σ H) (hd : F d = some (.dK kvs)) (od : Obj) : StF g (lockB B d kvs od) (upd F d (.frz od (.dK kvs))) own env σ (upd H d (.frz od (.dK kvs))) := by
  have hbd : B.b ≠ some d := fun z => by have := (S.bag d z).2.2; rw [hd] at this; cases this
  have h0d : ∀ o, B.H0 d = some o → o = .dK kvs := fun o z => by
    have := S.h0 d o hbd z
    rw [S.fh d _ hd] at this
    exact (Option.some.inj this).symm
  have ext2 : ∀ {A B : Hp} {o : HO}, Ext A B → Ext (upd A d o) (upd B d o) := fun {A B o} e a u h => by
    by_cases q : a = d
    · subst q; rw [upd_same] at h ⊢; exact h
    · rw [upd_ne q] at h ⊢; exact e a u h
  refine ⟨ext2 S.f0, ext2 S.fh, fun a o hb h => ?_, fun a o h => ?_, fun a hb => ?_, S.len, fun i s e => ?_⟩
  · show upd H d _ a = some o
    have h : (if a = d ∧ (B.H0 d).isSome = true then some (HO.frz od (.dK kvs)) else B.H0 a) = some o := h
    by_cases q : a = d
    · subst q
      cases z : B.H0 a with
      | none => rw [z] at h; simp at h
      | some u => rw [if_pos ⟨rfl, by rw [z] <;> rfl⟩] at h; cases h; exact upd_same
    · rw [if_neg (fun z => q z.1)] at h
      rw [upd_ne q]
      exact S.h0 a o hb h
  · by_cases q : a = d
    · subst q; exact .inl ((show upd B.F0 a _ a = some _ from upd_same).trans (upd_same.symm.trans h))
    · rw [upd_ne q] at h
      refine (S.nw a o h).imp (fun z => ?_) fun z => ?_
      · show upd B.F0 d _ a = some o; rw [upd_ne q]; exact z
      · show (if a = d ∧ (B.H0 d).isSome = true then some (HO.frz od (.dK kvs)) else B.H0 a) = none
        rw [if_neg (fun z => q z.1)]; exact z
  · obtain ⟨⟨l, ns, x, y, z, q1, q2, q3⟩, ⟨o, h4⟩, h5⟩ := S.bag a hb
    have ad : a ≠ d := fun z => hbd (z ▸ hb)
    refine ⟨⟨l, ns, x, y, z, by rw [upd_ne ad]; exact q1, (le_lock hd).l q2, q3⟩, ⟨o, ?_⟩, by rw [upd_ne ad]; exact h5⟩
    show (if a = d ∧ (B.H0 d).isSome = true then some (HO.frz od (.dK kvs)) else B.H0 a) = some o
    rw [if_neg (fun z => ad z.1)]; exact h4
  · obtain ⟨ov, h1, h2⟩ := S.sl i s e
    refine ⟨ov, h1, h2.conv (B := B) (B' := lockB B d kvs od) (le_lock hd) rfl ?_ fun p o e1 e2 e3 => ?_⟩
    · show Le g.K (nob B.b B.H0) (nob B.b _)
      cases z : B.H0 d with
      | none =>
        have : (fun a => if a = d ∧ (B.H0 d).isSome = true then some (HO.frz od (.dK kvs)) else B.H0 a) = B.H0 := by
          funext a; rw [z]; simp
        show Le g.K (nob B.b B.H0) (nob B.b (fun a => if a = d ∧ (B.H0 d).isSome = true then some (HO.frz od (.dK kvs)) else B.H0 a))
        rw [this]
        exact .refl _
      | some u =>
        have : (fun a => if a = d ∧ (B.H0 d).isSome = true then some (HO.frz od (.dK kvs)) else B.H0 a) = upd B.H0 d (.frz od (.dK kvs)) := by
          funext a; rw [z]; simp [upd]
        show Le g.K (nob B.b B.H0) (nob B.b (fun a => if a = d ∧ (B.H0 d).isSome = true then some (HO.frz od (.dK kvs)) else B.H0 a))
        rw [this, nob_upd hbd]
        exact le_lock (by rw [nob_at hbd, z, h0d u z])
    · have pd : p ≠ d := fun z => by rw [z, hd] at e2; cases e2
      refine ⟨by rw [upd_ne pd]; exact e1, by rw [upd_ne pd]; exact e2, ?_⟩
      show (if p = d ∧ (B.H0 d).isSome = true then some (HO.frz od (.dK kvs)) else B.H0 p) = none
      rw [if_neg (fun z => pd z.1)]; exact e3
theorem StF.unlock {d : Addr} {kvs : List (Key × V)} {od : Obj} {F1 H1 : Hp} {own1 : Addr → Nat} {env1 : En} {σ1 : L2.St} (S : StF g B F own env σ H) (hd : F d = some (.dK kvs)) (S' : StF g (lockB B d kvs od) F1 own1 env1 σ1 H1) : F1 d = some (.frz od (.dK kvs)) ∧ StF g B (upd F1 d (.dK kvs)) own1 env1 σ1 (upd H1 d (.dK kvs)) := by
  have f1 : F1 d = some (.frz od (.dK kvs)) := S'.f0 d _ upd_same
  have hbd : B.b ≠ some d := fun z => by have := (S.bag d z).2.2; rw [hd] at this; cases this
  have h0d : ∀ o, B.H0 d = some o → o = .dK kvs := fun o z => by
    have := S.h0 d o hbd z
    rw [S.fh d _ hd] at this
    exact (Option.some.inj this).symm
  have ext2 : ∀ {A B : Hp} {o : HO}, Ext A B → Ext (upd A d o) (upd B d o) := fun {A B o} e a u h => by
    by_cases q : a = d
    · subst q; rw [upd_same] at h ⊢; exact h
    · rw [upd_ne q] at h ⊢; exact e a u h
  have H0e : ∀ {a}, a ≠ d → (lockB B d kvs od).H0 a = B.H0 a := fun {a} q => if_neg (fun z => q z.1)
  refine ⟨f1, ⟨fun a o h => ?_, ext2 S'.fh, fun a o hb h => ?_, fun a o h => ?_, fun a hb => ?_, S'.len, fun i s e => ?_⟩⟩
  · by_cases q : a = d
    · subst q
      have := S.f0 a o h
      rw [hd] at this
      rw [upd_same]
      exact this
    · rw [upd_ne q]
      exact S'.f0 a o (by show upd B.F0 d _ a = some o; rw [upd_ne q]; exact h)
  · by_cases q : a = d
    · subst q; rw [upd_same, h0d o h]
    · rw [upd_ne q]; exact S'.h0 a o hb (by rw [H0e q]; exact h)
  · by_cases q : a = d
    · subst q
      rw [upd_same] at h
      cases h
      exact S.nw a _ hd
    · rw [upd_ne q] at h
      refine (S'.nw a o h).imp (fun z => ?_) fun z => by rw [H0e q] at z; exact z
      have z : upd B.F0 d _ a = some o := z
      rw [upd_ne q] at z
      exact z
  · obtain ⟨⟨l, ns, x, y, z, q1, q2, q3⟩, ⟨o, h4⟩, h5⟩ := S'.bag a hb
    have ad : a ≠ d := fun z => hbd (z ▸ hb)
    exact ⟨⟨l, ns, x, y, z, by rw [upd_ne ad]; exact q1, (le_unlock f1).l q2, q3⟩, ⟨o, by rw [H0e ad] at h4; exact h4⟩, by rw [upd_ne ad]; exact h5⟩
  · obtain ⟨ov, h1, h2⟩ := S'.sl i s e
    refine ⟨ov, h1, h2.conv (B := lockB B d kvs od) (B' := B) (le_unlock f1) rfl ?_ fun p o e1 e2 e3 => ?_⟩
    · show Le g.K (nob B.b (lockB B d kvs od).H0) (nob B.b B.H0)
      cases z : B.H0 d with
      | none =>
        have : (lockB B d kvs od).H0 = B.H0 := by
          funext a
          show (if a = d ∧ (B.H0 d).isSome = true then some (HO.frz od (.dK kvs)) else B.H0 a) = B.H0 a
          rw [z]; simp
        rw [this]
        exact .refl _
      | some u =>
        have e1 : (lockB B d kvs od).H0 = upd B.H0 d (.frz od (.dK kvs)) := by
          funext a
          show (if a = d ∧ (B.H0 d).isSome = true then some (HO.frz od (.dK kvs)) else B.H0 a) = _
          rw [z]; simp [upd]
        have e2 : B.H0 = upd (upd B.H0 d (.frz od (.dK kvs))) d (.dK kvs) := by
          rw [upd_upd]
          funext a
          by_cases q : a = d
          · subst q; rw [upd_same, z, h0d u z]
          · rw [upd_ne q]
        rw [e1]
        conv => rhs; rw [e2]
        rw [nob_upd hbd, nob_upd hbd, nob_upd hbd]
        exact le_unlock upd_same
    · have pd : p ≠ d := fun z => by rw [z, f1] at e2; cases e2
      refine ⟨by rw [upd_ne pd]; exact e1, by rw [upd_ne pd]; exact e2, ?_⟩
      rw [H0e pd] at e3
      exact e3
end
end DL
set_option maxRecDepth 100000
set_option maxHeartbeats 2000000
namespace DL
open PySem PySem.Spec PyProof.Rows L2

/-- where a dict is read off: a name, a web's attribute -/
def PathS (g : G) (td : TE) (fp : En → Option (List (D × D))) : Prop := ∀ (B : Bs) (F : Hp) (own : Addr → Nat) (env ts : En) (σ vs : L2.St) (H : Hp) (l : List (D × D)), σ.length = env.length → StF g B F own (env ++ ts) (σ ++ vs) H → fp env = some l →
  ∃ d kvs, Rd F d (.dK kvs) ∧ RepK g l kvs F ∧ ∀ (H' : Hp) (Q : VK), (∀ a, a ≠ d → H' a = H a) → Q (.ref d) H' → td σ H' Q
def pVar (i : Nat) : En → Option (List (D × D)) := fun env => match env[i]? with
  | some (.fz (.dct l)) => some l
  | _ => none
def webOf (env : En) (i : Nat) : Option (D × D) := match env[i]? with
  | some (.fz (.web m e)) => some (m, e)
  | some (.bo (.web m e)) => some (m, e)
  | _ => none
def pMarks (i : Nat) : En → Option (List (D × D)) := fun env => match webOf env i with
  | some (.dct l, _) => some l
  | _ => none
def pEnds (i : Nat) : En → Option (List (D × D)) := fun env => match webOf env i with
  | some (_, .dct l) => some l
  | _ => none
theorem webF_m (vm ve : V) : (webF vm ve).lookup ("node_marks" : Str) = some vm := by
  unfold webF
  rw [lookup_putF, if_neg (by decide +kernel), lookup_putF, if_pos rfl]
theorem webF_e (vm ve : V) : (webF vm ve).lookup ("edge_ends" : Str) = some ve := by
  unfold webF
  rw [lookup_putF, if_pos rfl]
theorem webF_no (vm ve : V) {m : Str} (h1 : ¬ m = "edge_ends") (h2 : ¬ m = "node_marks") : (webF vm ve).lookup m = none := by
  unfold webF
  rw [lookup_putF, if_neg h1, lookup_putF, if_neg h2]
  all_goals rfl
section
variable {g : G} {B : Bs} {F F' H H' : Hp} {own : Addr → Nat} {env ts : En} {σ vs : L2.St}
theorem path_var {i : Nat} : PathS g (tVar i) (pVar i) := fun B F own env ts σ vs H l hl S h => by
  unfold pVar at h
  split at h
  · rename_i m e
    cases h
    have hi := (List.getElem?_eq_some_iff.mp e).1
    obtain ⟨ov, h1, v, e1, a, kvs, e2, r1, r2⟩ := S.sl i _ (by rw [List.getElem?_append_left hi]; exact e)
    subst e1 e2
    rw [List.getElem?_append_left (by omega)] at h1
    exact ⟨a, kvs, r1, r2, fun H' Q _ q => ⟨_, h1, q⟩⟩
  · cases h
theorem web_at {i : Nat} {m e : D} (hl : σ.length = env.length) (S : StF g B F own (env ++ ts) (σ ++ vs) H) (h : webOf env i = some (m, e)) : ∃ a dx vm ve, σ[i]? = some (some (.ref a)) ∧ F a = some (.ins g.C dx (webF vm ve)) ∧ Rep g m vm F ∧ Rep g e ve F := by
  unfold webOf at h
  have main : ∀ s, env[i]? = some s → (s = .fz (.web m e) ∨ s = .bo (.web m e)) → ∃ a dx vm ve, σ[i]? = some (some (.ref a)) ∧ F a = some (.ins g.C dx (webF vm ve)) ∧ Rep g m vm F ∧ Rep g e ve F := fun s es hs => by
    have hi := (List.getElem?_eq_some_iff.mp es).1
    obtain ⟨ov, h1, h2⟩ := S.sl i s (by rw [List.getElem?_append_left hi]; exact es)
    rw [List.getElem?_append_left (by omega)] at h1
    have : ∃ v, ov = some v ∧ Rep g (.web m e) v F := by
      rcases hs with rfl | rfl
      · exact h2
      · obtain ⟨v, e1, r⟩ := h2; exact ⟨v, e1, r⟩
    obtain ⟨v, e1, a, dx, vm, ve, e2, r1, r2, r3⟩ := this
    subst e1 e2
    exact ⟨a, dx, vm, ve, h1, r1, r2, r3⟩
  split at h
  · rename_i m' e' q; cases h; exact main _ q (.inl rfl)
  · rename_i m' e' q; cases h; exact main _ q (.inr rfl)
  · cases h
theorem path_fld {i : Nat} {f : Str} {fp : En → Option (List (D × D))} (hc : Cls g.K g.C) (hn : NoAttr g.K g.C f) (hf : ∀ env l, fp env = some l → ∃ m e, webOf env i = some (m, e) ∧ ∀ vm ve F, Rep g m vm F → Rep g e ve F → ∃ v, (webF vm ve).lookup f = some v ∧ Rep g (.dct l) v F) : PathS g (tFld g.K (tVar i) f) fp := fun B F own env ts σ vs H l hl S h => by
  obtain ⟨m, e, hw, hr⟩ := hf env l h
  obtain ⟨a, dx, vm, ve, h1, r1, r2, r3⟩ := web_at hl S hw
  obtain ⟨v, lk, d, kvs, ev, z1, z2⟩ := hr vm ve F r2 r3
  subst ev
  refine ⟨d, kvs, z1, z2, fun H' Q off q => ⟨_, h1, a, g.C, dx, _, _, rfl, ?_, hc, hn, lk, q⟩⟩
  rw [off a (fun z => ?_)]
  · exact S.fh _ _ r1
  · rw [z] at r1
    rcases z1 with z1 | ⟨o, z1⟩ <;> (rw [z1] at r1; cases r1)
theorem path_marks {i : Nat} (hc : Cls g.K g.C) (hn : NoAttr g.K g.C "node_marks") : PathS g (tFld g.K (tVar i) "node_marks") (pMarks i) := path_fld hc hn fun env l h => by
  unfold pMarks at h
  split at h
  · rename_i l' e q
    cases h
    exact ⟨_, _, q, fun vm ve F r1 _ => ⟨vm, webF_m vm ve, r1⟩⟩
  · cases h
theorem path_ends {i : Nat} (hc : Cls g.K g.C) (hn : NoAttr g.K g.C "edge_ends") : PathS g (tFld g.K (tVar i) "edge_ends") (pEnds i) := path_fld hc hn fun env l h => by
  unfold pEnds at h
  split at h
  · rename_i m l' q
    cases h
    exact ⟨_, _, q, fun vm ve F _ r2 => ⟨ve, webF_e vm ve, r2⟩⟩
  · cases h

/-- a way to walk a locked dict -/
structure KW (wi : TE → TI) (J : Addr → Obj → List (Key × V) → It) (f : List (D × D) → List D) : Prop where
  run : ∀ (td : TE) (σ : L2.St) (H : Hp) (R : It → Hp → Prop) (d : Addr) (o : Obj) (kvs : List (Key × V)), H d = some (.frz o (.dK kvs)) → (∀ Q : VK, Q (.ref d) H → td σ H Q) → R (J d o kvs) H → wi td σ H R
  walk : ∀ (g : G) (F Hb : Hp) (d : Addr) (o : Obj) (kvs : List (Key × V)) (l : List (D × D)), F d = some (.frz o (.dK kvs)) → RepK g l kvs F → Walk g F Hb (J d o kvs) (f l)
theorem RepK.at : ∀ {l : List (D × D)} {kvs : List (Key × V)} {i : Nat} {k : Key} {v : V}, RepK g l kvs F → kvs[i]? = some (k, v) → ∃ d, l[i]? = some (keyD k, d) ∧ Rep g d v F
  | [], _, _, _, _, h, e => by cases h; simp at e
  | (k', d') :: l, _, 0, _, _, ⟨q, v', r, e1, e2, h1, h2⟩, e => by
    subst e1
    simp at e
    obtain ⟨e3, e4⟩ := e
    subst e3 e4 e2
    exact ⟨d', rfl, h1⟩
  | (k', d') :: l, _, i + 1, _, _, ⟨q, v', r, e1, e2, h1, h2⟩, e => by
    subst e1
    simpa using h2.at (i := i) (by simpa using e)
theorem kw_keys : KW iKeys Itk fun l => l.map (·.1) where
  run := fun td σ H R d o kvs h ht q => ht _ ⟨d, o, rfl, .inl ⟨kvs, h, q⟩⟩
  walk := fun g F Hb d o kvs l h r F' H' x e _ i => by
    have hq := e _ _ (x _ _ h)
    refine ⟨fun hi => ⟨hq, by rw [r.len]; simpa using hi⟩, fun hi => ?_⟩
    have hi' : i < kvs.length := by rw [r.len]; simpa using hi
    refine ⟨⟨hq, hi'⟩, fun y H'' hy => ?_⟩
    obtain ⟨e1, k, v, e2, e3⟩ := hy
    subst e1 e3
    obtain ⟨d', e4, _⟩ := r.at e2
    exact ⟨keyD k, F', by rw [List.getElem?_map, e4]; rfl, .scal e (rep_key k)⟩
theorem kw_vals : KW iVals Itd fun l => l.map (·.2) where
  run := fun td σ H R d o kvs h ht q => ht _ ⟨d, o, kvs, rfl, h, q⟩
  walk := fun g F Hb d o kvs l h r F' H' x e _ i => by
    have hq := e _ _ (x _ _ h)
    refine ⟨fun hi => ⟨hq, by rw [r.len]; simpa using hi⟩, fun hi => ?_⟩
    have hi' : i < kvs.length := by rw [r.len]; simpa using hi
    refine ⟨⟨hq, hi'⟩, fun y H'' hy => ?_⟩
    obtain ⟨e1, k, e2⟩ := hy
    subst e1
    obtain ⟨d', e4, rv⟩ := r.at e2
    exact ⟨d', F', by rw [List.getElem?_map, e4]; rfl, .scal e (rv.mono x)⟩
theorem kw_items : KW iItems Iti fun l => l.map fun p => .tup [p.1, p.2] where
  run := fun td σ H R d o kvs h ht q => ht _ ⟨d, o, kvs, rfl, h, q⟩
  walk := fun g F Hb d o kvs l h r F' H' x e _ i => by
    have hq := e _ _ (x _ _ h)
    refine ⟨fun hi => ⟨hq, by rw [r.len]; simpa using hi⟩, fun hi => ?_⟩
    have hi' : i < kvs.length := by rw [r.len]; simpa using hi
    refine ⟨⟨hq, hi'⟩, fun y H'' hy => ?_⟩
    obtain ⟨T, k, v, e2, e3, nT, e5⟩ := hy
    subst e3 e5
    obtain ⟨d', e4, rv⟩ := r.at e2
    exact ⟨.tup [keyD k, d'], _, by rw [List.getElem?_map, e4]; rfl, .tup e nT (.cons (rep_key k) (.one (rv.mono x)))⟩

def diD (fp : En → Option (List (D × D))) (f : List (D × D) → List D) : DI := fun env k => ob (fp env) fun l => k (f l) env
/-- locked, or locked already -/
def tLk (t : TE) : TE := fun σ H Q => t σ H Q ∨ tLockE t σ H Q
def sLk (t : TS) : TS := fun D σ H => t D σ H ∨ tLock t D σ H
theorem pe_lk {X : Cx} {e : Expr} {t : TE} (h : PE X e t) : PE X e (tLk t) := ⟨fun pins s σ H Q I q => by
  rcases q with q | q
  · exact h.run pins s σ H Q I q
  · exact (pe_lock h).run pins s σ H Q I q⟩
theorem ps_lk {X : Cx} {st : Stmt} {t : TS} (h : PS X st t) : PS X st (sLk t) := ⟨fun pins s σ H D I q => by
  rcases q with q | q
  · exact h.run pins s σ H D I q
  · exact (ps_lock h).run pins s σ H D I q⟩
theorem snd_lcK {wi : TE → TI} {J : Addr → Obj → List (Key × V) → It} {f : List (D × D) → List D} {td : TE} {fp : En → Option (List (D × D))} {tg : TG} {tt : TT} {te : TE} {r : DG} {c : DT} {x : DX} {ws : List Nat} (kw : KW wi J f) (hp : PathS g td fp) (h2 : SndG' g tg r ws) (h3 : SndT g tt c) (h4 : SndX g te x) :
    SndX g (tLk (tLc (wi td) tg tt te ws)) (xLc (diD fp f) r c x ws) := fun B env ts σ vs H k Q hl hv S h q => by
  obtain ⟨l, el, ok, Iv, i0, step, fin⟩ := ob_el h
  obtain ⟨nb, F, own, S⟩ := S
  obtain ⟨d, kvs, rd, rk, run⟩ := hp B F own env ts σ vs H l hl S el
  rcases rd with rd | ⟨o, rd⟩
  · refine .inr ⟨d, .dK kvs, S.fh _ _ rd, trivial, fun od => ?_⟩
    have S1 := S.lock rd od
    refine kw.run td σ _ _ d od kvs upd_same (fun Q q => run _ Q (fun a ha => upd_ne ha) q) fun Dl hD => ?_
    have w := kw.walk g _ (nob (lockB B d kvs od).b (lockB B d kvs od).H0) d od kvs l (show upd F d (.frz od (.dK kvs)) d = _ from upd_same) (rk.le (le_lock rd))
    refine lc_core h2 h3 h4 hl hv nb S1 w ok i0 step hD fun H' F' own' l iv x' S' => ?_
    obtain ⟨f1, S2⟩ := S.unlock rd S'
    exact ⟨S'.fh _ _ f1, q (.ref Dl) _ (.ow (.lst l)) env rfl (by intro _ z; cases z) ⟨nb, _, own', S2⟩ (fin l iv)⟩
  · refine .inl (kw.run td σ _ _ d o kvs (S.fh _ _ rd) (fun Q q => run _ Q (fun a ha => rfl) q) fun Dl hD => ?_)
    exact lc_core h2 h3 h4 hl hv nb S (kw.walk g _ _ d o kvs l rd rk) ok i0 step hD fun H' F' own' l iv x' S' => q (.ref Dl) H' (.ow (.lst l)) env rfl (by intro _ z; cases z) ⟨nb, F', own', S'⟩ (fin l iv)
theorem Res.unlock {d : Addr} {kvs : List (Key × V)} {od : Obj} {t : Slot} {v : V} {F1 H1 : Hp} (S : StF g B F own env σ H) (hd : F d = some (.dK kvs)) (r : Res g (lockB B d kvs od).F0 (lockB B d kvs od).H0 B.b t v F1 H1) : H1 d = some (.frz od (.dK kvs)) ∧ Res g B.F0 B.H0 B.b t v (upd F1 d (.dK kvs)) (upd H1 d (.dK kvs)) := by
  have S1 := S.lock hd od
  have hr : retT [t] t = some t := by
    have v := r.val
    cases t <;> first | rfl | exact v.elim
  have S' : StF g (lockB B d kvs od) F1 (fun _ => 0) [t] [some v] H1 := by
    refine ⟨r.ff, r.fh, r.hh, r.nw, fun a hb => ⟨r.bag a hb, (S1.bag a hb).2.1, ?_⟩, rfl, fun i s e => ?_⟩
    · cases q : F1 a with
      | none => rfl
      | some u =>
        obtain ⟨_, ⟨o, h0⟩, fa⟩ := S1.bag a hb
        rcases r.nw a u q with z | z
        · have := S1.f0 a u z
          rw [fa] at this; cases this
        · rw [h0] at z; cases z
    · have hi : i = 0 := by
        cases i with
        | zero => rfl
        | succ n => simp at e
      subst hi
      cases e
      refine ⟨some v, rfl, ?_⟩
      have vv := r.val
      cases t with
      | fz d' => exact ⟨v, rfl, vv⟩
      | ow d' =>
        obtain ⟨p, o, e1, e2, c, e3, e4⟩ := vv
        exact ⟨p, o, by rw [e1], e2, c, e3, e4, rfl⟩
      | _ => exact vv.elim
  obtain ⟨f1, S2⟩ := S.unlock hd S'
  exact ⟨S'.fh _ _ f1, S2.ret (i := 0) (s := t) rfl rfl hr⟩
theorem snd_forK {wi : TE → TI} {J : Addr → Obj → List (Key × V) → It} {f : List (D × D) → List D} {td : TE} {fp : En → Option (List (D × D))} {tg : TG} {tb : TS} {r : DG} {b : DS} (kw : KW wi J f) (hp : PathS g td fp) (h2 : SndG g tg r) (h3 : SndS g tb b) : SndS g (sLk (tFor (wi td) tg tb)) (sFor (diD fp f) r b) := fun B env σ H E D hl S h k => by
  obtain ⟨l, el, Iv, i0, step, fin⟩ := ob_el h
  obtain ⟨nb, F, own, S⟩ := S
  obtain ⟨d, kvs, rd, rk, run⟩ := hp B F own env [] σ [] H l hl S el
  rcases rd with rd | ⟨o, rd⟩
  · refine .inr ⟨d, .dK kvs, S.fh _ _ rd, trivial, fun od => ?_⟩
    have S1 := S.lock rd od
    refine kw.run td σ _ _ d od kvs upd_same (fun Q q => run _ Q (fun a ha => upd_ne ha) q) ?_
    have w := kw.walk g _ (nob (lockB B d kvs od).b (lockB B d kvs od).H0) d od kvs l (show upd F d (.frz od (.dK kvs)) d = _ from upd_same) (rk.le (le_lock rd))
    have back : ∀ σ' H' env', St g (lockB B d kvs od) env' [] σ' [] H' → H' d = some (.frz od (.dK kvs)) ∧ St g B env' [] σ' [] (upd H' d (.dK kvs)) := fun σ' H' env' z => by
      obtain ⟨nb', F', own', z⟩ := z
      obtain ⟨f1, S2⟩ := S.unlock rd z
      exact ⟨z.fh _ _ f1, nb', _, own', S2⟩
    refine for_core h2 h3 hl nb S1 w i0 step fin ⟨fun σ' H' env' l1 l2 S' q => ?_, fun t v F' H' r q => ?_, fun σ' H' env' l1 l2 S' q => ?_, fun σ' H' env' l1 l2 S' q => ?_⟩
    · obtain ⟨z1, z2⟩ := back _ _ _ S'; exact ⟨z1, k.nx _ _ _ l1 l2 z2 q⟩
    · obtain ⟨z1, z2⟩ := Res.unlock S rd r; exact ⟨z1, k.rt _ _ _ _ z2 q⟩
    · obtain ⟨z1, z2⟩ := back _ _ _ S'; exact ⟨z1, k.bk _ _ _ l1 l2 z2 q⟩
    · obtain ⟨z1, z2⟩ := back _ _ _ S'; exact ⟨z1, k.ct _ _ _ l1 l2 z2 q⟩
  · exact .inl (kw.run td σ _ _ d o kvs (S.fh _ _ rd) (fun Q q => run _ Q (fun a ha => rfl) q) (for_core h2 h3 hl nb S (kw.walk g _ _ d o kvs l rd rk) i0 step fin k))

/-! ### displays -/
def frzAll (env : En) : List Slot → Option (List D × En)
  | [] => some ([], env)
  | t :: as => match frz env t with
    | some q => (match frzAll q.2 as with | some p => some (q.1 :: p.1, p.2) | none => none)
    | none => none
theorem StF.frzAll : ∀ {as : En} {xs : List V} {ds : List D} {env env' ts : En} {vs : L2.St} {F : Hp}, StF g B F own (env ++ (ts ++ as)) (σ ++ (vs ++ xs.map some)) H → σ.length = env.length → vs.length = ts.length → as.length = xs.length → NB env → (∀ t ∈ as, BrOk env.length t) → DL.frzAll env as = some (ds, env') →
    ∃ F' as', StF g B F' own (env' ++ (ts ++ as')) (σ ++ (vs ++ xs.map some)) H ∧ as'.length = as.length ∧ Ext F F' ∧ env'.length = env.length ∧ NB env' ∧ Reps g ds xs F'
  | [], xs, ds, env, env', ts, vs, F, S, hl, hv, ha, nb, hb, h => by
    have : xs = [] := by cases xs with | nil => rfl | cons _ _ => simp at ha
    subst this
    cases h
    exact ⟨F, [], S, rfl, .refl F, rfl, nb, rfl⟩
  | t :: as, xs, ds, env, env', ts, vs, F, S, hl, hv, ha, nb, hb, h => by
    cases xs with
    | nil => simp at ha
    | cons x xs =>
      have h' : (match DL.frz env t with | some q => (match DL.frzAll q.2 as with | some p => some (q.1 :: p.1, p.2) | none => none) | none => none) = some (ds, env') := h
      cases q : DL.frz env t with
      | none => rw [q] at h'; cases h'
      | some r =>
        obtain ⟨d, env1⟩ := r
        rw [q] at h'
        cases q2 : DL.frzAll env1 as with
        | none => simp only at h'; rw [q2] at h'; cases h'
        | some p =>
          simp only at h'
          rw [q2] at h'
          cases h'
          obtain ⟨F1, S1, x1, l1, r1⟩ := S.frz (k := ts.length) (t := t) (v := x) hl (by simp) (by simp [← hv]) (hb t List.mem_cons_self) q
          have es : (ts ++ t :: as).set ts.length (.fz d) = (ts ++ [.fz d]) ++ as := by simp
          rw [es] at S1
          have S1' : StF g B F1 own (env1 ++ ((ts ++ [.fz d]) ++ as)) (σ ++ ((vs ++ [some x]) ++ xs.map some)) H := by simpa using S1
          obtain ⟨F2, as', S2, la, x2, l2, nb2, r2⟩ := StF.frzAll S1' (by omega) (by simp [hv]) (by simpa using ha) (NB_frz nb q) (fun s hs => by rw [l1]; exact hb s (List.mem_cons_of_mem _ hs)) q2
          exact ⟨F2, .fz d :: as', by simpa using S2, by simp [la], x1.trans x2, by omega, nb2, .cons (r1.mono x2) r2⟩
def xLst (a : DA) : DX := fun env k => a env fun as e1 => ob (frzAll e1 as) fun p => p.1.length ≤ sizeLine ∧ k (.ow (.lst p.1)) p.2
def xTup (a : DA) : DX := fun env k => a env fun as e1 => ob (frzAll e1 as) fun p => p.1.length ≤ sizeLine ∧ k (.fz (.tup p.1)) p.2
theorem snd_lst {ta : TA} {a : DA} (h1 : SndA g ta a) : SndX g (tLst ta) (xLst a) := fun B env ts σ vs H k Q hl hv S h q => by
  refine h1 B env ts σ vs H _ _ hl hv S h fun xs H1 as e1 l1 la b1 S1 p => ?_
  obtain ⟨⟨ds, e2⟩, ep, p1, p2⟩ := ob_el p
  obtain ⟨nb, F, own, S1⟩ := S1
  obtain ⟨F2, as', S2, la2, x2, l2, nb2, r2⟩ := S1.frzAll (by omega) hv la nb (by rw [l1]; exact b1) ep
  refine ⟨by rw [r2.len]; exact p1, fun p hp => ?_⟩
  exact q (.ref p) _ (.ow (.lst ds)) e2 (by omega) (by intro _ z; cases z) (S2.out (by omega) hv nb2 (.inl rfl) (.own (d := .lst ds) S2.fh hp r2)) p2
theorem snd_tup {ta : TA} {a : DA} (h1 : SndA g ta a) : SndX g (tTup ta) (xTup a) := fun B env ts σ vs H k Q hl hv S h q => by
  refine h1 B env ts σ vs H _ _ hl hv S h fun xs H1 as e1 l1 la b1 S1 p => ?_
  obtain ⟨⟨ds, e2⟩, ep, p1, p2⟩ := ob_el p
  obtain ⟨nb, F, own, S1⟩ := S1
  obtain ⟨F2, as', S2, la2, x2, l2, nb2, r2⟩ := S1.frzAll (by omega) hv la nb (by rw [l1]; exact b1) ep
  refine ⟨by rw [r2.len]; exact p1, fun p hp => ?_⟩
  exact q (.ref p) _ (.fz (.tup ds)) e2 (by omega) (by intro _ z; cases z) (S2.out (by omega) hv nb2 (.inl rfl) (.tup S2.fh hp r2)) p2
/-- {}: keys ints or texts; keys tuples -/
def xDK : DX := fun env k => k (.ow (.dct [])) env
def xDT : DX := fun env k => k (.ow (.dcu [])) env
theorem snd_dK : SndX g tDNewK xDK := fun B env ts σ vs H k Q hl hv S h q => fun p hp => by
  obtain ⟨nb, F, own, S⟩ := S
  have S' : StF g B F own (env ++ (ts ++ [])) (σ ++ (vs ++ [])) H := by simpa using S
  exact q (.ref p) _ (.ow (.dct [])) env rfl (by intro _ z; cases z) (S'.out hl hv nb (.inl rfl) (.own (d := .dct []) S.fh hp (show CellOk g (.dct []) (.dK []) F from rfl))) h
theorem snd_dT : SndX g tDNewT xDT := fun B env ts σ vs H k Q hl hv S h q => fun p hp => by
  obtain ⟨nb, F, own, S⟩ := S
  have S' : StF g B F own (env ++ (ts ++ [])) (σ ++ (vs ++ [])) H := by simpa using S
  exact q (.ref p) _ (.ow (.dcu [])) env rfl (by intro _ z; cases z) (S'.out hl hv nb (.inl rfl) (.own (d := .dcu []) S.fh hp (show CellOk g (.dcu []) (.dT []) F from rfl))) h

/-! ### own objects changed -/
/-- x.append(e) -/
def xApp (i : Nat) (a : DA) : DX := fun env k => match env[i]? with
  | some (.ow (.lst _)) => a env fun as e1 => match as with
    | [t] => ob (frz e1 t) fun p => match p.2[i]? with
      | some (.ow (.lst l)) => l.length < sizeLine ∧ k (.fz .non) (p.2.set i (.ow (.lst (l ++ [p.1]))))
      | _ => False
    | _ => False
  | _ => False
theorem own_at {i : Nat} {d : D} (S : StF g B F own (env ++ ts) (σ ++ vs) H) (hl : σ.length = env.length) (e : env[i]? = some (.ow d)) : ∃ p o, σ[i]? = some (some (.ref p)) ∧ H p = some o ∧ CellOk g d o F ∧ (env ++ ts)[i]? = some (.ow d) ∧ (σ ++ vs)[i]? = some (some (.ref p)) := by
  have hi := (List.getElem?_eq_some_iff.mp e).1
  have e' : (env ++ ts)[i]? = some (.ow d) := by rw [List.getElem?_append_left hi]; exact e
  obtain ⟨ov, h1, p, o, e1, e2, c, _⟩ := S.sl i _ e'
  subst e1
  have h2 := h1
  rw [List.getElem?_append_left (by omega)] at h1
  exact ⟨p, o, h1, e2, c, e', h2⟩
theorem snd_app {i : Nat} {ta : TA} {a : DA} (h1 : SndA g ta a) : SndX g (tBM g.K "list" rAppend (tVar i) ta) (xApp i a) := fun B env ts σ vs H k Q hl hv S h q => by
  unfold xApp at h
  split at h
  · rename_i l0 e0
    obtain ⟨nb0, F0, own0, S0⟩ := id S
    obtain ⟨p, o, hσ, hp, c0, _, _⟩ := own_at S0 hl e0
    refine ⟨_, hσ, ?_, ?_⟩
    · cases o with
      | lst xs => exact .inl ⟨rfl, xs, .inl (.inl hp)⟩
      | _ => exact c0.elim
    · refine h1 B env ts σ vs H _ _ hl hv S h fun xs H1 as e1 l1 la b1 S1 h1 => ?_
      match as, xs, la with
      | [t], [v], _ =>
        obtain ⟨⟨d, e2⟩, ef, h1⟩ := ob_el h1
        split at h1
        · rename_i l e3
          obtain ⟨nb, F, own, S1⟩ := S1
          obtain ⟨F', S2, x, l2, r⟩ := S1.frz (k := ts.length) (t := t) (v := v) (by omega) (by simp) (by simp [← hv]) (by rw [l1]; exact b1 t (by simp)) ef
          have es : (ts ++ [t]).set ts.length (.fz d) = ts ++ [.fz d] := by simp
          rw [es] at S2
          have S3 := S2.drop (by omega) hv
          have nb2 : NB e2 := NB_frz nb ef
          obtain ⟨p', o', hσ', hp', c, e4, e5⟩ := own_at S3 (by omega) e3
          rw [hσ] at hσ'
          cases hσ'
          cases o' with
          | lst ys =>
            have c : Reps g l ys F' := c
            have S4 := S3.put (d' := .lst (l ++ [d])) (o' := .lst (ys ++ [v])) e4 e5 (c.append (.one r))
            rw [List.set_append_left _ _ (List.getElem?_eq_some_iff.mp e3).1] at S4
            refine ⟨p, ys, v, rfl, rfl, hp', by rw [c.len]; exact h1.1, ?_⟩
            exact q .non _ (.fz .non) _ (by simp; omega) (by intro _ z; cases z) (St.fz (v := .non) ⟨nb2.set (by intro _ z; cases z), F', own, S4⟩ fun _ => rfl) h1.2
          | _ => exact c.elim
        · exact h1.elim
      | [], _, _ => exact h1.elim
      | _ :: _ :: _, _, _ => exact h1.elim
  · exact h.elim
/-- x.pop() -/
def xPop (i : Nat) : DX := fun env k => match env[i]? with
  | some (.ow (.lst l)) => ob l.getLast? fun d => k (.fz d) (env.set i (.ow (.lst l.dropLast)))
  | _ => False
theorem Reps.dropLast {l : List D} {xs : List V} (h : Reps g l xs F) : Reps g l.dropLast xs.dropLast F := by
  rw [List.dropLast_eq_take, List.dropLast_eq_take, h.len]; exact h.take _
theorem snd_pop {i : Nat} : SndX g (tBM0 g.K "list" rPop (tVar i)) (xPop i) := fun B env ts σ vs H k Q hl hv S h q => by
  unfold xPop at h
  split at h
  · rename_i l e0
    obtain ⟨d, ed, h⟩ := ob_el h
    obtain ⟨nb, F, own, S⟩ := S
    obtain ⟨p, o, hσ, hp, c, e4, e5⟩ := own_at S hl e0
    cases o with
    | lst xs =>
      have c : Reps g l xs F := c
      rw [List.getLast?_eq_getElem?] at ed
      obtain ⟨v, ev, rv⟩ := c.get ed
      refine ⟨_, hσ, .inl ⟨rfl, xs, .inl (.inl hp)⟩, p, xs, v, rfl, rfl, hp, by rw [c.len]; exact ev, ?_⟩
      have S4 := S.put (d' := .lst l.dropLast) (o' := .lst xs.dropLast) e4 e5 c.dropLast
      rw [List.set_append_left _ _ (List.getElem?_eq_some_iff.mp e0).1] at S4
      have S5 := S4.push (t := .fz d) (v := v) (fun _ _ _ _ _ q _ => q) ⟨v, rfl, rv⟩
      rw [List.append_assoc, List.append_assoc] at S5
      exact q v _ (.fz d) _ (by simp) (by intro _ z; cases z) ⟨nb.set (by intro _ z; cases z), F, own, S5⟩ h
    | _ => exact c.elim
  · exact h.elim
/-- x.pop(e) -/
def xPopAt (i : Nat) (a : DA) : DX := fun env k => match env[i]? with
  | some (.ow (.lst _)) => a env fun as e1 => match rdAll e1 as with
    | some [.int j] => (match e1[i]? with
      | some (.ow (.lst l)) => 0 ≤ j ∧ j < l.length ∧ l.length < sizeLine ∧ ob l[j.toNat]? fun d => k (.fz d) (e1.set i (.ow (.lst (l.eraseIdx j.toNat))))
      | _ => False)
    | _ => False
  | _ => False
theorem Reps.eraseIdx : ∀ {l : List D} {vs : List V} (n : Nat), Reps g l vs F → Reps g (l.eraseIdx n) (vs.eraseIdx n) F
  | [], _, _, h => by cases h; simp [Reps]
  | _ :: _, _, 0, ⟨v, r, e1, h1, h⟩ => by subst e1; exact h
  | _ :: _, _, n + 1, ⟨v, r, e1, h1, h⟩ => by subst e1; exact ⟨v, _, rfl, h1, h.eraseIdx n⟩
theorem snd_popAt {i : Nat} {ta : TA} {a : DA} (h1 : SndA g ta a) : SndX g (tBM g.K "list" rPopAt (tVar i) ta) (xPopAt i a) := fun B env ts σ vs H k Q hl hv S h q => by
  unfold xPopAt at h
  split at h
  · rename_i l0 e0
    obtain ⟨nb0, F0, own0, S0⟩ := id S
    obtain ⟨p, o, hσ, hp, c0, _, _⟩ := own_at S0 hl e0
    refine ⟨_, hσ, ?_, ?_⟩
    · cases o with
      | lst xs => exact .inl ⟨rfl, xs, .inl (.inl hp)⟩
      | _ => exact c0.elim
    · refine h1 B env ts σ vs H _ _ hl hv S h fun xs H1 as e1 l1 la b1 S1 h1 => ?_
      obtain ⟨nb, F, own, S1⟩ := S1
      split at h1
      · rename_i j er
        obtain ⟨x, r', ex, r1, r2⟩ := S1.rdAll (by omega) hv la (by rw [l1]; exact b1) er
        have e1' : x = .int j := r1
        have e2' : r' = [] := r2
        subst ex e1' e2'
        split at h1
        · rename_i l e3
          obtain ⟨j0, j1, j2, h1⟩ := h1
          obtain ⟨d, ed, h1⟩ := ob_el h1
          have S3 := S1.drop (by omega) hv
          obtain ⟨p', o', hσ', hp', c, e4, e5⟩ := own_at S3 (by omega) e3
          rw [hσ] at hσ'
          cases hσ'
          cases o' with
          | lst ys =>
            have c : Reps g l ys F := c
            obtain ⟨v, ev, rv⟩ := c.get ed
            have S4 := S3.put (d' := .lst (l.eraseIdx j.toNat)) (o' := .lst (ys.eraseIdx j.toNat)) e4 e5 (c.eraseIdx _)
            rw [List.set_append_left _ _ (List.getElem?_eq_some_iff.mp e3).1] at S4
            have hsl : (sizeLine : Int) ≤ 2 ^ 63 := by decide
            refine ⟨p, ys, j, j.toNat, v, rfl, rfl, hp', by omega, by omega, PySem.StrLaws.seqIndex_nonneg j0 (by rw [c.len]; exact j1), ev, ?_⟩
            have S5 := S4.push (t := .fz d) (v := v) (fun _ _ _ _ _ q _ => q) ⟨v, rfl, rv⟩
            rw [List.append_assoc, List.append_assoc] at S5
            exact q v _ (.fz d) _ (by simp; omega) (by intro _ z; cases z) ⟨nb.set (by intro _ z; cases z), F, own, S5⟩ h1
          | _ => exact c.elim
        · exact h1.elim
      · exact h1.elim
  · exact h.elim
/-- d[k] = v -/
def sPutD (i : Nat) (ak av : DX) : DS := fun E env => av env fun t e1 => ob (frz e1 t) fun p => match p.2[i]? with
  | some (.ow (.dct _)) => ak p.2 fun u e3 => (match rdS e3 u, e3[i]? with
    | some kd, some (.ow (.dct l)) => keyOk kd = true ∧ l.length < sizeLine ∧ E.nx (e3.set i (.ow (.dct (dput l kd p.1))))
    | _, _ => False)
  | _ => False
theorem snd_putD {i : Nat} {tk tv : TE} {ak av : DX} (hk : SndX g tk ak) (hv' : SndX g tv av) : SndS g (sDPut (tVar i) tk tv) (sPutD i ak av) := fun B env σ H E D hl S h k => by
  refine hv' B env [] σ [] H _ _ hl rfl S h fun v H1 t e1 l1 b1 S1 h1 => ?_
  obtain ⟨⟨d, e2⟩, ef, h1⟩ := ob_el h1
  obtain ⟨nb, F, own, S1⟩ := S1
  obtain ⟨F', S2, x, l2, r⟩ := S1.frz (k := 0) (t := t) (v := v) (by omega) rfl rfl (by rw [l1]; exact b1) ef
  have nb2 : NB e2 := NB_frz nb ef
  split at h1
  · rename_i l0 e0
    obtain ⟨p, o, hσ, hp, c0, _, _⟩ := own_at (ts := [.fz d]) (vs := [some v]) S2 (by omega) e0
    refine ⟨_, hσ, ?_⟩
    refine hk B e2 [.fz d] σ [some v] H1 _ _ (by omega) rfl ⟨nb2, F', own, S2⟩ h1 fun y H2 u e3 l3 b3 S3 h2 => ?_
    obtain ⟨nb3, F3, own3, S3⟩ := S3
    split at h2
    · rename_i kd l er e4
      have ry := S3.rdT (k := 1) (t := u) (v := y) (by omega) rfl rfl (by rw [l3]; exact b3) er
      have S4 : StF g B F3 own3 (e3 ++ [.fz d]) (σ ++ [some v]) H2 := StF.drop (ts := [.fz d]) (vs := [some v]) S3 (by omega) rfl
      obtain ⟨p', o', hσ', hp', c, e5, e6⟩ := own_at (ts := [.fz d]) (vs := [some v]) S4 (by omega) e4
      rw [hσ] at hσ'
      cases hσ'
      obtain ⟨ov, z1, z2⟩ := S4.sl e3.length (.fz d) (by simp)
      have z3 : (σ ++ [some v])[e3.length]? = some (some v) := by rw [show e3.length = σ.length by omega]; simp
      rw [z3] at z1
      cases z1
      obtain ⟨v', z4, rv⟩ := z2
      cases z4
      cases o' with
      | dK kvs =>
        have c : RepK g l kvs F3 := c
        have hkd : (∃ i, kd = .int i) ∨ ∃ s, kd = .str s := by
          have := h2.1
          cases kd <;> simp [keyOk] at this <;> simp
        obtain ⟨q, e7, e8⟩ := key_of (g := g) (F := F3) (by rcases hkd with ⟨_, rfl⟩ | ⟨_, rfl⟩ <;> exact ry) hkd
        subst e7 e8
        refine ⟨p, _, rfl, .inl ⟨kvs, q, hp', rfl, by rw [c.len]; exact h2.2.1, rfl⟩, ?_⟩
        have S5 : StF g B F3 own3 (e3 ++ []) (σ ++ []) H2 := StF.drop (ts := []) (vs := []) S4 (by omega) rfl
        have S6 := S5.put (d' := .dct (dput l (keyD q) d)) (o' := .dK (putK kvs q v)) (by rw [List.append_nil]; exact e4) (by rw [List.append_nil]; exact hσ) (c.put rv)
        rw [List.set_append_left _ _ (List.getElem?_eq_some_iff.mp e4).1] at S6
        exact k.nx σ _ _ (by simp; omega) (by simp; omega) ⟨nb3.set (by intro _ z; cases z), F3, own3, S6⟩ h2.2.2
      | _ => exact c.elim
    · exact h2.elim
  · exact h1.elim
end
end DL
set_option maxRecDepth 100000
set_option maxHeartbeats 2000000
namespace DL
open PySem PySem.Spec PyProof.Rows L2

section
variable {g : G} {B : Bs} {F F' H H' : Hp} {own : Addr → Nat} {env ts : En} {σ vs : L2.St}
/-! ### items -/
theorem Reps.atI {l : List D} {xs : List V} {i : Int} {d : D} (h : Reps g l xs F) (e : L2.atI l i = some d) : ∃ v, L2.atI xs i = some v ∧ Rep g d v F := by
  unfold L2.atI at e ⊢
  rw [h.len]
  cases q : ixN l.length i with
  | none => rw [q] at e; cases e
  | some j =>
    rw [q] at e
    exact h.get (i := j) e
def rDGetR : R2 := fun x y H Q => ∃ a v, x = .ref a ∧ DGet H a y (some v) ∧ Q v H
theorem ix_dict {X : Cx} (hu : X.A.units + 1 < cLine) : IxR X rDGetR := by
  intro value slice pins s σ H x y v u Q I rx ry h hs
  obtain ⟨a, w, rfl, dg, q⟩ := h
  cases rx
  exact tail_any (dict_typeIs I dg) PySem.F.slot_dict_getitem.lookup (d_getItem hu I dg ry fun w' s' I' rw' => ⟨w, H, I', rw', q⟩) hs
def rIxA (K : PySem.W.Frag) : R2 := fun x y H Q => rIx K x y H Q ∨ rDGetR x y H Q
theorem ix_all {X : Cx} (hu : X.A.units + 1 < cLine) : IxR X (rIxA X.K) := ix_seq.or (ix_dict hu)
def fIx (a b : D) (k : Slot → Prop) : Prop := match a, b with
  | .lst l, .int i => ob (L2.atI l i) fun d => k (.fz d)
  | .tup l, .int i => ob (L2.atI l i) fun d => k (.fz d)
  | .str s, .int i => s.length ≤ sizeLine ∧ ob (L2.atI s i) fun c => k (.fz (.str [c]))
  | .dct l, kd => keyOk kd = true ∧ ob (dget l kd) fun d => k (.fz d)
  | _, _ => False
theorem ov_ix : OpV g (rIxA g.K) fIx := fun F H x y dx dy post Q e rx ry h q => by
  unfold fIx at h
  split at h
  · obtain ⟨d, ed, h⟩ := ob_el h
    obtain ⟨a, xs, rfl, h1, h2⟩ := rx
    have ey : y = .int _ := ry
    subst ey
    obtain ⟨v, ev, rv⟩ := h2.atI ed
    exact .inl (.inl ⟨a, xs, _, v, rfl, rfl, h1, ev, q _ _ _ _ (.scal e rv) h⟩)
  · obtain ⟨d, ed, h⟩ := ob_el h
    obtain ⟨a, xs, rfl, h1, h2⟩ := rx
    have ey : y = .int _ := ry
    subst ey
    obtain ⟨v, ev, rv⟩ := h2.atI ed
    exact .inl (.inr (.inl ⟨a, xs, _, v, rfl, rfl, h1.sqT, ev, q _ _ _ _ (.scal e rv) h⟩))
  · obtain ⟨hz, h⟩ := h
    obtain ⟨c, ec, h⟩ := ob_el h
    have ex : x = .str (mkS _) := rx
    have ey : y = .int _ := ry
    subst ex ey
    exact .inl (.inr (.inr ⟨_, _, c, rfl, rfl, by rw [mkS_len]; exact hz, by simpa [mkS] using ec, q _ _ _ _ (.scal (d := .str [c]) e (show V.str _ = V.str (mkS [c]) from rfl)) h⟩))
  · rename_i l
    obtain ⟨hk, hh⟩ := h
    obtain ⟨d, ed, hp⟩ := ob_el hh
    obtain ⟨a, kvs, rfl, h1, h2⟩ := rx
    have hkd : (∃ i, dy = .int i) ∨ ∃ s, dy = .str s := by
      cases dy <;> simp [keyOk] at hk <;> simp
    obtain ⟨kk, e7, e8⟩ := key_of (g := g) (F := F) (by rcases hkd with ⟨_, rfl⟩ | ⟨_, rfl⟩ <;> exact ry) hkd
    have e7 : y = kV kk := e7
    rw [e8] at ed
    rcases h2.get kk with ⟨d', v, z1, z2, z3⟩ | ⟨z1, z2⟩
    · rw [ed] at z1
      cases z1
      exact .inr ⟨a, v, rfl, .inl ⟨kvs, kk, h1, e7, z2.symm⟩, q _ _ _ _ (.scal e z3) hp⟩
    · rw [ed] at z1; cases z1
  · exact h.elim

/-! ### in -/
def rInDct (neg : Bool) : R2 := fun y x H Q => ∃ a o, x = .ref a ∧ DGet H a y o ∧ Q (.bl (if neg then !o.isSome else o.isSome)) H
theorem op_inDct {X : Cx} (hu : X.A.units + 1 < cLine) : OpR X (compareOp .In) (rInDct false) := by
  intro pins s σ H x y v u Q I rx ry h
  obtain ⟨a, o, rfl, dg, q⟩ := h
  cases ry
  exact d_in hu I dg rx fun s' I' => ⟨.bl _, H, I', rfl, q⟩
theorem op_ninDct {X : Cx} (hu : X.A.units + 1 < cLine) : OpR X (compareOp .NotIn) (rInDct true) := by
  intro pins s σ H x y v u Q I rx ry h
  obtain ⟨a, o, rfl, dg, q⟩ := h
  cases ry
  exact d_notIn hu I dg rx fun s' I' => ⟨.bl _, H, I', rfl, q⟩
def rInSg (neg : Bool) : R2 := fun x y H Q => ∃ (c : Nat) (z : Str), x = .str ⟨#[c]⟩ ∧ y = .str z ∧ Q (.bl (if neg then !decide (c ∈ z.cps.toList) else decide (c ∈ z.cps.toList))) H
def rInLs (K : PySem.W.Frag) (neg : Bool) : R2 := fun x y H Q => ∃ d ds, Dp K H x d ∧ Dp K H y (.list ds) ∧ SeqAt.shaped d = true ∧ SeqAt.shaped (.list ds) = true ∧ Q (.bl (if neg then !ds.any fun z => PyData.eqv z d else ds.any fun z => PyData.eqv z d)) H
def rInA (K : PySem.W.Frag) (neg : Bool) : R2 := fun x y H Q => rInSg neg x y H Q ∨ (rInLs K neg x y H Q ∨ (rIn K neg x y H Q ∨ rInDct neg x y H Q))
theorem op_inA {X : Cx} (hu : X.A.units + 65 < cLine) : OpR X (compareOp .In) (rInA X.K false) := OpR.or op_in_sign (OpR.or (op_inD hu) (OpR.or op_in_seq (op_inDct (by omega))))
theorem op_ninA {X : Cx} (hu : X.A.units + 65 < cLine) : OpR X (compareOp .NotIn) (rInA X.K true) := OpR.or op_notIn_sign (OpR.or (op_notInD hu) (OpR.or op_notIn_seq (op_ninDct (by omega))))
def flatD : D → Bool
  | .non => true
  | .int _ => true
  | .str _ => true
  | _ => false
def inB (a b : D) : Option Bool := match b with
  | .str s => (match a with | .str [c] => some (decide (c ∈ s)) | _ => none)
  | .lst l => if plain a = true ∧ plains l = true ∧ dep a ≤ 64 ∧ deps l ≤ 63 then some (decide (a ∈ l)) else none
  | .tup l => if flatD a = true ∧ l.all flatD = true then some (decide (a ∈ l)) else none
  | .dct l => if keyOk a = true then some (dget l a).isSome else none
  | _ => none
def fIn (a b : D) (k : Slot → Prop) : Prop := ob (inB a b) fun r => k (.fz (.bl r))
def fNin (a b : D) (k : Slot → Prop) : Prop := ob (inB a b) fun r => k (.fz (.bl !r))
theorem any_eqv {a : D} (ha : plain a = true) : ∀ {l : List D}, plains l = true → ((toPys l).any fun z => PyData.eqv z (toPy a)) = decide (a ∈ l)
  | [], _ => rfl
  | d :: l, h => by
    simp only [plains, Bool.and_eq_true] at h
    show (PyData.eqv (toPy d) (toPy a) || (toPys l).any _) = _
    rw [eqv_plain h.1 ha, any_eqv ha h.2]
    by_cases c : d = a
    · subst c; simp
    · have : ¬ a = d := fun z => c z.symm
      by_cases c' : a ∈ l <;> simp [c, c', this]
theorem flat_v {d : D} {v : V} (h : Rep g d v F) (hd : flatD d = true) : flatV v = true := by
  cases d with
  | non => cases h; rfl
  | int i => cases h; rfl
  | str s => cases h; rfl
  | _ => simp [flatD] at hd
theorem flats_v : ∀ {l : List D} {xs : List V}, Reps g l xs F → l.all flatD = true → xs.all flatV = true
  | [], _, h, _ => by cases h; rfl
  | d :: l, _, ⟨v, r, e, h1, h⟩, ok => by
    subst e
    simp only [List.all_cons, Bool.and_eq_true] at ok ⊢
    exact ⟨flat_v h1 ok.1, flats_v h ok.2⟩
theorem eqV_flat {d e : D} {v w : V} (h : Rep g d v F) (h' : Rep g e w F) (hd : flatD d = true) (he : flatD e = true) : eqV v w = decide (d = e) := by
  cases d <;> cases e <;> simp [flatD] at hd he <;> cases h <;> cases h' <;> simp [eqV]
  · rw [Bool.eq_iff_iff]; simp
  · rw [beq_mkS]
theorem inV_flat {a : D} {x : V} (ha : Rep g a x F) (fa : flatD a = true) : ∀ {l : List D} {xs : List V}, Reps g l xs F → l.all flatD = true → inV x xs = decide (a ∈ l)
  | [], _, h, _ => by cases h; rfl
  | d :: l, _, ⟨v, r, e, h1, h⟩, ok => by
    subst e
    simp only [List.all_cons, Bool.and_eq_true] at ok
    show (eqV v x || inV x r) = _
    rw [eqV_flat h1 ha ok.1 fa, inV_flat ha fa h ok.2]
    by_cases c : d = a
    · subst c; simp
    · have : ¬ a = d := fun z => c z.symm
      by_cases c' : a ∈ l <;> simp [c, c', this]
theorem in_cases {neg : Bool} {a b : D} {x y : V} {r : Bool} {Q : VK} (e : Ext F H) (rx : RepC g F H a x) (ry : RepC g F H b y) (h : inB a b = some r) (q : Q (.bl (if neg then !r else r)) H) : rInA g.K neg x y H Q := by
  unfold inB at h
  split at h
  · split at h
    · cases h
      have ex : x = .str (mkS _) := rx
      have ey : y = .str (mkS _) := ry
      subst ex ey
      refine .inl ⟨_, _, rfl, rfl, ?_⟩
      simpa [mkS] using q
    · cases h
  · rename_i l
    split at h
    · rename_i c
      cases h
      obtain ⟨p1, p2, d1, d2⟩ := c
      refine .inr (.inl ⟨toPy a, toPys l, rx.dp e p1, ry.dp (d := .lst l) e p2, shaped_of p1 d1, shaped_of (d := .lst l) p2 (by show deps l + 1 ≤ 64; omega), ?_⟩)
      rw [any_eqv p1 p2]
      exact q
    · cases h
  · rename_i l
    split at h
    · rename_i c
      cases h
      obtain ⟨p, xs, rfl, h1, h2⟩ := ry
      have rx' : Rep g a x F := by
        have := c.1
        cases a <;> first | exact rx | (simp [flatD] at this)
      refine .inr (.inr (.inl ⟨p, xs, rfl, .inr h1.sqT, flat_v rx' c.1, flats_v h2 c.2, ?_⟩))
      rw [inV_flat rx' c.1 h2 c.2]
      exact q
    · cases h
  · rename_i l
    split at h
    · rename_i hk
      cases h
      obtain ⟨p, kvs, rfl, h1, h2⟩ := ry
      have hkd : (∃ i, a = .int i) ∨ ∃ s, a = .str s := by
        cases a <;> simp [keyOk] at hk <;> simp
      obtain ⟨kk, e7, e8⟩ := key_of (g := g) (F := F) (by rcases hkd with ⟨_, rfl⟩ | ⟨_, rfl⟩ <;> exact rx) hkd
      subst e7 e8
      refine .inr (.inr (.inr ⟨p, valV kvs kk, rfl, .inl ⟨kvs, kk, h1, rfl, rfl⟩, ?_⟩))
      have : (valV kvs kk).isSome = (dget l (keyD kk)).isSome := by
        rcases h2.get kk with ⟨d', v, z1, z2, z3⟩ | ⟨z1, z2⟩ <;> rw [z1, z2] <;> rfl
      rw [this]
      exact q
    · cases h
  · cases h
theorem ov_in : OpV g (rInA g.K false) fIn := fun F H x y dx dy post Q e rx ry h q => by
  obtain ⟨r, er, h⟩ := ob_el h
  exact in_cases e rx ry er (q _ _ _ _ (.scal (d := .bl r) (v := .bl r) e rfl) h)
theorem ov_nin : OpV g (rInA g.K true) fNin := fun F H x y dx dy post Q e rx ry h q => by
  obtain ⟨r, er, h⟩ := ob_el h
  exact in_cases e rx ry er (q _ _ _ _ (.scal (d := .bl !r) (v := .bl !r) e rfl) h)
/-! ### is -/
def fIs (a b : D) (k : Slot → Prop) : Prop := match b with
  | .non => k (.fz (.bl (decide (a = .non))))
  | _ => False
def fIsNot (a b : D) (k : Slot → Prop) : Prop := match b with
  | .non => k (.fz (.bl (!decide (a = .non))))
  | _ => False
theorem non_iff {a : D} {x : V} (h : RepC g F H a x) : decide (x = V.non) = decide (a = D.non) := by
  cases a with
  | non => cases h; simp
  | bl b => cases h; simp
  | int b => cases h; simp
  | str b => cases h; simp
  | lst l => obtain ⟨_, _, rfl, _⟩ := h; simp
  | tup l => obtain ⟨_, _, rfl, _⟩ := h; simp
  | dct l => obtain ⟨_, _, rfl, _⟩ := h; simp
  | dcu l => obtain ⟨_, _, rfl, _⟩ := h; simp
  | web m n => obtain ⟨_, _, _, _, rfl, _⟩ := h; simp
theorem ov_is : OpV g (fun x y H Q => y = .non ∧ Q (.bl (decide (x = .non))) H) fIs := fun F H x y dx dy post Q e rx ry h q => by
  unfold fIs at h
  split at h
  · refine ⟨ry, ?_⟩
    rw [non_iff rx]
    exact q _ _ _ _ (.scal (d := .bl _) e rfl) h
  · exact h.elim
theorem ov_isn : OpV g (fun x y H Q => y = .non ∧ Q (.bl (!decide (x = .non))) H) fIsNot := fun F H x y dx dy post Q e rx ry h q => by
  unfold fIsNot at h
  split at h
  · refine ⟨ry, ?_⟩
    rw [non_iff rx]
    exact q _ _ _ _ (.scal (d := .bl _) e rfl) h
  · exact h.elim

/-! ### slices -/
abbrev DO := En → (Option Int → En → Prop) → Prop
def SndO (g : G) (to : TO) (dx : DO) : Prop := ∀ (B : Bs) (env ts : En) (σ vs : L2.St) (H : Hp) (k : Option Int → En → Prop) (Q : Option Int → Hp → Prop), σ.length = env.length → vs.length = ts.length → St g B env ts σ vs H → dx env k →
  (∀ o H' env', env'.length = env.length → St g B env' ts σ vs H' → k o env' → Q o H') → to σ H Q
def oNo : DO := fun env k => k none env
def oPart (a : DX) : DO := fun env k => a env fun t e1 => match rdS e1 t with
  | some (.int i) => k (some i) e1
  | _ => False
theorem snd_oNo : SndO g tNoPart oNo := fun B env ts σ vs H k Q hl hv S h q => q none H env rfl S h
theorem snd_oPart {te : TE} {a : DX} (h1 : SndX g te a) : SndO g (tPart te) (oPart a) := fun B env ts σ vs H k Q hl hv S h q => by
  refine h1 B env ts σ vs H _ _ hl hv S h fun v H1 t e1 l1 b1 S1 p => ?_
  split at p
  · rename_i i ei
    obtain ⟨nb, F, own, S1'⟩ := id S1
    have r := S1'.rdT (k := ts.length) (t := t) (v := v) (by omega) (by simp) (by simp [← hv]) (by rw [l1]; exact b1) ei
    have ev : v = .int i := r
    exact ⟨i, ev, q (some i) H1 e1 l1 (S1.drop (by omega) hv) p⟩
  · exact p.elim
def cutD {α : Type} (l : List α) (lo hi : Option Int) : List α := (l.drop (HT.sIx l.length 0 lo)).take (HT.sIx l.length l.length hi - HT.sIx l.length 0 lo)
def rSlLS (K : PySem.W.Frag) : V → Option Int → Option Int → Hp → VK → Prop := fun x lo hi H Q => rSlL K x lo hi H Q ∨ rSlS x lo hi H Q
theorem sl_ls {X : Cx} : SlR X (rSlLS X.K) := sl_list.or sl_str
def fSl (a : D) (lo hi : Option Int) (k : Slot → Prop) : Prop := match a with
  | .lst l => k (.ow (.lst (cutD l lo hi)))
  | .str s => s.length ≤ sizeLine ∧ k (.fz (.str (cutD s lo hi)))
  | _ => False
def xSl (a : DX) (lo hi : DO) : DX := fun env k => a env fun t e1 => lo e1 fun l e2 => hi e2 fun u e3 => ob (rdS e3 t) fun d => fSl d l u fun s => k s e3
theorem Reps.cut {l : List D} {xs : List V} (h : Reps g l xs F) (lo hi : Option Int) : Reps g (cutD l lo hi) (cutV xs lo hi) F := by
  unfold cutD cutV
  rw [h.len]
  exact (h.drop _).take _
theorem snd_sl {te : TE} {tl th : TO} {a : DX} {lo hi : DO} (h1 : SndX g te a) (h2 : SndO g tl lo) (h3 : SndO g th hi) : SndX g (tSl (rSlLS g.K) te tl th) (xSl a lo hi) := fun B env ts σ vs H k Q hl hv S h q => by
  refine h1 B env ts σ vs H _ _ hl hv S h fun v H1 t e1 l1 b1 S1 p => ?_
  refine h2 B e1 (ts ++ [t]) σ (vs ++ [some v]) H1 _ _ (by omega) (by simp [hv]) S1 p fun ol H2 e2 l2 S2 p => ?_
  refine h3 B e2 (ts ++ [t]) σ (vs ++ [some v]) H2 _ _ (by omega) (by simp [hv]) S2 p fun oh H3 e3 l3 S3 p => ?_
  obtain ⟨d, ed, p⟩ := ob_el p
  obtain ⟨nb, F, own, S3⟩ := S3
  have r := (S3.rdT (k := ts.length) (t := t) (v := v) (by omega) (by simp) (by simp [← hv]) (by rw [l3, l2, l1]; exact b1) ed).mono (.refl _) (nob_ext _ _)
  unfold fSl at p
  split at p
  · obtain ⟨a', xs, rfl, z1, z2⟩ := r
    exact .inl ⟨a', xs, rfl, z1, fun p' hp => q _ _ _ e3 (by omega) (by intro _ z; cases z) (S3.out (by omega) hv nb (.inl rfl) (.own (d := .lst _) S3.fh hp (z2.cut ol oh))) p⟩
  · rename_i s
    have ev : v = .str (mkS s) := r
    subst ev
    refine .inr ⟨mkS s, rfl, by rw [mkS_len]; exact p.1, ?_⟩
    have : cutS (mkS s) ol oh = mkS (cutD s ol oh) := by simp [cutS, cutD, mkS, Str.length]
    rw [this]
    exact q _ _ (.fz (.str _)) e3 (by omega) (by intro _ z; cases z) (S3.out (by omega) hv nb (.inl rfl) (.scal (d := .str (cutD s ol oh)) S3.fh rfl)) p.2
  · exact p.elim

/-! ### built-ins by values -/
def lenD : D → Option Nat
  | .lst l => some l.length
  | .tup l => some l.length
  | .dct l => some l.length
  | .str s => if s.length ≤ sizeLine then some s.length else none
  | _ => none
def rLenA (K : PySem.W.Frag) : List V → Hp → VK → Prop := fun xs H Q => (∃ x n, xs = [x] ∧ LenV K x H n ∧ Q (.int n) H) ∨ ∃ a kvs, xs = [.ref a] ∧ Rd H a (.dK kvs) ∧ Q (.int kvs.length) H
theorem call_lenRd {X : Cx} : CallR X (.builtin "len") (fun xs H Q => ∃ a kvs, xs = [V.ref a] ∧ Rd H a (.dK kvs) ∧ Q (.int kvs.length) H) := by
  intro pins s σ H xs us Q I r h
  obtain ⟨a, kvs, rfl, ha, q⟩ := h
  obtain ⟨u, rfl, ru⟩ := vals1 r
  cases ru
  rcases ha with ha | ⟨o, ha⟩
  · exact d_len I (.inl ha) fun t s' I' => ⟨.int kvs.length, H, I', ⟨t, rfl⟩, q⟩
  · exact d_len I (.inr ⟨o, ha⟩) fun t s' I' => ⟨.int kvs.length, H, I', ⟨t, rfl⟩, q⟩
theorem call_lenA {X : Cx} : CallR X (.builtin "len") (rLenA X.K) := CallR.or call_len call_lenRd
def fLen (ds : List D) (k : Slot → Prop) : Prop := match ds with
  | [d] => ob (lenD d) fun n => k (.fz (.int (n : Nat)))
  | _ => False
theorem cv_len : CallV g (rLenA g.K) fLen := fun F H xs ds post Q e r h q => by
  unfold fLen at h
  split at h
  · rename_i d
    obtain ⟨n, en, h⟩ := ob_el h
    obtain ⟨x, r', ex, r1, er⟩ := r
    have er : r' = [] := er
    subst ex er
    have z := q _ _ _ _ (.scal (d := .int (n : Nat)) (v := .int (n : Nat)) e rfl) h
    cases d with
    | lst l =>
      cases en
      obtain ⟨a, vs, rfl, h1, h2⟩ := r1
      exact .inl ⟨_, _, rfl, .inl ⟨vs, h1, h2.len.symm⟩, z⟩
    | tup l =>
      cases en
      obtain ⟨a, vs, rfl, h1, h2⟩ := r1
      exact .inl ⟨_, _, rfl, .inr ⟨vs, h1.sqT, h2.len.symm⟩, z⟩
    | dct l =>
      cases en
      obtain ⟨a, kvs, rfl, h1, h2⟩ := r1
      exact .inr ⟨a, kvs, rfl, h1, by rw [h2.len]; exact z⟩
    | str s =>
      have en : (if s.length ≤ sizeLine then some s.length else none) = some n := en
      split at en
      · cases en
        have ex : x = .str (mkS s) := r1
        subst ex
        rename_i hz
        exact .inl ⟨_, _, rfl, ⟨by rw [mkS_len]; exact hz, (mkS_len s).symm⟩, z⟩
      · cases en
    | _ => cases en
  · exact h.elim
/-- list(x), x a list, a tuple, a dict (its keys) -/
def rListA (K : PySem.W.Frag) : List V → Hp → VK → Prop := fun xs H Q => (∃ p ys, xs = [.ref p] ∧ (SqL K H p ys ∨ SqT K H p ys) ∧ ∀ l, H l = none → Q (.ref l) (upd H l (.lst ys))) ∨ ∃ (a : Addr) (kvs : List (Key × V)), xs = [.ref a] ∧ Rd H a (.dK kvs) ∧ ∀ p, H p = none → Q (.ref p) (upd H p (.lst (kvs.map fun kv => kV kv.1)))
theorem call_listA {X : Cx} (hc : X.calm = true) : CallR X (.type "list") (rListA X.K) := CallR.or call_list_of (call_listD hc)
def listD : D → Option (List D)
  | .lst l => some l
  | .tup l => some l
  | .dct l => some (l.map (·.1))
  | _ => none
def fList (ds : List D) (k : Slot → Prop) : Prop := match ds with
  | [d] => ob (listD d) fun l => k (.ow (.lst l))
  | _ => False
theorem RepK.keys : ∀ {l : List (D × D)} {kvs : List (Key × V)}, RepK g l kvs F → Reps g (l.map (·.1)) (kvs.map fun kv => kV kv.1) F
  | [], _, h => by cases h; rfl
  | (k, d) :: l, _, ⟨q, v, r, e, ek, h1, h⟩ => by subst e ek; exact ⟨_, _, rfl, rep_key q, h.keys⟩
theorem cv_list : CallV g (rListA g.K) fList := fun F H xs ds post Q e r h q => by
  unfold fList at h
  split at h
  · rename_i d
    obtain ⟨l, el, h⟩ := ob_el h
    obtain ⟨x, r', ex, r1, er⟩ := r
    have er : r' = [] := er
    subst ex er
    cases d with
    | lst m =>
      cases el
      obtain ⟨a, vs, rfl, h1, h2⟩ := r1
      exact .inl ⟨a, vs, rfl, .inl h1, fun p hp => q _ _ _ _ (.own (d := .lst _) e hp h2) h⟩
    | tup m =>
      cases el
      obtain ⟨a, vs, rfl, h1, h2⟩ := r1
      exact .inl ⟨a, vs, rfl, .inr h1.sqT, fun p hp => q _ _ _ _ (.own (d := .lst _) e hp h2) h⟩
    | dct m =>
      cases el
      obtain ⟨a, kvs, rfl, h1, h2⟩ := r1
      exact .inr ⟨a, kvs, rfl, h1, fun p hp => q _ _ _ _ (.own (d := .lst _) e hp h2.keys) h⟩
    | _ => cases el
  · exact h.elim
/-- list(range(..)) -/
def SndR (g : G) (tr : L2.St → Hp → (Int → Int → Hp → Prop) → Prop) (dr : En → (Int → Int → En → Prop) → Prop) : Prop := ∀ (B : Bs) (env ts : En) (σ vs : L2.St) (H : Hp) (k : Int → Int → En → Prop) (Q : Int → Int → Hp → Prop), σ.length = env.length → vs.length = ts.length → St g B env ts σ vs H → dr env k →
  (∀ a b H' env', env'.length = env.length → St g B env' ts σ vs H' → k a b env' → Q a b H') → tr σ H Q
def rg1 (a : DX) : En → (Int → Int → En → Prop) → Prop := fun env k => a env fun t e1 => match rdS e1 t with
  | some (.int n) => k 0 n e1
  | _ => False
theorem snd_rg1 {te : TE} {a : DX} (h1 : SndX g te a) : SndR g (tRg1 te) (rg1 a) := fun B env ts σ vs H k Q hl hv S h q => by
  refine h1 B env ts σ vs H _ _ hl hv S h fun v H1 t e1 l1 b1 S1 p => ?_
  split at p
  · rename_i i ei
    obtain ⟨nb, F, own, S1'⟩ := id S1
    have r := S1'.rdT (k := ts.length) (t := t) (v := v) (by omega) (by simp) (by simp [← hv]) (by rw [l1]; exact b1) ei
    have ev : v = .int i := r
    exact ⟨i, ev, q 0 i H1 e1 l1 (S1.drop (by omega) hv) p⟩
  · exact p.elim
def xListRg (r : En → (Int → Int → En → Prop) → Prop) : DX := fun env k => r env fun a b e1 => RgOk a b ∧ k (.ow (.lst (rngD a (b - a).toNat))) e1
theorem snd_listRg {tr : L2.St → Hp → (Int → Int → Hp → Prop) → Prop} {dr : En → (Int → Int → En → Prop) → Prop} (h1 : SndR g tr dr) : SndX g (tLstRg tr) (xListRg dr) := fun B env ts σ vs H k Q hl hv S h q => by
  refine h1 B env ts σ vs H _ _ hl hv S h fun a b H1 e1 l1 S1 p => ?_
  obtain ⟨ok, p⟩ := p
  refine ⟨ok, fun p' hp => ?_⟩
  obtain ⟨nb, F, own, S1⟩ := S1
  have S1' : StF g B F own (e1 ++ (ts ++ [])) (σ ++ (vs ++ [])) H1 := by simpa using S1
  have hr : Reps g (rngD a (b - a).toNat) (rgV a b) F := by
    have : rngD a (b - a).toNat = ((List.range (b - a).toNat).map fun i => a + (i : Nat)).map D.int := by simp [rngD]
    rw [this, Reps.ints]
    simp [rgV]
  exact q _ _ (.ow (.lst _)) e1 l1 (by intro _ z; cases z) (S1'.out (by omega) hv nb (.inl rfl) (.own (d := .lst _) S1.fh hp hr)) p
/-- int(x) -/
def fInt (ds : List D) (k : Slot → Prop) : Prop := match ds with
  | [.int i] => k (.fz (.int i))
  | [.bl b] => k (.fz (.int (if b then 1 else 0)))
  | _ => False
theorem cv_int : CallV g (fun xs H Q => (∃ i, xs = [.int i] ∧ Q (.int i) H) ∨ ∃ k, xs = [.bl k] ∧ Q (.int (if k then 1 else 0)) H) fInt := fun F H xs ds post Q e r h q => by
  unfold fInt at h
  split at h
  · obtain ⟨x, r', ex, r1, er⟩ := r
    have er : r' = [] := er
    have ev : x = .int _ := r1
    subst ex er ev
    exact .inl ⟨_, rfl, q _ _ _ _ (.scal (d := .int _) e rfl) h⟩
  · obtain ⟨x, r', ex, r1, er⟩ := r
    have er : r' = [] := er
    have ev : x = .bl _ := r1
    subst ex er ev
    exact .inr ⟨_, rfl, q _ _ _ _ (.scal (d := .int _) e rfl) h⟩
  · exact h.elim
/-- min, max of two ints -/
def fTwo (f : Int → Int → Int) (ds : List D) (k : Slot → Prop) : Prop := match ds with
  | [.int i, .int j] => k (.fz (.int (f i j)))
  | _ => False
theorem cv_two {f : Int → Int → Int} : CallV g (fun xs H Q => ∃ i j, xs = [.int i, .int j] ∧ Q (.int (f i j)) H) (fTwo f) := fun F H xs ds post Q e r h q => by
  unfold fTwo at h
  split at h
  · obtain ⟨x, r', ex, r1, y, r'', ey, r2, er⟩ := r
    have er : r'' = [] := er
    have ev : x = .int _ := r1
    have ew : y = .int _ := r2
    subst ex ey er ev ew
    exact ⟨_, _, rfl, q _ _ _ _ (.scal (d := .int _) e rfl) h⟩
  · exact h.elim
abbrev fMin2 : List D → (Slot → Prop) → Prop := fTwo fun i j => if j < i then j else i
abbrev fMax2 : List D → (Slot → Prop) → Prop := fTwo fun i j => if j > i then j else i
def intsOf : List D → Option (List Int)
  | [] => some []
  | .int i :: l => (intsOf l).map (i :: ·)
  | _ :: _ => none
theorem intsOf_eq : ∀ {l : List D} {ns : List Int}, intsOf l = some ns → l = ns.map D.int
  | [], ns, h => by cases h; rfl
  | .int i :: l, ns, h => by
    have h : (intsOf l).map (i :: ·) = some ns := h
    cases e : intsOf l with
    | none => rw [e] at h; cases h
    | some m => rw [e] at h; cases h; rw [intsOf_eq e]; rfl
  | .non :: _, _, h => by cases h
  | .bl _ :: _, _, h => by cases h
  | .str _ :: _, _, h => by cases h
  | .lst _ :: _, _, h => by cases h
  | .tup _ :: _, _, h => by cases h
  | .dct _ :: _, _, h => by cases h
  | .dcu _ :: _, _, h => by cases h
  | .web _ _ :: _, _, h => by cases h
theorem intsOf_map : ∀ (ns : List Int), intsOf (ns.map D.int) = some ns
  | [] => rfl
  | n :: ns => by show (intsOf (ns.map D.int)).map (n :: ·) = _; rw [intsOf_map ns]; rfl
def strsOf : List D → Option (List (List Nat))
  | [] => some []
  | .str i :: l => (strsOf l).map (i :: ·)
  | _ :: _ => none
theorem strsOf_eq : ∀ {l : List D} {ns : List (List Nat)}, strsOf l = some ns → l = ns.map D.str
  | [], ns, h => by cases h; rfl
  | .str i :: l, ns, h => by
    have h : (strsOf l).map (i :: ·) = some ns := h
    cases e : strsOf l with
    | none => rw [e] at h; cases h
    | some m => rw [e] at h; cases h; rw [strsOf_eq e]; rfl
  | .non :: _, _, h => by cases h
  | .bl _ :: _, _, h => by cases h
  | .int _ :: _, _, h => by cases h
  | .lst _ :: _, _, h => by cases h
  | .tup _ :: _, _, h => by cases h
  | .dct _ :: _, _, h => by cases h
  | .dcu _ :: _, _, h => by cases h
  | .web _ _ :: _, _, h => by cases h
theorem strsOf_map : ∀ (ns : List (List Nat)), strsOf (ns.map D.str) = some ns
  | [] => rfl
  | n :: ns => by show (strsOf (ns.map D.str)).map (n :: ·) = _; rw [strsOf_map ns]; rfl
def blsOf : List D → Option (List Bool)
  | [] => some []
  | .bl i :: l => (blsOf l).map (i :: ·)
  | _ :: _ => none
theorem blsOf_eq : ∀ {l : List D} {ns : List Bool}, blsOf l = some ns → l = ns.map D.bl
  | [], ns, h => by cases h; rfl
  | .bl i :: l, ns, h => by
    have h : (blsOf l).map (i :: ·) = some ns := h
    cases e : blsOf l with
    | none => rw [e] at h; cases h
    | some m => rw [e] at h; cases h; rw [blsOf_eq e]; rfl
  | .non :: _, _, h => by cases h
  | .str _ :: _, _, h => by cases h
  | .int _ :: _, _, h => by cases h
  | .lst _ :: _, _, h => by cases h
  | .tup _ :: _, _, h => by cases h
  | .dct _ :: _, _, h => by cases h
  | .dcu _ :: _, _, h => by cases h
  | .web _ _ :: _, _, h => by cases h
theorem blsOf_map : ∀ (ns : List Bool), blsOf (ns.map D.bl) = some ns
  | [] => rfl
  | n :: ns => by show (blsOf (ns.map D.bl)).map (n :: ·) = _; rw [blsOf_map ns]; rfl
/-- sum of ints; any, all of truth values: of a list -/
def fSum (ds : List D) (k : Slot → Prop) : Prop := match ds with
  | [.lst l] => ob (intsOf l) fun ns => k (.fz (.int ns.sum))
  | _ => False
theorem cv_sum : CallV g (rSum g.K) fSum := fun F H xs ds post Q e r h q => by
  unfold fSum at h
  split at h
  · obtain ⟨ns, en, h⟩ := ob_el h
    obtain ⟨x, r', ex, r1, er⟩ := r
    have er : r' = [] := er
    subst ex er
    obtain ⟨a, vs, rfl, h1, h2⟩ := r1
    rw [intsOf_eq en, Reps.ints] at h2
    subst h2
    exact ⟨a, ns, rfl, h1, q _ _ _ _ (.scal (d := .int _) e rfl) h⟩
  · exact h.elim
def fAny (ds : List D) (k : Slot → Prop) : Prop := match ds with
  | [.lst l] => ob (blsOf l) fun ns => k (.fz (.bl (ns.any id)))
  | _ => False
def fAll (ds : List D) (k : Slot → Prop) : Prop := match ds with
  | [.lst l] => ob (blsOf l) fun ns => k (.fz (.bl (ns.all id)))
  | _ => False
theorem cv_any : CallV g (rAny g.K) fAny := fun F H xs ds post Q e r h q => by
  unfold fAny at h
  split at h
  · obtain ⟨ns, en, h⟩ := ob_el h
    obtain ⟨x, r', ex, r1, er⟩ := r
    have er : r' = [] := er
    subst ex er
    obtain ⟨a, vs, rfl, h1, h2⟩ := r1
    rw [blsOf_eq en, Reps.bls] at h2
    subst h2
    exact ⟨a, ns, rfl, h1, q _ _ _ _ (.scal (d := .bl _) e rfl) h⟩
  · exact h.elim
theorem cv_all : CallV g (rAll g.K) fAll := fun F H xs ds post Q e r h q => by
  unfold fAll at h
  split at h
  · obtain ⟨ns, en, h⟩ := ob_el h
    obtain ⟨x, r', ex, r1, er⟩ := r
    have er : r' = [] := er
    subst ex er
    obtain ⟨a, vs, rfl, h1, h2⟩ := r1
    rw [blsOf_eq en, Reps.bls] at h2
    subst h2
    exact ⟨a, ns, rfl, h1, q _ _ _ _ (.scal (d := .bl _) e rfl) h⟩
  · exact h.elim
/-- tuple(x) -/
def fTuple (ds : List D) (k : Slot → Prop) : Prop := match ds with
  | [.lst l] => k (.fz (.tup l))
  | _ => False
theorem cv_tuple : CallV g (fun xs H Q => ∃ p ys, xs = [.ref p] ∧ ((SqL g.K H p ys ∧ ∀ l, H l = none → Q (.ref l) (upd H l (.tup ys))) ∨ (SqT g.K H p ys ∧ Q (.ref p) H))) fTuple := fun F H xs ds post Q e r h q => by
  unfold fTuple at h
  split at h
  · obtain ⟨x, r', ex, r1, er⟩ := r
    have er : r' = [] := er
    subst ex er
    obtain ⟨a, vs, rfl, h1, h2⟩ := r1
    exact ⟨a, vs, rfl, .inl ⟨h1, fun p hp => q _ _ _ _ (.tup e hp h2) h⟩⟩
  · exact h.elim
end
end DL
set_option maxRecDepth 100000
set_option maxHeartbeats 4000000
namespace DL
open PySem PySem.Spec PyProof.Rows L2
/-! ### sets of keys: what is in them, put in, walked -/
def keyQ (e : Int × Value) : Key := match e.2 with
  | .int k _ => .inl k
  | .str x _ => .inr x
  | _ => .inl 0
def GoodQ (w : World) (e : Int × Value) : Prop := ∃ k, keyIs k e.2 = true ∧ e.1 = keyH w k
theorem scan_key {k : Key} {v : Value} (h : keyIs k v = true) : v.scannable = true := by
  rcases keyIs_shape h with ⟨i, t, rfl, rfl⟩ | ⟨x, t, rfl, rfl⟩ <;> rfl
def memQ (ks : List Key) (j : Key) : Bool := ks.any fun z => decide (z = j)
theorem memQ_iff {ks : List Key} {j : Key} : memQ ks j = true ↔ j ∈ ks := by
  unfold memQ
  rw [List.any_eq_true]
  constructor
  · rintro ⟨z, h, e⟩
    exact of_decide_eq_true e ▸ h
  · exact fun h => ⟨j, h, decide_eq_true rfl⟩
theorem memQ_nil (j : Key) : memQ [] j = false := rfl
theorem memQ_app (ks : List Key) (z j : Key) : (memQ ks j || decide (j = z)) = memQ (ks ++ [z]) j := by
  rw [Bool.eq_iff_iff, memQ_iff, Bool.or_eq_true, memQ_iff, List.mem_append, List.mem_singleton, decide_eq_true_eq]
theorem keyQ_of {k : Key} {e : Int × Value} (h : keyIs k e.2 = true) : keyQ e = k := by
  obtain ⟨n, v⟩ := e
  rcases keyIs_shape h with ⟨i, t, rfl, e⟩ | ⟨x, t, rfl, e⟩
  · have e : v = _ := e
    subst e; rfl
  · have e : v = _ := e
    subst e; rfl

def SetQ (w : World) (h : Heap) (a : Addr) (S : Key → Bool) (n : Nat) : Prop :=
  ∃ o es ep t, h.get? a = some o ∧ o.ExactSet ∧ o.data = .set es ep t ∧ (∀ e ∈ es.toList, GoodQ w e) ∧ (es.toList.map keyQ).Nodup ∧ (∀ k, S k = true ↔ k ∈ es.toList.map keyQ) ∧
    es.size < scanBound ∧ t.fits es.size = true ∧ es.size = n ∧ Ris t.place.toList ∧ (w.params.followText "set-order" = true ∨ t.led = true)

section
variable {P : Program} {w : World} {h h' : Heap} {a : Addr} {S : Key → Bool} {n : Nat}

theorem SetQ.at (R : SetQ w h a S n) (k : ∀ o, h.get? a = some o → h'.get? a = some o) : SetQ w h' a S n := by
  obtain ⟨o, es, ep, t, ho, r⟩ := R
  exact ⟨o, es, ep, t, k o ho, r⟩
theorem SetQ.lt (R : SetQ w h a S n) : a < h.objs.size := by
  obtain ⟨o, es, ep, t, ho, r⟩ := R
  exact Heap.lt_size ho
theorem SetQ.congr {S' : Key → Bool} (R : SetQ w h a S n) (e : ∀ k, S' k = S k) : SetQ w h a S' n := by
  have q : S' = S := funext e
  rw [q]; exact R
theorem goodQ_elems {l : List (Int × Value)} (g : ∀ e ∈ l, GoodQ w e) : ElemsOf (mixKind P w) l := fun e he => by
  obtain ⟨k, h1, h2⟩ := g e he
  exact ⟨⟨k, h1, h2⟩, scan_key h1⟩
theorem goodQ_is {e : Int × Value} (g : GoodQ w e) (k : Key) : (mixKind P w).is k e.2 = true ↔ keyQ e = k := by
  obtain ⟨k0, h1, _⟩ := g
  rw [keyQ_of h1]
  exact ⟨fun h => (mixKind P w).inj _ _ _ h1 h, fun h => h ▸ h1⟩
theorem goodQ_mem {l : List (Int × Value)} (g : ∀ e ∈ l, GoodQ w e) (k : Key) : k ∈ l.map keyQ ↔ ∃ e ∈ l, (mixKind P w).is k e.2 = true := by
  rw [List.mem_map]
  constructor
  · rintro ⟨e, he, q⟩
    exact ⟨e, he, (goodQ_is (g e he) k).2 q⟩
  · rintro ⟨e, he, q⟩
    exact ⟨e, he, (goodQ_is (g e he) k).1 q⟩
theorem SetQ.setOf (R : SetQ w h a S n) : h.SetOf (mixKind P w) a S n := by
  obtain ⟨o, es, ep, t, ho, hx, hd, g, nd, hm, hb, hf, hn, _⟩ := R
  exact ⟨o, es, ep, t, ho, hx, hd, goodQ_elems g, fun k => (hm k).trans (goodQ_mem g k), hb, hf, hn⟩
end

section
variable {P : Program} {w : World} {A : Around} {E : Value → Shared → Prop} {s : Shared} {a : Addr} {S : Key → Bool} {n : Nat}

/-! ### add -/
theorem store_atQ {h : Heap} {a : Addr} {o : Obj} {es es' : Array (Int × Value)} {ep : Nat} {t t' : SetTable} (ho : h.get? a = some o) (hd : o.data = .set es ep t) :
    (h.update a (Obj.putSet es' t')).get? a = some { o with data := .set es' (ep + 1) t' } := by
  have q := Heap.get?_update_self (Obj.putSet es' t') ho (by rw [putSet_of es' t' hd]; rfl)
  rw [putSet_of es' t' hd] at q
  exact q

theorem setQ_add_tail {g : Bool → Sem Unit} (hg : ∀ (b : Bool) (s₁ : Shared) (Q' : Unit → Shared → Prop), Q' () s₁ → wpAny (model P w) A (g b) Q' E s₁)
    {o : Obj} {es : Array (Int × Value)} {ep : Nat} {t : SetTable} (ho : s.heap.get? a = some o) (hex : o.ExactSet) (hd : o.data = .set es ep t)
    {es1 : Array (Int × Value)} {t2 : SetTable} {S' : Key → Bool} (g1 : ∀ e ∈ es1.toList, GoodQ w e) (nd1 : (es1.toList.map keyQ).Nodup) (m1 : ∀ k, S' k = true ↔ k ∈ es1.toList.map keyQ)
    (hb1 : es1.size < scanBound) (hf2 : t2.fits es1.size = true) (hr : Ris t2.place.toList) (hl : w.params.followText "set-order" = true ∨ t2.led = true) {wasDummy : Bool} {R : Option Bool → Shared → Prop}
    (hR : ∀ h', Heap.SameBut a s.heap h' → SetQ w h' a S' es1.size → R (some true) { s with heap := h' }) :
    wpAny (model P w) A (do
        storeSet a es1 t2
        if (!wasDummy && t2.tooFull) = true then do
            g (relayAll t2 es1 (SetTable.grown es1.size)).2.2
            storeSet a (relayAll t2 es1 (SetTable.grown es1.size)).1 (relayAll t2 es1 (SetTable.grown es1.size)).2.1
            pure (some true)
          else pure (some true)) R E s := by
  refine wpAny_bind (wpAny_storeSet_of ho hd ?_ (fits_of_scanBound hb1))
  have ho1 := store_atQ (es' := es1) (t' := t2) ho hd
  have sb1 := Heap.SameBut.update s.heap a (Obj.putSet es1 t2)
  split
  · have pm := relayAll_perm t2 es1 (SetTable.grown es1.size)
    have hf3 := relayAll_fits t2 es1 (SetTable.grown es1.size)
    have hr3 := relayAll_ris t2 es1 (SetTable.grown es1.size)
    have hl3 := relayAll_led t2 es1 (SetTable.grown es1.size)
    generalize relayAll t2 es1 (SetTable.grown es1.size) = Z at pm hf3 hr3 hl3 ⊢
    obtain ⟨es2, t3, gave⟩ := Z
    dsimp only at pm hf3 hr3 hl3 ⊢
    have hsz : es2.size = es1.size := by rw [← Array.length_toList, pm.length_eq, Array.length_toList]
    have hb2 : es2.size < scanBound := by rw [hsz]; exact hb1
    refine wpAny_bind (hg _ _ _ ?_)
    refine wpAny_bind (wpAny_storeSet_of ho1 rfl ?_ (fits_of_scanBound hb2))
    have ho2 := store_atQ (es' := es2) (t' := t3) ho1 rfl
    refine wpAny_pure (hR _ (sb1.trans (Heap.SameBut.update _ a _)) ?_)
    exact ⟨_, es2, _, t3, ho2, hex, rfl, fun e he => g1 e (pm.mem_iff.mp he), (pm.map keyQ).nodup_iff.mpr nd1, fun k => (m1 k).trans (pm.map keyQ).mem_iff.symm, hb2, hf3, hsz, hr3,
      hl.imp id fun z => by rw [hl3]; exact z⟩
  · exact wpAny_pure (hR _ sb1 ⟨_, es1, _, t2, ho1, hex, rfl, g1, nd1, m1, hb1, hf2, rfl, hr, hl⟩)

theorem setQ_add_hashed {k : Key} {v : Value} {Q : Bool → Shared → Prop} (hkv : keyIs k v = true) (R : SetQ w s.heap a S n) (room : n + 1 < scanBound)
    (hQ : ∀ h', Heap.SameBut a s.heap h' → SetQ w h' a (fun j => S j || decide (j = k)) (if S k = true then n else n + 1) → Q (!S k) { s with heap := h' }) :
    wpAny (model P w) A (setAddHashed a v ((mixKind P w).hash k)) Q E s := by
  obtain ⟨o, es, ep, t, ho, hex, hd, g, nd, hm, hb, hf, hn, hr, hl⟩ := R
  have hkey : (mixKind P w).is k v = true := hkv
  have hsc : v.scannable = true := scan_key hkv
  have hel : ElemsOf (mixKind P w) es.toList := goodQ_elems g
  unfold setAddHashed setAddHashedIn
  refine wpAny_holding (wpAny_bind (wpAny_setState_of ho hd hf ?_))
  dsimp only
  rw [byScan_of hsc hb hel]
  simp only [↓reduceIte]
  unfold setAddByScan
  refine wpAny_bind ?_
  refine wpAny_bind (wpAny_rule ?_)
  refine wpAny_bind (wpAny_setScan_of hkey ho hd hf hel ?_)
  cases hfi : List.findIdx? (fun e => (mixKind P w).is k e.2) es.toList with
  | some j =>
    dsimp only
    obtain ⟨hj, pj, _⟩ := List.findIdx?_eq_some_iff_getElem.mp hfi
    have hSk : S k = true := (hm k).2 ((goodQ_mem (P := P) (w := w) g k).2 ⟨es.toList[j], List.getElem_mem hj, pj⟩)
    refine wpAny_pure (wpAny_pure ?_)
    have q := hQ s.heap (Heap.SameBut.refl a s.heap) ⟨o, es, ep, t, ho, hex, hd, g, nd, fun i => by
      rw [Bool.or_eq_true, decide_eq_true_eq, ← hm i]
      exact ⟨fun z => z.elim id (fun e => e ▸ hSk), .inl⟩, hb, hf, by rw [if_pos hSk]; exact hn, hr, hl⟩
    rw [hSk] at q
    exact q
  | none =>
    dsimp only
    have hnk : k ∉ es.toList.map keyQ := fun z => by
      obtain ⟨e, he, q⟩ := (goodQ_mem (P := P) (w := w) g k).1 z
      have c := List.findIdx?_eq_none_iff.mp hfi e he
      rw [q] at c
      cases c
    have hSk : S k = false := by
      cases q : S k with
      | false => rfl
      | true => exact absurd ((hm k).1 q) hnk
    have hgw : ∀ (b : Bool) {s₁ : Shared} {Q' : Unit → Shared → Prop}, Q' () s₁ → wpAny (model P w) A (match b with | true => rule "set.scan.the-table-gave-way" | false => pure ()) Q' E s₁ :=
      fun b s₁ Q' q => by cases b <;> first | exact wpAny_pure q | exact wpAny_rule q
    have pm := layNew_perm t es ((mixKind P w).hash k) v
    have hf1 := layNew_fits t es ((mixKind P w).hash k) v
    have hr1 := layNew_ris t es ((mixKind P w).hash k) v hr
    have hl1 := layNew_led t es ((mixKind P w).hash k) v
    generalize layNew t es ((mixKind P w).hash k) v = Z at pm hf1 hr1 hl1 ⊢
    obtain ⟨es1, t1, wasDummy, gave⟩ := Z
    dsimp only at pm hf1 hr1 hl1 ⊢
    rw [Array.toList_push] at pm
    have pc : es1.toList.Perm (((mixKind P w).hash k, v) :: es.toList) := pm.trans (List.perm_append_singleton _ _)
    have pk : (es1.toList.map keyQ).Perm (k :: es.toList.map keyQ) := by
      have q := pc.map keyQ
      rw [List.map_cons, keyQ_of (e := (((mixKind P w).hash k, v) : Int × Value)) hkv] at q
      exact q
    have g1 : ∀ e ∈ es1.toList, GoodQ w e := fun e he => by
      rcases List.mem_cons.mp (pc.mem_iff.mp he) with z | z
      · rw [z]; exact ⟨k, hkv, rfl⟩
      · exact g e z
    have nd1 : (es1.toList.map keyQ).Nodup := pk.nodup_iff.mpr (List.nodup_cons.mpr ⟨hnk, nd⟩)
    have m1 : ∀ i, (S i || decide (i = k)) = true ↔ i ∈ es1.toList.map keyQ := fun i => by
      rw [Bool.or_eq_true, decide_eq_true_eq, hm i, pk.mem_iff, List.mem_cons]
      exact Or.comm
    have hsz : es1.size = n + 1 := by rw [← Array.length_toList, pc.length_eq, List.length_cons, Array.length_toList, hn]
    have hb1 : es1.size < scanBound := by rw [hsz]; exact room
    have hled : w.params.followText "set-order" = true ∨ t1.led = true := hl.imp id fun z => by rw [hl1]; exact z
    have fin : ∀ h', Heap.SameBut a s.heap h' → SetQ w h' a (fun j => S j || decide (j = k)) es1.size → Q true { s with heap := h' } := fun h' sb r => by
      have q := hQ h' sb
      rw [hSk] at q
      rw [hsz] at r
      exact q r
    refine wpAny_bind (hgw _ ?_)
    split
    · refine wpAny_bind ?_
      rw [hashByValue_scannable 8 hsc]
      refine wpAny_pure ?_
      refine setQ_add_tail ?_ ho hex hd g1 nd1 m1 hb1 ?_ ?_ ?_ ?_
      · intro b s₁ Q' q; cases b <;> first | exact wpAny_pure q | exact wpAny_rule q
      · first | (split <;> first | exact hf1 | exact SetTable.fits_plain_off hf1) | exact hf1
      · first | (split <;> exact hr1) | exact hr1
      · first | (split <;> exact hled) | exact hled
      · intro h' sb r; dsimp only; exact wpAny_pure (fin h' sb r)
    · refine wpAny_bind (wpAny_pure ?_)
      simp only [↓reduceIte]
      refine setQ_add_tail ?_ ho hex hd g1 nd1 m1 hb1 hf1 hr1 hled ?_
      · intro b s₁ Q' q; cases b <;> first | exact wpAny_pure q | exact wpAny_rule q
      · intro h' sb r; dsimp only; exact wpAny_pure (fin h' sb r)

end
theorem setQ_new_at {w : World} {h : Heap} {a : Addr} {ns : List Key} (ho : h.get? a = some { cls := .type "set", dict := none, data := .set #[] 0 (.fresh 0 0 (!w.params.followText "set-order")) }) : SetQ w h a (memQ (ns.take 0)) 0 :=
  ⟨_, #[], 0, _, ho, ⟨rfl, rfl, rfl⟩, rfl, (fun e he => by simp at he), (by simp), (fun k => by simp [memQ_nil]), (by decide), (by rfl), rfl, List.Pairwise.nil, by
    show _ ∨ (!w.params.followText "set-order") = true
    cases w.params.followText "set-order"
    · exact .inr rfl
    · exact .inl rfl⟩
section
variable {P : Program} {w : World} {A : Around} {E : Value → Shared → Prop} {s : Shared}
theorem set_update_keys {I : Addr} {fp wr : List Addr} {G : Array GenState → Array GenState → Prop} {n : Nat} {Pv : Nat → Value → Prop} {St : Nat → Shared → Prop} {R : Result → Shared → Prop}
    (W : WalksS P w A.in1 I fp wr G n Pv St) (S : Addr) (hSf : S ∉ fp) (ns : List Key) (hn : n = ns.length) (hb : ns.length + 1 < scanBound) (hval : ∀ i v, Pv i v → ∃ k, ns[i]? = some k ∧ keyIs k v = true) :
    ∀ (k i : Nat) (s : Shared), n - i = k → i ≤ n → St i s → (∃ c, c ≤ i ∧ SetQ w s.heap S (memQ (ns.take i)) c) →
      (∀ s' c, Moved (S :: wr) G s s' → c ≤ n → SetQ w s'.heap S (memQ (ns)) c → R (.ok (.ret .none)) s') →
      codeAny (model P w) A (.builtin "set.update.loop" ⟨[.ref S, .ref I], []⟩) R s := by
  have hSw : S ∉ wr := fun h => hSf (W.sub _ h)
  have hsub : ∀ b ∈ wr, b ∈ S :: wr := fun b hb => List.mem_cons_of_mem _ hb
  intro k
  induction k with
  | zero =>
    intro i s hk' hi hst ⟨c, hc, hS⟩ hR
    have hin : i = n := by omega
    subst hin
    refine codeAny_builtin F.entry_set_update_loop ?_
    rw [Around.under_plainId F.plain_set_update_loop _]
    show wpAny _ A.in1 (pyNext (.ref I) >>= _) _ _ s
    refine wpAny_bind (W.done s _ _ hst fun s' hm => ?_)
    show wpAny _ A.in1 (ret Value.none) _ _ s'
    have e : ns.take i = ns := List.take_of_length_le (by omega)
    rw [e] at hS
    exact wpAny_pure (hR s' c (hm.mono hsub) hc (hS.at fun o e => hm.heap S o hSw e))
  | succ k ih =>
    intro i s hk' hi hst ⟨c, hc, hS⟩ hR
    have hlt : i < n := by omega
    refine codeAny_builtin F.entry_set_update_loop ?_
    rw [Around.under_plainId F.plain_set_update_loop _]
    show wpAny _ A.in1 (pyNext (.ref I) >>= _) _ _ s
    refine wpAny_bind (W.item i s _ _ hlt hst fun v s' hP hst' hm => ?_)
    obtain ⟨z, hz, hkv⟩ := hval i v hP
    have hS' : SetQ w s'.heap S (memQ (ns.take i)) c := hS.at fun o e => hm.heap S o hSw e
    show wpAny _ A.in1 (holding [v] (setAdd S v) >>= _) _ _ s'
    refine wpAny_bind (wpAny_holding ?_)
    unfold setAdd
    refine wpAny_holding ?_
    refine wpAny_bind ((mixKind P w).pyHash (k := z) hkv ?_)
    refine setQ_add_hashed hkv (s := { s' with toks := s'.toks + 1 }) hS' (by omega) fun h' hsb hS2 => ?_
    have hS3 : SetQ w h' S (memQ (ns.take (i + 1))) (if memQ (ns.take i) z = true then c else c + 1) := hS2.congr fun j => by
      rw [List.take_add_one, hz]
      exact (memQ_app _ _ _).symm
    have hc3 : (if memQ (ns.take i) z = true then c else c + 1) ≤ i + 1 := by
      split <;> omega
    refine wpAny_pure ⟨plainId_quiet F.plain_set_update_loop _, ih (i + 1) _ (by omega) hlt (W.frame _ s' _ _ hst' (Nat.le_succ _) fun b hb o e => ?_) ⟨_, hc3, hS3⟩ fun s'' c2 hm'' hc'' hS'' => ?_⟩
    · rw [hsb.2 b (fun h : b = S => hSf (by rw [← h]; exact hb))]; exact e
    · refine hR s'' c2 (Moved.trans W.gtrans ((hm.mono hsub).then_heap (Nat.le_succ _) fun b o hb e => ?_) hm'') hc'' hS''
      rw [hsb.2 b (fun h : b = S => hb (by rw [h]; exact List.mem_cons_self))]; exact e

/-- v can be walked: these keys -/
def SrcQ (P : Program) (w : World) (h : Heap) (v : Value) (T : String) (ks : List Key) : Prop := ∀ s : Shared, (∀ b o, h.get? b = some o → s.heap.get? b = some o) → h.objs.size ≤ s.heap.objs.size → s.TypeIs v T ∧
  ∀ (A : Around) (E : Value → Shared → Prop) (Q : Value → Shared → Prop), (∀ (o : Obj) (fp : List Addr) (St : Nat → Heap → Prop) (Pv : Nat → Value → Prop), (∀ b ∈ fp, b = s.heap.objs.size ∨ b < h.objs.size) →
    (∀ i u, Pv i u → ∃ k, ks[i]? = some k ∧ keyIs k u = true) → (∀ A' : Around, A'.handled = none → Walks P w A' s.heap.objs.size fp [s.heap.objs.size] ks.length Pv St) → St 0 (s.heap.push o) →
    Q (.ref s.heap.objs.size) { s with heap := s.heap.push o }) → wpAny (model P w) A (pyIter v) Q E s
theorem anySetQ {v : Value} {T : String} {Q : Bool → Shared → Prop} (hT : s.TypeIs v T) (h1 : isSubtype (.type T) (.type "set") = pure false) (h2 : isSubtype (.type T) (.type "frozenset") = pure false) (h : Q false s) :
    wpAny (model P w) A (Builtin.Frozenset.isAnySet v) Q E s := by
  unfold Builtin.Frozenset.isAnySet orM
  refine wpAny_bind (wpAny_isInstance hT h1 ?_)
  show wpAny _ _ (isInstance v (.type "frozenset")) _ _ s
  exact wpAny_isInstance hT h2 h
theorem updQ {S : Addr} {v : Value} {T : String} {ks : List Key} {h0 : Heap} {Q : Unit → Shared → Prop} (hh : A.handled = none) (src : SrcQ P w h0 v T ks)
    (h1 : isSubtype (.type T) (.type "set") = pure false) (h2 : isSubtype (.type T) (.type "frozenset") = pure false) (h3 : (Value.type T == Value.type "dict") = false) (hb : ks.length + 1 < scanBound)
    (hk : ∀ b o, h0.get? b = some o → s.heap.get? b = some o) (hz : h0.objs.size ≤ S) (hSz : S < s.heap.objs.size) (hS : ∃ c, c ≤ 0 ∧ SetQ w s.heap S (memQ (ks.take 0)) c)
    (hQ : ∀ s' c, (∀ b o, b ≠ S → s.heap.get? b = some o → s'.heap.get? b = some o) → s'.gens = s.gens → s'.drawn = s.drawn → s'.os = s.os → SetQ w s'.heap S (memQ (ks)) c → c ≤ ks.length → Q () s') :
    wpAny (model P w) A (Builtin.Frozenset.updateFrom "set.__init__" S v) Q E s := by
  obtain ⟨hT, hI⟩ := src s hk (Nat.le_of_lt (Nat.lt_of_le_of_lt hz hSz))
  unfold Builtin.Frozenset.updateFrom
  refine wpAny_bind (anySetQ hT h1 h2 ?_)
  simp only [Bool.false_eq_true, if_false]
  refine wpAny_bind (wpAny_typeOf hT ?_)
  simp only [h3, Bool.false_eq_true, if_false]
  refine wpAny_bind (hI _ _ _ fun o fp St Pv hfp hPv hW hst => ?_)
  refine wpAny_bind (wpAny_runValue ?_)
  have hne : S ≠ s.heap.objs.size := Nat.ne_of_lt hSz
  refine set_update_keys ((hW A.in1 hh).toS) S (fun hm => ?_) ks rfl hb hPv (ks.length - 0) 0 _ (by omega) (Nat.zero_le _) hst ?_ fun s' c hm hc hS' => ?_
  · rcases hfp S hm with e | e
    · exact hne e
    · exact absurd e (Nat.not_lt_of_le hz)
  · obtain ⟨c, hc, hS⟩ := hS
    exact ⟨c, hc, hS.at fun o e => Heap.get?_push_of_some _ e⟩
  · refine wpAny_pure ?_
    refine hQ s' c (fun b u hb e => ?_) hm.gens hm.drawn hm.os hS' hc
    refine hm.heap b u (fun z => ?_) (Heap.get?_push_of_some _ e)
    rcases List.mem_cons.mp z with z | z
    · exact hb z
    · have z := List.mem_singleton.mp z
      exact absurd (Heap.lt_size e) (by rw [z]; exact Nat.lt_irrefl _)
set_option maxHeartbeats 8000000 in
theorem call_setQ {v : Value} {T : String} {ns : List Key} {Q : Value → Shared → Prop} (hh : A.handled = none) (src : SrcQ P w s.heap v T ns)
    (hs1 : isSubtype (.type T) (.type "set") = pure false) (hs2 : isSubtype (.type T) (.type "frozenset") = pure false) (hs3 : (Value.type T == Value.type "dict") = false) (hb : ns.length + 1 < scanBound)
    (h : ∀ (h' : Heap) (tk c : Nat), SetQ w h' s.heap.objs.size (memQ (ns)) c → c ≤ ns.length → (∀ b o, s.heap.get? b = some o → h'.get? b = some o) → Q (.ref s.heap.objs.size) { s with heap := h', toks := tk }) :
    wpAny (model P w) A (call (.type "set") [v]) Q E s := by
  obtain ⟨c, tl, hmro⟩ := F.called_set.mro
  have hmade := F.called_set.made
  have hsub := F.called_set.sub
  refine wpAny_call (codeAny_of_tree ?_)
  show wpAny _ _ (callAny (.type "set") _) _ _ _
  refine wpAny_pure ⟨Code.quiet_builtin _ (by decide +kernel), codeAny_builtin F.entry_type_call ?_⟩
  rw [Around.under_plain (weight_type_call_type "set" [v] []) rfl]
  have h1 := F.called_set.notType
  have h2 := F.called_set.canCreate
  have hct := F.typeCall_set_1 (v)
  repeat (any_goals (first | assumption | wp_step))

  refine codeAny_mono (code_set_led1 (v) (E := E) (Q₁ := fun obj s₁ => obj = .ref s.heap.objs.size ∧ s₁ = { s with heap := s.heap.push { cls := .type "set", dict := none, data := .set #[] 0 (.fresh 0 0 (!w.params.followText "set-order")) } }) ⟨rfl, rfl⟩) fun r s₁ hr => ?_
  cases r with
  | error e => exact hr
  | ok fl =>
    cases fl with
    | ret obj =>
      obtain ⟨rfl, rfl⟩ := hr
      have hS : (s.heap.push { cls := .type "set", dict := none, data := .set #[] 0 (.fresh 0 0 (!w.params.followText "set-order")) }).get? s.heap.objs.size = some { cls := .type "set", dict := none, data := .set #[] 0 (.fresh 0 0 (!w.params.followText "set-order")) } := Heap.get?_push_size _ rfl
      have hT : Shared.TypeIs { s with heap := s.heap.push { cls := .type "set", dict := none, data := .set #[] 0 (.fresh 0 0 (!w.params.followText "set-order")) } } (.ref s.heap.objs.size) "set" := ⟨_, hS, rfl⟩
      have hli := F.called_set.init.lookup
      have hbi := F.called_set.init.bind (.ref s.heap.objs.size)
      repeat (any_goals (first | assumption | wp_step))

      refine codeAny_mono (codeAny_call_builtin (R := wants (fun r s₂ => r = .none ∧ ∃ h' tk c, s₂ = { s with heap := h', toks := tk } ∧ SetQ w h' s.heap.objs.size (memQ (ns)) c ∧ c ≤ ns.length ∧
          (∀ b o, s.heap.get? b = some o → h'.get? b = some o)) E) F.called_set.init.plain F.entry_set_init (check_set_init_1 hT ?_)) fun r₂ s₂ hr₂ => ?_
      · unfold Builtin.«set.__init__» noKeywords
        generalize hUF : Builtin.Frozenset.updateFrom = UF
        wp_walk
        subst hUF
        refine updQ (h0 := s.heap) (by simp [hh]) src hs1 hs2 hs3 hb (fun b o e => Heap.get?_push_of_some _ e) (Nat.le_refl _) (Heap.lt_size hS) ⟨0, Nat.le_refl 0, setQ_new_at hS⟩ fun s' c' hm eg ed eo hS' hc' => ?_
        obtain ⟨h', g2, d', tk', os'⟩ := s'
        have eg : g2 = s.gens := eg
        have ed : d' = s.drawn := ed
        have eo : os' = s.os := eo
        subst eg; subst ed; subst eo
        show wpAny _ _ (ret Value.none) _ _ _
        refine wpAny_pure ⟨rfl, h', tk', c', rfl, hS', hc', fun b o e => ?_⟩
        exact hm b o (Nat.ne_of_lt (Heap.lt_size e)) (Heap.get?_push_of_some _ e)
      · cases r₂ with
        | error e => exact hr₂
        | ok fl₂ =>
          cases fl₂ with
          | ret r =>
            obtain ⟨rfl, h', tk, c', rfl, hS', hc', hk'⟩ := hr₂
            repeat (any_goals (first | assumption | wp_step))
            exact h _ _ _ hS' hc' hk'
          | _ => exact hr₂.elim
    | _ => exact hr.elim

end
end DL
set_option maxRecDepth 100000
set_option maxHeartbeats 4000000
namespace DL
open PySem PySem.Spec PyProof.Rows L2
/-! ### orders -/
def sv : Value → List Nat
  | .str x _ => x.cps.toList
  | _ => []
def ltSv (v u : Value) : Bool := decide (sv v < sv u)
theorem swo_sv : SrtO.Swo ltSv := by
  refine ⟨fun x y h => ?_, fun x y z h1 h2 => ?_⟩
  · have a := of_decide_eq_true (p := sv x < sv y) h
    exact decide_eq_false fun b => List.lt_irrefl _ (List.lt_trans a b)
  · have a := of_decide_eq_false (p := sv y < sv x) h1
    have b := of_decide_eq_false (p := sv z < sv y) h2
    exact decide_eq_false fun c => (List.le_trans (List.not_lt.mp a) (List.not_lt.mp b)) c
theorem strs_mem : ∀ {vs : List Value} {ss : List Str}, StrsAre vs ss → ∀ v ∈ vs, ∃ x t, v = Value.str x t
  | _, _, .nil, v, h => absurd h (by simp)
  | _, _, .cons n t r, v, h => by
    rcases List.mem_cons.mp h with e | h
    · exact ⟨n, t, e⟩
    · exact strs_mem r v h
section
variable {prog : Program} {w : World} {A : Around} {E : Value → Shared → Prop} {s : Shared}
theorem str_cmp {vs : List Value} {ss : List Str} (hI : StrsAre vs ss) : SrtO.Cmp prog w A s oneType' (fun p => p.1 ∈ vs) (SrtO.lt2 ltSv) := by
  intro p q hm hm'
  obtain ⟨a, t, e⟩ := strs_mem hI _ hm
  obtain ⟨b, u, e'⟩ := strs_mem hI _ hm'
  show wpAny (model prog w) A (keyLt' oneType' p.1 q.1) (fun r s' => s' = s ∧ r = ltSv p.1 q.1) (fun _ _ => False) s
  rw [e, e', keyLt'_oneType]
  exact oneLt_str ⟨rfl, rfl⟩
theorem strs_sortable {a : Addr} {vs : List Value} {ss : List Str} (hI : StrsAre vs ss) (h2 : 2 ≤ vs.length) : SrtO.SortableO prog w A s a vs ltSv := by
  intro h' _
  refine ⟨oneType', fun Q E hq => ?_, str_cmp hI⟩
  match vs, hI, h2 with
  | v1 :: v2 :: rest, hI, _ =>
    rw [keyKind_strs hI]
    exact wpAny_pure hq
  | [], _, h => exact absurd h (by decide)
  | [v], _, h => exact absurd h (by simp)
end
/-! ### in order -/
def sortI (l : List Int) : List Int := l.mergeSort fun a b => decide (a ≤ b)
def sortT (l : List (List Nat)) : List (List Nat) := l.mergeSort fun a b => !decide (b < a)
theorem sortI_perm (l : List Int) : (sortI l).Perm l := List.mergeSort_perm _ _
theorem sortT_perm (l : List (List Nat)) : (sortT l).Perm l := List.mergeSort_perm _ _
theorem sortI_up (l : List Int) : (sortI l).Pairwise (· ≤ ·) := by
  have h := List.pairwise_mergeSort (le := fun a b : Int => decide (a ≤ b)) (by intro a b c; simp; omega) (by intro a b; simp; omega) l
  exact h.imp fun h => of_decide_eq_true h
theorem sortT_up (l : List (List Nat)) : (sortT l).Pairwise fun a b => ¬ b < a := by
  have h := List.pairwise_mergeSort (le := fun a b : List Nat => !decide (b < a)) (by
    intro a b c
    simp only [Bool.not_eq_true', decide_eq_false_iff_not, List.not_lt]
    exact List.le_trans) (by
    intro a b
    simp only [Bool.or_eq_true, Bool.not_eq_true', decide_eq_false_iff_not, List.not_lt]
    exact List.le_total a b) l
  exact h.imp fun h => by simpa using h
theorem sortI_only {l m : List Int} (p : m.Perm l) (h : m.Pairwise (· ≤ ·)) : m = sortI l :=
  List.Perm.eq_of_pairwise (le := (· ≤ ·)) (fun a b _ _ h1 h2 => Int.le_antisymm h1 h2) h (sortI_up l) (p.trans (sortI_perm l).symm)
theorem sortT_only {l m : List (List Nat)} (p : m.Perm l) (h : m.Pairwise fun a b => ¬ b < a) : m = sortT l :=
  List.Perm.eq_of_pairwise (le := fun a b => ¬ b < a) (fun a b _ _ h1 h2 => List.le_antisymm (List.not_lt.mp h1) (List.not_lt.mp h2)) h (sortT_up l) (p.trans (sortT_perm l).symm)
/-! ### sorted(set) -/
section
variable {P : Program} {w : World} {A : Around} {E : Value → Shared → Prop} {s : Shared} {a : Addr} {S : Key → Bool} {n : Nat}
theorem sorted_setO {ltv : Value → Value → Bool} {Q : Value → Shared → Prop} (O : SrtO.Swo ltv) (R : SetQ w s.heap a S n) (hh : A.handled = none)
    (hS : ∀ (vs : List Value) (A' : Around) (s' : Shared) (l : Addr), 2 ≤ vs.length → (∀ v ∈ vs, ∃ k, S k = true ∧ keyIs k v = true) → SrtO.SortableO P w A' s' l vs ltv)
    (hQ : ∀ s' p (out : List Value) (c : Nat), (∀ b o, s.heap.get? b = some o → s'.heap.get? b = some o) → s'.gens = s.gens → s'.os = s.os → s.heap.objs.size ≤ p → s'.heap.get? p = some (seqObj "list" out.toArray c) → out.length = n → n < scanBound →
      SrtO.Srtd ltv out → (∀ v ∈ out, ∃ k, S k = true ∧ keyIs k v = true) → (out.map fun v => keyQ (0, v)).Nodup → (∀ k, S k = true → k ∈ out.map fun v => keyQ (0, v)) → Q (.ref p) s') :
    wpAny (model P w) A (call (.builtin "sorted") [.ref a]) Q E s := by
  obtain ⟨o, es, ep, t, ho, hex, hd, g, nd, hm, hb, hf, hn, hr, hl⟩ := R
  refine Calls.call_function_entry kind_sorted plain_sorted entry_sorted (args_sorted1 _) ?_
  unfold Builtin.«sorted»
  refine wpAny_bind (m := checkCount "sorted" 1 1 _) (wpAny_pure ?_)
  refine wpAny_bind (collect_set (A := A.in1) hh ⟨o, ho, hex.1, hd⟩ hf hb hr hl fun s1 vs k1 hz g1 o1 pm => ?_)
  have hvl : vs.length = n := by rw [pm.length_eq, List.length_map, Array.length_toList]; exact hn
  have hk : ∀ v ∈ vs, ∃ k, S k = true ∧ keyIs k v = true := fun v hv => by
    obtain ⟨e, he, q⟩ := List.mem_map.mp (pm.mem_iff.mp hv)
    obtain ⟨k, h1, h2⟩ := g e he
    refine ⟨k, (hm k).2 (List.mem_map.mpr ⟨e, he, keyQ_of h1⟩), by rw [← q]; exact h1⟩
  have pk : (vs.map fun v => keyQ (0, v)).Perm (es.toList.map keyQ) := by
    have q := pm.map fun v => keyQ (0, v)
    rw [List.map_map] at q
    exact q
  refine wpAny_bind (wpAny_newList ?_ (by rw [hvl]; have := fits_of_scanBound hb; omega))
  have hoL : (s1.heap.push (seqObj "list" vs.toArray 0)).get? s1.heap.objs.size = some (seqObj "list" vs.toArray 0) := Heap.get?_push_size _ rfl
  refine wpAny_bind (wpAny_holding (wpAny_call_entry slot_list_sort ⟨_, hoL, rfl⟩ entry_list_sort (SrtO.list_sort_ord O hoL (by rw [hvl]; have := fits_of_scanBound hb; omega) (fun h2 => hS _ _ _ _ h2 hk) fun out a1 a2 => ⟨_, rfl, ?_⟩) (args_list_sort _)))
  obtain ⟨c, hc⟩ := sortedHeap_at (vs := vs) (out := out.toArray) hoL
  have po : out.Perm vs := a2.perm
  refine wpAny_pure ⟨_, rfl, hQ _ s1.heap.objs.size out c (fun b u e => ?_) g1 o1 hz hc (by rw [po.length_eq, hvl]) (by omega) a1 (fun v hv => hk v (po.mem_iff.mp hv)) ?_ fun k hk => ?_⟩
  · have q := k1 b u e
    have hlt := Heap.lt_size q
    show (sortedHeap (s1.heap.push (seqObj "list" vs.toArray 0)) s1.heap.objs.size vs out.toArray).get? b = some u
    rw [sortedHeap_old (Nat.ne_of_lt hlt) (by rw [size_push']; exact Nat.lt_succ_of_lt hlt)]
    exact Heap.get?_push_of_some _ q
  · exact ((po.map fun v => keyQ (0, v)).trans pk).nodup_iff.mpr nd
  · exact ((po.map fun v => keyQ (0, v)).trans pk).mem_iff.mpr ((hm k).1 hk)
theorem len_setQ {Q : Value → Shared → Prop} (R : SetQ w s.heap a S n) (h : ∀ t tk, Q (.int n t) { s with toks := tk }) : wpAny (model P w) A (call (.builtin "len") [.ref a]) Q E s := by
  obtain ⟨o, es, ep, t, ho, hex, hd, g, nd, hm, hb, hf, hn, hr, hl⟩ := R
  have h4 : es.size < 2 ^ 63 := by have := fits_of_scanBound hb; rw [sizeLine_eq] at this; omega
  refine call_len_set ho hex hd hf (by omega) ?_
  rw [hn]
  exact h _ _
end
end DL
set_option maxRecDepth 100000
set_option maxHeartbeats 4000000
namespace DL
open PySem PySem.Spec PyProof.Rows L2
/-! ### what set(x) is taken of -/
def SrcV (K : PySem.W.Frag) (H : Hp) (x : V) (ks : List Key) : Prop := (∃ l, x = .ref l ∧ (SqL K H l (ks.map kV) ∨ SqT K H l (ks.map kV))) ∨ ∃ z : Str, x = .str z ∧ ks = z.cps.toList.map fun c => .inr (mkS [c])
theorem vals_key {ks : List Key} {its : List Value} (r : Vals (ks.map kV) its) {i : Nat} {v : Value} (h : its[i]? = some v) : ∃ k, ks[i]? = some k ∧ keyIs k v = true := by
  have hi : i < ks.length := by
    have := (List.getElem?_eq_some_iff.mp h).1
    have e := r.length
    rw [List.length_map] at e
    omega
  refine ⟨ks[i], List.getElem?_eq_getElem hi, ?_⟩
  obtain ⟨u, e, ru⟩ := r.get (i := i) (x := kV ks[i]) (by rw [List.getElem?_map, List.getElem?_eq_getElem hi] <;> rfl)
  rw [h] at e
  cases e
  cases hk : ks[i] with
  | inl n =>
    rw [hk] at ru
    obtain ⟨t, rfl⟩ := ru
    exact keyIs_int n t
  | inr z =>
    rw [hk] at ru
    obtain ⟨t, rfl⟩ := ru
    exact keyIs_str z t
section
variable {X : Cx}
theorem SrcV.src {pins : List (Addr × Obj)} {s : Shared} {σ : L2.St} {H : Hp} {x : V} {v : Value} {ks : List Key} (I : Inv X pins σ H s) (rx : RelV x v) (h : SrcV X.K H x ks) : ∃ T, SrcQ X.prog X.w s.heap v T ks ∧
    isSubtype (.type T) (.type "set") = pure false ∧ isSubtype (.type T) (.type "frozenset") = pure false ∧ (Value.type T == Value.type "dict") = false := by
  rcases h with ⟨l, rfl, h | h⟩ | ⟨z, rfl, rfl⟩
  · cases rx
    obtain ⟨its, r, pl, hz⟩ := I.list h
    have hlen : its.toArray.size = ks.length := by rw [List.size_toArray, ← r.length, List.length_map]
    obtain ⟨o, ho, hc, hd⟩ := pl.isList
    refine ⟨"list", fun s' hk hz' => ⟨⟨o, hk _ _ ho, hc⟩, fun A E Q q => ?_⟩, F.sub_list_set, F.sub_list_frozenset, by decide⟩
    have hl' : s'.heap.IsList l its.toArray := ⟨o, hk _ _ ho, hc, hd⟩
    have hlt := Heap.lt_size ho
    have hne : l ≠ s'.heap.objs.size := Nat.ne_of_lt (Nat.lt_of_lt_of_le hlt hz')
    refine wpAny_pyIter_list hl' (q _ [s'.heap.objs.size, l] (fun i h => h.IsListIter s'.heap.objs.size l i ∧ h.IsList l its.toArray) (fun i v => its.toArray[i]? = some v) (fun b hb => ?_) (fun i u e => vals_key r (by simpa using e)) (fun A' hA => ?_)
      ⟨⟨_, Heap.get?_push_size _ rfl, rfl, rfl⟩, hl'.push _⟩)
    · rcases List.mem_cons.mp hb with e | e
      · exact .inl e
      · rw [List.mem_singleton.mp e]; exact .inr hlt
    · rw [← hlen]; exact Walks.list hA _ _ hne _
  · cases rx
    obtain ⟨its, r, pl, hz⟩ := I.tuple h
    have hlen : its.toArray.size = ks.length := by rw [List.size_toArray, ← r.length, List.length_map]
    obtain ⟨o, ho, hc, hd⟩ := pl
    refine ⟨"tuple", fun s' hk hz' => ⟨⟨o, hk _ _ ho, hc⟩, fun A E Q q => ?_⟩, F.sub_tuple_set, F.sub_tuple_frozenset, by decide⟩
    have hl' : s'.heap.IsTuple l its.toArray := ⟨o, hk _ _ ho, hc, hd⟩
    have hlt := Heap.lt_size ho
    have hne : l ≠ s'.heap.objs.size := Nat.ne_of_lt (Nat.lt_of_lt_of_le hlt hz')
    refine wpAny_pyIter_tuple hl' (q _ [s'.heap.objs.size, l] (fun i h => h.IsTupleIter s'.heap.objs.size l i ∧ h.IsTuple l its.toArray) (fun i v => its.toArray[i]? = some v) (fun b hb => ?_) (fun i u e => vals_key r (by simpa using e)) (fun A' hA => ?_)
      ⟨⟨_, Heap.get?_push_size _ rfl, rfl, rfl⟩, hl'.push _⟩)
    · rcases List.mem_cons.mp hb with e | e
      · exact .inl e
      · rw [List.mem_singleton.mp e]; exact .inr hlt
    · rw [← hlen]; exact Walks.tuple hA _ _ hne _
  · obtain ⟨t, rfl⟩ := rx
    refine ⟨"str", fun s' hk hz' => ⟨typeIs_str _ _ _, fun A E Q q => ?_⟩, F.sub_str_set, F.sub_str_frozenset, by decide⟩
    refine wpAny_pyIter_str fun o St hW hst => q o [s'.heap.objs.size] St (SignAt z) (fun b hb => .inl (List.mem_singleton.mp hb)) (fun i u e => ?_) (fun A' hA => ?_) hst
    · obtain ⟨c, u', e1, rfl⟩ := e
      refine ⟨.inr ⟨#[c]⟩, ?_, keyIs_str _ _⟩
      rw [List.getElem?_map, Array.getElem?_toList, e1]
      rfl
    · have : (z.cps.toList.map fun c => (.inr (mkS [c]) : Key)).length = z.cps.size := by simp
      rw [this]
      exact hW A' hA
def rSS (K : PySem.W.Frag) : V → Hp → VK → Prop := fun x H Q => ∃ ks, SrcV K H x ks ∧ ks.length + 1 < scanBound ∧
  ((∃ ns : List Int, ks = ns.map .inl ∧ ∀ (p : Addr) (ms : List Int), ms.Nodup → (∀ k, k ∈ ms ↔ k ∈ ns) → ms.Pairwise (· ≤ ·) → H p = none → Q (.ref p) (upd H p (.lst (ms.map V.int)))) ∨
   ∃ ns : List (List Nat), ks = ns.map (fun z => .inr (mkS z)) ∧ ∀ (p : Addr) (ms : List (List Nat)), ms.Nodup → (∀ k, k ∈ ms ↔ k ∈ ns) → ms.Pairwise (fun a b => ¬ b < a) → H p = none → Q (.ref p) (upd H p (.lst (ms.map fun z => V.str (mkS z)))))
def rSL (K : PySem.W.Frag) : V → Hp → VK → Prop := fun x H Q => ∃ ks, SrcV K H x ks ∧ ks.length + 1 < scanBound ∧ ∀ ms : List Key, ms.Nodup → (∀ k, k ∈ ms ↔ k ∈ ks) → Q (.int ms.length) H
theorem SetQ.some {P : Program} {w : World} {h : Heap} {a : Addr} {S : Key → Bool} {n : Nat} (R : SetQ w h a S n) : ∃ ms : List Key, ms.Nodup ∧ (∀ k, k ∈ ms ↔ S k = true) ∧ ms.length = n := by
  obtain ⟨o, es, ep, t, ho, hex, hd, g, nd, hm, hb, hf, hn, hr, hl⟩ := R
  exact ⟨es.toList.map keyQ, nd, fun k => (hm k).symm, by rw [List.length_map, Array.length_toList]; exact hn⟩
theorem ints_iv2 : ∀ {vs : List Value} {ns : List Int}, (∀ v ∈ vs, ∃ k : Key, memQ (ns.map .inl) k = true ∧ keyIs k v = true) → IntsAre vs (vs.map SrtO.iv) ∧ (vs.map fun v => keyQ (0, v)) = (vs.map SrtO.iv).map .inl
  | [], _, _ => ⟨.nil, rfl⟩
  | v :: vs, ns, h => by
    obtain ⟨k, hk, hv⟩ := h v List.mem_cons_self
    obtain ⟨n, _, rfl⟩ := List.mem_map.mp (memQ_iff.mp hk)
    rcases keyIs_shape hv with ⟨i, t, e, rfl⟩ | ⟨x, t, e, rfl⟩
    · obtain ⟨h1, h2⟩ := ints_iv2 (vs := vs) (ns := ns) fun u hu => h u (List.mem_cons_of_mem _ hu)
      refine ⟨.cons i t h1, ?_⟩
      rw [List.map_cons, h2]
      rfl
    · cases e
theorem strs_sv2 : ∀ {vs : List Value} {ns : List (List Nat)}, (∀ v ∈ vs, ∃ k : Key, memQ (ns.map fun z => .inr (mkS z)) k = true ∧ keyIs k v = true) → StrsAre vs ((vs.map sv).map mkS) ∧ (vs.map fun v => keyQ (0, v)) = (vs.map sv).map fun z => .inr (mkS z)
  | [], _, _ => ⟨.nil, rfl⟩
  | v :: vs, ns, h => by
    obtain ⟨k, hk, hv⟩ := h v List.mem_cons_self
    obtain ⟨n, _, rfl⟩ := List.mem_map.mp (memQ_iff.mp hk)
    rcases keyIs_shape hv with ⟨i, t, e, rfl⟩ | ⟨x, t, e, rfl⟩
    · cases e
    · obtain ⟨h1, h2⟩ := strs_sv2 (vs := vs) (ns := ns) fun u hu => h u (List.mem_cons_of_mem _ hu)
      have ex : mkS (sv (.str x t)) = x := mkS_cps x
      refine ⟨?_, ?_⟩
      · rw [List.map_cons, List.map_cons, ex]; exact .cons x t h1
      · rw [List.map_cons, h2, List.map_cons, List.map_cons, ex]; rfl
theorem pe_sortSet {a : Expr} {ta : TE} {p p2 q pos : Pos} (hc : X.calm = true) (hg : Gl X "sorted") (hm : X.mg "sorted" = none) (hg2 : Gl X "set") (hm2 : X.mg "set" = none) (ha : PE X a ta)
    (na : starEach [a] X.env = (false, eval a X.env) :: starEach [] X.env := by rfl) : PE X (.Call (.Name "sorted" p) [.Call (.Name "set" p2) [a] [] q] [] pos) (tUn (rSS X.K) ta) := by
  refine ⟨fun pins s σ H Q I h => ?_⟩
  refine Call_ (ld_blt I hg hm PyProof.Rows.boot_sorted ?_)
  refine PyProof.Rows.callWith_builtin1 (PyProof.Rows.args_cons ?_ rfl) rfl rfl
  refine Call_ (ld_blt I hg2 hm2 PyProof.Rows.boot_set ?_)
  refine PyProof.Rows.callWith_type1 (PyProof.Rows.args_cons (thn (ha.run pins s σ H _ I h) fun v s1 ⟨x, H1, I1, r1, q1⟩ => PyProof.Rows.args_nil ?_) na) na rfl
  obtain ⟨ks, hsrc, hb, q1⟩ := q1
  obtain ⟨T, src, f1, f2, f3⟩ := hsrc.src I1 r1
  refine call_setQ (I1.ok.hd hc) src f1 f2 f3 hb fun h' tk c hS _ hk => ?_
  have I2 : Inv X pins σ H1 { s1 with heap := h', toks := tk } := I1.kept hk
  refine PyProof.Rows.args_nil ?_
  rcases q1 with ⟨ns, rfl, q1⟩ | ⟨ns, rfl, q1⟩
  · refine sorted_setO SrtO.swo_int hS (I2.ok.hd hc) (fun vs A' s' l h2 hv => SrtO.ints_sortable (ints_iv2 hv).1 h2) fun s' p out c kp hg ho hp ho' hl hz hs hv nd hmem => ?_
    obtain ⟨hi, hke⟩ := ints_iv2 hv
    rw [hke] at nd hmem
    have hn : H1 p = none := I2.hok.fresh hp
    have hlen : ((out.map SrtO.iv).map V.int).length ≤ sizeLine := by rw [List.length_map, List.length_map, hl]; exact fits_of_scanBound hz
    have J : Inv X pins σ (upd H1 p (.lst ((out.map SrtO.iv).map V.int))) { ({ s1 with heap := h', toks := tk } : Shared) with heap := s'.heap, gens := s'.gens, drawn := s'.drawn, toks := s'.toks } :=
      I2.call (ch := []) (Un.laid kp hp hn) (I2.hok.laid kp hp ⟨hlen, out, _, vals_of_ints hi, ho'⟩) (by rw [hg]; exact I2.bare) (fun _ z => nomatch z)
    have e : s' = { ({ s1 with heap := h', toks := tk } : Shared) with heap := s'.heap, gens := s'.gens, drawn := s'.drawn, toks := s'.toks } := by
      cases s'
      cases s1
      cases ho
      rfl
    rw [e]
    have ndi : (out.map SrtO.iv).Nodup := by
      rw [List.nodup_iff_pairwise_ne, List.pairwise_map] at nd
      rw [List.nodup_iff_pairwise_ne]
      exact nd.imp fun h e => h (by rw [e])
    refine ⟨.ref p, _, J, rfl, q1 p _ ndi (fun k => ⟨fun hk => ?_, fun hk => ?_⟩) (List.pairwise_map.mpr (hs.imp fun {x y} h => Int.not_lt.mp (of_decide_eq_false (p := SrtO.iv y < SrtO.iv x) h))) hn⟩
    · obtain ⟨v, hv1, rfl⟩ := List.mem_map.mp hk
      obtain ⟨k, hk1, hk2⟩ := hv v hv1
      obtain ⟨n, hn1, rfl⟩ := List.mem_map.mp (memQ_iff.mp hk1)
      rcases keyIs_shape hk2 with ⟨i, t, e, rfl⟩ | ⟨x, t, e, rfl⟩
      · cases e; exact hn1
      · cases e
    · have := hmem (.inl k) (memQ_iff.mpr (List.mem_map.mpr ⟨k, hk, rfl⟩))
      obtain ⟨j, hj, e⟩ := List.mem_map.mp this
      cases e
      exact hj
  · refine sorted_setO swo_sv hS (I2.ok.hd hc) (fun vs A' s' l h2 hv => strs_sortable (strs_sv2 hv).1 h2) fun s' p out c kp hg ho hp ho' hl hz hs hv nd hmem => ?_
    obtain ⟨hi, hke⟩ := strs_sv2 hv
    rw [hke] at nd hmem
    have hn : H1 p = none := I2.hok.fresh hp
    have em : ((out.map sv).map mkS).map V.str = (out.map sv).map fun z => V.str (mkS z) := by rw [List.map_map]; rfl
    have hlen : ((out.map sv).map fun z => V.str (mkS z)).length ≤ sizeLine := by rw [List.length_map, List.length_map, hl]; exact fits_of_scanBound hz
    have J : Inv X pins σ (upd H1 p (.lst ((out.map sv).map fun z => V.str (mkS z)))) { ({ s1 with heap := h', toks := tk } : Shared) with heap := s'.heap, gens := s'.gens, drawn := s'.drawn, toks := s'.toks } :=
      I2.call (ch := []) (Un.laid kp hp hn) (I2.hok.laid kp hp ⟨hlen, out, _, em ▸ vals_of_strs hi, ho'⟩) (by rw [hg]; exact I2.bare) (fun _ z => nomatch z)
    have e : s' = { ({ s1 with heap := h', toks := tk } : Shared) with heap := s'.heap, gens := s'.gens, drawn := s'.drawn, toks := s'.toks } := by
      cases s'
      cases s1
      cases ho
      rfl
    rw [e]
    have ndi : (out.map sv).Nodup := by
      rw [List.nodup_iff_pairwise_ne, List.pairwise_map] at nd
      rw [List.nodup_iff_pairwise_ne]
      exact nd.imp fun h e => h (by rw [e])
    refine ⟨.ref p, _, J, rfl, q1 p _ ndi (fun k => ⟨fun hk => ?_, fun hk => ?_⟩) (List.pairwise_map.mpr (hs.imp fun {x y} h => of_decide_eq_false (p := sv y < sv x) h)) hn⟩
    · obtain ⟨v, hv1, rfl⟩ := List.mem_map.mp hk
      obtain ⟨k, hk1, hk2⟩ := hv v hv1
      obtain ⟨n, hn1, rfl⟩ := List.mem_map.mp (memQ_iff.mp hk1)
      rcases keyIs_shape hk2 with ⟨i, t, e, rfl⟩ | ⟨x, t, e, rfl⟩
      · cases e
      · cases e; simpa [sv] using hn1
    · have := hmem (.inr (mkS k)) (memQ_iff.mpr (List.mem_map.mpr ⟨k, hk, rfl⟩))
      obtain ⟨j, hj, e⟩ := List.mem_map.mp this
      have e := mkS_inj.mp (Sum.inr.inj e)
      rw [← e]; exact hj
theorem pe_lenSet {a : Expr} {ta : TE} {p p2 q pos : Pos} (hc : X.calm = true) (hg : Gl X "len") (hm : X.mg "len" = none) (hg2 : Gl X "set") (hm2 : X.mg "set" = none) (ha : PE X a ta)
    (na : starEach [a] X.env = (false, eval a X.env) :: starEach [] X.env := by rfl) : PE X (.Call (.Name "len" p) [.Call (.Name "set" p2) [a] [] q] [] pos) (tUn (rSL X.K) ta) := by
  refine ⟨fun pins s σ H Q I h => ?_⟩
  refine Call_ (ld_blt I hg hm PySem.boot_len ?_)
  refine PyProof.Rows.callWith_builtin1 (PyProof.Rows.args_cons ?_ rfl) rfl rfl
  refine Call_ (ld_blt I hg2 hm2 PyProof.Rows.boot_set ?_)
  refine PyProof.Rows.callWith_type1 (PyProof.Rows.args_cons (thn (ha.run pins s σ H _ I h) fun v s1 ⟨x, H1, I1, r1, q1⟩ => PyProof.Rows.args_nil ?_) na) na rfl
  obtain ⟨ks, hsrc, hb, q1⟩ := q1
  obtain ⟨T, src, f1, f2, f3⟩ := hsrc.src I1 r1
  refine call_setQ (I1.ok.hd hc) src f1 f2 f3 hb fun h' tk c hS _ hk => ?_
  have I2 : Inv X pins σ H1 { s1 with heap := h', toks := tk } := I1.kept hk
  refine PyProof.Rows.args_nil ?_
  obtain ⟨ms, nd, hmem, hl⟩ := hS.some (P := X.prog)
  refine len_setQ hS fun t tk' => ⟨.int ms.length, H1, I2.tok _, ⟨t, by rw [hl]⟩, q1 ms nd fun k => (hmem k).trans memQ_iff⟩
end
/-! ### the same, of data -/
def uniq {α : Type} [DecidableEq α] : List α → List α
  | [] => []
  | a :: l => if a ∈ l then uniq l else a :: uniq l
theorem mem_uniq {α : Type} [DecidableEq α] {a : α} : ∀ {l : List α}, a ∈ uniq l ↔ a ∈ l
  | [] => by simp [uniq]
  | b :: l => by
    unfold uniq
    split
    · rename_i h
      rw [mem_uniq, List.mem_cons]
      exact ⟨.inr, fun z => z.elim (fun e => e ▸ h) id⟩
    · rw [List.mem_cons, List.mem_cons, mem_uniq]
theorem nodup_uniq {α : Type} [DecidableEq α] : ∀ (l : List α), (uniq l).Nodup
  | [] => by simp [uniq]
  | b :: l => by
    unfold uniq
    split
    · exact nodup_uniq l
    · rename_i h
      exact List.nodup_cons.mpr ⟨fun z => h (mem_uniq.mp z), nodup_uniq l⟩
def setI (l : List Int) : List Int := sortI (uniq l)
def setT (l : List (List Nat)) : List (List Nat) := sortT (uniq l)
theorem setI_only {l m : List Int} (nd : m.Nodup) (h : ∀ k, k ∈ m ↔ k ∈ l) (u : m.Pairwise (· ≤ ·)) : m = setI l :=
  sortI_only ((List.perm_ext_iff_of_nodup nd (nodup_uniq l)).mpr fun k => (h k).trans mem_uniq.symm) u
theorem setT_only {l m : List (List Nat)} (nd : m.Nodup) (h : ∀ k, k ∈ m ↔ k ∈ l) (u : m.Pairwise fun a b => ¬ b < a) : m = setT l :=
  sortT_only ((List.perm_ext_iff_of_nodup nd (nodup_uniq l)).mpr fun k => (h k).trans mem_uniq.symm) u
/-- the items, as set, sorted see them -/
def itemsD : D → Option (List D)
  | .lst l => some l
  | .tup l => some l
  | .str s => some (s.map fun c => .str [c])
  | _ => none
def setD (l : List D) : Option (List D) := match intsOf l with
  | some ns => some ((setI ns).map .int)
  | none => (strsOf l).map fun ns => (setT ns).map .str
def sortD (l : List D) : Option (List D) := match intsOf l with
  | some ns => some ((sortI ns).map .int)
  | none => (strsOf l).map fun ns => (sortT ns).map .str
def fSS (d : D) (k : Slot → Prop) : Prop := ob (itemsD d) fun l => l.length + 1 < scanBound ∧ ob (setD l) fun m => k (.ow (.lst m))
def lenSetD (l : List D) : Option Nat := match intsOf l with
  | some ns => some (uniq ns).length
  | none => (strsOf l).map fun ns => (uniq ns).length
def fSL (d : D) (k : Slot → Prop) : Prop := ob (itemsD d) fun l => l.length + 1 < scanBound ∧ ob (lenSetD l) fun n => k (.fz (.int (n : Nat)))
section
variable {g : G} {F H : Hp}
theorem Reps.keyI {l : List D} {ns : List Int} {xs : List V} (h : intsOf l = some ns) (r : Reps g l xs F) : xs = (ns.map (Sum.inl : Int → Key)).map kV := by
  rw [intsOf_eq h, Reps.ints] at r
  rw [r, List.map_map]
  rfl
theorem Reps.keyS {l : List D} {ns : List (List Nat)} {xs : List V} (h : strsOf l = some ns) (r : Reps g l xs F) : xs = (ns.map fun z => (Sum.inr (mkS z) : Key)).map kV := by
  rw [strsOf_eq h, Reps.strs] at r
  rw [r, List.map_map, List.map_map]
  rfl
theorem srcI {d : D} {x : V} {l : List D} {ns : List Int} (e : Ext F H) (r : RepC g F H d x) (h : itemsD d = some l) (hn : intsOf l = some ns) : SrcV g.K H x (ns.map .inl) := by
  cases d with
  | lst m =>
    cases h
    obtain ⟨a, xs, rfl, h1, h2⟩ := r
    have := h2.keyI hn
    subst this
    exact .inl ⟨a, rfl, .inl h1⟩
  | tup m =>
    cases h
    obtain ⟨a, xs, rfl, h1, h2⟩ := r
    have := h2.keyI hn
    subst this
    exact .inl ⟨a, rfl, .inr h1.sqT⟩
  | str s =>
    cases h
    have ev : x = .str (mkS s) := r
    subst ev
    cases s with
    | nil => cases hn; exact .inr ⟨_, rfl, rfl⟩
    | cons c s => cases hn
  | _ => cases h
theorem srcS {d : D} {x : V} {l : List D} {ns : List (List Nat)} (e : Ext F H) (r : RepC g F H d x) (h : itemsD d = some l) (hn : strsOf l = some ns) : SrcV g.K H x (ns.map fun z => .inr (mkS z)) := by
  cases d with
  | lst m =>
    cases h
    obtain ⟨a, xs, rfl, h1, h2⟩ := r
    have := h2.keyS hn
    subst this
    exact .inl ⟨a, rfl, .inl h1⟩
  | tup m =>
    cases h
    obtain ⟨a, xs, rfl, h1, h2⟩ := r
    have := h2.keyS hn
    subst this
    exact .inl ⟨a, rfl, .inr h1.sqT⟩
  | str s =>
    cases h
    have ev : x = .str (mkS s) := r
    subst ev
    have : ns = s.map fun c => [c] := by
      have e2 : strsOf ((s.map fun c => [c]).map D.str) = some (s.map fun c => [c]) := strsOf_map _
      rw [List.map_map] at e2
      have e3 : some ns = some (s.map fun c => [c]) := hn.symm.trans e2
      exact Option.some.inj e3
    subst this
    refine .inr ⟨_, rfl, ?_⟩
    rw [List.map_map]
    simp [mkS]
  | _ => cases h
theorem uv_ss : UnV g (rSS g.K) fSS := fun F H x dx post Q e rx h q => by
  obtain ⟨l, el, hb, h⟩ := ob_el h
  obtain ⟨m, em, h⟩ := ob_el h
  unfold setD at em
  cases hi : intsOf l with
  | some ns =>
    rw [hi] at em
    cases em
    refine ⟨_, srcI e rx el hi, by rw [List.length_map]; rw [intsOf_eq hi, List.length_map] at hb; exact hb, .inl ⟨ns, rfl, fun p ms nd hm up hp => ?_⟩⟩
    rw [setI_only nd hm up]
    exact q _ _ _ _ (.own (d := .lst _) e hp (Reps.ints.mpr rfl)) h
  | none =>
    rw [hi] at em
    cases hs : strsOf l with
    | none => rw [hs] at em; cases em
    | some ns =>
      rw [hs] at em
      cases em
      refine ⟨_, srcS e rx el hs, by rw [List.length_map]; rw [strsOf_eq hs, List.length_map] at hb; exact hb, .inr ⟨ns, rfl, fun p ms nd hm up hp => ?_⟩⟩
      rw [setT_only nd hm up]
      exact q _ _ _ _ (.own (d := .lst _) e hp (Reps.strs.mpr (by rw [List.map_map]; rfl))) h
theorem len_of_same {α : Type} {l m : List α} (h1 : l.Nodup) (h2 : m.Nodup) (h : ∀ k, k ∈ l ↔ k ∈ m) : l.length = m.length := ((List.perm_ext_iff_of_nodup h1 h2).mpr h).length_eq
theorem uv_sl : UnV g (rSL g.K) fSL := fun F H x dx post Q e rx h q => by
  obtain ⟨l, el, hb, h⟩ := ob_el h
  obtain ⟨m, em, h⟩ := ob_el h
  unfold lenSetD at em
  cases hi : intsOf l with
  | some ns =>
    rw [hi] at em
    cases em
    refine ⟨_, srcI e rx el hi, by rw [List.length_map]; rw [intsOf_eq hi, List.length_map] at hb; exact hb, fun ms nd hm => ?_⟩
    have : ms.length = ((uniq ns).map (Sum.inl : Int → Key)).length := len_of_same nd (by
      rw [List.nodup_iff_pairwise_ne, List.pairwise_map]
      exact (List.nodup_iff_pairwise_ne.mp (nodup_uniq ns)).imp fun h e => h (Sum.inl.inj e)) fun k => by
        rw [hm k, List.mem_map, List.mem_map]
        exact ⟨fun ⟨a, h1, h2⟩ => ⟨a, mem_uniq.mpr h1, h2⟩, fun ⟨a, h1, h2⟩ => ⟨a, mem_uniq.mp h1, h2⟩⟩
    rw [this, List.length_map]
    exact q _ _ _ _ (.scal (d := .int _) e rfl) h
  | none =>
    rw [hi] at em
    cases hs : strsOf l with
    | none => rw [hs] at em; cases em
    | some ns =>
      rw [hs] at em
      cases em
      refine ⟨_, srcS e rx el hs, by rw [List.length_map]; rw [strsOf_eq hs, List.length_map] at hb; exact hb, fun ms nd hm => ?_⟩
      have : ms.length = ((uniq ns).map fun z => (Sum.inr (mkS z) : Key)).length := len_of_same nd (by
        rw [List.nodup_iff_pairwise_ne, List.pairwise_map]
        exact (List.nodup_iff_pairwise_ne.mp (nodup_uniq ns)).imp fun h e => h (mkS_inj.mp (Sum.inr.inj e))) fun k => by
          rw [hm k, List.mem_map, List.mem_map]
          exact ⟨fun ⟨a, h1, h2⟩ => ⟨a, mem_uniq.mpr h1, h2⟩, fun ⟨a, h1, h2⟩ => ⟨a, mem_uniq.mp h1, h2⟩⟩
      rw [this, List.length_map]
      exact q _ _ _ _ (.scal (d := .int _) e rfl) h
end
end DL
set_option maxRecDepth 100000
set_option maxHeartbeats 4000000
namespace DL
open PySem PySem.Spec PyProof.Rows L2
section
variable {g : G} {B : Bs} {F F' H H' : Hp} {own : Addr → Nat} {env ts : En} {σ vs : L2.St}
/-! ### methods by values -/
def MethV (g : G) (r : V → List V → Hp → VK → Prop) (f : D → List D → (Slot → Prop) → Prop) : Prop := ∀ (F H : Hp) (x : V) (xs : List V) (d : D) (ds : List D) (post : Slot → Prop) (Q : VK), Ext F H → RepC g F H d x → RepCs g F H ds xs → f d ds post →
  (∀ t v F' H', Res g F H none t v F' H' → post t → Q v H') → r x xs H Q
def tyD (T : String) : D → Bool
  | .str _ => T == "str"
  | .lst _ => T == "list"
  | _ => false
theorem tyD_V {T : String} {d : D} {x : V} (r : RepC g F H d x) (h : tyD T d = true) : tyV g.K T x H := by
  cases d with
  | str s =>
    have e : x = .str (mkS s) := r
    subst e
    exact eq_of_beq h
  | lst l =>
    obtain ⟨a, xs, rfl, h1, h2⟩ := r
    exact .inl ⟨eq_of_beq h, xs, h1⟩
  | _ => cases h
def xBM (T : String) (f : D → List D → (Slot → Prop) → Prop) (o : DX) (a : DA) : DX := fun env k => o env fun t e1 => (match rdS e1 t with
  | some d => tyD T d = true
  | none => False) ∧ a e1 fun as e2 => ob (rdS e2 t) fun d => ob (rdAll e2 as) fun ds => f d ds fun t => k t e2
theorem snd_bm {T : String} {r : V → List V → Hp → VK → Prop} {f : D → List D → (Slot → Prop) → Prop} {to : TE} {ta : TA} {o : DX} {a : DA} (hc : MethV g r f) (ho : SndX g to o) (ha : SndA g ta a) : SndX g (tBM g.K T r to ta) (xBM T f o a) := fun B env ts σ vs H k Q hl hv S h q => by
  refine ho B env ts σ vs H _ _ hl hv S h fun v H1 t e1 l1 b1 S1 h1 => ?_
  obtain ⟨h0, h1⟩ := h1
  refine ⟨?_, ?_⟩
  · split at h0
    · rename_i d ed
      obtain ⟨nb, F, own, S1'⟩ := S1
      exact tyD_V ((S1'.rdT (k := ts.length) (t := t) (v := v) (by omega) (by simp) (by simp [← hv]) (by rw [l1]; exact b1) ed).mono (.refl _) (nob_ext _ _)) h0
    · exact h0.elim
  · refine ha B e1 (ts ++ [t]) σ (vs ++ [some v]) H1 _ _ (by omega) (by simp [hv]) S1 h1 fun xs H2 as e2 l2 la b2 S2 h2 => ?_
    obtain ⟨d, ed, h2⟩ := ob_el h2
    obtain ⟨ds, eds, h2⟩ := ob_el h2
    obtain ⟨nb, F, own, S2⟩ := S2
    have hl2 : σ.length = e2.length := by omega
    have r0 := S2.rdAll (ts := ts ++ [t]) (vs := vs ++ [some v]) (xs := xs) hl2 (by simp [hv]) la (by rw [l2]; exact b2) eds
    have r1 := (S2.rdT (k := ts.length) (t := t) (v := v) hl2 (by simp) (by simp [← hv]) (by rw [l2, l1]; exact b1) ed)
    refine hc F H2 v xs d ds _ Q S2.fh (r1.mono (.refl _) (nob_ext _ _)) (r0.mono (.refl _) (nob_ext _ _)) h2 fun t' v' F' H' r p => ?_
    have S2' : StF g B F own (e2 ++ (ts ++ (t :: as))) (σ ++ (vs ++ (some v :: xs.map some))) H2 := by simpa using S2
    exact q v' H' t' e2 (by omega) r.br (S2'.out hl2 hv nb (.inl rfl) r) p
/-- a method of a text -/
def isStr : D → Bool
  | .str _ => true
  | _ => false
def xM1 (f : D → List D → (Slot → Prop) → Prop) (o a : DX) : DX := fun env k => o env fun t e1 => (match rdS e1 t with
  | some d => isStr d = true
  | none => False) ∧ a e1 fun u e2 => ob (rdS e2 t) fun d => ob (rdS e2 u) fun d2 => f d [d2] fun t => k t e2
theorem snd_m1 {r : V → List V → Hp → VK → Prop} {f : D → List D → (Slot → Prop) → Prop} {to te : TE} {o a : DX} (hc : MethV g r f) (ho : SndX g to o) (ha : SndX g te a) : SndX g (tM1 r to te) (xM1 f o a) := fun B env ts σ vs H k Q hl hv S h q => by
  refine ho B env ts σ vs H _ _ hl hv S h fun v H1 t e1 l1 b1 S1 h1 => ?_
  obtain ⟨h0, h1⟩ := h1
  refine ⟨?_, ?_⟩
  · split at h0
    · rename_i d ed
      obtain ⟨nb, F, own, S1'⟩ := S1
      have r := (S1'.rdT (k := ts.length) (t := t) (v := v) (by omega) (by simp) (by simp [← hv]) (by rw [l1]; exact b1) ed).mono (.refl F) (nob_ext _ _)
      cases d with
      | str s => exact ⟨mkS s, r⟩
      | _ => cases h0
    · exact h0.elim
  · refine ha B e1 (ts ++ [t]) σ (vs ++ [some v]) H1 _ _ (by omega) (by simp [hv]) S1 h1 fun y H2 u e2 l2 b2 S2 h2 => ?_
    obtain ⟨d, ed, h2⟩ := ob_el h2
    obtain ⟨d2, ed2, h2⟩ := ob_el h2
    obtain ⟨nb, F, own, S2⟩ := S2
    have hl2 : σ.length = e2.length := by omega
    have r0 := (S2.rdT (k := ts.length + 1) (t := u) (v := y) hl2 (by simp) (by simp [← hv]) (by rw [l2]; exact b2) ed2)
    have r1 := (S2.rdT (k := ts.length) (t := t) (v := v) hl2 (by simp) (by simp [← hv]) (by rw [l2, l1]; exact b1) ed)
    refine hc F H2 v [y] d [d2] _ Q S2.fh (r1.mono (.refl _) (nob_ext _ _)) ⟨y, [], rfl, r0.mono (.refl _) (nob_ext _ _), rfl⟩ h2 fun t' v' F' H' r p => ?_
    have S2' : StF g B F own (e2 ++ (ts ++ [t, u])) (σ ++ (vs ++ [some v, some y])) H2 := by simpa using S2
    exact q v' H' t' e2 (by omega) r.br (S2'.out hl2 hv nb (.inl rfl) r) p
def joinN (sep : List Nat) (l : List (List Nat)) : List Nat := TL.joinL sep l
theorem joinN_nil (l : List (List Nat)) : joinN [] l = l.flatten := by
  unfold joinN
  induction l with
  | nil => rfl
  | cons a l ih =>
    cases l with
    | nil => simp [TL.joinL]
    | cons b l => show a ++ ([] ++ TL.joinL [] (b :: l)) = _; rw [ih]; simp
def textsD : D → Option (List (List Nat))
  | .lst l => strsOf l
  | .tup l => strsOf l
  | _ => none
def fJoin (d : D) (ds : List D) (k : Slot → Prop) : Prop := match d, ds with
  | .str sep, [x] => ob (textsD x) fun ss => (ss.map (·.length)).sum + ss.length * sep.length ≤ 16777216 ∧ k (.fz (.str (joinN sep ss)))
  | _, _ => False
theorem mv_join : MethV g (fun x xs H Q => ∃ a p, ∃ ys : List Str, x = .str a ∧ xs = [.ref p] ∧ (SqL g.K H p (ys.map V.str) ∨ SqT g.K H p (ys.map V.str)) ∧
    (ys.map (·.length)).sum + ys.length * a.length ≤ 16777216 ∧ Q (.str (Txt.join a ys)) H) fJoin := fun F H x xs d ds post Q e rx rs h q => by
  unfold fJoin at h
  split at h
  · rename_i sep dx
    obtain ⟨ss, es, hz, h⟩ := ob_el h
    obtain ⟨y, r, ey, r1, er⟩ := rs
    have er : r = [] := er
    have ex : x = .str (mkS sep) := rx
    subst ey er ex
    have hz' : ((ss.map mkS).map (·.length)).sum + (ss.map mkS).length * (mkS sep).length ≤ 16777216 := by rw [SX.lens, List.length_map, SX.S_len]; exact hz
    have hq : Q (.str (Txt.join (mkS sep) (ss.map mkS))) H := by
      rw [SX.join_S]
      exact q _ _ _ _ (.scal (d := .str (joinN sep ss)) (v := .str (mkS (TL.joinL sep ss))) e rfl) h
    cases dx with
    | lst l =>
      obtain ⟨a, vs, rfl, h1, h2⟩ := r1
      have es : strsOf l = some ss := es
      rw [strsOf_eq es, Reps.strs] at h2
      subst h2
      exact ⟨_, a, ss.map mkS, rfl, rfl, .inl h1, hz', hq⟩
    | tup l =>
      obtain ⟨a, vs, rfl, h1, h2⟩ := r1
      have es : strsOf l = some ss := es
      rw [strsOf_eq es, Reps.strs] at h2
      subst h2
      exact ⟨_, a, ss.map mkS, rfl, rfl, .inr h1.sqT, hz', hq⟩
    | _ => cases es
  · exact h.elim
/-! ### xs.count(k): ints, texts -/
def eqs (k : Str) (v : Value) : Bool := match v with
  | .str n _ => n == k
  | _ => false
theorem eqs_gives {A : Around} {s : Shared} {k : Str} {t : Tok} : ∀ {us : List Value} {ns : List Str}, StrsAre us ns → ∀ y ∈ us, SeqAt.EqAt A s y (.str k t) (eqs k y)
  | _, _, .nil => fun y hy => by cases hy
  | _, _, .cons n t' h => fun y hy => by
    rcases List.mem_cons.mp hy with e | e
    · rw [e]; exact SeqAt.EqAt.str_str _ _ _ _
    · exact eqs_gives h y e
theorem eqs_count {k : List Nat} : ∀ {us : List Value} {ns : List (List Nat)}, StrsAre us (ns.map mkS) → us.countP (eqs (mkS k)) = ns.count k
  | us, [], h => by cases h; rfl
  | us, n :: ns, h => by
    rw [List.map_cons] at h
    cases h with
    | cons _ t h =>
      have ih := eqs_count (k := k) h
      rw [List.countP_cons, ih, List.count_cons]
      congr 1
      show (if (mkS n == mkS k) = true then 1 else 0) = _
      rw [SX.S_beq]
def rCntS (K : PySem.W.Frag) : V → List V → Hp → VK → Prop := fun x xs H Q => ∃ (p : Addr) (ns : List (List Nat)) (k : List Nat), x = .ref p ∧ xs = [.str (mkS k)] ∧ SqL K H p ((ns.map mkS).map V.str) ∧ Q (.int (ns.count k : Nat)) H
theorem mt_scount {X : Cx} : MtR X "list.count" (rCntS X.K) := by
  intro pins s σ H x xs v us Q I rx rxs h
  obtain ⟨p, ns, k, rfl, rfl, hs, q⟩ := h
  cases rx
  obtain ⟨u, rfl, ru⟩ := rxs.one
  obtain ⟨t, rfl⟩ := ru
  obtain ⟨its, rv, ⟨⟨cls, dd, data, sl⟩, n, ho, hc, hdn, hd⟩, hlen⟩ := I.list hs
  simp only at hc hd
  subst hc hd
  have hi := strs_of_vals rv
  refine call_meets PySem.F.slot_list_count ⟨_, ho, rfl⟩ PySem.F.entry_list_count (PySem.F.args_list_count_2 _ _)
    (SeqAt.list_countAt p its.toArray n dd sl (.str (mkS k) t) (eqs (mkS k))) ⟨ho, fun y hy => eqs_gives hi y (by simpa using hy), ?_⟩
  have ec : its.toArray.toList.countP (eqs (mkS k)) = ns.count k := eqs_count hi
  refine ⟨.int (ns.count k : Nat), H, I.tok _, ⟨s.toks, ?_⟩, q⟩
  show Value.int ((its.toArray.toList.countP (eqs (mkS k)) : Nat) : Int) s.toks = Value.int ((ns.count k : Nat) : Int) s.toks
  rw [ec]
def rCnt (K : PySem.W.Frag) : V → List V → Hp → VK → Prop := fun x xs H Q => rCntI K x xs H Q ∨ rCntS K x xs H Q
theorem mt_cnt {X : Cx} : MtR X "list.count" (rCnt X.K) := fun pins s σ H x xs v us Q I rx rs h => h.elim (mt_lcount pins s σ H x xs v us Q I rx rs) (mt_scount pins s σ H x xs v us Q I rx rs)
def fCnt (d : D) (ds : List D) (k : Slot → Prop) : Prop := match d, ds with
  | .lst l, [.int i] => ob (intsOf l) fun ns => k (.fz (.int (ns.count i : Nat)))
  | .lst l, [.str z] => ob (strsOf l) fun ns => k (.fz (.int (ns.count z : Nat)))
  | _, _ => False
theorem mv_cnt : MethV g (rCnt g.K) fCnt := fun F H x xs d ds post Q e rx rs h q => by
  unfold fCnt at h
  split at h
  · obtain ⟨ns, en, h⟩ := ob_el h
    obtain ⟨y, r, ey, r1, er⟩ := rs
    have er : r = [] := er
    have ev : y = .int _ := r1
    subst ey er ev
    obtain ⟨a, vs, rfl, h1, h2⟩ := rx
    rw [intsOf_eq en, Reps.ints] at h2
    subst h2
    exact .inl ⟨a, ns, _, rfl, rfl, h1, q _ _ _ _ (.scal (d := .int _) e rfl) h⟩
  · obtain ⟨ns, en, h⟩ := ob_el h
    obtain ⟨y, r, ey, r1, er⟩ := rs
    have er : r = [] := er
    have ev : y = .str (mkS _) := r1
    subst ey er ev
    obtain ⟨a, vs, rfl, h1, h2⟩ := rx
    rw [strsOf_eq en, Reps.strs] at h2
    subst h2
    exact .inr ⟨a, ns, _, rfl, rfl, h1, q _ _ _ _ (.scal (d := .int _) e rfl) h⟩
  · exact h.elim
/-! ### d.get(k, x) -/
def xGet2 (o a b : DX) : DX := fun env k => o env fun t e1 => (match rdS e1 t with
  | some (.dct _) => True
  | _ => False) ∧ a e1 fun u e2 => b e2 fun w e3 => match rdS e3 t, rdS e3 u, w with
  | some (.dct l), some kd, .fz z => keyOk kd = true ∧ k (.fz ((dget l kd).getD z)) e3
  | _, _, _ => False
theorem snd_get2 {to ta tb : TE} {o a b : DX} (ho : SndX g to o) (ha : SndX g ta a) (hb : SndX g tb b) : SndX g (tDGet2 to ta tb) (xGet2 o a b) := fun B env ts σ vs H k Q hl hv S h q => by
  refine ho B env ts σ vs H _ _ hl hv S h fun v H1 t e1 l1 b1 S1 h1 => ?_
  obtain ⟨h0, h1⟩ := h1
  have hd : ∃ a, v = .ref a ∧ IsD H1 a := by
    split at h0
    · rename_i l ed
      obtain ⟨nb, F, own, S1'⟩ := S1
      obtain ⟨p, kvs, e, r1, r2⟩ := (S1'.rdT (k := ts.length) (t := t) (v := v) (by omega) (by simp) (by simp [← hv]) (by rw [l1]; exact b1) ed).mono (.refl F) (nob_ext _ _)
      exact ⟨p, e, .inl ⟨kvs, r1⟩⟩
    · exact h0.elim
  obtain ⟨p, rfl, hd⟩ := hd
  refine ⟨p, rfl, hd, ha B e1 (ts ++ [t]) σ (vs ++ [some (.ref p)]) H1 _ _ (by omega) (by simp [hv]) S1 h1 fun y H2 u e2 l2 b2 S2 h2 => ?_⟩
  refine hb B e2 (ts ++ [t] ++ [u]) σ (vs ++ [some (.ref p)] ++ [some y]) H2 _ _ (by omega) (by simp [hv]) S2 h2 fun z H3 w e3 l3 b3 S3 h3 => ?_
  split at h3
  · rename_i l kd zd ed ek
    obtain ⟨hk, h3⟩ := h3
    obtain ⟨nb, F, own, S3⟩ := S3
    have hl3 : σ.length = e3.length := by omega
    obtain ⟨p', kvs, e, r1, r2⟩ := (S3.rdT (k := ts.length) (t := t) (v := .ref p) hl3 (by simp) (by simp [← hv]) (by rw [l3, l2, l1]; exact b1) ed).mono (.refl F) (nob_ext _ _)
    cases e
    have rk := (S3.rdT (k := ts.length + 1) (t := u) (v := y) hl3 (by simp) (by simp [← hv]) (by rw [l3, l2]; exact b2) ek).mono (.refl F) (nob_ext _ _)
    have rz := (S3.rdT (k := ts.length + 2) (t := .fz zd) (v := z) hl3 (by simp) (by simp [← hv]) (by intro _ q; cases q) rfl)
    obtain ⟨ov, z1, z2⟩ := S3.sl (e3.length + (ts.length + 2)) (.fz zd) (by rw [List.getElem?_append_right (by omega)]; simp)
    obtain ⟨vz, ez, rz⟩ := z2
    have z3 : (σ ++ (vs ++ [some (V.ref p)] ++ [some y] ++ [some z]))[e3.length + (ts.length + 2)]? = some (some z) := by rw [List.getElem?_append_right (by omega)]; simp [hl3, ← hv]
    rw [z3] at z1
    cases z1
    cases ez
    have hkd : (∃ i, kd = .int i) ∨ ∃ s, kd = .str s := by
      cases kd <;> simp [keyOk] at hk <;> simp
    obtain ⟨kk, e7, e8⟩ := key_of (g := g) (F := F) (by rcases hkd with ⟨_, rfl⟩ | ⟨_, rfl⟩ <;> exact rk) hkd
    have e7 : y = kV kk := e7
    subst e8
    refine ⟨valV kvs kk, .inl ⟨kvs, kk, r1, e7, rfl⟩, ?_⟩
    have S3' : StF g B F own (e3 ++ (ts ++ [t, u, .fz zd])) (σ ++ (vs ++ [some (V.ref p), some y, some z])) H3 := by simpa using S3
    rcases r2.get kk with ⟨d', v', q1, q2, q3⟩ | ⟨q1, q2⟩
    · rw [q1] at h3
      rw [q2]
      exact q v' H3 (.fz d') e3 (by omega) (by intro _ z; cases z) (S3'.out hl3 hv nb (.inl rfl) (.scal S3.fh q3)) h3
    · rw [q1] at h3
      rw [q2]
      exact q z H3 (.fz zd) e3 (by omega) (by intro _ z; cases z) (S3'.out hl3 hv nb (.inl rfl) (.scal S3.fh rz)) h3
  · exact h3.elim
/-! ### list(text), sorted(list) -/
def rListT : List V → Hp → VK → Prop := fun xs H Q => ∃ z : Str, xs = [.str z] ∧ z.length ≤ sizeLine ∧ ∀ p, H p = none → Q (.ref p) (upd H p (.lst (z.cps.toList.map fun c => V.str (mkS [c]))))
theorem call_listT {X : Cx} (hc : X.calm = true) : CallR X (.type "list") rListT := by
  intro pins s σ H xs us Q I r h
  obtain ⟨z, rfl, hz, q⟩ := h
  obtain ⟨u, rfl, ru⟩ := vals1 r
  obtain ⟨t, rfl⟩ := ru
  refine call_list_str (I.ok.hd hc) z t (hn := hz) fun h' tk acc' c' hk hS' hacc => ?_
  have hv : Vals (z.cps.toList.map fun c => V.str (mkS [c])) acc'.toList := by
    have hl : acc'.size = z.cps.size := hacc.1
    have key : ∀ (i : Nat) (l : List Nat) (us : List Value), l.length = us.length → (∀ (j : Nat) (v : Value), us[j]? = some v → ∃ (c : Nat) (u : Tok), l[j]? = some c ∧ v = Value.str (mkS [c]) u) → Vals (l.map fun c => V.str (mkS [c])) us := by
      intro i l
      induction l with
      | nil => intro us hl _; cases us with
        | nil => exact .nil
        | cons _ _ => simp at hl
      | cons c l ih => intro us hl hj; cases us with
        | nil => simp at hl
        | cons u us =>
          obtain ⟨c', u', e1, e2⟩ := hj 0 u rfl
          cases e1
          exact .cons ⟨u', e2⟩ (ih us (by simpa using hl) fun j v e => hj (j + 1) v e)
    refine key 0 z.cps.toList acc'.toList (by rw [Array.length_toList, Array.length_toList, hl]) fun j v e => ?_
    obtain ⟨c, u, h1, h2⟩ := hacc.2 j v (by rw [← Array.getElem?_toList]; exact e)
    exact ⟨c, u, by rw [Array.getElem?_toList]; exact h1, h2⟩
  have hlen : (z.cps.toList.map fun c => V.str (mkS [c])).length ≤ sizeLine := by rw [List.length_map, Array.length_toList]; exact hz
  exact ⟨.ref s.heap.objs.size, _, I.laid (t' := tk) hk (Nat.le_refl _) (show ObjOk X.prog X.w _ h' _ (.lst _) from ⟨hlen, acc'.toList, c', hv, by simpa using hS'⟩), rfl, q _ (I.hok.fresh (Nat.le_refl _))⟩
def rListB (K : PySem.W.Frag) : List V → Hp → VK → Prop := fun xs H Q => rListA K xs H Q ∨ rListT xs H Q
theorem call_listB {X : Cx} (hc : X.calm = true) : CallR X (.type "list") (rListB X.K) := CallR.or (call_listA hc) (call_listT hc)
def fListB (ds : List D) (k : Slot → Prop) : Prop := match ds with
  | [.str s] => s.length ≤ sizeLine ∧ k (.ow (.lst (s.map fun c => .str [c])))
  | [d] => ob (listD d) fun l => k (.ow (.lst l))
  | _ => False
theorem cv_listB : CallV g (rListB g.K) fListB := fun F H xs ds post Q e r h q => by
  unfold fListB at h
  split at h
  · rename_i s
    obtain ⟨y, r', ey, r1, er⟩ := r
    have er : r' = [] := er
    have ev : y = .str (mkS s) := r1
    subst ey er ev
    refine .inr ⟨mkS s, rfl, by rw [mkS_len]; exact h.1, fun p hp => q _ _ _ _ (.own (d := .lst _) e hp ?_) h.2⟩
    have : (s.map fun c => D.str [c]) = (s.map fun c => [c]).map D.str := by rw [List.map_map]; rfl
    rw [this]
    refine Reps.strs.mpr ?_
    rw [List.map_map, List.map_map]
    simp [mkS]
  · rename_i d hd
    exact .inl (cv_list F H xs [d] post Q e r h q)
  · exact h.elim
def rSortedT (K : PySem.W.Frag) : List V → Hp → VK → Prop := fun vs H Q => ∃ (a : Addr) (ns : List Str), vs = [V.ref a] ∧ SqL K H a (ns.map V.str) ∧
  ∀ (ns' : List Str) (p : Addr), ns'.Perm ns → ns'.Pairwise (fun a b => ¬ b.cps.toList < a.cps.toList) → H p = none → Q (.ref p) (upd H p (.lst (ns'.map V.str)))
theorem svS : ∀ {vs : List Value} {ss : List Str}, StrsAre vs ss → (vs.map sv).map mkS = ss
  | _, _, .nil => rfl
  | _, _, .cons x t h => by
    rw [List.map_cons, List.map_cons, svS h]
    exact congrArg (· :: _) (mkS_cps x)
theorem cr_sortedT {X : Cx} : CallR X (.builtin "sorted") (rSortedT X.K) := by
  intro pins s σ H vs us Q I r h
  obtain ⟨a, ns, rfl, hs, q⟩ := h
  obtain ⟨its, rv, hl, hz⟩ := I.list hs
  rw [Vals.ref1 r]
  have hi := strs_of_vals rv
  refine SrtO.sorted_ord swo_sv hl.isList (by rw [← rv.length]; exact hz) (fun h2 h₁ a' _ _ => strs_sortable hi h2) fun out h1 h2 => ?_
  have hp : out.Perm its := h2.perm
  have ho : StrsAre out ((out.map sv).map mkS) := by
    have : ∀ l : List Value, (∀ v ∈ l, ∃ x t, v = Value.str x t) → StrsAre l ((l.map sv).map mkS) := by
      intro l
      induction l with
      | nil => intro _; exact .nil
      | cons v l ih =>
        intro h
        obtain ⟨x, t, rfl⟩ := h v List.mem_cons_self
        have e : mkS (sv (.str x t)) = x := mkS_cps x
        rw [List.map_cons, List.map_cons, e]
        exact .cons x t (ih fun u hu => h u (List.mem_cons_of_mem _ hu))
    exact this out fun v hv => strs_mem hi v (hp.mem_iff.mp hv)
  have pk : ((out.map sv).map mkS).Perm ns := by
    have := (hp.map sv).map mkS
    rw [svS hi] at this
    exact this
  obtain ⟨ep, he'⟩ := PyProof.Rows.sortedAll_at s.heap its out.toArray
  have hlen : (((out.map sv).map mkS).map V.str).length ≤ sizeLine := by
    rw [List.length_map, pk.length_eq]
    rw [List.length_map] at hz
    exact hz
  refine ⟨.ref _, upd H (s.heap.objs.size + 1) (.lst (((out.map sv).map mkS).map V.str)), I.laid (t' := s.toks) (fun _ _ => PyProof.Rows.sortedAll_old) (Nat.le_succ _) ⟨hlen, out, ep, vals_of_strs ho, he'⟩, rfl, q _ _ pk ?_ (I.hok.fresh (Nat.le_succ _))⟩
  refine List.pairwise_map.mpr (List.pairwise_map.mpr (h1.imp fun {x y} h => ?_))
  simpa [mkS] using of_decide_eq_false (p := sv y < sv x) h
def rSortA (K : PySem.W.Frag) : List V → Hp → VK → Prop := fun xs H Q => rSortedI K xs H Q ∨ (rSortedT K xs H Q ∨ ((∃ (a : Addr) (kvs : List (Key × V)) (ks : List Str), xs = [.ref a] ∧ Rd H a (.dK kvs) ∧ kvs.map (·.1) = ks.map Sum.inr ∧ ks.length < 64 ∧
    ∀ ys p, ys.Perm ks → sortedS ys = true → H p = none → Q (.ref p) (upd H p (.lst (ys.map V.str)))) ∨ (∃ (a : Addr) (kvs : List (Key × V)) (ks : List Int), xs = [.ref a] ∧ Rd H a (.dK kvs) ∧ kvs.map (·.1) = ks.map Sum.inl ∧ ks.length < 64 ∧
    ∀ (ys : List Int) (p : Addr), ys.Perm ks → ys.Pairwise (· ≤ ·) → H p = none → Q (.ref p) (upd H p (.lst (ys.map V.int))))))
theorem cr_sortA {X : Cx} (hc : X.calm = true) : CallR X (.builtin "sorted") (rSortA X.K) := CallR.or cr_sortedI (CallR.or cr_sortedT (CallR.or (call_sortedD hc) (call_sortedDI hc)))
def fSort (ds : List D) (k : Slot → Prop) : Prop := match ds with
  | [.lst l] => ob (sortD l) fun m => k (.ow (.lst m))
  | [.dct l] => l.length < 64 ∧ ob (sortD (l.map (·.1))) fun m => k (.ow (.lst m))
  | _ => False
theorem sortedS_up : ∀ {l : List Str}, sortedS l = true → l.Pairwise (fun a b => ¬ b.cps.toList < a.cps.toList) := by
  have step : ∀ (l : List Str) (x : Str), risingS x l = true → (∀ y ∈ l, ¬ y.cps.toList < x.cps.toList) ∧ l.Pairwise (fun a b => ¬ b.cps.toList < a.cps.toList) := by
    intro l
    induction l with
    | nil => intro x _; exact ⟨fun y hy => absurd hy (by simp), .nil⟩
    | cons z l ih =>
      intro x h
      have h : (!ltCps z.cps.toList x.cps.toList && risingS z l) = true := h
      rw [Bool.and_eq_true, Bool.not_eq_true', ltCps_eq] at h
      have h1 : ¬ z.cps.toList < x.cps.toList := of_decide_eq_false h.1
      obtain ⟨i1, i2⟩ := ih z h.2
      refine ⟨fun y hy => ?_, List.pairwise_cons.mpr ⟨i1, i2⟩⟩
      rcases List.mem_cons.mp hy with e | hy
      · rw [e]; exact h1
      · have h3 := i1 y hy
        exact fun z => (List.le_trans (List.not_lt.mp h1) (List.not_lt.mp h3)) z
  intro l h
  cases l with
  | nil => exact .nil
  | cons x l =>
    obtain ⟨h1, h2⟩ := step l x h
    exact List.pairwise_cons.mpr ⟨h1, h2⟩
theorem RepK.keysI : ∀ {l : List (D × D)} {kvs : List (Key × V)} {ns : List Int}, RepK g l kvs F → intsOf (l.map (·.1)) = some ns → kvs.map (·.1) = ns.map Sum.inl
  | [], _, _, h, e => by cases h; cases e; rfl
  | (k, d) :: l, _, ns, ⟨q, v, r, e, ek, h1, h⟩, en => by
    subst e ek
    cases q with
    | inl i =>
      have en : (intsOf (l.map (·.1))).map (i :: ·) = some ns := en
      cases e3 : intsOf (l.map (·.1)) with
      | none => rw [e3] at en; cases en
      | some m => rw [e3] at en; cases en; rw [List.map_cons, List.map_cons, h.keysI e3]
    | inr s => cases en
theorem RepK.keysS : ∀ {l : List (D × D)} {kvs : List (Key × V)} {ns : List (List Nat)}, RepK g l kvs F → strsOf (l.map (·.1)) = some ns → kvs.map (·.1) = (ns.map mkS).map Sum.inr
  | [], _, _, h, e => by cases h; cases e; rfl
  | (k, d) :: l, _, ns, ⟨q, v, r, e, ek, h1, h⟩, en => by
    subst e ek
    cases q with
    | inr i =>
      have en : (strsOf (l.map (·.1))).map (i.cps.toList :: ·) = some ns := en
      cases e3 : strsOf (l.map (·.1)) with
      | none => rw [e3] at en; cases en
      | some m => rw [e3] at en; cases en; rw [List.map_cons, List.map_cons, List.map_cons, h.keysS e3]
    | inl s => cases en
theorem strs_back {ns : List (List Nat)} {ys : List Str} (p : ys.Perm (ns.map mkS)) (u : ys.Pairwise (fun a b => ¬ b.cps.toList < a.cps.toList)) : ys = (sortT ns).map mkS := by
  have e : ys = (ys.map fun y => y.cps.toList).map mkS := by
    rw [List.map_map]
    conv => lhs; rw [← List.map_id ys]
    exact List.map_congr_left fun y _ => (mkS_cps y).symm
  have e2 : (ys.map fun y => y.cps.toList) = sortT ns := by
    refine sortT_only ?_ (List.pairwise_map.mpr u)
    have := p.map fun y : Str => y.cps.toList
    rw [List.map_map] at this
    simpa [mkS, Function.comp_def] using this
  rw [e, e2]
theorem cv_sort : CallV g (rSortA g.K) fSort := fun F H xs ds post Q e r h q => by
  unfold fSort at h
  split at h
  · rename_i l
    obtain ⟨m, em, h⟩ := ob_el h
    obtain ⟨y, r', ey, r1, er⟩ := r
    have er : r' = [] := er
    subst ey er
    obtain ⟨a, vs, rfl, h1, h2⟩ := r1
    unfold sortD at em
    cases hi : intsOf l with
    | some ns =>
      rw [hi] at em
      cases em
      rw [intsOf_eq hi, Reps.ints] at h2
      subst h2
      refine .inl ⟨a, ns, rfl, h1, fun ns' p hp up hn => ?_⟩
      rw [sortI_only hp up]
      exact q _ _ _ _ (.own (d := .lst _) e hn (Reps.ints.mpr rfl)) h
    | none =>
      rw [hi] at em
      cases hs : strsOf l with
      | none => rw [hs] at em; cases em
      | some ns =>
        rw [hs] at em
        cases em
        rw [strsOf_eq hs, Reps.strs] at h2
        subst h2
        refine .inr (.inl ⟨a, ns.map mkS, rfl, h1, fun ns' p hp up hn => ?_⟩)
        rw [strs_back hp up]
        exact q _ _ _ _ (.own (d := .lst _) e hn (Reps.strs.mpr rfl)) h
  · rename_i l
    obtain ⟨h64, h⟩ := h
    obtain ⟨m, em, h⟩ := ob_el h
    obtain ⟨y, r', ey, r1, er⟩ := r
    have er : r' = [] := er
    subst ey er
    obtain ⟨a, kvs, rfl, h1, h2⟩ := r1
    unfold sortD at em
    cases hi : intsOf (l.map (·.1)) with
    | some ns =>
      rw [hi] at em
      cases em
      have hl : ns.length = l.length := by rw [← List.length_map (f := D.int) (as := ns), ← intsOf_eq hi, List.length_map]
      refine .inr (.inr (.inr ⟨a, kvs, ns, rfl, h1, h2.keysI hi, by omega, fun ys p hp up hn => ?_⟩))
      rw [sortI_only hp up]
      exact q _ _ _ _ (.own (d := .lst _) e hn (Reps.ints.mpr rfl)) h
    | none =>
      rw [hi] at em
      cases hs : strsOf (l.map (·.1)) with
      | none => rw [hs] at em; cases em
      | some ns =>
        rw [hs] at em
        cases em
        have hl : ns.length = l.length := by rw [← List.length_map (f := D.str) (as := ns), ← strsOf_eq hs, List.length_map]
        refine .inr (.inr (.inl ⟨a, kvs, ns.map mkS, rfl, h1, h2.keysS hs, by rw [List.length_map]; omega, fun ys p hp up hn => ?_⟩))
        rw [strs_back hp (sortedS_up up)]
        exact q _ _ _ _ (.own (d := .lst _) e hn (Reps.strs.mpr rfl)) h
  · exact h.elim
end
end DL
set_option maxRecDepth 100000
set_option maxHeartbeats 4000000
namespace DL
open PySem PySem.Spec PyProof.Rows L2
section
variable {g : G} {B : Bs} {F F' H H' : Hp} {own : Addr → Nat} {env ts : En} {σ vs : L2.St}
/-! ### zip -/
def zipD (l m : List D) : List D := List.zipWith (fun a b => .tup [a, b]) l m
def iZipD (a : DA) : DI := fun env k => a env fun as e1 => match as with
  | [t, u] => ob (frzB e1 t) fun p => ob (frzB p.2 u) fun q => (match p.1, q.1 with
    | .lst l, .lst m => k (zipD l m) q.2
    | .tup l, .tup m => k (zipD l m) q.2
    | _, _ => False)
  | _ => False
theorem zipD_at {l m : List D} {i : Nat} {a b : D} (h1 : l[i]? = some a) (h2 : m[i]? = some b) : (zipD l m)[i]? = some (.tup [a, b]) := by
  unfold zipD
  rw [List.getElem?_zipWith, h1, h2]
theorem zipD_len {l m : List D} {i : Nat} (h : i < (zipD l m).length) : i < l.length ∧ i < m.length := by
  unfold zipD at h
  rw [List.length_zipWith] at h
  omega
theorem zipD_end {l m : List D} {i : Nat} (h : (zipD l m).length ≤ i) : l.length ≤ i ∨ m.length ≤ i := by
  unfold zipD at h
  rw [List.length_zipWith] at h
  omega
theorem walk_zip {Hb : Hp} {a b : Addr} {xs ys : List V} {l m : List D} (hs : ∀ H', Ext F H' → Ext Hb H' → SqL g.K H' a xs) (hs2 : ∀ H', Ext F H' → Ext Hb H' → SqL g.K H' b ys) (r : Reps g l xs F) (r2 : Reps g m ys F) : Walk g F Hb (Itz g.K a b) (zipD l m) := fun F' H' x e hb i => by
  have hq := hs H' (x.trans e) hb
  have hq2 := hs2 H' (x.trans e) hb
  refine ⟨fun hi => ⟨xs, ys, hq, hq2, by rw [r.len, r2.len]; exact zipD_end hi⟩, fun hi => ?_⟩
  obtain ⟨i1, i2⟩ := zipD_len hi
  have e1 := List.getElem?_eq_getElem i1
  have e2 := List.getElem?_eq_getElem i2
  obtain ⟨v, ev, rv⟩ := r.get e1
  obtain ⟨u, eu, ru⟩ := r2.get e2
  refine ⟨⟨xs, ys, v, u, hq, hq2, ev, eu⟩, fun y H'' hy => ?_⟩
  obtain ⟨T, x1, x2, ey, nT, eH, f1, f2⟩ := hy
  have q1 : x1 = v := Option.some.inj ((f1 xs hq).symm.trans ev)
  have q2 : x2 = u := Option.some.inj ((f2 ys hq2).symm.trans eu)
  subst ey eH q1 q2
  exact ⟨_, _, zipD_at e1 e2, .tup e nT (.cons (rv.mono x) (.one (ru.mono x)))⟩
theorem walk_zipT {Hb : Hp} {a b : Addr} {xs ys : List V} {l m : List D} (hs : ∀ H', Ext F H' → Ext Hb H' → SqT g.K H' a xs) (hs2 : ∀ H', Ext F H' → Ext Hb H' → SqT g.K H' b ys) (r : Reps g l xs F) (r2 : Reps g m ys F) : Walk g F Hb (RZ.ItzT g.K a b) (zipD l m) := fun F' H' x e hb i => by
  have hq := hs H' (x.trans e) hb
  have hq2 := hs2 H' (x.trans e) hb
  refine ⟨fun hi => ⟨xs, ys, hq, hq2, by rw [r.len, r2.len]; exact zipD_end hi⟩, fun hi => ?_⟩
  obtain ⟨i1, i2⟩ := zipD_len hi
  have e1 := List.getElem?_eq_getElem i1
  have e2 := List.getElem?_eq_getElem i2
  obtain ⟨v, ev, rv⟩ := r.get e1
  obtain ⟨u, eu, ru⟩ := r2.get e2
  refine ⟨⟨xs, ys, v, u, hq, hq2, ev, eu⟩, fun y H'' hy => ?_⟩
  obtain ⟨T, x1, x2, ey, nT, eH, f1, f2⟩ := hy
  have q1 : x1 = v := Option.some.inj ((f1 xs hq).symm.trans ev)
  have q2 : x2 = u := Option.some.inj ((f2 ys hq2).symm.trans eu)
  subst ey eH q1 q2
  exact ⟨_, _, zipD_at e1 e2, .tup e nT (.cons (rv.mono x) (.one (ru.mono x)))⟩
/-- a list at hand, kept or borrowed -/
theorem at_lst {Hb : Hp} {l : List D} {v : V} (r : Rep g (.lst l) v F ∨ RepC g F Hb (.lst l) v) : ∃ a xs, v = .ref a ∧ (∀ H', Ext F H' → Ext Hb H' → SqL g.K H' a xs) ∧ Reps g l xs F := by
  rcases r with ⟨a, xs, ev, hs, hr⟩ | ⟨a, xs, ev, hs, hr⟩
  · exact ⟨a, xs, ev, fun H' x _ => x.l hs, hr⟩
  · exact ⟨a, xs, ev, fun H' _ x => x.l hs, hr⟩
theorem at_tup {Hb : Hp} {l : List D} {v : V} (r : Rep g (.tup l) v F ∨ RepC g F Hb (.tup l) v) : ∃ a xs, v = .ref a ∧ (∀ H', Ext F H' → Ext Hb H' → SqT g.K H' a xs) ∧ Reps g l xs F := by
  rcases r with ⟨a, xs, ev, hs, hr⟩ | ⟨a, xs, ev, hs, hr⟩
  · exact ⟨a, xs, ev, fun H' x _ => (x.t hs).sqT, hr⟩
  · exact ⟨a, xs, ev, fun H' _ x => (x.t hs).sqT, hr⟩
theorem or_mono {d : D} {v : V} {Hb : Hp} (x : Ext F F') (r : Rep g d v F ∨ RepC g F Hb d v) : Rep g d v F' ∨ RepC g F' Hb d v := r.imp (·.mono x) (·.mono x (.refl _))
theorem snd_zip {ta : TA} {a : DA} (h1 : SndA g ta a) : SndI g (RZ.iZipA g.K ta) (iZipD a) := fun B env ts σ vs H k R hl hv S h q => by
  refine h1 B env ts σ vs H _ _ hl hv S h fun xs H1 as e1 l1 la b1 S1 h1 => ?_
  match as, xs, la with
  | [t, u], [v, w], _ =>
    obtain ⟨⟨d, e2⟩, ef, h1⟩ := ob_el h1
    obtain ⟨⟨d2, e3⟩, ef2, h1⟩ := ob_el h1
    obtain ⟨nb, F, own, S1⟩ := S1
    obtain ⟨F2, t', S2, x, l2, nb2, r⟩ := S1.frzB (k := ts.length) (t := t) (v := v) (by omega) nb (by simp) (by simp [← hv]) (by rw [l1]; exact b1 t (by simp)) ef
    have es : (ts ++ [t, u]).set ts.length t' = ts ++ [t', u] := by simp
    rw [es] at S2
    obtain ⟨F3, u', S3, x3, l3, nb3, r3⟩ := S2.frzB (k := ts.length + 1) (t := u) (v := w) (by omega) nb2 (by simp) (by simp [← hv]) (by rw [l2, l1]; exact b1 u (by simp)) ef2
    have es : (ts ++ [t', u]).set (ts.length + 1) u' = ts ++ [t', u'] := by simp
    rw [es] at S3
    have S4 : StF g B F3 own (e3 ++ ts) (σ ++ vs) H1 := S3.drop (by omega) hv
    have r' := or_mono x3 r
    cases d with
    | lst l =>
      cases d2 with
      | lst m =>
        obtain ⟨a1, xs, ev, p1, q1⟩ := at_lst r'
        obtain ⟨a2, ys, ew, p2, q2⟩ := at_lst r3
        subst ev ew
        exact ⟨a1, a2, xs, ys, rfl, .inl ⟨p1 H1 S4.fh S4.hb, p2 H1 S4.fh S4.hb, q _ H1 _ e3 F3 own (by omega) nb3 S4 (walk_zip p1 p2 q1 q2) h1⟩⟩
      | _ => exact h1.elim
    | tup l =>
      cases d2 with
      | tup m =>
        obtain ⟨a1, xs, ev, p1, q1⟩ := at_tup r'
        obtain ⟨a2, ys, ew, p2, q2⟩ := at_tup r3
        subst ev ew
        exact ⟨a1, a2, xs, ys, rfl, .inr ⟨p1 H1 S4.fh S4.hb, p2 H1 S4.fh S4.hb, q _ H1 _ e3 F3 own (by omega) nb3 S4 (walk_zipT p1 p2 q1 q2) h1⟩⟩
      | _ => exact h1.elim
    | _ => exact h1.elim
  | [], _, _ => exact h1.elim
  | [_], _, _ => exact h1.elim
  | _ :: _ :: _ :: _, _, _ => exact h1.elim
/-! ### kept from here on -/
def iceE (env : En) (i : Nat) : En := match env[i]? with
  | some (.ow d) => env.set i (.fz d)
  | _ => env
theorem iceE_len (env : En) (i : Nat) : (iceE env i).length = env.length := by
  unfold iceE
  split
  · simp
  · rfl
theorem St.ice {i : Nat} (S : St g B env ts σ vs H) : St g B (iceE env i) ts σ vs H := by
  unfold iceE
  split
  · rename_i d e
    obtain ⟨nb, F, own, S⟩ := S
    have hi := (List.getElem?_eq_some_iff.mp e).1
    have e' : (env ++ ts)[i]? = some (.ow d) := by rw [List.getElem?_append_left hi]; exact e
    obtain ⟨ov, h1, p, o, e1, _⟩ := S.sl i _ e'
    subst e1
    obtain ⟨F', S', _, _⟩ := S.ice e' h1
    rw [List.set_append_left _ _ hi] at S'
    refine ⟨fun s hs j => ?_, F', own, S'⟩
    rcases List.mem_or_eq_of_mem_set hs with h | h
    · exact nb s h j
    · rw [h]; intro z; cases z
  · exact S
def xIce (i : Nat) (a : DX) : DX := fun env k => a (iceE env i) k
theorem snd_iceX {i : Nat} {te : TE} {a : DX} (h : SndX g te a) : SndX g te (xIce i a) := fun B env ts σ vs H k Q hl hv S p q => by
  have l := iceE_len env i
  exact h B (iceE env i) ts σ vs H k Q (by omega) hv S.ice p fun v H' t e1 l1 b1 S1 z => q v H' t e1 (by omega) (by rw [← l]; exact b1) S1 z
def sIce (i : Nat) (a : DS) : DS := fun E env => a E (iceE env i)
theorem snd_iceS {i : Nat} {t : TS} {a : DS} (h : SndS g t a) : SndS g t (sIce i a) := fun B env σ H E D hl S p k => by
  have l := iceE_len env i
  exact h B (iceE env i) σ H E D (by omega) S.ice p (by rw [l]; exact k)
/-! ### isinstance -/
def tyOfD : D → String
  | .non => "NoneType"
  | .bl _ => "bool"
  | .int _ => "int"
  | .str _ => "str"
  | .lst _ => "list"
  | .tup _ => "tuple"
  | .dct _ => "dict"
  | .dcu _ => "?"
  | .web _ _ => "?"
theorem tyx_of {d : D} {v : V} (r : RepC g F H d v) (h : tyOfD d ≠ "?") : TyX g.K H v (.type (tyOfD d)) := by
  cases d with
  | non => have e : v = .non := r; subst e; exact .base .non
  | bl b => have e : v = .bl b := r; subst e; exact .base (.bl b)
  | int b => have e : v = .int b := r; subst e; exact .base (.int b)
  | str b => have e : v = .str (mkS b) := r; subst e; exact .base (.str _)
  | lst l =>
    obtain ⟨a, xs, rfl, h1, _⟩ := r
    rcases h1 with (h1 | ⟨o, h1⟩) | ⟨o, _, _, h1, h2, _⟩
    · exact .base (.lst h1)
    · exact .base (.frz h1)
    · exact .kList h1 h2
  | tup l =>
    obtain ⟨a, xs, rfl, h1, _⟩ := r
    rcases h1 with h1 | ⟨o, _, _, h1, h2, _⟩
    · exact .base (.tup h1)
    · exact .kTuple h1 h2
  | dct l =>
    obtain ⟨a, xs, rfl, h1, _⟩ := r
    rcases h1 with h1 | ⟨o, h1⟩
    · exact .base (.dK h1)
    · exact .fDict h1
  | dcu l => exact absurd rfl h
  | web m e => exact absurd rfl h
def isiD (T : String) (d : D) : Bool := tyOfD d == T || (T == "int" && tyOfD d == "bool")
def clsOk (T : String) : Bool := ["dict", "list", "tuple", "bool", "int", "str"].contains T
def kitT (T : String) : Bool := ["NoneType", "bool", "int", "str", "list", "tuple", "dict"].all fun t => kitB t T == some (t == T || (T == "int" && t == "bool"))
theorem kit_all : ["dict", "list", "tuple", "bool", "int", "str"].all kitT = true := by decide +kernel
theorem kit_isi {K : PySem.W.Frag} {T : String} {d : D} (h : clsOk T = true) (hd : tyOfD d ≠ "?") : PySem.W.kitOne K (.type (tyOfD d)) (.type T) = some (isiD T d) := by
  have h1 := List.all_eq_true.mp kit_all T (by simpa [clsOk] using h)
  have h2 := List.all_eq_true.mp h1 (tyOfD d) (by cases d <;> first | (exact absurd rfl hd) | simp [tyOfD])
  exact kit_ty (eq_of_beq h2)
def xIsi (T : String) (a : DX) : DX := fun env k => a env fun t e1 => ob (rdS e1 t) fun d => tyOfD d ≠ "?" ∧ k (.fz (.bl (isiD T d))) e1
theorem snd_isi {T : String} {te : TE} {a : DX} (hT : clsOk T = true) (h1 : SndX g te a) : SndX g (tCB (rIsi g.K) (tCons te (tCons (tC (.ty T)) tNil))) (xIsi T a) := fun B env ts σ vs H k Q hl hv S h q => by
  refine h1 B env ts σ vs H _ _ hl hv S h fun v H1 t e1 l1 b1 S1 p => ?_
  obtain ⟨d, ed, hn, p⟩ := ob_el p
  obtain ⟨nb, F, own, S1⟩ := S1
  have r := (S1.rdT (k := ts.length) (t := t) (v := v) (by omega) (by simp) (by simp [← hv]) (by rw [l1]; exact b1) ed).mono (.refl F) (nob_ext _ _)
  exact ⟨v, .ty T, _, _, _, rfl, .ty T, tyx_of r hn, kit_isi hT hn, q _ _ (.fz (.bl (isiD T d))) e1 l1 (by intro _ z; cases z) (S1.out (by omega) hv nb (.inl rfl) (.scal (d := .bl _) S1.fh rfl)) p⟩
def xIsi2 (T U : String) (a : DX) : DX := fun env k => a env fun t e1 => ob (rdS e1 t) fun d => tyOfD d ≠ "?" ∧ k (.fz (.bl (isiD T d || isiD U d))) e1
theorem snd_isi2 {T U : String} {te : TE} {a : DX} (hT : clsOk T = true) (hU : clsOk U = true) (h1 : SndX g te a) : SndX g (tCB (rIsiT g.K) (tCons te (tCons (tTup (tCons (tC (.ty T)) (tCons (tC (.ty U)) tNil))) tNil))) (xIsi2 T U a) := fun B env ts σ vs H k Q hl hv S h q => by
  refine h1 B env ts σ vs H _ _ hl hv S h fun v H1 t e1 l1 b1 S1 p => ?_
  obtain ⟨d, ed, hn, p⟩ := ob_el p
  obtain ⟨nb, F, own, S1⟩ := S1
  have r := (S1.rdT (k := ts.length) (t := t) (v := v) (by omega) (by simp) (by simp [← hv]) (by rw [l1]; exact b1) ed).mono (.refl F) (nob_ext _ _)
  refine ⟨by show 2 ≤ sizeLine; decide, fun tp htp => ?_⟩
  have r2 := r.mono (.refl F) (Ext.new (o := .tup [.ty T, .ty U]) htp)
  have ek : PySem.W.kitAny g.K (.type (tyOfD d)) [.type T, .type U] = some (isiD T d || isiD U d) := by
    refine kitAny_cons (kit_isi hT hn) (fun e => kitAny_cons (kit_isi hU hn) (fun e2 => ?_) (fun e2 => by rw [e2, Bool.or_true])) (fun e => by rw [e, Bool.true_or])
    rw [kitAny_nil, e, e2]
    rfl
  refine ⟨v, tp, [.ty T, .ty U], _, [.type T, .type U], _, rfl, upd_same, .cons (.ty T) (.cons (.ty U) .nil), tyx_of r2 hn, ek, ?_⟩
  exact q _ _ (.fz (.bl (isiD T d || isiD U d))) e1 l1 (by intro _ z; cases z) (S1.out (by omega) hv nb (.inl rfl) ⟨.refl F, S1.fh.trans (.new htp), fun a u _ h => (Ext.new htp) a u h, fun _ _ h => .inl h, (fun _ z => nomatch z), rfl⟩) p
/-! ### any, all of a comprehension: as it is; text * int -/
def fRep (a b : D) (k : Slot → Prop) : Prop := match a, b with
  | .str s, .int n => (s.length : Int) * n ≤ 16777216 ∧ k (.fz (.str (List.replicate n.toNat s).flatten))
  | _, _ => False
end
section
variable {P : Program} {w : World} {K : PySem.W.Frag} {mg : Str → Option Value} {base : Heap}
/-! ### a def that may be called -/
def Cal (P : Program) (w : World) (K : PySem.W.Frag) (mg : Str → Option Value) (base : Heap) (C : Addr) (x : Str) (k : Nat) (ps : List Str) (ms : List Mode) (c : Con) : Prop :=
  ∃ f fd, FnOk P w K mg base CX0 k f fd ps (spD ⟨K, C, P, w⟩ ms c) ∧ PySem.W.keepIn K (.ref f) = true ∧ Binds K fd ps [] ∧ mg x = some (.ref f)
theorem pe_cal {X : Cx} {C : Addr} {x : Str} {k j : Nat} {ps : List Str} {ms : List Mode} {c : Con} {e : Expr} {es : List Expr} {t : TA} {p pos : Pos} {E : XK} (h : Cal X.prog X.w X.K X.mg X.base C x k ps ms c) (hr : Room j X.A) (hk : k ≤ j) (hg : Gl X x) (ha : PA X (e :: es) t)
    (hdb : (x == ("__debug__" : Str)) = false := by decide) (he : starEach (e :: es) X.env = (false, eval e X.env) :: starEach es X.env := by rfl) (hpl : (backTo pos (starEach es X.env)).any (·.1) = false := by rfl) :
    PE X (.Call (.Name x p) (e :: es) [] pos) (tCall (spD ⟨X.K, C, X.prog, X.w⟩ ms c) [] E t) := by
  obtain ⟨f, fd, F, hk', hb, hm⟩ := h
  exact pe_call F (hr.mono hk) hg hm hk' hb .nil pass0 ha hdb he hpl
theorem pe_cal0 {X : Cx} {C : Addr} {x : Str} {k j : Nat} {ps : List Str} {ms : List Mode} {c : Con} {p pos : Pos} {E : XK} (h : Cal X.prog X.w X.K X.mg X.base C x k ps ms c) (hr : Room j X.A) (hk : k ≤ j) (hg : Gl X x)
    (hdb : (x == ("__debug__" : Str)) = false := by decide) : PE X (.Call (.Name x p) [] [] pos) (tCall (spD ⟨X.K, C, X.prog, X.w⟩ ms c) [] E tNil) := by
  obtain ⟨f, fd, F, hk', hb, hm⟩ := h
  exact pe_call0 F (hr.mono hk) hg hm hk' hb .nil pass0 hdb
/-- the names of built-ins are not written over -/
structure Bi (mg : Str → Option Value) : Prop where
  len : mg "len" = none
  range : mg "range" = none
  sorted : mg "sorted" = none
  set : mg "set" = none
  list : mg "list" = none
  tuple : mg "tuple" = none
  sum : mg "sum" = none
  any : mg "any" = none
  all : mg "all" = none
  min : mg "min" = none
  max : mg "max" = none
  int : mg "int" = none
  str : mg "str" = none
  bool : mg "bool" = none
  dict : mg "dict" = none
  zip : mg "zip" = none
  enumerate : mg "enumerate" = none
  isinstance : mg "isinstance" = none
theorem room65 {k : Nat} {A : Around} (r : Room k A) : A.units + 65 < cLine := by have := r.un; omega
theorem room64 {k : Nat} {A : Around} (r : Room k A) : A.units + 64 < cLine := by have := r.un; omega
theorem room1 {k : Nat} {A : Around} (r : Room k A) : A.units + 1 < cLine := by have := r.un; omega
end
end DL
set_option maxRecDepth 100000
set_option maxHeartbeats 4000000
namespace DL
open PySem PySem.Spec PyProof.Rows L2
section
variable {X : Cx}
theorem pe_tyN {T : String} {x : Str} {p : Pos} (hg : Gl X x) (hm : X.mg x = none) (hv : bootBuiltins x = some (.type T)) (hn : x ≠ "__name__" := by decide) (hdb : (x == ("__debug__" : Str)) = false := by decide) : PE X (.Name x p) (tC (.ty T)) :=
  ⟨fun pins s σ H Q I h => ld_blt I hg hm hv ⟨.ty T, H, I, rfl, h⟩ hn hdb⟩
end
def blkC (N : List Str) (sc scope : Scope) (own : List (Str × Nat)) : Bool :=
  decide (scope.kind = .function) && (scope.names.all (fun y => decide (scope.names.lookup y.1 = some y.2)) && (own.all (fun p => decide (N[p.2]? = some p.1)) &&
    (scope.names.all (fun y => !decide (y.2 = .free) || (decide (sc.names.lookup y.1 = some .cell) || decide (sc.names.lookup y.1 = some .free))) &&
      scope.names.all (fun y => !(decide (y.2 = .local) || decide (y.2 = .cell)) || (decide (y.1 ∈ own.map (·.1)) || decide (y.1 ∉ N))))))
theorem blk_by {N : List Str} {sc scope : Scope} {own : List (Str × Nat)} (h : blkC N sc scope own = true) : BlkOk N sc scope own := by
  unfold blkC at h
  simp only [Bool.and_eq_true, List.all_eq_true, decide_eq_true_eq, Bool.or_eq_true, Bool.not_eq_true', decide_eq_false_iff_not, Bool.or_eq_false_iff] at h
  obtain ⟨h1, h2, h3, h4, h5⟩ := h
  refine ⟨h1, h2, h3, fun y hy e => ?_, fun y hy e => ?_⟩
  · rcases h4 y hy with z | z
    · exact absurd e z
    · exact z
  · rcases h5 y hy with z | z
    · rcases e with e | e
      · exact absurd e z.1
      · exact absurd e z.2
    · exact z
section
variable {g : G}
theorem snd_s {x : Str} {s : List Nat} (h : x = mkS s) : SndX g (tC (.str x)) (xC (.str s)) := snd_c fun _ => by rw [h]; rfl
end
section
variable {g : G} {B : Bs} {F H : Hp} {own : Addr → Nat} {env : En} {σ : L2.St}
theorem StF.letgo {i : Nat} (S : StF g B F own env σ H) (nb : NB env) : StF g B F own (env.set i .un) σ H := by
  refine ⟨S.f0, S.fh, S.h0, S.nw, S.bag, by simp [S.len], fun m t e => ?_⟩
  by_cases hm : m = i
  · subst hm
    by_cases hi : m < env.length
    · rw [List.getElem?_set_self hi] at e
      cases e
      exact ⟨σ[m]'(by rw [← S.len]; exact hi), List.getElem?_eq_getElem _, trivial⟩
    · rw [List.getElem?_eq_none (by simp; omega)] at e
      cases e
  · rw [List.getElem?_set_ne (Ne.symm hm)] at e
    obtain ⟨ov, h1, h2⟩ := S.sl m t e
    refine ⟨ov, h1, ?_⟩
    cases t with
    | br j => exact absurd rfl (nb _ (List.mem_of_getElem? e) j)
    | _ => exact h2
theorem NB_un {i : Nat} (nb : NB env) : NB (env.set i .un) := fun s hs j => by
  rcases List.mem_or_eq_of_mem_set hs with h | h
  · exact nb s h j
  · rw [h]; intro z; cases z
theorem StF.letgoS : ∀ (ws : List Nat), StF g B F own env σ H → NB env → StF g B F own (wipeE env ws) σ H ∧ NB (wipeE env ws)
  | [], S, nb => ⟨S, nb⟩
  | w :: ws, S, nb => by
    obtain ⟨S1, n1⟩ := StF.letgoS ws S nb
    exact ⟨S1.letgo n1, NB_un n1⟩
/-- names that are not read again, forgotten -/
def sWipe (ws : List Nat) (b : DS) : DS := fun E env => b E (wipeE env ws)
theorem snd_wipe {ws : List Nat} {t : TS} {a : DS} (h : SndS g t a) : SndS g t (sWipe ws a) := fun B env σ H E D hl S p k => by
  have l := wipeE_len env ws
  obtain ⟨nb, F, own, S⟩ := S
  have S' : StF g B F own env σ H := by simpa using S
  obtain ⟨S1, n1⟩ := S'.letgoS ws nb
  exact h B (wipeE env ws) σ H E D (by omega) ⟨n1, F, own, by simpa using S1⟩ p (by rw [l]; exact k)
end
end DL
set_option maxRecDepth 100000
set_option maxHeartbeats 4000000
namespace DL
open PySem PySem.Spec PyProof.Rows L2
/-! ### texts -/
theorem ints_strs {s : List Nat} {ss : List (List Nat)} : intsOf ((s :: ss).map D.str) = none := rfl
theorem setD_strs (ss : List (List Nat)) : setD (ss.map D.str) = some ((setT ss).map D.str) := by
  cases ss with
  | nil => simp [setD, intsOf, setI, setT, uniq, sortI, sortT]
  | cons s ss =>
    unfold setD
    rw [ints_strs, strsOf_map]
    rfl
theorem setD_ints (ss : List Int) : setD (ss.map D.int) = some ((setI ss).map D.int) := by
  unfold setD
  rw [intsOf_map]
theorem sortD_strs (ss : List (List Nat)) : sortD (ss.map D.str) = some ((sortT ss).map D.str) := by
  cases ss with
  | nil => simp [sortD, intsOf, sortI, sortT]
  | cons s ss =>
    unfold sortD
    rw [ints_strs, strsOf_map]
    rfl
theorem sortD_ints (ss : List Int) : sortD (ss.map D.int) = some ((sortI ss).map D.int) := by
  unfold sortD
  rw [intsOf_map]
theorem mem_sortT {x : List Nat} {l : List (List Nat)} : x ∈ sortT l ↔ x ∈ l := (sortT_perm l).mem_iff
theorem mem_sortI {x : Int} {l : List Int} : x ∈ sortI l ↔ x ∈ l := (sortI_perm l).mem_iff
theorem mem_setT {x : List Nat} {l : List (List Nat)} : x ∈ setT l ↔ x ∈ l := mem_sortT.trans mem_uniq
theorem mem_setI {x : Int} {l : List Int} : x ∈ setI l ↔ x ∈ l := mem_sortI.trans mem_uniq
theorem setT_nodup (l : List (List Nat)) : (setT l).Nodup := (sortT_perm _).nodup_iff.mpr (nodup_uniq l)
theorem setI_nodup (l : List Int) : (setI l).Nodup := (sortI_perm _).nodup_iff.mpr (nodup_uniq l)
theorem setT_up (l : List (List Nat)) : (setT l).Pairwise fun a b => ¬ b < a := sortT_up _
theorem setI_up (l : List Int) : (setI l).Pairwise (· ≤ ·) := sortI_up _
theorem uniq_len {α : Type} [DecidableEq α] : ∀ (l : List α), (uniq l).length ≤ l.length
  | [] => Nat.le_refl _
  | a :: l => by
    unfold uniq
    have := uniq_len l
    split
    · simp; omega
    · simp; omega
theorem setT_len (l : List (List Nat)) : (setT l).length ≤ l.length := by
  unfold setT
  rw [(sortT_perm _).length_eq]
  exact uniq_len l
theorem setI_len (l : List Int) : (setI l).length ≤ l.length := by
  unfold setI
  rw [(sortI_perm _).length_eq]
  exact uniq_len l
/-- a sorted list without a text twice, as it is -/
theorem sort_of {m l : List (List Nat)} (nd : m.Nodup) (h : ∀ k, k ∈ m ↔ k ∈ l) : sortT m = setT l :=
  setT_only ((sortT_perm m).nodup_iff.mpr nd) (fun k => mem_sortT.trans (h k)) (sortT_up m)
/-! ### dicts, typed -/
def aget {α β : Type} [DecidableEq α] (m : List (α × β)) (k : α) : Option β := (m.find? fun p => decide (p.1 = k)).map (·.2)
def aput {α β : Type} [DecidableEq α] (m : List (α × β)) (k : α) (v : β) : List (α × β) :=
  if m.any (fun p => decide (p.1 = k)) = true then m.map (fun p => if p.1 = k then (p.1, v) else p) else m ++ [(k, v)]
def mapD {α β : Type} (f : α → D) (h : β → D) (m : List (α × β)) : List (D × D) := m.map fun p => (f p.1, h p.2)
section
variable {α β : Type} [DecidableEq α] {f : α → D} {h : β → D}
theorem dget_map (hf : ∀ a b, f a = f b → a = b) (k : α) : ∀ m : List (α × β), dget (mapD f h m) (f k) = (aget m k).map h
  | [] => rfl
  | (a, b) :: m => by
    have ih := dget_map hf k m
    unfold dget aget mapD at ih ⊢
    rw [List.map_cons, List.find?_cons, List.find?_cons]
    by_cases c : a = k
    · subst c; simp
    · have c' : ¬ f a = f k := fun z => c (hf _ _ z)
      simp only [c, c', decide_false, Bool.false_eq_true, if_false]
      simpa [mapD] using ih
theorem any_map (hf : ∀ a b, f a = f b → a = b) (k : α) : ∀ m : List (α × β), ((mapD f h m).any fun p => decide (p.1 = f k)) = m.any fun p => decide (p.1 = k)
  | [] => rfl
  | (a, b) :: m => by
    have ih := any_map hf k m
    unfold mapD at ih ⊢
    rw [List.map_cons, List.any_cons, List.any_cons, ih]
    by_cases c : a = k
    · subst c; simp
    · have c' : ¬ f a = f k := fun z => c (hf _ _ z)
      simp [c, c']
theorem dput_map (hf : ∀ a b, f a = f b → a = b) (k : α) (v : β) (m : List (α × β)) : dput (mapD f h m) (f k) (h v) = mapD f h (aput m k v) := by
  unfold dput aput
  rw [any_map hf]
  split
  · unfold mapD
    rw [List.map_map, List.map_map]
    refine List.map_congr_left fun p _ => ?_
    obtain ⟨a, b⟩ := p
    by_cases c : a = k
    · subst c; simp
    · have c' : ¬ f a = f k := fun z => c (hf _ _ z)
      simp [c, c']
  · unfold mapD; simp
theorem str_inj (a b : List Nat) (e : D.str a = D.str b) : a = b := by cases e; rfl
theorem int_inj (a b : Int) (e : D.int a = D.int b) : a = b := by cases e; rfl
theorem aget_put (k : α) (v : β) (j : α) : ∀ m : List (α × β), aget (aput m k v) j = if j = k then some v else aget m j := by
  have upd : ∀ m : List (α × β), m.any (fun p => decide (p.1 = k)) = true → aget (m.map fun p => if p.1 = k then (p.1, v) else p) j = if j = k then some v else aget m j := by
    intro m
    induction m with
    | nil => intro h; cases h
    | cons p m ih =>
      obtain ⟨a, b⟩ := p
      intro h
      unfold aget at ih ⊢
      rw [List.map_cons, List.find?_cons, List.find?_cons]
      by_cases c : a = k
      · subst c
        by_cases d : a = j
        · subst d; simp
        · have d' : ¬ j = a := fun z => d z.symm
          simp only [if_true, d, d', decide_false, if_false]
          by_cases hm : m.any (fun p => decide (p.1 = a)) = true
          · rw [ih hm, if_neg d']
          · have e : (m.map fun p => if p.1 = a then (p.1, v) else p) = m := by
              conv => rhs; rw [← List.map_id m]
              refine List.map_congr_left fun p hp => ?_
              have : ¬ p.1 = a := fun z => hm (List.any_eq_true.mpr ⟨p, hp, decide_eq_true z⟩)
              rw [if_neg this]; rfl
            rw [e]
      · rw [if_neg c]
        have hm : m.any (fun p => decide (p.1 = k)) = true := by simpa [c] using h
        by_cases d : a = j
        · subst d; simp [c]
        · simp only [d, decide_false]
          exact ih hm
  intro m
  unfold aput
  split
  · rename_i h; exact upd m h
  · rename_i h
    unfold aget
    rw [List.find?_append]
    by_cases d : j = k
    · subst d
      have : m.find? (fun p => decide (p.1 = j)) = none := List.find?_eq_none.mpr fun p hp => by
        intro z
        exact h (List.any_eq_true.mpr ⟨p, hp, z⟩)
      rw [this]; simp
    · have d' : ¬ k = j := fun z => d z.symm
      rw [if_neg d]
      cases m.find? (fun p => decide (p.1 = j)) <;> simp [d']
def keysA (m : List (α × β)) : List α := m.map (·.1)
theorem aput_keys (k : α) (v : β) (m : List (α × β)) : keysA (aput m k v) = if k ∈ keysA m then keysA m else keysA m ++ [k] := by
  unfold aput
  have e : (m.any (fun p => decide (p.1 = k)) = true) ↔ k ∈ keysA m := by
    rw [List.any_eq_true]
    unfold keysA
    rw [List.mem_map]
    exact ⟨fun ⟨p, h1, h2⟩ => ⟨p, h1, of_decide_eq_true h2⟩, fun ⟨p, h1, h2⟩ => ⟨p, h1, decide_eq_true h2⟩⟩
  by_cases c : k ∈ keysA m
  · rw [if_pos (e.mpr c), if_pos c]
    unfold keysA
    rw [List.map_map]
    refine List.map_congr_left fun p _ => ?_
    show (if p.1 = k then (p.1, v) else p).1 = p.1
    split <;> rfl
  · rw [if_neg (fun z => c (e.mp z)), if_neg c]
    simp [keysA]
theorem aput_nodup {k : α} {v : β} {m : List (α × β)} (h : (keysA m).Nodup) : (keysA (aput m k v)).Nodup := by
  rw [aput_keys]
  split
  · exact h
  · rename_i c
    exact List.nodup_append.mpr ⟨h, by simp, fun a ha b hb => by simp at hb; subst hb; exact fun z => c (z ▸ ha)⟩
theorem aput_len (k : α) (v : β) (m : List (α × β)) : (aput m k v).length ≤ m.length + 1 := by
  unfold aput
  split <;> simp
theorem aget_keys {k : α} : ∀ {m : List (α × β)}, aget m k = none ↔ k ∉ keysA m
  | [] => by simp [aget, keysA]
  | (a, b) :: m => by
    have ih := aget_keys (k := k) (m := m)
    unfold aget keysA at ih ⊢
    rw [List.find?_cons]
    by_cases c : a = k
    · subst c; simp
    · have c' : ¬ k = a := fun z => c z.symm
      simp only [c, decide_false]
      rw [ih]
      simp [c']
theorem mapD_keys (m : List (α × β)) : (mapD f h m).map (·.1) = (keysA m).map f := by simp [mapD, keysA]
theorem mapD_len (m : List (α × β)) : (mapD f h m).length = m.length := by simp [mapD]
end
/-! ### items -/
theorem at_map {α β : Type} {f : α → β} {l : List α} {i : Nat} {b : β} (h : (l.map f)[i]? = some b) : ∃ a, l[i]? = some a ∧ b = f a := by
  rw [List.getElem?_map] at h
  cases e : l[i]? with
  | none => rw [e] at h; cases h
  | some a => rw [e] at h; cases h; exact ⟨a, rfl, rfl⟩
theorem take_at {α : Type} {l : List α} {i : Nat} {a : α} (h : l[i]? = some a) : l.take (i + 1) = l.take i ++ [a] := by
  rw [List.take_add_one, h]
  rfl
/-! ### the pulls -/
def cPull : Con := fun args post => match args with
  | [_, .int m] => 1 ≤ m ∧ m ≤ 1000000 ∧ ∀ r : Int, 0 ≤ r → r < m → post (.fz (.int r))
  | _ => False
def cOf : Con := fun args post => match args with
  | [_, .lst l] => l ≠ [] ∧ l.length ≤ 1000000 ∧ ∀ d ∈ l, post (.fz d)
  | [_, .tup l] => l ≠ [] ∧ l.length ≤ 1000000 ∧ ∀ d ∈ l, post (.fz d)
  | _ => False
def cMixed : Con := fun args post => match args with
  | [_, .lst l] => l.length ≤ 1000000 ∧ ∀ m : List D, m.Perm l → post (.ow (.lst m))
  | _ => False
end DL
set_option maxRecDepth 100000
set_option maxHeartbeats 4000000
namespace DL
open PySem PySem.Spec PyProof.Rows L2
/-! ### the bag, from the list that it is -/
def sBagify (i : Nat) (b : DS) : DS := fun E env => (∃ (l : List Int) (x y z : Int), env[i]? = some (.ow (.lst [.lst (l.map D.int), .int x, .int y, .int z])) ∧ l.length ≤ 63 ∧ 0 ≤ x ∧ 0 ≤ y ∧ 0 ≤ z ∧ z < 2147483549) ∧
  (∀ e e', E.nx e → E.nx e') ∧ (∀ e, ¬ E.bk e) ∧ (∀ e, ¬ E.ct e) ∧ b E ((List.replicate env.length .un).set i .bg)
section
variable {g : G}
theorem snd_bagify {i : Nat} {t : TS} {b : DS} (h : SndS g t b) : SndS g t (sBagify i b) := fun B env σ H E Dn hl S hh k => by
  obtain ⟨⟨l, x, y, z, ei, hlen, hx, hy, hz, hz2⟩, hnx, hbk, hct, hb⟩ := hh
  obtain ⟨nb, F, own, S⟩ := S
  have S : StF g B F own env σ H := by simpa using S
  have hi := (List.getElem?_eq_some_iff.mp ei).1
  obtain ⟨ov, e1, p, o, e2, hp, c, fp, h0p, _⟩ := S.sl i _ ei
  subst e2
  have co : ∃ vs, o = .lst vs ∧ Reps g [.lst (l.map D.int), .int x, .int y, .int z] vs F := by
    cases o with
    | lst vs => exact ⟨vs, rfl, c⟩
    | _ => exact c.elim
  obtain ⟨vs, rfl, v0, r0, rfl, ⟨a, ws, rfl, hs, hr⟩, v1, r1, rfl, q1, v2, r2, rfl, q2, v3, r3, rfl, q3, er⟩ := co
  have q1 : v1 = .int x := q1
  have q2 : v2 = .int y := q2
  have q3 : v3 = .int z := q3
  have er : r3 = [] := er
  subst q1 q2 q3 er
  rw [Reps.ints] at hr
  subst hr
  have bag : BagOk g.K p F H := ⟨a, l, x, y, z, hp, hs, hlen, hx, hy, hz, hz2⟩
  have H0n : ∀ a', H a' = none → B.H0 a' = none := fun a' hn => by
    cases q : B.H0 a' with
    | none => rfl
    | some u =>
      by_cases qb : B.b = some a'
      · obtain ⟨⟨_, _, _, _, _, e, _⟩, _⟩ := S.bag a' qb
        rw [hn] at e; cases e
      · have := S.h0 a' u qb q
        rw [hn] at this; cases this
  have np : ∀ {a' u}, B.H0 a' = some u → (some p : Option Addr) ≠ some a' := fun {a' u} e z => by
    cases z; rw [h0p] at e; cases e
  have oldbag : ∀ (F3 H3 : Hp), Ext F F3 → (∀ a' o', (some p : Option Addr) ≠ some a' → H a' = some o' → H3 a' = some o') → ∀ a', B.b = some a' → BagOk g.K a' F3 H3 := fun F3 H3 xf xh a' hb' => by
    obtain ⟨⟨l', ns, i', j', k', g1, g2, g3⟩, ⟨u, g4⟩, _⟩ := S.bag a' hb'
    exact ⟨l', ns, i', j', k', xh a' _ (np g4) g1, xf.l g2, g3⟩
  have S' : StF g ⟨F, H, some p⟩ F own ((List.replicate env.length .un).set i .bg) σ H := by
    refine ⟨.refl F, S.fh, fun _ _ _ e => e, fun _ _ e => .inl e, fun a' e => ?_, by simp [S.len], fun j s e => ?_⟩
    · cases e; exact ⟨bag, ⟨_, hp⟩, fp⟩
    · by_cases hj : j = i
      · subst hj
        rw [List.getElem?_set_self (by simpa using hi)] at e
        cases e
        exact ⟨_, e1, p, rfl, rfl⟩
      · rw [List.getElem?_set_ne (Ne.symm hj)] at e
        have hjl := (List.getElem?_eq_some_iff.mp e).1
        have := List.eq_of_mem_replicate (List.mem_of_getElem? e)
        subst this
        exact ⟨σ[j]'(by rw [← S.len]; simpa using hjl), List.getElem?_eq_getElem _, trivial⟩
  refine h ⟨F, H, some p⟩ _ σ H E Dn (by simp [hl]) ⟨fun s hs j => ?_, F, own, by simpa using S'⟩ hb ⟨fun σ2 H2 env2 l1 l2 S2 p2 => ?_, fun t v F3 H3 r p3 => ?_, fun _ _ e _ _ _ p2 => absurd p2 (hbk e), fun _ _ e _ _ _ p2 => absurd p2 (hct e)⟩
  · rcases List.mem_or_eq_of_mem_set hs with q | q
    · rw [List.eq_of_mem_replicate q]; intro z; cases z
    · rw [q]; intro z; cases z
  · obtain ⟨_, F2, own2, S2⟩ := S2
    have S2 : StF g ⟨F, H, some p⟩ F2 own2 env2 σ2 H2 := by simpa using S2
    have l2 : env2.length = env.length := by simpa using l2
    refine k.nx σ2 H2 (List.replicate env.length .un) (by simp; omega) (by simp) ⟨fun s hs j => ?_, F2, own2, ?_⟩ (hnx _ _ p2)
    · rw [List.eq_of_mem_replicate hs]; intro z; cases z
    · have : StF g B F2 own2 (List.replicate env.length .un) σ2 H2 := by
        refine ⟨S.f0.trans S2.f0, S2.fh, fun a' o' hb' e => S2.h0 a' o' (np e) (S.h0 a' o' hb' e), fun a' o' e => ?_, fun a' hb' => ⟨oldbag F2 H2 S2.f0 S2.h0 a' hb', (S.bag a' hb').2.1, ?_⟩, by simp; omega, fun j s e => ?_⟩
        · rcases S2.nw a' o' e with q | q
          · exact S.nw a' o' q
          · exact .inr (H0n a' q)
        · cases q : F2 a' with
          | none => rfl
          | some u =>
            rcases S2.nw a' u q with q2 | q2
            · have q3 : F a' = none := (S.bag a' hb').2.2
              exact absurd (show F a' = some u from q2) (by rw [q3]; intro z; cases z)
            · obtain ⟨⟨_, _, _, _, _, e, _⟩, _⟩ := S.bag a' hb'
              rw [show H a' = none from q2] at e; cases e
        · have hjl := (List.getElem?_eq_some_iff.mp e).1
          have := List.eq_of_mem_replicate (List.mem_of_getElem? e)
          subst this
          exact ⟨σ2[j]'(by simp at hjl; omega), List.getElem?_eq_getElem _, trivial⟩
      simpa using this
  · refine k.rt t v F3 H3 ⟨S.f0.trans r.ff, r.fh, fun a' o' hb' e => r.hh a' o' (np e) (S.h0 a' o' hb' e), fun a' o' e => ?_, fun a' hb' => oldbag F3 H3 r.ff r.hh a' hb', ?_⟩ p3
    · rcases r.nw a' o' e with q | q
      · exact S.nw a' o' q
      · exact .inr (H0n a' q)
    · have rv := r.val
      cases t with
      | fz d => exact rv
      | ow d =>
        obtain ⟨p', o', g1, g2, g3, g4, g5⟩ := rv
        exact ⟨p', o', g1, g2, g3, g4, H0n p' g5⟩
      | _ => exact rv.elim
end
/-! ### slices of whole lists -/
theorem cut_to {α : Type} {l : List α} {n : Nat} (h : l.length ≤ n) : cutD l none (some (n : Int)) = l := by
  unfold cutD
  rw [show HT.sIx l.length 0 none = 0 from HT.sIx_none .., show HT.sIx l.length l.length (some (n : Int)) = min n l.length from HT.sIx_nat ..]
  rw [List.drop_zero, List.take_of_length_le (by omega)]
theorem cut_take {α : Type} (l : List α) (n : Nat) : cutD l none (some (n : Int)) = l.take n := by
  unfold cutD
  rw [show HT.sIx l.length 0 none = 0 from HT.sIx_none .., show HT.sIx l.length l.length (some (n : Int)) = min n l.length from HT.sIx_nat ..]
  rw [List.drop_zero, Nat.sub_zero]
  by_cases h : n ≤ l.length
  · rw [Nat.min_eq_left h]
  · rw [Nat.min_eq_right (by omega), List.take_of_length_le (by omega), List.take_of_length_le (by omega)]
def cBag : Con := fun args post => match args with
  | [d] => ∃ ns : List Int, d = .lst (ns.map D.int) ∧ ns.length ≤ 63 ∧ ∀ k : Int, 0 ≤ k → k < 2147483549 → post (.ow (.lst [.lst (ns.map D.int), .int 0, .int 0, .int k]))
  | _ => False
def cLaw : Con := fun args post => match args with
  | [d] => ∃ ns : List Int, d = .lst (ns.map D.int) ∧ ns.length ≤ 63 ∧ post (.fz (.bl true))
  | _ => False
end DL
set_option maxRecDepth 100000
set_option maxHeartbeats 4000000
namespace DL
open PySem PySem.Spec PyProof.Rows L2
def topS (i : Nat) : Stmt := PySem.Challenge.pw_threadmark_k44_sums_of_lists.main.body.getD i (.Pass ⟨0, 0, 0, 0⟩)
abbrev m_sum_of : List Mode := [.R]
abbrev m__law_bag : List Mode := [.R]
abbrev m__law_pull : List Mode := [.B, .R]
abbrev m__law_of : List Mode := [.B, .R]
abbrev m__law_mixed : List Mode := [.B, .R]
abbrev m__law_same : List Mode := [.R, .R]
abbrev m__law_letters : List Mode := []
abbrev m__law_sum : List Mode := [.R]
abbrev m_law : List Mode := [.R]
section
variable {P : Program} {w : World} {K : PySem.W.Frag} {mg : Str → Option Value} {base : Heap} {C : Addr}
theorem sc_sum_of : FnScope ["lists", "odd", "row", "one"] ["lists"] (defScope (topS 1)) := ⟨rfl, rfl, rfl, by decide +kernel, rfl, by decide +kernel, by decide +kernel⟩
def d_sum_of : DS := (sSeq (sSet 1 xDK)
  (sSeq (sWipe [2, 3] (sFor (iOf (xVar 0)) (gN 2) (sWipe [0, 3] (sIce 2 (sFor (iOf (xUn fSS (xVar 2))) (gN 3) (sWipe [0, 2] (sPutD 1 (xVar 3) (xOfT (dNot (dT (xGet2 (xVar 1) (xVar 3) (xC (.bl false)))))))))))))
  (sWipe [0, 2, 3] (sRet (xCB fSort (aCons (xIce 3 (xIce 1 (xLc (diD (pVar 1) fun l => l.map (·.1)) (gN 3) (dT (xOp fIx (xVar 1) (xVar 3))) (xVar 3) [3]))) aNil))))))
theorem ok_sum_of {fa : Addr} {fd : FuncData} {k : Nat} (F : Fun K "sum_of" "sum_of" (topS 1) fa fd) (b : Bi mg) {c : Con} (wp : ∀ args post, args.length = 1 → c args post → (d_sum_of) { nx := fun _ => post (.fz .non), rt := post } (env0 m_sum_of args 4)) :
    FnOk P w K mg base CX0 (k + 1) fa fd ["lists"] (spD ⟨K, C, P, w⟩ m_sum_of c) :=
  fnD (ds := d_sum_of) F sc_sum_of rfl (by decide) (fun cdv A outer s H E hr => ⟨_, (pss_cons (ps_set (i := 1) sc_sum_of.nd rfl (.inr rfl) pe_dnewK)
  (pss_cons (ps_for PassesOwn.never rfl (pi_seq (pv 0)) (pg_name (i := 2) sc_sum_of.nd rfl (.inl rfl)) (pss_one (ps_for PassesOwn.never rfl (pi_seq (pe_sortSet rfl (by rfl) b.sorted (by rfl) b.set (pv 2))) (pg_name (i := 3) sc_sum_of.nd rfl (.inl rfl)) (pss_one (ps_dput (room1 hr) (pv 1) (pv 3) (pe_not (pe_dget2 (room1 hr) (pv 1) (pv 3) pe_bl ⟨rfl, rfl, rfl, rfl⟩)) (by rfl))))))
  (pss_one (ps_ret (pe_callB (cr_sortA rfl) (by rfl) b.sorted PyProof.Rows.boot_sorted (pa_cons (pe_lk (pe_lc rfl sc_sum_of.nd (pi_keys (pv 1)) (blk_by (own := [("one", 3)]) (by kernel_rfl)) (fun _ _ _ _ _ => (pg_name (i := 3) sc_sum_of.nd rfl (.inl rfl))) (fun _ _ _ _ _ => (pts_one (pt_val (pe_ix (ix_all (room1 hr)) (pv 1) (pv 3) (fun _ _ => rfl))))) (fun _ _ _ _ _ => (pv 3)))) pa_nil)))))),
  (snd_seq (snd_set snd_dK)
  (snd_seq (snd_wipe (ws := [2, 3]) (snd_for (snd_iOf snd_var) snd_gN (snd_wipe (ws := [0, 3]) (snd_iceS (i := 2) (snd_for (snd_iOf (snd_un uv_ss snd_var)) snd_gN (snd_wipe (ws := [0, 2]) (snd_putD snd_var (snd_notV (snd_get2 snd_var snd_var (snd_c (d := .bl false) fun _ => rfl))))))))))
  (snd_wipe (ws := [0, 2, 3]) (snd_ret (snd_cb cv_sort (snd_aCons ((snd_iceX (i := 3) (snd_iceX (i := 1) (snd_lcK kw_keys path_var (snd_gN' (by decide)) (snd_tB (snd_op ov_ix snd_var snd_var)) snd_var)))) snd_aNil))))))⟩) wp
theorem sc__law_same : FnScope ["_law_found", "_law_due", "_law_one", "_law_other"] ["_law_found", "_law_due"] (defScope (topS 7)) := ⟨rfl, rfl, rfl, by decide +kernel, rfl, by decide +kernel, by decide +kernel⟩
def d__law_same (c__law_same : Con) : DS := (sSeq (sIf (dOr (dT (xOp fIs (xVar 1) (xC .non))) (dT (xOp fIs (xVar 0) (xC .non)))) (sRet ((xOfT (dAnd (dT (xOp fIs (xVar 0) (xC .non))) (dT (xOp fIs (xVar 1) (xC .non))))))) sNext)
  (sSeq (sIf (dT (xIsi "dict" (xVar 1))) (sSeq (sIf (dOr (dNot (dT (xIsi "dict" (xVar 0)))) (dT (xOp fNe (xCB fSort (aCons (xCB fListB (aCons (xVar 0) aNil)) aNil)) (xCB fSort (aCons (xCB fListB (aCons (xVar 1) aNil)) aNil))))) (sRet (xC (.bl false))) sNext)
  (sRet (xCB fAll (aCons (xIce 1 (xLc (diD (pVar 1) fun l => l.map (·.1)) (gN 2) dYes (xCall m__law_same c__law_same (aCons (xOp fIx (xVar 0) (xVar 2)) (aCons (xOp fIx (xVar 1) (xVar 2)) aNil))) [2])) aNil)))) sNext)
  (sSeq (sIf (dT (xIsi2 "list" "tuple" (xVar 1))) (sSeq (sIf (dOr (dT (xOp fNe (xIsi "list" (xVar 0)) (xIsi "list" (xVar 1)))) (dT (xOp fNe (xIsi "tuple" (xVar 0)) (xIsi "tuple" (xVar 1))))) (sRet (xC (.bl false))) sNext)
  (sRet ((xOfT (dAnd (dT (xOp fEq (xCB fLen (aCons (xVar 0) aNil)) (xCB fLen (aCons (xVar 1) aNil)))) (dT (xCB fAll (aCons (xLc (iZipD (aCons (xVar 0) (aCons (xVar 1) aNil))) (gT 2 (gsC (gN 2) (gsC (gN 3) gsN))) dYes (xCall m__law_same c__law_same (aCons (xVar 2) (aCons (xVar 3) aNil))) [2, 3]) aNil)))))))) sNext)
  (sSeq (sIf (dOr (dT (xOp fNe (xIsi "bool" (xVar 0)) (xIsi "bool" (xVar 1)))) (dT (xOp fNe (xIsi "int" (xVar 0)) (xIsi "int" (xVar 1))))) (sRet (xC (.bl false))) sNext)
  (sRet ((xOfT (dAnd (dT (xOp fEq (xIsi "str" (xVar 0)) (xIsi "str" (xVar 1)))) (dT (xOp fEq (xVar 0) (xVar 1)))))))))))
theorem ok__law_same {fa : Addr} {fd : FuncData} {k : Nat} (F : Fun K "_law_same" "_law_same" (topS 7) fa fd) (b : Bi mg) {k__law_same : Nat} {c__law_same : Con} (h__law_same : Cal P w K mg base C "_law_same" k__law_same ["_law_found", "_law_due"] m__law_same c__law_same) (l__law_same : k__law_same ≤ k) {c : Con} (wp : ∀ args post, args.length = 2 → c args post → (d__law_same c__law_same) { nx := fun _ => post (.fz .non), rt := post } (env0 m__law_same args 4)) :
    FnOk P w K mg base CX0 (k + 1) fa fd ["_law_found", "_law_due"] (spD ⟨K, C, P, w⟩ m__law_same c) :=
  fnD (ds := d__law_same c__law_same) F sc__law_same rfl (by decide) (fun cdv A outer s H E hr => ⟨_, (pss_cons (ps_if (PW.pt (pw_or (pt_cmpR op_isN (pv 1) pe_non (nomark _)) (pw_or1 (pt_cmpR op_isN (pv 0) pe_non (nomark _))))) (pss_one (ps_ret ((pe_and (pe_cmpR op_isN (pv 0) pe_non (nomark _)) (pe_one (pe_cmpR op_isN (pv 1) pe_non (nomark _))))))) pss_nil)
  (pss_cons (ps_if (pt_val (pe_callB call_isi (by rfl) b.isinstance PyProof.Rows.boot_isinstance (pa_cons (pv 1) (pa_cons (pe_tyN (by rfl) b.dict PyProof.Rows.boot_dict) pa_nil)))) (pss_cons (ps_if (PW.pt (pw_or (pt_not (pt_val (pe_callB call_isi (by rfl) b.isinstance PyProof.Rows.boot_isinstance (pa_cons (pv 0) (pa_cons (pe_tyN (by rfl) b.dict PyProof.Rows.boot_dict) pa_nil))))) (pw_or1 (pt_cmpR (op_neA (room64 hr)) (pe_callB (cr_sortA rfl) (by rfl) b.sorted PyProof.Rows.boot_sorted (pa_cons (pe_callTy (call_listB rfl) (by rfl) b.list PyProof.Rows.boot_list (pa_cons (pv 0) pa_nil)) pa_nil)) (pe_callB (cr_sortA rfl) (by rfl) b.sorted PyProof.Rows.boot_sorted (pa_cons (pe_callTy (call_listB rfl) (by rfl) b.list PyProof.Rows.boot_list (pa_cons (pv 1) pa_nil)) pa_nil)) (nomark _))))) (pss_one (ps_ret pe_bl)) pss_nil)
  (pss_one (ps_ret (pe_callB (cr_all rfl) (by rfl) b.all PyProof.Rows.boot_all (pa_cons (pe_lk (pe_lc rfl sc__law_same.nd (pi_keys (pv 1)) (blk_by (own := [("_law_one", 2)]) (by kernel_rfl)) (fun _ _ _ _ _ => (pg_name (i := 2) sc__law_same.nd rfl (.inl rfl))) (fun _ _ _ _ _ => pts_nil) (fun _ _ _ _ _ => (pe_cal h__law_same hr l__law_same (by rfl) (pa_cons (pe_ix (ix_all (room1 hr)) (pv 0) (pv 2) (fun _ _ => rfl)) (pa_cons (pe_ix (ix_all (room1 hr)) (pv 1) (pv 2) (fun _ _ => rfl)) pa_nil)))))) pa_nil))))) pss_nil)
  (pss_cons (ps_if (pt_val (pe_callB call_isiT (by rfl) b.isinstance PyProof.Rows.boot_isinstance (pa_cons (pv 1) (pa_cons (pe_tup (pa_cons (pe_tyN (by rfl) b.list PyProof.Rows.boot_list) (pa_cons (pe_tyN (by rfl) b.tuple PyProof.Rows.boot_tuple) pa_nil))) pa_nil)))) (pss_cons (ps_if (PW.pt (pw_or (pt_cmpR (op_neA (room64 hr)) (pe_callB call_isi (by rfl) b.isinstance PyProof.Rows.boot_isinstance (pa_cons (pv 0) (pa_cons (pe_tyN (by rfl) b.list PyProof.Rows.boot_list) pa_nil))) (pe_callB call_isi (by rfl) b.isinstance PyProof.Rows.boot_isinstance (pa_cons (pv 1) (pa_cons (pe_tyN (by rfl) b.list PyProof.Rows.boot_list) pa_nil))) (nomark _)) (pw_or1 (pt_cmpR (op_neA (room64 hr)) (pe_callB call_isi (by rfl) b.isinstance PyProof.Rows.boot_isinstance (pa_cons (pv 0) (pa_cons (pe_tyN (by rfl) b.tuple PyProof.Rows.boot_tuple) pa_nil))) (pe_callB call_isi (by rfl) b.isinstance PyProof.Rows.boot_isinstance (pa_cons (pv 1) (pa_cons (pe_tyN (by rfl) b.tuple PyProof.Rows.boot_tuple) pa_nil))) (nomark _))))) (pss_one (ps_ret pe_bl)) pss_nil)
  (pss_one (ps_ret ((pe_and (pe_cmpR (op_eqA (room64 hr)) (pe_callB call_lenA (by rfl) b.len PySem.boot_len (pa_cons (pv 0) pa_nil)) (pe_callB call_lenA (by rfl) b.len PySem.boot_len (pa_cons (pv 1) pa_nil)) (nomark _)) (pe_one (pe_callB (cr_all rfl) (by rfl) b.all PyProof.Rows.boot_all (pa_cons (pe_lc rfl sc__law_same.nd (RZ.pi_zipA (by rfl) b.zip (pa_cons (pv 0) (pa_cons (pv 1) pa_nil))) (blk_by (own := [("_law_one", 2), ("_law_other", 3)]) (by kernel_rfl)) (fun _ _ _ _ _ => (pg_tup rfl (pgs_cons (pg_name (i := 2) sc__law_same.nd rfl (.inl rfl)) (pgs_cons (pg_name (i := 3) sc__law_same.nd rfl (.inl rfl)) pgs_nil)))) (fun _ _ _ _ _ => pts_nil) (fun _ _ _ _ _ => (pe_cal h__law_same hr l__law_same (by rfl) (pa_cons (pv 2) (pa_cons (pv 3) pa_nil))))) pa_nil)))))))) pss_nil)
  (pss_cons (ps_if (PW.pt (pw_or (pt_cmpR (op_neA (room64 hr)) (pe_callB call_isi (by rfl) b.isinstance PyProof.Rows.boot_isinstance (pa_cons (pv 0) (pa_cons (pe_tyN (by rfl) b.bool PyProof.Rows.boot_bool) pa_nil))) (pe_callB call_isi (by rfl) b.isinstance PyProof.Rows.boot_isinstance (pa_cons (pv 1) (pa_cons (pe_tyN (by rfl) b.bool PyProof.Rows.boot_bool) pa_nil))) (nomark _)) (pw_or1 (pt_cmpR (op_neA (room64 hr)) (pe_callB call_isi (by rfl) b.isinstance PyProof.Rows.boot_isinstance (pa_cons (pv 0) (pa_cons (pe_tyN (by rfl) b.int PyProof.Rows.boot_int) pa_nil))) (pe_callB call_isi (by rfl) b.isinstance PyProof.Rows.boot_isinstance (pa_cons (pv 1) (pa_cons (pe_tyN (by rfl) b.int PyProof.Rows.boot_int) pa_nil))) (nomark _))))) (pss_one (ps_ret pe_bl)) pss_nil)
  (pss_one (ps_ret ((pe_and (pe_cmpR (op_eqA (room64 hr)) (pe_callB call_isi (by rfl) b.isinstance PyProof.Rows.boot_isinstance (pa_cons (pv 0) (pa_cons (pe_tyN (by rfl) b.str PyProof.Rows.boot_str) pa_nil))) (pe_callB call_isi (by rfl) b.isinstance PyProof.Rows.boot_isinstance (pa_cons (pv 1) (pa_cons (pe_tyN (by rfl) b.str PyProof.Rows.boot_str) pa_nil))) (nomark _)) (pe_one (pe_cmpR (op_eqA (room64 hr)) (pv 0) (pv 1) (nomark _))))))))))),
  (snd_seq (snd_ifS (snd_or (snd_test (snd_op ov_is snd_var (snd_c (d := .non) fun _ => rfl))) (snd_test (snd_op ov_is snd_var (snd_c (d := .non) fun _ => rfl)))) (snd_ret ((snd_andV (snd_op ov_is snd_var (snd_c (d := .non) fun _ => rfl)) (snd_op ov_is snd_var (snd_c (d := .non) fun _ => rfl))))) snd_next)
  (snd_seq (snd_ifS (snd_tB (snd_isi (T := "dict") rfl snd_var)) (snd_seq (snd_ifS (snd_or (snd_not (snd_tB (snd_isi (T := "dict") rfl snd_var))) (snd_test (snd_op ov_ne (snd_cb cv_sort (snd_aCons (snd_cb cv_listB (snd_aCons snd_var snd_aNil)) snd_aNil)) (snd_cb cv_sort (snd_aCons (snd_cb cv_listB (snd_aCons snd_var snd_aNil)) snd_aNil))))) (snd_ret (snd_c (d := .bl false) fun _ => rfl)) snd_next)
  (snd_ret (snd_cb cv_all (snd_aCons (snd_iceX (i := 1) (snd_lcK kw_keys path_var (snd_gN' (by decide)) snd_yes (snd_call (E := fun _ _ _ => False) (snd_aCons (snd_op ov_ix snd_var snd_var) (snd_aCons (snd_op ov_ix snd_var snd_var) snd_aNil))))) snd_aNil)))) snd_next)
  (snd_seq (snd_ifS (snd_tB (snd_isi2 (T := "list") (U := "tuple") rfl rfl snd_var)) (snd_seq (snd_ifS (snd_or (snd_test (snd_op ov_ne (snd_isi (T := "list") rfl snd_var) (snd_isi (T := "list") rfl snd_var))) (snd_test (snd_op ov_ne (snd_isi (T := "tuple") rfl snd_var) (snd_isi (T := "tuple") rfl snd_var)))) (snd_ret (snd_c (d := .bl false) fun _ => rfl)) snd_next)
  (snd_ret ((snd_andV (snd_op ov_eq (snd_cb cv_len (snd_aCons snd_var snd_aNil)) (snd_cb cv_len (snd_aCons snd_var snd_aNil))) (snd_cb cv_all (snd_aCons (snd_lc (snd_zip (snd_aCons snd_var (snd_aCons snd_var snd_aNil))) (snd_gT' (snd_gsC' (snd_gN' (by decide)) (snd_gsC' (snd_gN' (by decide)) snd_gsN'))) snd_yes (snd_call (E := fun _ _ _ => False) (snd_aCons snd_var (snd_aCons snd_var snd_aNil)))) snd_aNil)))))) snd_next)
  (snd_seq (snd_ifS (snd_or (snd_test (snd_op ov_ne (snd_isi (T := "bool") rfl snd_var) (snd_isi (T := "bool") rfl snd_var))) (snd_test (snd_op ov_ne (snd_isi (T := "int") rfl snd_var) (snd_isi (T := "int") rfl snd_var)))) (snd_ret (snd_c (d := .bl false) fun _ => rfl)) snd_next)
  (snd_ret ((snd_andV (snd_op ov_eq (snd_isi (T := "str") rfl snd_var) (snd_isi (T := "str") rfl snd_var)) (snd_op ov_eq snd_var snd_var))))))))⟩) wp
theorem sc__law_letters : FnScope [] [] (defScope (topS 8)) := ⟨rfl, rfl, rfl, by decide +kernel, rfl, by decide +kernel, by decide +kernel⟩
def d__law_letters : DS := (sRet (xC (.str [97, 98, 99, 100, 101, 102, 103, 104, 105, 106, 107, 108, 109, 110, 111, 112, 113, 114, 115, 116, 117, 118, 119, 120])))
theorem ok__law_letters {fa : Addr} {fd : FuncData} {k : Nat} (F : Fun K "_law_letters" "_law_letters" (topS 8) fa fd) (b : Bi mg) {c : Con} (wp : ∀ args post, args.length = 0 → c args post → (d__law_letters) { nx := fun _ => post (.fz .non), rt := post } (env0 m__law_letters args 0)) :
    FnOk P w K mg base CX0 (k + 1) fa fd [] (spD ⟨K, C, P, w⟩ m__law_letters c) :=
  fnD (ds := d__law_letters) F sc__law_letters rfl (by decide) (fun cdv A outer s H E hr => ⟨_, (pss_one (ps_ret pe_str)),
  (snd_ret (snd_s (s := [97, 98, 99, 100, 101, 102, 103, 104, 105, 106, 107, 108, 109, 110, 111, 112, 113, 114, 115, 116, 117, 118, 119, 120]) rfl))⟩) wp
theorem sc__law_of : FnScope ["_law_bag_here", "_law_things"] ["_law_bag_here", "_law_things"] (defScope (topS 5)) := ⟨rfl, rfl, rfl, by decide +kernel, rfl, by decide +kernel, by decide +kernel⟩
def d__law_of (c__law_pull : Con) : DS := (sRet (xOp fIx (xVar 1) (xCall m__law_pull c__law_pull (aCons (xVar 0) (aCons (xCB fLen (aCons (xVar 1) aNil)) aNil)))))
theorem ok__law_of {fa : Addr} {fd : FuncData} {k : Nat} (F : Fun K "_law_of" "_law_of" (topS 5) fa fd) (b : Bi mg) {k__law_pull : Nat} {c__law_pull : Con} (h__law_pull : Cal P w K mg base C "_law_pull" k__law_pull ["_law_bag_here", "_law_many"] m__law_pull c__law_pull) (l__law_pull : k__law_pull ≤ k) {c : Con} (wp : ∀ args post, args.length = 2 → c args post → (d__law_of c__law_pull) { nx := fun _ => post (.fz .non), rt := post } (env0 m__law_of args 2)) :
    FnOk P w K mg base CX0 (k + 1) fa fd ["_law_bag_here", "_law_things"] (spD ⟨K, C, P, w⟩ m__law_of c) :=
  fnD (ds := d__law_of c__law_pull) F sc__law_of rfl (by decide) (fun cdv A outer s H E hr => ⟨_, (pss_one (ps_ret (pe_ix (ix_all (room1 hr)) (pv 1) (pe_cal h__law_pull hr l__law_pull (by rfl) (pa_cons (pv 0) (pa_cons (pe_callB call_lenA (by rfl) b.len PySem.boot_len (pa_cons (pv 1) pa_nil)) pa_nil))) (fun _ _ => rfl)))),
  (snd_ret (snd_op ov_ix snd_var (snd_call (E := fun _ _ _ => False) (snd_aCons snd_var (snd_aCons (snd_cb cv_len (snd_aCons snd_var snd_aNil)) snd_aNil)))))⟩) wp
theorem sc__law_mixed : FnScope ["_law_bag_here", "_law_things", "_law_left", "_law_found", "_law_turn"] ["_law_bag_here", "_law_things"] (defScope (topS 6)) := ⟨rfl, rfl, rfl, by decide +kernel, rfl, by decide +kernel, by decide +kernel⟩
def d__law_mixed (c__law_pull : Con) : DS := (sSeq (sPar 2 3 (aCons (xCB fListB (aCons (xVar 1) aNil)) (aCons (xLst aNil) aNil)))
  (sSeq (sWipe [4] (sFor (iRange1 (aCons (xCB fLen (aCons (xVar 1) aNil)) aNil)) (gN 4) (sWipe [1, 4] (sDrop (xApp 3 (aCons (xPopAt 2 (aCons (xCall m__law_pull c__law_pull (aCons (xVar 0) (aCons (xCB fLen (aCons (xVar 2) aNil)) aNil))) aNil)) aNil))))))
  (sWipe [1, 2, 4] (sRet (xVar 3)))))
theorem ok__law_mixed {fa : Addr} {fd : FuncData} {k : Nat} (F : Fun K "_law_mixed" "_law_mixed" (topS 6) fa fd) (b : Bi mg) {k__law_pull : Nat} {c__law_pull : Con} (h__law_pull : Cal P w K mg base C "_law_pull" k__law_pull ["_law_bag_here", "_law_many"] m__law_pull c__law_pull) (l__law_pull : k__law_pull ≤ k) {c : Con} (wp : ∀ args post, args.length = 2 → c args post → (d__law_mixed c__law_pull) { nx := fun _ => post (.fz .non), rt := post } (env0 m__law_mixed args 5)) :
    FnOk P w K mg base CX0 (k + 1) fa fd ["_law_bag_here", "_law_things"] (spD ⟨K, C, P, w⟩ m__law_mixed c) :=
  fnD (ds := d__law_mixed c__law_pull) F sc__law_mixed rfl (by decide) (fun cdv A outer s H E hr => ⟨_, (pss_cons (ps_par (i := 2) (j := 3) rfl sc__law_mixed.nd rfl rfl (by decide) (by rfl) (by rfl) (pa_cons (pe_callTy (call_listB rfl) (by rfl) b.list PyProof.Rows.boot_list (pa_cons (pv 1) pa_nil)) (pa_cons (pe_lst pa_nil) pa_nil)) (by rfl))
  (pss_cons (ps_for PassesOwn.never rfl (pi_range1 (by rfl) b.range (pa_cons (pe_callB call_lenA (by rfl) b.len PySem.boot_len (pa_cons (pv 1) pa_nil)) pa_nil)) (pg_name (i := 4) sc__law_mixed.nd rfl (.inl rfl)) (pss_one (ps_expr (pe_bm PySem.F.plainAttrs_list PySem.F.slot_list_append PySem.F.type_list_append mt_append (pv 3) (pa_cons (pe_bm PySem.F.plainAttrs_list PySem.F.slot_list_pop PySem.F.type_list_pop mt_popAt (pv 2) (pa_cons (pe_cal h__law_pull hr l__law_pull (by rfl) (pa_cons (pv 0) (pa_cons (pe_callB call_lenA (by rfl) b.len PySem.boot_len (pa_cons (pv 2) pa_nil)) pa_nil))) pa_nil)) pa_nil)))))
  (pss_one (ps_ret (pv 3))))),
  (snd_seq (snd_par (by decide) (snd_aCons (snd_cb cv_listB (snd_aCons snd_var snd_aNil)) (snd_aCons (snd_lst snd_aNil) snd_aNil)))
  (snd_seq (snd_wipe (ws := [4]) (snd_for (snd_range1 (snd_aCons (snd_cb cv_len (snd_aCons snd_var snd_aNil)) snd_aNil)) snd_gN (snd_wipe (ws := [1, 4]) (snd_drop (snd_app (snd_aCons (snd_popAt (snd_aCons (snd_call (E := fun _ _ _ => False) (snd_aCons snd_var (snd_aCons (snd_cb cv_len (snd_aCons snd_var snd_aNil)) snd_aNil))) snd_aNil)) snd_aNil))))))
  (snd_wipe (ws := [1, 2, 4]) (snd_ret snd_var))))⟩) wp
theorem sc__law_bag : FnScope ["_law_script", "_law_salt", "_law_cell"] ["_law_script"] (defScope (topS 3)) := ⟨rfl, rfl, rfl, by decide +kernel, rfl, by decide +kernel, by decide +kernel⟩
def d__law_bag : DS := (sSeq (sSet 1 (xC (.int 3808)))
  (sSeq (sWipe [2] (sFor (iOf (xSl (xVar 0) oNo (oPart (xC (.int 63))))) (gN 2) (sSet 1 (xOp fMod (xOp fAdd (xOp fAdd (xOp fMul (xVar 1) (xC (.int 47653))) (xOp fMod (xVar 2) (xC (.int 2147483549)))) (xC (.int 17))) (xC (.int 2147483549))))))
  (sWipe [2] (sRet (xLst (aCons (xCB fListB (aCons (xSl (xVar 0) oNo (oPart (xC (.int 63)))) aNil)) (aCons (xC (.int 0)) (aCons (xC (.int 0)) (aCons (xVar 1) aNil)))))))))
theorem ok__law_bag {fa : Addr} {fd : FuncData} {k : Nat} (F : Fun K "_law_bag" "_law_bag" (topS 3) fa fd) (b : Bi mg) {c : Con} (wp : ∀ args post, args.length = 1 → c args post → (d__law_bag) { nx := fun _ => post (.fz .non), rt := post } (env0 m__law_bag args 3)) :
    FnOk P w K mg base CX0 (k + 1) fa fd ["_law_script"] (spD ⟨K, C, P, w⟩ m__law_bag c) :=
  fnD (ds := d__law_bag) F sc__law_bag rfl (by decide) (fun cdv A outer s H E hr => ⟨_, (pss_cons (ps_set (i := 1) sc__law_bag.nd rfl (.inl rfl) pe_int)
  (pss_cons (ps_for PassesOwn.never rfl (pi_seq (pe_slice sl_ls (pv 0) po_none (po_some pe_int))) (pg_name (i := 2) sc__law_bag.nd rfl (.inl rfl)) (pss_one (ps_set (i := 1) sc__law_bag.nd rfl (.inl rfl) (pe_op op_mod (pe_op op_addA (pe_op op_addA (pe_op op_mul (pv 1) pe_int) (pe_op op_mod (pv 2) pe_int)) pe_int) pe_int))))
  (pss_one (ps_ret (pe_lst (pa_cons (pe_callTy (call_listB rfl) (by rfl) b.list PyProof.Rows.boot_list (pa_cons (pe_slice sl_ls (pv 0) po_none (po_some pe_int)) pa_nil)) (pa_cons pe_int (pa_cons pe_int (pa_cons (pv 1) pa_nil))))))))),
  (snd_seq (snd_set (snd_c (d := .int 3808) fun _ => rfl))
  (snd_seq (snd_wipe (ws := [2]) (snd_for (snd_iOf (snd_sl snd_var snd_oNo (snd_oPart (snd_c (d := .int 63) fun _ => rfl)))) snd_gN (snd_set (snd_op (ov_I fun _ _ _ => rfl) (snd_op ov_add (snd_op ov_add (snd_op (ov_I fun _ _ _ => rfl) snd_var (snd_c (d := .int 47653) fun _ => rfl)) (snd_op (ov_I fun _ _ _ => rfl) snd_var (snd_c (d := .int 2147483549) fun _ => rfl))) (snd_c (d := .int 17) fun _ => rfl)) (snd_c (d := .int 2147483549) fun _ => rfl)))))
  (snd_wipe (ws := [2]) (snd_ret (snd_lst (snd_aCons (snd_cb cv_listB (snd_aCons (snd_sl snd_var snd_oNo (snd_oPart (snd_c (d := .int 63) fun _ => rfl))) snd_aNil)) (snd_aCons (snd_c (d := .int 0) fun _ => rfl) (snd_aCons (snd_c (d := .int 0) fun _ => rfl) (snd_aCons snd_var snd_aNil)))))))))⟩) wp
theorem sc__law_sum : FnScope ["_law_rows", "_law_whole", "_law_row", "_law_one"] ["_law_rows"] (defScope (topS 9)) := ⟨rfl, rfl, rfl, by decide +kernel, rfl, by decide +kernel, by decide +kernel⟩
def d__law_sum : DS := (sSeq (sSet 1 (xLst aNil))
  (sSeq (sWipe [2, 3] (sFor (iOf (xVar 0)) (gN 2) (sWipe [0, 3] (sSet 1 (xOp fAdd (xVar 1) (xCB fListB (aCons (xVar 2) aNil)))))))
  (sWipe [0, 2, 3] (sRet (xLc (iOf (xUn fSS (xVar 1))) (gN 3) (dT (xOp fEq (xOp fMod (xBM "list" fCnt (xVar 1) (aCons (xVar 3) aNil)) (xC (.int 2))) (xC (.int 1)))) (xVar 3) [3])))))
theorem ok__law_sum {fa : Addr} {fd : FuncData} {k : Nat} (F : Fun K "_law_sum" "_law_sum" (topS 9) fa fd) (b : Bi mg) {c : Con} (wp : ∀ args post, args.length = 1 → c args post → (d__law_sum) { nx := fun _ => post (.fz .non), rt := post } (env0 m__law_sum args 4)) :
    FnOk P w K mg base CX0 (k + 1) fa fd ["_law_rows"] (spD ⟨K, C, P, w⟩ m__law_sum c) :=
  fnD (ds := d__law_sum) F sc__law_sum rfl (by decide) (fun cdv A outer s H E hr => ⟨_, (pss_cons (ps_set (i := 1) sc__law_sum.nd rfl (.inr rfl) (pe_lst pa_nil))
  (pss_cons (ps_for PassesOwn.never rfl (pi_seq (pv 0)) (pg_name (i := 2) sc__law_sum.nd rfl (.inl rfl)) (pss_one (ps_set (i := 1) sc__law_sum.nd rfl (.inr rfl) (pe_op op_addA (pv 1) (pe_callTy (call_listB rfl) (by rfl) b.list PyProof.Rows.boot_list (pa_cons (pv 2) pa_nil))))))
  (pss_one (ps_ret (pe_lc rfl sc__law_sum.nd (pi_seq (pe_sortSet rfl (by rfl) b.sorted (by rfl) b.set (pv 1))) (blk_by (own := [("_law_one", 3)]) (by kernel_rfl)) (fun _ _ _ _ _ => (pg_name (i := 3) sc__law_sum.nd rfl (.inl rfl))) (fun _ _ _ _ _ => (pts_one (pt_cmpR (op_eqA (room64 hr)) (pe_op op_mod (pe_bm PySem.F.plainAttrs_list PySem.F.slot_list_count PySem.F.type_list_count mt_cnt (pv 1) (pa_cons (pv 3) pa_nil)) pe_int) pe_int (nomark _)))) (fun _ _ _ _ _ => (pv 3))))))),
  (snd_seq (snd_set (snd_lst snd_aNil))
  (snd_seq (snd_wipe (ws := [2, 3]) (snd_for (snd_iOf snd_var) snd_gN (snd_wipe (ws := [0, 3]) (snd_set (snd_op ov_add snd_var (snd_cb cv_listB (snd_aCons snd_var snd_aNil)))))))
  (snd_wipe (ws := [0, 2, 3]) (snd_ret (snd_lc (snd_iOf (snd_un uv_ss snd_var)) (snd_gN' (by decide)) (snd_test (snd_op ov_eq (snd_op (ov_I fun _ _ _ => rfl) (snd_bm mv_cnt snd_var (snd_aCons snd_var snd_aNil)) (snd_c (d := .int 2) fun _ => rfl)) (snd_c (d := .int 1) fun _ => rfl))) snd_var)))))⟩) wp
theorem sc_law : FnScope ["_law_script", "_law_bag_here", "_law_turn", "_law_some", "_law_rows", "_law_k", "_law_row", "_law_kept", "_law_due", "_law_again", "_law_found", "_law_j", "_law_one"] ["_law_script"] (defScope (topS 10)) := ⟨rfl, rfl, rfl, by decide +kernel, rfl, by decide +kernel, by decide +kernel⟩
/-- _law_rows.append(_law_row + _law_row[:_law_pull(_law_bag_here, 3)]) -/
def d_law_1 (c__law_bag c__law_pull c__law_of c__law_letters c__law_mixed c__law_sum c_sum_of c__law_same : Con) : DS := (sDrop (xApp 4 (aCons (xOp fAdd (xVar 6) (xSl (xVar 6) oNo (oPart (xCall m__law_pull c__law_pull (aCons (xVar 1) (aCons (xC (.int 3)) aNil)))))) aNil)))
/-- _law_row = _law_mixed(_law_bag_here, sorted(set([_law_one for _law_one in _law_some if _law_pull(_la -/
def d_law_2 (c__law_bag c__law_pull c__law_of c__law_letters c__law_mixed c__law_sum c_sum_of c__law_same : Con) : DS := (sSeq (sWipe [0, 2, 5, 6, 7, 8, 9, 10, 11, 12] (sSet 6 (xCall m__law_mixed c__law_mixed (aCons (xVar 1) (aCons (xUn fSS (xLc (iOf (xVar 3)) (gN 12) (dT (xOp fEq (xCall m__law_pull c__law_pull (aCons (xVar 1) (aCons (xC (.int 2)) aNil))) (xC (.int 0)))) (xVar 12) [12])) aNil)))))
  (d_law_1 c__law_bag c__law_pull c__law_of c__law_letters c__law_mixed c__law_sum c_sum_of c__law_same))
/-- return False -/
def d_law_3 (c__law_bag c__law_pull c__law_of c__law_letters c__law_mixed c__law_sum c_sum_of c__law_same : Con) : DS := (sRet (xC (.bl false)))
/-- _law_found.append('') -/
def d_law_4 (c__law_bag c__law_pull c__law_of c__law_letters c__law_mixed c__law_sum c_sum_of c__law_same : Con) : DS := (sDrop (xApp 10 (aCons (xC (.str [])) aNil)))
/-- if not _law_same(_law_found, _law_due) or _law_rows != _law_kept: -/
def d_law_5 (c__law_bag c__law_pull c__law_of c__law_letters c__law_mixed c__law_sum c_sum_of c__law_same : Con) : DS := (sSeq (sIf (dOr (dNot (dT (xCall m__law_same c__law_same (aCons (xVar 10) (aCons (xVar 8) aNil))))) (dT (xOp fNe (xVar 4) (xVar 7)))) (d_law_3 c__law_bag c__law_pull c__law_of c__law_letters c__law_mixed c__law_sum c_sum_of c__law_same) sNext)
  (d_law_4 c__law_bag c__law_pull c__law_of c__law_letters c__law_mixed c__law_sum c_sum_of c__law_same))
/-- _law_found = sum_of(_law_rows) -/
def d_law_6 (c__law_bag c__law_pull c__law_of c__law_letters c__law_mixed c__law_sum c_sum_of c__law_same : Con) : DS := (sSeq (sWipe [0, 2, 3, 5, 6, 9, 10, 11, 12] (sSet 10 (xCall m_sum_of c_sum_of (aCons (xVar 4) aNil))))
  (d_law_5 c__law_bag c__law_pull c__law_of c__law_letters c__law_mixed c__law_sum c_sum_of c__law_same))
/-- return False -/
def d_law_7 (c__law_bag c__law_pull c__law_of c__law_letters c__law_mixed c__law_sum c_sum_of c__law_same : Con) : DS := (sRet (xC (.bl false)))
/-- if not _law_same(sum_of(_law_rows + _law_rows), []) or not _law_same(sum_of(tuple([tuple(_law_row) f -/
def d_law_8 (c__law_bag c__law_pull c__law_of c__law_letters c__law_mixed c__law_sum c_sum_of c__law_same : Con) : DS := (sWipe [0, 2, 3, 5, 6, 7, 9, 10, 11, 12] (sIf (dOr (dNot (dT (xCall m__law_same c__law_same (aCons (xCall m_sum_of c_sum_of (aCons (xOp fAdd (xVar 4) (xVar 4)) aNil)) (aCons (xLst aNil) aNil))))) (dNot (dT (xCall m__law_same c__law_same (aCons (xCall m_sum_of c_sum_of (aCons (xCB fTuple (aCons (xIce 6 (xLc (iOf (xVar 4)) (gN 6) dYes (xCB fTuple (aCons (xVar 6) aNil)) [6])) aNil)) aNil)) (aCons (xVar 8) aNil)))))) (d_law_7 c__law_bag c__law_pull c__law_of c__law_letters c__law_mixed c__law_sum c_sum_of c__law_same) sNext))
/-- for _law_again in range(2): -/
def d_law_9 (c__law_bag c__law_pull c__law_of c__law_letters c__law_mixed c__law_sum c_sum_of c__law_same : Con) : DS := (sSeq (sWipe [0, 2, 3, 5, 6, 9, 10, 11, 12] (sIce 8 (sIce 7 (sFor (iRange1 (aCons (xC (.int 2)) aNil)) (gN 9) (d_law_6 c__law_bag c__law_pull c__law_of c__law_letters c__law_mixed c__law_sum c_sum_of c__law_same)))))
  (d_law_8 c__law_bag c__law_pull c__law_of c__law_letters c__law_mixed c__law_sum c_sum_of c__law_same))
/-- _law_due = _law_sum([sorted(set(_law_row)) for _law_row in _law_rows]) -/
def d_law_10 (c__law_bag c__law_pull c__law_of c__law_letters c__law_mixed c__law_sum c_sum_of c__law_same : Con) : DS := (sSeq (sSet 8 (xCall m__law_sum c__law_sum (aCons (xIce 6 (xLc (iOf (xVar 4)) (gN 6) dYes (xUn fSS (xVar 6)) [6])) aNil)))
  (d_law_9 c__law_bag c__law_pull c__law_of c__law_letters c__law_mixed c__law_sum c_sum_of c__law_same))
/-- _law_kept = [list(_law_row) for _law_row in _law_rows] -/
def d_law_11 (c__law_bag c__law_pull c__law_of c__law_letters c__law_mixed c__law_sum c_sum_of c__law_same : Con) : DS := (sSeq (sWipe [0, 2, 3, 5, 6, 7, 8, 9, 10, 11, 12] (sSet 7 (xIce 6 (xLc (iOf (xVar 4)) (gN 6) dYes (xCB fListB (aCons (xVar 6) aNil)) [6]))))
  (d_law_10 c__law_bag c__law_pull c__law_of c__law_letters c__law_mixed c__law_sum c_sum_of c__law_same))
/-- for _law_k in range(_law_pull(_law_bag_here, 6)): -/
def d_law_12 (c__law_bag c__law_pull c__law_of c__law_letters c__law_mixed c__law_sum c_sum_of c__law_same : Con) : DS := (sSeq (sWipe [0, 2, 5, 6, 7, 8, 9, 10, 11, 12] (sIce 3 (sFor (iRange1 (aCons (xCall m__law_pull c__law_pull (aCons (xVar 1) (aCons (xC (.int 6)) aNil))) aNil)) (gN 5) (d_law_2 c__law_bag c__law_pull c__law_of c__law_letters c__law_mixed c__law_sum c_sum_of c__law_same))))
  (d_law_11 c__law_bag c__law_pull c__law_of c__law_letters c__law_mixed c__law_sum c_sum_of c__law_same))
/-- _law_rows = [] -/
def d_law_13 (c__law_bag c__law_pull c__law_of c__law_letters c__law_mixed c__law_sum c_sum_of c__law_same : Con) : DS := (sSeq (sSet 4 (xLst aNil))
  (d_law_12 c__law_bag c__law_pull c__law_of c__law_letters c__law_mixed c__law_sum c_sum_of c__law_same))
/-- _law_some = [''.join([_law_of(_law_bag_here, list(_law_letters())) for _law_k in range(2)]) for _law -/
def d_law_14 (c__law_bag c__law_pull c__law_of c__law_letters c__law_mixed c__law_sum c_sum_of c__law_same : Con) : DS := (sSeq (sWipe [0, 2, 3, 4, 5, 6, 7, 8, 9, 10, 11, 12] (sSet 3 (xLc (iRange1 (aCons (xOp fAdd (xC (.int 1)) (xCall m__law_pull c__law_pull (aCons (xVar 1) (aCons (xC (.int 6)) aNil)))) aNil)) (gN 11) dYes (xM1 fJoin (xC (.str [])) (xIce 5 (xLc (iRange1 (aCons (xC (.int 2)) aNil)) (gN 5) dYes (xCall m__law_of c__law_of (aCons (xVar 1) (aCons (xCB fListB (aCons (xCall m__law_letters c__law_letters aNil) aNil)) aNil))) [5]))) [11])))
  (d_law_13 c__law_bag c__law_pull c__law_of c__law_letters c__law_mixed c__law_sum c_sum_of c__law_same))
/-- return sum_of([]) == [] -/
def d_law_15 (c__law_bag c__law_pull c__law_of c__law_letters c__law_mixed c__law_sum c_sum_of c__law_same : Con) : DS := (sWipe [0, 2, 3, 4, 5, 6, 7, 8, 9, 10, 11, 12] (sRet (xOp fEq (xCall m_sum_of c_sum_of (aCons (xLst aNil) aNil)) (xLst aNil))))
/-- for _law_turn in range(8): -/
def d_law_16 (c__law_bag c__law_pull c__law_of c__law_letters c__law_mixed c__law_sum c_sum_of c__law_same : Con) : DS := (sSeq (sWipe [0, 2, 3, 4, 5, 6, 7, 8, 9, 10, 11, 12] (sFor (iRange1 (aCons (xC (.int 8)) aNil)) (gN 2) (d_law_14 c__law_bag c__law_pull c__law_of c__law_letters c__law_mixed c__law_sum c_sum_of c__law_same)))
  (d_law_15 c__law_bag c__law_pull c__law_of c__law_letters c__law_mixed c__law_sum c_sum_of c__law_same))
/-- _law_bag_here = _law_bag(_law_script) -/
def d_law_17 (c__law_bag c__law_pull c__law_of c__law_letters c__law_mixed c__law_sum c_sum_of c__law_same : Con) : DS := (sSeq (sSet 1 (xCall m__law_bag c__law_bag (aCons (xVar 0) aNil)))
  (sBagify 1 (d_law_16 c__law_bag c__law_pull c__law_of c__law_letters c__law_mixed c__law_sum c_sum_of c__law_same)))
def d_law (c__law_bag c__law_pull c__law_of c__law_letters c__law_mixed c__law_sum c_sum_of c__law_same : Con) : DS := (d_law_17 c__law_bag c__law_pull c__law_of c__law_letters c__law_mixed c__law_sum c_sum_of c__law_same)
theorem ok_law {fa : Addr} {fd : FuncData} {k : Nat} (F : Fun K "law" "law" (topS 10) fa fd) (b : Bi mg) {k__law_bag : Nat} {c__law_bag : Con} (h__law_bag : Cal P w K mg base C "_law_bag" k__law_bag ["_law_script"] m__law_bag c__law_bag) (l__law_bag : k__law_bag ≤ k) {k__law_pull : Nat} {c__law_pull : Con} (h__law_pull : Cal P w K mg base C "_law_pull" k__law_pull ["_law_bag_here", "_law_many"] m__law_pull c__law_pull) (l__law_pull : k__law_pull ≤ k) {k__law_of : Nat} {c__law_of : Con} (h__law_of : Cal P w K mg base C "_law_of" k__law_of ["_law_bag_here", "_law_things"] m__law_of c__law_of) (l__law_of : k__law_of ≤ k) {k__law_letters : Nat} {c__law_letters : Con} (h__law_letters : Cal P w K mg base C "_law_letters" k__law_letters [] m__law_letters c__law_letters) (l__law_letters : k__law_letters ≤ k) {k__law_mixed : Nat} {c__law_mixed : Con} (h__law_mixed : Cal P w K mg base C "_law_mixed" k__law_mixed ["_law_bag_here", "_law_things"] m__law_mixed c__law_mixed) (l__law_mixed : k__law_mixed ≤ k) {k__law_sum : Nat} {c__law_sum : Con} (h__law_sum : Cal P w K mg base C "_law_sum" k__law_sum ["_law_rows"] m__law_sum c__law_sum) (l__law_sum : k__law_sum ≤ k) {k_sum_of : Nat} {c_sum_of : Con} (h_sum_of : Cal P w K mg base C "sum_of" k_sum_of ["lists"] m_sum_of c_sum_of) (l_sum_of : k_sum_of ≤ k) {k__law_same : Nat} {c__law_same : Con} (h__law_same : Cal P w K mg base C "_law_same" k__law_same ["_law_found", "_law_due"] m__law_same c__law_same) (l__law_same : k__law_same ≤ k) {c : Con} (wp : ∀ args post, args.length = 1 → c args post → (d_law c__law_bag c__law_pull c__law_of c__law_letters c__law_mixed c__law_sum c_sum_of c__law_same) { nx := fun _ => post (.fz .non), rt := post } (env0 m_law args 13)) :
    FnOk P w K mg base CX0 (k + 1) fa fd ["_law_script"] (spD ⟨K, C, P, w⟩ m_law c) :=
  fnD (ds := (sSeq (sSet 1 (xCall m__law_bag c__law_bag (aCons (xVar 0) aNil)))
  (sBagify 1 (sSeq (sWipe [0, 2, 3, 4, 5, 6, 7, 8, 9, 10, 11, 12] (sFor (iRange1 (aCons (xC (.int 8)) aNil)) (gN 2) (sSeq (sWipe [0, 2, 3, 4, 5, 6, 7, 8, 9, 10, 11, 12] (sSet 3 (xLc (iRange1 (aCons (xOp fAdd (xC (.int 1)) (xCall m__law_pull c__law_pull (aCons (xVar 1) (aCons (xC (.int 6)) aNil)))) aNil)) (gN 11) dYes (xM1 fJoin (xC (.str [])) (xIce 5 (xLc (iRange1 (aCons (xC (.int 2)) aNil)) (gN 5) dYes (xCall m__law_of c__law_of (aCons (xVar 1) (aCons (xCB fListB (aCons (xCall m__law_letters c__law_letters aNil) aNil)) aNil))) [5]))) [11])))
  (sSeq (sSet 4 (xLst aNil))
  (sSeq (sWipe [0, 2, 5, 6, 7, 8, 9, 10, 11, 12] (sIce 3 (sFor (iRange1 (aCons (xCall m__law_pull c__law_pull (aCons (xVar 1) (aCons (xC (.int 6)) aNil))) aNil)) (gN 5) (sSeq (sWipe [0, 2, 5, 6, 7, 8, 9, 10, 11, 12] (sSet 6 (xCall m__law_mixed c__law_mixed (aCons (xVar 1) (aCons (xUn fSS (xLc (iOf (xVar 3)) (gN 12) (dT (xOp fEq (xCall m__law_pull c__law_pull (aCons (xVar 1) (aCons (xC (.int 2)) aNil))) (xC (.int 0)))) (xVar 12) [12])) aNil)))))
  (sDrop (xApp 4 (aCons (xOp fAdd (xVar 6) (xSl (xVar 6) oNo (oPart (xCall m__law_pull c__law_pull (aCons (xVar 1) (aCons (xC (.int 3)) aNil)))))) aNil)))))))
  (sSeq (sWipe [0, 2, 3, 5, 6, 7, 8, 9, 10, 11, 12] (sSet 7 (xIce 6 (xLc (iOf (xVar 4)) (gN 6) dYes (xCB fListB (aCons (xVar 6) aNil)) [6]))))
  (sSeq (sSet 8 (xCall m__law_sum c__law_sum (aCons (xIce 6 (xLc (iOf (xVar 4)) (gN 6) dYes (xUn fSS (xVar 6)) [6])) aNil)))
  (sSeq (sWipe [0, 2, 3, 5, 6, 9, 10, 11, 12] (sIce 8 (sIce 7 (sFor (iRange1 (aCons (xC (.int 2)) aNil)) (gN 9) (sSeq (sWipe [0, 2, 3, 5, 6, 9, 10, 11, 12] (sSet 10 (xCall m_sum_of c_sum_of (aCons (xVar 4) aNil))))
  (sSeq (sIf (dOr (dNot (dT (xCall m__law_same c__law_same (aCons (xVar 10) (aCons (xVar 8) aNil))))) (dT (xOp fNe (xVar 4) (xVar 7)))) (sRet (xC (.bl false))) sNext)
  (sDrop (xApp 10 (aCons (xC (.str [])) aNil)))))))))
  (sWipe [0, 2, 3, 5, 6, 7, 9, 10, 11, 12] (sIf (dOr (dNot (dT (xCall m__law_same c__law_same (aCons (xCall m_sum_of c_sum_of (aCons (xOp fAdd (xVar 4) (xVar 4)) aNil)) (aCons (xLst aNil) aNil))))) (dNot (dT (xCall m__law_same c__law_same (aCons (xCall m_sum_of c_sum_of (aCons (xCB fTuple (aCons (xIce 6 (xLc (iOf (xVar 4)) (gN 6) dYes (xCB fTuple (aCons (xVar 6) aNil)) [6])) aNil)) aNil)) (aCons (xVar 8) aNil)))))) (sRet (xC (.bl false))) sNext))))))))))
  (sWipe [0, 2, 3, 4, 5, 6, 7, 8, 9, 10, 11, 12] (sRet (xOp fEq (xCall m_sum_of c_sum_of (aCons (xLst aNil) aNil)) (xLst aNil)))))))) F sc_law rfl (by decide) (fun cdv A outer s H E hr => ⟨_, (pss_cons (ps_set (i := 1) sc_law.nd rfl (.inr rfl) (pe_cal h__law_bag hr l__law_bag (by rfl) (pa_cons (pv 0) pa_nil)))
  (pss_cons (ps_for PassesOwn.never rfl (pi_range1 (by rfl) b.range (pa_cons pe_int pa_nil)) (pg_name (i := 2) sc_law.nd rfl (.inl rfl)) (pss_cons (ps_setLc (i := 3) rfl sc_law.nd rfl rfl (sw_true rfl rfl rfl rfl) (pi_range1 (by rfl) b.range (pa_cons (pe_op op_addA pe_int (pe_cal h__law_pull hr l__law_pull (by rfl) (pa_cons (pv 1) (pa_cons pe_int pa_nil)))) pa_nil)) (blk_by (own := [("_law_j", 11)]) (by kernel_rfl)) (fun _ _ _ _ _ => (pg_name (i := 11) sc_law.nd rfl (.inl rfl))) (fun _ _ _ _ _ => pts_nil) (fun _ _ _ _ _ => (pe_join pe_str (pe_lc rfl sc_law.nd (pi_range1 (by rfl) b.range (pa_cons pe_int pa_nil)) (blk_by (own := [("_law_k", 5)]) (by kernel_rfl)) (fun _ _ _ _ _ => (pg_name (i := 5) sc_law.nd rfl (.inl rfl))) (fun _ _ _ _ _ => pts_nil) (fun _ _ _ _ _ => (pe_cal h__law_of hr l__law_of (by rfl) (pa_cons (pv 1) (pa_cons (pe_callTy (call_listB rfl) (by rfl) b.list PyProof.Rows.boot_list (pa_cons (pe_cal0 h__law_letters hr l__law_letters (by rfl)) pa_nil)) pa_nil))))))))
  (pss_cons (ps_set (i := 4) sc_law.nd rfl (.inl rfl) (pe_lst pa_nil))
  (pss_cons (ps_for PassesOwn.never rfl (pi_range1 (by rfl) b.range (pa_cons (pe_cal h__law_pull hr l__law_pull (by rfl) (pa_cons (pv 1) (pa_cons pe_int pa_nil))) pa_nil)) (pg_name (i := 5) sc_law.nd rfl (.inl rfl)) (pss_cons (ps_set (i := 6) sc_law.nd rfl (.inl rfl) (pe_cal h__law_mixed hr l__law_mixed (by rfl) (pa_cons (pv 1) (pa_cons (pe_sortSet rfl (by rfl) b.sorted (by rfl) b.set (pe_lc rfl sc_law.nd (pi_seq (pv 3)) (blk_by (own := [("_law_one", 12)]) (by kernel_rfl)) (fun _ _ _ _ _ => (pg_name (i := 12) sc_law.nd rfl (.inl rfl))) (fun _ _ _ _ _ => (pts_one (pt_cmpR (op_eqA (room64 hr)) (pe_cal h__law_pull hr l__law_pull (by rfl) (pa_cons (pv 1) (pa_cons pe_int pa_nil))) pe_int (nomark _)))) (fun _ _ _ _ _ => (pv 12)))) pa_nil))))
  (pss_one (ps_expr (pe_bm PySem.F.plainAttrs_list PySem.F.slot_list_append PySem.F.type_list_append mt_append (pv 4) (pa_cons (pe_op op_addA (pv 6) (pe_slice sl_ls (pv 6) po_none (po_some (pe_cal h__law_pull hr l__law_pull (by rfl) (pa_cons (pv 1) (pa_cons pe_int pa_nil)))))) pa_nil))))))
  (pss_cons (ps_setLc (i := 7) rfl sc_law.nd rfl rfl (sw_true rfl rfl rfl rfl) (pi_seq (pv 4)) (blk_by (own := [("_law_row", 6)]) (by kernel_rfl)) (fun _ _ _ _ _ => (pg_name (i := 6) sc_law.nd rfl (.inl rfl))) (fun _ _ _ _ _ => pts_nil) (fun _ _ _ _ _ => (pe_callTy (call_listB rfl) (by rfl) b.list PyProof.Rows.boot_list (pa_cons (pv 6) pa_nil))))
  (pss_cons (ps_set (i := 8) sc_law.nd rfl (.inl rfl) (pe_cal h__law_sum hr l__law_sum (by rfl) (pa_cons (pe_lc rfl sc_law.nd (pi_seq (pv 4)) (blk_by (own := [("_law_row", 6)]) (by kernel_rfl)) (fun _ _ _ _ _ => (pg_name (i := 6) sc_law.nd rfl (.inl rfl))) (fun _ _ _ _ _ => pts_nil) (fun _ _ _ _ _ => (pe_sortSet rfl (by rfl) b.sorted (by rfl) b.set (pv 6)))) pa_nil)))
  (pss_cons (ps_for PassesOwn.never rfl (pi_range1 (by rfl) b.range (pa_cons pe_int pa_nil)) (pg_name (i := 9) sc_law.nd rfl (.inl rfl)) (pss_cons (ps_set (i := 10) sc_law.nd rfl (.inl rfl) (pe_cal h_sum_of hr l_sum_of (by rfl) (pa_cons (pv 4) pa_nil)))
  (pss_cons (ps_if (PW.pt (pw_or (pt_not (pt_val (pe_cal h__law_same hr l__law_same (by rfl) (pa_cons (pv 10) (pa_cons (pv 8) pa_nil))))) (pw_or1 (pt_cmpR (op_neA (room64 hr)) (pv 4) (pv 7) (nomark _))))) (pss_one (ps_ret pe_bl)) pss_nil)
  (pss_one (ps_expr (pe_bm PySem.F.plainAttrs_list PySem.F.slot_list_append PySem.F.type_list_append mt_append (pv 10) (pa_cons pe_str pa_nil)))))))
  (pss_one (ps_if (PW.pt (pw_or (pt_not (pt_val (pe_cal h__law_same hr l__law_same (by rfl) (pa_cons (pe_cal h_sum_of hr l_sum_of (by rfl) (pa_cons (pe_op op_addA (pv 4) (pv 4)) pa_nil)) (pa_cons (pe_lst pa_nil) pa_nil))))) (pw_or1 (pt_not (pt_val (pe_cal h__law_same hr l__law_same (by rfl) (pa_cons (pe_cal h_sum_of hr l_sum_of (by rfl) (pa_cons (pe_callTy call_tuple_of (by rfl) b.tuple PyProof.Rows.boot_tuple (pa_cons (pe_lc rfl sc_law.nd (pi_seq (pv 4)) (blk_by (own := [("_law_row", 6)]) (by kernel_rfl)) (fun _ _ _ _ _ => (pg_name (i := 6) sc_law.nd rfl (.inl rfl))) (fun _ _ _ _ _ => pts_nil) (fun _ _ _ _ _ => (pe_callTy call_tuple_of (by rfl) b.tuple PyProof.Rows.boot_tuple (pa_cons (pv 6) pa_nil)))) pa_nil)) pa_nil)) (pa_cons (pv 8) pa_nil)))))))) (pss_one (ps_ret pe_bl)) pss_nil)))))))))
  (pss_one (ps_ret (pe_cmpR (op_eqA (room64 hr)) (pe_cal h_sum_of hr l_sum_of (by rfl) (pa_cons (pe_lst pa_nil) pa_nil)) (pe_lst pa_nil) (nomark _)))))),
  (snd_seq (snd_set (snd_call (E := fun _ _ _ => False) (snd_aCons snd_var snd_aNil)))
  (snd_bagify (i := 1) (snd_seq (snd_wipe (ws := [0, 2, 3, 4, 5, 6, 7, 8, 9, 10, 11, 12]) (snd_for (snd_range1 (snd_aCons (snd_c (d := .int 8) fun _ => rfl) snd_aNil)) snd_gN (snd_seq (snd_wipe (ws := [0, 2, 3, 4, 5, 6, 7, 8, 9, 10, 11, 12]) (snd_set (snd_lc (snd_range1 (snd_aCons (snd_op ov_add (snd_c (d := .int 1) fun _ => rfl) (snd_call (E := fun _ _ _ => False) (snd_aCons snd_var (snd_aCons (snd_c (d := .int 6) fun _ => rfl) snd_aNil)))) snd_aNil)) (snd_gN' (by decide)) snd_yes (snd_m1 mv_join (snd_s (s := []) rfl) ((snd_iceX (i := 5) (snd_lc (snd_range1 (snd_aCons (snd_c (d := .int 2) fun _ => rfl) snd_aNil)) (snd_gN' (by decide)) snd_yes (snd_call (E := fun _ _ _ => False) (snd_aCons snd_var (snd_aCons (snd_cb cv_listB (snd_aCons (snd_call (E := fun _ _ _ => False) snd_aNil) snd_aNil)) snd_aNil))))))))))
  (snd_seq (snd_set (snd_lst snd_aNil))
  (snd_seq (snd_wipe (ws := [0, 2, 5, 6, 7, 8, 9, 10, 11, 12]) (snd_iceS (i := 3) (snd_for (snd_range1 (snd_aCons (snd_call (E := fun _ _ _ => False) (snd_aCons snd_var (snd_aCons (snd_c (d := .int 6) fun _ => rfl) snd_aNil))) snd_aNil)) snd_gN (snd_seq (snd_wipe (ws := [0, 2, 5, 6, 7, 8, 9, 10, 11, 12]) (snd_set (snd_call (E := fun _ _ _ => False) (snd_aCons snd_var (snd_aCons (snd_un uv_ss (snd_lc (snd_iOf snd_var) (snd_gN' (by decide)) (snd_test (snd_op ov_eq (snd_call (E := fun _ _ _ => False) (snd_aCons snd_var (snd_aCons (snd_c (d := .int 2) fun _ => rfl) snd_aNil))) (snd_c (d := .int 0) fun _ => rfl))) snd_var)) snd_aNil)))))
  (snd_drop (snd_app (snd_aCons (snd_op ov_add snd_var (snd_sl snd_var snd_oNo (snd_oPart (snd_call (E := fun _ _ _ => False) (snd_aCons snd_var (snd_aCons (snd_c (d := .int 3) fun _ => rfl) snd_aNil)))))) snd_aNil)))))))
  (snd_seq (snd_wipe (ws := [0, 2, 3, 5, 6, 7, 8, 9, 10, 11, 12]) (snd_set ((snd_iceX (i := 6) (snd_lc (snd_iOf snd_var) (snd_gN' (by decide)) snd_yes (snd_cb cv_listB (snd_aCons snd_var snd_aNil)))))))
  (snd_seq (snd_set (snd_call (E := fun _ _ _ => False) (snd_aCons ((snd_iceX (i := 6) (snd_lc (snd_iOf snd_var) (snd_gN' (by decide)) snd_yes (snd_un uv_ss snd_var)))) snd_aNil)))
  (snd_seq (snd_wipe (ws := [0, 2, 3, 5, 6, 9, 10, 11, 12]) (snd_iceS (i := 8) (snd_iceS (i := 7) (snd_for (snd_range1 (snd_aCons (snd_c (d := .int 2) fun _ => rfl) snd_aNil)) snd_gN (snd_seq (snd_wipe (ws := [0, 2, 3, 5, 6, 9, 10, 11, 12]) (snd_set (snd_call (E := fun _ _ _ => False) (snd_aCons snd_var snd_aNil))))
  (snd_seq (snd_ifS (snd_or (snd_not (snd_tB (snd_call (E := fun _ _ _ => False) (snd_aCons snd_var (snd_aCons snd_var snd_aNil))))) (snd_test (snd_op ov_ne snd_var snd_var))) (snd_ret (snd_c (d := .bl false) fun _ => rfl)) snd_next)
  (snd_drop (snd_app (snd_aCons (snd_s (s := []) rfl) snd_aNil)))))))))
  (snd_wipe (ws := [0, 2, 3, 5, 6, 7, 9, 10, 11, 12]) (snd_ifS (snd_or (snd_not (snd_tB (snd_call (E := fun _ _ _ => False) (snd_aCons (snd_call (E := fun _ _ _ => False) (snd_aCons (snd_op ov_add snd_var snd_var) snd_aNil)) (snd_aCons (snd_lst snd_aNil) snd_aNil))))) (snd_not (snd_tB (snd_call (E := fun _ _ _ => False) (snd_aCons (snd_call (E := fun _ _ _ => False) (snd_aCons (snd_cb cv_tuple (snd_aCons ((snd_iceX (i := 6) (snd_lc (snd_iOf snd_var) (snd_gN' (by decide)) snd_yes (snd_cb cv_tuple (snd_aCons snd_var snd_aNil))))) snd_aNil)) snd_aNil)) (snd_aCons snd_var snd_aNil)))))) (snd_ret (snd_c (d := .bl false) fun _ => rfl)) snd_next))))))))))
  (snd_wipe (ws := [0, 2, 3, 4, 5, 6, 7, 8, 9, 10, 11, 12]) (snd_ret (snd_op ov_eq (snd_call (E := fun _ _ _ => False) (snd_aCons (snd_lst snd_aNil) snd_aNil)) (snd_lst snd_aNil)))))))⟩) wp
end
end DL
set_option maxRecDepth 100000
set_option maxHeartbeats 4000000
namespace DL
open PySem PySem.Spec PyProof.Rows L2
/-! ### the law's own thing: the texts in an odd number of the lists -/
abbrev Tx := List Nat
def isOdd (rows : List (List Tx)) (x : Tx) : Bool := decide (rows.countP (fun r => decide (x ∈ r)) % 2 = 1)
def oddT (rows : List (List Tx)) : List Tx := setT (rows.flatten.filter (isOdd rows))
theorem mem_odd {rows : List (List Tx)} {x : Tx} : x ∈ rows.flatten.filter (isOdd rows) ↔ isOdd rows x = true := by
  rw [List.mem_filter]
  refine ⟨fun h => h.2, fun h => ⟨?_, h⟩⟩
  have h1 := of_decide_eq_true h
  have h2 : 0 < rows.countP (fun r => decide (x ∈ r)) := by omega
  obtain ⟨r, hr, hx⟩ := List.countP_pos_iff.mp h2
  exact List.mem_flatten.mpr ⟨r, hr, of_decide_eq_true hx⟩
/-- rows as data: a list or tuple of lists or tuples of texts -/
def rowsOk (l : List D) (rows : List (List Tx)) : Prop := l.map itemsD = rows.map fun r => some (r.map D.str)
theorem rows_at {l : List D} {rows : List (List Tx)} (h : rowsOk l rows) {i : Nat} {d : D} (e : l[i]? = some d) : ∃ r, rows[i]? = some r ∧ itemsD d = some (r.map D.str) := by
  have h2 : (l.map itemsD)[i]? = some (itemsD d) := by rw [List.getElem?_map, e]; rfl
  rw [h] at h2
  obtain ⟨r, h3, h4⟩ := at_map h2
  exact ⟨r, h3, h4⟩
theorem rows_len {l : List D} {rows : List (List Tx)} (h : rowsOk l rows) : l.length = rows.length := by
  have := congrArg List.length h
  simpa using this
def cSum : Con := fun args post => match args with
  | [d] => ∃ l rows, itemsOf d = some l ∧ rowsOk l rows ∧ rows.flatten.length ≤ 4000 ∧ post (.ow (.lst ((oddT rows).map D.str)))
  | _ => False
/-- the marks: of the rows gone, and of the texts of this row -/
def Mk (rows : List (List Tx)) (done : List Tx) (m : List (Tx × Bool)) : Prop := (keysA m).Nodup ∧ m.length ≤ rows.flatten.length + done.length ∧
  ∀ x, aget m x = if (∃ r ∈ rows, x ∈ r) ∨ x ∈ done then some (xor (isOdd rows x) (decide (x ∈ done))) else none
theorem Mk.start : Mk [] [] [] := ⟨by simp [keysA], Nat.zero_le _, fun x => by simp [aget]⟩
theorem isOdd_app (rows : List (List Tx)) (r : List Tx) (x : Tx) : isOdd (rows ++ [r]) x = xor (isOdd rows x) (decide (x ∈ r)) := by
  unfold isOdd
  rw [List.countP_append]
  by_cases c : x ∈ r <;> simp [List.countP_cons, c]
  all_goals (generalize rows.countP _ = n; by_cases h : n % 2 = 1 <;> simp [h] <;> omega)
theorem Mk.put {rows : List (List Tx)} {done : List Tx} {m : List (Tx × Bool)} (h : Mk rows done m) {x : Tx} (hx : x ∉ done) : Mk rows (done ++ [x]) (aput m x (!((aget m x).getD false))) := by
  obtain ⟨h1, h2, h3⟩ := h
  refine ⟨aput_nodup h1, ?_, fun y => ?_⟩
  · have := aput_len x (!((aget m x).getD false)) m
    simp only [List.length_append, List.length_cons, List.length_nil]
    omega
  · rw [aget_put]
    by_cases c : y = x
    · subst c
      rw [if_pos rfl, h3 y]
      by_cases c2 : ∃ r ∈ rows, y ∈ r
      · simp [c2, hx]
      · have : isOdd rows y = false := by
          unfold isOdd
          have : rows.countP (fun r => decide (y ∈ r)) = 0 := List.countP_eq_zero.mpr fun r hr z => c2 ⟨r, hr, of_decide_eq_true z⟩
          rw [this]; rfl
        simp [c2, hx, this]
    · rw [if_neg c, h3 y]
      simp [c]
theorem Mk.next {rows : List (List Tx)} {r done : List Tx} {m : List (Tx × Bool)} (h : Mk rows done m) (hd : ∀ x, x ∈ done ↔ x ∈ r) (hl : done.length ≤ r.length) : Mk (rows ++ [r]) [] m := by
  obtain ⟨h1, h2, h3⟩ := h
  refine ⟨h1, ?_, fun x => ?_⟩
  · simp only [List.flatten_append, List.flatten_cons, List.flatten_nil, List.length_append, List.length_nil, List.append_nil]
    omega
  · rw [h3 x, isOdd_app]
    by_cases c : ∃ r' ∈ rows, x ∈ r'
    · by_cases c2 : x ∈ r <;> simp [c, c2, hd]
    · by_cases c2 : x ∈ r <;> simp [c, c2, hd]
theorem Mk.odd {rows : List (List Tx)} {m : List (Tx × Bool)} (h : Mk rows [] m) : sortT ((keysA m).filter fun x => (aget m x).getD false) = oddT rows := by
  obtain ⟨h1, h2, h3⟩ := h
  unfold oddT
  refine sort_of (h1.filter _) fun x => ?_
  rw [mem_odd, List.mem_filter, h3 x]
  by_cases c : ∃ r ∈ rows, x ∈ r
  · simp only [List.not_mem_nil, or_false, c, if_true, decide_false, Bool.xor_false, Option.getD_some]
    refine ⟨fun h => h.2, fun h => ⟨?_, h⟩⟩
    refine Classical.byContradiction fun z => ?_
    have := aget_keys.mpr z
    rw [h3 x] at this
    simp [c] at this
  · simp only [List.not_mem_nil, or_false, c, if_false, Option.getD_none, Bool.false_eq_true, and_false, false_iff]
    intro z
    exact c (by
      have h4 := of_decide_eq_true z
      have h5 : 0 < rows.countP (fun r => decide (x ∈ r)) := by omega
      obtain ⟨r, hr, hx⟩ := List.countP_pos_iff.mp h5
      exact ⟨r, hr, of_decide_eq_true hx⟩)
theorem flat_take (rows : List (List Tx)) (i : Nat) : (rows.take i).flatten.length ≤ rows.flatten.length := by
  have e := congrArg (fun l : List (List Tx) => l.flatten.length) (List.take_append_drop i rows)
  simp only [List.flatten_append, List.length_append] at e
  omega
theorem row_flat {rows : List (List Tx)} {i : Nat} {r : List Tx} (h : rows[i]? = some r) : (rows.take i).flatten.length + r.length ≤ rows.flatten.length := by
  have := flat_take rows (i + 1)
  rw [take_at h] at this
  simpa using this
theorem scan4 : 4000 + 1 < scanBound := by unfold scanBound; decide
theorem line4 {n : Nat} (h : n ≤ 8000) : n < sizeLine := by rw [sizeLine_eq]; omega
theorem wp_sum_of : ∀ args post, args.length = 1 → cSum args post → d_sum_of { nx := fun _ => post (.fz .non), rt := post } (env0 m_sum_of args 4) := by
  intro args post hl hc
  match args, hl with
  | [d], _ =>
    obtain ⟨l, rows, hd, hr, hz, hp⟩ := hc
    refine ⟨(by decide : 1 < 4), ?_⟩
    show ob (itemsOf d) _
    rw [hd]
    refine ⟨fun i e => ∃ m x0 x2 x3, e = [x0, .ow (.dct (mapD D.str D.bl m)), x2, x3] ∧ Mk (rows.take i) [] m, ⟨[], _, _, _, rfl, Mk.start⟩, ?_, ?_⟩
    · intro i row e ei _ hI
      obtain ⟨m, x0, x2, x3, rfl, hm⟩ := hI
      obtain ⟨r, er, ir⟩ := rows_at hr ei
      refine ⟨(by decide : 2 < 4), ?_⟩
      have hrl := row_flat er
      show ob (itemsD row) _
      rw [ir]
      refine ⟨by rw [List.length_map]; have := scan4; omega, ?_⟩
      show ob (setD (r.map D.str)) _
      rw [setD_strs]
      refine ⟨fun j e => ∃ m x0 x2 x3, e = [x0, .ow (.dct (mapD D.str D.bl m)), x2, x3] ∧ Mk (rows.take i) ((setT r).take j) m, ⟨m, _, _, _, rfl, by rw [List.take_zero]; exact hm⟩, ?_, ?_⟩
      · intro j one e ej _ hJ
        obtain ⟨m, x0, x2, x3, rfl, hm⟩ := hJ
        obtain ⟨x, ex, rfl⟩ := at_map ej
        have hsl := setT_len r
        have hml := hm.2.1
        have htl : ((setT r).take j).length ≤ (setT r).length := by rw [List.length_take]; omega
        refine ⟨(by decide : 3 < 4), ?_⟩
        refine ⟨trivial, ?_⟩
        refine ⟨rfl, ?_⟩
        show match rdS _ (.fz ((dget (mapD D.str D.bl m) (.str x)).getD (.bl false))) with | some (.bl b) => _ | _ => False
        have e1 : (dget (mapD D.str D.bl m) (.str x)).getD (.bl false) = .bl ((aget m x).getD false) := by
          rw [dget_map str_inj]
          cases aget m x <;> rfl
        rw [e1]
        refine ⟨rfl, by rw [mapD_len]; exact line4 (by omega), ?_⟩
        have hxd : x ∉ (setT r).take j := fun z => by
          obtain ⟨i1, h1, h2⟩ := List.mem_take_iff_getElem.mp z
          have h3 := (List.getElem?_eq_some_iff.mp ex)
          obtain ⟨h4, h5⟩ := h3
          have := (List.nodup_iff_pairwise_ne.mp (setT_nodup r))
          have h6 := List.pairwise_iff_getElem.mp this i1 j (by omega) h4 (by omega)
          exact h6 (by rw [h2, h5])
        refine ⟨aput m x (!((aget m x).getD false)), .un, .un, .fz (.str x), ?_, ?_⟩
        · rw [← dput_map str_inj]
          rfl
        · rw [take_at ex]
          exact hm.put hxd
      · intro e _ hJ
        obtain ⟨m, x0, x2, x3, rfl, hm⟩ := hJ
        refine ⟨m, _, _, _, rfl, ?_⟩
        rw [take_at er]
        refine hm.next (fun x => ?_) ?_
        · rw [List.length_map, List.take_length]; exact mem_setT
        · rw [List.length_map, List.take_length]; exact setT_len r
    · intro e _ hI
      obtain ⟨m, x0, x2, x3, rfl, hm⟩ := hI
      rw [rows_len hr, List.take_length] at hm
      have hml := hm.2.1
      rw [List.length_nil, Nat.add_zero] at hml
      refine ⟨rfl, fun i acc => acc = (((keysA m).take i).filter fun x => (aget m x).getD false).map D.str, rfl, ?_, ?_⟩
      · intro i one acc ei hA
        subst hA
        have ei : ((mapD D.str D.bl m).map (·.1))[i]? = some one := ei
        rw [mapD_keys] at ei
        obtain ⟨x, ex, rfl⟩ := at_map ei
        refine ⟨(by decide : 3 < 4), rfl, rfl, ?_⟩
        show ob (dget (mapD D.str D.bl m) (.str x)) _
        rw [dget_map str_inj]
        cases eg : aget m x with
        | none =>
          have := aget_keys.mp eg
          exact absurd (List.mem_of_getElem? ex) this
        | some v =>
          cases v with
          | false =>
            refine ⟨rfl, ?_⟩
            show _ = (((keysA m).take (i + 1)).filter fun x => (aget m x).getD false).map D.str
            rw [take_at ex, List.filter_append]
            simp [eg]
          | true =>
            refine ⟨rfl, ?_, ?_⟩
            · rw [List.length_map]
              have h1 := List.length_filter_le (fun x => (aget m x).getD false) ((keysA m).take i)
              have h2 : ((keysA m).take i).length ≤ m.length := by rw [List.length_take]; simp [keysA]; omega
              exact line4 (by omega)
            · show _ = (((keysA m).take (i + 1)).filter fun x => (aget m x).getD false).map D.str
              rw [take_at ex, List.filter_append]
              simp [eg]
      · intro acc hA
        have hA : acc = (((keysA m).take ((mapD D.str D.bl m).map (·.1)).length).filter fun x => (aget m x).getD false).map D.str := hA
        rw [mapD_keys, List.length_map, List.take_length] at hA
        subst hA
        show ob (sortD _) _
        rw [sortD_strs, hm.odd]
        exact hp
end DL
set_option maxRecDepth 100000
set_option maxHeartbeats 4000000
namespace DL
open PySem PySem.Spec PyProof.Rows L2
/-! ### two things alike -/
def okS : Nat → D → Prop
  | 0, _ => False
  | _ + 1, .non => True
  | _ + 1, .bl _ => True
  | _ + 1, .int _ => True
  | _ + 1, .str s => s.all (· < 1114112) = true
  | n + 1, .lst l => l.length ≤ 1000000 ∧ ∀ d ∈ l, okS n d
  | n + 1, .tup l => l.length ≤ 1000000 ∧ ∀ d ∈ l, okS n d
  | _, _ => False
def cSame (n : Nat) : Con := fun args post => match args with
  | [a, b] => okS n a ∧ okS n b ∧ post (.fz (.bl (decide (a = b))))
  | _ => False
theorem zip_all {n : Nat} : ∀ {l m : List D}, l.length = m.length → (List.zipWith (fun a b => decide (a = b)) l m).all id = decide (l = m)
  | [], [], _ => rfl
  | a :: l, b :: m, h => by
    have ih := zip_all (n := n) (l := l) (m := m) (by simpa using h)
    rw [List.zipWith_cons_cons, List.all_cons, ih]
    by_cases c : a = b <;> by_cases c2 : l = m <;> simp [c, c2]
  | [], _ :: _, h => by simp at h
  | _ :: _, [], h => by simp at h
theorem bls_all (bs : List Bool) : blsOf (bs.map D.bl) = some bs := blsOf_map bs
theorem same_seq (n : Nat) {l m : List D} {mk : List D → D} {post : Slot → Prop} (hm : mk = .lst ∨ mk = .tup) (ha : okS (n + 1) (mk l)) (hb : okS (n + 1) (mk m)) (hp : post (.fz (.bl (decide (mk l = mk m))))) :
    d__law_same (cSame n) { nx := fun _ => post (.fz .non), rt := post } (env0 m__law_same [mk l, mk m] 4) := by
  have inj : decide (mk l = mk m) = decide (l = m) := by
    rcases hm with rfl | rfl <;> simp
  rw [inj] at hp
  have hl : l.length ≤ 1000000 ∧ ∀ d ∈ l, okS n d := by rcases hm with rfl | rfl <;> exact ha
  have hm' : m.length ≤ 1000000 ∧ ∀ d ∈ m, okS n d := by rcases hm with rfl | rfl <;> exact hb
  have main : ∀ k : DK, k (.fz (.bl (decide (l = m)))) [.bo (mk l), .bo (mk m), .un, .un] → xOfT (dAnd (dT (xOp fEq (xCB fLen (aCons (xVar 0) aNil)) (xCB fLen (aCons (xVar 1) aNil)))) (dT (xCB fAll (aCons (xLc (iZipD (aCons (xVar 0) (aCons (xVar 1) aNil))) (gT 2 (gsC (gN 2) (gsC (gN 3) gsN))) dYes (xCall m__law_same (cSame n) (aCons (xVar 2) (aCons (xVar 3) aNil))) [2, 3]) aNil)))) [.bo (mk l), .bo (mk m), .un, .un] k := by
    intro k hk
    have lens : ∀ x : List D, lenD (mk x) = some x.length := by rcases hm with rfl | rfl <;> exact fun _ => rfl
    show ob (lenD (mk l)) _
    rw [lens]
    show ob (lenD (mk m)) _
    rw [lens]
    refine ⟨trivial, ?_⟩
    by_cases e : (l.length : Int) = (m.length : Int)
    · show match decide (D.int (l.length : Int) = D.int (m.length : Int)) with | true => _ | false => _
      have : decide (D.int (l.length : Int) = D.int (m.length : Int)) = true := decide_eq_true (by rw [e])
      rw [this]
      have el : l.length = m.length := by omega
      have zl : (zipD l m).length = l.length := by unfold zipD; rw [List.length_zipWith]; omega
      have lc : ∀ kk : DK, kk (.ow (.lst ((List.zipWith (fun a b => decide (a = b)) l m).map D.bl))) [.bo (mk l), .bo (mk m), .un, .un] → xLc (iZipD (aCons (xVar 0) (aCons (xVar 1) aNil))) (gT 2 (gsC (gN 2) (gsC (gN 3) gsN))) dYes (xCall m__law_same (cSame n) (aCons (xVar 2) (aCons (xVar 3) aNil))) [2, 3] [.bo (mk l), .bo (mk m), .un, .un] kk := by
        intro kk hkk
        have core : okW [.bo (mk l), .bo (mk m), .un, .un] [2, 3] = true ∧ ∃ Iv : Nat → List D → Prop, Iv 0 [] ∧ (∀ i d acc, (zipD l m)[i]? = some d → Iv i acc → gT 2 (gsC (gN 2) (gsC (gN 3) gsN)) d (wipeE [.bo (mk l), .bo (mk m), .un, .un] [2, 3]) fun e2 => wipeE e2 [2, 3] = wipeE [.bo (mk l), .bo (mk m), .un, .un] [2, 3] ∧ dYes e2 fun z e3 => match z with
          | true => xCall m__law_same (cSame n) (aCons (xVar 2) (aCons (xVar 3) aNil)) e3 fun t e4 => ob (frz e4 t) fun p => wipeE p.2 [2, 3] = wipeE [.bo (mk l), .bo (mk m), .un, .un] [2, 3] ∧ acc.length < sizeLine ∧ Iv (i + 1) (acc ++ [p.1])
          | false => wipeE e3 [2, 3] = wipeE [.bo (mk l), .bo (mk m), .un, .un] [2, 3] ∧ Iv (i + 1) acc) ∧ ∀ acc, Iv (zipD l m).length acc → kk (.ow (.lst acc)) [.bo (mk l), .bo (mk m), .un, .un] := by
          refine ⟨rfl, fun i acc => acc = ((List.zipWith (fun a b => decide (a = b)) l m).take i).map D.bl, rfl, ?_, ?_⟩
          · intro i d acc ei hA
            obtain ⟨i1, i2⟩ := zipD_len (List.getElem?_eq_some_iff.mp ei).1
            have e1 := List.getElem?_eq_getElem i1
            have e2 := List.getElem?_eq_getElem i2
            rw [zipD_at e1 e2] at ei
            cases ei
            refine ⟨rfl, (by decide : 2 < 4), (by decide : 3 < 4), rfl, ?_⟩
            refine ⟨hl.2 _ (List.getElem_mem i1), hm'.2 _ (List.getElem_mem i2), rfl, ?_, ?_⟩
            · subst hA
              rw [List.length_map, List.length_take, List.length_zipWith, sizeLine_eq]
              omega
            · subst hA
              show _ = ((List.zipWith (fun a b => decide (a = b)) l m).take (i + 1)).map D.bl
              have e3 : (List.zipWith (fun a b => decide (a = b)) l m)[i]? = some (decide (l[i] = m[i])) := by
                rw [List.getElem?_zipWith, e1, e2]
              rw [take_at e3, List.map_append]
              rfl
          · intro acc hA
            have hA : acc = ((List.zipWith (fun a b => decide (a = b)) l m).take (zipD l m).length).map D.bl := hA
            rw [List.take_of_length_le (by rw [zl, List.length_zipWith]; omega)] at hA
            subst hA
            exact hkk
        rcases hm with rfl | rfl <;> exact core
      simp only [dT, xCB, aCons, aNil]
      refine lc _ ?_
      show ob (blsOf ((List.zipWith (fun a b => decide (a = b)) l m).map D.bl)) _
      rw [bls_all, ]
      show k (.fz (.bl ((List.zipWith (fun a b => decide (a = b)) l m).all id))) _
      rw [zip_all (n := n) el]
      exact hk
    · show match decide (D.int (l.length : Int) = D.int (m.length : Int)) with | true => _ | false => _
      have : decide (D.int (l.length : Int) = D.int (m.length : Int)) = false := decide_eq_false (by simpa using e)
      rw [this]
      have ne : decide (l = m) = false := decide_eq_false fun z => e (by rw [z])
      rw [ne] at hk
      exact hk
  rcases hm with rfl | rfl
  · have nl : "list" ≠ "?" := by decide
    refine ⟨nl, nl, nl, nl, trivial, nl, nl, trivial, ?_⟩
    refine main (fun t e1 => ob (retT e1 t) post) ?_
    exact hp
  · have nl : "tuple" ≠ "?" := by decide
    refine ⟨nl, nl, nl, nl, trivial, nl, nl, trivial, ?_⟩
    refine main (fun t e1 => ob (retT e1 t) post) ?_
    exact hp
theorem wp_same (n : Nat) : ∀ args post, args.length = 2 → cSame (n + 1) args post → d__law_same (cSame n) { nx := fun _ => post (.fz .non), rt := post } (env0 m__law_same args 4) := by
  intro args post hl hc
  match args, hl with
  | [a, b], _ =>
    obtain ⟨ha, hb, hp⟩ := hc
    have nn : "NoneType" ≠ "?" := by decide
    have nb : "bool" ≠ "?" := by decide
    have ni : "int" ≠ "?" := by decide
    have ns : "str" ≠ "?" := by decide
    have nl : "list" ≠ "?" := by decide
    have nt : "tuple" ≠ "?" := by decide
    cases b with
    | non =>
      cases a with
      | non => exact hp
      | _ => exact hp
    | bl y =>
      cases a with
      | non => exact hp
      | bl x => exact ⟨nb, nb, nb, nb, trivial, nb, nb, trivial, nb, nb, trivial, trivial, hp⟩
      | int x => exact ⟨nb, nb, ni, nb, trivial, hp⟩
      | str x => exact ⟨nb, nb, ns, nb, trivial, hp⟩
      | lst x => exact ⟨nb, nb, nl, nb, trivial, hp⟩
      | tup x => exact ⟨nb, nb, nt, nb, trivial, hp⟩
      | _ => exact ha.elim
    | int y =>
      cases a with
      | non => exact hp
      | bl x => exact ⟨ni, ni, nb, ni, trivial, hp⟩
      | int x => exact ⟨ni, ni, ni, ni, trivial, ni, ni, trivial, ni, ni, trivial, trivial, hp⟩
      | str x => exact ⟨ni, ni, ns, ni, trivial, ns, ni, trivial, hp⟩
      | lst x => exact ⟨ni, ni, nl, ni, trivial, nl, ni, trivial, hp⟩
      | tup x => exact ⟨ni, ni, nt, ni, trivial, nt, ni, trivial, hp⟩
      | _ => exact ha.elim
    | str y =>
      cases a with
      | non => exact hp
      | bl x => exact ⟨ns, ns, nb, ns, trivial, hp⟩
      | int x => exact ⟨ns, ns, ni, ns, trivial, ni, ns, trivial, hp⟩
      | str x => exact ⟨ns, ns, ns, ns, trivial, ns, ns, trivial, ns, ns, trivial, trivial, hp⟩
      | lst x => exact ⟨ns, ns, nl, ns, trivial, nl, ns, trivial, nl, ns, trivial, hp⟩
      | tup x => exact ⟨ns, ns, nt, ns, trivial, nt, ns, trivial, nt, ns, trivial, hp⟩
      | _ => exact ha.elim
    | lst y =>
      cases a with
      | non => exact hp
      | lst x => exact same_seq n (.inl rfl) ha hb hp
      | bl x => exact ⟨nl, nl, nb, nl, trivial, hp⟩
      | int x => exact ⟨nl, nl, ni, nl, trivial, hp⟩
      | str x => exact ⟨nl, nl, ns, nl, trivial, hp⟩
      | tup x => exact ⟨nl, nl, nt, nl, trivial, hp⟩
      | _ => exact ha.elim
    | tup y =>
      cases a with
      | non => exact hp
      | lst x => exact ⟨nt, nt, nl, nt, trivial, hp⟩
      | bl x => exact ⟨nt, nt, nb, nt, trivial, nb, nt, trivial, hp⟩
      | int x => exact ⟨nt, nt, ni, nt, trivial, ni, nt, trivial, hp⟩
      | str x => exact ⟨nt, nt, ns, nt, trivial, ns, nt, trivial, hp⟩
      | tup x => exact same_seq n (.inr rfl) ha hb hp
      | _ => exact ha.elim
    | _ => exact hb.elim
end DL
set_option maxRecDepth 100000
set_option maxHeartbeats 4000000
namespace DL
open PySem PySem.Spec PyProof.Rows L2
def abcD : List Nat := [97, 98, 99, 100, 101, 102, 103, 104, 105, 106, 107, 108, 109, 110, 111, 112, 113, 114, 115, 116, 117, 118, 119, 120]
def cLetters : Con := fun args post => post (.fz (.str abcD))
theorem wp_letters : ∀ args post, args.length = 0 → cLetters args post → d__law_letters { nx := fun _ => post (.fz .non), rt := post } (env0 m__law_letters args 0) := by
  intro args post hl hc
  match args, hl with
  | [], _ => exact hc
theorem atI_in {l : List D} {r : Int} (h0 : 0 ≤ r) (h1 : r < l.length) : ∃ d, L2.atI l r = some d ∧ d ∈ l := by
  obtain ⟨j, rfl⟩ := Int.eq_ofNat_of_zero_le h0
  have hj : j < l.length := by omega
  exact ⟨l[j], L2.atI_nat (List.getElem?_eq_getElem hj), List.getElem_mem hj⟩
theorem wp_of : ∀ args post, args.length = 2 → cOf args post → d__law_of cPull { nx := fun _ => post (.fz .non), rt := post } (env0 m__law_of args 2) := by
  intro args post hl hc
  match args, hl with
  | [x, .lst l], _ =>
    obtain ⟨h1, h2, h3⟩ := hc
    have hn : 0 < l.length := List.length_pos_iff.mpr h1
    refine ⟨by show (1 : Int) ≤ (l.length : Nat); omega, by show ((l.length : Nat) : Int) ≤ 1000000; omega, fun r r0 r1 => ?_⟩
    obtain ⟨d, ed, hd⟩ := atI_in r0 r1
    show ob (L2.atI l r) _
    rw [ed]
    exact h3 d hd
  | [x, .tup l], _ =>
    obtain ⟨h1, h2, h3⟩ := hc
    have hn : 0 < l.length := List.length_pos_iff.mpr h1
    refine ⟨by show (1 : Int) ≤ (l.length : Nat); omega, by show ((l.length : Nat) : Int) ≤ 1000000; omega, fun r r0 r1 => ?_⟩
    obtain ⟨d, ed, hd⟩ := atI_in r0 r1
    show ob (L2.atI l r) _
    rw [ed]
    exact h3 d hd
theorem perm_pop {α : Type} {l : List α} {n : Nat} {a : α} (h : l[n]? = some a) : (l.eraseIdx n ++ [a]).Perm l := by
  induction l generalizing n with
  | nil => simp at h
  | cons b l ih =>
    cases n with
    | zero =>
      simp at h
      subst h
      simp only [List.eraseIdx_cons_zero]
      exact List.perm_append_comm (l₁ := l) (l₂ := [b])
    | succ n =>
      simp only [List.eraseIdx_cons_succ, List.cons_append]
      exact (ih (by simpa using h)).cons b
theorem wp_mixed : ∀ args post, args.length = 2 → cMixed args post → d__law_mixed cPull { nx := fun _ => post (.fz .non), rt := post } (env0 m__law_mixed args 5) := by
  intro args post hl hc
  match args, hl with
  | [x, .lst l], _ =>
    obtain ⟨h1, h2⟩ := hc
    refine ⟨Nat.zero_le _, (by decide : 2 < 5), (by decide : 3 < 5), ?_⟩
    refine ⟨by show -(2 ^ 62) ≤ ((l.length : Nat) : Int); omega, by show ((l.length : Nat) : Int) < 2 ^ 62; omega, ?_⟩
    refine ⟨fun i e => ∃ left found x1 x4, e = [.bg, x1, .ow (.lst left), .ow (.lst found), x4] ∧ (left ++ found).Perm l ∧ found.length = i, ⟨l, [], _, _, rfl, by simp, rfl⟩, ?_, ?_⟩
    · intro i d e ei _ hI
      obtain ⟨left, found, x1, x4, rfl, hp, hf⟩ := hI
      have hi : i < l.length := by
        have := (List.getElem?_eq_some_iff.mp ei).1
        simpa [rngD] using this
      have hlen : left.length + found.length = l.length := by
        have := hp.length_eq
        simpa using this
      refine ⟨(by decide : 4 < 5), ?_⟩
      refine ⟨by show (1 : Int) ≤ (left.length : Nat); omega, by show ((left.length : Nat) : Int) ≤ 1000000; omega, fun r r0 r1 => ?_⟩
      obtain ⟨j, rfl⟩ := Int.eq_ofNat_of_zero_le r0
      have hj : j < left.length := by
        have : (j : Int) < (left.length : Nat) := r1
        omega
      refine ⟨r0, r1, by rw [sizeLine_eq]; omega, ?_⟩
      show ob left[(j : Int).toNat]? _
      have e1 : left[(j : Int).toNat]? = some left[j] := List.getElem?_eq_getElem hj
      rw [e1]
      refine ⟨by rw [sizeLine_eq]; omega, ?_⟩
      refine ⟨left.eraseIdx j, found ++ [left[j]], .un, .un, rfl, ?_, by simp [hf]⟩
      have p1 := perm_pop (List.getElem?_eq_getElem hj)
      refine List.Perm.trans ?_ hp
      rw [← List.append_assoc]
      have p2 : (left.eraseIdx j ++ found ++ [left[j]]).Perm ((left.eraseIdx j ++ [left[j]]) ++ found) := by
        rw [List.append_assoc, List.append_assoc]
        exact (List.perm_append_comm).append_left _
      exact p2.trans (p1.append_right _)
    · intro e _ hI
      obtain ⟨left, found, x1, x4, rfl, hp, hf⟩ := hI
      have hlen : left.length + found.length = l.length := by
        have := hp.length_eq
        simpa using this
      have : left = [] := by
        refine List.eq_nil_of_length_eq_zero ?_
        simp [rngD] at hf
        omega
      subst this
      exact h2 found hp
def cSumL : Con := fun args post => match args with
  | [d] => ∃ l rows, itemsOf d = some l ∧ l = rows.map (fun r : List Tx => D.lst (r.map D.str)) ∧ (∀ r ∈ rows, r.Nodup) ∧ rows.flatten.length ≤ 4000 ∧ post (.ow (.lst ((oddT rows).map D.str)))
  | _ => False
theorem count_flat {x : Tx} : ∀ {rows : List (List Tx)}, (∀ r ∈ rows, r.Nodup) → rows.flatten.count x = rows.countP (fun r => decide (x ∈ r))
  | [], _ => rfl
  | r :: rows, h => by
    rw [List.flatten_cons, List.count_append, count_flat fun r' hr => h r' (List.mem_cons_of_mem _ hr), List.countP_cons]
    have hr := h r List.mem_cons_self
    rw [hr.count]
    by_cases c : x ∈ r
    · simp [c]; omega
    · simp [c]
theorem sorted_filter {l : List Tx} {p : Tx → Bool} : (setT l).filter p = setT (l.filter p) :=
  setT_only ((setT_nodup l).filter _) (fun k => by rw [List.mem_filter, List.mem_filter, mem_setT]) ((setT_up l).filter _)
theorem wp_sumL : ∀ args post, args.length = 1 → cSumL args post → d__law_sum { nx := fun _ => post (.fz .non), rt := post } (env0 m__law_sum args 4) := by
  intro args post hl hc
  match args, hl with
  | [d], _ =>
    obtain ⟨l, rows, hd, hr, hn, hz, hp⟩ := hc
    refine ⟨Nat.zero_le _, (by decide : 1 < 4), ?_⟩
    show ob (itemsOf d) _
    rw [hd]
    refine ⟨fun i e => ∃ x0 x2 x3, e = [x0, .ow (.lst ((rows.take i).flatten.map D.str)), x2, x3], ⟨_, _, _, rfl⟩, ?_, ?_⟩
    · intro i row e ei _ hI
      obtain ⟨x0, x2, x3, rfl⟩ := hI
      rw [hr] at ei
      obtain ⟨r, er, rfl⟩ := at_map ei
      have hrl := row_flat er
      refine ⟨(by decide : 2 < 4), ?_, (by decide : 1 < 4), ?_⟩
      · rw [List.length_map, List.length_map, sizeLine_eq]; omega
      · refine ⟨.un, .fz (.lst (r.map D.str)), .un, ?_⟩
        have e2 : (rows.take i).flatten.map D.str ++ r.map D.str = (rows.take (i + 1)).flatten.map D.str := by
          rw [take_at er]; simp
        rw [← e2]
        rfl
    · intro e _ hI
      obtain ⟨x0, x2, x3, rfl⟩ := hI
      have hl : l.length = rows.length := by rw [hr, List.length_map]
      rw [hl, List.take_length]
      refine ⟨by rw [List.length_map]; have := scan4; omega, ?_⟩
      show ob (setD (rows.flatten.map D.str)) _
      rw [setD_strs]
      refine ⟨rfl, fun i acc => acc = (((setT rows.flatten).take i).filter (isOdd rows)).map D.str, rfl, ?_, ?_⟩
      · intro i one acc ei hA
        obtain ⟨x, ex, rfl⟩ := at_map ei
        subst hA
        refine ⟨(by decide : 3 < 4), rfl, rfl, ?_⟩
        show ob (strsOf (rows.flatten.map D.str)) _
        rw [strsOf_map]
        refine ⟨(by decide : (0 : Int) < 2), trivial, ?_⟩
        have ed : decide (D.int (((rows.flatten.count x : Nat) : Int) % 2) = D.int 1) = isOdd rows x := by
          rw [count_flat hn]
          unfold isOdd
          rw [Bool.eq_iff_iff, decide_eq_true_eq, decide_eq_true_eq]
          constructor
          · intro h; have := int_inj _ _ h; omega
          · intro h; congr 1; omega
        show match decide (D.int (((rows.flatten.count x : Nat) : Int) % 2) = D.int 1) with | true => _ | false => _
        rw [ed]
        have s1 := setT_len rows.flatten
        cases eo : isOdd rows x with
        | false =>
          refine ⟨rfl, ?_⟩
          show _ = (((setT rows.flatten).take (i + 1)).filter (isOdd rows)).map D.str
          rw [take_at ex, List.filter_append]
          simp [eo]
        | true =>
          refine ⟨rfl, ?_, ?_⟩
          · rw [List.length_map]
            have h1 := List.length_filter_le (isOdd rows) ((setT rows.flatten).take i)
            rw [List.length_take] at h1
            exact line4 (by omega)
          · show _ = (((setT rows.flatten).take (i + 1)).filter (isOdd rows)).map D.str
            rw [take_at ex, List.filter_append]
            simp [eo]
      · intro acc hA
        have hA : acc = (((setT rows.flatten).take ((setT rows.flatten).map D.str).length).filter (isOdd rows)).map D.str := hA
        rw [List.length_map, List.take_length, sorted_filter] at hA
        subst hA
        exact hp
end DL
set_option maxRecDepth 100000
set_option maxHeartbeats 4000000
namespace DL
open PySem PySem.Spec PyProof.Rows L2
theorem sc__law_pull : FnScope ["_law_bag_here", "_law_many", "_law_cell", "_law_digit", "_law_square"] ["_law_bag_here", "_law_many"] (defScope (topS 4)) := ⟨rfl, rfl, rfl, by decide +kernel, rfl, by decide +kernel, by decide +kernel⟩
section
variable {P : Program} {w : World} {K : PySem.W.Frag} {mg : Str → Option Value} {base : Heap} {C : Addr}
theorem at4 {α : Type} {a b c d : α} : L2.atI [a, b, c, d] 0 = some a ∧ L2.atI [a, b, c, d] 1 = some b ∧ L2.atI [a, b, c, d] 2 = some c ∧ L2.atI [a, b, c, d] 3 = some d := ⟨rfl, rfl, rfl, rfl⟩
/-- the bag stands so -/
def Bg (a : Addr) (H H' : Hp) (l : Addr) (i j k : Int) : Prop := H' a = some (.lst [.ref l, .int i, .int j, .int k]) ∧ ∀ x, x ≠ a → H' x = H x
theorem Bg.set {a l : Addr} {H H' : Hp} {i j k : Int} (h : Bg a H H' l i j k) (i' j' k' : Int) {xs : List V} (e : xs = [.ref l, .int i', .int j', .int k']) : Bg a H (upd H' a (.lst xs)) l i' j' k' := by
  subst e
  exact ⟨upd_same, fun x hx => by rw [upd_ne hx]; exact h.2 x hx⟩
theorem ok__law_pull {fa : Addr} {fd : FuncData} {k : Nat} (F : Fun K "_law_pull" "_law_pull" (topS 4) fa fd) (b : Bi mg) : FnOk P w K mg base CX0 (k + 1) fa fd ["_law_bag_here", "_law_many"] (spD ⟨K, C, P, w⟩ [.B, .R] cPull) := by
  refine F.ok sc__law_pull (fun vs H Q E h => ?_) (fun cdv A outer s H vs Q E hr h => ?_)
  · obtain ⟨F', b, ds', post, _, _, a, _⟩ := h
    exact a.len.2
  · obtain ⟨F', bb, ds, post, hext, hbag, ha, hc, q⟩ := h
    obtain ⟨d1, r1, v1, s1, rfl, rfl, hA1, d2, r2, v2, s2, rfl, rfl, hA2, rfl, rfl⟩ := ha
    obtain ⟨a, rfl, rfl⟩ := hA1
    have hc' : ∃ m : Int, d2 = .int m ∧ 1 ≤ m ∧ m ≤ 1000000 ∧ ∀ r : Int, 0 ≤ r → r < m → post (.fz (.int r)) := by
      cases d2 with
      | int m => exact ⟨m, rfl, hc⟩
      | _ => exact hc.elim
    obtain ⟨m, rfl, hm1, hm2, hp⟩ := hc'
    have ev : v2 = .int m := hA2
    subst ev
    obtain ⟨⟨l, ns, i, j, kk, hH, hl, hns, hi, hj, hk, hk2⟩, hFa⟩ := hbag a rfl
    have hseq : ∀ {H' : Hp} {i j k : Int}, Bg a H H' l i j k → SqL K H' l (ns.map V.int) := fun {H' i j k} h => by
      rcases hl with (hl | ⟨o, hl⟩) | hl
      · have hne : l ≠ a := fun z => by rw [z, hFa] at hl; cases hl
        exact .inl (.inl (by rw [h.2 l hne]; exact hext _ _ hl))
      · have hne : l ≠ a := fun z => by rw [z, hFa] at hl; cases hl
        exact .inl (.inr ⟨o, by rw [h.2 l hne]; exact hext _ _ hl⟩)
      · exact .inr hl
    have B0 : Bg a H H l i j kk := ⟨hH, fun _ _ => rfl⟩
    -- a draw made, the bag as it then stands
    have fin : ∀ (H' : Hp) (i' j' k' r : Int), Bg a H H' l i' j' k' → 0 ≤ i' → 0 ≤ j' → 0 ≤ k' → k' < 2147483549 → 0 ≤ r → r < m → Q (.int r) H' := fun H' i' j' k' r h1 h2 h3 h4 h5 r0 r1 => by
      refine q (.fz (.int r)) (.int r) F' H' ⟨.refl F', fun x o e => ?_, fun x o hx e => ?_, fun x o e => .inl e, fun x hx => ?_, rfl⟩ (hp r r0 r1)
      · have : x ≠ a := fun z => by rw [z, hFa] at e; cases e
        rw [h1.2 x this]; exact hext x o e
      · have : x ≠ a := fun z => hx (by rw [z])
        rw [h1.2 x this]; exact e
      · cases hx
        exact ⟨l, ns, i', j', k', h1.1, hl, hns, h2, h3, h4, h5⟩
    obtain ⟨u, hu, hq⟩ : ∃ u, PSs (cxOf CX0 P w K mg base ["_law_bag_here", "_law_many", "_law_cell", "_law_digit", "_law_square"] "_law_pull" (defScope (topS 4)) fa cdv A outer s H E).nox ((defBody (topS 4)).drop 1) u ∧ ∀ (c : Option V) (H1 : Hp) (i j k : Int), Bg a H H1 l i j k → 0 ≤ i → 0 ≤ j → 0 ≤ k → k < 2147483549 →
        u { nx := fun _ H' => Q .non H', rt := Q } [some (.ref a), some (.int m), c, none, none] H1 := by
      refine ⟨_, (pss_cons (ps_if (pt_cmpR op_ge (pe_ix ix_list (pv 0) pe_int (fun _ _ => rfl)) (pv 1) (nomark _)) (pss_cons (ps_set (i := 3) sc__law_pull.nd rfl (.inl rfl) (pe_op op_mod (pe_ix ix_list (pv 0) pe_int (fun _ _ => rfl)) (pv 1)))
  (pss_cons (ps_asg (pe_op op_fdiv (pe_ix ix_list (pv 0) pe_int (fun _ _ => rfl)) (pv 1)) (pg_sub (pv 0) pe_int set_list))
  (pss_one (ps_ret (pv 3))))) pss_nil)
  (pss_cons (ps_set (i := 4) sc__law_pull.nd rfl (.inl rfl) (pe_op op_mod (pe_op op_mul (pe_ix ix_list (pv 0) pe_int (fun _ _ => rfl)) (pe_ix ix_list (pv 0) pe_int (fun _ _ => rfl))) pe_int))
  (pss_cons (ps_asg (pe_op op_mod (pe_op op_add (pe_op op_add (pe_op op_mul (pv 4) pe_int) (pe_op op_mul (pe_ix ix_list (pv 0) pe_int (fun _ _ => rfl)) pe_int)) pe_int) pe_int) (pg_sub (pv 0) pe_int set_list))
  (pss_one (ps_ret (pe_op op_mod (pe_op op_add (pe_op op_fdiv (pe_ix ix_list (pv 0) pe_int (fun _ _ => rfl)) pe_int) (pe_op op_mul (pe_op op_mod (pe_ix ix_list (pv 0) pe_int (fun _ _ => rfl)) pe_int) pe_int)) (pv 1))))))), ?_⟩
      intro c H1 i j k h hi hj hk hk2
      have hs : SqL K H1 a [.ref l, .int i, .int j, .int k] := .inl (.inl h.1)
      refine ⟨.ref a, rfl, a, _, 2, _, rfl, rfl, hs, rfl, .int m, rfl, j, m, rfl, rfl, _, rfl, ite2 (fun e => ?_) (fun e => ?_)⟩
      · have e : m ≤ j := of_decide_eq_true e
        refine ⟨.ref a, rfl, a, _, 2, _, rfl, rfl, hs, rfl, .int m, rfl, j, m, rfl, rfl, (by omega : (0 : Int) < m), ?_⟩
        refine ⟨.ref a, rfl, a, _, 2, _, rfl, rfl, hs, rfl, .int m, rfl, j, m, rfl, rfl, ⟨(by omega : (0 : Int) < m), (by omega : m < 1073741824)⟩, ?_⟩
        refine ⟨.ref a, rfl, a, _, 2, 2, rfl, rfl, h.1, rfl, ?_⟩
        exact ⟨.int (j % m), rfl, fin _ i (j / m) k (j % m) (h.set i (j / m) k rfl) hi (Int.ediv_nonneg hj (by omega)) hk hk2 (Int.emod_nonneg _ (by omega)) (Int.emod_lt_of_pos _ (by omega))⟩
      · refine ⟨.ref a, rfl, a, _, 3, _, rfl, rfl, hs, rfl, .ref a, rfl, a, _, 3, _, rfl, rfl, hs, rfl, k, k, rfl, rfl, .inl ⟨by omega, by omega⟩, _, _, rfl, rfl, (by decide : (0 : Int) < 2147483549), ?_⟩
        have sq0 : 0 ≤ k * k % 2147483549 := Int.emod_nonneg _ (by decide)
        have sq1 : k * k % 2147483549 < 2147483549 := Int.emod_lt_of_pos _ (by decide)
        refine ⟨_, rfl, _, _, rfl, rfl, .inr ⟨by decide, by decide⟩, .ref a, rfl, a, _, 3, _, rfl, rfl, hs, rfl, _, _, rfl, rfl, .inr ⟨by decide, by decide⟩, _, _, rfl, rfl, _, _, rfl, rfl, _, _, rfl, rfl, (by decide : (0 : Int) < 2147483549), ?_⟩
        refine ⟨.ref a, rfl, a, _, 3, 3, rfl, rfl, h.1, rfl, ?_⟩
        have k20 : 0 ≤ ((k * k % 2147483549 * 40699 + k * 30323 + 12347) % 2147483549) := Int.emod_nonneg _ (by decide)
        have k21 : ((k * k % 2147483549 * 40699 + k * 30323 + 12347) % 2147483549) < 2147483549 := Int.emod_lt_of_pos _ (by decide)
        have h2 : Bg a H (upd H1 a (.lst [.ref l, .int i, .int j, .int ((k * k % 2147483549 * 40699 + k * 30323 + 12347) % 2147483549)])) l i j ((k * k % 2147483549 * 40699 + k * 30323 + 12347) % 2147483549) := h.set i j ((k * k % 2147483549 * 40699 + k * 30323 + 12347) % 2147483549) rfl
        have hs2 : SqL K (upd H1 a (.lst [.ref l, .int i, .int j, .int ((k * k % 2147483549 * 40699 + k * 30323 + 12347) % 2147483549)])) a [.ref l, .int i, .int j, .int ((k * k % 2147483549 * 40699 + k * 30323 + 12347) % 2147483549)] := .inl (.inl h2.1)
        refine ⟨.ref a, rfl, a, [.ref l, .int i, .int j, .int ((k * k % 2147483549 * 40699 + k * 30323 + 12347) % 2147483549)], 3, .int ((k * k % 2147483549 * 40699 + k * 30323 + 12347) % 2147483549), rfl, rfl, hs2, rfl, ((k * k % 2147483549 * 40699 + k * 30323 + 12347) % 2147483549), 53, rfl, rfl, ⟨by decide, by decide⟩, .ref a, rfl, a, [.ref l, .int i, .int j, .int ((k * k % 2147483549 * 40699 + k * 30323 + 12347) % 2147483549)], 3, .int ((k * k % 2147483549 * 40699 + k * 30323 + 12347) % 2147483549), rfl, rfl, hs2, rfl, ((k * k % 2147483549 * 40699 + k * 30323 + 12347) % 2147483549), 7919, rfl, rfl, (by decide : (0 : Int) < 7919), _, _, rfl, rfl, .inr ⟨by decide, by decide⟩, _, _, rfl, rfl, .int m, rfl, _, _, rfl, rfl, (by omega : (0 : Int) < m), ?_⟩
        exact fin _ i j ((k * k % 2147483549 * 40699 + k * 30323 + 12347) % 2147483549) _ h2 hi hj k20 k21 (Int.emod_nonneg _ (by omega)) (Int.emod_lt_of_pos _ (by omega))
    refine ⟨_, (pss_cons (ps_if (PW.pt (pw_and (pt_cmpR op_lt (pe_ix ix_list (pv 0) pe_int (fun _ _ => rfl)) (pv 1) (nomark _)) (pw_and1 (pt_cmpR op_lt (pe_ix ix_list (pv 0) pe_int (fun _ _ => rfl)) (pe_callB call_len_seq (by rfl) b.len PySem.boot_len (pa_cons (pe_ix ix_list (pv 0) pe_int (fun _ _ => rfl)) pa_nil)) (nomark _))))) (pss_cons (ps_set (i := 2) sc__law_pull.nd rfl (.inl rfl) (pe_ix ix_list (pe_ix ix_list (pv 0) pe_int (fun _ _ => rfl)) (pe_ix ix_list (pv 0) pe_int (fun _ _ => rfl)) (fun _ _ => rfl)))
  (pss_cons (ps_asg (pe_op op_add (pe_ix ix_list (pv 0) pe_int (fun _ _ => rfl)) pe_int) (pg_sub (pv 0) pe_int set_list))
  (pss_cons (ps_asg pe_int (pg_sub (pv 0) pe_int set_list))
  (pss_one (ps_if (pt_cmpR op_ge (pv 2) (pe_op op_pow pe_int pe_int) (nomark _)) (pss_one (ps_asg (pv 2) (pg_sub (pv 0) pe_int set_list))) (pss_one (ps_asg (pe_op op_mod (pe_op op_add (pe_op op_add (pe_op op_mul (pe_ix ix_list (pv 0) pe_int (fun _ _ => rfl)) pe_int) (pe_op op_mul (pe_op op_mod (pv 2) pe_int) pe_int)) pe_int) pe_int) (pg_sub (pv 0) pe_int set_list)))))))) pss_nil) hu), ?_⟩
    have hs : SqL K H a [.ref l, .int i, .int j, .int kk] := .inl (.inl hH)
    have hl0 : SqL K H l (ns.map V.int) := hseq B0
    refine ⟨.ref a, rfl, a, _, 2, _, rfl, rfl, hs, rfl, .int m, rfl, j, m, rfl, rfl, _, rfl, ite2 (fun e => ?_) (fun e => ?_)⟩
    · refine ⟨.ref a, rfl, a, _, 1, _, rfl, rfl, hs, rfl, .ref a, rfl, a, _, 0, _, rfl, rfl, hs, rfl, l, ns.map V.int, rfl, .inl hl0, _, _, rfl, rfl, _, rfl, ite2 (fun e2 => ?_) (fun e2 => ?_)⟩
      · have e2 : i < ((ns.map V.int).length : Nat) := of_decide_eq_true e2
        rw [List.length_map] at e2
        obtain ⟨p, rfl⟩ := Int.eq_ofNat_of_zero_le hi
        have hp2 : p < ns.length := by omega
        have eg : L2.atI (ns.map V.int) (p : Int) = some (.int ns[p]) := L2.atI_nat (by rw [List.getElem?_map, List.getElem?_eq_getElem hp2]; rfl)
        generalize ns[p] = c at eg
        -- the cell
        refine ⟨.ref a, rfl, a, _, 0, _, rfl, rfl, hs, rfl, .ref a, rfl, a, _, 1, _, rfl, rfl, hs, rfl, l, _, (p : Int), .int c, rfl, rfl, hl0, eg, ?_⟩
        refine ⟨.ref a, rfl, a, _, 1, _, rfl, rfl, hs, rfl, _, _, rfl, rfl, .ref a, rfl, a, _, 1, 1, rfl, rfl, hH, rfl, ?_⟩
        have h1 : Bg a H (upd H a (.lst [.ref l, .int ((p : Int) + 1), .int j, .int kk])) l (p + 1) j kk := B0.set _ _ _ rfl
        refine ⟨.ref a, rfl, a, [.ref l, .int ((p : Int) + 1), .int j, .int kk], 2, 2, rfl, rfl, h1.1, rfl, ?_⟩
        have h2 : Bg a H (upd (upd H a (.lst [.ref l, .int ((p : Int) + 1), .int j, .int kk])) a (.lst [.ref l, .int ((p : Int) + 1), .int 0, .int kk])) l (p + 1) 0 kk := h1.set _ _ _ rfl
        have hs2 := h2.1
        refine ⟨.int c, rfl, _, _, rfl, rfl, ⟨by decide, by decide, by decide⟩, c, _, rfl, rfl, _, rfl, ite2 (fun e3 => ?_) (fun e3 => ?_)⟩
        · have e3 : (10 : Int) ^ (18 : Int).toNat ≤ c := of_decide_eq_true e3
          have c0 : 0 ≤ c := Int.le_trans (by decide) e3
          refine ⟨.int c, rfl, .ref a, rfl, a, [.ref l, .int ((p : Int) + 1), .int 0, .int kk], 2, 2, rfl, rfl, hs2, rfl, ?_⟩
          exact hq _ _ _ _ _ (h2.set (p + 1) c kk rfl) (by omega) c0 hk hk2
        · refine ⟨.ref a, rfl, a, [.ref l, .int ((p : Int) + 1), .int 0, .int kk], 3, .int kk, rfl, rfl, .inl (.inl hs2), rfl, kk, 52571, rfl, rfl, .inr ⟨by decide, by decide⟩, .int c, rfl, c, 2147483549, rfl, rfl, (by decide : (0 : Int) < 2147483549), _, _, rfl, rfl, .inr ⟨by decide, by decide⟩, _, _, rfl, rfl, _, _, rfl, rfl, _, _, rfl, rfl, (by decide : (0 : Int) < 2147483549), ?_⟩
          refine ⟨.ref a, rfl, a, [.ref l, .int ((p : Int) + 1), .int 0, .int kk], 3, 3, rfl, rfl, hs2, rfl, ?_⟩
          exact hq _ _ _ _ _ (h2.set (p + 1) 0 _ rfl) (by omega) (by decide) (Int.emod_nonneg _ (by decide)) (Int.emod_lt_of_pos _ (by decide))
      · exact hq _ _ _ _ _ B0 hi hj hk hk2
    · exact hq _ _ _ _ _ B0 hi hj hk hk2
end
end DL
set_option maxRecDepth 100000
set_option maxHeartbeats 2000000
namespace DL
open PySem PySem.Spec PyProof.Rows L2
theorem wp_bag : ∀ args post, args.length = 1 → cBag args post → d__law_bag { nx := fun _ => post (.fz .non), rt := post } (env0 m__law_bag args 3) := by
  intro args post hl hc
  match args, hl with
  | [d], _ =>
    obtain ⟨ns, rfl, hn, hp⟩ := hc
    have ec : cutD (ns.map D.int) none (some 63) = ns.map D.int := cut_to (n := 63) (by rw [List.length_map]; exact hn)
    have M0 : (0 : Int) < 2147483549 := by decide
    refine ⟨(by decide : 1 < 3), ?_⟩
    refine ⟨fun i e => ∃ (s : Int) (x2 : Slot), e = [.bo (.lst (ns.map D.int)), .fz (.int s), x2] ∧ 0 ≤ s ∧ s < 2147483549, ⟨3808, .un, rfl, by decide, by decide⟩, ?_, ?_⟩
    · intro i d e ei _ hI
      obtain ⟨s, x2, rfl, h0, h1⟩ := hI
      have ei : (cutD (ns.map D.int) none (some 63))[i]? = some d := ei
      rw [ec] at ei
      obtain ⟨c, _, rfl⟩ := at_map ei
      refine ⟨(by decide : 2 < 3), .inr ⟨by decide, by decide⟩, M0, M0, (by decide : 1 < 3), ?_⟩
      exact ⟨_, _, rfl, Int.emod_nonneg _ (by decide), Int.emod_lt_of_pos _ M0⟩
    · intro e _ hI
      obtain ⟨s, x2, rfl, h0, h1⟩ := hI
      refine ⟨(by rw [sizeLine_eq]; show 4 ≤ _; decide), ?_⟩
      show post (.ow (.lst [.lst (cutD (ns.map D.int) none (some 63)), .int 0, .int 0, .int s]))
      rw [ec]
      exact hp s h0 h1
/-! ### the law -/
def Pr (t : Tx) : Prop := t.length = 2 ∧ t.all (· < 1114112) = true
def Row (r : List Tx) : Prop := r.length ≤ 12 ∧ ∀ t ∈ r, Pr t
theorem abc_ok : ∀ c ∈ abcD, c < 1114112 := by decide
theorem perm_map {α β : Type} {f : α → β} {l : List α} {m : List β} (h : m.Perm (l.map f)) : ∃ k : List α, m = k.map f ∧ k.Perm l := by
  have : ∀ (m n : List β), m.Perm n → ∀ l : List α, n = l.map f → ∃ k : List α, m = k.map f ∧ k.Perm l := by
    intro m n h
    induction h with
    | nil =>
      intro l e
      have : l = [] := List.map_eq_nil_iff.mp e.symm
      subst this
      exact ⟨[], rfl, .nil⟩
    | cons x h ih =>
      intro l e
      cases l with
      | nil => cases e
      | cons a l =>
        rw [List.map_cons] at e
        injection e with e1 e2
        obtain ⟨k, hk, hp⟩ := ih l e2
        exact ⟨a :: k, by rw [List.map_cons, hk, e1], hp.cons a⟩
    | swap x y l' =>
      intro l e
      match l, e with
      | a :: b :: l, e =>
        rw [List.map_cons, List.map_cons] at e
        injection e with e1 e2
        injection e2 with e2 e3
        exact ⟨b :: a :: l, by rw [List.map_cons, List.map_cons, e1, e2, e3], List.Perm.swap a b l⟩
      | [a], e => simp at e
      | [], e => simp at e
    | trans h1 h2 ih1 ih2 =>
      intro l e
      obtain ⟨k, hk, hp⟩ := ih2 l e
      obtain ⟨k2, hk2, hp2⟩ := ih1 k hk
      exact ⟨k2, hk2, hp2.trans hp⟩
  exact this _ _ h l rfl
theorem strs_one (cs : List Nat) : strsOf (cs.map fun c => D.str [c]) = some (cs.map fun c => [c]) := by
  have := strsOf_map (cs.map fun c => [c])
  rw [List.map_map] at this
  exact this
theorem flat_one (cs : List Nat) : (cs.map fun c => [c]).flatten = cs := by
  induction cs with
  | nil => rfl
  | cons c cs ih => simp [ih]
theorem sum_one (cs : List Nat) : ((cs.map fun c => [c]).map (·.length)).sum = cs.length := by
  induction cs with
  | nil => rfl
  | cons c cs ih =>
    rw [List.map_cons, List.map_cons, List.sum_cons, ih]
    simp; omega
theorem odd_set (rs : List (List Tx)) : oddT (rs.map setT) = oddT rs := by
  have e : ∀ x, isOdd (rs.map setT) x = isOdd rs x := fun x => by
    unfold isOdd
    rw [List.countP_map]
    congr 2
    congr 1
    refine List.countP_congr fun r _ => ?_
    simp [mem_setT]
  unfold oddT
  refine setT_only (setT_nodup _) (fun k => ?_) (setT_up _)
  rw [mem_setT, mem_odd, mem_odd, e]
theorem odd_twice (rs : List (List Tx)) : oddT (rs ++ rs) = [] := by
  have : (rs ++ rs).flatten.filter (isOdd (rs ++ rs)) = [] := by
    refine List.filter_eq_nil_iff.mpr fun x _ h => ?_
    have := of_decide_eq_true h
    rw [List.countP_append] at this
    omega
  unfold oddT
  rw [this]
  simp [setT, uniq, sortT]
theorem odd_nil : oddT [] = [] := by simp [oddT, setT, uniq, sortT]
theorem rows_lists (rs : List (List Tx)) : rowsOk (rs.map fun r => D.lst (r.map D.str)) rs := by
  unfold rowsOk
  rw [List.map_map]
  rfl
theorem rows_tups (rs : List (List Tx)) : rowsOk (rs.map fun r => D.tup (r.map D.str)) rs := by
  unfold rowsOk
  rw [List.map_map]
  rfl
theorem flat_le {rs : List (List Tx)} (h : ∀ r ∈ rs, r.length ≤ 12) : rs.flatten.length ≤ 12 * rs.length := by
  induction rs with
  | nil => simp
  | cons r rs ih =>
    have h1 := h r List.mem_cons_self
    have h2 := ih fun x hx => h x (List.mem_cons_of_mem _ hx)
    simp only [List.flatten_cons, List.length_append, List.length_cons]
    omega
theorem odd_mem {rs : List (List Tx)} {x : Tx} (h : x ∈ oddT rs) : ∃ r ∈ rs, x ∈ r := by
  unfold oddT at h
  rw [mem_setT, List.mem_filter] at h
  exact List.mem_flatten.mp h.1
theorem odd_len (rs : List (List Tx)) : (oddT rs).length ≤ rs.flatten.length := Nat.le_trans (setT_len _) (List.length_filter_le _ _)
theorem okS_strs {ts : List Tx} (h : ∀ t ∈ ts, t.all (· < 1114112) = true) (hl : ts.length ≤ 1000000) : okS 2 (.lst (ts.map D.str)) := by
  refine ⟨by rw [List.length_map]; exact hl, fun d hd => ?_⟩
  obtain ⟨t, ht, rfl⟩ := List.mem_map.mp hd
  exact h t ht
theorem plains_map {α : Type} {f : α → D} : ∀ {l : List α}, (∀ a ∈ l, plain (f a) = true) → plains (l.map f) = true
  | [], _ => rfl
  | a :: l, h => by
    show (plain (f a) && plains (l.map f)) = true
    rw [h a List.mem_cons_self, plains_map fun b hb => h b (List.mem_cons_of_mem _ hb)]
    rfl
theorem deps_map {α : Type} {f : α → D} {n : Nat} : ∀ {l : List α}, (∀ a ∈ l, dep (f a) ≤ n) → deps (l.map f) ≤ n
  | [], _ => Nat.zero_le _
  | a :: l, h => by
    show max (dep (f a)) (deps (l.map f)) ≤ n
    have h1 := h a List.mem_cons_self
    have h2 := deps_map fun b hb => h b (List.mem_cons_of_mem _ hb)
    omega
theorem rows_plain {rs : List (List Tx)} (h : ∀ r ∈ rs, Row r) : plain (.lst (rs.map fun r => D.lst (r.map D.str))) = true ∧ dep (.lst (rs.map fun r => D.lst (r.map D.str))) ≤ 64 := by
  refine ⟨plains_map fun r hr => plains_map fun t ht => (h r hr).2 t ht |>.2, ?_⟩
  have : deps (rs.map fun r => D.lst (r.map D.str)) ≤ 1 := deps_map fun r hr => by
    show deps (r.map D.str) + 1 ≤ 1
    have : deps (r.map D.str) ≤ 0 := deps_map fun t ht => Nat.zero_le 0
    omega
  show deps _ + 1 ≤ 64
  omega
abbrev Rw (rs : List (List Tx)) : D := .lst (rs.map fun r => D.lst (r.map D.str))
def Any13 (e : En) : Prop := ∃ x0 x2 x3 x4 x5 x6 x7 x8 x9 x10 x11 x12, e = [x0, .bg, x2, x3, x4, x5, x6, x7, x8, x9, x10, x11, x12]
def OkR (rs : List (List Tx)) : Prop := rs.length ≤ 5 ∧ ∀ r ∈ rs, Row r
theorem OkR.flat {rs : List (List Tx)} (h : OkR rs) : rs.flatten.length ≤ 60 := by
  have := flat_le fun r hr => (h.2 r hr).1
  have := h.1
  omega
theorem OkR.odd {rs : List (List Tx)} (h : OkR rs) : okS 2 (.lst ((oddT rs).map D.str)) := by
  refine okS_strs (fun t ht => ?_) (by have := odd_len rs; have := h.flat; omega)
  obtain ⟨r, hr, hx⟩ := odd_mem ht
  exact ((h.2 r hr).2 t hx).2
theorem law_8 {rs : List (List Tx)} (h : OkR rs) {E : DEnds} (hE : ∀ e, Any13 e → E.nx e) (x0 x2 x3 x5 x6 x7 x9 x10 x11 x12 : Slot) : d_law_8 cBag cPull cOf cLetters cMixed cSumL cSum (cSame 2) E [x0, .bg, x2, x3, .fz (Rw rs), x5, x6, x7, .fz (.lst ((oddT rs).map D.str)), x9, x10, x11, x12] := by
  have hf := h.flat
  show sIf _ _ _ _ [.un, .bg, .un, .un, .fz (Rw rs), .un, .un, .un, .fz (.lst ((oddT rs).map D.str)), .un, .un, .un, .un]
  refine ⟨by rw [List.length_map, sizeLine_eq]; have := h.1; omega, _, rs ++ rs, rfl, ?_, by simp only [List.flatten_append, List.length_append]; omega, Nat.zero_le _, ?_⟩
  · rw [← List.map_append]; exact rows_lists _
  rw [odd_twice]
  refine ⟨okS_strs (fun t ht => absurd ht (by simp)) (by simp), okS_strs (ts := []) (fun t ht => absurd ht (by simp)) (by simp), ?_⟩
  refine ⟨rfl, fun i acc => acc = (rs.take i).map fun r => D.tup (r.map D.str), rfl, ?_, ?_⟩
  · intro i d acc ei hA
    subst hA
    obtain ⟨r, er, rfl⟩ := at_map ei
    refine ⟨(by decide : 6 < 13), rfl, rfl, by rw [List.length_map, List.length_take, sizeLine_eq]; have := h.1; omega, ?_⟩
    show _ = (rs.take (i + 1)).map fun r => D.tup (r.map D.str)
    rw [take_at er, List.map_append]
    rfl
  · intro acc hA
    have hA : acc = (rs.take (rs.map fun r => D.lst (r.map D.str)).length).map fun r => D.tup (r.map D.str) := hA
    rw [List.length_map, List.take_length] at hA
    subst hA
    refine ⟨_, rs, rfl, rows_tups rs, by omega, ?_⟩
    refine ⟨h.odd, h.odd, ?_⟩
    have e1 : decide (D.lst ((oddT rs).map D.str) = D.lst ((oddT rs).map D.str)) = true := decide_eq_true rfl
    rw [e1]
    exact hE _ ⟨_, _, _, _, _, _, _, _, _, _, _, _, rfl⟩
theorem law_6 {rs : List (List Tx)} (h : OkR rs) {E : DEnds} {i : Nat} (hE : ∀ x0 x2 x3 x5 x6 x9 x10 x11 x12, E.nx [x0, .bg, x2, x3, .fz (Rw rs), x5, x6, .fz (Rw rs), .fz (.lst ((oddT rs).map D.str)), x9, x10, x11, x12]) (x0 x2 x3 x5 x6 x9 x10 x11 x12 : Slot) :
    d_law_6 cBag cPull cOf cLetters cMixed cSumL cSum (cSame 2) E [x0, .bg, x2, x3, .fz (Rw rs), x5, x6, .fz (Rw rs), .fz (.lst ((oddT rs).map D.str)), x9, x10, x11, x12] := by
  have hf := h.flat
  show sSet 10 _ _ [.un, .bg, .un, .un, .fz (Rw rs), .un, .un, .fz (Rw rs), .fz (.lst ((oddT rs).map D.str)), .un, .un, .un, .un]
  refine ⟨_, rs, rfl, rows_lists rs, by omega, (by decide : 10 < 13), ?_⟩
  show d_law_5 cBag cPull cOf cLetters cMixed cSumL cSum (cSame 2) _ [.un, .bg, .un, .un, .fz (Rw rs), .un, .un, .fz (Rw rs), .fz (.lst ((oddT rs).map D.str)), .un, .ow (.lst ((oddT rs).map D.str)), .un, .un]
  refine ⟨h.odd, h.odd, ?_⟩
  have e1 : decide (D.lst ((oddT rs).map D.str) = D.lst ((oddT rs).map D.str)) = true := decide_eq_true rfl
  rw [e1]
  obtain ⟨p1, p2⟩ := rows_plain h.2
  refine ⟨⟨p1, p1, p2, p2⟩, ?_⟩
  have e2 : (!decide (Rw rs = Rw rs)) = false := by rw [decide_eq_true rfl]; rfl
  rw [e2]
  refine ⟨by rw [List.length_map, sizeLine_eq]; have := odd_len rs; omega, ?_⟩
  exact hE _ _ _ _ _ _ _ _ _
theorem law_9 {rs : List (List Tx)} (h : OkR rs) {E : DEnds} (hE : ∀ e, Any13 e → E.nx e) (x0 x2 x3 x5 x6 x9 x10 x11 x12 : Slot) : d_law_9 cBag cPull cOf cLetters cMixed cSumL cSum (cSame 2) E [x0, .bg, x2, x3, .fz (Rw rs), x5, x6, .ow (Rw rs), .ow (.lst ((oddT rs).map D.str)), x9, x10, x11, x12] := by
  show sFor _ _ _ _ [.un, .bg, .un, .un, .fz (Rw rs), .un, .un, .fz (Rw rs), .fz (.lst ((oddT rs).map D.str)), .un, .un, .un, .un]
  refine ⟨by decide, by decide, fun _ e => ∃ x0 x2 x3 x5 x6 x9 x10 x11 x12, e = [x0, .bg, x2, x3, .fz (Rw rs), x5, x6, .fz (Rw rs), .fz (.lst ((oddT rs).map D.str)), x9, x10, x11, x12], ⟨_, _, _, _, _, _, _, _, _, rfl⟩, ?_, ?_⟩
  · rintro i d e _ _ ⟨x0, x2, x3, x5, x6, x9, x10, x11, x12, rfl⟩
    refine ⟨(by decide : 9 < 13), ?_⟩
    refine law_6 (i := i) h ?_ _ _ _ _ _ _ _ _ _
    intro x0 x2 x3 x5 x6 x9 x10 x11 x12
    exact ⟨x0, x2, x3, x5, x6, x9, x10, x11, x12, rfl⟩
  · rintro e _ ⟨x0, x2, x3, x5, x6, x9, x10, x11, x12, rfl⟩
    exact law_8 h hE _ _ _ _ _ _ _ _ _ _
theorem law_11 {rs : List (List Tx)} (h : OkR rs) {E : DEnds} (hE : ∀ e, Any13 e → E.nx e) (x0 x2 x3 x5 x6 x7 x8 x9 x10 x11 x12 : Slot) : d_law_11 cBag cPull cOf cLetters cMixed cSumL cSum (cSame 2) E [x0, .bg, x2, x3, .ow (Rw rs), x5, x6, x7, x8, x9, x10, x11, x12] := by
  have hf := h.flat
  have h5 := h.1
  show sSet 7 _ _ [.un, .bg, .un, .un, .ow (Rw rs), .un, .un, .un, .un, .un, .un, .un, .un]
  refine ⟨rfl, fun i acc => acc = (rs.take i).map fun r => D.lst (r.map D.str), rfl, ?_, ?_⟩
  · intro i d acc ei hA
    subst hA
    obtain ⟨r, er, rfl⟩ := at_map ei
    refine ⟨(by decide : 6 < 13), rfl, rfl, by rw [List.length_map, List.length_take, sizeLine_eq]; omega, ?_⟩
    show _ = (rs.take (i + 1)).map fun r => D.lst (r.map D.str)
    rw [take_at er, List.map_append]
    rfl
  · intro acc hA
    have hA : acc = (rs.take (rs.map fun r => D.lst (r.map D.str)).length).map fun r => D.lst (r.map D.str) := hA
    rw [List.length_map, List.take_length] at hA
    subst hA
    refine ⟨(by decide : 7 < 13), ?_⟩
    show d_law_10 cBag cPull cOf cLetters cMixed cSumL cSum (cSame 2) _ [.un, .bg, .un, .un, .fz (Rw rs), .un, .un, .ow (Rw rs), .un, .un, .un, .un, .un]
    refine ⟨rfl, fun i acc => acc = (rs.take i).map fun r => D.lst ((setT r).map D.str), rfl, ?_, ?_⟩
    · intro i d acc ei hA
      subst hA
      obtain ⟨r, er, rfl⟩ := at_map ei
      have hr := (h.2 r (List.mem_of_getElem? er)).1
      refine ⟨(by decide : 6 < 13), rfl, by rw [List.length_map]; have := scan4; omega, ?_⟩
      show ob (setD (r.map D.str)) _
      rw [setD_strs]
      refine ⟨rfl, by rw [List.length_map, List.length_take, sizeLine_eq]; omega, ?_⟩
      show _ = (rs.take (i + 1)).map fun r => D.lst ((setT r).map D.str)
      rw [take_at er, List.map_append]
      rfl
    · intro acc hA
      have hA : acc = (rs.take (rs.map fun r => D.lst (r.map D.str)).length).map fun r => D.lst ((setT r).map D.str) := hA
      rw [List.length_map, List.take_length] at hA
      subst hA
      refine ⟨_, rs.map setT, rfl, by rw [List.map_map]; rfl, fun r hr => ?_, ?_, (by decide : 8 < 13), ?_⟩
      · obtain ⟨r', _, rfl⟩ := List.mem_map.mp hr
        exact setT_nodup _
      · have : (rs.map setT).flatten.length ≤ 12 * (rs.map setT).length := flat_le fun r hr => by
          obtain ⟨r', hr', rfl⟩ := List.mem_map.mp hr
          have := setT_len r'
          have := (h.2 r' hr').1
          omega
        rw [List.length_map] at this
        omega
      · rw [odd_set]
        exact law_9 h hE _ _ _ _ _ _ _ _ _
theorem law_12 {ts : List Tx} (hts : ts.length ≤ 6) (hok : ∀ t ∈ ts, Pr t) {E : DEnds} (hE : ∀ e, Any13 e → E.nx e) (x0 x2 x5 x6 x7 x8 x9 x10 x11 x12 : Slot) : d_law_12 cBag cPull cOf cLetters cMixed cSumL cSum (cSame 2) E [x0, .bg, x2, .ow (.lst (ts.map D.str)), .ow (.lst []), x5, x6, x7, x8, x9, x10, x11, x12] := by
  show sFor _ _ _ _ [.un, .bg, .un, .fz (.lst (ts.map D.str)), .ow (.lst []), .un, .un, .un, .un, .un, .un, .un, .un]
  refine ⟨by decide, by decide, fun q q0 q1 => ?_⟩
  refine ⟨(by omega : -(2 ^ 62) ≤ q), (by omega : q < 2 ^ 62), fun i e => ∃ (rs : List (List Tx)) (x0 x2 x5 x6 x7 x8 x9 x10 x11 x12 : Slot), e = [x0, .bg, x2, .fz (.lst (ts.map D.str)), .ow (.lst (rs.map fun r => D.lst (r.map D.str))), x5, x6, x7, x8, x9, x10, x11, x12] ∧ rs.length = i ∧ ∀ r ∈ rs, Row r,
    ⟨[], _, _, _, _, _, _, _, _, _, _, rfl, rfl, fun _ h => absurd h (by simp)⟩, ?_, ?_⟩
  · intro i d e ei _ hI
    obtain ⟨rs, x0, x2, x5, x6, x7, x8, x9, x10, x11, x12, rfl, hrs, hrow⟩ := hI
    have hi : i < 5 := by
      have := (List.getElem?_eq_some_iff.mp ei).1
      have : i < q.toNat := by simpa [rngD] using this
      omega
    refine ⟨(by decide : 5 < 13), ?_⟩
    show sSet 6 _ _ [.un, .bg, .un, .fz (.lst (ts.map D.str)), .ow (.lst (rs.map fun r => D.lst (r.map D.str))), .un, .un, .un, .un, .un, .un, .un, .un]
    refine ⟨rfl, fun i acc => ∃ ks : List Tx, acc = ks.map D.str ∧ ks.length ≤ i ∧ ∀ t ∈ ks, Pr t, ⟨[], rfl, Nat.le_refl 0, fun _ h => absurd h (by simp)⟩, ?_, ?_⟩
    · intro i d acc ei hA
      obtain ⟨ks, rfl, hks, hok2⟩ := hA
      obtain ⟨t, et, rfl⟩ := at_map ei
      have hi := (List.getElem?_eq_some_iff.mp et).1
      refine ⟨(by decide : 12 < 13), rfl, ?_⟩
      refine ⟨by decide, by decide, fun z z0 z1 => ⟨trivial, ?_⟩⟩
      show match decide (D.int z = D.int 0) with | true => _ | false => _
      cases decide (D.int z = D.int 0) with
      | true =>
        refine ⟨rfl, by rw [List.length_map, sizeLine_eq]; omega, ks ++ [t], by simp, by simp; omega, fun t' ht' => ?_⟩
        rcases List.mem_append.mp ht' with h | h
        · exact hok2 t' h
        · rw [List.mem_singleton.mp h]; exact hok t (List.mem_of_getElem? et)
      | false => exact ⟨rfl, ks, rfl, by omega, hok2⟩
    · intro acc hA
      obtain ⟨ks, rfl, hks, hok2⟩ := hA
      have hks : ks.length ≤ ts.length := by simpa using hks
      refine ⟨by rw [List.length_map]; have := scan4; omega, ?_⟩
      show ob (setD (ks.map D.str)) _
      rw [setD_strs]
      have hsl := setT_len ks
      refine ⟨by rw [List.length_map]; omega, fun m hm => ⟨(by decide : 6 < 13), ?_⟩⟩
      show d_law_1 cBag cPull cOf cLetters cMixed cSumL cSum (cSame 2) _ [.un, .bg, .un, .fz (.lst (ts.map D.str)), .ow (.lst (rs.map fun r => D.lst (r.map D.str))), .un, .ow (.lst m), .un, .un, .un, .un, .un, .un]
      obtain ⟨ms, rfl, hms⟩ := perm_map hm
      have hml : ms.length ≤ 6 := by rw [hms.length_eq]; omega
      refine ⟨by decide, by decide, fun z z0 z1 => ?_⟩
      obtain ⟨zn, rfl⟩ := Int.eq_ofNat_of_zero_le z0
      have ecut : cutD (ms.map D.str) none (some (zn : Int)) = (ms.take zn).map D.str := by rw [cut_take, List.map_take]
      show (ms.map D.str).length + (cutD (ms.map D.str) none (some (zn : Int))).length ≤ sizeLine ∧ _
      rw [ecut]
      refine ⟨by rw [List.length_map, List.length_map, List.length_take, sizeLine_eq]; omega, ?_⟩
      refine ⟨by rw [List.length_map, sizeLine_eq]; omega, rs ++ [ms ++ ms.take zn], .un, .un, .un, .ow (.lst (ms.map D.str)), .un, .un, .un, .un, .un, .un, ?_, by simp [hrs], fun r hr => ?_⟩
      · have e2 : (rs ++ [ms ++ ms.take zn]).map (fun r => D.lst (r.map D.str)) = rs.map (fun r => D.lst (r.map D.str)) ++ [D.lst (ms.map D.str ++ (ms.take zn).map D.str)] := by simp
        rw [e2]
        rfl
      · rcases List.mem_append.mp hr with h | h
        · exact hrow r h
        · rw [List.mem_singleton.mp h]
          refine ⟨by simp; omega, fun t ht => ?_⟩
          have : t ∈ ms := by
            rcases List.mem_append.mp ht with h | h
            · exact h
            · exact List.mem_of_mem_take h
          exact hok2 t (mem_setT.mp (hms.mem_iff.mp this))
  · intro e _ hI
    obtain ⟨rs, x0, x2, x5, x6, x7, x8, x9, x10, x11, x12, rfl, hrs, hrow⟩ := hI
    have hrs : rs.length ≤ 5 := by
      have : rs.length = q.toNat := by simpa [rngD] using hrs
      omega
    exact law_11 ⟨hrs, hrow⟩ hE _ _ _ _ _ _ _ _ _ _ _
theorem law_14 {E : DEnds} (hE : ∀ e, Any13 e → E.nx e) (x0 x2 x3 x4 x5 x6 x7 x8 x9 x10 x11 x12 : Slot) : d_law_14 cBag cPull cOf cLetters cMixed cSumL cSum (cSame 2) E [x0, .bg, x2, x3, x4, x5, x6, x7, x8, x9, x10, x11, x12] := by
  show sSet 3 _ _ [.un, .bg, .un, .un, .un, .un, .un, .un, .un, .un, .un, .un, .un]
  refine ⟨by decide, by decide, fun r r0 r1 => ?_⟩
  have nb : -(2 ^ 62) ≤ 1 + r := by omega
  have nb2 : 1 + r < 2 ^ 62 := by omega
  refine ⟨nb, nb2, rfl, fun i acc => ∃ ts : List Tx, acc = ts.map D.str ∧ ts.length = i ∧ ∀ t ∈ ts, Pr t, ⟨[], rfl, rfl, fun _ h => absurd h (by simp)⟩, ?_, ?_⟩
  · intro i d acc ei hA
    obtain ⟨ts, rfl, hts, hok⟩ := hA
    have hi : i < (1 + r).toNat := by
      have := (List.getElem?_eq_some_iff.mp ei).1
      simpa [rngD] using this
    refine ⟨(by decide : 11 < 13), rfl, rfl, ?_⟩
    show xIce 5 _ [.un, .bg, .un, .un, .un, .un, .un, .un, .un, .un, .un, .fz d, .un] _
    refine ⟨by decide, by decide, rfl, fun i acc => ∃ cs : List Nat, acc = (cs.map fun c => D.str [c]) ∧ cs.length = i ∧ ∀ c ∈ cs, c < 1114112, ⟨[], rfl, rfl, fun _ h => absurd h (by simp)⟩, ?_, ?_⟩
    · intro i d acc ei hA
      obtain ⟨cs, rfl, hcs, hokc⟩ := hA
      have hi : i < 2 := by
        have := (List.getElem?_eq_some_iff.mp ei).1
        simpa [rngD] using this
      refine ⟨(by decide : 5 < 13), rfl, ?_⟩
      refine ⟨(by rw [sizeLine_eq]; decide : abcD.length ≤ sizeLine), ?_⟩
      refine ⟨by decide, by decide, fun d hd => ?_⟩
      obtain ⟨c, hc, rfl⟩ := List.mem_map.mp hd
      refine ⟨rfl, by rw [List.length_map, sizeLine_eq]; omega, cs ++ [c], by simp, by simp [hcs], fun c' hc' => ?_⟩
      rcases List.mem_append.mp hc' with h | h
      · exact hokc c' h
      · rw [List.mem_singleton.mp h]; exact abc_ok c hc
    · intro acc hA
      obtain ⟨cs, rfl, hcs, hokc⟩ := hA
      have hcs : cs.length = 2 := by simpa [rngD] using hcs
      show ob (strsOf (cs.map fun c => D.str [c])) _
      rw [strs_one]
      refine ⟨by rw [sum_one, List.length_map]; show cs.length + cs.length * 0 ≤ 16777216; omega, rfl, by rw [List.length_map, sizeLine_eq]; omega, ts ++ [cs], ?_, by simp [hts], fun t ht => ?_⟩
      · show _ ++ [D.str (joinN [] (cs.map fun c => [c]))] = _
        rw [joinN_nil, flat_one]; simp
      · rcases List.mem_append.mp ht with h | h
        · exact hok t h
        · rw [List.mem_singleton.mp h]
          exact ⟨hcs, List.all_eq_true.mpr fun c hc => decide_eq_true (hokc c hc)⟩
  · intro acc hA
    obtain ⟨ts, rfl, hts, hok⟩ := hA
    have hts : ts.length ≤ 6 := by
      have : ts.length = (1 + r).toNat := by simpa [rngD] using hts
      omega
    refine ⟨(by decide : 3 < 13), Nat.zero_le _, (by decide : 4 < 13), ?_⟩
    exact law_12 hts hok hE _ _ _ _ _ _ _ _ _ _
theorem wp_law : ∀ args post, args.length = 1 → cLaw args post → d_law cBag cPull cOf cLetters cMixed cSumL cSum (cSame 2) { nx := fun _ => post (.fz .non), rt := post } (env0 m_law args 13) := by
  intro args post hl hc
  match args, hl with
  | [d], _ =>
    obtain ⟨ns, rfl, hn, hp⟩ := hc
    refine ⟨ns, rfl, hn, fun k k0 k1 => ⟨(by decide : 1 < 13), ⟨ns, 0, 0, k, rfl, hn, Int.le_refl 0, Int.le_refl 0, k0, k1⟩, fun _ _ h => h, fun _ h => h, fun _ h => h, ?_⟩⟩
    show d_law_16 cBag cPull cOf cLetters cMixed cSumL cSum (cSame 2) _ [.un, .bg, .un, .un, .un, .un, .un, .un, .un, .un, .un, .un, .un]
    refine ⟨by decide, by decide, fun _ e => Any13 e, ⟨_, _, _, _, _, _, _, _, _, _, _, _, rfl⟩, ?_, ?_⟩
    · rintro i d e _ _ ⟨x0, x2, x3, x4, x5, x6, x7, x8, x9, x10, x11, x12, rfl⟩
      refine ⟨(by decide : 2 < 13), ?_⟩
      exact law_14 (fun e h => h) _ _ _ _ _ _ _ _ _ _ _ _
    · rintro e _ ⟨x0, x2, x3, x4, x5, x6, x7, x8, x9, x10, x11, x12, rfl⟩
      refine ⟨Nat.zero_le _, [], [], rfl, rfl, Nat.zero_le _, ?_⟩
      rw [odd_nil]
      exact ⟨Nat.zero_le _, ⟨rfl, rfl, (by decide : dep (.lst []) ≤ 64), (by decide : dep (.lst []) ≤ 64)⟩, hp⟩
end DL
set_option maxRecDepth 100000
set_option maxHeartbeats 4000000
namespace DL
open PySem PySem.Spec PyProof.Rows L2
section
variable {P : Program} {w : World} {K : PySem.W.Frag} {mg : Str → Option Value} {base : Heap} {C : Addr}
/-- a contract that is never met -/
theorem never {x qual : Str} {st : Stmt} {f : Addr} {fd : FuncData} {N ps : List Str} {k : Nat} {ms : List Mode} {c : Con} (F : Fun K x qual st f fd) (S : FnScope N ps (defScope st)) (hc : ∀ args post, c args post → False) : FnOk P w K mg base CX0 (k + 1) f fd ps (spD ⟨K, C, P, w⟩ ms c) :=
  F.ok S (fun vs H Q E ⟨_, _, _, _, _, _, _, h, _⟩ => (hc _ _ h).elim) (fun cdv A outer s H vs Q E hr ⟨_, _, _, _, _, _, _, h, _⟩ => (hc _ _ h).elim)
theorem same0 {args : List D} {post : Slot → Prop} (h : cSame 0 args post) : False := by
  unfold cSame at h
  split at h
  · exact h.1
  · exact h
theorem law_start {H : Hp} {a : Addr} {ns : List Int} (hS : SqL K H a (ns.map V.int)) (hl : ns.length ≤ 63) : spD ⟨K, 0, P, w⟩ m_law cLaw [.ref a] H (fun v _ => v = .bl true) fun _ _ _ => False := by
  refine ⟨fun _ => none, none, [.lst (ns.map D.int)], fun t => t = .fz (.bl true), (fun _ _ h => nomatch h), (fun _ h => nomatch h), ⟨.lst (ns.map D.int), [], .ref a, [], rfl, rfl, ⟨a, ns.map V.int, rfl, ?_, Reps.ints.mpr rfl⟩, rfl, rfl⟩, ⟨ns, rfl, hl, rfl⟩, fun t v F' H' r p => ?_⟩
  · rw [nob_none]; exact hS
  · subst p; exact r.val
end
theorem all_mk {l : PySem.W.OpenLaw} {w : World} {K : PySem.W.Frag} {h : Heap} {mg : Str → Option Value} {fa f_sum_of f__law_bag f__law_pull f__law_of f__law_mixed f__law_same f__law_letters f__law_sum f_law : Addr} (X : K.In h) (G : h.Ns mainGlobals mg) (hfa : mg "law" = some (.ref fa))
    {od_sum_of an_sum_of : Option Addr} {sl_sum_of : Array (Option Value)} {oc_sum_of kV_sum_of dc_sum_of pm_sum_of cd_sum_of ct_sum_of : Value}
    (a_sum_of : PySem.W.nsIn K mainGlobals "sum_of" = some (some (.ref f_sum_of))) (l_sum_of : K.lookup f_sum_of = some ⟨oc_sum_of, od_sum_of, .func (PySem.W.fnOf "sum_of" "sum_of" (defArgs (topS 1)) (defBody (topS 1)) (defScope (topS 1)) .none kV_sum_of dc_sum_of pm_sum_of an_sum_of cd_sum_of ct_sum_of), sl_sum_of⟩) (c_sum_of : PySem.W.codeIn K cd_sum_of "sum_of" = true) (k_sum_of : PySem.W.keepIn K (.ref f_sum_of) = true)
    {od__law_bag an__law_bag : Option Addr} {sl__law_bag : Array (Option Value)} {oc__law_bag kV__law_bag dc__law_bag pm__law_bag cd__law_bag ct__law_bag : Value}
    (a__law_bag : PySem.W.nsIn K mainGlobals "_law_bag" = some (some (.ref f__law_bag))) (l__law_bag : K.lookup f__law_bag = some ⟨oc__law_bag, od__law_bag, .func (PySem.W.fnOf "_law_bag" "_law_bag" (defArgs (topS 3)) (defBody (topS 3)) (defScope (topS 3)) .none kV__law_bag dc__law_bag pm__law_bag an__law_bag cd__law_bag ct__law_bag), sl__law_bag⟩) (c__law_bag : PySem.W.codeIn K cd__law_bag "_law_bag" = true) (k__law_bag : PySem.W.keepIn K (.ref f__law_bag) = true)
    {od__law_pull an__law_pull : Option Addr} {sl__law_pull : Array (Option Value)} {oc__law_pull kV__law_pull dc__law_pull pm__law_pull cd__law_pull ct__law_pull : Value}
    (a__law_pull : PySem.W.nsIn K mainGlobals "_law_pull" = some (some (.ref f__law_pull))) (l__law_pull : K.lookup f__law_pull = some ⟨oc__law_pull, od__law_pull, .func (PySem.W.fnOf "_law_pull" "_law_pull" (defArgs (topS 4)) (defBody (topS 4)) (defScope (topS 4)) .none kV__law_pull dc__law_pull pm__law_pull an__law_pull cd__law_pull ct__law_pull), sl__law_pull⟩) (c__law_pull : PySem.W.codeIn K cd__law_pull "_law_pull" = true) (k__law_pull : PySem.W.keepIn K (.ref f__law_pull) = true)
    {od__law_of an__law_of : Option Addr} {sl__law_of : Array (Option Value)} {oc__law_of kV__law_of dc__law_of pm__law_of cd__law_of ct__law_of : Value}
    (a__law_of : PySem.W.nsIn K mainGlobals "_law_of" = some (some (.ref f__law_of))) (l__law_of : K.lookup f__law_of = some ⟨oc__law_of, od__law_of, .func (PySem.W.fnOf "_law_of" "_law_of" (defArgs (topS 5)) (defBody (topS 5)) (defScope (topS 5)) .none kV__law_of dc__law_of pm__law_of an__law_of cd__law_of ct__law_of), sl__law_of⟩) (c__law_of : PySem.W.codeIn K cd__law_of "_law_of" = true) (k__law_of : PySem.W.keepIn K (.ref f__law_of) = true)
    {od__law_mixed an__law_mixed : Option Addr} {sl__law_mixed : Array (Option Value)} {oc__law_mixed kV__law_mixed dc__law_mixed pm__law_mixed cd__law_mixed ct__law_mixed : Value}
    (a__law_mixed : PySem.W.nsIn K mainGlobals "_law_mixed" = some (some (.ref f__law_mixed))) (l__law_mixed : K.lookup f__law_mixed = some ⟨oc__law_mixed, od__law_mixed, .func (PySem.W.fnOf "_law_mixed" "_law_mixed" (defArgs (topS 6)) (defBody (topS 6)) (defScope (topS 6)) .none kV__law_mixed dc__law_mixed pm__law_mixed an__law_mixed cd__law_mixed ct__law_mixed), sl__law_mixed⟩) (c__law_mixed : PySem.W.codeIn K cd__law_mixed "_law_mixed" = true) (k__law_mixed : PySem.W.keepIn K (.ref f__law_mixed) = true)
    {od__law_same an__law_same : Option Addr} {sl__law_same : Array (Option Value)} {oc__law_same kV__law_same dc__law_same pm__law_same cd__law_same ct__law_same : Value}
    (a__law_same : PySem.W.nsIn K mainGlobals "_law_same" = some (some (.ref f__law_same))) (l__law_same : K.lookup f__law_same = some ⟨oc__law_same, od__law_same, .func (PySem.W.fnOf "_law_same" "_law_same" (defArgs (topS 7)) (defBody (topS 7)) (defScope (topS 7)) .none kV__law_same dc__law_same pm__law_same an__law_same cd__law_same ct__law_same), sl__law_same⟩) (c__law_same : PySem.W.codeIn K cd__law_same "_law_same" = true) (k__law_same : PySem.W.keepIn K (.ref f__law_same) = true)
    {od__law_letters an__law_letters : Option Addr} {sl__law_letters : Array (Option Value)} {oc__law_letters kV__law_letters dc__law_letters pm__law_letters cd__law_letters ct__law_letters : Value}
    (a__law_letters : PySem.W.nsIn K mainGlobals "_law_letters" = some (some (.ref f__law_letters))) (l__law_letters : K.lookup f__law_letters = some ⟨oc__law_letters, od__law_letters, .func (PySem.W.fnOf "_law_letters" "_law_letters" (defArgs (topS 8)) (defBody (topS 8)) (defScope (topS 8)) .none kV__law_letters dc__law_letters pm__law_letters an__law_letters cd__law_letters ct__law_letters), sl__law_letters⟩) (c__law_letters : PySem.W.codeIn K cd__law_letters "_law_letters" = true) (k__law_letters : PySem.W.keepIn K (.ref f__law_letters) = true)
    {od__law_sum an__law_sum : Option Addr} {sl__law_sum : Array (Option Value)} {oc__law_sum kV__law_sum dc__law_sum pm__law_sum cd__law_sum ct__law_sum : Value}
    (a__law_sum : PySem.W.nsIn K mainGlobals "_law_sum" = some (some (.ref f__law_sum))) (l__law_sum : K.lookup f__law_sum = some ⟨oc__law_sum, od__law_sum, .func (PySem.W.fnOf "_law_sum" "_law_sum" (defArgs (topS 9)) (defBody (topS 9)) (defScope (topS 9)) .none kV__law_sum dc__law_sum pm__law_sum an__law_sum cd__law_sum ct__law_sum), sl__law_sum⟩) (c__law_sum : PySem.W.codeIn K cd__law_sum "_law_sum" = true) (k__law_sum : PySem.W.keepIn K (.ref f__law_sum) = true)
    {od_law an_law : Option Addr} {sl_law : Array (Option Value)} {oc_law kV_law dc_law pm_law cd_law ct_law : Value}
    (a_law : PySem.W.nsIn K mainGlobals "law" = some (some (.ref f_law))) (l_law : K.lookup f_law = some ⟨oc_law, od_law, .func (PySem.W.fnOf "law" "law" (defArgs (topS 10)) (defBody (topS 10)) (defScope (topS 10)) .none kV_law dc_law pm_law an_law cd_law ct_law), sl_law⟩) (c_law : PySem.W.codeIn K cd_law "law" = true) (k_law : PySem.W.keepIn K (.ref f_law) = true)
    (z_len : PySem.W.nsIn K mainGlobals "len" = some none) (z_range : PySem.W.nsIn K mainGlobals "range" = some none) (z_sorted : PySem.W.nsIn K mainGlobals "sorted" = some none) (z_set : PySem.W.nsIn K mainGlobals "set" = some none) (z_list : PySem.W.nsIn K mainGlobals "list" = some none) (z_tuple : PySem.W.nsIn K mainGlobals "tuple" = some none) (z_sum : PySem.W.nsIn K mainGlobals "sum" = some none) (z_any : PySem.W.nsIn K mainGlobals "any" = some none) (z_all : PySem.W.nsIn K mainGlobals "all" = some none) (z_min : PySem.W.nsIn K mainGlobals "min" = some none) (z_max : PySem.W.nsIn K mainGlobals "max" = some none) (z_int : PySem.W.nsIn K mainGlobals "int" = some none) (z_str : PySem.W.nsIn K mainGlobals "str" = some none) (z_bool : PySem.W.nsIn K mainGlobals "bool" = some none) (z_dict : PySem.W.nsIn K mainGlobals "dict" = some none) (z_zip : PySem.W.nsIn K mainGlobals "zip" = some none) (z_enumerate : PySem.W.nsIn K mainGlobals "enumerate" = some none) (z_isinstance : PySem.W.nsIn K mainGlobals "isinstance" = some none) :
    ∃ fd : FuncData, (∀ (s : Shared) (v : Value), BindsTo s fd ⟨[v], []⟩ [("_law_script", v)]) ∧ ∀ base : Heap, K.In base → base.Ns mainGlobals mg → FnOk l.prog w K mg base CX0 4 fa fd ["_law_script"] (spD ⟨K, 0, l.prog, w⟩ m_law cLaw) := by
  have e := hfa.symm.trans (PySem.W.mg_of X G a_law)
  cases e
  have b : Bi mg := ⟨PySem.W.mg_none_of X G z_len, PySem.W.mg_none_of X G z_range, PySem.W.mg_none_of X G z_sorted, PySem.W.mg_none_of X G z_set, PySem.W.mg_none_of X G z_list, PySem.W.mg_none_of X G z_tuple, PySem.W.mg_none_of X G z_sum, PySem.W.mg_none_of X G z_any, PySem.W.mg_none_of X G z_all, PySem.W.mg_none_of X G z_min, PySem.W.mg_none_of X G z_max, PySem.W.mg_none_of X G z_int, PySem.W.mg_none_of X G z_str, PySem.W.mg_none_of X G z_bool, PySem.W.mg_none_of X G z_dict, PySem.W.mg_none_of X G z_zip, PySem.W.mg_none_of X G z_enumerate, PySem.W.mg_none_of X G z_isinstance⟩
  have F_sum_of := fun_mk (st := topS 1) l_sum_of c_sum_of k_sum_of
  have b_sum_of := F_sum_of.binds (ps := ["lists"]) fun _ _ _ _ _ _ us hl => match us, hl with | [_], _ => rfl
  have F__law_bag := fun_mk (st := topS 3) l__law_bag c__law_bag k__law_bag
  have b__law_bag := F__law_bag.binds (ps := ["_law_script"]) fun _ _ _ _ _ _ us hl => match us, hl with | [_], _ => rfl
  have F__law_pull := fun_mk (st := topS 4) l__law_pull c__law_pull k__law_pull
  have b__law_pull := F__law_pull.binds (ps := ["_law_bag_here", "_law_many"]) fun _ _ _ _ _ _ us hl => match us, hl with | [_, _], _ => rfl
  have F__law_of := fun_mk (st := topS 5) l__law_of c__law_of k__law_of
  have b__law_of := F__law_of.binds (ps := ["_law_bag_here", "_law_things"]) fun _ _ _ _ _ _ us hl => match us, hl with | [_, _], _ => rfl
  have F__law_mixed := fun_mk (st := topS 6) l__law_mixed c__law_mixed k__law_mixed
  have b__law_mixed := F__law_mixed.binds (ps := ["_law_bag_here", "_law_things"]) fun _ _ _ _ _ _ us hl => match us, hl with | [_, _], _ => rfl
  have F__law_same := fun_mk (st := topS 7) l__law_same c__law_same k__law_same
  have b__law_same := F__law_same.binds (ps := ["_law_found", "_law_due"]) fun _ _ _ _ _ _ us hl => match us, hl with | [_, _], _ => rfl
  have F__law_letters := fun_mk (st := topS 8) l__law_letters c__law_letters k__law_letters
  have b__law_letters := F__law_letters.binds (ps := []) fun _ _ _ _ _ _ us hl => match us, hl with | [], _ => rfl
  have F__law_sum := fun_mk (st := topS 9) l__law_sum c__law_sum k__law_sum
  have b__law_sum := F__law_sum.binds (ps := ["_law_rows"]) fun _ _ _ _ _ _ us hl => match us, hl with | [_], _ => rfl
  have F_law := fun_mk (st := topS 10) l_law c_law k_law
  have b_law := F_law.binds (ps := ["_law_script"]) fun _ _ _ _ _ _ us hl => match us, hl with | [_], _ => rfl
  refine ⟨PySem.W.fnOf "law" "law" (defArgs (topS 10)) (defBody (topS 10)) (defScope (topS 10)) .none kV_law dc_law pm_law an_law cd_law ct_law, fun s v => .of_eq rfl, fun base _ _ => ?_⟩
  have g_sum_of : Cal l.prog w K mg base 0 "sum_of" 1 ["lists"] m_sum_of cSum := ⟨_, _, ok_sum_of F_sum_of b wp_sum_of, k_sum_of, b_sum_of, PySem.W.mg_of X G a_sum_of⟩
  have g__law_bag : Cal l.prog w K mg base 0 "_law_bag" 1 ["_law_script"] m__law_bag cBag := ⟨_, _, ok__law_bag F__law_bag b wp_bag, k__law_bag, b__law_bag, PySem.W.mg_of X G a__law_bag⟩
  have g__law_pull : Cal l.prog w K mg base 0 "_law_pull" 1 ["_law_bag_here", "_law_many"] m__law_pull cPull := ⟨_, _, ok__law_pull F__law_pull b, k__law_pull, b__law_pull, PySem.W.mg_of X G a__law_pull⟩
  have g__law_of : Cal l.prog w K mg base 0 "_law_of" 2 ["_law_bag_here", "_law_things"] m__law_of cOf := ⟨_, _, ok__law_of F__law_of b g__law_pull (Nat.le_refl 1) wp_of, k__law_of, b__law_of, PySem.W.mg_of X G a__law_of⟩
  have g__law_mixed : Cal l.prog w K mg base 0 "_law_mixed" 2 ["_law_bag_here", "_law_things"] m__law_mixed cMixed := ⟨_, _, ok__law_mixed F__law_mixed b g__law_pull (Nat.le_refl 1) wp_mixed, k__law_mixed, b__law_mixed, PySem.W.mg_of X G a__law_mixed⟩
  have g__law_letters : Cal l.prog w K mg base 0 "_law_letters" 1 [] m__law_letters cLetters := ⟨_, _, ok__law_letters F__law_letters b wp_letters, k__law_letters, b__law_letters, PySem.W.mg_of X G a__law_letters⟩
  have g__law_sum : Cal l.prog w K mg base 0 "_law_sum" 1 ["_law_rows"] m__law_sum cSumL := ⟨_, _, ok__law_sum F__law_sum b wp_sumL, k__law_sum, b__law_sum, PySem.W.mg_of X G a__law_sum⟩
  have g0 : Cal l.prog w K mg base 0 "_law_same" 1 ["_law_found", "_law_due"] m__law_same (cSame 0) := ⟨_, _, never F__law_same sc__law_same (fun _ _ h => same0 h), k__law_same, b__law_same, PySem.W.mg_of X G a__law_same⟩
  have g1 : Cal l.prog w K mg base 0 "_law_same" 2 ["_law_found", "_law_due"] m__law_same (cSame 1) := ⟨_, _, ok__law_same F__law_same b g0 (Nat.le_refl 1) (wp_same 0), k__law_same, b__law_same, PySem.W.mg_of X G a__law_same⟩
  have g2 : Cal l.prog w K mg base 0 "_law_same" 3 ["_law_found", "_law_due"] m__law_same (cSame 2) := ⟨_, _, ok__law_same F__law_same b g1 (Nat.le_refl 2) (wp_same 1), k__law_same, b__law_same, PySem.W.mg_of X G a__law_same⟩
  exact ok_law F_law b g__law_bag (by decide) g__law_pull (by decide) g__law_of (by decide) g__law_letters (by decide) g__law_mixed (by decide) g__law_sum (by decide) g_sum_of (by decide) g2 (by decide) wp_law
end DL
open PySem PySem.W PyProof.Rows
set_option maxHeartbeats 0 in
theorem PySem.Challenge.cw_threadmark_k44_sums_of_lists_holds : PySem.Challenge.rw_threadmark_k44_sums_of_lists.Holds := by
  w_on; o_law; k_head; (case hw => w_witness2)
  k_fill
  refine L2.walk_of (l := PySem.Challenge.rw_threadmark_k44_sums_of_lists) (n := 63) (k := 4) (x := "_law_script") (CX := fun _ => L2.CX0) (sp := fun w => DL.spD ⟨_, 0, PySem.Challenge.pw_threadmark_k44_sums_of_lists, w⟩ DL.m_law DL.cLaw) rfl (by decide) rfl ⟨rfl, by decide, by decide⟩ (fun w h Y => PySem.W.kIn_of Y) ?F (fun _ _ a ns hl _ hS => DL.law_start hS hl) (fun _ _ _ _ _ h => h)
  case F =>
    intro w mg fa h KX G hmg
    refine' DL.all_mk KX G hmg ?a_sum_of ?l_sum_of ?c_sum_of ?k_sum_of ?a__law_bag ?l__law_bag ?c__law_bag ?k__law_bag ?a__law_pull ?l__law_pull ?c__law_pull ?k__law_pull ?a__law_of ?l__law_of ?c__law_of ?k__law_of ?a__law_mixed ?l__law_mixed ?c__law_mixed ?k__law_mixed ?a__law_same ?l__law_same ?c__law_same ?k__law_same ?a__law_letters ?l__law_letters ?c__law_letters ?k__law_letters ?a__law_sum ?l__law_sum ?c__law_sum ?k__law_sum ?a_law ?l_law ?c_law ?k_law ?z_len ?z_range ?z_sorted ?z_set ?z_list ?z_tuple ?z_sum ?z_any ?z_all ?z_min ?z_max ?z_int ?z_str ?z_bool ?z_dict ?z_zip ?z_enumerate ?z_isinstance
    (case a_sum_of => k_is)
    (case l_sum_of => k_is)
    (case c_sum_of => k_is)
    (case k_sum_of => k_is)
    (case a__law_bag => k_is)
    (case l__law_bag => k_is)
    (case c__law_bag => k_is)
    (case k__law_bag => k_is)
    (case a__law_pull => k_is)
    (case l__law_pull => k_is)
    (case c__law_pull => k_is)
    (case k__law_pull => k_is)
    (case a__law_of => k_is)
    (case l__law_of => k_is)
    (case c__law_of => k_is)
    (case k__law_of => k_is)
    (case a__law_mixed => k_is)
    (case l__law_mixed => k_is)
    (case c__law_mixed => k_is)
    (case k__law_mixed => k_is)
    (case a__law_same => k_is)
    (case l__law_same => k_is)
    (case c__law_same => k_is)
    (case k__law_same => k_is)
    (case a__law_letters => k_is)
    (case l__law_letters => k_is)
    (case c__law_letters => k_is)
    (case k__law_letters => k_is)
    (case a__law_sum => k_is)
    (case l__law_sum => k_is)
    (case c__law_sum => k_is)
    (case k__law_sum => k_is)
    (case a_law => k_is)
    (case l_law => k_is)
    (case c_law => k_is)
    (case k_law => k_is)
    (case z_len => k_is)
    (case z_range => k_is)
    (case z_sorted => k_is)
    (case z_set => k_is)
    (case z_list => k_is)
    (case z_tuple => k_is)
    (case z_sum => k_is)
    (case z_any => k_is)
    (case z_all => k_is)
    (case z_min => k_is)
    (case z_max => k_is)
    (case z_int => k_is)
    (case z_str => k_is)
    (case z_bool => k_is)
    (case z_dict => k_is)
    (case z_zip => k_is)
    (case z_enumerate => k_is)
    (case z_isinstance => k_is)
