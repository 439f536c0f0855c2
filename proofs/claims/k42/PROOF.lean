import PyProof.Rows.All
import Wide.All
import OpenK.AllK
import Wide.FinOn
import HandS.ForMost
import HandS.More
import HandS.Flow
import HandS.Deep
import HandS.Wide
import HandS.Style
import HandS.TupAny
import HandS.Flt
import HandS.RaiseMore
import HandS.IsInst
import PySem.Challenge.RW_suitedpairs_k42_common_parts
set_option Elab.async false
set_option linter.all false
set_option maxRecDepth 100000
set_option maxHeartbeats 4000000
/-! The data layer: what a def does, told over data alone. -/
namespace DL
open PySem L2

inductive D where
  | non
  | bl (b : Bool)
  | int (i : Int)
  | str (x : Str)
  | lst (l : List D)
  | tup (l : List D)
  | dct (kvs : List (Key × D))
  | obj (C : Addr) (fs : List (Str × D))
  | scr (ns : List Int)
  | rep (d : D)

mutual
def D.py : D → PyData
  | .non => .none
  | .bl b => .bool b
  | .int i => .int i
  | .str x => .str x
  | .lst l => .list (D.pys l)
  | .tup l => .tuple (D.pys l)
  | .dct _ => .dict []
  | .obj _ _ => .dict []
  | .scr _ => .dict []
  | .rep _ => .dict []
def D.pys : List D → List PyData
  | [] => []
  | d :: r => d.py :: D.pys r
end
mutual
inductive Den (K : PySem.W.Frag) (F : Hp) : V → D → Prop
  | non : Den K F .non .non
  | bl (b : Bool) : Den K F (.bl b) (.bl b)
  | int (i : Int) : Den K F (.int i) (.int i)
  | str (x : Str) (h : PyData.strOk x = true) : Den K F (.str x) (.str x)
  | lst {a : Addr} {xs : List V} {ds : List D} : F a = some (.lst xs) → DenL K F xs ds → Den K F (.ref a) (.lst ds)
  | tup {a : Addr} {xs : List V} {ds : List D} : F a = some (.tup xs) → DenL K F xs ds → Den K F (.ref a) (.tup ds)
  | dct {a : Addr} {ks : List (Key × V)} {ds : List (Key × D)} : F a = some (.dK ks) → DenK K F ks ds → Den K F (.ref a) (.dct ds)
  | obj {a C dx : Addr} {gs : List (Str × V)} {fs : List (Str × D)} : F a = some (.ins C dx gs) → DenO K F gs fs → Den K F (.ref a) (.obj C fs)
  | scr {a : Addr} {ns : List Int} : SqL K F a (ns.map V.int) → Den K F (.ref a) (.scr ns)
  | rep (d : D) : Den K F (.str d.py.shown) (.rep d)
inductive DenL (K : PySem.W.Frag) (F : Hp) : List V → List D → Prop
  | nil : DenL K F [] []
  | cons {v : V} {vs : List V} {d : D} {ds : List D} : Den K F v d → DenL K F vs ds → DenL K F (v :: vs) (d :: ds)
inductive DenK (K : PySem.W.Frag) (F : Hp) : List (Key × V) → List (Key × D) → Prop
  | nil : DenK K F [] []
  | cons {k : Key} {v : V} {vs : List (Key × V)} {d : D} {ds : List (Key × D)} : Den K F v d → DenK K F vs ds → DenK K F ((k, v) :: vs) ((k, d) :: ds)
inductive DenO (K : PySem.W.Frag) (F : Hp) : List (Str × V) → List (Str × D) → Prop
  | nil : DenO K F [] []
  | cons {k : Str} {v : V} {vs : List (Str × V)} {d : D} {ds : List (Str × D)} : Den K F v d → DenO K F vs ds → DenO K F ((k, v) :: vs) ((k, d) :: ds)
end

theorem sqT_mono {K : PySem.W.Frag} {H H' : Hp} {a : Addr} {xs : List V} (e : Same H H') (h : SqT K H a xs) : SqT K H' a xs := by
  rcases h with (h | ⟨o, h⟩) | h
  · exact .inl (.inl (e _ _ h))
  · exact .inl (.inr ⟨o, e _ _ h⟩)
  · exact .inr h
section
variable {K : PySem.W.Frag} {F F' : Hp}
mutual
theorem Den.mono (e : Same F F') : ∀ {d : D} {v : V}, Den K F v d → Den K F' v d
  | .non, _, h => by cases h; exact .non
  | .bl b, _, h => by cases h; exact .bl _
  | .int i, _, h => by cases h; exact .int _
  | .str x, _, h => by cases h with | str _ a => exact .str _ a
  | .lst ds, _, h => by cases h with | lst a b => exact .lst (e _ _ a) (DenL.mono e b)
  | .tup ds, _, h => by cases h with | tup a b => exact .tup (e _ _ a) (DenL.mono e b)
  | .dct ds, _, h => by cases h with | dct a b => exact .dct (e _ _ a) (DenK.mono e b)
  | .obj C fs, _, h => by cases h with | obj a b => exact .obj (e _ _ a) (DenO.mono e b)
  | .scr ns, _, h => by cases h with | scr a => exact .scr (e.seq a)
  | .rep d, _, h => by cases h; exact .rep d
theorem DenL.mono (e : Same F F') : ∀ {ds : List D} {vs : List V}, DenL K F vs ds → DenL K F' vs ds
  | [], _, h => by cases h; exact .nil
  | d :: ds, _, h => by cases h with | cons a b => exact .cons (Den.mono e a) (DenL.mono e b)
theorem DenK.mono (e : Same F F') : ∀ {ds : List (Key × D)} {vs : List (Key × V)}, DenK K F vs ds → DenK K F' vs ds
  | [], _, h => by cases h; exact .nil
  | (k, d) :: ds, _, h => by cases h with | cons a b => exact .cons (Den.mono e a) (DenK.mono e b)
theorem DenO.mono (e : Same F F') : ∀ {ds : List (Str × D)} {vs : List (Str × V)}, DenO K F vs ds → DenO K F' vs ds
  | [], _, h => by cases h; exact .nil
  | (k, d) :: ds, _, h => by cases h with | cons a b => exact .cons (Den.mono e a) (DenO.mono e b)
end
theorem DenL.length : ∀ {vs : List V} {ds : List D}, DenL K F vs ds → vs.length = ds.length
  | _, _, .nil => rfl
  | _, _, .cons _ t => by rw [List.length_cons, List.length_cons, t.length]
theorem DenL.append : ∀ {vs us : List V} {ds es : List D}, DenL K F vs ds → DenL K F us es → DenL K F (vs ++ us) (ds ++ es)
  | _, _, _, _, .nil, h => h
  | _, _, _, _, .cons a t, h => .cons a (t.append h)
theorem DenL.get : ∀ {vs : List V} {ds : List D} {i : Nat} {d : D}, DenL K F vs ds → ds[i]? = some d → ∃ v, vs[i]? = some v ∧ Den K F v d
  | _, _, _, _, .nil, e => by simp at e
  | _, _, 0, _, .cons a _, e => by simp at e; subst e; exact ⟨_, rfl, a⟩
  | _, _, i + 1, d, .cons _ t, e => by
    obtain ⟨u, h1, h2⟩ := DenL.get (i := i) (d := d) t (by simpa using e)
    exact ⟨u, by simpa using h1, h2⟩
theorem DenL.get' {vs : List V} {ds : List D} {i : Nat} {v : V} (h : DenL K F vs ds) (e : vs[i]? = some v) : ∃ d, ds[i]? = some d ∧ Den K F v d := by
  have hi : i < vs.length := (List.getElem?_eq_some_iff.mp e).1
  rw [h.length] at hi
  obtain ⟨u, h1, h2⟩ := h.get (List.getElem?_eq_getElem hi)
  rw [e] at h1; cases h1
  exact ⟨_, List.getElem?_eq_getElem hi, h2⟩
theorem DenL.take : ∀ {vs : List V} {ds : List D} (n : Nat), DenL K F vs ds → DenL K F (vs.take n) (ds.take n)
  | _, _, 0, _ => .nil
  | _, _, _ + 1, .nil => .nil
  | _, _, n + 1, .cons r t => .cons r (t.take n)
theorem DenL.drop : ∀ {vs : List V} {ds : List D} (n : Nat), DenL K F vs ds → DenL K F (vs.drop n) (ds.drop n)
  | _, _, 0, r => r
  | _, _, _ + 1, .nil => .nil
  | _, _, n + 1, .cons _ t => t.drop n
theorem DenL.set {x : V} {d : D} (r : Den K F x d) : ∀ {vs : List V} {ds : List D} (i : Nat), DenL K F vs ds → DenL K F (vs.set i x) (ds.set i d)
  | _, _, _, .nil => .nil
  | _, _, 0, .cons _ t => .cons r t
  | _, _, i + 1, .cons q t => .cons q (DenL.set r i t)
theorem DenL.rev : ∀ {vs : List V} {ds : List D}, DenL K F vs ds → DenL K F vs.reverse ds.reverse
  | _, _, .nil => .nil
  | _, _, .cons r t => by
    rw [List.reverse_cons, List.reverse_cons]
    exact t.rev.append (.cons r .nil)
theorem DenL.eraseIdx : ∀ {vs : List V} {ds : List D} (i : Nat), DenL K F vs ds → DenL K F (vs.eraseIdx i) (ds.eraseIdx i)
  | _, _, _, .nil => .nil
  | _, _, 0, .cons _ t => t
  | _, _, i + 1, .cons q t => .cons q (DenL.eraseIdx i t)
theorem DenL.repl {vs : List V} {ds : List D} (h : DenL K F vs ds) : ∀ n : Nat, DenL K F (List.replicate n vs).flatten (List.replicate n ds).flatten
  | 0 => .nil
  | n + 1 => by
    rw [List.replicate_succ, List.replicate_succ, List.flatten_cons, List.flatten_cons]
    exact h.append (h.repl n)
theorem DenL.ints {ns : List Int} : DenL K F (ns.map V.int) (ns.map D.int) := by
  induction ns with
  | nil => exact .nil
  | cons n r ih => exact .cons (.int _) ih
theorem DenK.length : ∀ {vs : List (Key × V)} {ds : List (Key × D)}, DenK K F vs ds → vs.length = ds.length
  | _, _, .nil => rfl
  | _, _, .cons _ t => by rw [List.length_cons, List.length_cons, t.length]
end

/-! ### owned things -/
inductive Cn where
  | l (ds : List D)
  | d (kvs : List (Key × D))
  | o (C : Addr) (fs : List (Str × D))
def Cn.dat : Cn → D
  | .l ds => .lst ds
  | .d kvs => .dct kvs
  | .o C fs => .obj C fs
def Has (K : PySem.W.Frag) (F H : Hp) (p : Addr) : Cn → Prop
  | .l ds => ∃ xs, H p = some (.lst xs) ∧ DenL K F xs ds
  | .d kvs => ∃ ks, H p = some (.dK ks) ∧ DenK K F ks kvs
  | .o C fs => ∃ dx gs, H p = some (.ins C dx gs) ∧ DenO K F gs fs
/-- a slot: nothing known; a thing that stays; one's own thing, that nobody else holds; the j-th argument, lent -/
inductive Sl where
  | un
  | sh (d : D)
  | ow (c : Cn)
  | bw (j : Nat) (c : Cn)
def Sl.cn : Sl → Option Cn
  | .ow c => some c
  | .bw _ c => some c
  | _ => none
def Sl.dat : Sl → Option D
  | .sh d => some d
  | .ow c => some c.dat
  | .bw _ c => some c.dat
  | .un => none
def Sl.with (c : Cn) : Sl → Sl
  | .ow _ => .ow c
  | .bw j _ => .bw j c
  | s => s
abbrev SL := List Sl
/-- a value handed on: a datum, or a thing that nobody holds yet -/
inductive Rv where
  | v (d : D)
  | fr (c : Cn)
def Rv.dat : Rv → D
  | .v d => d
  | .fr c => c.dat
structure Cd where
  b : Nat → Option Addr
  L : Addr → Prop
  H0 : Hp
  F0 : Hp
section
variable {K : PySem.W.Frag} {F F' H H' : Hp} {p : Addr} {c : Cn}
theorem Has.mono (e : Same F F') (h : Has K F H p c) : Has K F' H p c := by
  cases c with
  | l ds => obtain ⟨xs, a, b⟩ := h; exact ⟨xs, a, b.mono e⟩
  | d kvs => obtain ⟨xs, a, b⟩ := h; exact ⟨xs, a, b.mono e⟩
  | o C fs => obtain ⟨dx, gs, a, b⟩ := h; exact ⟨dx, gs, a, b.mono e⟩
theorem Has.at (h : Has K F H p c) (e : H' p = H p) : Has K F H' p c := by
  cases c with
  | l ds => obtain ⟨xs, a, b⟩ := h; exact ⟨xs, e.trans a, b⟩
  | d kvs => obtain ⟨xs, a, b⟩ := h; exact ⟨xs, e.trans a, b⟩
  | o C fs => obtain ⟨dx, gs, a, b⟩ := h; exact ⟨dx, gs, e.trans a, b⟩
theorem Has.ex (h : Has K F H p c) : ∃ o, H p = some o := by
  cases c with
  | l ds => obtain ⟨xs, a, b⟩ := h; exact ⟨_, a⟩
  | d kvs => obtain ⟨xs, a, b⟩ := h; exact ⟨_, a⟩
  | o C fs => obtain ⟨dx, gs, a, b⟩ := h; exact ⟨_, a⟩
/-- what nobody changes any more -/
theorem Has.den (h : Has K F H p c) (e : Same F F') {o : HO} (hp : H p = some o) (hf : F' p = some o) : Den K F' (.ref p) c.dat := by
  cases c with
  | l ds => obtain ⟨xs, a, b⟩ := h; rw [a] at hp; cases hp; exact .lst hf (b.mono e)
  | d kvs => obtain ⟨xs, a, b⟩ := h; rw [a] at hp; cases hp; exact .dct hf (b.mono e)
  | o C fs => obtain ⟨dx, gs, a, b⟩ := h; rw [a] at hp; cases hp; exact .obj hf (b.mono e)
theorem same_new {o : HO} (h : F p = none) : Same F (upd F p o) := fun b x e => by
  rw [upd_ne (ne_of_none e h)]
  exact e
end

/-- what the slots and the heap hold -/
structure Rep (K : PySem.W.Frag) (G : Cd) (σ : St) (H F : Hp) (ρ : SL) : Prop where
  len : ρ.length = σ.length
  ext : Same F H
  sh : ∀ (i : Nat) (d : D), ρ[i]? = some (.sh d) → ∃ v, σ[i]? = some (some v) ∧ Den K F v d
  ow : ∀ (i : Nat) (c : Cn), ρ[i]? = some (.ow c) → ∃ p, σ[i]? = some (some (.ref p)) ∧ Has K F H p c ∧ F p = none ∧ (G.H0 p = none ∨ G.L p)
  bw : ∀ (i j : Nat) (c : Cn), ρ[i]? = some (.bw j c) → ∃ p, σ[i]? = some (some (.ref p)) ∧ Has K F H p c ∧ F p = none ∧ G.b j = some p
  sep : ∀ (i j : Nat) (s t : Sl) (c c' : Cn) (p : Addr), ρ[i]? = some s → ρ[j]? = some t → s.cn = some c → t.cn = some c' → σ[i]? = some (some (.ref p)) → σ[j]? = some (some (.ref p)) → i = j
  fr0 : Same G.F0 F
  new : ∀ a o, F a = some o → G.F0 a = some o ∨ G.H0 a = none ∨ G.L a
  keep : ∀ a o, G.H0 a = some o → ¬ G.L a → (∀ j, G.b j ≠ some a) → H a = some o
  dom : ∀ a o, G.H0 a = some o → ∃ o', H a = some o'
  bd : ∀ j p, G.b j = some p → ∃ o, G.H0 p = some o
  lb : ∀ j p, G.L p → G.b j ≠ some p
/-- what a value is -/
def RDen (K : PySem.W.Frag) (G : Cd) (σ : St) (ρ : SL) (H F : Hp) (v : V) : Rv → Prop
  | .v d => Den K F v d
  | .fr c => ∃ p, v = .ref p ∧ Has K F H p c ∧ F p = none ∧ (G.H0 p = none ∨ G.L p) ∧ ∀ (i : Nat) (s : Sl) (c' : Cn), ρ[i]? = some s → s.cn = some c' → σ[i]? ≠ some (some (.ref p))
section
variable {K : PySem.W.Frag} {G : Cd} {σ : St} {H F : Hp} {ρ : SL} {v : V} {d : D} {c : Cn} {i : Nat} {p : Addr}
theorem Rep.owned (R : Rep K G σ H F ρ) {s : Sl} (h : ρ[i]? = some s) (hc : s.cn = some c) : ∃ p, σ[i]? = some (some (.ref p)) ∧ Has K F H p c ∧ F p = none := by
  cases s with
  | un => cases hc
  | sh d => cases hc
  | ow c' => cases hc; obtain ⟨p, a, b, e, _⟩ := R.ow i _ h; exact ⟨p, a, b, e⟩
  | bw j c' => cases hc; obtain ⟨p, a, b, e, _⟩ := R.bw i j _ h; exact ⟨p, a, b, e⟩
theorem Rep.fresh (R : Rep K G σ H F ρ) (h : H p = none) : F p = none ∧ G.H0 p = none := by
  refine ⟨?_, ?_⟩
  · cases e : F p with
    | none => rfl
    | some o => rw [R.ext p o e] at h; cases h
  · cases e : G.H0 p with
    | none => rfl
    | some o => obtain ⟨o', q⟩ := R.dom p o e; rw [q] at h; cases h
theorem set_get {α : Type} {l : List α} {i j : Nat} {x y : α} (h : (l.set i x)[j]? = some y) : (j = i ∧ y = x) ∨ (j ≠ i ∧ l[j]? = some y) := by
  by_cases e : j = i
  · subst e
    left
    rw [List.getElem?_set_self'] at h
    cases q : l[j]? with
    | none => rw [q] at h; simp at h
    | some z => rw [q] at h; simp at h; exact ⟨rfl, h.symm⟩
  · rw [List.getElem?_set_ne (Ne.symm e)] at h
    exact .inr ⟨e, h⟩
theorem set_at {α β : Type} {l : List α} {m : List β} (hl : l.length = m.length) {i : Nat} {x y : α} {z : β} (h : (l.set i x)[i]? = some y) : (m.set i z)[i]? = some z := by
  have hi : i < (l.set i x).length := (List.getElem?_eq_some_iff.mp h).1
  rw [List.length_set, hl] at hi
  rw [List.getElem?_set_self hi]
/-- a slot is set to a datum -/
theorem Rep.setSh (R : Rep K G σ H F ρ) (h : Den K F v d) (i : Nat) : Rep K G (σ.set i (some v)) H F (ρ.set i (.sh d)) where
  len := by rw [List.length_set, List.length_set]; exact R.len
  ext := R.ext
  sh := fun j d' e => by
    rcases set_get e with ⟨rfl, q⟩ | ⟨ne, q⟩
    · cases q; exact ⟨v, set_at R.len e, h⟩
    · rw [List.getElem?_set_ne (Ne.symm ne)]; exact R.sh j d' q
  ow := fun j c' e => by
    rcases set_get e with ⟨rfl, q⟩ | ⟨ne, q⟩
    · cases q
    · rw [List.getElem?_set_ne (Ne.symm ne)]; exact R.ow j c' q
  bw := fun j k c' e => by
    rcases set_get e with ⟨rfl, q⟩ | ⟨ne, q⟩
    · cases q
    · rw [List.getElem?_set_ne (Ne.symm ne)]; exact R.bw j k c' q
  sep := fun j k s t c1 c2 p e1 e2 h1 h2 h3 h4 => by
    rcases set_get e1 with ⟨rfl, q⟩ | ⟨ne, q⟩
    · subst q; cases h1
    · rcases set_get e2 with ⟨rfl, q2⟩ | ⟨ne2, q2⟩
      · subst q2; cases h2
      · rw [List.getElem?_set_ne (Ne.symm ne)] at h3
        rw [List.getElem?_set_ne (Ne.symm ne2)] at h4
        exact R.sep j k s t c1 c2 p q q2 h1 h2 h3 h4
  fr0 := R.fr0
  new := R.new
  keep := R.keep
  dom := R.dom
  bd := R.bd
  lb := R.lb
/-- nothing more is known of a slot -/
theorem Rep.setUn (R : Rep K G σ H F ρ) (i : Nat) (x : Option V) : Rep K G (σ.set i x) H F (ρ.set i .un) where
  len := by rw [List.length_set, List.length_set]; exact R.len
  ext := R.ext
  sh := fun j d' e => by
    rcases set_get e with ⟨rfl, q⟩ | ⟨ne, q⟩
    · cases q
    · rw [List.getElem?_set_ne (Ne.symm ne)]; exact R.sh j d' q
  ow := fun j c' e => by
    rcases set_get e with ⟨rfl, q⟩ | ⟨ne, q⟩
    · cases q
    · rw [List.getElem?_set_ne (Ne.symm ne)]; exact R.ow j c' q
  bw := fun j k c' e => by
    rcases set_get e with ⟨rfl, q⟩ | ⟨ne, q⟩
    · cases q
    · rw [List.getElem?_set_ne (Ne.symm ne)]; exact R.bw j k c' q
  sep := fun j k s t c1 c2 p e1 e2 h1 h2 h3 h4 => by
    rcases set_get e1 with ⟨rfl, q⟩ | ⟨ne, q⟩
    · subst q; cases h1
    · rcases set_get e2 with ⟨rfl, q2⟩ | ⟨ne2, q2⟩
      · subst q2; cases h2
      · rw [List.getElem?_set_ne (Ne.symm ne)] at h3
        rw [List.getElem?_set_ne (Ne.symm ne2)] at h4
        exact R.sep j k s t c1 c2 p q q2 h1 h2 h3 h4
  fr0 := R.fr0
  new := R.new
  keep := R.keep
  dom := R.dom
  bd := R.bd
  lb := R.lb
theorem Rep.setOw (R : Rep K G σ H F ρ) (h : RDen K G σ ρ H F v (.fr c)) (i : Nat) : Rep K G (σ.set i (some v)) H F (ρ.set i (.ow c)) := by
  obtain ⟨p0, rfl, hh, hF, hL, hn⟩ := h
  exact {
    len := by rw [List.length_set, List.length_set]; exact R.len
    ext := R.ext
    sh := fun j d' e => by
      rcases set_get e with ⟨rfl, q⟩ | ⟨ne, q⟩
      · cases q
      · rw [List.getElem?_set_ne (Ne.symm ne)]; exact R.sh j d' q
    ow := fun j c' e => by
      rcases set_get e with ⟨rfl, q⟩ | ⟨ne, q⟩
      · cases q; exact ⟨p0, set_at R.len e, hh, hF, hL⟩
      · rw [List.getElem?_set_ne (Ne.symm ne)]; exact R.ow j c' q
    bw := fun j k c' e => by
      rcases set_get e with ⟨rfl, q⟩ | ⟨ne, q⟩
      · cases q
      · rw [List.getElem?_set_ne (Ne.symm ne)]; exact R.bw j k c' q
    sep := fun j k s t c1 c2 p e1 e2 h1 h2 h3 h4 => by
      rcases set_get e1 with ⟨rfl, q⟩ | ⟨ne, q⟩
      · rcases set_get e2 with ⟨rfl, q2⟩ | ⟨ne2, q2⟩
        · rfl
        · rw [set_at R.len e1] at h3; cases h3
          rw [List.getElem?_set_ne (Ne.symm ne2)] at h4
          exact absurd h4 (hn k t c2 q2 h2)
      · rw [List.getElem?_set_ne (Ne.symm ne)] at h3
        rcases set_get e2 with ⟨rfl, q2⟩ | ⟨ne2, q2⟩
        · rw [set_at R.len e2] at h4; cases h4
          exact absurd h3 (hn j s c1 q h1)
        · rw [List.getElem?_set_ne (Ne.symm ne2)] at h4
          exact R.sep j k s t c1 c2 p q q2 h1 h2 h3 h4
    fr0 := R.fr0
    new := R.new
    keep := R.keep
    dom := R.dom
    bd := R.bd
    lb := R.lb }
/-- a new thing is laid that will stay -/
theorem Rep.alloc (R : Rep K G σ H F ρ) {o : HO} (h : H p = none) : Same F (upd F p o) ∧ Rep K G σ (upd H p o) (upd F p o) ρ := by
  obtain ⟨hF, h0⟩ := R.fresh h
  have sF : Same F (upd F p o) := same_new hF
  have ne : ∀ q o', H q = some o' → q ≠ p := fun q o' e z => by subst z; rw [h] at e; cases e
  refine ⟨sF, R.len, fun a x e => ?_, fun i d e => ?_, fun i c e => ?_, fun i j c e => ?_, R.sep, fun a x e => sF a x (R.fr0 a x e), fun a x e => ?_, fun a x e nl nb => ?_, fun a x e => ?_, R.bd, R.lb⟩
  · by_cases q : a = p
    · subst q; rw [upd_same] at e ⊢; exact e
    · rw [upd_ne q] at e ⊢; exact R.ext a x e
  · obtain ⟨v, a, b⟩ := R.sh i d e; exact ⟨v, a, b.mono sF⟩
  · obtain ⟨q, a, b, e2, e3⟩ := R.ow i c e
    obtain ⟨o', ho⟩ := b.ex
    exact ⟨q, a, (b.mono sF).at (upd_ne (ne q o' ho)), by rw [upd_ne (ne q o' ho)]; exact e2, e3⟩
  · obtain ⟨q, a, b, e2, e3⟩ := R.bw i j c e
    obtain ⟨o', ho⟩ := b.ex
    exact ⟨q, a, (b.mono sF).at (upd_ne (ne q o' ho)), by rw [upd_ne (ne q o' ho)]; exact e2, e3⟩
  · by_cases q : a = p
    · subst q; exact .inr (.inl h0)
    · rw [upd_ne q] at e; exact R.new a x e
  · have k := R.keep a x e nl nb
    rw [upd_ne (ne a x k)]; exact k
  · obtain ⟨o', k⟩ := R.dom a x e
    exact ⟨o', by rw [upd_ne (ne a o' k)]; exact k⟩
/-- .. or that nobody holds yet -/
theorem Rep.allocFr (R : Rep K G σ H F ρ) {o : HO} (h : H p = none) (hc : Has K F (upd H p o) p c) : Rep K G σ (upd H p o) F ρ ∧ RDen K G σ ρ (upd H p o) F (.ref p) (.fr c) := by
  obtain ⟨hF, h0⟩ := R.fresh h
  have ne : ∀ q o', H q = some o' → q ≠ p := fun q o' e z => by subst z; rw [h] at e; cases e
  refine ⟨⟨R.len, fun a x e => ?_, R.sh, fun i c e => ?_, fun i j c e => ?_, R.sep, R.fr0, R.new, fun a x e nl nb => ?_, fun a x e => ?_, R.bd, R.lb⟩, p, rfl, hc, hF, .inl h0, fun i s c' e hs z => ?_⟩
  · have k := R.ext a x e
    rw [upd_ne (ne a x k)]; exact k
  · obtain ⟨q, a, b, e2, e3⟩ := R.ow i c e
    obtain ⟨o', ho⟩ := b.ex
    exact ⟨q, a, b.at (upd_ne (ne q o' ho)), e2, e3⟩
  · obtain ⟨q, a, b, e2, e3⟩ := R.bw i j c e
    obtain ⟨o', ho⟩ := b.ex
    exact ⟨q, a, b.at (upd_ne (ne q o' ho)), e2, e3⟩
  · have k := R.keep a x e nl nb
    rw [upd_ne (ne a x k)]; exact k
  · obtain ⟨o', k⟩ := R.dom a x e
    exact ⟨o', by rw [upd_ne (ne a o' k)]; exact k⟩
  · obtain ⟨q, a, b, _⟩ := R.owned e hs
    rw [a] at z
    obtain ⟨o', ho⟩ := b.ex
    exact ne q o' ho (V.ref.inj (Option.some.inj (Option.some.inj z)))
/-- an object that F does not know yet, and no slot owns, stays from now on -/
theorem Rep.stay (R : Rep K G σ H F ρ) {o : HO} (h : H p = some o) (hF : F p = none) (h0 : G.H0 p = none ∨ G.L p) (hn : ∀ (i : Nat) (s : Sl) (c' : Cn), ρ[i]? = some s → s.cn = some c' → σ[i]? ≠ some (some (.ref p))) :
    Same F (upd F p o) ∧ Rep K G σ H (upd F p o) ρ := by
  have sF : Same F (upd F p o) := same_new hF
  refine ⟨sF, R.len, fun a x e => ?_, fun i d e => ?_, fun i c e => ?_, fun i j c e => ?_, R.sep, fun a x e => sF a x (R.fr0 a x e), fun a x e => ?_, R.keep, R.dom, R.bd, R.lb⟩
  · by_cases q : a = p
    · subst q; rw [upd_same] at e; rw [h]; exact e
    · rw [upd_ne q] at e; exact R.ext a x e
  · obtain ⟨v, a, b⟩ := R.sh i d e; exact ⟨v, a, b.mono sF⟩
  · obtain ⟨q, a, b, e2, e3⟩ := R.ow i c e
    have ne : q ≠ p := fun z => hn i _ _ e rfl (by rw [← z]; exact a)
    exact ⟨q, a, b.mono sF, by rw [upd_ne ne]; exact e2, e3⟩
  · obtain ⟨q, a, b, e2, e3⟩ := R.bw i j c e
    have ne : q ≠ p := fun z => hn i _ _ e rfl (by rw [← z]; exact a)
    exact ⟨q, a, b.mono sF, by rw [upd_ne ne]; exact e2, e3⟩
  · by_cases q : a = p
    · subst q
      rcases h0 with z | z
      · exact .inr (.inl z)
      · exact .inr (.inr z)
    · rw [upd_ne q] at e; exact R.new a x e
/-- a value handed on as a datum -/
theorem Rep.share (R : Rep K G σ H F ρ) {r : Rv} (h : RDen K G σ ρ H F v r) : ∃ F', Same F F' ∧ Rep K G σ H F' ρ ∧ Den K F' v r.dat := by
  cases r with
  | v d => exact ⟨F, Same.refl F, R, h⟩
  | fr c =>
    obtain ⟨p, rfl, hh, hF, h0, hn⟩ := h
    obtain ⟨o, ho⟩ := hh.ex
    obtain ⟨s1, R1⟩ := R.stay ho hF h0 hn
    exact ⟨_, s1, R1, hh.den s1 ho upd_same⟩
theorem Rep.unSlot (R : Rep K G σ H F ρ) (i : Nat) : Rep K G σ H F (ρ.set i .un) := by
  have := R.setUn i (σ.getD i none)
  have e : σ.set i (σ.getD i none) = σ := by
    by_cases h : i < σ.length
    · apply List.ext_getElem?
      intro j
      by_cases q : j = i
      · subst q
        rw [List.getElem?_set_self h, List.getD_eq_getElem?_getD, List.getElem?_eq_getElem h]
        rfl
      · rw [List.getElem?_set_ne (Ne.symm q)]
    · rw [List.set_eq_of_length_le (Nat.le_of_not_lt h)]
  rw [e] at this
  exact this
theorem un_own {s : Sl} {c' : Cn} {j : Nat} (e : (ρ.set i .un)[j]? = some s) (hs : s.cn = some c') : j ≠ i ∧ ρ[j]? = some s := by
  rcases set_get e with ⟨_, q⟩ | q
  · subst q; cases hs
  · exact q
/-- one's own thing taken out of its slot -/
theorem Rep.take (R : Rep K G σ H F ρ) (h : ρ[i]? = some (.ow c)) (hv : σ[i]? = some (some v)) : Rep K G σ H F (ρ.set i .un) ∧ RDen K G σ (ρ.set i .un) H F v (.fr c) := by
  obtain ⟨p, a, b, e, z⟩ := R.ow i c h
  rw [a] at hv; cases hv
  refine ⟨R.unSlot i, p, rfl, b, e, z, fun j s c' q hs w => ?_⟩
  obtain ⟨ne, q⟩ := un_own q hs
  exact ne (R.sep j i s _ c' c p q h hs rfl w a)
/-- one's own thing is changed no more -/
theorem Rep.freeze (R : Rep K G σ H F ρ) (h : ρ[i]? = some (.ow c)) : ∃ F' v, Same F F' ∧ σ[i]? = some (some v) ∧ Den K F' v c.dat ∧ Rep K G σ H F' (ρ.set i (.sh c.dat)) := by
  obtain ⟨p, a, b, e, z⟩ := R.ow i c h
  obtain ⟨R1, hd⟩ := R.take h a
  obtain ⟨F', s1, R2, d2⟩ := R1.share hd
  refine ⟨F', _, s1, a, d2, ?_⟩
  have R3 := R2.setSh d2 i
  have hi : i < σ.length := (List.getElem?_eq_some_iff.mp a).1
  rw [List.set_set] at R3
  have e1 : σ.set i (some (.ref p)) = σ := by
    apply List.ext_getElem?
    intro j
    by_cases q : j = i
    · subst q
      rw [List.getElem?_set_self hi, a]
    · rw [List.getElem?_set_ne (Ne.symm q)]
  rw [e1] at R3
  exact R3
theorem Sl.with_cn {s : Sl} {c c' : Cn} (h : s.cn = some c) : (s.with c').cn = some c' := by
  cases s with
  | un => cases h
  | sh d => cases h
  | ow c => rfl
  | bw j c => rfl
/-- an owned (or lent) thing is changed -/
theorem Rep.write (R : Rep K G σ H F ρ) {s : Sl} {c' : Cn} {o : HO} (h : ρ[i]? = some s) (hs : s.cn = some c) (hp : σ[i]? = some (some (.ref p))) (hn : Has K F (upd H p o) p c') : Rep K G σ (upd H p o) F (ρ.set i (s.with c')) := by
  obtain ⟨p', a, b, e⟩ := R.owned h hs
  rw [hp] at a; cases a
  have oth : ∀ (j : Nat) (t : Sl) (c1 : Cn), ρ[j]? = some t → t.cn = some c1 → j ≠ i → ∀ q, σ[j]? = some (some (.ref q)) → q ≠ p := fun j t c1 e1 e2 ne q e3 z => by
    subst z; exact ne (R.sep j i t s c1 c q e1 h e2 hs e3 hp)
  have nG : ∀ a o1, G.H0 a = some o1 → ¬ G.L a → (∀ j, G.b j ≠ some a) → a ≠ p := fun a o1 e1 nl nb z => by
    subst z
    cases s with
    | un => cases hs
    | sh d => cases hs
    | ow c1 =>
      obtain ⟨q, a1, _, _, a4⟩ := R.ow i c1 h
      rw [hp] at a1; cases a1
      rcases a4 with a4 | a4
      · rw [e1] at a4; cases a4
      · exact nl a4
    | bw k c1 =>
      obtain ⟨q, a1, _, _, a4⟩ := R.bw i k c1 h
      rw [hp] at a1; cases a1
      exact nb k a4
  refine ⟨by rw [List.length_set]; exact R.len, fun a x e1 => ?_, fun j d e1 => ?_, fun j c1 e1 => ?_, fun j k c1 e1 => ?_, fun j k t u c1 c2 q e1 e2 h1 h2 h3 h4 => ?_, R.fr0, R.new, fun a x e1 nl nb => ?_, fun a x e1 => ?_, R.bd, R.lb⟩
  · rw [upd_ne (show a ≠ p from fun z => by subst z; rw [e] at e1; cases e1)]; exact R.ext a x e1
  · rcases set_get e1 with ⟨_, q⟩ | ⟨_, q⟩
    · have q2 := congrArg Sl.cn q
      rw [Sl.with_cn hs] at q2; cases q2
    · exact R.sh j d q
  · rcases set_get e1 with ⟨rfl, q⟩ | ⟨ne, q⟩
    · cases s with
      | un => cases hs
      | sh d => cases hs
      | ow c2 =>
        have q : Sl.ow c1 = Sl.ow c' := q
        cases q
        obtain ⟨q, a1, _, a3, a4⟩ := R.ow j c2 h
        rw [hp] at a1; cases a1
        exact ⟨p, hp, hn, a3, a4⟩
      | bw k c2 => exact nomatch (show Sl.ow c1 = Sl.bw k c' from q)
    · obtain ⟨q', a1, a2, a3, a4⟩ := R.ow j c1 q
      exact ⟨q', a1, a2.at (upd_ne (oth j _ _ q rfl ne q' a1)), a3, a4⟩
  · rcases set_get e1 with ⟨rfl, q⟩ | ⟨ne, q⟩
    · cases s with
      | un => cases hs
      | sh d => cases hs
      | ow c2 => exact nomatch (show Sl.bw k c1 = Sl.ow c' from q)
      | bw k2 c2 =>
        have q : Sl.bw k c1 = Sl.bw k2 c' := q
        cases q
        obtain ⟨q, a1, _, a3, a4⟩ := R.bw j k c2 h
        rw [hp] at a1; cases a1
        exact ⟨p, hp, hn, a3, a4⟩
    · obtain ⟨q', a1, a2, a3, a4⟩ := R.bw j k c1 q
      exact ⟨q', a1, a2.at (upd_ne (oth j _ _ q rfl ne q' a1)), a3, a4⟩
  · rcases set_get e1 with ⟨rfl, q1⟩ | ⟨ne, q1⟩
    · rcases set_get e2 with ⟨rfl, q2⟩ | ⟨ne2, q2⟩
      · rfl
      · exact R.sep j k s u c c2 q h q2 hs h2 h3 h4
    · rcases set_get e2 with ⟨rfl, q2⟩ | ⟨ne2, q2⟩
      · exact R.sep j k t s c1 c q q1 h h1 hs h3 h4
      · exact R.sep j k t u c1 c2 q q1 q2 h1 h2 h3 h4
  · rw [upd_ne (nG a x e1 nl nb)]; exact R.keep a x e1 nl nb
  · obtain ⟨o', k⟩ := R.dom a x e1
    by_cases z : a = p
    · subst z; exact ⟨o, upd_same⟩
    · exact ⟨o', by rw [upd_ne z]; exact k⟩
/-! ### the frame -/
def Cd.now (G : Cd) (σ : St) (ρ : SL) (H F : Hp) : Cd where
  b := G.b
  L := fun p => ∃ (i : Nat) (c : Cn), ρ[i]? = some (.ow c) ∧ σ[i]? = some (some (.ref p))
  H0 := H
  F0 := F
theorem Rep.now (R : Rep K G σ H F ρ) : Rep K (G.now σ ρ H F) σ H F ρ where
  len := R.len
  ext := R.ext
  sh := R.sh
  ow := fun i c e => by
    obtain ⟨p, a, b, e2, _⟩ := R.ow i c e
    exact ⟨p, a, b, e2, .inr ⟨i, c, e, a⟩⟩
  bw := R.bw
  sep := R.sep
  fr0 := Same.refl F
  new := fun a o e => .inl e
  keep := fun a o e _ _ => e
  dom := fun a o e => ⟨o, e⟩
  bd := fun j p e => by
    obtain ⟨o, h⟩ := R.bd j p e
    exact R.dom p o h
  lb := fun j p ⟨i, c, e, z⟩ w => by
    obtain ⟨q, a1, _, _, a4⟩ := R.ow i c e
    rw [z] at a1; cases a1
    rcases a4 with a4 | a4
    · obtain ⟨o, h⟩ := R.bd j p w
      rw [a4] at h; cases h
    · exact R.lb j p a4 w
theorem Rep.back {σ' : L2.St} {H' F' : Hp} {ρ' : SL} (R : Rep K G σ H F ρ) (R' : Rep K (G.now σ ρ H F) σ' H' F' ρ') : Rep K G σ' H' F' ρ' where
  len := R'.len
  ext := R'.ext
  sh := R'.sh
  ow := fun i c e => by
    obtain ⟨p, a, b, e2, z⟩ := R'.ow i c e
    refine ⟨p, a, b, e2, ?_⟩
    rcases z with z | ⟨k, c', e3, z⟩
    · exact .inl (R.fresh z).2
    · obtain ⟨q, a1, _, _, a4⟩ := R.ow k c' e3
      rw [z] at a1; cases a1
      exact a4
  bw := R'.bw
  sep := R'.sep
  fr0 := R.fr0.trans R'.fr0
  new := fun a o e => by
    rcases R'.new a o e with z | z | ⟨k, c', e3, z⟩
    · exact R.new a o z
    · exact .inr (.inl (R.fresh z).2)
    · obtain ⟨q, a1, _, _, a4⟩ := R.ow k c' e3
      rw [z] at a1; cases a1
      exact .inr a4
  keep := fun a o e nl nb => by
    refine R'.keep a o (R.keep a o e nl nb) ?_ nb
    rintro ⟨k, c', e3, z⟩
    obtain ⟨q, a1, _, _, a4⟩ := R.ow k c' e3
    rw [z] at a1; cases a1
    rcases a4 with a4 | a4
    · rw [e] at a4; cases a4
    · exact nl a4
  dom := fun a o e => by
    obtain ⟨o', k⟩ := R.dom a o e
    exact R'.dom a o' k
  bd := R.bd
  lb := R.lb
/-- what is held aside through a stretch -/
theorem Rep.held {σ' : L2.St} {H' F' : Hp} {ρ' : SL} {o : HO} (R : Rep K G σ H F ρ) (R' : Rep K (G.now σ ρ H F) σ' H' F' ρ') (h : H p = some o) (hF : F p = none)
    (hn : ∀ (i : Nat) (s : Sl) (c' : Cn), ρ[i]? = some s → s.cn = some c' → σ[i]? ≠ some (some (.ref p))) (hb : ∀ j, G.b j ≠ some p) :
    H' p = some o ∧ F' p = none ∧ ∀ (i : Nat) (s : Sl) (c' : Cn), ρ'[i]? = some s → s.cn = some c' → σ'[i]? ≠ some (some (.ref p)) := by
  have nL : ¬ (G.now σ ρ H F).L p := fun ⟨i, c, e, z⟩ => hn i _ c e rfl z
  refine ⟨R'.keep p o h nL hb, ?_, fun i s c' e hs z => ?_⟩
  · cases q : F' p with
    | none => rfl
    | some u =>
      rcases R'.new p u q with w | w | w
      · have w' : F p = some u := w
        rw [hF] at w'; cases w'
      · have w' : H p = none := w
        rw [h] at w'; cases w'
      · exact (nL w).elim
  · cases s with
    | un => cases hs
    | sh d => cases hs
    | ow c =>
      obtain ⟨q, a1, _, _, a4⟩ := R'.ow i c e
      rw [z] at a1; cases a1
      rcases a4 with w | w
      · have w' : H p = none := w
        rw [h] at w'; cases w'
      · exact nL w
    | bw j c =>
      obtain ⟨q, a1, _, _, a4⟩ := R'.bw i j c e
      rw [z] at a1; cases a1
      exact hb j a4
theorem Rep.freshB (R : Rep K G σ H F ρ) (h : H p = none) : ∀ j, G.b j ≠ some p := fun j e => by
  obtain ⟨o, q⟩ := R.bd j p e
  obtain ⟨o', q'⟩ := R.dom p o q
  rw [h] at q'; cases q'
/-- a new thing that nobody looks at -/
theorem Rep.junk (R : Rep K G σ H F ρ) {o : HO} (h : H p = none) : Rep K G σ (upd H p o) F ρ := by
  have ne : ∀ q o', H q = some o' → q ≠ p := fun q o' e z => by subst z; rw [h] at e; cases e
  refine ⟨R.len, fun a x e => ?_, R.sh, fun i c e => ?_, fun i j c e => ?_, R.sep, R.fr0, R.new, fun a x e nl nb => ?_, fun a x e => ?_, R.bd, R.lb⟩
  · have k := R.ext a x e
    rw [upd_ne (ne a x k)]; exact k
  · obtain ⟨q, a, b, e2, e3⟩ := R.ow i c e
    obtain ⟨o', ho⟩ := b.ex
    exact ⟨q, a, b.at (upd_ne (ne q o' ho)), e2, e3⟩
  · obtain ⟨q, a, b, e2, e3⟩ := R.bw i j c e
    obtain ⟨o', ho⟩ := b.ex
    exact ⟨q, a, b.at (upd_ne (ne q o' ho)), e2, e3⟩
  · have k := R.keep a x e nl nb
    rw [upd_ne (ne a x k)]; exact k
  · obtain ⟨o', k⟩ := R.dom a x e
    exact ⟨o', by rw [upd_ne (ne a o' k)]; exact k⟩
theorem Rep.nb (R : Rep K G σ H F ρ) (h0 : G.H0 p = none ∨ G.L p) : ∀ j, G.b j ≠ some p := fun j e => by
  rcases h0 with h0 | h0
  · obtain ⟨o, q⟩ := R.bd j p e
    rw [h0] at q; cases q
  · exact R.lb j p h0 e
def Cd.at (G : Cd) (F : Hp) : Cd := { G with F0 := F }
theorem Rep.rebase (R : Rep K G σ H F ρ) : Rep K (G.at F) σ H F ρ :=
  ⟨R.len, R.ext, R.sh, R.ow, R.bw, R.sep, Same.refl F, fun a o e => .inl e, R.keep, R.dom, R.bd, R.lb⟩
theorem Rep.unbase {σ' : L2.St} {H' F' : Hp} {ρ' : SL} (R : Rep K G σ H F ρ) (R' : Rep K (G.at F) σ' H' F' ρ') : Rep K G σ' H' F' ρ' :=
  ⟨R'.len, R'.ext, R'.sh, R'.ow, R'.bw, R'.sep, R.fr0.trans R'.fr0, fun a o e => by
    rcases R'.new a o e with z | z
    · exact R.new a o z
    · exact .inr z, R'.keep, R'.dom, R'.bd, R'.lb⟩
theorem RDen.back {σ' : St} {H' F' : Hp} {ρ' : SL} {r : Rv} (R : Rep K G σ H F ρ) (h : RDen K (G.now σ ρ H F) σ' ρ' H' F' v r) : RDen K G σ' ρ' H' F' v r := by
  cases r with
  | v d => exact h
  | fr c =>
    obtain ⟨p, e, a, b, z, n⟩ := h
    refine ⟨p, e, a, b, ?_, n⟩
    rcases z with z | ⟨k, c', e3, z⟩
    · exact .inl (R.fresh z).2
    · obtain ⟨q, a1, _, _, a4⟩ := R.ow k c' e3
      rw [z] at a1; cases a1
      exact a4
/-! ### several values at once -/
/-- a value handed on is held while something else goes on -/
theorem RDen.hold {σ' : L2.St} {H' F' : Hp} {ρ' : SL} {r : Rv} (R : Rep K G σ H F ρ) (h : RDen K G σ ρ H F v r) (R' : Rep K (G.now σ ρ H F) σ' H' F' ρ') : RDen K G σ' ρ' H' F' v r := by
  cases r with
  | v d => exact Den.mono R'.fr0 h
  | fr c =>
    obtain ⟨p, e, a, b, z, n⟩ := h
    obtain ⟨o, ho⟩ := a.ex
    obtain ⟨h1, h2, h3⟩ := R.held R' ho b n (R.nb z)
    exact ⟨p, e, (a.mono R'.fr0).at (h1.trans ho.symm), h2, z, h3⟩
/-- fewer slots are known, the others are as they were -/
theorem Rep.slots {σ' : L2.St} {ρ' : SL} (R : Rep K G σ H F ρ) (hl : ρ'.length = σ'.length) (h : ∀ (i : Nat) (s : Sl), ρ'[i]? = some s → s = .un ∨ (ρ[i]? = some s ∧ σ'[i]? = σ[i]?)) : Rep K G σ' H F ρ' where
  len := hl
  ext := R.ext
  sh := fun i d e => by
    rcases h i _ e with z | ⟨z, w⟩
    · cases z
    · rw [w]; exact R.sh i d z
  ow := fun i c e => by
    rcases h i _ e with z | ⟨z, w⟩
    · cases z
    · rw [w]; exact R.ow i c z
  bw := fun i j c e => by
    rcases h i _ e with z | ⟨z, w⟩
    · cases z
    · rw [w]; exact R.bw i j c z
  sep := fun i j s t c c' p e1 e2 h1 h2 h3 h4 => by
    rcases h i _ e1 with z | ⟨z, w⟩
    · subst z; cases h1
    · rcases h j _ e2 with z2 | ⟨z2, w2⟩
      · subst z2; cases h2
      · rw [w] at h3
        rw [w2] at h4
        exact R.sep i j s t c c' p z z2 h1 h2 h3 h4
  fr0 := R.fr0
  new := R.new
  keep := R.keep
  dom := R.dom
  bd := R.bd
  lb := R.lb
theorem RDen.slots {σ' : L2.St} {ρ' : SL} {r : Rv} (a : RDen K G σ ρ H F v r) (h : ∀ (i : Nat) (s : Sl), ρ'[i]? = some s → s = .un ∨ (ρ[i]? = some s ∧ σ'[i]? = σ[i]?)) : RDen K G σ' ρ' H F v r := by
  cases r with
  | v d => exact a
  | fr c =>
    obtain ⟨p, e, a1, a2, a3, n⟩ := a
    refine ⟨p, e, a1, a2, a3, fun i s c' e1 e2 e3 => ?_⟩
    rcases h i _ e1 with z | ⟨z, w⟩
    · subst z; cases e2
    · rw [w] at e3
      exact n i s c' z e2 e3
/-- a held thing is changed -/
theorem Rep.writeFr (R : Rep K G σ H F ρ) {o : HO} {c' : Cn} (h : RDen K G σ ρ H F (.ref p) (.fr c)) (hn : Has K F (upd H p o) p c') :
    Rep K G σ (upd H p o) F ρ ∧ RDen K G σ ρ (upd H p o) F (.ref p) (.fr c') := by
  obtain ⟨p', e, a1, a2, a3, n⟩ := h
  cases e
  have nG : ∀ a o1, G.H0 a = some o1 → ¬ G.L a → a ≠ p := fun a o1 e1 nl z => by
    subst z
    rcases a3 with z | z
    · rw [e1] at z; cases z
    · exact nl z
  refine ⟨⟨R.len, fun a x e => ?_, R.sh, fun i c e => ?_, fun i j c e => ?_, R.sep, R.fr0, R.new, fun a x e nl nb => ?_, fun a x e => ?_, R.bd, R.lb⟩, p, rfl, hn, a2, a3, n⟩
  · rw [upd_ne (fun z => by subst z; rw [a2] at e; cases e)]; exact R.ext a x e
  · obtain ⟨q', a, b, e2, e3⟩ := R.ow i c e
    exact ⟨q', a, b.at (upd_ne fun z => n i _ c e rfl (by rw [← z]; exact a)), e2, e3⟩
  · obtain ⟨q', a, b, e2, e3⟩ := R.bw i j c e
    exact ⟨q', a, b.at (upd_ne fun z => n i _ c e rfl (by rw [← z]; exact a)), e2, e3⟩
  · rw [upd_ne (nG a x e nl)]; exact R.keep a x e nl nb
  · obtain ⟨o', kk⟩ := R.dom a x e
    by_cases z : a = p
    · subst z; exact ⟨_, upd_same⟩
    · exact ⟨o', by rw [upd_ne z]; exact kk⟩
inductive RDs (K : PySem.W.Frag) (G : Cd) (σ : L2.St) (ρ : SL) (H F : Hp) : List V → List Rv → Prop
  | nil : RDs K G σ ρ H F [] []
  | cons {v : V} {vs : List V} {r : Rv} {rs : List Rv} : RDen K G σ ρ H F v r → RDs K G σ ρ H F vs rs →
      (∀ (p : Addr) (c : Cn), r = .fr c → v = .ref p → ∀ (j : Nat) (c' : Cn), rs[j]? = some (.fr c') → vs[j]? ≠ some (.ref p)) → RDs K G σ ρ H F (v :: vs) (r :: rs)
theorem RDs.back {H' F' : Hp} {ρ' : SL} {vs : List V} {rs : List Rv} (R : Rep K G σ H F ρ) (h : RDs K (G.now σ ρ H F) σ ρ' H' F' vs rs) : RDs K G σ ρ' H' F' vs rs := by
  induction h with
  | nil => exact .nil
  | cons a _ c ih => exact .cons (RDen.back R a) ih c
theorem RDs.frAt {vs : List V} {rs : List Rv} (h : RDs K G σ ρ H F vs rs) : ∀ (j : Nat) (c : Cn), rs[j]? = some (.fr c) → ∃ p, vs[j]? = some (.ref p) ∧ (G.H0 p = none ∨ G.L p) := by
  induction h with
  | nil => intro j c e; simp at e
  | cons a _ _ ih =>
    intro j c e
    cases j with
    | zero =>
      have e' := Option.some.inj e
      subst e'
      obtain ⟨p, e, _, _, z, _⟩ := a
      exact ⟨p, by rw [e]; rfl, z⟩
    | succ j => exact ih j c e
theorem RDs.apart {H' F' : Hp} {ρ' : SL} {r : Rv} {vs : List V} {rs : List Rv} (R : Rep K G σ H F ρ) (a : RDen K G σ ρ H F v r) (h : RDs K (G.now σ ρ H F) σ ρ' H' F' vs rs) :
    ∀ (p : Addr) (c : Cn), r = .fr c → v = .ref p → ∀ (j : Nat) (c' : Cn), rs[j]? = some (.fr c') → vs[j]? ≠ some (.ref p) := by
  rintro p c rfl rfl j c' e z
  obtain ⟨q, e1, e2⟩ := h.frAt j c' e
  rw [z] at e1; cases e1
  obtain ⟨p', e3, hh, _, _, n⟩ := a
  cases e3
  rcases e2 with e2 | ⟨i, c2, e4, e5⟩
  · obtain ⟨o, ho⟩ := hh.ex
    have e2' : H p = none := e2
    rw [ho] at e2'; cases e2'
  · exact n i _ c2 e4 rfl e5
def put (ρ : SL) (i : Nat) : Rv → SL
  | .v d => ρ.set i (.sh d)
  | .fr c => ρ.set i (.ow c)
theorem Rep.put (R : Rep K G σ H F ρ) {r : Rv} (h : RDen K G σ ρ H F v r) (i : Nat) : Rep K G (σ.set i (some v)) H F (put ρ i r) := by
  cases r with
  | v d => exact R.setSh h i
  | fr c => exact R.setOw h i
theorem put_owned {r : Rv} {s : Sl} {c : Cn} {j : Nat} (hl : ρ.length = σ.length) (h : (DL.put ρ i r)[j]? = some s) (hs : s.cn = some c) (hp : (σ.set i (some v))[j]? = some (some (.ref p))) :
    (j = i ∧ v = .ref p ∧ ∃ c', r = .fr c') ∨ (ρ[j]? = some s ∧ σ[j]? = some (some (.ref p))) := by
  cases r with
  | v d =>
    rcases set_get h with ⟨rfl, q⟩ | ⟨ne, q⟩
    · subst q; cases hs
    · rw [List.getElem?_set_ne (Ne.symm ne)] at hp
      exact .inr ⟨q, hp⟩
  | fr c' =>
    rcases set_get h with ⟨rfl, q⟩ | ⟨ne, q⟩
    · rw [set_at hl h] at hp
      exact .inl ⟨rfl, Option.some.inj (Option.some.inj hp), c', rfl⟩
    · rw [List.getElem?_set_ne (Ne.symm ne)] at hp
      exact .inr ⟨q, hp⟩
theorem RDs.put {r : Rv} {vs : List V} {rs : List Rv} (hl : ρ.length = σ.length) (i : Nat) (h : RDs K G σ ρ H F vs rs)
    (hc : ∀ (p : Addr) (c : Cn), r = .fr c → v = .ref p → ∀ (j : Nat) (c' : Cn), rs[j]? = some (.fr c') → vs[j]? ≠ some (.ref p)) : RDs K G (σ.set i (some v)) (DL.put ρ i r) H F vs rs := by
  induction h with
  | nil => exact .nil
  | @cons v' vs' r' rs' a b c ih =>
    refine .cons ?_ (ih fun p c1 e1 e2 j c' e => hc p c1 e1 e2 (j + 1) c' e) c
    cases r' with
    | v d => exact a
    | fr c1 =>
      obtain ⟨p, e, a1, a2, a3, n⟩ := a
      refine ⟨p, e, a1, a2, a3, fun k s c2 e1 e2 e3 => ?_⟩
      rcases put_owned hl e1 e2 e3 with ⟨_, e4, c3, e5⟩ | ⟨e4, e5⟩
      · exact hc p c3 e5 e4 0 c1 rfl (by rw [e]; rfl)
      · exact n k s c2 e4 e2 e5
theorem put_length (ρ : SL) (i : Nat) (r : Rv) : (DL.put ρ i r).length = ρ.length := by
  cases r <;> exact List.length_set ..
theorem RDs.junk {o : HO} {vs : List V} {rs : List Rv} (h : RDs K G σ ρ H F vs rs) (hp : H p = none) : RDs K G σ ρ (upd H p o) F vs rs := by
  induction h with
  | nil => exact .nil
  | @cons v' vs' r' rs' a b c ih =>
    refine .cons ?_ ih c
    cases r' with
    | v d => exact a
    | fr c1 =>
      obtain ⟨q, e, a1, a2, a3, n⟩ := a
      obtain ⟨o', ho⟩ := a1.ex
      exact ⟨q, e, a1.at (upd_ne fun z => by subst z; rw [hp] at ho; cases ho), a2, a3, n⟩
theorem RDs.length {vs : List V} {rs : List Rv} (h : RDs K G σ ρ H F vs rs) : vs.length = rs.length := by
  induction h with
  | nil => rfl
  | cons _ _ _ ih => rw [List.length_cons, List.length_cons, ih]
end
end DL
namespace DL
open PySem L2

/-! ### what is looked at -/
/-- a value looked at: its parts stay -/
def Pk (K : PySem.W.Frag) (F H : Hp) (v : V) (d : D) : Prop := Den K F v d ∨ ∃ p c, v = .ref p ∧ d = c.dat ∧ Has K F H p c
inductive Op where
  | now (d : D)
  | at (i : Nat)
def Op.get (ρ : SL) : Op → Option D
  | .now d => some d
  | .at i => match ρ[i]? with
    | some s => s.dat
    | none => none
def OpDen (K : PySem.W.Frag) (F : Hp) (σ : L2.St) (v : V) : Op → Prop
  | .now d => Den K F v d
  | .at i => σ[i]? = some (some v)
section
variable {K : PySem.W.Frag} {G : Cd} {σ : L2.St} {H F F' H' : Hp} {ρ : SL} {v : V} {d : D} {o : Op}
theorem OpDen.mono (h : OpDen K F σ v o) (e : Same F F') : OpDen K F' σ v o := by
  cases o with
  | now d => exact Den.mono e h
  | «at» i => exact h
theorem OpDen.pk (h : OpDen K F σ v o) (R : Rep K G σ H F ρ) (hd : o.get ρ = some d) : Pk K F H v d := by
  cases o with
  | now d' =>
    cases hd
    exact .inl h
  | «at» i =>
    have hv : σ[i]? = some (some v) := h
    cases q : ρ[i]? with
    | none => simp only [Op.get, q] at hd; cases hd
    | some s =>
      simp only [Op.get, q] at hd
      cases s with
      | un => cases hd
      | sh d' =>
        cases hd
        obtain ⟨w, a, b⟩ := R.sh i _ q
        rw [hv] at a; cases a
        exact .inl b
      | ow c =>
        cases hd
        obtain ⟨p, a, b, _⟩ := R.ow i _ q
        rw [hv] at a; cases a
        exact .inr ⟨p, c, rfl, rfl, b⟩
      | bw j c =>
        cases hd
        obtain ⟨p, a, b, _⟩ := R.bw i j _ q
        rw [hv] at a; cases a
        exact .inr ⟨p, c, rfl, rfl, b⟩
theorem Pk.int {i : Int} (h : Pk K F H v (.int i)) : v = .int i := by
  rcases h with h | ⟨p, c, rfl, e, _⟩
  · cases h; rfl
  · cases c <;> cases e
theorem Pk.bl {i : Bool} (h : Pk K F H v (.bl i)) : v = .bl i := by
  rcases h with h | ⟨p, c, rfl, e, _⟩
  · cases h; rfl
  · cases c <;> cases e
theorem Pk.str {i : Str} (h : Pk K F H v (.str i)) : v = .str i := by
  rcases h with h | ⟨p, c, rfl, e, _⟩
  · cases h; rfl
  · cases c <;> cases e
theorem Pk.strOk {i : Str} (h : Pk K F H v (.str i)) : PyData.strOk i = true := by
  rcases h with h | ⟨p, c, rfl, e, _⟩
  · cases h with | str _ a => exact a
  · cases c <;> cases e
theorem Pk.non (h : Pk K F H v .non) : v = .non := by
  rcases h with h | ⟨p, c, rfl, e, _⟩
  · cases h; rfl
  · cases c <;> cases e
theorem Pk.lst {ds : List D} (e : Same F H) (h : Pk K F H v (.lst ds)) : ∃ p xs, v = .ref p ∧ H p = some (.lst xs) ∧ DenL K F xs ds := by
  rcases h with h | ⟨p, c, rfl, e2, h⟩
  · cases h with
    | lst a b => exact ⟨_, _, rfl, e _ _ a, b⟩
  · cases c with
    | l ds' => cases e2; obtain ⟨xs, a, b⟩ := h; exact ⟨p, xs, rfl, a, b⟩
    | d _ => cases e2
    | o _ _ => cases e2
theorem Pk.tup {ds : List D} (h : Pk K F H v (.tup ds)) : ∃ p xs, v = .ref p ∧ F p = some (.tup xs) ∧ DenL K F xs ds := by
  rcases h with h | ⟨p, c, rfl, e2, h⟩
  · cases h with
    | tup a b => exact ⟨_, _, rfl, a, b⟩
  · cases c <;> cases e2
theorem Pk.scr {ns : List Int} (e : Same F H) (h : Pk K F H v (.scr ns)) : ∃ p, v = .ref p ∧ SqL K H p (ns.map V.int) := by
  rcases h with h | ⟨p, c, rfl, e2, h⟩
  · cases h with
    | scr a => exact ⟨_, rfl, e.seq a⟩
  · cases c <;> cases e2
theorem Pk.dct {ds : List (Key × D)} (e : Same F H) (h : Pk K F H v (.dct ds)) : ∃ p ks, v = .ref p ∧ H p = some (.dK ks) ∧ DenK K F ks ds := by
  rcases h with h | ⟨p, c, rfl, e2, h⟩
  · cases h with
    | dct a b => exact ⟨_, _, rfl, e _ _ a, b⟩
  · cases c with
    | d ds' => cases e2; obtain ⟨xs, a, b⟩ := h; exact ⟨p, xs, rfl, a, b⟩
    | l _ => cases e2
    | o _ _ => cases e2
theorem Pk.obj {C : Addr} {fs : List (Str × D)} (e : Same F H) (h : Pk K F H v (.obj C fs)) : ∃ p dx gs, v = .ref p ∧ H p = some (.ins C dx gs) ∧ DenO K F gs fs := by
  rcases h with h | ⟨p, c, rfl, e2, h⟩
  · cases h with
    | obj a b => exact ⟨_, _, _, rfl, e _ _ a, b⟩
  · cases c with
    | o _ _ => cases e2; obtain ⟨dx, gs, a, b⟩ := h; exact ⟨p, dx, gs, rfl, a, b⟩
    | l _ => cases e2
    | d _ => cases e2
theorem Pk.den {H : Hp} (e : Same F H) (h : Pk K F H v d) : Den K H v d := by
  rcases h with h | ⟨p, c, rfl, rfl, h⟩
  · exact h.mono e
  · obtain ⟨o, ho⟩ := h.ex
    exact h.den e ho ho
end

/-! ### the judgements over data -/
abbrev TD := SL → (Rv → SL → Prop) → Prop
abbrev TQ := SL → (Op → SL → Prop) → Prop
abbrev TB := SL → (Bool → SL → Prop) → Prop
abbrev TAs := SL → (List Op → SL → Prop) → Prop
structure EndsD where
  nx : SL → Prop
  rt : Rv → SL → Prop
  bk : SL → Prop := fun _ => False
  ct : SL → Prop := fun _ => False
abbrev TSD := EndsD → SL → Prop
inductive OpDens (K : PySem.W.Frag) (F : Hp) (σ : L2.St) : List V → List Op → Prop
  | nil : OpDens K F σ [] []
  | cons {v : V} {vs : List V} {o : Op} {os : List Op} : OpDen K F σ v o → OpDens K F σ vs os → OpDens K F σ (v :: vs) (o :: os)
theorem OpDens.mono {K : PySem.W.Frag} {F F' : Hp} {σ : L2.St} {vs : List V} {os : List Op} (h : OpDens K F σ vs os) (e : Same F F') : OpDens K F' σ vs os := by
  induction h with
  | nil => exact .nil
  | cons a _ ih => exact .cons (a.mono e) ih

structure DE (X : Cx) (e : Expr) (te : TE) (t : TD) : Prop where
  pe : PE X e te
  sem : ∀ {G : Cd} {σ : L2.St} {H F : Hp} {ρ : SL} {Q : VK} {Qd : Rv → SL → Prop}, Rep X.K G σ H F ρ → t ρ Qd →
    (∀ r ρ' v H' F', Qd r ρ' → Same F F' → Rep X.K G σ H' F' ρ' → RDen X.K G σ ρ' H' F' v r → Q v H') → te σ H Q
structure DO (X : Cx) (e : Expr) (te : TE) (t : TQ) : Prop where
  pe : PE X e te
  sem : ∀ {G : Cd} {σ : L2.St} {H F : Hp} {ρ : SL} {Q : VK} {Qd : Op → SL → Prop}, Rep X.K G σ H F ρ → t ρ Qd →
    (∀ o ρ' v H' F', Qd o ρ' → Same F F' → Rep X.K G σ H' F' ρ' → OpDen X.K F' σ v o → Q v H') → te σ H Q
structure DT (X : Cx) (e : Expr) (te : TT) (t : TB) : Prop where
  pe : PT X e te
  sem : ∀ {G : Cd} {σ : L2.St} {H F : Hp} {ρ : SL} {Q : Bool → Hp → Prop} {Qd : Bool → SL → Prop}, Rep X.K G σ H F ρ → t ρ Qd →
    (∀ b ρ' H' F', Qd b ρ' → Same F F' → Rep X.K G σ H' F' ρ' → Q b H') → te σ H Q
/-- a test within and, or -/
structure DW (X : Cx) (e : Expr) (te : TT) (t : TB) : Prop where
  pe : PW X e te
  sem : ∀ {G : Cd} {σ : L2.St} {H F : Hp} {ρ : SL} {Q : Bool → Hp → Prop} {Qd : Bool → SL → Prop}, Rep X.K G σ H F ρ → t ρ Qd →
    (∀ b ρ' H' F', Qd b ρ' → Same F F' → Rep X.K G σ H' F' ρ' → Q b H') → te σ H Q
structure DA (X : Cx) (es : List Expr) (ta : TA) (t : TAs) : Prop where
  pe : PA X es ta
  sem : ∀ {G : Cd} {σ : L2.St} {H F : Hp} {ρ : SL} {Q : List V → Hp → Prop} {Qd : List Op → SL → Prop}, Rep X.K G σ H F ρ → t ρ Qd →
    (∀ os ρ' vs H' F', Qd os ρ' → Same F F' → Rep X.K G σ H' F' ρ' → OpDens X.K F' σ vs os → Q vs H') → ta σ H Q
/-- what is wanted behind a statement, told over data -/
structure Link (K : PySem.W.Frag) (G : Cd) (D : Ends) (E : EndsD) : Prop where
  nx : ∀ σ H F ρ, E.nx ρ → Rep K G σ H F ρ → D.nx σ H
  rt : ∀ σ H F ρ r v, E.rt r ρ → Rep K G σ H F ρ → RDen K G σ ρ H F v r → D.rt v H
  bk : ∀ σ H F ρ, E.bk ρ → Rep K G σ H F ρ → D.bk σ H
  ct : ∀ σ H F ρ, E.ct ρ → Rep K G σ H F ρ → D.ct σ H
structure DS (X : Cx) (st : Stmt) (ts : TS) (t : TSD) : Prop where
  pe : PS X st ts
  sem : ∀ {G : Cd} {σ : L2.St} {H F : Hp} {ρ : SL} {D : Ends} {E : EndsD}, Rep X.K G σ H F ρ → t E ρ → Link X.K G D E → ts D σ H
structure DSs (X : Cx) (st : List Stmt) (ts : TS) (t : TSD) : Prop where
  pe : PSs X st ts
  sem : ∀ {G : Cd} {σ : L2.St} {H F : Hp} {ρ : SL} {D : Ends} {E : EndsD}, Rep X.K G σ H F ρ → t E ρ → Link X.K G D E → ts D σ H

section
variable {X : Cx}
/-! ### constants, names -/
def dC (d : D) : TD := fun ρ Q => Q (.v d) ρ
theorem de_int {i j pos} : DE X (.Constant (.int i) j pos) (tC (.int i)) (dC (.int i)) := ⟨pe_int, fun R h k => k _ _ _ _ _ h (Same.refl _) R (.int i)⟩
theorem de_bl {i j pos} : DE X (.Constant (.bool i) j pos) (tC (.bl i)) (dC (.bl i)) := ⟨pe_bl, fun R h k => k _ _ _ _ _ h (Same.refl _) R (.bl i)⟩
theorem de_non {j pos} : DE X (.Constant .none j pos) (tC .non) (dC .non) := ⟨pe_non, fun R h k => k _ _ _ _ _ h (Same.refl _) R .non⟩
theorem de_str {i j pos} (hi : PyData.strOk i = true := by decide +kernel) : DE X (.Constant (.str i) j pos) (tC (.str i)) (dC (.str i)) := ⟨pe_str, fun R h k => k _ _ _ _ _ h (Same.refl _) R (.str i hi)⟩
def dVar (i : Nat) : TD := fun ρ Q => match ρ[i]? with
  | some (.sh d) => Q (.v d) ρ
  | some (.ow c) => Q (.v c.dat) (ρ.set i (.sh c.dat))
  | _ => False
def dTake (i : Nat) : TD := fun ρ Q => match ρ[i]? with
  | some (.sh d) => Q (.v d) ρ
  | some (.ow c) => Q (.fr c) (ρ.set i .un)
  | _ => False
def qVar (i : Nat) : TQ := fun ρ Q => match (Op.at i).get ρ with
  | some _ => Q (.at i) ρ
  | none => False
theorem de_var {i : Nat} {x : Str} {pos : Pos} (h : PE X (.Name x pos) (tVar i)) : DE X (.Name x pos) (tVar i) (dVar i) := by
  refine ⟨h, fun {G σ H F ρ Q Qd} R h k => ?_⟩
  unfold dVar at h
  cases q : ρ[i]? with
  | none => rw [q] at h; exact h.elim
  | some s =>
    rw [q] at h
    cases s with
    | un => exact h.elim
    | sh d =>
      obtain ⟨v, a, b⟩ := R.sh i d q
      exact ⟨v, a, k _ _ _ _ _ h (Same.refl _) R b⟩
    | ow c =>
      obtain ⟨F', v, s1, a, b, R1⟩ := R.freeze q
      exact ⟨v, a, k _ _ _ _ _ h s1 R1 b⟩
    | bw j c => exact h.elim
theorem de_take {i : Nat} {x : Str} {pos : Pos} (h : PE X (.Name x pos) (tVar i)) : DE X (.Name x pos) (tVar i) (dTake i) := by
  refine ⟨h, fun {G σ H F ρ Q Qd} R h k => ?_⟩
  unfold dTake at h
  cases q : ρ[i]? with
  | none => rw [q] at h; exact h.elim
  | some s =>
    rw [q] at h
    cases s with
    | un => exact h.elim
    | sh d =>
      obtain ⟨v, a, b⟩ := R.sh i d q
      exact ⟨v, a, k _ _ _ _ _ h (Same.refl _) R b⟩
    | ow c =>
      obtain ⟨p, a, _⟩ := R.ow i c q
      obtain ⟨R1, hd⟩ := R.take q a
      exact ⟨_, a, k _ _ _ _ _ h (Same.refl _) R1 hd⟩
    | bw j c => exact h.elim
theorem do_var {i : Nat} {x : Str} {pos : Pos} (h : PE X (.Name x pos) (tVar i)) : DO X (.Name x pos) (tVar i) (qVar i) := by
  refine ⟨h, fun {G σ H F ρ Q Qd} R h k => ?_⟩
  cases q : ρ[i]? with
  | none => simp only [qVar, Op.get, q] at h
  | some s =>
    simp only [qVar, Op.get, q] at h
    cases s with
    | un => exact h.elim
    | sh d =>
      obtain ⟨v, a, b⟩ := R.sh i d q
      exact ⟨v, a, k _ _ _ _ _ h (Same.refl _) R a⟩
    | ow c =>
      obtain ⟨v, a, b⟩ := R.ow i c q
      exact ⟨_, a, k _ _ _ _ _ h (Same.refl _) R a⟩
    | bw j c =>
      obtain ⟨v, a, b⟩ := R.bw i j c q
      exact ⟨_, a, k _ _ _ _ _ h (Same.refl _) R a⟩
/-- an expression as an operand -/
def qE (t : TD) : TQ := fun ρ Q => t ρ fun r ρ' => Q (.now r.dat) ρ'
theorem do_e {e : Expr} {te : TE} {t : TD} (h : DE X e te t) : DO X e te (qE t) :=
  ⟨h.pe, fun R q k => h.sem R q fun r ρ' v H' F' qd s1 R1 rd => by
    obtain ⟨F2, s2, R2, d2⟩ := R1.share rd
    exact k _ _ _ _ _ qd (s1.trans s2) R2 d2⟩
/-! ### arguments -/
def aNil : TAs := fun ρ Q => Q [] ρ
def aCons (t : TQ) (u : TAs) : TAs := fun ρ Q => t ρ fun o ρ1 => u ρ1 fun os ρ2 => Q (o :: os) ρ2
theorem da_nil : DA X [] tNil aNil := ⟨pa_nil, fun R h k => k _ _ _ _ _ h (Same.refl _) R .nil⟩
theorem da_cons {e : Expr} {es : List Expr} {te : TE} {ta : TA} {t : TQ} {u : TAs} (h : DO X e te t) (r : DA X es ta u) (hs : starEach (e :: es) X.env = (false, eval e X.env) :: starEach es X.env := by rfl) :
    DA X (e :: es) (tCons te ta) (aCons t u) :=
  ⟨pa_cons h.pe r.pe hs, fun R q k => h.sem R q fun o ρ1 v H1 F1 q1 s1 R1 d1 => r.sem R1 q1 fun os ρ2 vs H2 F2 q2 s2 R2 d2 =>
    k _ _ _ _ _ q2 (s1.trans s2) R2 (.cons (d1.mono s2) d2)⟩
/-- all arguments as data, at the end -/
def gets (ρ : SL) : List Op → Option (List D)
  | [] => some []
  | o :: os => match o.get ρ, gets ρ os with
    | some d, some ds => some (d :: ds)
    | _, _ => none
inductive Pks (K : PySem.W.Frag) (F H : Hp) : List V → List D → Prop
  | nil : Pks K F H [] []
  | cons {v : V} {vs : List V} {d : D} {ds : List D} : Pk K F H v d → Pks K F H vs ds → Pks K F H (v :: vs) (d :: ds)
theorem OpDens.pks {K : PySem.W.Frag} {G : Cd} {σ : L2.St} {H F : Hp} {ρ : SL} (R : Rep K G σ H F ρ) : ∀ {vs : List V} {os : List Op} {ds : List D}, OpDens K F σ vs os → gets ρ os = some ds → Pks K F H vs ds
  | _, _, _, .nil, e => by cases e; exact .nil
  | _, _, ds, .cons (o := o) (os := os) a b, e => by
    unfold gets at e
    cases q : o.get ρ with
    | none => rw [q] at e; cases e
    | some d =>
      rw [q] at e
      cases q2 : gets ρ os with
      | none => rw [q2] at e; cases e
      | some ds' =>
        rw [q2] at e
        cases e
        exact .cons (a.pk R q) (b.pks R q2)
/-! ### operations on values -/
def SemOp (K : PySem.W.Frag) (r : R2) (g : D → D → (Rv → Prop) → Prop) : Prop :=
  ∀ {G : Cd} {σ : L2.St} {H F : Hp} {ρ : SL} {x y : V} {a b : D} {Q : VK} {Qd : Rv → Prop}, Rep K G σ H F ρ → Pk K F H x a → Pk K F H y b → g a b Qd →
    (∀ rv z H' F', Qd rv → Same F F' → Rep K G σ H' F' ρ → RDen K G σ ρ H' F' z rv → Q z H') → r x y H Q
def SemUn (K : PySem.W.Frag) (r : V → Hp → VK → Prop) (g : D → (Rv → Prop) → Prop) : Prop :=
  ∀ {G : Cd} {σ : L2.St} {H F : Hp} {ρ : SL} {x : V} {a : D} {Q : VK} {Qd : Rv → Prop}, Rep K G σ H F ρ → Pk K F H x a → g a Qd →
    (∀ rv z H' F', Qd rv → Same F F' → Rep K G σ H' F' ρ → RDen K G σ ρ H' F' z rv → Q z H') → r x H Q
def SemCall (K : PySem.W.Frag) (r : List V → Hp → VK → Prop) (g : List D → (Rv → Prop) → Prop) : Prop :=
  ∀ {G : Cd} {σ : L2.St} {H F : Hp} {ρ : SL} {xs : List V} {as : List D} {Q : VK} {Qd : Rv → Prop}, Rep K G σ H F ρ → Pks K F H xs as → g as Qd →
    (∀ rv z H' F', Qd rv → Same F F' → Rep K G σ H' F' ρ → RDen K G σ ρ H' F' z rv → Q z H') → r xs H Q
def dOp (g : D → D → (Rv → Prop) → Prop) (ta tb : TQ) : TD := fun ρ Q => ta ρ fun oa ρ1 => tb ρ1 fun ob ρ2 => match oa.get ρ2, ob.get ρ2 with
  | some a, some b => g a b fun r => Q r ρ2
  | _, _ => False
def dUn (g : D → (Rv → Prop) → Prop) (ta : TQ) : TD := fun ρ Q => ta ρ fun oa ρ1 => match oa.get ρ1 with
  | some a => g a fun r => Q r ρ1
  | _ => False
def dCallB (g : List D → (Rv → Prop) → Prop) (ta : TAs) : TD := fun ρ Q => ta ρ fun os ρ1 => match gets ρ1 os with
  | some as => g as fun r => Q r ρ1
  | _ => False
theorem sem_op {r : R2} {g : D → D → (Rv → Prop) → Prop} {ta tb : TE} {a b : Expr} {da db : TQ} (hg : SemOp X.K r g) (ha : DO X a ta da) (hb : DO X b tb db)
    {G : Cd} {σ : L2.St} {H F : Hp} {ρ : SL} {Q : VK} {Qd : Rv → SL → Prop} (R : Rep X.K G σ H F ρ) (q : dOp g da db ρ Qd)
    (k : ∀ r ρ' v H' F', Qd r ρ' → Same F F' → Rep X.K G σ H' F' ρ' → RDen X.K G σ ρ' H' F' v r → Q v H') : tOp r ta tb σ H Q := by
  refine ha.sem R q fun oa ρ1 v H1 F1 q1 s1 R1 d1 => ?_
  refine hb.sem R1 q1 fun ob ρ2 u H2 F2 q2 s2 R2 d2 => ?_
  cases ea : oa.get ρ2 with
  | none => rw [ea] at q2; exact q2.elim
  | some x =>
    cases eb : ob.get ρ2 with
    | none => rw [ea, eb] at q2; exact q2.elim
    | some y =>
      rw [ea, eb] at q2
      exact hg R2 ((d1.mono s2).pk R2 ea) (d2.pk R2 eb) q2 fun rv z H' F' qd s3 R3 rd => k _ _ _ _ _ qd (s1.trans (s2.trans s3)) R3 rd
theorem de_op {op : Operator} {r : R2} {g : D → D → (Rv → Prop) → Prop} {ta tb : TE} {a b : Expr} {da db : TQ} {pos : Pos} (ho : OpR X (binaryOp op) r) (hg : SemOp X.K r g) (ha : DO X a ta da) (hb : DO X b tb db) :
    DE X (.BinOp a op b pos) (tOp r ta tb) (dOp g da db) := ⟨pe_op ho ha.pe hb.pe, fun R q k => sem_op hg ha hb R q k⟩
theorem de_cmp {op : CmpOp} {r : R2} {g : D → D → (Rv → Prop) → Prop} {ta tb : TE} {a b : Expr} {da db : TQ} {pos : Pos} (ho : OpR X (compareOp op) r) (hg : SemOp X.K r g) (ha : DO X a ta da) (hb : DO X b tb db)
    (hm : behindInMarks op b = false) : DE X (.Compare a [op] [b] pos) (tOp r ta tb) (dOp g da db) := ⟨pe_cmpR ho ha.pe hb.pe hm, fun R q k => sem_op hg ha hb R q k⟩
theorem de_un {op : UnaryOp} {r : V → Hp → VK → Prop} {g : D → (Rv → Prop) → Prop} {ta : TE} {a : Expr} {da : TQ} {pos : Pos} (ho : UnR X (unaryOp op) r) (hg : SemUn X.K r g) (ha : DO X a ta da) :
    DE X (.UnaryOp op a pos) (tUn r ta) (dUn g da) := by
  refine ⟨pe_un ho ha.pe, fun R q k => ?_⟩
  refine ha.sem R q fun oa ρ1 v H1 F1 q1 s1 R1 d1 => ?_
  cases ea : oa.get ρ1 with
  | none => rw [ea] at q1; exact q1.elim
  | some x =>
    rw [ea] at q1
    exact hg R1 (d1.pk R1 ea) q1 fun rv z H' F' qd s3 R3 rd => k _ _ _ _ _ qd (s1.trans s3) R3 rd
theorem sem_callB {r : List V → Hp → VK → Prop} {g : List D → (Rv → Prop) → Prop} {ta : TA} {es : List Expr} {da : TAs} (hg : SemCall X.K r g) (ha : DA X es ta da)
    {G : Cd} {σ : L2.St} {H F : Hp} {ρ : SL} {Q : VK} {Qd : Rv → SL → Prop} (R : Rep X.K G σ H F ρ) (q : dCallB g da ρ Qd)
    (k : ∀ r ρ' v H' F', Qd r ρ' → Same F F' → Rep X.K G σ H' F' ρ' → RDen X.K G σ ρ' H' F' v r → Q v H') : tCB r ta σ H Q := by
  refine ha.sem R q fun os ρ1 vs H1 F1 q1 s1 R1 d1 => ?_
  cases ea : gets ρ1 os with
  | none => rw [ea] at q1; exact q1.elim
  | some as =>
    rw [ea] at q1
    exact hg R1 (d1.pks R1 ea) q1 fun rv z H' F' qd s3 R3 rd => k _ _ _ _ _ qd (s1.trans s3) R3 rd
theorem de_callB {id : String} {x : Str} {p pos : Pos} {r : List V → Hp → VK → Prop} {g : List D → (Rv → Prop) → Prop} {ta : TA} {e : Expr} {es : List Expr} {da : TAs} (hc : CallR X (.builtin id) r) (hG : SemCall X.K r g)
    (hg : Gl X x) (hm : X.mg x = none) (hv : bootBuiltins x = some (.builtin id)) (ha : DA X (e :: es) ta da) (hn : x ≠ "__name__" := by decide) (hdb : (x == ("__debug__" : Str)) = false := by decide)
    (he : starEach (e :: es) X.env = (false, eval e X.env) :: starEach es X.env := by rfl) (hpl : (backTo pos (starEach es X.env)).any (·.1) = false := by rfl) : DE X (.Call (.Name x p) (e :: es) [] pos) (tCB r ta) (dCallB g da) :=
  ⟨pe_callB hc hg hm hv ha.pe hn hdb he hpl, fun R q k => sem_callB hG ha R q k⟩
theorem de_callTy {T : String} {x : Str} {p pos : Pos} {r : List V → Hp → VK → Prop} {g : List D → (Rv → Prop) → Prop} {ta : TA} {e : Expr} {es : List Expr} {da : TAs} (hc : CallR X (.type T) r) (hG : SemCall X.K r g)
    (hg : Gl X x) (hm : X.mg x = none) (hv : bootBuiltins x = some (.type T)) (ha : DA X (e :: es) ta da) (hn : x ≠ "__name__" := by decide) (hdb : (x == ("__debug__" : Str)) = false := by decide)
    (he : starEach (e :: es) X.env = (false, eval e X.env) :: starEach es X.env := by rfl) (hpl : (backTo pos (starEach es X.env)).any (·.1) = false := by rfl) : DE X (.Call (.Name x p) (e :: es) [] pos) (tCB r ta) (dCallB g da) :=
  ⟨pe_callTy hc hg hm hv ha.pe hn hdb he hpl, fun R q k => sem_callB hG ha R q k⟩
end
end DL
namespace DL
open PySem L2
section
variable {X : Cx}
/-! ### operators -/
theorem strOk_iff {x : Str} : PyData.strOk x = true ↔ ∀ c ∈ x.cps.toList, c < 0x110000 := by
  unfold PyData.strOk
  rw [← Array.all_toList, List.all_eq_true]
  constructor
  · intro h c hc
    exact of_decide_eq_true (h c hc)
  · intro h c hc
    exact decide_eq_true (h c hc)
theorem Str.append_list (x y : Str) : (x ++ y).cps.toList = x.cps.toList ++ y.cps.toList := by
  show (Str.append x y).cps.toList = _
  simp [Str.append]
theorem strOk_append {x y : Str} (h1 : PyData.strOk x = true) (h2 : PyData.strOk y = true) : PyData.strOk (x ++ y) = true := by
  rw [strOk_iff] at *
  intro c hc
  rw [Str.append_list] at hc
  rcases List.mem_append.mp hc with h | h
  · exact h1 c h
  · exact h2 c h
/-- text * int -/
def Str.reps (x : Str) (n : Nat) : Str := ⟨(List.replicate n x.cps.toList).flatten.toArray⟩
theorem strOk_reps {x : Str} (h1 : PyData.strOk x = true) (n : Nat) : PyData.strOk (Str.reps x n) = true := by
  rw [strOk_iff] at *
  intro c hc
  have hc' : c ∈ (List.replicate n x.cps.toList).flatten := by simpa [Str.reps] using hc
  obtain ⟨l, hl, hc2⟩ := List.mem_flatten.mp hc'
  rw [List.eq_of_mem_replicate hl] at hc2
  exact h1 c hc2
def gAdd : D → D → (Rv → Prop) → Prop
  | .int i, .int j => fun Q => Q (.v (.int (i + j)))
  | .str x, .str y => fun Q => x.length + y.length ≤ sizeLine ∧ Q (.v (.str (x ++ y)))
  | .lst xs, .lst ys => fun Q => xs.length + ys.length ≤ sizeLine ∧ Q (.fr (.l (xs ++ ys)))
  | _, _ => fun _ => False
def rAddA : R2 := fun x y H Q => rI0 (fun i j => .int (i + j)) x y H Q ∨ ((∃ i j, x = .str i ∧ y = .str j ∧ i.length + j.length ≤ sizeLine ∧ Q (.str (i ++ j)) H) ∨ rCat x y H Q)
theorem op_addA : OpR X (binaryOp .Add) rAddA := op_add.or (op_add_str.or op_cat)
theorem sem_addA : SemOp X.K rAddA gAdd := by
  intro G σ H F ρ x y a b Q Qd R ha hb h k
  unfold gAdd at h
  split at h
  · cases ha.int; cases hb.int
    exact .inl ⟨_, _, rfl, rfl, k _ _ _ _ h (Same.refl _) R (.int _)⟩
  · have o1 := ha.strOk
    have o2 := hb.strOk
    cases ha.str; cases hb.str
    exact .inr (.inl ⟨_, _, rfl, rfl, h.1, k _ _ _ _ h.2 (Same.refl _) R (.str _ (strOk_append o1 o2))⟩)
  · obtain ⟨p, xs, rfl, h1, d1⟩ := ha.lst R.ext
    obtain ⟨q, ys, rfl, h2, d2⟩ := hb.lst R.ext
    refine .inr (.inr ⟨p, q, xs, ys, rfl, rfl, h1, h2, by rw [d1.length, d2.length]; exact h.1, fun a ha => ?_⟩)
    obtain ⟨R1, rd⟩ := R.allocFr ha (c := .l _) ⟨_, upd_same, d1.append d2⟩
    exact k _ _ _ _ h.2 (Same.refl _) R1 rd
  · exact h.elim
def gSubI : D → D → (Rv → Prop) → Prop
  | .int i, .int j => fun Q => Q (.v (.int (i - j)))
  | _, _ => fun _ => False
theorem sem_sub : SemOp X.K (rI0 fun i j => .int (i - j)) gSubI := by
  intro G σ H F ρ x y a b Q Qd R ha hb h k
  unfold gSubI at h
  split at h
  · cases ha.int; cases hb.int
    exact ⟨_, _, rfl, rfl, k _ _ _ _ h (Same.refl _) R (.int _)⟩
  · exact h.elim
def rRepS : R2 := fun x y H Q => ∃ (z : Str) (n : Int), x = .str z ∧ y = .int n ∧ -(2 ^ 63) ≤ n ∧ z.length * n.toNat ≤ sizeLine ∧ n ≤ sizeLine ∧ Q (.str (Str.reps z n.toNat)) H
theorem foldl_arr (x : Array Nat) : ∀ (n : Nat) (acc : Array Nat), ((List.replicate n x).foldl (· ++ ·) acc) = acc ++ (List.replicate n x.toList).flatten.toArray
  | 0, acc => by simp
  | n + 1, acc => by
    rw [List.replicate_succ, List.foldl_cons, foldl_arr x n, List.replicate_succ, List.flatten_cons, ← List.append_toArray, ← Array.append_assoc]
theorem op_repS : OpR X (binaryOp .Mult) rRepS := by
  intro pins s σ H x y v u Q I rx ry h
  obtain ⟨z, n, rfl, rfl, hlo, hz, hn, q⟩ := h
  obtain ⟨t, rfl⟩ := rx
  obtain ⟨t', rfl⟩ := ry
  have hs : (sizeLine : Int) < 2 ^ 63 := by rw [sizeLine_eq]; decide
  refine PySem.P.mul_str (by rw [decide_eq_false (by omega), decide_eq_false (by omega)]; rfl) (fun h1 _ => ?_) (fun h1 _ => ?_) ?_
  · have hp : (0 : Int) < n := by omega
    intro hc
    have h3 : (z.length : Int) * n ≤ sizeLine := by
      have : (z.length : Int) * n = ((z.length * n.toNat : Nat) : Int) := by
        rw [Int.natCast_mul, Int.toNat_of_nonneg (by omega)]
      rw [this]; exact_mod_cast hz
    have h4 : (2 ^ 63 - 1) / n * n ≤ 2 ^ 63 - 1 := Int.ediv_mul_le _ (by omega)
    have h5 : ((2 ^ 63 - 1) / n + 1) * n ≤ (z.length : Int) * n := Int.mul_le_mul_of_nonneg_right (by omega) (by omega)
    have h6 : 2 ^ 63 - 1 < ((2 ^ 63 - 1) / n + 1) * n := Int.lt_ediv_add_one_mul_self _ hp
    omega
  · unfold Builtin.Str.tooLong
    exact decide_eq_false (by omega)
  · by_cases h1 : n < 1
    · rw [if_pos h1]
      have e : n.toNat = 0 := by omega
      rw [e] at q
      exact ⟨by decide, .str _, H, I.tok _, ⟨_, rfl⟩, q⟩
    · rw [if_neg h1]
      by_cases h2 : (n == 1 || z.length == 0) = true
      · rw [if_pos h2]
        have e : Str.reps z n.toNat = z := by
          unfold Str.reps
          rcases Bool.or_eq_true_iff.mp h2 with h3 | h3
          · have : n = 1 := by simpa using h3
            subst this
            simp
          · have h4 : z.cps.size = 0 := by simpa [Str.length] using h3
            have h5 : z.cps = #[] := Array.eq_empty_of_size_eq_zero h4
            obtain ⟨c⟩ := z
            have h6 : c = #[] := h5
            subst h6
            simp
        rw [e] at q
        exact ⟨.str _, H, I, ⟨_, rfl⟩, q⟩
      · rw [if_neg h2]
        refine ⟨?_, .str _, H, I.tok _, ⟨_, rfl⟩, ?_⟩
        · show Str.length _ ≤ sizeLine
          rw [foldl_arr]
          simp only [Str.length]
          simp
          rw [Nat.mul_comm]
          exact hz
        · rw [foldl_arr]
          simpa [Str.reps] using q
def gMul : D → D → (Rv → Prop) → Prop
  | .int i, .int j => fun Q => CMulW i j ∧ Q (.v (.int (i * j)))
  | .str x, .int j => fun Q => -(2 ^ 63) ≤ j ∧ x.length * j.toNat ≤ sizeLine ∧ j ≤ sizeLine ∧ Q (.v (.str (Str.reps x j.toNat)))
  | .lst xs, .int j => fun Q => -(2 ^ 63) ≤ j ∧ j < 2 ^ 63 ∧ xs.length * j.toNat ≤ sizeLine ∧ Q (.fr (.l (List.replicate j.toNat xs).flatten))
  | _, _ => fun _ => False
def rMulA : R2 := fun x y H Q => rI CMulW (fun i j => .int (i * j)) x y H Q ∨ (rRepS x y H Q ∨ rRep x y H Q)
theorem op_mulA : OpR X (binaryOp .Mult) rMulA := op_mulW.or (op_repS.or op_rep)
theorem sem_mulA : SemOp X.K rMulA gMul := by
  intro G σ H F ρ x y a b Q Qd R ha hb h k
  unfold gMul at h
  split at h
  · cases ha.int; cases hb.int
    exact .inl ⟨_, _, rfl, rfl, h.1, k _ _ _ _ h.2 (Same.refl _) R (.int _)⟩
  · have o1 := ha.strOk
    cases ha.str; cases hb.int
    exact .inr (.inl ⟨_, _, rfl, rfl, h.1, h.2.1, h.2.2.1, k _ _ _ _ h.2.2.2 (Same.refl _) R (.str _ (strOk_reps o1 _))⟩)
  · obtain ⟨p, xs, rfl, h1, d1⟩ := ha.lst R.ext
    cases hb.int
    refine .inr (.inr ⟨p, _, xs, rfl, rfl, h1, h.1, h.2.1, by rw [d1.length]; exact h.2.2.1, fun a ha => ?_⟩)
    obtain ⟨R1, rd⟩ := R.allocFr ha (c := .l _) ⟨_, upd_same, d1.repl _⟩
    exact k _ _ _ _ h.2.2.2 (Same.refl _) R1 rd
  · exact h.elim
def gDiv : D → D → (Rv → Prop) → Prop
  | .int i, .int j => fun Q => CDivW i j ∧ Q (.v (.int (i / j)))
  | _, _ => fun _ => False
theorem sem_div : SemOp X.K (rI CDivW fun i j => .int (i / j)) gDiv := by
  intro G σ H F ρ x y a b Q Qd R ha hb h k
  unfold gDiv at h
  split at h
  · cases ha.int; cases hb.int
    exact ⟨_, _, rfl, rfl, h.1, k _ _ _ _ h.2 (Same.refl _) R (.int _)⟩
  · exact h.elim
def gMod : D → D → (Rv → Prop) → Prop
  | .int i, .int j => fun Q => 0 < j ∧ Q (.v (.int (i % j)))
  | _, _ => fun _ => False
theorem sem_mod : SemOp X.K (rI (fun _ j => 0 < j) fun i j => .int (i % j)) gMod := by
  intro G σ H F ρ x y a b Q Qd R ha hb h k
  unfold gMod at h
  split at h
  · cases ha.int; cases hb.int
    exact ⟨_, _, rfl, rfl, h.1, k _ _ _ _ h.2 (Same.refl _) R (.int _)⟩
  · exact h.elim
def gPow : D → D → (Rv → Prop) → Prop
  | .int i, .int j => fun Q => CPow i j ∧ Q (.v (.int (i ^ j.toNat)))
  | _, _ => fun _ => False
theorem sem_pow : SemOp X.K (rI CPow fun i j => .int (i ^ j.toNat)) gPow := by
  intro G σ H F ρ x y a b Q Qd R ha hb h k
  unfold gPow at h
  split at h
  · cases ha.int; cases hb.int
    exact ⟨_, _, rfl, rfl, h.1, k _ _ _ _ h.2 (Same.refl _) R (.int _)⟩
  · exact h.elim
def gNeg : D → (Rv → Prop) → Prop
  | .int i => fun Q => Q (.v (.int (-i)))
  | _ => fun _ => False
theorem sem_neg : SemUn X.K (rU fun i => .int (-i)) gNeg := by
  intro G σ H F ρ x a Q Qd R ha h k
  unfold gNeg at h
  split at h
  · cases ha.int
    exact ⟨_, rfl, k _ _ _ _ h (Same.refl _) R (.int _)⟩
  · exact h.elim
/-! ### comparisons of ints -/
def gCmpI (p : Int → Int → Bool) : D → D → (Rv → Prop) → Prop
  | .int i, .int j => fun Q => Q (.v (.bl (p i j)))
  | _, _ => fun _ => False
theorem sem_cmpI {p : Int → Int → Bool} : SemOp X.K (rI0 fun i j => .bl (p i j)) (gCmpI p) := by
  intro G σ H F ρ x y a b Q Qd R ha hb h k
  unfold gCmpI at h
  split at h
  · cases ha.int; cases hb.int
    exact ⟨_, _, rfl, rfl, k _ _ _ _ h (Same.refl _) R (.bl _)⟩
  · exact h.elim
end
/-! ### equality -/
mutual
/-- plain data, of nesting at most n -/
def D.fit : Nat → D → Bool
  | _, .non => true
  | _, .bl _ => true
  | _, .int _ => true
  | _, .str _ => true
  | 0, .lst _ => false
  | 0, .tup _ => false
  | n + 1, .lst l => D.fits n l
  | n + 1, .tup l => D.fits n l
  | _, .dct _ => false
  | _, .obj _ _ => false
  | _, .scr _ => false
  | _, .rep _ => false
def D.fits : Nat → List D → Bool
  | _, [] => true
  | n, d :: r => D.fit n d && D.fits n r
end
theorem pys_map : ∀ l : List D, D.pys l = l.map D.py
  | [] => by rw [D.pys]; rfl
  | d :: r => by rw [D.pys, pys_map r]; rfl
theorem fits_all {n : Nat} : ∀ l : List D, D.fits n l = l.all (D.fit n)
  | [] => by simp [D.fits]
  | d :: r => by rw [D.fits, fits_all r]; rfl
section
variable {K : PySem.W.Frag} {H : Hp}
mutual
theorem fit_lay : ∀ (n : Nat) (d : D) (v : V), Den K H v d → D.fit n d = true → d.py.canLay0 = true ∧ d.py.depth ≤ n
  | n, .non, _, _, _ => by simp [D.py, PyData.canLay0, PyData.depth]
  | n, .bl _, _, _, _ => by simp [D.py, PyData.canLay0, PyData.depth]
  | n, .int _, _, _, _ => by simp [D.py, PyData.canLay0, PyData.depth]
  | n, .str x, _, hd, h => by
    have h' : PyData.strOk x = true := by cases hd with | str _ a => exact a
    simp [D.py, PyData.canLay0, PyData.depth, h']
  | 0, .lst _, _, _, h => by simp [D.fit] at h
  | 0, .tup _, _, _, h => by simp [D.fit] at h
  | n + 1, .lst l, _, hd, h => by
    rw [D.fit] at h
    cases hd with
    | lst _ b =>
      obtain ⟨h1, h2⟩ := fits_lay n l _ b h
      rw [D.py, PyData.canLay0, PyData.depth]
      exact ⟨h1, by omega⟩
  | n + 1, .tup l, _, hd, h => by
    rw [D.fit] at h
    cases hd with
    | tup _ b =>
      obtain ⟨h1, h2⟩ := fits_lay n l _ b h
      rw [D.py, PyData.canLay0, PyData.depth]
      exact ⟨h1, by omega⟩
  | n, .dct _, _, _, h => by simp [D.fit] at h
  | n, .obj _ _, _, _, h => by simp [D.fit] at h
  | n, .scr _, _, _, h => by simp [D.fit] at h
  | n, .rep _, _, _, h => by simp [D.fit] at h
theorem fits_lay : ∀ (n : Nat) (l : List D) (vs : List V), DenL K H vs l → D.fits n l = true → PyData.canLayAll0 (D.pys l) = true ∧ PyData.depthAll (D.pys l) ≤ n
  | n, [], _, _, _ => by simp [D.pys, PyData.canLayAll0, PyData.depthAll]
  | n, d :: r, _, hd, h => by
    rw [D.fits, Bool.and_eq_true] at h
    cases hd with
    | cons a b =>
      obtain ⟨h1, h2⟩ := fit_lay n d _ a h.1
      obtain ⟨h3, h4⟩ := fits_lay n r _ b h.2
      rw [D.pys, PyData.canLayAll0, PyData.depthAll, h1, h3]
      exact ⟨rfl, by omega⟩
end
theorem shaped_of {d : D} {v : V} (hd : Den K H v d) (h : D.fit 60 d = true) : SeqAt.shaped d.py = true := by
  obtain ⟨h1, h2⟩ := fit_lay 60 d v hd h
  unfold SeqAt.shaped
  rw [h1, decide_eq_true (by omega)]
  rfl
end
section
variable {K : PySem.W.Frag} {H : Hp}
mutual
theorem Den.dp : ∀ {n : Nat} {d : D} {v : V}, Den K H v d → D.fit n d = true → Dp K H v d.py
  | _, .non, _, h, _ => by cases h; rw [D.py]; exact .non
  | _, .bl b, _, h, _ => by cases h; rw [D.py]; exact .bl _
  | _, .int i, _, h, _ => by cases h; rw [D.py]; exact .int _
  | _, .str x, _, h, _ => by cases h; rw [D.py]; exact .str _
  | 0, .lst ds, _, h, e => by simp [D.fit] at e
  | 0, .tup ds, _, h, e => by simp [D.fit] at e
  | n + 1, .lst ds, _, h, e => by
    rw [D.fit] at e
    cases h with
    | lst a b => rw [D.py]; exact .lst (.inl (.inl a)) (DenL.dp b e)
  | n + 1, .tup ds, _, h, e => by
    rw [D.fit] at e
    cases h with
    | tup a b => rw [D.py]; exact .tup (.inl (.inl a)) (DenL.dp b e)
  | _, .dct ds, _, h, e => by simp [D.fit] at e
  | _, .obj C fs, _, h, e => by simp [D.fit] at e
  | _, .scr ns, _, h, e => by simp [D.fit] at e
  | _, .rep ns, _, h, e => by simp [D.fit] at e
theorem DenL.dp : ∀ {n : Nat} {ds : List D} {vs : List V}, DenL K H vs ds → D.fits n ds = true → DpAll K H vs (D.pys ds)
  | _, [], _, h, _ => by cases h; rw [D.pys]; exact .nil
  | n, d :: ds, _, h, e => by
    rw [D.fits, Bool.and_eq_true] at e
    cases h with
    | cons a b => rw [D.pys]; exact .cons (Den.dp a e.1) (DenL.dp b e.2)
end
end
mutual
def D.eqv : D → D → Bool
  | .non, .non => true
  | .bl a, .bl b => a == b
  | .bl a, .int j => (if a then 1 else 0) == j
  | .int i, .bl b => i == (if b then 1 else 0)
  | .int i, .int j => i == j
  | .str x, .str y => x == y
  | .lst xs, .lst ys => D.eqvs xs ys
  | .tup xs, .tup ys => D.eqvs xs ys
  | _, _ => false
def D.eqvs : List D → List D → Bool
  | [], [] => true
  | x :: xs, y :: ys => D.eqv x y && D.eqvs xs ys
  | _, _ => false
end
mutual
theorem eqv_py : ∀ (a b : D) (n m : Nat), D.fit n a = true → D.fit m b = true → PyData.eqv a.py b.py = D.eqv a b := by
  intro a b n m ha hb
  cases a with
  | non => cases b <;> first | (simp [D.py, D.eqv, PyData.eqv]; done) | (simp [D.fit] at hb; done) | (cases m <;> simp [D.fit] at hb <;> simp [D.py, D.eqv, PyData.eqv])
  | bl x => cases b <;> first | (simp [D.py, D.eqv, PyData.eqv]; done) | (simp [D.fit] at hb; done) | (cases m <;> simp [D.fit] at hb <;> simp [D.py, D.eqv, PyData.eqv])
  | int x => cases b <;> first | (simp [D.py, D.eqv, PyData.eqv]; done) | (simp [D.fit] at hb; done) | (cases m <;> simp [D.fit] at hb <;> simp [D.py, D.eqv, PyData.eqv])
  | str x => cases b <;> first | (simp [D.py, D.eqv, PyData.eqv]; done) | (simp [D.fit] at hb; done) | (cases m <;> simp [D.fit] at hb <;> simp [D.py, D.eqv, PyData.eqv])
  | lst l =>
    cases n with
    | zero => simp [D.fit] at ha
    | succ n =>
      cases b with
      | lst l2 =>
        cases m with
        | zero => simp [D.fit] at hb
        | succ m =>
          rw [D.fit] at ha hb
          rw [D.py, D.py, PyData.eqv, D.eqv]
          exact eqvs_py l l2 n m ha hb
      | dct _ => simp [D.fit] at hb
      | obj _ _ => simp [D.fit] at hb
      | scr _ => simp [D.fit] at hb
      | rep _ => simp [D.fit] at hb
      | _ => simp [D.py, D.eqv, PyData.eqv]
  | tup l =>
    cases n with
    | zero => simp [D.fit] at ha
    | succ n =>
      cases b with
      | tup l2 =>
        cases m with
        | zero => simp [D.fit] at hb
        | succ m =>
          rw [D.fit] at ha hb
          rw [D.py, D.py, PyData.eqv, D.eqv]
          exact eqvs_py l l2 n m ha hb
      | dct _ => simp [D.fit] at hb
      | obj _ _ => simp [D.fit] at hb
      | scr _ => simp [D.fit] at hb
      | rep _ => simp [D.fit] at hb
      | _ => simp [D.py, D.eqv, PyData.eqv]
  | dct _ => simp [D.fit] at ha
  | obj _ _ => simp [D.fit] at ha
  | scr _ => simp [D.fit] at ha
  | rep _ => simp [D.fit] at ha
theorem eqvs_py : ∀ (as bs : List D) (n m : Nat), D.fits n as = true → D.fits m bs = true → PyData.eqvAll (D.pys as) (D.pys bs) = D.eqvs as bs
  | [], [], _, _, _, _ => by simp [D.pys, D.eqvs, PyData.eqvAll]
  | [], _ :: _, _, _, _, _ => by simp [D.pys, D.eqvs, PyData.eqvAll]
  | _ :: _, [], _, _, _, _ => by simp [D.pys, D.eqvs, PyData.eqvAll]
  | a :: as, b :: bs, n, m, ha, hb => by
    rw [D.fits, Bool.and_eq_true] at ha hb
    rw [D.pys, D.pys, D.eqvs, PyData.eqvAll, eqv_py a b n m ha.1 hb.1, eqvs_py as bs n m ha.2 hb.2]
end
section
variable {X : Cx}
def gEqD (f : Bool → Bool) (a b : D) (Q : Rv → Prop) : Prop := D.fit 60 a = true ∧ D.fit 60 b = true ∧ Q (.v (.bl (f (D.eqv a b))))
theorem sem_eqD : SemOp X.K (rEqD X.K) (gEqD id) := by
  intro G σ H F ρ x y a b Q Qd R ha hb h k
  obtain ⟨h1, h2, h⟩ := h
  refine ⟨a.py, b.py, Den.dp (ha.den R.ext) h1, Den.dp (hb.den R.ext) h2, shaped_of (ha.den R.ext) h1, shaped_of (hb.den R.ext) h2, ?_⟩
  rw [eqv_py a b 60 60 h1 h2]
  exact k _ _ _ _ h (Same.refl _) R (.bl _)
theorem sem_neD : SemOp X.K (rNeD X.K) (gEqD not) := by
  intro G σ H F ρ x y a b Q Qd R ha hb h k
  obtain ⟨h1, h2, h⟩ := h
  refine ⟨a.py, b.py, Den.dp (ha.den R.ext) h1, Den.dp (hb.den R.ext) h2, shaped_of (ha.den R.ext) h1, shaped_of (hb.den R.ext) h2, ?_⟩
  rw [eqv_py a b 60 60 h1 h2]
  exact k _ _ _ _ h (Same.refl _) R (.bl _)
theorem Pk.rep {K : PySem.W.Frag} {F H : Hp} {v : V} {d : D} (h : Pk K F H v (.rep d)) : v = .str d.py.shown := by
  rcases h with h | ⟨p, c, rfl, e, _⟩
  · cases h; rfl
  · cases c <;> cases e
/-- == and !=: plain data, or two texts that repr gave -/
def gEq (f : Bool → Bool) : D → D → (Rv → Prop) → Prop
  | .rep a, .rep b => fun Q => Q (.v (.bl (f (decide (a.py.shown = b.py.shown)))))
  | a, b => gEqD f a b
def rEqA (K : PySem.W.Frag) : R2 := fun x y H Q => rEqD K x y H Q ∨ rEq x y H Q
def rNeA (K : PySem.W.Frag) : R2 := fun x y H Q => rNeD K x y H Q ∨ rNe x y H Q
theorem op_eqA (hu : X.A.units + 64 < cLine) : OpR X (compareOp .Eq) (rEqA X.K) := (op_eqD hu).or op_eq
theorem op_neA (hu : X.A.units + 64 < cLine) : OpR X (compareOp .NotEq) (rNeA X.K) := (op_neD hu).or op_ne
theorem dec_strV {x y : Str} : decide (V.str x = V.str y) = decide (x = y) := by
  by_cases h : x = y
  · subst h; simp
  · rw [decide_eq_false h, decide_eq_false fun e => h (V.str.inj e)]
theorem sem_eq : SemOp X.K (rEqA X.K) (gEq id) := by
  intro G σ H F ρ x y a b Q Qd R ha hb h k
  unfold gEq at h
  split at h
  · cases ha.rep; cases hb.rep
    exact .inr ⟨rfl, by rw [dec_strV]; exact k _ _ _ _ h (Same.refl _) R (.bl _)⟩
  · exact .inl (sem_eqD R ha hb h k)
theorem sem_ne : SemOp X.K (rNeA X.K) (gEq not) := by
  intro G σ H F ρ x y a b Q Qd R ha hb h k
  unfold gEq at h
  split at h
  · cases ha.rep; cases hb.rep
    exact .inr ⟨rfl, by rw [dec_strV]; exact k _ _ _ _ h (Same.refl _) R (.bl _)⟩
  · exact .inl (sem_neD R ha hb h k)
end
end DL
namespace DL
open PySem L2
section
variable {K : PySem.W.Frag} {F H : Hp}
theorem atI_len {α β : Type} {xs : List α} {ys : List β} (h : xs.length = ys.length) (i : Int) : ixN xs.length i = ixN ys.length i := by rw [h]
theorem DenL.atI {vs : List V} {ds : List D} {i : Int} {d : D} (h : DenL K F vs ds) (e : L2.atI ds i = some d) : ∃ v, L2.atI vs i = some v ∧ Den K F v d := by
  unfold L2.atI at e ⊢
  rw [h.length]
  cases q : ixN ds.length i with
  | none => rw [q] at e; cases e
  | some j =>
    rw [q] at e
    exact h.get (i := j) e
/-- the items of xs[lo:hi] -/
def cut {α : Type} (xs : List α) (lo hi : Option Int) : List α := (xs.drop (HT.sIx xs.length 0 lo)).take (HT.sIx xs.length xs.length hi - HT.sIx xs.length 0 lo)
theorem DenL.cut {vs : List V} {ds : List D} (h : DenL K F vs ds) (lo hi : Option Int) : DenL K F (cutV vs lo hi) (DL.cut ds lo hi) := by
  unfold cutV DL.cut
  rw [h.length]
  exact (h.drop _).take _
/-! ### dicts -/
def kGet {α : Type} (kvs : List (Key × α)) (k : Key) : Option α := (kvs.find? fun kv => decide (kv.1 = k)).map (·.2)
def kPut {α : Type} (kvs : List (Key × α)) (k : Key) (v : α) : List (Key × α) :=
  if (kvs.any fun kv => decide (kv.1 = k)) = true then kvs.map (fun kv => if kv.1 = k then (kv.1, v) else kv) else kvs ++ [(k, v)]
def kMerge {α : Type} (kvs more : List (Key × α)) : List (Key × α) := more.foldl (fun acc kv => kPut acc kv.1 kv.2) kvs
theorem kGet_cons {α : Type} (a : Key) (x : α) (r : List (Key × α)) (k : Key) : kGet ((a, x) :: r) k = if a = k then some x else kGet r k := by
  unfold kGet
  rw [List.find?_cons]
  by_cases h : a = k
  · simp [h]
  · simp [h]
theorem valV_cons (a : Key) (x : V) (r : List (Key × V)) (k : Key) : valV ((a, x) :: r) k = if a = k then some x else valV r k := by
  unfold valV
  rw [List.find?_cons]
  by_cases h : a = k
  · simp [h]
  · simp [h]
theorem DenK.get : ∀ {vs : List (Key × V)} {ds : List (Key × D)} {k : Key} {d : D}, DenK K F vs ds → kGet ds k = some d → ∃ v, valV vs k = some v ∧ Den K F v d
  | _, _, _, _, .nil, e => by simp [kGet] at e
  | _, _, k, d, .cons (k := a) r t, e => by
    rw [kGet_cons] at e
    by_cases q : a = k
    · rw [if_pos q] at e
      cases e
      exact ⟨_, by rw [valV_cons, if_pos q], r⟩
    · rw [if_neg q] at e
      obtain ⟨v, h1, h2⟩ := DenK.get t e
      exact ⟨v, by rw [valV_cons, if_neg q]; exact h1, h2⟩
theorem DenK.isSome : ∀ {vs : List (Key × V)} {ds : List (Key × D)} {k : Key}, DenK K F vs ds → (valV vs k).isSome = (kGet ds k).isSome
  | _, _, _, .nil => rfl
  | _, _, k, .cons (k := a) r t => by
    rw [kGet_cons, valV_cons]
    by_cases q : a = k
    · rw [if_pos q, if_pos q]; rfl
    · rw [if_neg q, if_neg q]; exact DenK.isSome t
theorem DenK.any : ∀ {vs : List (Key × V)} {ds : List (Key × D)} {k : Key}, DenK K F vs ds → (vs.any fun kv => decide (kv.1 = k)) = ds.any fun kv => decide (kv.1 = k)
  | _, _, _, .nil => rfl
  | _, _, k, .cons (k := a) r t => by rw [List.any_cons, List.any_cons, DenK.any t]
theorem DenK.app : ∀ {vs us : List (Key × V)} {ds es : List (Key × D)}, DenK K F vs ds → DenK K F us es → DenK K F (vs ++ us) (ds ++ es)
  | _, _, _, _, .nil, h => h
  | _, _, _, _, .cons a t, h => .cons a (t.app h)
theorem DenK.mapPut {x : V} {d : D} (r : Den K F x d) (k : Key) : ∀ {vs : List (Key × V)} {ds : List (Key × D)}, DenK K F vs ds →
    DenK K F (vs.map fun kv => if kv.1 = k then (kv.1, x) else kv) (ds.map fun kv => if kv.1 = k then (kv.1, d) else kv)
  | _, _, .nil => .nil
  | _, _, .cons (k := a) q t => by
    rw [List.map_cons, List.map_cons]
    by_cases e : a = k
    · rw [if_pos e, if_pos e]; exact .cons r (DenK.mapPut r k t)
    · rw [if_neg e, if_neg e]; exact .cons q (DenK.mapPut r k t)
theorem DenK.put {vs : List (Key × V)} {ds : List (Key × D)} {x : V} {d : D} (h : DenK K F vs ds) (r : Den K F x d) (k : Key) : DenK K F (putK vs k x) (kPut ds k d) := by
  unfold putK kPut
  rw [h.any]
  by_cases e : (ds.any fun kv => decide (kv.1 = k)) = true
  · rw [if_pos e, if_pos e]; exact DenK.mapPut r k h
  · rw [if_neg e, if_neg e]; exact h.app (.cons r .nil)
theorem DenK.merge : ∀ {us : List (Key × V)} {es : List (Key × D)} {vs : List (Key × V)} {ds : List (Key × D)}, DenK K F us es → DenK K F vs ds → DenK K F (mergeK vs us) (kMerge ds es)
  | [], _, _, _, h0, h => by cases h0; exact h
  | (k, x) :: us, _, vs, ds, h0, h => by
    cases h0 with
    | cons a t =>
      have := DenK.merge t (h.put a k)
      simpa [mergeK, kMerge] using this
def D.key : D → Option Key
  | .int i => some (.inl i)
  | .str x => some (.inr x)
  | _ => none
theorem Pk.key {v : V} {d : D} {k : Key} (h : Pk K F H v d) (e : d.key = some k) : v = kV k := by
  cases d with
  | int i => cases e; exact h.int
  | str x => cases e; exact h.str
  | _ => cases e
end
section
variable {X : Cx}
def rDIn : R2 := fun x y H Q => ∃ a o, y = .ref a ∧ DGet H a x o ∧ Q (.bl o.isSome) H
def rDNotIn : R2 := fun x y H Q => ∃ a o, y = .ref a ∧ DGet H a x o ∧ Q (.bl (!o.isSome)) H
theorem op_in_dict (hu : X.A.units + 1 < cLine) : OpR X (compareOp .In) rDIn := by
  intro pins s σ H x y v u Q I rx ry h
  obtain ⟨a, o, rfl, g, q⟩ := h
  cases ry
  exact d_in hu I g rx fun s3 I3 => ⟨.bl o.isSome, H, I3, rfl, q⟩
theorem op_notin_dict (hu : X.A.units + 1 < cLine) : OpR X (compareOp .NotIn) rDNotIn := by
  intro pins s σ H x y v u Q I rx ry h
  obtain ⟨a, o, rfl, g, q⟩ := h
  cases ry
  exact d_notIn hu I g rx fun s3 I3 => ⟨.bl (!o.isSome), H, I3, rfl, q⟩
def rIxD : R2 := fun x y H Q => ∃ a v, x = .ref a ∧ DGet H a y (some v) ∧ Q v H
theorem ix_dict (hu : X.A.units + 1 < cLine) : IxR X rIxD := by
  intro value slice pins s σ H x y v u Q I rx ry h hs
  obtain ⟨a, w, rfl, g, q⟩ := h
  cases rx
  exact PyProof.Rows.tail_any (dict_typeIs I g) PySem.F.slot_dict_getitem.lookup (d_getItem hu I g ry fun w' s3 I3 rw' => ⟨w, H, I3, rw', q⟩) hs
def rIxA (K : PySem.W.Frag) : R2 := fun x y H Q => rIx K x y H Q ∨ rIxD x y H Q
theorem ix_any (hu : X.A.units + 1 < cLine) : IxR X (rIxA X.K) := ix_seq.or (ix_dict hu)
def gIx : D → D → (Rv → Prop) → Prop
  | .lst l, .int i => fun Q => ∃ d, atI l i = some d ∧ Q (.v d)
  | .tup l, .int i => fun Q => ∃ d, atI l i = some d ∧ Q (.v d)
  | .str s, .int i => fun Q => s.length ≤ sizeLine ∧ ∃ c, atI s.cps.toList i = some c ∧ Q (.v (.str ⟨#[c]⟩))
  | .dct kvs, y => fun Q => ∃ k d, y.key = some k ∧ kGet kvs k = some d ∧ Q (.v d)
  | _, _ => fun _ => False
theorem atI_mem {α : Type} {l : List α} {i : Int} {c : α} (h : atI l i = some c) : c ∈ l := by
  unfold atI at h
  cases q : ixN l.length i with
  | none => rw [q] at h; cases h
  | some j => rw [q] at h; exact List.mem_of_getElem? h
theorem strOk_one {x : Str} {c : Nat} (h : PyData.strOk x = true) (hc : c ∈ x.cps.toList) : PyData.strOk ⟨#[c]⟩ = true := by
  rw [strOk_iff] at *
  intro d hd
  have : d = c := by simpa using hd
  subst this
  exact h d hc
theorem sem_ix : SemOp X.K (rIxA X.K) gIx := by
  intro G σ H F ρ x y a b Q Qd R ha hb h k
  unfold gIx at h
  split at h
  · obtain ⟨d, e, h⟩ := h
    obtain ⟨p, xs, rfl, h1, d1⟩ := ha.lst R.ext
    cases hb.int
    obtain ⟨v, e2, dv⟩ := d1.atI e
    exact .inl (.inl ⟨p, xs, _, v, rfl, rfl, .inl (.inl h1), e2, k _ _ _ _ h (Same.refl _) R dv⟩)
  · obtain ⟨d, e, h⟩ := h
    obtain ⟨p, xs, rfl, h1, d1⟩ := ha.tup
    cases hb.int
    obtain ⟨v, e2, dv⟩ := d1.atI e
    exact .inl (.inr (.inl ⟨p, xs, _, v, rfl, rfl, .inl (.inl (R.ext _ _ h1)), e2, k _ _ _ _ h (Same.refl _) R dv⟩))
  · obtain ⟨hz, c, e, h⟩ := h
    have o1 := ha.strOk
    cases ha.str
    cases hb.int
    exact .inl (.inr (.inr ⟨_, _, c, rfl, rfl, hz, e, k _ _ _ _ h (Same.refl _) R (.str _ (strOk_one o1 (atI_mem e)))⟩))
  · obtain ⟨k1, d, ek, e, h⟩ := h
    obtain ⟨p, ks, rfl, h1, d1⟩ := ha.dct R.ext
    obtain ⟨v, e2, dv⟩ := d1.get e
    have ey := hb.key ek
    refine .inr ⟨p, v, rfl, ?_, k _ _ _ _ h (Same.refl _) R dv⟩
    rw [ey, ← e2]
    exact DGet.k h1
  · exact h.elim
theorem de_ix {a b : Expr} {pos : Pos} {ta tb : TE} {da db : TQ} (hu : X.A.units + 1 < cLine) (ha : DO X a ta da) (hb : DO X b tb db) (hs : PlainIx b := by exact fun _ _ => rfl) : DE X (.Subscript a b pos) (tOp (rIxA X.K) ta tb) (dOp gIx da db) :=
  ⟨pe_ix (ix_any hu) ha.pe hb.pe hs, fun R q k => sem_op sem_ix ha hb R q k⟩
/-! ### slices -/
abbrev TOd := SL → (Option Int → SL → Prop) → Prop
structure DOp (X : Cx) (e : Option Expr) (te : TO) (t : TOd) : Prop where
  pe : PO X e te
  sem : ∀ {G : Cd} {σ : L2.St} {H F : Hp} {ρ : SL} {Q : Option Int → Hp → Prop} {Qd : Option Int → SL → Prop}, Rep X.K G σ H F ρ → t ρ Qd →
    (∀ o ρ' H' F', Qd o ρ' → Same F F' → Rep X.K G σ H' F' ρ' → Q o H') → te σ H Q
def oNo : TOd := fun ρ Q => Q none ρ
def oE (t : TD) : TOd := fun ρ Q => t ρ fun r ρ' => match r with
  | .v (.int i) => Q (some i) ρ'
  | _ => False
theorem dop_none : DOp X none tNoPart oNo := ⟨po_none, fun R q k => k _ _ _ _ q (Same.refl _) R⟩
theorem dop_some {e : Expr} {te : TE} {t : TD} (h : DE X e te t) : DOp X (some e) (tPart te) (oE t) :=
  ⟨po_some h.pe, fun R q k => h.sem R q fun r ρ' v H' F' qd s1 R1 rd => by
    cases r with
    | fr c => exact qd.elim
    | v d =>
      cases d with
      | int i =>
        cases rd
        exact ⟨i, rfl, k _ _ _ _ qd s1 R1⟩
      | _ => exact qd.elim⟩
def gSl : D → Option Int → Option Int → (Rv → Prop) → Prop
  | .lst l, lo, hi => fun Q => Q (.fr (.l (cut l lo hi)))
  | .str s, lo, hi => fun Q => s.length ≤ sizeLine ∧ Q (.v (.str (cutS s lo hi)))
  | .tup l, lo, hi => fun Q => Q (.v (.tup (cut l lo hi)))
  | .scr ns, lo, hi => fun Q => Q (.fr (.l ((cut ns lo hi).map D.int)))
  | _, _, _ => fun _ => False
def rSlAny (K : PySem.W.Frag) : V → Option Int → Option Int → Hp → VK → Prop := fun x lo hi H Q => rSlL K x lo hi H Q ∨ (rSlS x lo hi H Q ∨ rSlA K x lo hi H Q)
theorem sl_any : SlR X (rSlAny X.K) := sl_list.or (sl_str.or sl_tupA)
theorem strOk_cut {x : Str} (h : PyData.strOk x = true) (lo hi : Option Int) : PyData.strOk (cutS x lo hi) = true := by
  rw [strOk_iff] at *
  intro c hc
  refine h c ?_
  have hc' : c ∈ (x.cps.toList.drop (HT.sIx x.length 0 lo)).take (HT.sIx x.length x.length hi - HT.sIx x.length 0 lo) := by simpa [cutS] using hc
  exact List.mem_of_mem_drop (List.mem_of_mem_take hc')
theorem cutV_ints (ns : List Int) (lo hi : Option Int) : cutV (ns.map V.int) lo hi = (cut ns lo hi).map V.int := by
  unfold cutV cut
  rw [List.length_map, List.map_take, List.map_drop]
theorem cut_whole {α : Type} {l : List α} {lo hi : Option Int} (h1 : HT.sIx l.length 0 lo = 0) (h2 : HT.sIx l.length l.length hi = l.length) : cut l lo hi = l := by
  unfold cut
  rw [h1, h2, List.drop_zero, Nat.sub_zero, List.take_length]
def dSl (te : TQ) (tl th : TOd) : TD := fun ρ Q => te ρ fun o ρ1 => tl ρ1 fun lo ρ2 => th ρ2 fun hi ρ3 => match o.get ρ3 with
  | some d => gSl d lo hi fun r => Q r ρ3
  | none => False
theorem de_slice {e : Expr} {lo hi : Option Expr} {pos p2 : Pos} {te : TE} {tl th : TO} {d : TQ} {dl dh : TOd} (he : DO X e te d) (hl : DOp X lo tl dl) (hh : DOp X hi th dh) :
    DE X (.Subscript e (.Slice lo hi none p2) pos) (tSl (rSlAny X.K) te tl th) (dSl d dl dh) := by
  refine ⟨pe_slice sl_any he.pe hl.pe hh.pe, fun R q k => ?_⟩
  refine he.sem R q fun o ρ1 v H1 F1 q1 s1 R1 d1 => ?_
  refine hl.sem R1 q1 fun l ρ2 H2 F2 q2 s2 R2 => ?_
  refine hh.sem R2 q2 fun u ρ3 H3 F3 q3 s3 R3 => ?_
  have s13 := s1.trans (s2.trans s3)
  cases ea : o.get ρ3 with
  | none => simp only [ea] at q3
  | some x =>
    simp only [ea] at q3
    have pk := (d1.mono (s2.trans s3)).pk R3 ea
    unfold gSl at q3
    split at q3
    · obtain ⟨p, xs, rfl, h1, d1⟩ := pk.lst R3.ext
      refine .inl ⟨p, xs, rfl, .inl (.inl h1), fun a ha => ?_⟩
      obtain ⟨R4, rd⟩ := R3.allocFr ha (c := .l _) ⟨_, upd_same, d1.cut l u⟩
      exact k _ _ _ _ _ q3 s13 R4 rd
    · have o1 := pk.strOk
      cases pk.str
      exact .inr (.inl ⟨_, rfl, q3.1, k _ _ _ _ _ q3.2 s13 R3 (.str _ (strOk_cut o1 l u))⟩)
    · obtain ⟨p, xs, rfl, h1, d1⟩ := pk.tup
      refine .inr (.inr ⟨p, xs, rfl, .inl (.inl (R3.ext _ _ h1)), fun hw => ?_, fun _ a ha => ?_⟩)
      · have hl := d1.length
        rw [hl] at hw
        rw [cut_whole hw.1 hw.2] at q3
        exact k _ _ _ _ _ q3 s13 R3 (.tup h1 d1)
      · obtain ⟨s4, R4⟩ := R3.alloc (o := .tup (cutV xs l u)) ha
        exact k _ _ _ _ _ q3 (s13.trans s4) R4 (.tup upd_same ((d1.cut l u).mono s4))
    · obtain ⟨p, rfl, h1⟩ := pk.scr R3.ext
      refine .inl ⟨p, _, rfl, h1, fun a ha => ?_⟩
      have hx := cutV_ints ‹List Int› l u
      obtain ⟨R4, rd⟩ := R3.allocFr (o := .lst (cutV (List.map V.int ‹List Int›) l u)) ha (c := .l ((cut ‹List Int› l u).map D.int)) ⟨_, upd_same, by rw [hx]; exact DenL.ints⟩
      exact k _ _ _ _ _ q3 s13 R4 rd
    · exact q3.elim
/-! ### in -/
def rInA (K : PySem.W.Frag) : R2 := fun x y H Q => rInD K x y H Q ∨ ((∃ (c : Nat) (z : Str), x = .str ⟨#[c]⟩ ∧ y = .str z ∧ Q (.bl (decide (c ∈ z.cps.toList))) H) ∨ rDIn x y H Q)
def rNotInA (K : PySem.W.Frag) : R2 := fun x y H Q => rNotInD K x y H Q ∨ ((∃ (c : Nat) (z : Str), x = .str ⟨#[c]⟩ ∧ y = .str z ∧ Q (.bl (!decide (c ∈ z.cps.toList))) H) ∨ rDNotIn x y H Q)
theorem op_inA (hu : X.A.units + 65 < cLine) : OpR X (compareOp .In) (rInA X.K) := (op_inD hu).or (op_in_sign.or (op_in_dict (by omega)))
theorem op_notInA (hu : X.A.units + 65 < cLine) : OpR X (compareOp .NotIn) (rNotInA X.K) := (op_notInD hu).or (op_notIn_sign.or (op_notin_dict (by omega)))
def gIn (f : Bool → Bool) : D → D → (Rv → Prop) → Prop
  | x, .lst ds => fun Q => D.fit 60 x = true ∧ D.fits 59 ds = true ∧ Q (.v (.bl (f (ds.any fun z => D.eqv z x))))
  | .str x, .str y => fun Q => ∃ c, x = ⟨#[c]⟩ ∧ Q (.v (.bl (f (decide (c ∈ y.cps.toList)))))
  | x, .dct kvs => fun Q => ∃ k, x.key = some k ∧ Q (.v (.bl (f (kGet kvs k).isSome)))
  | _, _ => fun _ => False
theorem any_py {x : D} (hx : D.fit 60 x = true) : ∀ ds : List D, D.fits 59 ds = true → ((D.pys ds).any fun z => PyData.eqv z x.py) = ds.any fun z => D.eqv z x
  | [], _ => by simp [D.pys]
  | d :: r, h => by
    rw [D.fits, Bool.and_eq_true] at h
    rw [D.pys, List.any_cons, List.any_cons, any_py hx r h.2, eqv_py d x 59 60 h.1 hx]
theorem sem_in : SemOp X.K (rInA X.K) (gIn id) := by
  intro G σ H F ρ x y a b Q Qd R ha hb h k
  unfold gIn at h
  split at h
  · rename_i ds
    obtain ⟨h1, h2, h⟩ := h
    have h2' : D.fit 60 (.lst ds) = true := by rw [D.fit]; exact h2
    have db := hb.den R.ext
    refine .inl ⟨_, D.pys ds, Den.dp (ha.den R.ext) h1, by have := Den.dp db h2'; rw [D.py] at this; exact this, shaped_of (ha.den R.ext) h1, by have := shaped_of db h2'; rw [D.py] at this; exact this, ?_⟩
    rw [any_py h1 ds h2]
    exact k _ _ _ _ h (Same.refl _) R (.bl _)
  · obtain ⟨c, rfl, h⟩ := h
    cases ha.str
    cases hb.str
    exact .inr (.inl ⟨c, _, rfl, rfl, k _ _ _ _ h (Same.refl _) R (.bl _)⟩)
  · obtain ⟨k1, e, h⟩ := h
    obtain ⟨p, ks, rfl, h1, d1⟩ := hb.dct R.ext
    have ey := ha.key e
    refine .inr (.inr ⟨p, valV ks k1, rfl, by rw [ey]; exact DGet.k h1, ?_⟩)
    rw [d1.isSome]
    exact k _ _ _ _ h (Same.refl _) R (.bl _)
  · exact h.elim
theorem sem_notIn : SemOp X.K (rNotInA X.K) (gIn not) := by
  intro G σ H F ρ x y a b Q Qd R ha hb h k
  unfold gIn at h
  split at h
  · rename_i ds
    obtain ⟨h1, h2, h⟩ := h
    have h2' : D.fit 60 (.lst ds) = true := by rw [D.fit]; exact h2
    have db := hb.den R.ext
    refine .inl ⟨_, D.pys ds, Den.dp (ha.den R.ext) h1, by have := Den.dp db h2'; rw [D.py] at this; exact this, shaped_of (ha.den R.ext) h1, by have := shaped_of db h2'; rw [D.py] at this; exact this, ?_⟩
    rw [any_py h1 ds h2]
    exact k _ _ _ _ h (Same.refl _) R (.bl _)
  · obtain ⟨c, rfl, h⟩ := h
    cases ha.str
    cases hb.str
    exact .inr (.inl ⟨c, _, rfl, rfl, k _ _ _ _ h (Same.refl _) R (.bl _)⟩)
  · obtain ⟨k1, e, h⟩ := h
    obtain ⟨p, ks, rfl, h1, d1⟩ := hb.dct R.ext
    have ey := ha.key e
    refine .inr (.inr ⟨p, valV ks k1, rfl, by rw [ey]; exact DGet.k h1, ?_⟩)
    rw [d1.isSome]
    exact k _ _ _ _ h (Same.refl _) R (.bl _)
  · exact h.elim
/-! ### is None -/
def gIsN (f : Bool → Bool) : D → D → (Rv → Prop) → Prop
  | .non, .non => fun Q => Q (.v (.bl (f true)))
  | _, .non => fun Q => Q (.v (.bl (f false)))
  | _, _ => fun _ => False
theorem Pk.notNon {K : PySem.W.Frag} {F H : Hp} {v : V} {d : D} (h : Pk K F H v d) (hd : d ≠ .non) : decide (v = .non) = false := by
  refine decide_eq_false fun e => ?_
  subst e
  rcases h with h | ⟨p, c, e, _⟩
  · cases h; exact hd rfl
  · cases e
theorem sem_isN {f : Bool → Bool} {r : R2} (hr : ∀ x y H Q, (y = .non ∧ Q (.bl (f (decide (x = .non)))) H) → r x y H Q) : SemOp X.K r (gIsN f) := by
  intro G σ H F ρ x y a b Q Qd R ha hb h k
  unfold gIsN at h
  split at h
  · cases ha.non; cases hb.non
    exact hr _ _ _ _ ⟨rfl, by rw [decide_eq_true rfl]; exact k _ _ _ _ h (Same.refl _) R (.bl _)⟩
  · rename_i hn
    cases hb.non
    exact hr _ _ _ _ ⟨rfl, by rw [ha.notNon (fun e => hn (by rw [e]))]; exact k _ _ _ _ h (Same.refl _) R (.bl _)⟩
  · exact h.elim
theorem sem_is : SemOp X.K (fun x y H Q => y = .non ∧ Q (.bl (decide (x = .non))) H) (gIsN id) := sem_isN fun _ _ _ _ h => h
theorem sem_isnt : SemOp X.K (fun x y H Q => y = .non ∧ Q (.bl (!decide (x = .non))) H) (gIsN not) := sem_isN fun _ _ _ _ h => h
/-! ### tests -/
def asB (r : Rv) (Q : Bool → Prop) : Prop := match r with
  | .v (.bl b) => Q b
  | _ => False
theorem asB_den {K : PySem.W.Frag} {G : Cd} {σ : L2.St} {ρ : SL} {H F : Hp} {v : V} {r : Rv} {Q : Bool → Prop} (h : asB r Q) (rd : RDen K G σ ρ H F v r) : ∃ b, v = .bl b ∧ Q b := by
  cases r with
  | fr c => exact h.elim
  | v d =>
    cases d with
    | bl b => cases rd; exact ⟨b, rfl, h⟩
    | _ => exact h.elim
def bOf (t : TD) : TB := fun ρ Q => t ρ fun r ρ' => asB r fun b => Q b ρ'
theorem sem_bOf {te : TE} {t : TD} (hs : ∀ {G : Cd} {σ : L2.St} {H F : Hp} {ρ : SL} {Q : VK} {Qd : Rv → SL → Prop}, Rep X.K G σ H F ρ → t ρ Qd →
    (∀ r ρ' v H' F', Qd r ρ' → Same F F' → Rep X.K G σ H' F' ρ' → RDen X.K G σ ρ' H' F' v r → Q v H') → te σ H Q)
    {G : Cd} {σ : L2.St} {H F : Hp} {ρ : SL} {Q : Bool → Hp → Prop} {Qd : Bool → SL → Prop} (R : Rep X.K G σ H F ρ) (q : bOf t ρ Qd)
    (k : ∀ b ρ' H' F', Qd b ρ' → Same F F' → Rep X.K G σ H' F' ρ' → Q b H') : tTest te σ H Q :=
  hs R q fun r ρ' v H' F' qd s1 R1 rd => by
    obtain ⟨b, rfl, qb⟩ := asB_den qd rd
    exact ⟨b, rfl, k _ _ _ _ qb s1 R1⟩
theorem dt_cmp {op : CmpOp} {r : R2} {g : D → D → (Rv → Prop) → Prop} {ta tb : TE} {a b : Expr} {da db : TQ} {pos : Pos} (ho : OpR X (compareOp op) r) (hg : SemOp X.K r g) (ha : DO X a ta da) (hb : DO X b tb db)
    (hm : behindInMarks op b = false) : DT X (.Compare a [op] [b] pos) (tTest (tOp r ta tb)) (bOf (dOp g da db)) :=
  ⟨pt_cmpR ho ha.pe hb.pe hm, fun R q k => sem_bOf (fun R q k => sem_op hg ha hb R q k) R q k⟩
def dChain (g g' : D → D → (Rv → Prop) → Prop) (ta tb tc : TQ) : TD := fun ρ Q => ta ρ fun oa ρ1 => tb ρ1 fun ob ρ2 => match oa.get ρ2, ob.get ρ2 with
  | some a, some b => g a b fun r => asB r fun z => if z = true then tc ρ2 fun oc ρ3 => (match ob.get ρ3, oc.get ρ3 with
      | some b', some c => g' b' c fun r' => Q r' ρ3
      | _, _ => False) else Q (.v (.bl false)) ρ2
  | _, _ => False
theorem sem_chain {r r' : R2} {g g' : D → D → (Rv → Prop) → Prop} {ta tb tc : TE} {a b c : Expr} {da db dc : TQ} (hg : SemOp X.K r g) (hg' : SemOp X.K r' g') (ha : DO X a ta da) (hb : DO X b tb db) (hc : DO X c tc dc)
    {G : Cd} {σ : L2.St} {H F : Hp} {ρ : SL} {Q : VK} {Qd : Rv → SL → Prop} (R : Rep X.K G σ H F ρ) (q : dChain g g' da db dc ρ Qd)
    (k : ∀ r ρ' v H' F', Qd r ρ' → Same F F' → Rep X.K G σ H' F' ρ' → RDen X.K G σ ρ' H' F' v r → Q v H') : tChain r r' ta tb tc σ H Q := by
  refine ha.sem R q fun oa ρ1 v H1 F1 q1 s1 R1 d1 => ?_
  refine hb.sem R1 q1 fun ob ρ2 u H2 F2 q2 s2 R2 d2 => ?_
  cases ea : oa.get ρ2 with
  | none => rw [ea] at q2; exact q2.elim
  | some x =>
    cases eb : ob.get ρ2 with
    | none => rw [ea, eb] at q2; exact q2.elim
    | some y =>
      rw [ea, eb] at q2
      refine hg R2 ((d1.mono s2).pk R2 ea) (d2.pk R2 eb) q2 fun rv z H3 F3 qd s3 R3 rd => ?_
      obtain ⟨b', rfl, qb⟩ := asB_den qd rd
      refine ⟨b', rfl, ?_⟩
      cases b' with
      | false =>
        rw [if_neg Bool.false_ne_true] at qb ⊢
        exact k _ _ _ _ _ qb (s1.trans (s2.trans s3)) R3 (.bl _)
      | true =>
        rw [if_pos rfl] at qb ⊢
        refine hc.sem R3 qb fun oc ρ4 w H4 F4 q4 s4 R4 d4 => ?_
        cases eb2 : ob.get ρ4 with
        | none => rw [eb2] at q4; exact q4.elim
        | some y2 =>
          cases ec : oc.get ρ4 with
          | none => rw [eb2, ec] at q4; exact q4.elim
          | some z2 =>
            rw [eb2, ec] at q4
            exact hg' R4 ((d2.mono (s3.trans s4)).pk R4 eb2) (d4.pk R4 ec) q4 fun rv z H' F' qd s5 R5 rd => k _ _ _ _ _ qd (s1.trans (s2.trans (s3.trans (s4.trans s5)))) R5 rd
theorem de_chain {op op' : CmpOp} {r r' : R2} {g g' : D → D → (Rv → Prop) → Prop} {ta tb tc : TE} {a b c : Expr} {da db dc : TQ} {pos : Pos} (ho : OpR X (compareOp op) r) (ho' : OpR X (compareOp op') r') (hg : SemOp X.K r g) (hg' : SemOp X.K r' g') (ha : DO X a ta da) (hb : DO X b tb db) (hc : DO X c tc dc)
    (hm : lastMarks [op, op'] [b, c] = false := by with_unfolding_all rfl) : DE X (.Compare a [op, op'] [b, c] pos) (tChain r r' ta tb tc) (dChain g g' da db dc) :=
  ⟨pe_chain ho ho' ha.pe hb.pe hc.pe hm, fun R q k => sem_chain hg hg' ha hb hc R q k⟩
theorem dt_chain {op op' : CmpOp} {r r' : R2} {g g' : D → D → (Rv → Prop) → Prop} {ta tb tc : TE} {a b c : Expr} {da db dc : TQ} {pos : Pos} (ho : OpR X (compareOp op) r) (ho' : OpR X (compareOp op') r') (hg : SemOp X.K r g) (hg' : SemOp X.K r' g') (ha : DO X a ta da) (hb : DO X b tb db) (hc : DO X c tc dc)
    (hm : lastMarks [op, op'] [b, c] = false := by with_unfolding_all rfl) : DT X (.Compare a [op, op'] [b, c] pos) (tTest (tChain r r' ta tb tc)) (bOf (dChain g g' da db dc)) :=
  ⟨pt_chain ho ho' ha.pe hb.pe hc.pe hm, fun R q k => sem_bOf (fun R q k => sem_chain hg hg' ha hb hc R q k) R q k⟩
def gTruth : D → (Bool → Prop) → Prop
  | .non => fun Q => Q false
  | .bl b => fun Q => Q b
  | .int i => fun Q => Q (i != 0)
  | .str y => fun Q => y.length ≤ sizeLine ∧ Q ((y.length : Int) != 0)
  | .lst l => fun Q => Q (!l.isEmpty)
  | .tup l => fun Q => Q (!l.isEmpty)
  | .dct l => fun Q => Q (!l.isEmpty)
  | _ => fun _ => False
theorem DenL.isEmpty {K : PySem.W.Frag} {F : Hp} {vs : List V} {ds : List D} (h : DenL K F vs ds) : vs.isEmpty = ds.isEmpty := by cases h <;> rfl
theorem DenK.isEmpty {K : PySem.W.Frag} {F : Hp} {vs : List (Key × V)} {ds : List (Key × D)} (h : DenK K F vs ds) : vs.isEmpty = ds.isEmpty := by cases h <;> rfl
theorem Pk.truth {K : PySem.W.Frag} {F H : Hp} {v : V} {d : D} {Q : Bool → Prop} (e : Same F H) (h : Pk K F H v d) (q : gTruth d Q) : ∃ b, TruV K v H b ∧ Q b := by
  cases d with
  | non => cases h.non; exact ⟨false, rfl, q⟩
  | bl b => cases h.bl; exact ⟨b, rfl, q⟩
  | int i => cases h.int; exact ⟨_, rfl, q⟩
  | str y => cases h.str; exact ⟨_, ⟨q.1, rfl⟩, q.2⟩
  | lst l => obtain ⟨p, xs, rfl, a, b⟩ := h.lst e; exact ⟨_, .inl ⟨xs, .inl (.inl a), rfl⟩, by rw [b.isEmpty]; exact q⟩
  | tup l => obtain ⟨p, xs, rfl, a, b⟩ := h.tup; exact ⟨_, .inr (.inl ⟨xs, .inl (.inl (e _ _ a)), rfl⟩), by rw [b.isEmpty]; exact q⟩
  | dct l => obtain ⟨p, xs, rfl, a, b⟩ := h.dct e; exact ⟨_, .inr (.inr ⟨xs, a, rfl⟩), by rw [b.isEmpty]; exact q⟩
  | obj _ _ => exact q.elim
  | scr _ => exact q.elim
  | rep _ => exact q.elim
def bTr (t : TQ) : TB := fun ρ Q => t ρ fun o ρ' => match o.get ρ' with
  | some d => gTruth d fun b => Q b ρ'
  | none => False
theorem dt_tr {e : Expr} {te : TE} {t : TQ} (h : DO X e te t) (he : ∀ whole, isTrue e X.env whole = (do let v ← whole; standAt e.pos; holding [v] (truthy v)) := by intro _; rfl) :
    DT X e (fun σ H Q => te σ H fun x H' => ∃ k, TruV X.K x H' k ∧ Q k H') (bTr t) :=
  ⟨pt_truth h.pe he, fun R q k => h.sem R q fun o ρ' v H' F' qd s1 R1 d1 => by
    cases ea : o.get ρ' with
    | none => rw [ea] at qd; exact qd.elim
    | some x =>
      rw [ea] at qd
      obtain ⟨b, t, q⟩ := (d1.pk R1 ea).truth R1.ext qd
      exact ⟨b, t, k _ _ _ _ q s1 R1⟩⟩
def bAnd (t u : TB) : TB := fun ρ Q => t ρ fun b ρ1 => if b = true then u ρ1 Q else Q false ρ1
def bOr (t u : TB) : TB := fun ρ Q => t ρ fun b ρ1 => if b = true then Q true ρ1 else u ρ1 Q
def bNot (t : TB) : TB := fun ρ Q => t ρ fun b ρ1 => Q (!b) ρ1
theorem dw_pt {e : Expr} {te : TT} {t : TB} (h : DW X e te t) : DT X e te t := ⟨h.pe.pt, h.sem⟩
theorem dw_and1 {a : Expr} {pos : Pos} {te : TT} {t : TB} (h : DT X a te t) : DW X (.BoolOp .And [a] pos) te t := ⟨pw_and1 h.pe, h.sem⟩
theorem dw_or1 {a : Expr} {pos : Pos} {te : TT} {t : TB} (h : DT X a te t) : DW X (.BoolOp .Or [a] pos) te t := ⟨pw_or1 h.pe, h.sem⟩
theorem dw_and {a b : Expr} {rest : List Expr} {pos : Pos} {te tf : TT} {t u : TB} (h : DT X a te t) (h2 : DW X (.BoolOp .And (b :: rest) pos) tf u) : DW X (.BoolOp .And (a :: b :: rest) pos) (tAnd te tf) (bAnd t u) :=
  ⟨pw_and h.pe h2.pe, fun R q k => h.sem R q fun z ρ1 H1 F1 q1 s1 R1 => by
    cases z with
    | true => rw [if_pos rfl] at q1 ⊢; exact h2.sem R1 q1 fun b ρ' H' F' qd s2 R2 => k _ _ _ _ qd (s1.trans s2) R2
    | false => rw [if_neg Bool.false_ne_true] at q1 ⊢; exact k _ _ _ _ q1 s1 R1⟩
theorem dw_or {a b : Expr} {rest : List Expr} {pos : Pos} {te tf : TT} {t u : TB} (h : DT X a te t) (h2 : DW X (.BoolOp .Or (b :: rest) pos) tf u) : DW X (.BoolOp .Or (a :: b :: rest) pos) (tOr te tf) (bOr t u) :=
  ⟨pw_or h.pe h2.pe, fun R q k => h.sem R q fun z ρ1 H1 F1 q1 s1 R1 => by
    cases z with
    | false => rw [if_neg Bool.false_ne_true] at q1 ⊢; exact h2.sem R1 q1 fun b ρ' H' F' qd s2 R2 => k _ _ _ _ qd (s1.trans s2) R2
    | true => rw [if_pos rfl] at q1 ⊢; exact k _ _ _ _ q1 s1 R1⟩
theorem dt_not {a : Expr} {pos : Pos} {te : TT} {t : TB} (h : DT X a te t) : DT X (.UnaryOp .Not a pos) (tNot te) (bNot t) :=
  ⟨pt_not h.pe, fun R q k => h.sem R q fun b ρ1 H1 F1 q1 s1 R1 => k _ _ _ _ q1 s1 R1⟩
/-- and, or, not as values: all True or False -/
def dAnd (t u : TD) : TD := fun ρ Q => t ρ fun r ρ1 => asB r fun b => if b = true then u ρ1 Q else Q (.v (.bl false)) ρ1
def dOr (t u : TD) : TD := fun ρ Q => t ρ fun r ρ1 => asB r fun b => if b = true then Q (.v (.bl true)) ρ1 else u ρ1 Q
def dNot (t : TD) : TD := fun ρ Q => t ρ fun r ρ1 => asB r fun b => Q (.v (.bl (!b))) ρ1
theorem de_one {op} {a : Expr} {pos : Pos} {te : TE} {t : TD} (h : DE X a te t) : DE X (.BoolOp op [a] pos) te t := ⟨pe_one h.pe, h.sem⟩
theorem de_and {a b : Expr} {rest : List Expr} {pos : Pos} {te tf : TE} {t u : TD} (h : DE X a te t) (h2 : DE X (.BoolOp .And (b :: rest) pos) tf u) : DE X (.BoolOp .And (a :: b :: rest) pos) (tAndV te tf) (dAnd t u) :=
  ⟨pe_and h.pe h2.pe, fun R q k => h.sem R q fun r ρ1 v H1 F1 q1 s1 R1 rd => by
    obtain ⟨z, rfl, qb⟩ := asB_den q1 rd
    refine ⟨z, rfl, ?_⟩
    cases z with
    | true => rw [if_pos rfl] at qb ⊢; exact h2.sem R1 qb fun b ρ' v H' F' qd s2 R2 rd => k _ _ _ _ _ qd (s1.trans s2) R2 rd
    | false => rw [if_neg Bool.false_ne_true] at qb ⊢; exact k _ _ _ _ _ qb s1 R1 (.bl _)⟩
theorem de_or {a b : Expr} {rest : List Expr} {pos : Pos} {te tf : TE} {t u : TD} (h : DE X a te t) (h2 : DE X (.BoolOp .Or (b :: rest) pos) tf u) : DE X (.BoolOp .Or (a :: b :: rest) pos) (tOrV te tf) (dOr t u) :=
  ⟨pe_or h.pe h2.pe, fun R q k => h.sem R q fun r ρ1 v H1 F1 q1 s1 R1 rd => by
    obtain ⟨z, rfl, qb⟩ := asB_den q1 rd
    refine ⟨z, rfl, ?_⟩
    cases z with
    | false => rw [if_neg Bool.false_ne_true] at qb ⊢; exact h2.sem R1 qb fun b ρ' v H' F' qd s2 R2 rd => k _ _ _ _ _ qd (s1.trans s2) R2 rd
    | true => rw [if_pos rfl] at qb ⊢; exact k _ _ _ _ _ qb s1 R1 (.bl _)⟩
theorem de_not {a : Expr} {pos : Pos} {te : TE} {t : TD} (h : DE X a te t) : DE X (.UnaryOp .Not a pos) (tNotV te) (dNot t) :=
  ⟨pe_not h.pe, fun R q k => h.sem R q fun r ρ1 v H1 F1 q1 s1 R1 rd => by
    obtain ⟨z, rfl, qb⟩ := asB_den q1 rd
    exact ⟨z, rfl, k _ _ _ _ _ qb s1 R1 (.bl _)⟩⟩
def dIf (t : TB) (u w : TD) : TD := fun ρ Q => t ρ fun b ρ1 => if b = true then u ρ1 Q else w ρ1 Q
theorem de_if {c a b : Expr} {pos : Pos} {tc : TT} {ta tb : TE} {t : TB} {u w : TD} (hc : DT X c tc t) (ha : DE X a ta u) (hb : DE X b tb w) : DE X (.IfExp c a b pos) (tIf tc ta tb) (dIf t u w) :=
  ⟨pe_ifExp hc.pe ha.pe hb.pe, fun R q k => hc.sem R q fun z ρ1 H1 F1 q1 s1 R1 => by
    cases z with
    | true => rw [if_pos rfl] at q1 ⊢; exact ha.sem R1 q1 fun b ρ' v H' F' qd s2 R2 rd => k _ _ _ _ _ qd (s1.trans s2) R2 rd
    | false => rw [if_neg Bool.false_ne_true] at q1 ⊢; exact hb.sem R1 q1 fun b ρ' v H' F' qd s2 R2 rd => k _ _ _ _ _ qd (s1.trans s2) R2 rd⟩
end
end DL
namespace DL
open PySem L2
abbrev TVs := SL → (List D → SL → Prop) → Prop
structure DV (X : Cx) (es : List Expr) (ta : TA) (t : TVs) : Prop where
  pe : PA X es ta
  sem : ∀ {G : Cd} {σ : L2.St} {H F : Hp} {ρ : SL} {Q : List V → Hp → Prop} {Qd : List D → SL → Prop}, Rep X.K G σ H F ρ → t ρ Qd →
    (∀ ds ρ' vs H' F', Qd ds ρ' → Same F F' → Rep X.K G σ H' F' ρ' → DenL X.K F' vs ds → Q vs H') → ta σ H Q
section
variable {X : Cx}
def vNil : TVs := fun ρ Q => Q [] ρ
def vCons (t : TD) (u : TVs) : TVs := fun ρ Q => t ρ fun r ρ1 => u ρ1 fun ds ρ2 => Q (r.dat :: ds) ρ2
theorem dv_nil : DV X [] tNil vNil := ⟨pa_nil, fun R h k => k _ _ _ _ _ h (Same.refl _) R .nil⟩
theorem dv_cons {e : Expr} {es : List Expr} {te : TE} {ta : TA} {t : TD} {u : TVs} (h : DE X e te t) (r : DV X es ta u) (hs : starEach (e :: es) X.env = (false, eval e X.env) :: starEach es X.env := by rfl) :
    DV X (e :: es) (tCons te ta) (vCons t u) :=
  ⟨pa_cons h.pe r.pe hs, fun R q k => h.sem R q fun o ρ1 v H1 F1 q1 s1 R1 d1 => by
    obtain ⟨F1', s1', R1', d1'⟩ := R1.share d1
    exact r.sem R1' q1 fun os ρ2 vs H2 F2 q2 s2 R2 d2 => k _ _ _ _ _ q2 (s1.trans (s1'.trans s2)) R2 (.cons (d1'.mono s2) d2)⟩
def dTup (t : TVs) : TD := fun ρ Q => t ρ fun ds ρ' => ds.length ≤ sizeLine ∧ Q (.v (.tup ds)) ρ'
def dLst (t : TVs) : TD := fun ρ Q => t ρ fun ds ρ' => ds.length ≤ sizeLine ∧ Q (.fr (.l ds)) ρ'
theorem de_tup {es : List Expr} {x1 pos} {ta : TA} {t : TVs} (h : DV X es ta t) : DE X (.Tuple es x1 pos) (tTup ta) (dTup t) :=
  ⟨pe_tup h.pe, fun R q k => h.sem R q fun ds ρ' vs H' F' qd s1 R1 d1 => ⟨by rw [d1.length]; exact qd.1, fun p hp => by
    obtain ⟨s2, R2⟩ := R1.alloc (o := .tup vs) hp
    exact k _ _ _ _ _ qd.2 (s1.trans s2) R2 (.tup upd_same (d1.mono s2))⟩⟩
theorem de_lst {es : List Expr} {pos} {ta : TA} {t : TVs} (h : DV X es ta t) : DE X (.List es pos) (tLst ta) (dLst t) :=
  ⟨pe_lst h.pe, fun R q k => h.sem R q fun ds ρ' vs H' F' qd s1 R1 d1 => ⟨by rw [d1.length]; exact qd.1, fun p hp => by
    obtain ⟨R2, rd⟩ := R1.allocFr hp (c := .l ds) ⟨_, upd_same, d1⟩
    exact k _ _ _ _ _ qd.2 s1 R2 rd⟩⟩
/-! ### dict displays -/
abbrev TPs := SL → (List (D × D) → SL → Prop) → Prop
inductive DenPs (K : PySem.W.Frag) (F : Hp) : List (V × V) → List (D × D) → Prop
  | nil : DenPs K F [] []
  | cons {v w : V} {vs : List (V × V)} {d e : D} {ds : List (D × D)} : Den K F v d → Den K F w e → DenPs K F vs ds → DenPs K F ((v, w) :: vs) ((d, e) :: ds)
structure DPs (X : Cx) (pos : Pos) (keys : List (Option Expr)) (values : List Expr) (trs : List (TE × TE)) (t : TPs) : Prop where
  pe : PPs X pos keys values trs
  sem : ∀ {G : Cd} {σ : L2.St} {H F : Hp} {ρ : SL} {Q : List (V × V) → Hp → Prop} {Qd : List (D × D) → SL → Prop}, Rep X.K G σ H F ρ → t ρ Qd →
    (∀ ds ρ' vs H' F', Qd ds ρ' → Same F F' → Rep X.K G σ H' F' ρ' → DenPs X.K F' vs ds → Q vs H') → tPairs trs σ H Q
def psNil : TPs := fun ρ Q => Q [] ρ
def psCons (tk tv : TD) (u : TPs) : TPs := fun ρ Q => tk ρ fun rk ρ1 => tv ρ1 fun rv ρ2 => u ρ2 fun ds ρ3 => Q ((rk.dat, rv.dat) :: ds) ρ3
theorem dps_nil {pos : Pos} : DPs X pos [] [] [] psNil := ⟨pps_nil, fun R h k => k _ _ _ _ _ h (Same.refl _) R .nil⟩
theorem dps_cons {pos : Pos} {k v : Expr} {ks : List (Option Expr)} {vs : List Expr} {tk tv : TE} {trs : List (TE × TE)} {dk dv : TD} {u : TPs} (hk : DE X k tk dk) (hv : DE X v tv dv) (hr : DPs X pos ks vs trs u) :
    DPs X pos (some k :: ks) (v :: vs) ((tk, tv) :: trs) (psCons dk dv u) :=
  ⟨pps_cons hk.pe hv.pe hr.pe, fun R q kk => hk.sem R q fun r1 ρ1 v1 H1 F1 q1 s1 R1 d1 => by
    obtain ⟨F1', s1', R1', d1'⟩ := R1.share d1
    refine hv.sem R1' q1 fun r2 ρ2 v2 H2 F2 q2 s2 R2 d2 => ?_
    obtain ⟨F2', s2', R2', d2'⟩ := R2.share d2
    exact hr.sem R2' q2 fun ds ρ3 ws H3 F3 q3 s3 R3 d3 => kk _ _ _ _ _ q3 (s1.trans (s1'.trans (s2.trans (s2'.trans s3)))) R3 (.cons (d1'.mono (s2.trans (s2'.trans s3))) (d2'.mono s3) d3)⟩
def keyed : List (D × D) → Option (List (Key × D))
  | [] => some []
  | (k, d) :: r => match k.key, keyed r with
    | some k, some r => some ((k, d) :: r)
    | _, _ => none
theorem DenPs.keyed {K : PySem.W.Frag} {F : Hp} : ∀ {ds : List (D × D)} {vs : List (V × V)} {kvs : List (Key × D)}, DenPs K F vs ds → DL.keyed ds = some kvs → ∃ ks : List (Key × V), vs = ks.map (fun kv => (kV kv.1, kv.2)) ∧ DenK K F ks kvs
  | [], _, _, h, e => by cases h; cases e; exact ⟨[], rfl, .nil⟩
  | (k, d) :: r, _, kvs, h, e => by
    cases h with
    | cons a b t =>
      unfold DL.keyed at e
      cases q : k.key with
      | none => rw [q] at e; cases e
      | some k' =>
        rw [q] at e
        cases q2 : DL.keyed r with
        | none => rw [q2] at e; cases e
        | some r' =>
          rw [q2] at e
          cases e
          obtain ⟨ks, e1, e2⟩ := DenPs.keyed t q2
          have := Pk.key (H := F) (.inl a) q
          subst this
          exact ⟨(k', _) :: ks, by rw [e1]; rfl, .cons b e2⟩
def dDisp (t : TPs) : TD := fun ρ Q => t ρ fun ds ρ' => match keyed ds with
  | some kvs => kvs.length ≤ 15 ∧ Q (.fr (.d (kMerge [] kvs))) ρ'
  | none => False
theorem de_disp {pos : Pos} {keys : List (Option Expr)} {values : List Expr} {trs : List (TE × TE)} {t : TPs} (h : DPs X pos keys values trs t) (hall : keys.all (·.isSome) = true) (hl : keys.length = values.length) (h0 : keys ≠ [])
    (h15 : keys.length ≤ 15) : DE X (.Dict keys values pos) (tDisp trs) (dDisp t) := by
  refine ⟨pe_disp h.pe hall hl h0 h15, fun {G σ H F ρ Q Qd} R q k p hp => ?_⟩
  obtain ⟨R1, rd⟩ := R.allocFr (o := .dK []) hp (c := .d []) ⟨_, upd_same, .nil⟩
  obtain ⟨p', e, _, hF, _, hn⟩ := rd
  cases e
  refine h.sem R1.now q fun ds ρ' vs H' F' qd s1 R2 d2 => ?_
  obtain ⟨h1, h2, h3⟩ := R1.held R2 upd_same hF hn (R.freshB hp)
  have R3 := R1.back R2
  cases ek : keyed ds with
  | none => simp only [ek] at qd
  | some kvs =>
    simp only [ek] at qd
    obtain ⟨ks, e1, dk⟩ := d2.keyed ek
    refine ⟨h1, ks, e1, by rw [dk.length]; exact qd.1, ?_⟩
    -- the dict is written: it is nobody's
    have R4 : Rep X.K G σ (upd H' p (.dK (mergeK [] ks))) F' ρ' := by
      have ne : ∀ a o, F' a = some o → a ≠ p := fun a o e z => by subst z; rw [h2] at e; cases e
      refine ⟨R3.len, fun a x e => ?_, R3.sh, fun i c e => ?_, fun i j c e => ?_, R3.sep, R3.fr0, R3.new, fun a x e nl nb => ?_, fun a x e => ?_, R3.bd, R3.lb⟩
      · rw [upd_ne (ne a x e)]; exact R3.ext a x e
      · obtain ⟨q', a, b, e2, e3⟩ := R3.ow i c e
        exact ⟨q', a, b.at (upd_ne fun z => h3 i _ c e rfl (by rw [← z]; exact a)), e2, e3⟩
      · obtain ⟨q', a, b, e2, e3⟩ := R3.bw i j c e
        exact ⟨q', a, b.at (upd_ne fun z => h3 i _ c e rfl (by rw [← z]; exact a)), e2, e3⟩
      · have kk := R3.keep a x e nl nb
        rw [upd_ne (fun z => by subst z; rw [(R.fresh hp).2] at e; cases e)]; exact kk
      · obtain ⟨o', kk⟩ := R3.dom a x e
        by_cases z : a = p
        · subst z; exact ⟨_, upd_same⟩
        · exact ⟨o', by rw [upd_ne z]; exact kk⟩
    exact k _ _ _ _ _ qd.2 s1 R4 ⟨p, rfl, ⟨_, upd_same, dk.merge .nil⟩, h2, .inl (R.fresh hp).2, h3⟩
/-! ### statements -/
def sSeq (t u : TSD) : TSD := fun E ρ => t { E with nx := fun ρ' => u E ρ' } ρ
def sNext : TSD := fun E ρ => E.nx ρ
theorem dss_nil : DSs X [] tNext sNext := ⟨pss_nil, fun R q L => L.nx _ _ _ _ q R⟩
theorem dss_cons {st : Stmt} {rest : List Stmt} {t u : TS} {dt du : TSD} (h : DS X st t dt) (h2 : DSs X rest u du) : DSs X (st :: rest) (tSeq t u) (sSeq dt du) :=
  ⟨pss_cons h.pe h2.pe, fun R q L => h.sem R q ⟨fun σ H F ρ e R1 => h2.sem R1 e L, L.rt, L.bk, L.ct⟩⟩
theorem dss_one {st : Stmt} {t : TS} {dt : TSD} (h : DS X st t dt) : DSs X [st] t dt := ⟨pss_one h.pe, h.sem⟩
def sSet (i : Nat) (t : TD) : TSD := fun E ρ => t ρ fun r ρ1 => E.nx (put ρ1 i r)
theorem ds_set {i : Nat} {x : Str} {e : Expr} {te : TE} {t : TD} {pos pos' : Pos} (hN : X.N.Nodup) (hi : X.N[i]? = some x) (hx : Loc X.env.scope x) (he : DE X e te t) (hs : swapsWith e (some (.Name x pos')) pos.line X.env = pure false := by rfl)
    (hf : X.fn x = true ∨ X.env.scope.names.lookup x = some .local := by first | exact .inl rfl | exact .inr rfl | assumption) : DS X (.Assign [.Name x pos'] e pos) (tAsg te (gName i)) (sSet i t) :=
  ⟨ps_set hN hi hx he.pe hs hf, fun R q L => he.sem R q fun r ρ' v H' F' qd s1 R1 rd => L.nx _ _ _ _ qd (R1.put rd i)⟩
/-! targets -/
abbrev TGd := D → SL → (SL → Prop) → Prop
abbrev TGds := List D → SL → (SL → Prop) → Prop
theorem wipe_comm1 (σ : L2.St) (i : Nat) : ∀ vs : List Nat, wipe (σ.set i none) vs = (wipe σ vs).set i none
  | [] => rfl
  | v :: vs => by
    show (wipe (σ.set i none) vs).set v none = ((wipe σ vs).set v none).set i none
    rw [wipe_comm1 σ i vs]
    by_cases e : i = v
    · subst e; rfl
    · rw [List.set_comm _ _ e]
theorem wipe_append (σ : L2.St) : ∀ a b : List Nat, wipe σ (a ++ b) = wipe (wipe σ b) a
  | [], b => rfl
  | v :: a, b => by
    show (wipe σ (a ++ b)).set v none = (wipe (wipe σ b) a).set v none
    rw [wipe_append σ a b]
theorem wipe_comm (σ : L2.St) : ∀ a b : List Nat, wipe (wipe σ a) b = wipe (wipe σ b) a
  | [], b => rfl
  | v :: a, b => by
    show wipe ((wipe σ a).set v none) b = (wipe (wipe σ b) a).set v none
    rw [wipe_comm1, wipe_comm σ a b]
structure DG (X : Cx) (tg : Expr) (ws : List Nat) (g : TG) (t : TGd) : Prop where
  pe : PG X tg g
  sem : ∀ {G : Cd} {σ : L2.St} {H F : Hp} {ρ : SL} {v : V} {d : D} {Q : L2.St → Hp → Prop} {Qd : SL → Prop}, Rep X.K G σ H F ρ → Den X.K F v d → t d ρ Qd →
    (∀ ρ' σ' , Qd ρ' → Rep X.K G σ' H F ρ' → wipe σ' ws = wipe σ ws → Q σ' H) → g v σ H Q
structure DGs (X : Cx) (ts : List Expr) (ws : List Nat) (g : TGs) (t : TGds) : Prop where
  pe : PGs X ts g
  sem : ∀ {G : Cd} {σ : L2.St} {H F : Hp} {ρ : SL} {vs : List V} {ds : List D} {Q : L2.St → Hp → Prop} {Qd : SL → Prop}, Rep X.K G σ H F ρ → DenL X.K F vs ds → t ds ρ Qd →
    (∀ ρ' σ' , Qd ρ' → Rep X.K G σ' H F ρ' → wipe σ' ws = wipe σ ws → Q σ' H) → g vs σ H Q
def gN (i : Nat) : TGd := fun d ρ Q => Q (ρ.set i (.sh d))
def gsNil : TGds := fun ds ρ Q => match ds with
  | [] => Q ρ
  | _ => False
def gsCons (t : TGd) (u : TGds) : TGds := fun ds ρ Q => match ds with
  | d :: r => t d ρ fun ρ' => u r ρ' Q
  | _ => False
def gT (n : Nat) (u : TGds) : TGd := fun d ρ Q => match d with
  | .tup ds => ds.length = n ∧ u ds ρ Q
  | _ => False
theorem dg_name {i : Nat} {x : Str} {pos : Pos} (hN : X.N.Nodup) (hi : X.N[i]? = some x) (hx : Loc X.env.scope x) (hf : X.fn x = true ∨ X.env.scope.names.lookup x = some .local := by first | exact .inl rfl | exact .inr rfl | assumption) :
    DG X (.Name x pos) [i] (gName i) (gN i) := ⟨pg_name hN hi hx hf, fun R d q k => k _ _ q (R.setSh d i) (by show (List.set _ i _).set i none = List.set _ i none; rw [List.set_set]; rfl)⟩
theorem dgs_nil : DGs X [] [] gNil gsNil := ⟨pgs_nil, fun {G σ H F ρ vs ds Q Qd} R d q k => by
  cases ds with
  | nil => cases d; exact ⟨rfl, k _ _ q R rfl⟩
  | cons _ _ => exact q.elim⟩
theorem dgs_cons {e : Expr} {es : List Expr} {ws us : List Nat} {g : TG} {gs : TGs} {t : TGd} {u : TGds} (h1 : DG X e ws g t) (h2 : DGs X es us gs u)
    (hs : (assignEach (e :: es) X.env).map (·.2) = assign e X.env :: (assignEach es X.env).map (·.2) := by rfl) : DGs X (e :: es) (ws ++ us) (gCons g gs) (gsCons t u) :=
  ⟨pgs_cons h1.pe h2.pe hs, fun {G σ H F ρ vs ds Q Qd} R d q k => by
    cases ds with
    | nil => exact q.elim
    | cons a r =>
      cases d with
      | cons da dr => exact ⟨_, _, rfl, h1.sem R da q fun ρ' σ' q' R' w1 => h2.sem R' dr q' fun ρ2 σ2 q2 R2 w2 => k ρ2 σ2 q2 R2 (by
          rw [wipe_append, wipe_append, w2, wipe_comm, w1, wipe_comm])⟩⟩
theorem dg_tup {es : List Expr} {ws : List Nat} {kk : Nat} {pos : Pos} {g : TGs} {u : TGds} {n : Nat} (hc : X.calm = true) (h : DGs X es ws g u)
    (hn : (assignEach es X.env).length = n := by rfl) (hst : (assignEach es X.env).findIdx? (·.1) = none := by rfl) : DG X (.Tuple es kk pos) ws (gTup X.K n g) (gT n u) :=
  ⟨pg_tup hc h.pe hn hst, fun {G σ H F ρ v d Q Qd} R dd q k => by
    cases d with
    | tup ds =>
      cases dd with
      | tup a b => exact ⟨_, _, rfl, .inl (.inl (R.ext _ _ a)), by rw [b.length]; exact q.1, h.sem R b q.2 k⟩
    | _ => exact q.elim⟩
/-- a, b = e -/
def sAsg (t : TD) (g : TGd) : TSD := fun E ρ => t ρ fun r ρ1 => g r.dat ρ1 E.nx
theorem ds_asg {tg e : Expr} {ws : List Nat} {te : TE} {g : TG} {t : TD} {gd : TGd} {pos : Pos} (he : DE X e te t) (hg : DG X tg ws g gd) (hs : swapsWithSole [tg] e pos.line X.env = pure false := by rfl) (hw : swappedStores [tg] e X.env = pure none := by rfl)
    (h1 : (assignEach [tg] X.env).map (·.2) = [assign tg X.env] := by rfl) : DS X (.Assign [tg] e pos) (tAsg te g) (sAsg t gd) :=
  ⟨ps_asg he.pe hg.pe hs hw h1, fun R q L => he.sem R q fun r ρ' v H' F' qd s1 R1 rd => by
    obtain ⟨F2, s2, R2, d2⟩ := R1.share rd
    exact hg.sem R2 d2 qd fun ρ2 σ2 q2 R3 _ => L.nx _ _ _ _ q2 R3⟩
/-! several values at once, new things still new -/
abbrev TRs := SL → (List Rv → SL → Prop) → Prop
structure DR (X : Cx) (es : List Expr) (ta : TA) (t : TRs) : Prop where
  pe : PA X es ta
  sem : ∀ {G : Cd} {σ : L2.St} {H F : Hp} {ρ : SL} {Q : List V → Hp → Prop} {Qd : List Rv → SL → Prop}, Rep X.K G σ H F ρ → t ρ Qd →
    (∀ rs ρ' vs H' F', Qd rs ρ' → Same F F' → Rep X.K G σ H' F' ρ' → RDs X.K G σ ρ' H' F' vs rs → Q vs H') → ta σ H Q
def rNil : TRs := fun ρ Q => Q [] ρ
def rCons (t : TD) (u : TRs) : TRs := fun ρ Q => t ρ fun r ρ1 => u ρ1 fun rs ρ2 => Q (r :: rs) ρ2
theorem dr_nil : DR X [] tNil rNil := ⟨pa_nil, fun R h k => k _ _ _ _ _ h (Same.refl _) R .nil⟩
theorem dr_cons {e : Expr} {es : List Expr} {te : TE} {ta : TA} {t : TD} {u : TRs} (h : DE X e te t) (r : DR X es ta u) (hs : starEach (e :: es) X.env = (false, eval e X.env) :: starEach es X.env := by rfl) :
    DR X (e :: es) (tCons te ta) (rCons t u) :=
  ⟨pa_cons h.pe r.pe hs, fun R q k => h.sem R q fun r1 ρ1 v H1 F1 q1 s1 R1 d1 =>
    r.sem R1.now q1 fun rs ρ2 vs H2 F2 q2 s2 R2 d2 => k _ _ _ _ _ q2 (s1.trans s2) (R1.back R2) (.cons (d1.hold R1 R2) (d2.back R1) (d2.apart R1 d1))⟩
def puts (ρ : SL) : List Nat → List Rv → SL
  | i :: is, r :: rs => puts (put ρ i r) is rs
  | _, _ => ρ
/-- a, b = e1, e2 (two or three local names) -/
def sPar (is : List Nat) (t : TRs) : TSD := fun E ρ => t ρ fun rs ρ' => rs.length = is.length ∧ E.nx (puts ρ' is rs)
theorem ds_par {i j : Nat} {x y : Str} {a b : Expr} {ta : TA} {t : TRs} {px py pt pos : Pos} {kt k2 pt2} (hc : X.calm = true) (hN : X.N.Nodup) (hi : X.N[i]? = some x) (hj : X.N[j]? = some y) (hij : i ≠ j)
    (hx : X.env.scope.names.lookup x = some .local) (hy : X.env.scope.names.lookup y = some .local) (ha : DR X [a, b] ta t)
    (hw : swappedStores [.Tuple [.Name x px, .Name y py] kt pt] (.Tuple [a, b] k2 pt2) X.env = pure (some [x, y]))
    (hs : swapsWithSole [.Tuple [.Name x px, .Name y py] kt pt] (.Tuple [a, b] k2 pt2) pos.line X.env = pure false := by rfl) :
    DS X (.Assign [.Tuple [.Name x px, .Name y py] kt pt] (.Tuple [a, b] k2 pt2) pos) (tPar i j ta) (sPar [i, j] t) := by
  refine ⟨ps_par hc hN hi hj hij hx hy ha.pe hw hs, fun R q L => ha.sem R q fun rs ρ' vs H' F' qd s1 R1 d1 => ?_⟩
  obtain ⟨hl, qd⟩ := qd
  cases d1 with
  | nil => cases hl
  | cons a1 t1 c1 =>
    cases t1 with
    | nil => cases hl
    | cons a2 t2 c2 =>
      cases t2 with
      | cons _ _ _ => cases hl
      | nil =>
        have R2 := R1.put a1 i
        have t3 := (RDs.cons a2 .nil c2).put R1.len i c1
        cases t3 with
        | cons a3 _ _ => exact ⟨_, _, rfl, L.nx _ _ _ _ qd (R2.put a3 j)⟩
theorem ds_par3 {i j l : Nat} {x y z : Str} {a b c : Expr} {ta : TA} {t : TRs} {px py pz pt pos : Pos} {kt k2 pt2} (hc : X.calm = true) (hN : X.N.Nodup) (hi : X.N[i]? = some x) (hj : X.N[j]? = some y) (hl : X.N[l]? = some z) (hij : i ≠ j) (hil : i ≠ l) (hjl : j ≠ l)
    (hx : X.env.scope.names.lookup x = some .local) (hy : X.env.scope.names.lookup y = some .local) (hz : X.env.scope.names.lookup z = some .local) (ha : DR X [a, b, c] ta t)
    (hw : swappedStores [.Tuple [.Name x px, .Name y py, .Name z pz] kt pt] (.Tuple [a, b, c] k2 pt2) X.env = pure (some [x, y, z]))
    (hs : swapsWithSole [.Tuple [.Name x px, .Name y py, .Name z pz] kt pt] (.Tuple [a, b, c] k2 pt2) pos.line X.env = pure false := by rfl) :
    DS X (.Assign [.Tuple [.Name x px, .Name y py, .Name z pz] kt pt] (.Tuple [a, b, c] k2 pt2) pos) (tPar3 i j l ta) (sPar [i, j, l] t) := by
  refine ⟨ps_par3 hc hN hi hj hl hij hil hjl hx hy hz ha.pe hw hs, fun R q L => ha.sem R q fun rs ρ' vs H' F' qd s1 R1 d1 => ?_⟩
  obtain ⟨hl, qd⟩ := qd
  cases d1 with
  | nil => cases hl
  | cons a1 t1 c1 =>
    cases t1 with
    | nil => cases hl
    | cons a2 t2 c2 =>
      cases t2 with
      | nil => cases hl
      | cons a3 t3 c3 =>
        cases t3 with
        | cons _ _ _ => cases hl
        | nil =>
          have R2 := R1.put a1 i
          have u1 := (RDs.cons a2 (.cons a3 .nil c3) c2).put R1.len i c1
          cases u1 with
          | cons b1 u2 e1 =>
            have R3 := R2.put b1 j
            have u3 := u2.put R2.len j e1
            cases u3 with
            | cons b2 _ _ => exact ⟨_, _, _, rfl, L.nx _ _ _ _ qd (R3.put b2 l)⟩
/-- a, b = e1, e2 by way of a tuple that nobody sees again: all targets names -/
inductive Names (X : Cx) : List Expr → List Nat → TGs → Prop
  | nil : Names X [] [] gNil
  | cons {i : Nat} {is : List Nat} {e : Expr} {es : List Expr} {gs : TGs} : PG X e (gName i) → PGs X es gs → Names X es is gs → (assignEach (e :: es) X.env).map (·.2) = assign e X.env :: (assignEach es X.env).map (·.2) → Names X (e :: es) (i :: is) (gCons (gName i) gs)
theorem Names.pgs {es : List Expr} {is : List Nat} {gs : TGs} (h : Names X es is gs) : PGs X es gs := by
  cases h with
  | nil => exact pgs_nil
  | cons a b c d => exact pgs_cons a b d
theorem nm_nil : Names X [] [] gNil := .nil
theorem nm_cons {i : Nat} {is : List Nat} {x : Str} {es : List Expr} {gs : TGs} {pos : Pos} (hN : X.N.Nodup) (hi : X.N[i]? = some x) (hx : Loc X.env.scope x) (h : Names X es is gs)
    (hf : X.fn x = true ∨ X.env.scope.names.lookup x = some .local := by first | exact .inl rfl | exact .inr rfl | assumption)
    (hs : (assignEach (.Name x pos :: es) X.env).map (·.2) = assign (.Name x pos) X.env :: (assignEach es X.env).map (·.2) := by rfl) : Names X (.Name x pos :: es) (i :: is) (gCons (gName i) gs) :=
  .cons (pg_name hN hi hx hf) h.pgs h hs
theorem Names.run {K : PySem.W.Frag} {G : Cd} {H F : Hp} {D : Ends} {E : EndsD} (L : Link K G D E) {es : List Expr} {is : List Nat} {gs : TGs} (h : Names X es is gs) : ∀ {σ : L2.St} {ρ : SL} {vs : List V} {rs : List Rv}, Rep K G σ H F ρ → RDs K G σ ρ H F vs rs → rs.length = is.length → E.nx (puts ρ is rs) → gs vs σ H D.nx := by
  induction h with
  | nil =>
    intro σ ρ vs rs R d hl q
    cases d with
    | nil => exact ⟨rfl, L.nx _ _ _ _ q R⟩
    | cons _ _ _ => cases hl
  | @cons i is e es gs a b c d ih =>
    intro σ ρ vs rs R dd hl q
    cases dd with
    | nil => cases hl
    | cons a1 t1 c1 => exact ⟨_, _, rfl, ih (R.put a1 i) (t1.put R.len i c1) (Nat.succ.inj hl) q⟩
theorem ds_parT {ts es : List Expr} {is : List Nat} {gs : TGs} {ta : TA} {t : TRs} {pt pos pt2 : Pos} {kt k2 : Nat} (hc : X.calm = true) (hg : Names X ts is gs) (ha : DR X es ta t)
    (hs : swapsWithSole [.Tuple ts kt pt] (.Tuple es k2 pt2) pos.line X.env = pure false := by rfl) (hw : swappedStores [.Tuple ts kt pt] (.Tuple es k2 pt2) X.env = pure none := by rfl)
    (h1 : (assignEach [.Tuple ts kt pt] X.env).map (·.2) = [assign (.Tuple ts kt pt) X.env] := by rfl) (hn : (assignEach ts X.env).length = is.length := by rfl) (hst : (assignEach ts X.env).findIdx? (·.1) = none := by rfl) (hnz : is.length ≤ 1000 := by decide) :
    DS X (.Assign [.Tuple ts kt pt] (.Tuple es k2 pt2) pos) (tAsg (tTup ta) (gTup X.K is.length gs)) (sPar is t) := by
  refine ⟨ps_asg (pe_tup ha.pe) (pg_tup hc hg.pgs hn hst) hs hw h1, fun R q L => ha.sem R q fun rs ρ' vs H' F' qd s1 R1 d1 => ?_⟩
  obtain ⟨hl, qd⟩ := qd
  have hz : vs.length = is.length := by rw [d1.length, hl]
  refine ⟨by rw [hz, sizeLine_eq]; omega, fun p hp => ⟨p, vs, rfl, .inl (.inl upd_same), hz, ?_⟩⟩
  exact hg.run L (R1.junk hp) (d1.junk hp) hl qd
/-! ### expressions as statements, return -/
def sDrop (t : TD) : TSD := fun E ρ => t ρ fun _ ρ' => E.nx ρ'
theorem ds_expr {e : Expr} {te : TE} {t : TD} {pos : Pos} (h : DE X e te t) (hs : swapsWith e none pos.line X.env = pure false := by rfl) : DS X (.Expr e pos) (tDrop te) (sDrop t) :=
  ⟨ps_expr h.pe hs, fun R q L => h.sem R q fun r ρ' v H' F' qd s1 R1 rd => L.nx _ _ _ _ qd R1⟩
def sRet (t : TD) : TSD := fun E ρ => t ρ E.rt
theorem ds_ret {e : Expr} {te : TE} {t : TD} {pos : Pos} (h : DE X e te t) : DS X (.Return (some e) pos) (tRet te) (sRet t) :=
  ⟨ps_ret h.pe, fun R q L => h.sem R q fun r ρ' v H' F' qd s1 R1 rd => L.rt _ _ _ _ _ _ qd R1 rd⟩
def sIf (t : TB) (u w : TSD) : TSD := fun E ρ => t ρ fun b ρ1 => if b = true then u E ρ1 else w E ρ1
theorem ds_if {c : Expr} {a b : List Stmt} {pos : Pos} {tc : TT} {t1 t2 : TS} {t : TB} {u w : TSD} (hc : DT X c tc t) (ha : DSs X a t1 u) (hb : DSs X b t2 w) : DS X (.If c a b pos) (tIfS tc t1 t2) (sIf t u w) :=
  ⟨ps_if hc.pe ha.pe hb.pe, fun R q L => hc.sem R q fun z ρ1 H1 F1 q1 s1 R1 => by
    cases z with
    | true => rw [if_pos rfl] at q1 ⊢; exact ha.sem R1 q1 L
    | false => rw [if_neg Bool.false_ne_true] at q1 ⊢; exact hb.sem R1 q1 L⟩
def sBrk : TSD := fun E ρ => E.bk ρ
def sCnt : TSD := fun E ρ => E.ct ρ
theorem ds_brk {pos : Pos} : DS X (.Break pos) tBreak sBrk := ⟨ps_break, fun R q L => L.bk _ _ _ _ q R⟩
theorem ds_cnt {pos : Pos} : DS X (.Continue pos) tCont sCnt := ⟨ps_continue, fun R q L => L.ct _ _ _ _ q R⟩
theorem ds_pass {pos : Pos} : DS X (.Pass pos) tNext sNext := ⟨ps_pass, fun R q L => L.nx _ _ _ _ q R⟩
/-! ### while -/
def sWhile (t : TB) (b : TSD) : TSD := fun E ρ => ∃ W : Nat → SL → Prop, (∃ m, W m ρ) ∧ ∀ m ρ, W m ρ →
  t ρ fun z ρ1 => if z = true then b { E with nx := fun ρ' => ∃ m', m' < m ∧ W m' ρ', ct := fun ρ' => ∃ m', m' < m ∧ W m' ρ', bk := E.nx } ρ1 else E.nx ρ1
theorem ds_while {c : Expr} {body : List Stmt} {pos : Pos} {tc : TT} {tb : TS} {t : TB} {b : TSD} (hp : PassesOwn (model X.prog X.w) X.A X.env X.xe) (hc : DT X c tc t) (hb : DSs X body tb b) : DS X (.While c body [] pos) (tWhile tc tb) (sWhile t b) := by
  refine ⟨ps_while hp hc.pe hb.pe, fun {G σ H F ρ D E} R q L => ?_⟩
  obtain ⟨W, ⟨m0, w0⟩, hW⟩ := q
  refine ⟨fun m σ H => ∃ F ρ, Rep X.K G σ H F ρ ∧ W m ρ, ⟨m0, F, ρ, R, w0⟩, ?_⟩
  rintro m σ1 H1 ⟨F1, ρ1, R1, w1⟩
  refine hc.sem R1 (hW m ρ1 w1) fun z ρ2 H2 F2 q2 s2 R2 => ?_
  cases z with
  | true =>
    rw [if_pos rfl] at q2 ⊢
    refine ⟨fun σ' H' => ∃ m' F ρ, m' < m ∧ Rep X.K G σ' H' F ρ ∧ W m' ρ, fun σ' H' ⟨m', F, ρ, h1, h2, h3⟩ => ⟨m', h1, F, ρ, h2, h3⟩, ?_⟩
    exact hb.sem R2 q2 ⟨fun σ H F ρ ⟨m', h1, h2⟩ R3 => ⟨m', F, ρ, h1, R3, h2⟩, L.rt, L.nx, fun σ H F ρ ⟨m', h1, h2⟩ R3 => ⟨m', F, ρ, h1, R3, h2⟩⟩
  | false =>
    rw [if_neg Bool.false_ne_true] at q2 ⊢
    exact L.nx _ _ _ _ q2 R2
end
end DL
namespace DL
open PySem L2
/-! ### what is walked -/
/-- an iterator hands out these data, whatever else goes on -/
structure ItD (K : PySem.W.Frag) (G : Cd) (J : It) (its : List D) : Prop where
  stop : ∀ {σ : L2.St} {H F : Hp} {ρ : SL}, Rep K G σ H F ρ → J.stop its.length H
  go : ∀ {σ : L2.St} {H F : Hp} {ρ : SL} (i : Nat), i < its.length → Rep K G σ H F ρ → J.go i H
  yld : ∀ {σ : L2.St} {H F : Hp} {ρ : SL} (i : Nat) (d : D) (x : V) (H' : Hp), its[i]? = some d → Rep K G σ H F ρ → J.yld i H x H' → (H' = H ∧ Den K F x d) ∨ ∃ T xs, H T = none ∧ H' = upd H T (.tup xs) ∧ Den K (upd F T (.tup xs)) x d
theorem ItD.step {K : PySem.W.Frag} {G : Cd} {J : It} {its : List D} (IT : ItD K G J its) {σ : L2.St} {H F : Hp} {ρ : SL} {i : Nat} {d : D} {x : V} {H' : Hp} (hi : its[i]? = some d) (R : Rep K G σ H F ρ) (y : J.yld i H x H') :
    ∃ F3, Same F F3 ∧ Rep K G σ H' F3 ρ ∧ Den K F3 x d ∧ ∀ v c, RDen K G σ ρ H F v (.fr c) → RDen K G σ ρ H' F3 v (.fr c) := by
  rcases IT.yld i d x H' hi R y with ⟨rfl, dd⟩ | ⟨T, xs, hT, rfl, dd⟩
  · exact ⟨F, Same.refl _, R, dd, fun _ _ h => h⟩
  · obtain ⟨s1, R1⟩ := R.alloc (o := .tup xs) hT
    refine ⟨_, s1, R1, dd, fun v c h => ?_⟩
    obtain ⟨q, e, a1, a2, a3, n⟩ := h
    obtain ⟨o', ho⟩ := a1.ex
    have ne : q ≠ T := fun z => by subst z; rw [hT] at ho; cases ho
    exact ⟨q, e, (a1.mono s1).at (upd_ne ne), by rw [upd_ne ne]; exact a2, a3, n⟩
abbrev TSrc := SL → (List D → SL → Prop) → Prop
structure DI (X : Cx) (tg iter : Expr) (wi : TI) (t : TSrc) : Prop where
  pe : PI X tg iter wi
  sem : ∀ {G : Cd} {σ : L2.St} {H F : Hp} {ρ : SL} {Q : It → Hp → Prop} {Qd : List D → SL → Prop}, Rep X.K G σ H F ρ → t ρ Qd →
    (∀ its ρ' J H' F', Qd its ρ' → Same F F' → Rep X.K G σ H' F' ρ' → (∀ G' : Cd, G'.F0 = F' → ItD X.K G' J its) → Q J H') → wi σ H Q
def chars (x : Str) : List D := x.cps.toList.map fun c => .str ⟨#[c]⟩
def itsOf : D → Option (List D)
  | .lst l => some l
  | .tup l => some l
  | .str x => some (chars x)
  | _ => none
section
variable {K : PySem.W.Frag}
theorem itd_list {G : Cd} {a : Addr} {xs : List V} {ds : List D} (hH : ∀ {σ : L2.St} {H F : Hp} {ρ : SL}, Rep K G σ H F ρ → H a = some (.lst xs) ∧ DenL K F xs ds) : ItD K G (Itl K a) ds where
  stop := fun R => ⟨xs, .inl (.inl (hH R).1), by rw [(hH R).2.length]; exact Nat.le_refl _⟩
  go := fun i hi R => by
    obtain ⟨h1, h2⟩ := hH R
    rw [← h2.length] at hi
    exact ⟨xs, xs[i], .inl (.inl h1), List.getElem?_eq_getElem hi⟩
  yld := fun {σ H F ρ} i d x H' hi R y => by
    obtain ⟨rfl, y⟩ := y
    obtain ⟨h1, h2⟩ := hH R
    have hx := y xs (.inl (.inl h1))
    obtain ⟨d', e, dd⟩ := h2.get' hx
    rw [hi] at e; cases e
    exact .inl ⟨rfl, dd⟩
theorem itd_tup {G : Cd} {a : Addr} {xs : List V} {ds : List D} (h : G.F0 a = some (.tup xs)) (hd : DenL K G.F0 xs ds) : ItD K G (Itt K a) ds where
  stop := fun R => ⟨xs, .inl (.inl (R.ext _ _ (R.fr0 _ _ h))), by rw [hd.length]; exact Nat.le_refl _⟩
  go := fun i hi R => by
    rw [← hd.length] at hi
    exact ⟨xs, xs[i], .inl (.inl (R.ext _ _ (R.fr0 _ _ h))), List.getElem?_eq_getElem hi⟩
  yld := fun {σ H F ρ} i d x H' hi R y => by
    obtain ⟨rfl, y⟩ := y
    have hx := y xs (.inl (.inl (R.ext _ _ (R.fr0 _ _ h))))
    obtain ⟨d', e, dd⟩ := hd.get' hx
    rw [hi] at e; cases e
    exact .inl ⟨rfl, dd.mono R.fr0⟩
theorem itd_str {G : Cd} {z : Str} (hz : PyData.strOk z = true) : ItD K G (Its z) (chars z) where
  stop := fun R => by
    show z.cps.size ≤ (chars z).length
    unfold chars
    rw [List.length_map, Array.length_toList]
    exact Nat.le_refl _
  go := fun i hi R => by
    unfold chars at hi
    rw [List.length_map, Array.length_toList] at hi
    exact hi
  yld := fun {σ H F ρ} i d x H' hi R y => by
    obtain ⟨rfl, c, hc, rfl⟩ := y
    unfold chars at hi
    rw [List.getElem?_map, Array.getElem?_toList, hc] at hi
    cases hi
    exact .inl ⟨rfl, .str _ (strOk_one hz (by
      have : z.cps.toList[i]? = some c := by rw [Array.getElem?_toList]; exact hc
      exact List.mem_of_getElem? this))⟩
def rangeC (lo c : Int) (n : Nat) : List D := (List.range n).map fun (i : Nat) => D.int (lo + (i : Int) * c)
theorem rangeC_at {lo c : Int} {n i : Nat} {d : D} (h : (rangeC lo c n)[i]? = some d) : i < n ∧ d = .int (lo + (i : Int) * c) := by
  unfold rangeC at h
  rw [List.getElem?_map] at h
  by_cases q : i < n
  · rw [List.getElem?_range q] at h
    cases h
    exact ⟨q, rfl⟩
  · rw [List.getElem?_eq_none (by rw [List.length_range]; omega)] at h
    cases h
theorem rangeC_length (lo c : Int) (n : Nat) : (rangeC lo c n).length = n := by
  unfold rangeC
  rw [List.length_map, List.length_range]
theorem itd_rng {G : Cd} {lo : Int} {n : Nat} : ItD K G (Itr lo n) (rangeC lo 1 n) where
  stop := fun R => by rw [rangeC_length]; exact Nat.le_refl _
  go := fun i hi R => by rw [rangeC_length] at hi; exact hi
  yld := fun {σ H F ρ} i d x H' hi R y => by
    obtain ⟨rfl, rfl⟩ := y
    obtain ⟨_, rfl⟩ := rangeC_at hi
    rw [Int.mul_one]
    exact .inl ⟨rfl, .int _⟩
theorem itd_rngC {G : Cd} {lo c : Int} {n : Nat} : ItD K G (Itc lo c n) (rangeC lo c n) where
  stop := fun R => by rw [rangeC_length]; exact Nat.le_refl _
  go := fun i hi R => by rw [rangeC_length] at hi; exact hi
  yld := fun {σ H F ρ} i d x H' hi R y => by
    obtain ⟨rfl, rfl⟩ := y
    obtain ⟨_, rfl⟩ := rangeC_at hi
    exact .inl ⟨rfl, .int _⟩
def enumD (ds : List D) : List D := ds.mapIdx fun i d => .tup [.int (i : Nat), d]
theorem itd_enum {G : Cd} {a : Addr} {xs : List V} {ds : List D} (hH : ∀ {σ : L2.St} {H F : Hp} {ρ : SL}, Rep K G σ H F ρ → H a = some (.lst xs) ∧ DenL K F xs ds) : ItD K G (Ite K a) (enumD ds) where
  stop := fun R => ⟨xs, .inl (.inl (hH R).1), by rw [(hH R).2.length]; unfold enumD; rw [List.length_mapIdx]; exact Nat.le_refl _⟩
  go := fun i hi R => by
    obtain ⟨h1, h2⟩ := hH R
    unfold enumD at hi
    rw [List.length_mapIdx, ← h2.length] at hi
    exact ⟨xs, xs[i], .inl (.inl h1), List.getElem?_eq_getElem hi⟩
  yld := fun {σ H F ρ} i d x H' hi R y => by
    obtain ⟨T, z, rfl, nT, rfl, y⟩ := y
    obtain ⟨h1, h2⟩ := hH R
    have hx := y xs (.inl (.inl h1))
    obtain ⟨d', e, dd⟩ := h2.get' hx
    unfold enumD at hi
    rw [List.getElem?_mapIdx, e] at hi
    cases hi
    obtain ⟨s1, R1⟩ := R.alloc (o := .tup [.int (i : Nat), z]) nT
    exact .inr ⟨T, _, nT, rfl, .tup upd_same (.cons (.int _) (.cons (dd.mono s1) .nil))⟩
def zipD (as bs : List D) : List D := List.zipWith (fun a b => D.tup [a, b]) as bs
theorem itd_zip {G : Cd} {a b : Addr} {xs ys : List V} {ds es : List D} (hH : ∀ {σ : L2.St} {H F : Hp} {ρ : SL}, Rep K G σ H F ρ → (H a = some (.lst xs) ∧ DenL K F xs ds) ∧ H b = some (.lst ys) ∧ DenL K F ys es) : ItD K G (Itz K a b) (zipD ds es) where
  stop := fun R => ⟨xs, ys, .inl (.inl (hH R).1.1), .inl (.inl (hH R).2.1), by
    rw [(hH R).1.2.length, (hH R).2.2.length]; unfold zipD; rw [List.length_zipWith]; omega⟩
  go := fun i hi R => by
    obtain ⟨⟨h1, h2⟩, h3, h4⟩ := hH R
    unfold zipD at hi
    rw [List.length_zipWith, ← h2.length, ← h4.length] at hi
    exact ⟨xs, ys, xs[i]'(by omega), ys[i]'(by omega), .inl (.inl h1), .inl (.inl h3), List.getElem?_eq_getElem _, List.getElem?_eq_getElem _⟩
  yld := fun {σ H F ρ} i d x H' hi R y => by
    obtain ⟨T, z, w, rfl, nT, rfl, y1, y2⟩ := y
    obtain ⟨⟨h1, h2⟩, h3, h4⟩ := hH R
    obtain ⟨d1, e1, dd1⟩ := h2.get' (y1 xs (.inl (.inl h1)))
    obtain ⟨d2, e2, dd2⟩ := h4.get' (y2 ys (.inl (.inl h3)))
    unfold zipD at hi
    rw [List.getElem?_zipWith, e1, e2] at hi
    cases hi
    obtain ⟨s1, R1⟩ := R.alloc (o := .tup [z, w]) nT
    exact .inr ⟨T, _, nT, rfl, .tup upd_same (.cons (dd1.mono s1) (.cons (dd2.mono s1) .nil))⟩
end
section
variable {X : Cx} {tg : Expr}
def iAny (K : PySem.W.Frag) (tl : TE) : TI := fun σ H R => tl σ H fun x H1 => (∃ a, x = .ref a ∧ (∃ xs, SqL K H1 a xs) ∧ R (Itl K a) H1) ∨ ((∃ a, x = .ref a ∧ (∃ xs, SqT K H1 a xs) ∧ R (Itt K a) H1) ∨ ∃ z, x = .str z ∧ R (Its z) H1)
theorem pi_any {l : Expr} {tl : TE} (hl : PE X l tl) : PI X tg l (iAny X.K tl) := by
  refine ⟨fun pins s σ H R I h => ?_⟩
  refine thn (hl.run pins s σ H _ I h) fun v s1 ⟨x, H1, I1, r1, q1⟩ => ?_
  rcases q1 with ⟨a, e, ⟨xs, hq⟩, q⟩ | ⟨a, e, ⟨xs, hq⟩, q⟩ | ⟨z, e, q⟩
  · subst e
    cases r1
    obtain ⟨its, rv, p, hz⟩ := I1.list hq
    refine wpAny_pyIter_list p.isList ?_
    refine ⟨s1.heap.objs.size, [s1.heap.objs.size], _, _, H1, rfl, I1.kept (t' := s1.toks) fun b o e => Heap.get?_push_of_some _ e, turn_list a _, ⟨_, Heap.get?_push_size _ rfl, rfl, rfl⟩, fun b hb => ?_, q⟩
    have e : b = s1.heap.objs.size := by simpa using hb
    subst e
    exact I1.fpOk (Nat.le_refl _) (I1.hok.fresh (Nat.le_refl _))
  · subst e
    cases r1
    obtain ⟨its, rv, p, hz⟩ := I1.tuple hq
    refine wpAny_pyIter_tuple (show s1.heap.IsTuple a its.toArray from p) ?_
    refine ⟨s1.heap.objs.size, [s1.heap.objs.size], _, _, H1, rfl, I1.kept (t' := s1.toks) fun b o e => Heap.get?_push_of_some _ e, turn_tuple a _, ⟨_, Heap.get?_push_size _ rfl, rfl, rfl⟩, fun b hb => ?_, q⟩
    have e : b = s1.heap.objs.size := by simpa using hb
    subst e
    exact I1.fpOk (Nat.le_refl _) (I1.hok.fresh (Nat.le_refl _))
  · subst e
    obtain ⟨t, rfl⟩ := r1
    cases ha : z.cps.all (· < 128)
    · exact PySem.wpAny_pyIter_wide ha (pi_one (tk := s1.toks) I1 _ (turn_str _ z t "str_iterator" (.inr rfl)) ⟨_, Heap.get?_push_size _ rfl, rfl, rfl⟩ q)
    · exact PySem.wpAny_pyIter_ascii ha (pi_one (tk := s1.toks) I1 _ (turn_str _ z t "str_ascii_iterator" (.inl rfl)) ⟨_, Heap.get?_push_size _ rfl, rfl, rfl⟩ q)
def srcE (t : TD) : TSrc := fun ρ Q => t ρ fun r ρ' => match itsOf r.dat with
  | some l => Q l ρ'
  | none => False
theorem di_e {e : Expr} {te : TE} {t : TD} (h : DE X e te t) : DI X tg e (iAny X.K te) (srcE t) :=
  ⟨pi_any h.pe, fun {G σ H F ρ Q Qd} R q k => h.sem R q fun r ρ' v H' F' qd s1 R1 rd => by
    obtain ⟨F2, s2, R2, d2⟩ := R1.share rd
    cases hd : r.dat with
    | lst l =>
      rw [hd] at d2 qd
      cases d2 with
      | lst a b => exact .inl ⟨_, rfl, ⟨_, .inl (.inl (R2.ext _ _ a))⟩, k l _ _ _ _ qd (s1.trans s2) R2 fun G' e => itd_list fun R3 => by subst e; exact ⟨R3.ext _ _ (R3.fr0 _ _ a), b.mono R3.fr0⟩⟩
    | tup l =>
      rw [hd] at d2 qd
      cases d2 with
      | tup a b => exact .inr (.inl ⟨_, rfl, ⟨_, .inl (.inl (R2.ext _ _ a))⟩, k l _ _ _ _ qd (s1.trans s2) R2 fun G' e => by subst e; exact itd_tup a b⟩)
    | str z =>
      rw [hd] at d2 qd
      cases d2 with
      | str _ a => exact .inr (.inr ⟨z, rfl, k _ _ _ _ _ qd (s1.trans s2) R2 fun G' e => itd_str a⟩)
    | _ => rw [hd] at qd; exact qd.elim⟩
/-- range(n), range(a, b), range(a, b, -1) -/
def big : Int := 4611686018427387904
def srcR1 (t : TVs) : TSrc := fun ρ Q => t ρ fun ds ρ' => match ds with
  | [.int j] => -big ≤ j ∧ j < big ∧ Q (rangeC 0 1 j.toNat) ρ'
  | _ => False
def srcR2 (t : TVs) : TSrc := fun ρ Q => t ρ fun ds ρ' => match ds with
  | [.int i, .int j] => (-big ≤ i ∧ i < big ∧ -big ≤ j ∧ j < big) ∧ Q (rangeC i 1 (j - i).toNat) ρ'
  | _ => False
def srcR3 (t : TVs) : TSrc := fun ρ Q => t ρ fun ds ρ' => match ds with
  | [.int i, .int j, .int c] => c = -1 ∧ (-big ≤ i ∧ i < big ∧ -big ≤ j ∧ j < big) ∧ Q (rangeC i (-1) (i - j).toNat) ρ'
  | _ => False
theorem di_r1 {a : Expr} {ta : TA} {t : TVs} {p pos : Pos} (hg : Gl X "range") (hm : X.mg "range" = none) (ha : DV X [a] ta t) (hs : starEach [a] X.env = [(false, eval a X.env)] := by rfl) : DI X tg (.Call (.Name "range" p) [a] [] pos) (iRng1 ta) (srcR1 t) := by
  refine ⟨pi_range1 hg hm ha.pe hs, fun {G σ H F ρ Q Qd} R q k => ha.sem R q fun ds ρ' vs H' F' qd s1 R1 d1 => ?_⟩
  split at qd
  · cases d1 with
    | cons a b =>
      cases a; cases b
      exact ⟨_, rfl, qd.1, qd.2.1, k _ _ _ _ _ qd.2.2 s1 R1 fun G' _ => itd_rng⟩
  · exact qd.elim
theorem di_r2 {a b : Expr} {ta : TA} {t : TVs} {p pos : Pos} (hg : Gl X "range") (hm : X.mg "range" = none) (ha : DV X [a, b] ta t) (hs : starEach [a, b] X.env = [(false, eval a X.env), (false, eval b X.env)] := by rfl) (hs2 : starEach [b] X.env = [(false, eval b X.env)] := by rfl) :
    DI X tg (.Call (.Name "range" p) [a, b] [] pos) (iRng2 ta) (srcR2 t) := by
  refine ⟨pi_range2 hg hm ha.pe hs hs2, fun {G σ H F ρ Q Qd} R q k => ha.sem R q fun ds ρ' vs H' F' qd s1 R1 d1 => ?_⟩
  split at qd
  · cases d1 with
    | cons a b =>
      cases b with
      | cons b c =>
        cases a; cases b; cases c
        exact ⟨_, _, rfl, qd.1, k _ _ _ _ _ qd.2 s1 R1 fun G' _ => itd_rng⟩
  · exact qd.elim
theorem di_r3 {a b c : Expr} {ta : TA} {t : TVs} {p pos : Pos} (hg : Gl X "range") (hm : X.mg "range" = none) (ha : DV X [a, b, c] ta t) (hs : starEach [a, b, c] X.env = (false, eval a X.env) :: starEach [b, c] X.env := by rfl) (hpl : (backTo pos (starEach [b, c] X.env)).any (·.1) = false := by rfl) :
    DI X tg (.Call (.Name "range" p) [a, b, c] [] pos) (iRng3 ta) (srcR3 t) := by
  refine ⟨pi_range3 hg hm ha.pe hs hpl, fun {G σ H F ρ Q Qd} R q k => ha.sem R q fun ds ρ' vs H' F' qd s1 R1 d1 => ?_⟩
  split at qd
  · cases d1 with
    | cons a b =>
      cases b with
      | cons b c =>
        cases c with
        | cons c d =>
          cases a; cases b; cases c; cases d
          obtain ⟨rfl, ⟨h1, h2, h3, h4⟩, qd⟩ := qd
          exact ⟨_, _, _, _, rfl, RgC.neg h1 h2 h3 h4, k _ _ _ _ _ qd s1 R1 fun G' _ => itd_rngC⟩
  · exact qd.elim
def srcEnum (t : TVs) : TSrc := fun ρ Q => t ρ fun ds ρ' => match ds with
  | [.lst l] => Q (enumD l) ρ'
  | _ => False
theorem di_enum {e : Expr} {ta : TA} {t : TVs} {p pos tpos : Pos} {elts : List Expr} {kk : Nat} (hg : Gl X "enumerate") (hm : X.mg "enumerate" = none) (ha : DV X [e] ta t) (hs : starEach [e] X.env = [(false, eval e X.env)] := by rfl) :
    DI X (.Tuple elts kk tpos) (.Call (.Name "enumerate" p) [e] [] pos) (iEnum X.K ta) (srcEnum t) := by
  refine ⟨pi_enum hg hm ha.pe hs, fun {G σ H F ρ Q Qd} R q k => ha.sem R q fun ds ρ' vs H' F' qd s1 R1 d1 => ?_⟩
  split at qd
  · cases d1 with
    | cons a b =>
      cases b
      cases a with
      | lst a b => exact ⟨_, _, rfl, .inl (.inl (R1.ext _ _ a)), k _ _ _ _ _ qd s1 R1 fun G' e => itd_enum fun R3 => by subst e; exact ⟨R3.ext _ _ (R3.fr0 _ _ a), b.mono R3.fr0⟩⟩
  · exact qd.elim
def srcZip (t : TVs) : TSrc := fun ρ Q => t ρ fun ds ρ' => match ds with
  | [.lst l, .lst m] => Q (zipD l m) ρ'
  | _ => False
theorem di_zip {e e2 : Expr} {ta : TA} {t : TVs} {p pos tpos : Pos} {elts : List Expr} {kk : Nat} (hg : Gl X "zip") (hm : X.mg "zip" = none) (ha : DV X [e, e2] ta t)
    (hs : starEach [e, e2] X.env = (false, eval e X.env) :: starEach [e2] X.env := by rfl) (hpl : (backTo pos (starEach [e2] X.env)).any (·.1) = false := by rfl) :
    DI X (.Tuple elts kk tpos) (.Call (.Name "zip" p) [e, e2] [] pos) (iZip X.K ta) (srcZip t) := by
  refine ⟨pi_zip hg hm ha.pe hs hpl, fun {G σ H F ρ Q Qd} R q k => ha.sem R q fun ds ρ' vs H' F' qd s1 R1 d1 => ?_⟩
  split at qd
  · cases d1 with
    | cons a b =>
      cases b with
      | cons b c =>
        cases c
        cases a with
        | lst a1 a2 =>
          cases b with
          | lst b1 b2 => exact ⟨_, _, _, _, rfl, .inl (.inl (R1.ext _ _ a1)), .inl (.inl (R1.ext _ _ b1)), k _ _ _ _ _ qd s1 R1 fun G' e => itd_zip fun R3 => by subst e; exact ⟨⟨R3.ext _ _ (R3.fr0 _ _ a1), a2.mono R3.fr0⟩, R3.ext _ _ (R3.fr0 _ _ b1), b2.mono R3.fr0⟩⟩
  · exact qd.elim
/-! ### for -/
def forL (g : TGd) (b : TSD) (E : EndsD) : List D → SL → Prop
  | [], ρ => E.nx ρ
  | d :: r, ρ => g d ρ fun ρ1 => b { nx := forL g b E r, rt := E.rt, bk := E.nx, ct := forL g b E r } ρ1
def sFor (t : TSrc) (g : TGd) (b : TSD) : TSD := fun E ρ => t ρ fun its ρ' => forL g b E its ρ'
theorem Link.at {K : PySem.W.Frag} {G : Cd} {D : Ends} {E : EndsD} {σ : L2.St} {H F : Hp} {ρ : SL} (L : Link K G D E) (R : Rep K G σ H F ρ) : Link K (G.at F) D E :=
  ⟨fun _ _ _ _ q R' => L.nx _ _ _ _ q (R.unbase R'), fun _ _ _ _ r _ q R' rd => L.rt _ _ _ _ _ _ q (R.unbase R') (by cases r <;> exact rd), fun _ _ _ _ q R' => L.bk _ _ _ _ q (R.unbase R'), fun _ _ _ _ q R' => L.ct _ _ _ _ q (R.unbase R')⟩
theorem drop_get {α : Type} {l : List α} {i : Nat} {d : α} (h : l[i]? = some d) : l.drop i = d :: l.drop (i + 1) := by
  obtain ⟨hi, e⟩ := List.getElem?_eq_some_iff.mp h
  rw [← e]
  exact List.drop_eq_getElem_cons hi
theorem ds_for {iter : Expr} {body : List Stmt} {ws : List Nat} {wi : TI} {g : TG} {tb : TS} {t : TSrc} {gd : TGd} {b : TSD} {pos : Pos} (hp : PassesOwn (model X.prog X.w) X.A X.env X.xe) (hc : X.calm = true) (hi : DI X tg iter wi t) (hg : DG X tg ws g gd) (hb : DSs X body tb b)
    (hs : ∀ x, foldedSetIterable iter X.env x = pure x := by intro _; rfl) : DS X (.For tg iter body [] pos) (tFor wi g tb) (sFor t gd b) := by
  refine ⟨ps_for hp hc hi.pe hg.pe hb.pe hs, fun {G σ H F ρ D E} R q L => hi.sem R q fun its ρ' J H1 F1 qd s1 R1 hJ => ?_⟩
  have IT := hJ (G.at F1) rfl
  have L' := L.at R1
  refine ⟨fun i m σ H => m = its.length - i ∧ i ≤ its.length ∧ ∃ F ρ, Rep X.K (G.at F1) σ H F ρ ∧ forL gd b E (its.drop i) ρ, ⟨_, rfl, Nat.zero_le _, F1, ρ', R1.rebase, qd⟩, ?_⟩
  rintro i m σ2 H2 ⟨rfl, hi, F2, ρ2, R2, q2⟩
  by_cases hlt : i < its.length
  · refine .inr ⟨IT.go i hlt R2, fun σ H => ∃ F ρ, Rep X.K (G.at F1) σ H F ρ ∧ forL gd b E (its.drop (i + 1)) ρ, fun σ' H' ⟨F, ρ, h1, h2⟩ => ⟨its.length - (i + 1), by omega, rfl, hlt, F, ρ, h1, h2⟩, fun x H' y => ?_⟩
    have hd := List.getElem?_eq_getElem hlt
    rw [drop_get hd] at q2
    obtain ⟨F3, s3, R3, d3, _⟩ := IT.step hd R2 y
    refine hg.sem R3 d3 q2 fun ρ4 σ4 q4 R4 _ => ?_
    exact hb.sem R4 q4 ⟨fun σ H F ρ q R => ⟨F, ρ, R, q⟩, L'.rt, fun σ H F ρ q R => L'.nx σ H F ρ q R, fun σ H F ρ q R => ⟨F, ρ, R, q⟩⟩
  · have e : i = its.length := by omega
    subst e
    rw [List.drop_length] at q2
    exact .inl ⟨IT.stop R2, L'.nx _ _ _ _ q2 R2⟩
/-! ### list comprehensions -/
def wipeD (ρ : SL) : List Nat → SL
  | [] => ρ
  | v :: vs => (wipeD ρ vs).set v .un
theorem wipeD_length (ρ : SL) : ∀ vs : List Nat, (wipeD ρ vs).length = ρ.length
  | [] => rfl
  | v :: vs => by unfold wipeD; rw [List.length_set, wipeD_length ρ vs]
theorem wipeD_get {ρ : SL} {i : Nat} {s : Sl} : ∀ {vs : List Nat}, (wipeD ρ vs)[i]? = some s → s = .un ∨ (ρ[i]? = some s ∧ i ∉ vs)
  | [], h => .inr ⟨h, by simp⟩
  | v :: vs, h => by
    rcases set_get h with ⟨_, q⟩ | ⟨ne, q⟩
    · exact .inl q
    · rcases wipeD_get q with z | ⟨z, w⟩
      · exact .inl z
      · exact .inr ⟨z, by simp [w]; exact ne⟩
theorem wipe_get (σ : L2.St) {i : Nat} : ∀ {vs : List Nat}, i ∉ vs → (wipe σ vs)[i]? = σ[i]?
  | [], _ => rfl
  | v :: vs, h => by
    simp only [List.mem_cons, not_or] at h
    unfold wipe
    rw [List.getElem?_set_ne (Ne.symm h.1), wipe_get σ h.2]
theorem Rep.wipe {K : PySem.W.Frag} {G : Cd} {σ : L2.St} {H F : Hp} {ρ : SL} (R : Rep K G σ H F ρ) (vs : List Nat) : Rep K G (L2.wipe σ vs) H F (wipeD ρ vs) :=
  R.slots (by rw [wipeD_length, wipe_length]; exact R.len) fun i s e => by
    rcases wipeD_get e with z | ⟨z, w⟩
    · exact .inl z
    · exact .inr ⟨z, wipe_get σ w⟩
theorem Rep.unwipe {K : PySem.W.Frag} {G : Cd} {σ : L2.St} {H F : Hp} {ρ : SL} {vs : List Nat} (R : Rep K G (L2.wipe σ vs) H F ρ) : Rep K G σ H F (wipeD ρ vs) :=
  R.slots (by rw [wipeD_length]; exact R.len.trans (wipe_length σ vs)) fun i s e => by
    rcases wipeD_get e with z | ⟨z, w⟩
    · exact .inl z
    · exact .inr ⟨z, (wipe_get σ w).symm⟩
theorem RDen.wipe {K : PySem.W.Frag} {G : Cd} {σ : L2.St} {H F : Hp} {ρ : SL} {v : V} {r : Rv} (a : RDen K G σ ρ H F v r) (vs : List Nat) : RDen K G (L2.wipe σ vs) (wipeD ρ vs) H F v r :=
  a.slots fun i s e => by
    rcases wipeD_get e with z | ⟨z, w⟩
    · exact .inl z
    · exact .inr ⟨z, wipe_get σ w⟩
theorem RDen.unwipe {K : PySem.W.Frag} {G : Cd} {σ : L2.St} {H F : Hp} {ρ : SL} {v : V} {r : Rv} {vs : List Nat} (a : RDen K G (L2.wipe σ vs) ρ H F v r) : RDen K G σ (wipeD ρ vs) H F v r :=
  a.slots fun i s e => by
    rcases wipeD_get e with z | ⟨z, w⟩
    · exact .inl z
    · exact .inr ⟨z, (wipe_get σ w).symm⟩
theorem wipe_idem1 (σ : L2.St) {i : Nat} : ∀ {vs : List Nat}, i ∈ vs → (L2.wipe σ vs).set i none = L2.wipe σ vs
  | [], h => by simp at h
  | v :: vs, h => by
    unfold L2.wipe
    by_cases e : i = v
    · subst e; rw [List.set_set]
    · rw [List.set_comm _ _ (Ne.symm e), wipe_idem1 σ (by simpa [e] using h)]
theorem wipe_twice (σ : L2.St) (vs : List Nat) : L2.wipe (L2.wipe σ vs) vs = L2.wipe σ vs := by
  have : ∀ us : List Nat, (∀ i ∈ us, i ∈ vs) → L2.wipe (L2.wipe σ vs) us = L2.wipe σ vs := by
    intro us
    induction us with
    | nil => intro _; rfl
    | cons u us ih =>
      intro h
      show (L2.wipe (L2.wipe σ vs) us).set u none = _
      rw [ih fun i hi => h i (List.mem_cons_of_mem _ hi), wipe_idem1 σ (h u List.mem_cons_self)]
  exact this vs fun _ h => h
/-- acc: what is made so far -/
def lcL (g : TGd) (tt : TB) (te : TD) (vs : List Nat) (Q : List D → SL → Prop) : List D → List D → SL → Prop
  | [], acc, ρ => Q acc ρ
  | d :: r, acc, ρ => g d ρ fun ρ1 => tt ρ1 fun b ρ2 => if b = true then te ρ2 fun rv ρ3 => acc.length < sizeLine ∧ lcL g tt te vs Q r (acc ++ [rv.dat]) (wipeD ρ3 vs) else lcL g tt te vs Q r acc (wipeD ρ2 vs)
/-- a comprehension's source: an expression, or one's own list by its name (back: it is one's own again) -/
abbrev TSrcC := SL → (List D → (SL → SL) → SL → Prop) → Prop
structure DIc (X : Cx) (tg iter : Expr) (wi : TI) (t : TSrcC) : Prop where
  pe : PI X tg iter wi
  sem : ∀ {G : Cd} {σ : L2.St} {H F : Hp} {ρ : SL} {Q : It → Hp → Prop} {Qd : List D → (SL → SL) → SL → Prop}, Rep X.K G σ H F ρ → t ρ Qd →
    (∀ its back ρ' J H' F', Qd its back ρ' → Same F F' → Rep X.K G σ H' F' ρ' → ItD X.K (G.now σ ρ' H' F') J its →
      (∀ H2 F2 ρ2 v r, Rep X.K (G.now σ ρ' H' F') σ H2 F2 ρ2 → RDen X.K (G.now σ ρ' H' F') σ ρ2 H2 F2 v r → Rep X.K G σ H2 F2 (back ρ2) ∧ RDen X.K G σ (back ρ2) H2 F2 v r) → Q J H') → wi σ H Q
def srcC (t : TSrc) : TSrcC := fun ρ Q => t ρ fun its ρ' => Q its id ρ'
theorem dic_of {iter : Expr} {wi : TI} {t : TSrc} (h : DI X tg iter wi t) : DIc X tg iter wi (srcC t) :=
  ⟨h.pe, fun R q k => h.sem R q fun its ρ' J H' F' qd s1 R1 hJ => k its id ρ' J H' F' qd s1 R1 (hJ _ rfl) fun H2 F2 ρ2 v r R2 rd => ⟨R1.back R2, rd.back R1⟩⟩
def srcV (i : Nat) : TSrcC := fun ρ Q => match ρ[i]? with
  | some (.sh d) => match itsOf d with
    | some l => Q l id ρ
    | none => False
  | some (.ow (.l ds)) => Q ds (fun ρ' => ρ'.set i (.ow (.l ds))) (ρ.set i .un)
  | _ => False
/-- a thing lent out through a stretch comes back -/
theorem Rep.lent {K : PySem.W.Frag} {G : Cd} {σ : L2.St} {H F H2 F2 : Hp} {ρ ρ2 : SL} {i : Nat} {s : Sl} {c : Cn} (R : Rep K G σ H F ρ) (hs : ρ[i]? = some s) (hc : s.cn = some c) (hj : ∀ j, s ≠ .bw j c) (R2 : Rep K (G.now σ (ρ.set i .un) H F) σ H2 F2 ρ2) :
    Rep K G σ H2 F2 (ρ2.set i s) ∧ ∀ v r, RDen K (G.now σ (ρ.set i .un) H F) σ ρ2 H2 F2 v r → RDen K G σ (ρ2.set i s) H2 F2 v r := by
  cases s with
  | un => cases hc
  | sh d => cases hc
  | bw j c' => cases hc; exact (hj j rfl).elim
  | ow c' =>
    cases hc
    obtain ⟨p, a1, a2, a3, a4⟩ := R.ow i c hs
    obtain ⟨R0, rd0⟩ := R.take hs a1
    have h0 := rd0.hold R0 R2
    have RB := R0.back R2
    have e : σ.set i (some (.ref p)) = σ := by
      apply List.ext_getElem?
      intro j
      by_cases q : j = i
      · subst q
        rw [List.getElem?_set_self (List.getElem?_eq_some_iff.mp a1).1, a1]
      · rw [List.getElem?_set_ne (Ne.symm q)]
    have R3 := RB.setOw h0 i
    rw [e] at R3
    refine ⟨R3, fun v r rd => ?_⟩
    cases r with
    | v d => exact rd
    | fr c2 =>
      have ap := RDs.apart R0 rd0 (.cons rd .nil fun _ _ _ _ j c' z => by simp at z)
      have rb := rd.back R0
      obtain ⟨p2, e2, b1, b2, b3, b4⟩ := rb
      refine ⟨p2, e2, b1, b2, b3, fun k s c' k1 k2 k3 => ?_⟩
      rcases set_get k1 with ⟨rfl, q⟩ | ⟨ne, q⟩
      · rw [a1] at k3
        cases k3
        exact ap p c rfl rfl 0 c2 rfl (by rw [e2]; rfl)
      · exact b4 k s c' q k2 k3
theorem dic_var {i : Nat} {x : Str} {pos : Pos} (h : PE X (.Name x pos) (tVar i)) : DIc X tg (.Name x pos) (iAny X.K (tVar i)) (srcV i) := by
  refine ⟨pi_any h, fun {G σ H F ρ Q Qd} R q k => ?_⟩
  unfold srcV at q
  split at q
  · rename_i d hd
    obtain ⟨v, a, b⟩ := R.sh i d hd
    refine ⟨v, a, ?_⟩
    have bk : ∀ H2 F2 ρ2 v r, Rep X.K (G.now σ ρ H F) σ H2 F2 ρ2 → RDen X.K (G.now σ ρ H F) σ ρ2 H2 F2 v r → Rep X.K G σ H2 F2 (id ρ2) ∧ RDen X.K G σ (id ρ2) H2 F2 v r := fun H2 F2 ρ2 v r R2 rd => ⟨R.back R2, rd.back R⟩
    cases hd2 : d with
    | lst l =>
      subst hd2
      cases b with
      | lst c b => exact .inl ⟨_, rfl, ⟨_, .inl (.inl (R.ext _ _ c))⟩, k l _ _ _ _ _ q (Same.refl _) R (itd_list fun R3 => ⟨R3.ext _ _ (R3.fr0 _ _ c), b.mono R3.fr0⟩) bk⟩
    | tup l =>
      subst hd2
      cases b with
      | tup c b => exact .inr (.inl ⟨_, rfl, ⟨_, .inl (.inl (R.ext _ _ c))⟩, k l _ _ _ _ _ q (Same.refl _) R (itd_tup c b) bk⟩)
    | str z =>
      subst hd2
      cases b with
      | str _ c => exact .inr (.inr ⟨z, rfl, k _ _ _ _ _ _ q (Same.refl _) R (itd_str c) bk⟩)
    | _ => subst hd2; exact q.elim
  · rename_i ds hd
    obtain ⟨p, a, ⟨xs, h1, h2⟩, h3, h4⟩ := R.ow i _ hd
    refine ⟨_, a, .inl ⟨p, rfl, ⟨xs, .inl (.inl h1)⟩, ?_⟩⟩
    obtain ⟨R0, rd0⟩ := R.take hd a
    refine k ds _ _ _ _ _ q (Same.refl _) R0 (itd_list (xs := xs) fun {σ3 H3 F3 ρ3} R3 => ?_) fun H2 F2 ρ2 v r R2 rd => ?_
    · obtain ⟨p', e', b1, b2, b3, b4⟩ := rd0
      cases e'
      obtain ⟨z1, z2, z3⟩ := R0.held R3 h1 h3 b4 (R.nb h4)
      exact ⟨z1, h2.mono R3.fr0⟩
    · obtain ⟨z1, z2⟩ := R.lent hd rfl (by simp) R2
      exact ⟨z1, z2 _ _ rd⟩
  · exact q.elim

structure DTs (X : Cx) (ifs : List Expr) (te : TT) (t : TB) : Prop where
  pe : PTs X ifs te
  sem : ∀ {G : Cd} {σ : L2.St} {H F : Hp} {ρ : SL} {Q : Bool → Hp → Prop} {Qd : Bool → SL → Prop}, Rep X.K G σ H F ρ → t ρ Qd →
    (∀ b ρ' H' F', Qd b ρ' → Same F F' → Rep X.K G σ H' F' ρ' → Q b H') → te σ H Q
def bYes : TB := fun ρ Q => Q true ρ
theorem dts_nil : DTs X [] tYes bYes := ⟨pts_nil, fun R q k => k _ _ _ _ q (Same.refl _) R⟩
theorem dts_one {c : Expr} {te : TT} {t : TB} (h : DT X c te t) : DTs X [c] te t := ⟨pts_one h.pe, h.sem⟩
def dLc (t : TSrcC) (g : TGd) (tt : TB) (te : TD) (vs : List Nat) : TD := fun ρ Q => t ρ fun its back ρ' => lcL g tt te vs (fun acc ρ2 => Q (.fr (.l acc)) (back (wipeD ρ2 vs))) its [] (wipeD ρ' vs)
theorem sem_lc {elt iter : Expr} {ifs : List Expr} {scope : Scope} {ws : List Nat} {wi : TI} {g : TG} {tt : TT} {te : TE} {t : TSrcC} {gd : TGd} {dt : TB} {de : TD}
    (hi : DIc X tg iter wi t)
    (hg : ∀ (s : Shared) (H : Hp) (C : Addr) (cl : List (Str × Addr)) (fp : List Addr), DG (X.blk s H scope (compEnvC scope cl C X.env) fp) tg ws g gd) (ht : ∀ (s : Shared) (H : Hp) (C : Addr) (cl : List (Str × Addr)) (fp : List Addr), DTs (X.blk s H scope (compEnvC scope cl C X.env) fp) ifs tt dt)
    (he : ∀ (s : Shared) (H : Hp) (C : Addr) (cl : List (Str × Addr)) (fp : List Addr), DE (X.blk s H scope (compEnvC scope cl C X.env) fp) elt te de) (s0 : Shared)
    {G : Cd} {σ : L2.St} {H F : Hp} {ρ : SL} {Q : VK} {Qd : Rv → SL → Prop} (R : Rep X.K G σ H F ρ) (q : dLc t gd dt de ws ρ Qd)
    (k : ∀ r ρ' v H' F', Qd r ρ' → Same F F' → Rep X.K G σ H' F' ρ' → RDen X.K G σ ρ' H' F' v r → Q v H') : tLc wi g tt te ws σ H Q := by
  refine hi.sem R q fun its back ρ' J H1 F1 qd s1 R1 IT bk D hD => ?_
  have hG := hg s0 H 0 [] []
  have hT := ht s0 H 0 [] []
  have hE := he s0 H 0 [] []
  obtain ⟨RD, rd0⟩ := R1.now.allocFr hD (o := .lst []) (c := .l []) ⟨_, upd_same, .nil⟩
  refine ⟨fun i m H => m = its.length - i ∧ i ≤ its.length ∧ ∃ F ρ acc, Rep X.K (G.now σ ρ' H1 F1) (L2.wipe σ ws) H F ρ ∧ RDen X.K (G.now σ ρ' H1 F1) (L2.wipe σ ws) ρ H F (.ref D) (.fr (.l acc)) ∧
    lcL gd dt de ws (fun acc ρ2 => Qd (.fr (.l acc)) (back (wipeD ρ2 ws))) (its.drop i) acc ρ, ⟨_, rfl, Nat.zero_le _, F1, wipeD ρ' ws, [], RD.wipe ws, rd0.wipe ws, qd⟩, ?_⟩
  rintro i m H2 ⟨rfl, hle, F2, ρ2, acc, R2, rd2, q2⟩
  by_cases hlt : i < its.length
  · refine .inr ⟨IT.go i hlt R2, fun H => ∃ F ρ acc, Rep X.K (G.now σ ρ' H1 F1) (L2.wipe σ ws) H F ρ ∧ RDen X.K (G.now σ ρ' H1 F1) (L2.wipe σ ws) ρ H F (.ref D) (.fr (.l acc)) ∧
      lcL gd dt de ws (fun acc ρ2 => Qd (.fr (.l acc)) (back (wipeD ρ2 ws))) (its.drop (i + 1)) acc ρ, fun H' h => ⟨its.length - (i + 1), by omega, rfl, hlt, h⟩, fun x H3 y => ?_⟩
    have hd := List.getElem?_eq_getElem hlt
    rw [drop_get hd] at q2
    obtain ⟨F3, s3, R3, d3, hr⟩ := IT.step hd R2 y
    have rd3 := hr _ _ rd2
    -- the list made so far is held aside
    refine hG.sem R3.now d3 q2 fun ρ4 σ4 q4 R4 w4 => ⟨w4.trans (wipe_twice σ ws), ?_⟩
    refine hT.sem R4 q4 fun b ρ5 H5 F5 q5 s5 R5 => ?_
    cases b with
    | false =>
      rw [if_neg Bool.false_ne_true] at q5 ⊢
      have R6 := R3.back R5
      have rd6 := rd3.hold R3 R5
      refine ⟨F5, wipeD ρ5 ws, acc, ?_, ?_, q5⟩
      · have := R6.wipe ws; rw [w4, wipe_twice] at this; exact this
      · have := rd6.wipe ws; rw [w4, wipe_twice] at this; exact this
    | true =>
      rw [if_pos rfl] at q5 ⊢
      refine hE.sem R5 q5 fun r ρ6 v H6 F6 q6 s6 R6 rd6 => ?_
      obtain ⟨F7, s7, R7, d7⟩ := R6.share rd6
      have R8 := R3.back R7
      have rd8 := rd3.hold R3 R7
      obtain ⟨p, e, ⟨xs, e1, e2⟩, a2, a3, a4⟩ := id rd8
      cases e
      obtain ⟨R9, rd9⟩ := R8.writeFr (o := .lst (xs ++ [v])) (c' := .l (acc ++ [r.dat])) rd8 ⟨_, upd_same, e2.append (.cons d7 .nil)⟩
      refine ⟨xs, e1, by rw [e2.length]; exact q6.1, F7, wipeD ρ6 ws, acc ++ [r.dat], ?_, ?_, q6.2⟩
      · have := R9.wipe ws; rw [w4, wipe_twice] at this; exact this
      · have := rd9.wipe ws; rw [w4, wipe_twice] at this; exact this
  · have e : i = its.length := by omega
    subst e
    rw [List.drop_length] at q2
    have R4 := R2.unwipe
    have rd4 := rd2.unwipe
    obtain ⟨R5, rd5⟩ := bk _ _ _ _ _ R4 rd4
    exact .inl ⟨IT.stop R2, k _ _ _ _ _ q2 (s1.trans R2.fr0) R5 rd5⟩
end
end DL
namespace DL
open PySem L2
section
variable {X : Cx} {tg : Expr}
theorem de_lc {elt iter : Expr} {ifs : List Expr} {scope : Scope} {own : List (Str × Nat)} {pos : Pos} {wi : TI} {g : TG} {tt : TT} {te : TE} {t : TSrcC} {gd : TGd} {dt : TB} {de : TD} (hc : X.calm = true) (hN : X.N.Nodup)
    (hi : DIc X tg iter wi t) (ok : BlkOk X.N X.env.scope scope own)
    (hg : ∀ (s : Shared) (H : Hp) (C : Addr) (cl : List (Str × Addr)) (fp : List Addr), DG (X.blk s H scope (compEnvC scope cl C X.env) fp) tg (own.map (·.2)) g gd)
    (ht : ∀ (s : Shared) (H : Hp) (C : Addr) (cl : List (Str × Addr)) (fp : List Addr), DTs (X.blk s H scope (compEnvC scope cl C X.env) fp) ifs tt dt)
    (he : ∀ (s : Shared) (H : Hp) (C : Addr) (cl : List (Str × Addr)) (fp : List Addr), DE (X.blk s H scope (compEnvC scope cl C X.env) fp) elt te de) (hs : ∀ x, foldedSetIterable iter X.env x = pure x := by intro _; rfl) :
    DE X (.ListComp elt [⟨tg, iter, ifs, 0⟩] scope pos) (tLc wi g tt te (own.map (·.2))) (dLc t gd dt de (own.map (·.2))) :=
  ⟨pe_lc hc hN hi.pe ok (fun s H C cl fp => (hg s H C cl fp).pe) (fun s H C cl fp => (ht s H C cl fp).pe) (fun s H C cl fp => (he s H C cl fp).pe) hs, fun R q k => sem_lc hi hg ht he X.s_0 R q k⟩
theorem ds_setLc {i : Nat} {y : Str} {py : Pos} {elt iter : Expr} {ifs : List Expr} {scope : Scope} {own : List (Str × Nat)} {pos spos : Pos} {wi : TI} {g : TG} {tt : TT} {te : TE} {t : TSrcC} {gd : TGd} {dt : TB} {de : TD} (hc : X.calm = true) (hN : X.N.Nodup)
    (hy : X.N[i]? = some y) (hyl : X.env.scope.names.lookup y = some .local)
    (hsw : swapsWith (.ListComp elt [⟨tg, iter, ifs, 0⟩] scope pos) (some (.Name y py)) spos.line X.env = pure true) (hi : DIc X tg iter wi t) (ok : BlkOk X.N X.env.scope scope own)
    (hg : ∀ (s : Shared) (H : Hp) (C : Addr) (cl : List (Str × Addr)) (fp : List Addr), DG (X.blk s H scope (compEnvC scope cl C X.env) fp) tg (own.map (·.2)) g gd)
    (ht : ∀ (s : Shared) (H : Hp) (C : Addr) (cl : List (Str × Addr)) (fp : List Addr), DTs (X.blk s H scope (compEnvC scope cl C X.env) fp) ifs tt dt)
    (he : ∀ (s : Shared) (H : Hp) (C : Addr) (cl : List (Str × Addr)) (fp : List Addr), DE (X.blk s H scope (compEnvC scope cl C X.env) fp) elt te de) (hs : ∀ x, foldedSetIterable iter X.env x = pure x := by intro _; rfl) :
    DS X (.Assign [.Name y py] (.ListComp elt [⟨tg, iter, ifs, 0⟩] scope pos) spos) (tAsg (tLc wi g tt te (own.map (·.2))) (gName i)) (sSet i (dLc t gd dt de (own.map (·.2)))) :=
  ⟨ps_setLc hc hN hy hyl hsw hi.pe ok (fun s H C cl fp => (hg s H C cl fp).pe) (fun s H C cl fp => (ht s H C cl fp).pe) (fun s H C cl fp => (he s H C cl fp).pe) hs, fun R q L =>
    sem_lc hi hg ht he X.s_0 R q fun r ρ' v H' F' qd s1 R1 rd => L.nx _ _ _ _ qd (R1.put rd i)⟩
/-! ### calls of own defs -/
inductive AOp where
  | val (d : D)
  | bor (i : Nat)
def ADen (K : PySem.W.Frag) (F : Hp) (σ : L2.St) (v : V) : AOp → Prop
  | .val d => Den K F v d
  | .bor i => σ[i]? = some (some v)
inductive ADens (K : PySem.W.Frag) (F : Hp) (σ : L2.St) : List V → List AOp → Prop
  | nil : ADens K F σ [] []
  | cons {v : V} {vs : List V} {o : AOp} {os : List AOp} : ADen K F σ v o → ADens K F σ vs os → ADens K F σ (v :: vs) (o :: os)
abbrev TAg := SL → (List AOp → SL → Prop) → Prop
structure DAg (X : Cx) (es : List Expr) (ta : TA) (t : TAg) : Prop where
  pe : PA X es ta
  sem : ∀ {G : Cd} {σ : L2.St} {H F : Hp} {ρ : SL} {Q : List V → Hp → Prop} {Qd : List AOp → SL → Prop}, Rep X.K G σ H F ρ → t ρ Qd →
    (∀ os ρ' vs H' F', Qd os ρ' → Same F F' → Rep X.K G σ H' F' ρ' → ADens X.K F' σ vs os → Q vs H') → ta σ H Q
def agNil : TAg := fun ρ Q => Q [] ρ
def agVal (t : TD) (u : TAg) : TAg := fun ρ Q => t ρ fun r ρ1 => u ρ1 fun os ρ2 => Q (.val r.dat :: os) ρ2
def agBor (i : Nat) (u : TAg) : TAg := fun ρ Q => (match ρ[i]? with | some s => s.cn.isSome = true | none => False) ∧ u ρ fun os ρ2 => Q (.bor i :: os) ρ2
theorem dag_nil : DAg X [] tNil agNil := ⟨pa_nil, fun R h k => k _ _ _ _ _ h (Same.refl _) R .nil⟩
theorem dag_val {e : Expr} {es : List Expr} {te : TE} {ta : TA} {t : TD} {u : TAg} (h : DE X e te t) (r : DAg X es ta u) (hs : starEach (e :: es) X.env = (false, eval e X.env) :: starEach es X.env := by rfl) :
    DAg X (e :: es) (tCons te ta) (agVal t u) :=
  ⟨pa_cons h.pe r.pe hs, fun R q k => h.sem R q fun o ρ1 v H1 F1 q1 s1 R1 d1 => by
    obtain ⟨F1', s1', R1', d1'⟩ := R1.share d1
    exact r.sem R1' q1 fun os ρ2 vs H2 F2 q2 s2 R2 d2 => k _ _ _ _ _ q2 (s1.trans (s1'.trans s2)) R2 (.cons (d1'.mono s2) d2)⟩
theorem dag_bor {i : Nat} {x : Str} {pos : Pos} {es : List Expr} {ta : TA} {u : TAg} (h : PE X (.Name x pos) (tVar i)) (r : DAg X es ta u) (hs : starEach (.Name x pos :: es) X.env = (false, eval (.Name x pos) X.env) :: starEach es X.env := by rfl) :
    DAg X (.Name x pos :: es) (tCons (tVar i) ta) (agBor i u) :=
  ⟨pa_cons h r.pe hs, fun {G σ H F ρ Q Qd} R q k => by
    obtain ⟨q1, q2⟩ := q
    cases e : ρ[i]? with
    | none => rw [e] at q1; exact q1.elim
    | some s =>
      rw [e] at q1
      cases ec : s.cn with
      | none => simp [ec] at q1
      | some c =>
        obtain ⟨p, a, _⟩ := R.owned e ec
        exact ⟨.ref p, a, r.sem R q2 fun os ρ2 vs H2 F2 q3 s2 R2 d2 => k _ _ _ _ _ q3 s2 R2 (.cons a d2)⟩⟩
/-- the callee's slots: j is the first argument's place -/
def mkArgs (ρ : SL) : Nat → List AOp → Option SL
  | _, [] => some []
  | j, .val d :: r => (mkArgs ρ (j + 1) r).map fun l => .sh d :: l
  | j, .bor i :: r => match ρ[i]? with
    | some s => match s.cn with
      | some c => (mkArgs ρ (j + 1) r).map fun l => .bw j c :: l
      | none => none
    | none => none
def bors : List AOp → List Nat
  | [] => []
  | .val _ :: r => bors r
  | .bor i :: r => i :: bors r
/-- behind the call: what was lent comes back -/
def giveB (ρ0 : SL) : Nat → SL → List AOp → SL → Option SL
  | _, ρ, [], _ => some ρ
  | j, ρ, .val _ :: as, _ :: outs => giveB ρ0 (j + 1) ρ as outs
  | j, ρ, .bor i :: as, .bw k c :: outs => if k = j then match ρ0[i]? with
      | some s => giveB ρ0 (j + 1) (ρ.set i (s.with c)) as outs
      | none => none
    else none
  | _, _, _, _ => none
abbrev SpD := SL → (Rv → SL → Prop) → Prop
/-- a promise over data, as one over the heap -/
def lift (K : PySem.W.Frag) (sp : SpD) : Sp := fun vs H Q _ => ∃ (b : Nat → Option Addr) (F : Hp) (as : SL) (Qd : Rv → SL → Prop), Rep K ⟨b, fun _ => False, H, F⟩ (vs.map some) H F as ∧ sp as Qd ∧
  ∀ r outs σ' v H' F', Qd r outs → Rep K ⟨b, fun _ => False, H, F⟩ σ' H' F' outs → RDen K ⟨b, fun _ => False, H, F⟩ σ' outs H' F' v r → Q v H'
def dCall (sp : SpD) (t : TAg) : TD := fun ρ Q => t ρ fun os ρ1 => ∃ sl, mkArgs ρ1 0 os = some sl ∧ (bors os).Nodup ∧ sp sl fun r outs => ∃ ρ2, giveB ρ1 0 (wipeD ρ1 (bors os)) os outs = some ρ2 ∧ Q r ρ2
end
section
variable {K : PySem.W.Frag} {G : Cd} {σ : L2.St} {H F : Hp} {ρ : SL}
/-- where the arguments that are lent stand -/
def bOf' (σ : L2.St) (os : List AOp) (j : Nat) : Option Addr := match os[j]? with
  | some (.bor i) => match σ[i]? with
    | some (some (.ref p)) => some p
    | _ => none
  | _ => none
theorem mkArgs_get : ∀ {os : List AOp} {j : Nat} {sl : SL}, mkArgs ρ j os = some sl → sl.length = os.length ∧ ∀ (k : Nat) (s : Sl), sl[k]? = some s →
    (∃ d, os[k]? = some (.val d) ∧ s = .sh d) ∨ ∃ i s' c, os[k]? = some (.bor i) ∧ ρ[i]? = some s' ∧ s'.cn = some c ∧ s = .bw (j + k) c
  | [], j, sl, h => by
    cases h
    exact ⟨rfl, fun k s e => by simp at e⟩
  | .val d :: r, j, sl, h => by
    unfold mkArgs at h
    cases q : mkArgs ρ (j + 1) r with
    | none => rw [q] at h; cases h
    | some l =>
      rw [q] at h
      cases h
      obtain ⟨h1, h2⟩ := mkArgs_get q
      refine ⟨by rw [List.length_cons, List.length_cons, h1], fun k s e => ?_⟩
      cases k with
      | zero => cases e; exact .inl ⟨d, rfl, rfl⟩
      | succ k =>
        rcases h2 k s e with z | ⟨i, s', c, z1, z2, z3, z4⟩
        · exact .inl z
        · exact .inr ⟨i, s', c, z1, z2, z3, by rw [z4]; congr 1; omega⟩
  | .bor i :: r, j, sl, h => by
    unfold mkArgs at h
    cases q0 : ρ[i]? with
    | none => rw [q0] at h; cases h
    | some s' =>
      rw [q0] at h
      cases q1 : s'.cn with
      | none => simp only [q1] at h; cases h
      | some c =>
        simp only [q1] at h
        cases q : mkArgs ρ (j + 1) r with
        | none => rw [q] at h; cases h
        | some l =>
          rw [q] at h
          cases h
          obtain ⟨h1, h2⟩ := mkArgs_get q
          refine ⟨by rw [List.length_cons, List.length_cons, h1], fun k s e => ?_⟩
          cases k with
          | zero => cases e; exact .inr ⟨i, s', c, rfl, q0, q1, rfl⟩
          | succ k =>
            rcases h2 k s e with z | ⟨i2, s2, c2, z1, z2, z3, z4⟩
            · exact .inl z
            · exact .inr ⟨i2, s2, c2, z1, z2, z3, by rw [z4]; congr 1; omega⟩
theorem ADens.get {vs : List V} {os : List AOp} (h : ADens K F σ vs os) : vs.length = os.length ∧ ∀ (k : Nat) (o : AOp), os[k]? = some o → ∃ v, vs[k]? = some v ∧ ADen K F σ v o := by
  induction h with
  | nil => exact ⟨rfl, fun k o e => by simp at e⟩
  | @cons v vs o os a b ih =>
    refine ⟨by rw [List.length_cons, List.length_cons, ih.1], fun k o' e => ?_⟩
    cases k with
    | zero => cases e; exact ⟨v, rfl, a⟩
    | succ k => exact ih.2 k o' e
theorem mem_bors : ∀ {os : List AOp} {k i : Nat}, os[k]? = some (.bor i) → i ∈ bors os
  | [], k, i, h => by simp at h
  | .val d :: r, 0, i, h => by cases h
  | .val d :: r, k + 1, i, h => mem_bors (os := r) h
  | .bor j :: r, 0, i, h => by cases h; exact List.mem_cons_self
  | .bor j :: r, k + 1, i, h => List.mem_cons_of_mem _ (mem_bors (os := r) h)
theorem bors_get : ∀ {os : List AOp} {i : Nat}, i ∈ bors os → ∃ k : Nat, os[k]? = some (.bor i)
  | [], i, h => by simp [bors] at h
  | .val d :: r, i, h => by
    obtain ⟨k, e⟩ := bors_get (os := r) h
    exact ⟨k + 1, e⟩
  | .bor j :: r, i, h => by
    rcases List.mem_cons.mp h with rfl | h
    · exact ⟨0, rfl⟩
    · obtain ⟨k, e⟩ := bors_get (os := r) h
      exact ⟨k + 1, e⟩
theorem bors_inj : ∀ {os : List AOp} {k l i : Nat}, (bors os).Nodup → os[k]? = some (.bor i) → os[l]? = some (.bor i) → k = l
  | [], k, l, i, _, h, _ => by simp at h
  | .val d :: r, k, l, i, hn, h1, h2 => by
    cases k with
    | zero => cases h1
    | succ k =>
      cases l with
      | zero => cases h2
      | succ l => rw [bors_inj (os := r) hn h1 h2]
  | .bor j :: r, k, l, i, hn, h1, h2 => by
    have hn' := List.nodup_cons.mp hn
    cases k with
    | zero =>
      cases h1
      cases l with
      | zero => rfl
      | succ l => exact (hn'.1 (mem_bors (os := r) h2)).elim
    | succ k =>
      cases l with
      | zero => cases h2; exact (hn'.1 (mem_bors (os := r) h1)).elim
      | succ l => rw [bors_inj (os := r) hn'.2 h1 h2]
theorem Rep.toCall (R : Rep K G σ H F ρ) {vs : List V} {os : List AOp} {sl : SL} (h : ADens K F σ vs os) (hm : mkArgs ρ 0 os = some sl) (hn : (bors os).Nodup) :
    Rep K ⟨bOf' σ os, fun _ => False, H, F⟩ (vs.map some) H F sl := by
  obtain ⟨l1, g1⟩ := mkArgs_get hm
  obtain ⟨l2, g2⟩ := h.get
  have bw : ∀ (k j : Nat) (c : Cn), sl[k]? = some (.bw j c) → ∃ i s' p, j = k ∧ os[k]? = some (.bor i) ∧ ρ[i]? = some s' ∧ s'.cn = some c ∧ σ[i]? = some (some (.ref p)) ∧ (vs.map some)[k]? = some (some (.ref p)) ∧ Has K F H p c ∧ F p = none ∧ bOf' σ os k = some p := by
    intro k j c e
    rcases g1 k _ e with ⟨d, _, z⟩ | ⟨i, s', c', z1, z2, z3, z4⟩
    · cases z
    · cases z4
      obtain ⟨p, a1, a2, a3⟩ := R.owned z2 z3
      obtain ⟨v, e1, e2⟩ := g2 k _ z1
      have e2' : σ[i]? = some (some v) := e2
      rw [a1] at e2'; cases e2'
      refine ⟨i, s', p, by omega, z1, z2, z3, a1, by rw [List.getElem?_map, e1]; rfl, a2, a3, ?_⟩
      simp only [bOf', z1, a1]
  refine ⟨by rw [List.length_map, l1, l2], R.ext, fun k d e => ?_, fun k c e => ?_, fun k j c e => ?_, fun k l s t c c' p e1 e2 h1 h2 h3 h4 => ?_, Same.refl F, fun a o e => .inl e, fun a o e _ _ => e, fun a o e => ⟨o, e⟩, fun j p e => ?_, fun _ _ z => z.elim⟩
  · rcases g1 k _ e with ⟨d', z1, z⟩ | ⟨i, s', c', z1, z2, z3, z4⟩
    · cases z
      obtain ⟨v, e1, e2⟩ := g2 k _ z1
      exact ⟨v, by rw [List.getElem?_map, e1]; rfl, e2⟩
    · cases z4
  · rcases g1 k _ e with ⟨d', z1, z⟩ | ⟨i, s', c', z1, z2, z3, z4⟩
    · cases z
    · cases z4
  · obtain ⟨i, s', p, rfl, _, _, _, _, e1, e2, e3, e4⟩ := bw k j c e
    exact ⟨p, e1, e2, e3, e4⟩
  · have own : ∀ (k : Nat) (s : Sl) (c : Cn), sl[k]? = some s → s.cn = some c → ∃ j, s = .bw j c := fun k s c e h => by
      rcases g1 k _ e with ⟨d', z1, z⟩ | ⟨i, s', c', z1, z2, z3, z4⟩
      · subst z; cases h
      · subst z4; cases h; exact ⟨_, rfl⟩
    obtain ⟨j1, rfl⟩ := own k s c e1 h1
    obtain ⟨j2, rfl⟩ := own l t c' e2 h2
    obtain ⟨i1, s1, p1, _, o1, r1, c1, σ1, v1, _⟩ := bw k j1 c e1
    obtain ⟨i2, s2, p2, _, o2, r2, c2, σ2, v2, _⟩ := bw l j2 c' e2
    rw [h3] at v1; cases v1
    rw [h4] at v2; cases v2
    have := R.sep i1 i2 s1 s2 c c' p r1 r2 c1 c2 σ1 σ2
    subst this
    exact bors_inj hn o1 o2
  · have e' : bOf' σ os j = some p := e
    unfold bOf' at e'
    split at e'
    · rename_i i hi
      split at e'
      · rename_i q hq
        cases e'
        -- the slot is owned
        have hj : j < os.length := (List.getElem?_eq_some_iff.mp hi).1
        rw [← l1] at hj
        rcases g1 j _ (List.getElem?_eq_getElem hj) with ⟨d', z1, z⟩ | ⟨i', s', c', z1, z2, z3, z4⟩
        · rw [hi] at z1; cases z1
        · rw [hi] at z1; cases z1
          obtain ⟨p', a1, a2, a3⟩ := R.owned z2 z3
          rw [hq] at a1; cases a1
          exact a2.ex
      · cases e'
    · cases e'
/-- behind the call, what was not lent -/
theorem Rep.behind (R : Rep K G σ H F ρ) {vs : List V} {os : List AOp} {σ' : L2.St} {H' F' : Hp} {sl outs : SL} (hd : ADens K F σ vs os) (hm : mkArgs ρ 0 os = some sl) (R' : Rep K ⟨bOf' σ os, fun _ => False, H, F⟩ σ' H' F' outs) : Rep K G σ H' F' (wipeD ρ (bors os)) := by
  have lt : ∀ (j : Nat) (p : Addr), bOf' σ os j = some p → ∃ i s c, i ∈ bors os ∧ ρ[i]? = some s ∧ s.cn = some c ∧ σ[i]? = some (some (.ref p)) := by
    intro j p e
    unfold bOf' at e
    split at e
    · rename_i i hi
      split at e
      · rename_i q hq
        cases e
        obtain ⟨l1, g1⟩ := mkArgs_get hm
        have hj : j < os.length := (List.getElem?_eq_some_iff.mp hi).1
        rw [← l1] at hj
        rcases g1 j _ (List.getElem?_eq_getElem hj) with ⟨d', z1, z⟩ | ⟨i', s', c', z1, z2, z3, z4⟩
        · rw [hi] at z1; cases z1
        · rw [hi] at z1; cases z1
          exact ⟨i, s', c', mem_bors hi, z2, z3, hq⟩
      · cases e
    · cases e
  have nb : ∀ (i : Nat) (s : Sl) (c : Cn) (p : Addr), ρ[i]? = some s → s.cn = some c → σ[i]? = some (some (.ref p)) → i ∉ bors os → ∀ j, bOf' σ os j ≠ some p := by
    intro i s c p e1 e2 e3 hi j e
    obtain ⟨i2, s2, c2, m, a1, a2, a3⟩ := lt j p e
    have := R.sep i i2 s s2 c c2 p e1 a1 e2 a2 e3 a3
    subst this
    exact hi m
  have kp : ∀ (i : Nat) (s : Sl) (c : Cn) (p : Addr), ρ[i]? = some s → s.cn = some c → σ[i]? = some (some (.ref p)) → i ∉ bors os → Has K F H p c → F p = none → Has K F' H' p c ∧ F' p = none := by
    intro i s c p e1 e2 e3 hi hh hF
    obtain ⟨o, ho⟩ := hh.ex
    have k1 := R'.keep p o ho (fun z => z) (nb i s c p e1 e2 e3 hi)
    refine ⟨(hh.mono R'.fr0).at (k1.trans ho.symm), ?_⟩
    cases q : F' p with
    | none => rfl
    | some u =>
      rcases R'.new p u q with z | z | z
      · have z' : F p = some u := z
        rw [hF] at z'; cases z'
      · have z' : H p = none := z
        rw [ho] at z'; cases z'
      · exact (show False from z).elim
  refine ⟨by rw [wipeD_length]; exact R.len, R'.ext, fun i d e => ?_, fun i c e => ?_, fun i j c e => ?_, fun i j s t c c' p e1 e2 h1 h2 h3 h4 => ?_, R.fr0.trans R'.fr0, fun a o e => ?_, fun a o e nl nb2 => ?_, fun a o e => ?_, R.bd, R.lb⟩
  · rcases wipeD_get e with z | ⟨z, w⟩
    · cases z
    · obtain ⟨v, a, b⟩ := R.sh i d z; exact ⟨v, a, b.mono R'.fr0⟩
  · rcases wipeD_get e with z | ⟨z, w⟩
    · cases z
    · obtain ⟨p, a, b, e2, e3⟩ := R.ow i c z
      obtain ⟨k1, k2⟩ := kp i _ c p z rfl a w b e2
      exact ⟨p, a, k1, k2, e3⟩
  · rcases wipeD_get e with z | ⟨z, w⟩
    · cases z
    · obtain ⟨p, a, b, e2, e3⟩ := R.bw i j c z
      obtain ⟨k1, k2⟩ := kp i _ c p z rfl a w b e2
      exact ⟨p, a, k1, k2, e3⟩
  · rcases wipeD_get e1 with z | ⟨z, _⟩
    · subst z; cases h1
    · rcases wipeD_get e2 with z2 | ⟨z2, _⟩
      · subst z2; cases h2
      · exact R.sep i j s t c c' p z z2 h1 h2 h3 h4
  · rcases R'.new a o e with z | z | z
    · exact R.new a o z
    · exact .inr (.inl (R.fresh z).2)
    · exact (show False from z).elim
  · refine R'.keep a o (R.keep a o e nl nb2) (fun z => z) fun j z => ?_
    obtain ⟨i2, s2, c2, m, a1, a2, a3⟩ := lt j a z
    cases s2 with
    | un => cases a2
    | sh d => cases a2
    | ow c3 =>
      obtain ⟨q, b1, _, _, b4⟩ := R.ow i2 c3 a1
      rw [a3] at b1; cases b1
      rcases b4 with b4 | b4
      · rw [e] at b4; cases b4
      · exact nl b4
    | bw k c3 =>
      obtain ⟨q, b1, _, _, b4⟩ := R.bw i2 k c3 a1
      rw [a3] at b1; cases b1
      exact nb2 k b4
  · obtain ⟨o', k1⟩ := R.dom a o e
    exact R'.dom a o' k1
theorem Rep.give {H' F' : Hp} {ρ' : SL} {i : Nat} {s : Sl} {c0 c : Cn} {p : Addr} (R : Rep K G σ H F ρ) (R' : Rep K G σ H' F' ρ') (hs : ρ[i]? = some s) (hc : s.cn = some c0) (hp : σ[i]? = some (some (.ref p))) (hh : Has K F' H' p c) (hF : F' p = none)
    (hn : ∀ (k : Nat) (t : Sl) (c1 : Cn), ρ'[k]? = some t → t.cn = some c1 → σ[k]? ≠ some (some (.ref p))) : Rep K G σ H' F' (ρ'.set i (s.with c)) where
  len := by rw [List.length_set]; exact R'.len
  ext := R'.ext
  sh := fun j d e => by
    rcases set_get e with ⟨_, q⟩ | ⟨_, q⟩
    · have q2 := congrArg Sl.cn q
      rw [Sl.with_cn hc] at q2; cases q2
    · exact R'.sh j d q
  ow := fun j c1 e => by
    rcases set_get e with ⟨rfl, q⟩ | ⟨_, q⟩
    · cases s with
      | un => cases hc
      | sh d => cases hc
      | bw k c2 => exact nomatch (show Sl.ow c1 = Sl.bw k c from q)
      | ow c2 =>
        have q : Sl.ow c1 = Sl.ow c := q
        cases q
        obtain ⟨q, a1, _, _, a4⟩ := R.ow j c2 hs
        rw [hp] at a1; cases a1
        exact ⟨p, hp, hh, hF, a4⟩
    · exact R'.ow j c1 q
  bw := fun j k c1 e => by
    rcases set_get e with ⟨rfl, q⟩ | ⟨_, q⟩
    · cases s with
      | un => cases hc
      | sh d => cases hc
      | ow c2 => exact nomatch (show Sl.bw k c1 = Sl.ow c from q)
      | bw k2 c2 =>
        have q : Sl.bw k c1 = Sl.bw k2 c := q
        cases q
        obtain ⟨q, a1, _, _, a4⟩ := R.bw j k c2 hs
        rw [hp] at a1; cases a1
        exact ⟨p, hp, hh, hF, a4⟩
    · exact R'.bw j k c1 q
  sep := fun j k t u c1 c2 q e1 e2 h1 h2 h3 h4 => by
    rcases set_get e1 with ⟨rfl, q1⟩ | ⟨ne, q1⟩
    · rcases set_get e2 with ⟨rfl, q2⟩ | ⟨ne2, q2⟩
      · rfl
      · rw [hp] at h3; cases h3
        exact absurd h4 (hn k u c2 q2 h2)
    · rcases set_get e2 with ⟨rfl, q2⟩ | ⟨ne2, q2⟩
      · rw [hp] at h4; cases h4
        exact absurd h3 (hn j t c1 q1 h1)
      · exact R'.sep j k t u c1 c2 q q1 q2 h1 h2 h3 h4
  fr0 := R'.fr0
  new := R'.new
  keep := R'.keep
  dom := R'.dom
  bd := R'.bd
  lb := R'.lb
theorem Rep.gives (R : Rep K G σ H F ρ) {H' F' : Hp} {σ' : L2.St} {oouts : SL} {b : Nat → Option Addr} (RC : Rep K ⟨b, fun _ => False, H, F⟩ σ' H' F' oouts) :
    ∀ {os : List AOp} {outs : SL} {j : Nat} {ρ' ρ2 : SL}, giveB ρ j ρ' os outs = some ρ2 → (∀ (k : Nat) (s : Sl), outs[k]? = some s → oouts[j + k]? = some s) → (∀ (k i : Nat) (p : Addr), os[k]? = some (.bor i) → b (j + k) = some p → σ[i]? = some (some (.ref p))) →
      (∀ (k i : Nat), os[k]? = some (.bor i) → ∃ s c, ρ[i]? = some s ∧ s.cn = some c) → (bors os).Nodup → Rep K G σ H' F' ρ' → (∀ (k : Nat) (s : Sl) (c : Cn), ρ'[k]? = some s → s.cn = some c → k ∉ bors os ∧ ∃ s0 c0, ρ[k]? = some s0 ∧ s0.cn = some c0) →
      Rep K G σ H' F' ρ2
  | [], outs, j, ρ', ρ2, h, _, _, _, _, R', _ => by
    unfold giveB at h
    cases h; exact R'
  | .val d :: os, [], j, ρ', ρ2, h, _, _, _, _, _, _ => by simp [giveB] at h
  | .val d :: os, o :: outs, j, ρ', ρ2, h, ho, hb, hs, hn, R', hk => by
    unfold giveB at h
    refine Rep.gives R RC (j := j + 1) h (fun k s e => by have := ho (k + 1) s e; rw [show j + (k + 1) = j + 1 + k by omega] at this; exact this) (fun k i p e1 e2 => hb (k + 1) i p e1 (by rw [show j + (k + 1) = j + 1 + k by omega]; exact e2)) (fun k i e => hs (k + 1) i e) hn R' hk
  | .bor i :: os, [], j, ρ', ρ2, h, _, _, _, _, _, _ => by simp [giveB] at h
  | .bor i :: os, .un :: outs, j, ρ', ρ2, h, _, _, _, _, _, _ => by simp [giveB] at h
  | .bor i :: os, .sh _ :: outs, j, ρ', ρ2, h, _, _, _, _, _, _ => by simp [giveB] at h
  | .bor i :: os, .ow _ :: outs, j, ρ', ρ2, h, _, _, _, _, _, _ => by simp [giveB] at h
  | .bor i :: os, .bw k c :: outs, j, ρ', ρ2, h, ho, hb, hs, hn, R', hk => by
    unfold giveB at h
    by_cases hkj : k = j
    · subst hkj
      rw [if_pos rfl] at h
      obtain ⟨s, c0, e1, e2⟩ := hs 0 i rfl
      rw [e1] at h
      have eo := ho 0 _ rfl
      obtain ⟨p, a1, a2, a3, a4⟩ := RC.bw (k + 0) k c eo
      have a4' : b (k + 0) = some p := a4
      have hp := hb 0 i p rfl a4'
      have hn' := List.nodup_cons.mp hn
      have R2 := R.give (c := c) R' e1 e2 hp a2 a3 fun l t c1 e3 e4 e5 => by
        obtain ⟨m1, s0, c2, e6, e7⟩ := hk l t c1 e3 e4
        have := R.sep l i s0 s c2 c0 p e6 e1 e7 e2 e5 hp
        subst this
        exact m1 List.mem_cons_self
      refine Rep.gives R RC (j := k + 1) h (fun l s e => by have := ho (l + 1) s e; rw [show k + (l + 1) = k + 1 + l by omega] at this; exact this) (fun l i p e1 e2 => hb (l + 1) i p e1 (by rw [show k + (l + 1) = k + 1 + l by omega]; exact e2)) (fun l i e => hs (l + 1) i e) hn'.2 R2 fun l t c1 e3 e4 => ?_
      rcases set_get e3 with ⟨rfl, q⟩ | ⟨ne, q⟩
      · exact ⟨hn'.1, s, c0, e1, e2⟩
      · obtain ⟨m1, m2⟩ := hk l t c1 q e4
        exact ⟨fun z => m1 (List.mem_cons_of_mem _ z), m2⟩
    · rw [if_neg hkj] at h; cases h
theorem giveB_owned : ∀ {os : List AOp} {outs : SL} {j : Nat} {ρ' ρ2 : SL}, giveB ρ j ρ' os outs = some ρ2 → ∀ (k : Nat) (s : Sl) (c : Cn), ρ2[k]? = some s → s.cn = some c → (∃ c', ρ'[k]? = some s ∨ (∃ s0, ρ[k]? = some s0 ∧ s = s0.with c')) 
  | [], outs, j, ρ', ρ2, h, k, s, c, e, hc => by
    unfold giveB at h
    cases h; exact ⟨c, .inl e⟩
  | .val d :: os, [], j, ρ', ρ2, h, _, _, _, _, _ => by simp [giveB] at h
  | .val d :: os, o :: outs, j, ρ', ρ2, h, k, s, c, e, hc => by
    unfold giveB at h
    exact giveB_owned h k s c e hc
  | .bor i :: os, [], j, ρ', ρ2, h, _, _, _, _, _ => by simp [giveB] at h
  | .bor i :: os, .un :: outs, j, ρ', ρ2, h, _, _, _, _, _ => by simp [giveB] at h
  | .bor i :: os, .sh _ :: outs, j, ρ', ρ2, h, _, _, _, _, _ => by simp [giveB] at h
  | .bor i :: os, .ow _ :: outs, j, ρ', ρ2, h, _, _, _, _, _ => by simp [giveB] at h
  | .bor i :: os, .bw l c1 :: outs, j, ρ', ρ2, h, k, s, c, e, hc => by
    unfold giveB at h
    by_cases hkj : l = j
    · rw [if_pos hkj] at h
      cases q : ρ[i]? with
      | none => rw [q] at h; cases h
      | some s0 =>
        rw [q] at h
        obtain ⟨c', z | z⟩ := giveB_owned h k s c e hc
        · rcases set_get z with ⟨rfl, w⟩ | ⟨ne, w⟩
          · exact ⟨c1, .inr ⟨s0, q, w⟩⟩
          · exact ⟨c, .inl w⟩
        · exact ⟨c', .inr z⟩
    · rw [if_neg hkj] at h; cases h
theorem Sl.cn_with {s : Sl} {c c' : Cn} (h : (s.with c').cn = some c) : ∃ c0, s.cn = some c0 := by
  cases s with
  | un => cases h
  | sh d => cases h
  | ow c => exact ⟨_, rfl⟩
  | bw j c => exact ⟨_, rfl⟩
end
section
variable {X : Cx}
/-- a call's reading, whatever calls -/
theorem sem_args {sp : SpD} {vs : List V} {os : List AOp} {G : Cd} {σ : L2.St} {H F : Hp} {ρ : SL} {Q : VK} {E : XK} {Qd : Rv → SL → Prop} (R : Rep X.K G σ H F ρ) (d : ADens X.K F σ vs os)
    (q : ∃ sl, mkArgs ρ 0 os = some sl ∧ (bors os).Nodup ∧ sp sl fun r outs => ∃ ρ2, giveB ρ 0 (wipeD ρ (bors os)) os outs = some ρ2 ∧ Qd r ρ2)
    (k : ∀ r ρ' v H' F', Qd r ρ' → Same F F' → Rep X.K G σ H' F' ρ' → RDen X.K G σ ρ' H' F' v r → Q v H') : lift X.K sp vs H Q E := by
  obtain ⟨sl, hm, hn, q⟩ := q
  refine ⟨bOf' σ os, F, sl, _, R.toCall d hm hn, q, fun r outs σ' v H' F' ⟨ρ2, hb, qd⟩ R' rd => ?_⟩
  have RB := R.behind d hm R'
  have own : ∀ (k i : Nat), os[k]? = some (.bor i) → ∃ s c, ρ[i]? = some s ∧ s.cn = some c := fun k i e => by
    obtain ⟨l1, g1⟩ := mkArgs_get hm
    have hj : k < os.length := (List.getElem?_eq_some_iff.mp e).1
    rw [← l1] at hj
    rcases g1 k _ (List.getElem?_eq_getElem hj) with ⟨d', z1, z⟩ | ⟨i', s', c', z1, z2, z3, z4⟩
    · rw [e] at z1; cases z1
    · rw [e] at z1; cases z1
      exact ⟨s', c', z2, z3⟩
  have R2 := R.gives R' (j := 0) hb (fun k s e => by rw [Nat.zero_add]; exact e) (fun k i p e1 e2 => by
    rw [Nat.zero_add] at e2
    unfold bOf' at e2
    rw [e1] at e2
    simp only at e2
    split at e2
    · rename_i q hq
      cases e2; exact hq
    · cases e2) own hn RB fun k s c e hc => by
      rcases wipeD_get e with z | ⟨z, w⟩
      · subst z; cases hc
      · exact ⟨w, s, c, z, hc⟩
  refine k r ρ2 v H' F' qd R'.fr0 R2 ?_
  cases r with
  | v d => exact rd
  | fr c =>
    obtain ⟨p, e, a1, a2, a3, a4⟩ := rd
    have hpn : H p = none := by
      rcases a3 with z | z
      · exact z
      · exact (show False from z).elim
    refine ⟨p, e, a1, a2, .inl (R.fresh hpn).2, fun i s c' e1 e2 e3 => ?_⟩
    obtain ⟨c2, z⟩ := giveB_owned hb i s c' e1 e2
    have : ∃ s0 c0, ρ[i]? = some s0 ∧ s0.cn = some c0 := by
      rcases z with z | ⟨s0, z1, z2⟩
      · rcases wipeD_get z with w | ⟨w, _⟩
        · subst w; cases e2
        · exact ⟨s, c', w, e2⟩
      · subst z2
        obtain ⟨c0, h0⟩ := Sl.cn_with e2
        exact ⟨s0, c0, z1, h0⟩
    obtain ⟨s0, c0, z1, z2⟩ := this
    obtain ⟨p', b1, b2, _⟩ := R.owned z1 z2
    rw [e3] at b1; cases b1
    obtain ⟨o, ho⟩ := b2.ex
    rw [hpn] at ho; cases ho
/-- a def's promise, kept where no repr is under way -/
structure FnG (P : Program) (w : World) (K : PySem.W.Frag) (mg : Str → Option Value) (base : Heap) (CX : CXT) (k : Nat) (f : Addr) (fd : FuncData) (ps : List Str) (sp : Sp) : Prop where
  len : ∀ vs H Q E, sp vs H Q E → vs.length = ps.length
  run : ∀ (A : Around) (outer : List Env) (s : Shared) (H : Hp) (args : Args) (us : List Value) (vs : List V) (Q : VK) (E : XK), A.guards = some [] → Room k A → Env0 P w K mg base A outer s H → BindsTo s fd args (ps.zip us) →
    Vals vs us → sp vs H Q E → codeAny (model P w) A (.call (.ref f) args) (CR CX outer P w H s Q E) s
theorem FnG.mono {P : Program} {w : World} {K : PySem.W.Frag} {mg : Str → Option Value} {base : Heap} {CX : CXT} {j k : Nat} {f : Addr} {fd : FuncData} {ps : List Str} {sp : Sp} (h : FnG P w K mg base CX j f fd ps sp) (hjk : j ≤ k) :
    FnG P w K mg base CX k f fd ps sp := ⟨h.len, fun A o s H a us vs Q E hg hr => h.run A o s H a us vs Q E hg (hr.mono hjk)⟩
theorem FnG.call {CX : CXT} {k : Nat} {f : Addr} {fd : FuncData} {ps : List Str} {sp : Sp} {E : XK} {pins : List (Addr × Obj)} {σ : L2.St} {H : Hp} {s : Shared} {Q : VK} {us : List Value} {vs : List V}
    (h : FnG X.prog X.w X.K X.mg X.base CX k f fd ps sp) (hgd : X.A.guards = some []) (hr : Room k X.A) (hb : Binds X.K fd ps []) (hx : Passes CX X E) (I : Inv X pins σ H s) (r : Vals vs us) (q : sp vs H Q E) :
    wpAny (model X.prog X.w) X.A (PySem.call (.ref f) us) (EP X pins σ Q) X.xe s := by
  have hl : (us ++ []).length = ps.length := by rw [List.append_nil, ← r.length]; exact h.len _ _ _ _ q
  have bt := hb s us I.kIn hl
  rw [List.append_nil] at bt
  have c := h.run X.A X.stack s H ⟨us, []⟩ us vs Q E hgd hr I.env0 bt r q
  refine wpAny_call (codeAny_mono c fun res s' hq => ?_)
  match res, hq with
  | .error e, hq => exact hx pins σ H s e s' I hq
  | .ok (.ret u), hq => exact I.after hq
  | .ok .next, hq => exact False.elim hq
  | .ok .brk, hq => exact False.elim hq
  | .ok .cont, hq => exact False.elim hq
theorem pe_callG {CX : CXT} {k : Nat} {f : Addr} {fd : FuncData} {ps : List Str} {sp : Sp} {x : Str} {p pos : Pos} {e : Expr} {es : List Expr} {ta : TA} {E : XK} (h : FnG X.prog X.w X.K X.mg X.base CX k f fd ps sp) (hgd : X.A.guards = some []) (hr : Room k X.A)
    (hg : Gl X x) (hm : X.mg x = some (.ref f)) (hk : PySem.W.keepIn X.K (.ref f) = true) (hb : Binds X.K fd ps []) (hx : Passes CX X E) (ha : PA X (e :: es) ta) (hdb : (x == ("__debug__" : Str)) = false := by decide)
    (he : starEach (e :: es) X.env = (false, eval e X.env) :: starEach es X.env := by rfl) (hpl : (backTo pos (starEach es X.env)).any (·.1) = false := by rfl) : PE X (.Call (.Name x p) (e :: es) [] pos) (tCall sp [] E ta) :=
  ⟨fun pins s σ H Q I q => wpAny_Call_Name_kw (ld_glob I hg hm (PySem.W.callWith_K (h₀ := X.base) I.ok.mod.kin hk (thn (ha.run pos pins s σ H _ I q) fun us s1 ⟨vs, H1, I1, r, q1⟩ =>
    ⟨I1.kIn, h.call hgd hr hb hx I1 r (by have q2 : sp (vs ++ []) H1 Q E := q1; rw [List.append_nil] at q2; exact q2)⟩) he hpl) hdb)⟩
theorem de_call {CX : CXT} {k : Nat} {f : Addr} {fd : FuncData} {ps : List Str} {sp : SpD} {x : Str} {p pos : Pos} {e : Expr} {es : List Expr} {ta : TA} {t : TAg} {E : XK} (Fk : FnG X.prog X.w X.K X.mg X.base CX k f fd ps (lift X.K sp)) (hgd : X.A.guards = some []) (hr : Room k X.A)
    (hg : Gl X x) (hm : X.mg x = some (.ref f)) (hk : PySem.W.keepIn X.K (.ref f) = true) (hb : Binds X.K fd ps []) (hx : Passes CX X E) (ha : DAg X (e :: es) ta t) (hdb : (x == ("__debug__" : Str)) = false := by decide)
    (he : starEach (e :: es) X.env = (false, eval e X.env) :: starEach es X.env := by rfl) (hpl : (backTo pos (starEach es X.env)).any (·.1) = false := by rfl) : DE X (.Call (.Name x p) (e :: es) [] pos) (tCall (lift X.K sp) [] E ta) (dCall sp t) :=
  ⟨pe_callG Fk hgd hr hg hm hk hb hx ha.pe hdb he hpl, fun R q kk => ha.sem R q fun os ρ1 vs H1 F1 q1 s1 R1 d1 => by
    rw [List.append_nil]
    exact sem_args R1 d1 q1 fun r ρ' v H' F' qd s2 R2 rd => kk _ _ _ _ _ qd (s1.trans s2) R2 rd⟩
end
/-! ### a def's body keeps its promise -/
def clean : SL → SL := List.map fun s => match s with
  | .bw j c => .bw j c
  | _ => .un
theorem clean_get {ρ : SL} {i : Nat} {s : Sl} (h : (clean ρ)[i]? = some s) : s = .un ∨ ρ[i]? = some s := by
  unfold clean at h
  rw [List.getElem?_map] at h
  cases q : ρ[i]? with
  | none => rw [q] at h; cases h
  | some t =>
    rw [q] at h
    cases t with
    | bw j c => cases h; exact .inr rfl
    | un => cases h; exact .inl rfl
    | sh d => cases h; exact .inl rfl
    | ow c => cases h; exact .inl rfl
open PySem.Spec PyProof.Rows in
theorem fnG_of {P : Program} {w : World} {K : PySem.W.Frag} {mg : Str → Option Value} {base : Heap} {x qual : Str} {st : Stmt} {f : Addr} {fd : FuncData} {N ps : List Str} {k : Nat} {sp : Sp} {CX : CXT} (Fn : Fun K x qual st f fd) (S : FnScope N ps (defScope st))
    (len : ∀ vs H Q E, sp vs H Q E → vs.length = ps.length)
    (hbody : ∀ (cdv : Value) (A : Around) (outer : List Env) (s : Shared) (H : Hp) (vs : List V) (Q : VK) (E : XK), (A.deeper (PyProof.Rows.envOfC qual (defScope st) s.heap.objs.size f cdv)).guards = some [] → Room k (A.deeper (PyProof.Rows.envOfC qual (defScope st) s.heap.objs.size f cdv)) → sp vs H Q E →
      ∃ t, PSs (cxOf CX P w K mg base N qual (defScope st) f cdv A outer s H E) (defBody st) t ∧ t { nx := fun _ H' => Q .non H', rt := Q } (L2.start N vs) H) : FnG P w K mg base CX (k + 1) f fd ps sp := by
  obtain ⟨oc, od, kV, doc, pm, an, cdv, ct, osl, rfl, lk, hcd⟩ := Fn.ex
  refine ⟨len, fun A outer s H args us vs Q E hgd hr e0 hb r hsp => ?_⟩
  have old : ∀ b o, base.get? b = some o → s.heap.get? b = some o := fun b o e => (e0.bs b o e).1
  have KX := e0.mod.kin.keeps old
  refine codeAny_call_function hr.depth (KX _ _ lk) rfl S.co S.gen rfl (PySem.W.codeRec_of KX hcd) (hb _ _ _ _ (wpAny_newFunctionEnv_cells S.kind (fun y hy => ?_) fun env he s1 y => ?_))
  · rcases S.par y.1 (List.of_mem_zip hy).1 with q | q
    · exact Or.inl q
    · exact Or.inr ⟨q, PySem.W.cellsFrom_some _ _ _ (Or.inl q)⟩
  · subst he
    have J0 : Inv (cxOf CX P w K mg base N qual (defScope st) f cdv A outer s H E) [] (L2.start N vs) H s1 := inv_start S hr.hd e0 (len _ _ _ _ hsp) r y
    obtain ⟨t, ht, hq⟩ := hbody cdv A outer s H vs Q E hgd (hr.deeper _) hsp
    refine ⟨(e0.mod.nolimit.keeps old).keeps y.toInCall.keep, codeAny_func (wpAny_mono (ht.run [] s1 _ H _ J0 hq) (fun fl s' z => ?_) fun _ _ z => z)⟩
    match fl, z with
    | .ret u, ⟨v, _, H', J, rv, q⟩ => exact ⟨v, H', J.os, J.bare, J.base, J.hok, rv, q⟩
    | .next, ⟨_, H', J, q⟩ => exact ⟨.non, H', J.os, J.bare, J.base, J.hok, rfl, q⟩
    | .brk, ⟨_, _, _, q⟩ => exact False.elim q
    | .cont, ⟨_, _, _, q⟩ => exact False.elim q
theorem fnD {P : Program} {w : World} {K : PySem.W.Frag} {mg : Str → Option Value} {base : Heap} {x qual : Str} {st : Stmt} {f : Addr} {fd : FuncData} {N ps : List Str} {k : Nat} {sp : SpD} (Fn : Fun K x qual st f fd) (S : FnScope N ps (defScope st))
    (len : ∀ as Q, sp as Q → as.length = ps.length)
    (hbody : ∀ (cdv : Value) (A : Around) (outer : List Env) (s : Shared) (H : Hp), (A.deeper (PyProof.Rows.envOfC qual (defScope st) s.heap.objs.size f cdv)).guards = some [] → Room k (A.deeper (PyProof.Rows.envOfC qual (defScope st) s.heap.objs.size f cdv)) →
      ∃ ts t, DSs (cxOf CX0 P w K mg base N qual (defScope st) f cdv A outer s H E0).nox (defBody st) ts t ∧
        ∀ as Q, sp as Q → t { nx := fun ρ' => Q (.v .non) (clean (ρ'.take as.length)), rt := fun r ρ' => Q r (clean (ρ'.take as.length)) } (as ++ List.replicate (N.length - as.length) .un)) : FnG P w K mg base CX0 (k + 1) f fd ps (lift K sp) := by
  have lenV : ∀ vs H Q E, lift K sp vs H Q E → vs.length = ps.length := fun vs H Q E ⟨b, F, as, Qd, R, h, _⟩ => by
    have := R.len
    rw [List.length_map] at this
    rw [← this, len as _ h]
  refine fnG_of Fn S lenV fun cdv A outer s H vs Q E hgd hr h => ?_
  obtain ⟨ts, t, hD, hd⟩ := hbody cdv A outer s H hgd hr
  refine ⟨ts, hD.pe.nox, ?_⟩
  obtain ⟨b, F, as, Qd, R, q, kk⟩ := h
  have hl : as.length = vs.length := by have := R.len; rw [List.length_map] at this; exact this
  have R0 : Rep K ⟨b, fun _ => False, H, F⟩ (L2.start N vs) H F (as ++ List.replicate (N.length - as.length) .un) := by
    have R1 : Rep K ⟨b, fun _ => False, H, F⟩ (L2.start N vs) H F (as ++ List.replicate (N.length - as.length) .un) := by
      have gl : ∀ (i : Nat) (s : Sl), (as ++ List.replicate (N.length - as.length) .un)[i]? = some s → s = .un ∨ (as[i]? = some s ∧ (L2.start N vs)[i]? = (vs.map some)[i]?) := fun i s e => by
        by_cases hi : i < as.length
        · rw [List.getElem?_append_left hi] at e
          refine .inr ⟨e, ?_⟩
          unfold L2.start
          rw [List.getElem?_append_left (by rw [List.length_map, ← hl]; exact hi)]
        · rw [List.getElem?_append_right (Nat.le_of_not_lt hi)] at e
          exact .inl (List.eq_of_mem_replicate (List.mem_of_getElem? e))
      exact R.slots (by unfold L2.start; simp [hl]) gl
    exact R1
  have cl : ∀ {σ' : L2.St} {H' F' : Hp} {ρ' : SL}, Rep K ⟨b, fun _ => False, H, F⟩ σ' H' F' ρ' → Rep K ⟨b, fun _ => False, H, F⟩ (σ'.take as.length) H' F' (clean (ρ'.take as.length)) ∧
      ∀ v r, RDen K ⟨b, fun _ => False, H, F⟩ σ' ρ' H' F' v r → RDen K ⟨b, fun _ => False, H, F⟩ (σ'.take as.length) (clean (ρ'.take as.length)) H' F' v r := fun {σ' H' F' ρ'} R' => by
    have gl : ∀ (i : Nat) (s : Sl), (clean (ρ'.take as.length))[i]? = some s → s = .un ∨ (ρ'[i]? = some s ∧ (σ'.take as.length)[i]? = σ'[i]?) := fun i s e => by
      rcases clean_get e with z | z
      · exact .inl z
      · by_cases hi : i < as.length
        · rw [List.getElem?_take_of_lt hi] at z
          exact .inr ⟨z, List.getElem?_take_of_lt hi⟩
        · rw [List.getElem?_take_eq_none (Nat.le_of_not_lt hi)] at z
          cases z
    exact ⟨R'.slots (by unfold clean; rw [List.length_map, List.length_take, List.length_take, R'.len]) gl, fun v r rd => rd.slots gl⟩
  refine hD.sem R0 (hd as Qd q) ⟨fun σ' H' F' ρ' e R' => ?_, fun σ' H' F' ρ' r v e R' rd => ?_, fun _ _ _ _ e _ => e.elim, fun _ _ _ _ e _ => e.elim⟩
  · exact kk _ _ _ _ _ _ e (cl R').1 .non
  · exact kk _ _ _ _ _ _ e (cl R').1 ((cl R').2 _ _ rd)
end DL
namespace DL
open PySem L2
section
variable {X : Cx}
/-! ### methods that change one's own list -/
def SemMut (K : PySem.W.Frag) (r : V → List V → Hp → VK → Prop) (g : List D → List D → (List D → D → Prop) → Prop) : Prop :=
  ∀ {F H : Hp} {p : Addr} {xs : List V} {l : List D} {vs : List V} {ds : List D} {Q : VK} {Qd : List D → D → Prop}, Same F H → H p = some (.lst xs) → DenL K F xs l → DenL K F vs ds → g l ds Qd →
    (∀ l' d xs' z, Qd l' d → DenL K F xs' l' → Den K F z d → Q z (upd H p (.lst xs'))) → r (.ref p) vs H Q
def slL (ρ : SL) (i : Nat) : Option (Sl × List D) := match ρ[i]? with
  | some s => match s.cn with
    | some (.l xs) => some (s, xs)
    | _ => none
  | none => none
theorem slL_some {ρ : SL} {i : Nat} {s : Sl} {l : List D} (h : slL ρ i = some (s, l)) : ρ[i]? = some s ∧ s.cn = some (.l l) := by
  unfold slL at h
  cases q : ρ[i]? with
  | none => rw [q] at h; cases h
  | some t =>
    rw [q] at h
    cases q2 : t.cn with
    | none => simp only [q2] at h; cases h
    | some c =>
      cases c with
      | l xs => simp only [q2] at h; cases h; exact ⟨rfl, q2⟩
      | d _ => simp only [q2] at h; cases h
      | o _ _ => simp only [q2] at h; cases h
def dMut (i : Nat) (g : List D → List D → (List D → D → Prop) → Prop) (t : TVs) : TD := fun ρ Q => (slL ρ i).isSome = true ∧ t ρ fun ds ρ1 => match slL ρ1 i with
  | some (s, l) => g l ds fun l' d => Q (.v d) (ρ1.set i (s.with (.l l')))
  | none => False
theorem sem_mut {r : V → List V → Hp → VK → Prop} {g : List D → List D → (List D → D → Prop) → Prop} {i : Nat} {ta : TA} {t : TVs} {T : String} (hT : T = "list") (hg : SemMut X.K r g)
    (ha : ∀ {G : Cd} {σ : L2.St} {H F : Hp} {ρ : SL} {Q : List V → Hp → Prop} {Qd : List D → SL → Prop}, Rep X.K G σ H F ρ → t ρ Qd →
      (∀ ds ρ' vs H' F', Qd ds ρ' → Same F F' → Rep X.K G σ H' F' ρ' → DenL X.K F' vs ds → Q vs H') → ta σ H Q)
    {G : Cd} {σ : L2.St} {H F : Hp} {ρ : SL} {Q : VK} {Qd : Rv → SL → Prop} (R : Rep X.K G σ H F ρ) (q : dMut i g t ρ Qd)
    (k : ∀ r ρ' v H' F', Qd r ρ' → Same F F' → Rep X.K G σ H' F' ρ' → RDen X.K G σ ρ' H' F' v r → Q v H') : tBM X.K T r (tVar i) ta σ H Q := by
  obtain ⟨q0, q1⟩ := q
  obtain ⟨⟨s0, l0⟩, e0⟩ := Option.isSome_iff_exists.mp q0
  obtain ⟨a0, b0⟩ := slL_some e0
  obtain ⟨p, hp, ⟨xs0, hx0, _⟩, _⟩ := R.owned a0 b0
  refine ⟨.ref p, hp, .inl ⟨hT, xs0, .inl (.inl hx0)⟩, ha R q1 fun ds ρ1 vs H1 F1 q2 s1 R1 d1 => ?_⟩
  cases e1 : slL ρ1 i with
  | none => simp only [e1] at q2
  | some sl =>
    obtain ⟨s, l⟩ := sl
    simp only [e1] at q2
    obtain ⟨a1, b1⟩ := slL_some e1
    obtain ⟨p', hp', ⟨xs, hx, dx⟩, _⟩ := R1.owned a1 b1
    rw [hp] at hp'; cases hp'
    refine hg R1.ext hx dx d1 q2 fun l' d xs' z qd d2 dz => ?_
    exact k _ _ _ _ _ qd s1 (R1.write a1 b1 hp ⟨xs', upd_same, d2⟩) dz
theorem de_mut {i : Nat} {x : Str} {px : Pos} {e : Expr} {es : List Expr} {name : Str} {apos cpos : Pos} {id : String} {r : V → List V → Hp → VK → Prop} {g : List D → List D → (List D → D → Prop) → Prop} {ta : TA} {t : TVs}
    (slot : Slot "list" name id) (hty : typeOf (.builtin id) = pure (.type "method_descriptor")) (hm : MtR X id r) (hg : SemMut X.K r g) (ho : PE X (.Name x px) (tVar i)) (ha : DV X (e :: es) ta t)
    (hbase : attributeBase (.Name x px) name X.env (eval (.Name x px) X.env) = eval (.Name x px) X.env := by rfl)
    (hfew : ((backTo cpos (starEach (e :: es) X.env)).all (fun x => !x.1) && (backToKw cpos (keywordEach [] X.env)).all (fun x => x.1.isSome)
      && decide ((e :: es).length + ([] : List Keyword).length + (if ([] : List Keyword).isEmpty then 0 else 1) < 30)) = true := by rfl)
    (hline : (apos.endLine == cpos.line) = true := by rfl) (hs : starEach (e :: es) X.env = (false, eval e X.env) :: starEach es X.env := by rfl) (hplain : (backTo cpos (starEach es X.env)).any (·.1) = false := by rfl) :
    DE X (.Call (.Attribute (.Name x px) name apos) (e :: es) [] cpos) (tBM X.K "list" r (tVar i) ta) (dMut i g t) :=
  ⟨pe_bm PySem.F.plainAttrs_list slot hty hm ho ha.pe hbase hfew hline hs hplain, fun R q k => sem_mut rfl hg ha.sem R q k⟩
def mAppend (l : List D) (ds : List D) (Q : List D → D → Prop) : Prop := match ds with
  | [d] => l.length < sizeLine ∧ Q (l ++ [d]) .non
  | _ => False
theorem sem_append : SemMut X.K rAppend mAppend := by
  intro F H p xs l vs ds Q Qd e hp dl dv h k
  unfold mAppend at h
  split at h
  · cases dv with
    | cons a b =>
      cases b
      exact ⟨p, xs, _, rfl, rfl, hp, by rw [dl.length]; exact h.1, k _ _ _ _ h.2 (dl.append (.cons a .nil)) .non⟩
  · exact h.elim
theorem de_append {i : Nat} {x : Str} {px : Pos} {e : Expr} {apos cpos : Pos} {ta : TA} {t : TVs} (ho : PE X (.Name x px) (tVar i)) (ha : DV X [e] ta t)
    (hbase : attributeBase (.Name x px) "append" X.env (eval (.Name x px) X.env) = eval (.Name x px) X.env := by rfl)
    (hfew : ((backTo cpos (starEach [e] X.env)).all (fun x => !x.1) && (backToKw cpos (keywordEach [] X.env)).all (fun x => x.1.isSome)
      && decide (([e] : List Expr).length + ([] : List Keyword).length + (if ([] : List Keyword).isEmpty then 0 else 1) < 30)) = true := by rfl)
    (hline : (apos.endLine == cpos.line) = true := by rfl) (hs : starEach [e] X.env = (false, eval e X.env) :: starEach [] X.env := by rfl) (hplain : (backTo cpos (starEach [] X.env)).any (·.1) = false := by rfl) :
    DE X (.Call (.Attribute (.Name x px) "append" apos) [e] [] cpos) (tBM X.K "list" rAppend (tVar i) ta) (dMut i mAppend t) :=
  de_mut PySem.F.slot_list_append PySem.F.type_list_append (fun pins s σ H x xs v us Q => mt_append pins s σ H x xs v us Q) sem_append ho ha hbase hfew hline hs hplain
def mInsert (l : List D) (ds : List D) (Q : List D → D → Prop) : Prop := match ds with
  | [.int i, d] => l.length < sizeLine ∧ 0 ≤ i ∧ i < 2 ^ 63 ∧ Q (l.take i.toNat ++ [d] ++ l.drop i.toNat) .non
  | _ => False
def rInsert : V → List V → Hp → VK → Prop := fun x vs H Q => ∃ (l : Addr) (xs : List V) (i : Int) (y : V), x = .ref l ∧ vs = [.int i, y] ∧ H l = some (.lst xs) ∧ xs.length < sizeLine ∧ 0 ≤ i ∧ i < 2 ^ 63 ∧
    Q .non (upd H l (.lst (xs.take i.toNat ++ [y] ++ xs.drop i.toNat)))
theorem sem_insert : SemMut X.K rInsert mInsert := by
  intro F H p xs l vs ds Q Qd e hp dl dv h k
  unfold mInsert at h
  split at h
  · cases dv with
    | cons a b =>
      cases b with
      | cons b c =>
        cases c; cases a
        exact ⟨p, xs, _, _, rfl, rfl, hp, by rw [dl.length]; exact h.1, h.2.1, h.2.2.1, k _ _ _ _ h.2.2.2 (((dl.take _).append (.cons b .nil)).append (dl.drop _)) .non⟩
  · exact h.elim
theorem de_insert {i : Nat} {x : Str} {px : Pos} {a e : Expr} {apos cpos : Pos} {ta : TA} {t : TVs} (ho : PE X (.Name x px) (tVar i)) (ha : DV X [a, e] ta t)
    (hbase : attributeBase (.Name x px) "insert" X.env (eval (.Name x px) X.env) = eval (.Name x px) X.env := by rfl)
    (hfew : ((backTo cpos (starEach [a, e] X.env)).all (fun x => !x.1) && (backToKw cpos (keywordEach [] X.env)).all (fun x => x.1.isSome)
      && decide (([a, e] : List Expr).length + ([] : List Keyword).length + (if ([] : List Keyword).isEmpty then 0 else 1) < 30)) = true := by rfl)
    (hline : (apos.endLine == cpos.line) = true := by rfl) (hs : starEach [a, e] X.env = (false, eval a X.env) :: starEach [e] X.env := by rfl) (hplain : (backTo cpos (starEach [e] X.env)).any (·.1) = false := by rfl) :
    DE X (.Call (.Attribute (.Name x px) "insert" apos) [a, e] [] cpos) (tBM X.K "list" rInsert (tVar i) ta) (dMut i mInsert t) :=
  de_mut PySem.F.slot_list_insert PySem.F.type_list_insert (r := rInsert) mt_insert sem_insert ho ha hbase hfew hline hs hplain
/-! ### stores: x[i] = e, x[i] op= e, x one's own list or dict -/
def rSetD : V → V → V → Hp → (Hp → Prop) → Prop := fun o i v H Q => ∃ a H4, o = .ref a ∧ DPut H a i v H4 ∧ Q H4
theorem set_dict (hu : X.A.units + 1 < cLine) : PSet X rSetD := by
  intro pins s σ H o i v ov iv u Q I ro ri rv h
  obtain ⟨a, H4, rfl, g, q⟩ := h
  cases ro
  exact d_setItem hu I g ri rv fun s4 I4 => ⟨H4, I4, q⟩
def rSetA : V → V → V → Hp → (Hp → Prop) → Prop := fun o i v H Q => rSetL o i v H Q ∨ rSetD o i v H Q
theorem set_any (hu : X.A.units + 1 < cLine) : PSet X rSetA := by
  intro pins s σ H o i v ov iv u Q I ro ri rv h
  rcases h with h | h
  · exact set_list pins s σ H o i v ov iv u Q I ro ri rv h
  · exact set_dict hu pins s σ H o i v ov iv u Q I ro ri rv h
/-- the content behind the store -/
def cnSet (c : Cn) (i : D) (d : D) (Q : Cn → Prop) : Prop := match c, i with
  | .l l, .int k => ∃ j, ixN l.length k = some j ∧ Q (.l (l.set j d))
  | .d kvs, y => ∃ k, y.key = some k ∧ kvs.length < sizeLine ∧ Q (.d (kPut kvs k d))
  | _, _ => False
theorem sem_store {K : PySem.W.Frag} {G : Cd} {σ : L2.St} {H F : Hp} {ρ : SL} {i : Nat} {s : Sl} {c : Cn} {p : Addr} {x v : V} {a d : D} {Q : Hp → Prop} {Qd : Cn → Prop} (R : Rep K G σ H F ρ) (h : ρ[i]? = some s) (hc : s.cn = some c) (hp : σ[i]? = some (some (.ref p)))
    (hx : Pk K F H x a) (hv : Den K F v d) (q : cnSet c a d Qd) (k : ∀ c' o, Qd c' → Rep K G σ (upd H p o) F (ρ.set i (s.with c')) → Q (upd H p o)) : rSetA (.ref p) x v H Q := by
  obtain ⟨p', hp', hh, _⟩ := R.owned h hc
  rw [hp] at hp'; cases hp'
  unfold cnSet at q
  split at q
  · obtain ⟨j, e, q⟩ := q
    cases hx.int
    obtain ⟨xs, a1, a2⟩ := hh
    exact .inl ⟨p, xs, _, j, rfl, rfl, a1, by rw [a2.length]; exact e, k _ _ q (R.write h hc hp ⟨_, upd_same, DenL.set hv j a2⟩)⟩
  · obtain ⟨k1, e, hz, q⟩ := q
    obtain ⟨ks, a1, a2⟩ := hh
    have := hx.key e
    subst this
    exact .inr ⟨p, _, rfl, DPut.k a1 (by rw [a2.length]; exact hz), k _ _ q (R.write h hc hp ⟨_, upd_same, a2.put hv k1⟩)⟩
  · exact q.elim
def slC (ρ : SL) (i : Nat) : Option (Sl × Cn) := match ρ[i]? with
  | some s => match s.cn with
    | some c => some (s, c)
    | none => none
  | none => none
theorem slC_some {ρ : SL} {i : Nat} {s : Sl} {c : Cn} (h : slC ρ i = some (s, c)) : ρ[i]? = some s ∧ s.cn = some c := by
  unfold slC at h
  cases q : ρ[i]? with
  | none => rw [q] at h; cases h
  | some t =>
    rw [q] at h
    cases q2 : t.cn with
    | none => simp only [q2] at h; cases h
    | some c => simp only [q2] at h; cases h; exact ⟨rfl, q2⟩
def sStore (i : Nat) (te : TD) (ti : TQ) : TSD := fun E ρ => te ρ fun r ρ1 => (slC ρ1 i).isSome = true ∧ ti ρ1 fun o ρ2 => match slC ρ2 i, o.get ρ2 with
  | some (s, c), some a => cnSet c a r.dat fun c' => E.nx (ρ2.set i (s.with c'))
  | _, _ => False
theorem ds_store {i : Nat} {x : Str} {px tpos pos : Pos} {ix e : Expr} {te ti : TE} {t : TD} {u : TQ} (hu : X.A.units + 1 < cLine) (ho : PE X (.Name x px) (tVar i)) (hi : DO X ix ti u) (he : DE X e te t)
    (hpg : PG X (.Subscript (.Name x px) ix tpos) (gSub (tVar i) ti rSetA))
    (hs : swapsWithSole [.Subscript (.Name x px) ix tpos] e pos.line X.env = pure false := by rfl) (hw : swappedStores [.Subscript (.Name x px) ix tpos] e X.env = pure none := by rfl)
    (h1 : (assignEach [.Subscript (.Name x px) ix tpos] X.env).map (·.2) = [assign (.Subscript (.Name x px) ix tpos) X.env] := by rfl) :
    DS X (.Assign [.Subscript (.Name x px) ix tpos] e pos) (tAsg te (gSub (tVar i) ti rSetA)) (sStore i t u) := by
  refine ⟨ps_asg he.pe hpg hs hw h1, fun R q L => he.sem R q fun r ρ1 v H1 F1 q1 s1 R1 rd => ?_⟩
  obtain ⟨F1', s1', R1', d1⟩ := R1.share rd
  obtain ⟨q0, q1⟩ := q1
  obtain ⟨⟨s0, c0⟩, e0⟩ := Option.isSome_iff_exists.mp q0
  obtain ⟨a0, b0⟩ := slC_some e0
  obtain ⟨p, hp, _⟩ := R1'.owned a0 b0
  refine ⟨.ref p, hp, hi.sem R1' q1 fun o ρ2 y H2 F2 q2 s2 R2 d2 => ?_⟩
  cases e1 : slC ρ2 i with
  | none => simp only [e1] at q2
  | some sc =>
    obtain ⟨s, c⟩ := sc
    obtain ⟨a1, b1⟩ := slC_some e1
    cases e2 : o.get ρ2 with
    | none => simp only [e1, e2] at q2
    | some a =>
      simp only [e1, e2] at q2
      exact sem_store R2 a1 b1 hp (d2.pk R2 e2) (d1.mono s2) q2 fun c' o' qd R3 => L.nx _ _ _ _ qd R3
/-- x[i] read, for x[i] op= e -/
theorem get_list : PGet X (rIxL X.K) := by
  intro pins s σ H o i ov iv Q I rx ry h
  obtain ⟨p, xs, i, z, rfl, rfl, hq, he, q⟩ := h
  cases rx
  obtain ⟨t, rfl⟩ := ry
  obtain ⟨its, r, pl, hz⟩ := I.list hq
  obtain ⟨j, h1, h2, h3, h4, h5⟩ := atI_get he
  obtain ⟨w, ew, rw'⟩ := r.get h2
  have hl := r.length
  have hn := line63
  have fin : EP X pins σ Q w s := ⟨z, H, I, rw', q⟩
  by_cases h0 : 0 ≤ i
  · have hj : i.toNat = j := by
      rw [seqIndex_of h0 h5] at h1
      exact Option.some.inj h1
    exact wpAny_getItem_list pl.isList h0 (by omega) (by rw [hj]; simpa using ew) fin
  · have hj : (i + (its.toArray.size : Int)).toNat = j := by
      rw [seqIndex_neg (by omega) h4] at h1
      rw [List.size_toArray, ← hl]
      exact Option.some.inj h1
    exact wpAny_getItem_list_neg pl.isList (by omega) (by rw [List.size_toArray] <;> omega) (by omega) (by rw [hj]; simpa using ew) fin
theorem get_dict (hu : X.A.units + 1 < cLine) : PGet X rIxD := by
  intro pins s σ H o i ov iv Q I rx ry h
  obtain ⟨a, v, rfl, g, q⟩ := h
  cases rx
  exact d_getItem hu I g ry fun w' s3 I3 rw' => ⟨v, H, I3, rw', q⟩
def rGetA (K : PySem.W.Frag) : R2 := fun x y H Q => rIxL K x y H Q ∨ rIxD x y H Q
theorem get_any (hu : X.A.units + 1 < cLine) : PGet X (rGetA X.K) := by
  intro pins s σ H o i ov iv Q I rx ry h
  rcases h with h | h
  · exact get_list pins s σ H o i ov iv Q I rx ry h
  · exact get_dict hu pins s σ H o i ov iv Q I rx ry h
theorem gIx_dct {kvs : List (Key × D)} {y : D} {Q : Rv → Prop} : gIx (.dct kvs) y Q = ∃ k d, y.key = some k ∧ kGet kvs k = some d ∧ Q (.v d) := by cases y <;> rfl
def sAugI (i : Nat) (f : Int → Int → Int) (ti : TQ) (te : TD) : TSD := fun E ρ => (slC ρ i).isSome = true ∧ ti ρ fun o ρ1 => match slC ρ1 i, o.get ρ1 with
  | some (_, c), some a => gIx c.dat a fun old => te ρ1 fun r ρ2 => match old, r, slC ρ2 i, o.get ρ2 with
    | .v (.int m), .v (.int n), some (s, c2), some a2 => cnSet c2 a2 (.int (f m n)) fun c' => E.nx (ρ2.set i (s.with c'))
    | _, _, _, _ => False
  | _, _ => False
theorem ds_augI {i : Nat} {f : Int → Int → Int} {op : Operator} {x : Str} {px tpos pos : Pos} {ix e : Expr} {te ti : TE} {t : TD} {u : TQ} (hu : X.A.units + 1 < cLine) (ho : PE X (.Name x px) (tVar i)) (hi : DO X ix ti u) (he : DE X e te t) (hp : PIp X op (ipI f))
    (ha : ∀ ov iv new, augStore ix ov iv new = (do holding [new, ov, iv] (setItem ov iv new); release [new, ov, iv] []; pure .next) := by intros; rfl) :
    DS X (.AugAssign (.Subscript (.Name x px) ix tpos) op e pos) (tAugS (tVar i) ti te (rGetA X.K) (ipI f) rSetA) (sAugI i f u t) := by
  refine ⟨ps_augS ho hi.pe (get_any hu) he.pe hp (set_any hu) ha, fun {G σ H F ρ D E} R q L => ?_⟩
  obtain ⟨q0, q1⟩ := q
  obtain ⟨⟨s0, c0⟩, e0⟩ := Option.isSome_iff_exists.mp q0
  obtain ⟨a0, b0⟩ := slC_some e0
  obtain ⟨p, hp, _⟩ := R.owned a0 b0
  refine ⟨.ref p, hp, hi.sem R q1 fun o ρ1 y H1 F1 q1 s1 R1 d1 => ?_⟩
  cases e1 : slC ρ1 i with
  | none => simp only [e1] at q1
  | some sc =>
    obtain ⟨s1', c1⟩ := sc
    obtain ⟨a1, b1⟩ := slC_some e1
    cases e2 : o.get ρ1 with
    | none => simp only [e1, e2] at q1
    | some a =>
      simp only [e1, e2] at q1
      obtain ⟨p', hp', hh, _⟩ := R1.owned a1 b1
      rw [hp] at hp'; cases hp'
      have pk1 : Pk X.K F1 H1 (.ref p) c1.dat := .inr ⟨p, c1, rfl, rfl, hh⟩
      have rest : ∀ (old : Rv) (z : V), (te σ H1 fun y2 H3 => ipI f z y2 H3 fun z' H5 => rSetA (.ref p) y z' H5 fun H6 => D.nx σ H6) → rGetA X.K (.ref p) y H1 (fun x3 H3 => x3 = z ∧ H3 = H1) → rGetA X.K (.ref p) y H1 (fun x3 H3 => te σ H3 fun y2 H3 => ipI f x3 y2 H3 fun z' H5 => rSetA (.ref p) y z' H5 fun H6 => D.nx σ H6) := by
        intro old z hz hg
        rcases hg with ⟨p2, xs, k, v, h1, h2, h3, h4, rfl, _⟩ | ⟨a2, v, h1, h2, rfl, _⟩
        · exact .inl ⟨p2, xs, k, v, h1, h2, h3, h4, hz⟩
        · exact .inr ⟨a2, v, h1, h2, hz⟩
      have fin : ∀ (old : Rv) (z : V), RDen X.K G σ ρ1 H1 F1 z old → (t ρ1 fun r ρ2 => match old, r, slC ρ2 i, o.get ρ2 with
          | .v (.int m), .v (.int n), some (s, c2), some a2 => cnSet c2 a2 (.int (f m n)) fun c' => E.nx (ρ2.set i (s.with c'))
          | _, _, _, _ => False) → te σ H1 fun y2 H3 => ipI f z y2 H3 fun z' H5 => rSetA (.ref p) y z' H5 fun H6 => D.nx σ H6 := by
        intro old z rdz q2
        refine he.sem R1 q2 fun r ρ2 y2 H3 F3 q3 s3 R3 rd3 => ?_
        split at q3
        · rename_i m n s2 c2 a2 e4 e5
          cases rdz; cases rd3
          obtain ⟨a5, b5⟩ := slC_some e4
          exact ⟨m, n, rfl, rfl, sem_store R3 a5 b5 hp ((d1.mono s3).pk R3 e5) (.int _) q3 fun c' o' qd R4 => L.nx _ _ _ _ qd R4⟩
        · exact q3.elim
      -- what stands there
      cases c1 with
      | l l =>
        cases a with
        | int kk =>
          obtain ⟨d, e3, q2⟩ := q1
          obtain ⟨p3, xs, ep, h1, dd⟩ := pk1.lst R1.ext
          cases ep
          cases (d1.pk R1 e2).int
          obtain ⟨v, e4, dv⟩ := dd.atI e3
          exact rest (.v d) v (fin (.v d) v dv q2) (.inl ⟨p, xs, _, v, rfl, rfl, .inl (.inl h1), e4, rfl, rfl⟩)
        | _ => exact q1.elim
      | d kvs =>
        have q1' := q1
        rw [show Cn.dat (.d kvs) = .dct kvs from rfl, gIx_dct] at q1'
        obtain ⟨k1, d, ek, e3, q2⟩ := q1'
        obtain ⟨p3, ks, ep, h1, dd⟩ := pk1.dct R1.ext
        cases ep
        obtain ⟨v, e4, dv⟩ := dd.get e3
        have ey := (d1.pk R1 e2).key ek
        subst ey
        exact rest (.v d) v (fin (.v d) v dv q2) (.inr ⟨p, v, rfl, by rw [← e4]; exact DGet.k h1, rfl, rfl⟩)
      | o _ _ => cases a <;> exact q1.elim
/-! ### x op= e, x a name that holds an int -/
def sAug (i : Nat) (f : Int → Int → Int) (t : TD) : TSD := fun E ρ => match ρ[i]? with
  | some (.sh (.int m)) => t ρ fun r ρ1 => match r with
    | .v (.int n) => E.nx (ρ1.set i (.sh (.int (f m n))))
    | _ => False
  | _ => False
theorem ds_aug {i : Nat} {f : Int → Int → Int} {x : Str} {e : Expr} {te : TE} {t : TD} {op : Operator} {pos pos' : Pos} (hN : X.N.Nodup) (hi : X.N[i]? = some x) (hx : Loc X.env.scope x) (he : DE X e te t) (ho : PIp X op (ipI f))
    (hf : X.fn x = true ∨ X.env.scope.names.lookup x = some .local := by first | exact .inl rfl | exact .inr rfl | assumption) : DS X (.AugAssign (.Name x pos') op e pos) (tAug i te (ipI f)) (sAug i f t) := by
  refine ⟨ps_aug hN hi hx he.pe ho hf, fun {G σ H F ρ D E} R q L => ?_⟩
  unfold sAug at q
  split at q
  · rename_i m hm
    obtain ⟨v, a, b⟩ := R.sh i _ hm
    cases b
    refine ⟨_, a, he.sem R q fun r ρ1 y H1 F1 q1 s1 R1 rd => ?_⟩
    split at q1
    · cases rd
      exact ⟨_, _, rfl, rfl, L.nx _ _ _ _ q1 (R1.setSh (.int _) i)⟩
    · exact q1.elim
  · exact q.elim
end
end DL
namespace DL
open PySem L2
section
variable {K : PySem.W.Frag} {F H : Hp}
theorem pks1 {xs : List V} {d : D} (h : Pks K F H xs [d]) : ∃ x, xs = [x] ∧ Pk K F H x d := by
  cases h with
  | cons a b => cases b; exact ⟨_, rfl, a⟩
theorem pks2 {xs : List V} {d e : D} (h : Pks K F H xs [d, e]) : ∃ x y, xs = [x, y] ∧ Pk K F H x d ∧ Pk K F H y e := by
  cases h with
  | cons a b =>
    obtain ⟨y, rfl, h⟩ := pks1 b
    exact ⟨_, y, rfl, a, h⟩
theorem pks3 {xs : List V} {d e f : D} (h : Pks K F H xs [d, e, f]) : ∃ x y z, xs = [x, y, z] ∧ Pk K F H x d ∧ Pk K F H y e ∧ Pk K F H z f := by
  cases h with
  | cons a b =>
    obtain ⟨y, z, rfl, h⟩ := pks2 b
    exact ⟨_, y, z, rfl, a, h⟩
theorem DenL.bls : ∀ {vs : List V} {bs : List Bool}, DenL K F vs (bs.map D.bl) → vs = bs.map V.bl
  | _, [], h => by cases h; rfl
  | _, b :: bs, h => by
    cases h with
    | cons a t => cases a; rw [DenL.bls t]; rfl
theorem DenL.nums : ∀ {vs : List V} {bs : List Int}, DenL K F vs (bs.map D.int) → vs = bs.map V.int
  | _, [], h => by cases h; rfl
  | _, b :: bs, h => by
    cases h with
    | cons a t => cases a; rw [DenL.nums t]; rfl
theorem DenL.txts : ∀ {vs : List V} {bs : List Str}, DenL K F vs (bs.map D.str) → vs = bs.map V.str ∧ ∀ b ∈ bs, PyData.strOk b = true
  | _, [], h => by cases h; exact ⟨rfl, fun _ h => by simp at h⟩
  | _, b :: bs, h => by
    cases h with
    | cons a t =>
      cases a with
      | str _ o =>
        obtain ⟨e, h2⟩ := DenL.txts t
        refine ⟨by rw [e]; rfl, fun c hc => ?_⟩
        rcases List.mem_cons.mp hc with rfl | hc
        · exact o
        · exact h2 c hc
end
section
variable {X : Cx}
def gAbs : List D → (Rv → Prop) → Prop
  | [.int i] => fun Q => Q (.v (.int (if i < 0 then -i else i)))
  | _ => fun _ => False
theorem sem_abs : SemCall X.K (fun xs H Q => ∃ i, xs = [.int i] ∧ Q (.int (if i < 0 then -i else i)) H) gAbs := by
  intro G σ H F ρ xs as Q Qd R ha h k
  unfold gAbs at h
  split at h
  · obtain ⟨x, rfl, p⟩ := pks1 ha
    cases p.int
    exact ⟨_, rfl, k _ _ _ _ h (Same.refl _) R (.int _)⟩
  · exact h.elim
def gLen : List D → (Rv → Prop) → Prop
  | [.lst l] => fun Q => Q (.v (.int l.length))
  | [.tup l] => fun Q => Q (.v (.int l.length))
  | [.str x] => fun Q => x.length ≤ sizeLine ∧ Q (.v (.int x.length))
  | [.dct l] => fun Q => Q (.v (.int l.length))
  | [.scr l] => fun Q => Q (.v (.int l.length))
  | _ => fun _ => False
def rLenA (K : PySem.W.Frag) : List V → Hp → VK → Prop := fun xs H Q => (∃ x n, xs = [x] ∧ LenV K x H n ∧ Q (.int n) H) ∨ ∃ a kvs, xs = [V.ref a] ∧ H a = some (.dK kvs) ∧ Q (.int kvs.length) H
theorem call_lenA : CallR X (.builtin "len") (rLenA X.K) := call_len.or call_lenD
theorem sem_len : SemCall X.K (rLenA X.K) gLen := by
  intro G σ H F ρ xs as Q Qd R ha h k
  unfold gLen at h
  split at h
  · obtain ⟨x, rfl, p⟩ := pks1 ha
    obtain ⟨a, ys, rfl, h1, h2⟩ := p.lst R.ext
    exact .inl ⟨_, ys.length, rfl, .inl ⟨ys, .inl (.inl h1), rfl⟩, by rw [h2.length]; exact k _ _ _ _ h (Same.refl _) R (.int _)⟩
  · obtain ⟨x, rfl, p⟩ := pks1 ha
    obtain ⟨a, ys, rfl, h1, h2⟩ := p.tup
    exact .inl ⟨_, ys.length, rfl, .inr ⟨ys, .inl (.inl (R.ext _ _ h1)), rfl⟩, by rw [h2.length]; exact k _ _ _ _ h (Same.refl _) R (.int _)⟩
  · obtain ⟨x, rfl, p⟩ := pks1 ha
    cases p.str
    exact .inl ⟨_, _, rfl, ⟨h.1, rfl⟩, k _ _ _ _ h.2 (Same.refl _) R (.int _)⟩
  · obtain ⟨x, rfl, p⟩ := pks1 ha
    obtain ⟨a, ys, rfl, h1, h2⟩ := p.dct R.ext
    exact .inr ⟨a, ys, rfl, h1, by rw [h2.length]; exact k _ _ _ _ h (Same.refl _) R (.int _)⟩
  · rename_i l
    obtain ⟨x, rfl, p⟩ := pks1 ha
    obtain ⟨a, rfl, h1⟩ := p.scr R.ext
    exact .inl ⟨_, _, rfl, .inl ⟨_, h1, rfl⟩, by rw [List.length_map]; exact k _ _ _ _ h (Same.refl _) R (.int _)⟩
  · exact h.elim
def gMin : List D → (Rv → Prop) → Prop
  | [.int i, .int j] => fun Q => Q (.v (.int (min i j)))
  | [.lst l] => fun Q => ∃ ns : List Int, l = ns.map D.int ∧ 0 < ns.length ∧ ∀ m, m ∈ ns → (∀ y ∈ ns, m ≤ y) → Q (.v (.int m))
  | _ => fun _ => False
def gMax : List D → (Rv → Prop) → Prop
  | [.int i, .int j] => fun Q => Q (.v (.int (max i j)))
  | [.int i, .int j, .int k] => fun Q => Q (.v (.int (max (max i j) k)))
  | [.lst l] => fun Q => ∃ ns : List Int, l = ns.map D.int ∧ 0 < ns.length ∧ ∀ m, m ∈ ns → (∀ y ∈ ns, y ≤ m) → Q (.v (.int m))
  | _ => fun _ => False
def rMinA (K : PySem.W.Frag) : List V → Hp → VK → Prop := fun xs H Q => (∃ i j, xs = [.int i, .int j] ∧ Q (.int (if j < i then j else i)) H) ∨ rMin K xs H Q
def rMaxA (K : PySem.W.Frag) : List V → Hp → VK → Prop := fun xs H Q => (∃ i j, xs = [.int i, .int j] ∧ Q (.int (if j > i then j else i)) H) ∨ (rMax K xs H Q ∨ rNuC3 nuMax3 xs H Q)
theorem call_minA (hc : X.calm = true) : CallR X (.builtin "min") (rMinA X.K) := (call_min2 hc).or (cr_min hc)
theorem call_maxA (hc : X.calm = true) : CallR X (.builtin "max") (rMaxA X.K) := (call_max2 hc).or ((cr_max hc).or (call_max3Nu hc))
theorem sem_min : SemCall X.K (rMinA X.K) gMin := by
  intro G σ H F ρ xs as Q Qd R ha h k
  unfold gMin at h
  split at h
  · rename_i i j
    obtain ⟨x, y, rfl, p, q⟩ := pks2 ha
    cases p.int; cases q.int
    refine .inl ⟨_, _, rfl, ?_⟩
    have e : (if j < i then j else i) = min i j := by rw [Int.min_def]; split <;> split <;> omega
    rw [e]
    exact k _ _ _ _ h (Same.refl _) R (.int _)
  · obtain ⟨ns, rfl, h1, h2⟩ := h
    obtain ⟨x, rfl, p⟩ := pks1 ha
    obtain ⟨a, ys, rfl, h3, h4⟩ := p.lst R.ext
    refine .inr ⟨a, ns, rfl, by rw [← h4.nums]; exact .inl (.inl h3), h1, fun m hm hle => k _ _ _ _ (h2 m hm hle) (Same.refl _) R (.int _)⟩
  · exact h.elim
theorem nuMax_int (i j : Int) : nuMax2 (.int i) (.int j) = some (.int (max i j)) := by
  have : nuLt (.int i) (.int j) = some (decide (i < j)) := rfl
  unfold nuMax2
  rw [this]
  show some (if decide (i < j) = true then V.int j else V.int i) = _
  by_cases h : i < j
  · rw [decide_eq_true h, if_pos rfl, Int.max_eq_right (by omega)]
  · rw [decide_eq_false h, if_neg Bool.false_ne_true, Int.max_eq_left (by omega)]
theorem sem_max : SemCall X.K (rMaxA X.K) gMax := by
  intro G σ H F ρ xs as Q Qd R ha h k
  unfold gMax at h
  split at h
  · rename_i i j
    obtain ⟨x, y, rfl, p, q⟩ := pks2 ha
    cases p.int; cases q.int
    refine .inl ⟨_, _, rfl, ?_⟩
    have e : (if j > i then j else i) = max i j := by rw [Int.max_def]; split <;> split <;> omega
    rw [e]
    exact k _ _ _ _ h (Same.refl _) R (.int _)
  · rename_i i j l
    obtain ⟨x, y, z, rfl, p, q, r⟩ := pks3 ha
    cases p.int; cases q.int; cases r.int
    refine .inr (.inr ⟨_, _, _, .int (max (max i j) l), rfl, ?_, k _ _ _ _ h (Same.refl _) R (.int _)⟩)
    unfold nuMax3
    rw [nuMax_int]
    exact nuMax_int _ _
  · obtain ⟨ns, rfl, h1, h2⟩ := h
    obtain ⟨x, rfl, p⟩ := pks1 ha
    obtain ⟨a, ys, rfl, h3, h4⟩ := p.lst R.ext
    refine .inr (.inl ⟨a, ns, rfl, by rw [← h4.nums]; exact .inl (.inl h3), h1, fun m hm hle => k _ _ _ _ (h2 m hm hle) (Same.refl _) R (.int _)⟩)
  · exact h.elim
def gInt : List D → (Rv → Prop) → Prop
  | [.int i] => fun Q => Q (.v (.int i))
  | [.bl b] => fun Q => Q (.v (.int (if b then 1 else 0)))
  | _ => fun _ => False
theorem sem_int : SemCall X.K (fun xs H Q => (∃ i, xs = [.int i] ∧ Q (.int i) H) ∨ ∃ k, xs = [.bl k] ∧ Q (.int (if k then 1 else 0)) H) gInt := by
  intro G σ H F ρ xs as Q Qd R ha h k
  unfold gInt at h
  split at h
  · obtain ⟨x, rfl, p⟩ := pks1 ha
    cases p.int
    exact .inl ⟨_, rfl, k _ _ _ _ h (Same.refl _) R (.int _)⟩
  · obtain ⟨x, rfl, p⟩ := pks1 ha
    cases p.bl
    exact .inr ⟨_, rfl, k _ _ _ _ h (Same.refl _) R (.int _)⟩
  · exact h.elim
def gAny (f : List Bool → Bool) : List D → (Rv → Prop) → Prop
  | [.lst l] => fun Q => ∃ bs : List Bool, l = bs.map D.bl ∧ Q (.v (.bl (f bs)))
  | _ => fun _ => False
theorem sem_any : SemCall X.K (rAny X.K) (gAny fun bs => bs.any id) := by
  intro G σ H F ρ xs as Q Qd R ha h k
  unfold gAny at h
  split at h
  · obtain ⟨bs, rfl, h⟩ := h
    obtain ⟨x, rfl, p⟩ := pks1 ha
    obtain ⟨a, ys, rfl, h3, h4⟩ := p.lst R.ext
    exact ⟨a, bs, rfl, by rw [← h4.bls]; exact .inl (.inl h3), k _ _ _ _ h (Same.refl _) R (.bl _)⟩
  · exact h.elim
theorem sem_all : SemCall X.K (rAll X.K) (gAny fun bs => bs.all id) := by
  intro G σ H F ρ xs as Q Qd R ha h k
  unfold gAny at h
  split at h
  · obtain ⟨bs, rfl, h⟩ := h
    obtain ⟨x, rfl, p⟩ := pks1 ha
    obtain ⟨a, ys, rfl, h3, h4⟩ := p.lst R.ext
    exact ⟨a, bs, rfl, by rw [← h4.bls]; exact .inl (.inl h3), k _ _ _ _ h (Same.refl _) R (.bl _)⟩
  · exact h.elim
def gSum : List D → (Rv → Prop) → Prop
  | [.lst l] => fun Q => ∃ ns : List Int, l = ns.map D.int ∧ Q (.v (.int ns.sum))
  | _ => fun _ => False
theorem sem_sum : SemCall X.K (fun vs H Q => ∃ (a : Addr) (ns : List Int), vs = [V.ref a] ∧ SqL X.K H a (ns.map V.int) ∧ Q (.int ns.sum) H) gSum := by
  intro G σ H F ρ xs as Q Qd R ha h k
  unfold gSum at h
  split at h
  · obtain ⟨ns, rfl, h⟩ := h
    obtain ⟨x, rfl, p⟩ := pks1 ha
    obtain ⟨a, ys, rfl, h3, h4⟩ := p.lst R.ext
    exact ⟨a, ns, rfl, by rw [← h4.nums]; exact .inl (.inl h3), k _ _ _ _ h (Same.refl _) R (.int _)⟩
  · exact h.elim
def gList : List D → (Rv → Prop) → Prop
  | [.lst l] => fun Q => Q (.fr (.l l))
  | [.tup l] => fun Q => Q (.fr (.l l))
  | _ => fun _ => False
theorem sem_list : SemCall X.K (fun xs H Q => ∃ p ys, xs = [.ref p] ∧ (SqL X.K H p ys ∨ SqT X.K H p ys) ∧ ∀ l, H l = none → Q (.ref l) (upd H l (.lst ys))) gList := by
  intro G σ H F ρ xs as Q Qd R ha h k
  unfold gList at h
  split at h
  · obtain ⟨x, rfl, p⟩ := pks1 ha
    obtain ⟨a, ys, rfl, h1, h2⟩ := p.lst R.ext
    refine ⟨a, ys, rfl, .inl (.inl (.inl h1)), fun b hb => ?_⟩
    obtain ⟨R1, rd⟩ := R.allocFr hb (o := .lst ys) (c := .l _) ⟨_, upd_same, h2⟩
    exact k _ _ _ _ h (Same.refl _) R1 rd
  · obtain ⟨x, rfl, p⟩ := pks1 ha
    obtain ⟨a, ys, rfl, h1, h2⟩ := p.tup
    refine ⟨a, ys, rfl, .inr (.inl (.inl (R.ext _ _ h1))), fun b hb => ?_⟩
    obtain ⟨R1, rd⟩ := R.allocFr hb (o := .lst ys) (c := .l _) ⟨_, upd_same, h2⟩
    exact k _ _ _ _ h (Same.refl _) R1 rd
  · exact h.elim
/-! ### text.join(list) -/
theorem strOk_fold (sep : Str) (hs : PyData.strOk sep = true) : ∀ (l : List Str) (a : Str), PyData.strOk a = true → (∀ b ∈ l, PyData.strOk b = true) → PyData.strOk (⟨l.foldl (fun acc p => acc ++ sep.cps ++ p.cps) a.cps⟩ : Str) = true
  | [], a, ha, _ => ha
  | b :: l, a, ha, h => by
    rw [List.foldl_cons]
    refine strOk_fold sep hs l ⟨a.cps ++ sep.cps ++ b.cps⟩ ?_ fun c hc => h c (List.mem_cons_of_mem _ hc)
    have hb := h b List.mem_cons_self
    rw [strOk_iff] at *
    intro c hc
    have hc' : c ∈ a.cps.toList ∨ c ∈ sep.cps.toList ∨ c ∈ b.cps.toList := by
      have : c ∈ a.cps.toList ++ sep.cps.toList ++ b.cps.toList := by simpa using hc
      simpa [or_assoc] using this
    rcases hc' with z | z | z
    · exact ha c z
    · exact hs c z
    · exact hb c z
theorem strOk_join {a : Str} {ys : List Str} (ha : PyData.strOk a = true) (h : ∀ b ∈ ys, PyData.strOk b = true) : PyData.strOk (Txt.join a ys) = true := by
  cases ys with
  | nil =>
    show PyData.strOk (Builtin.Str.glued a []) = true
    simp [Builtin.Str.glued, PyData.strOk, Str.empty]
  | cons b l => exact strOk_fold a ha l b (h b List.mem_cons_self) fun c hc => h c (List.mem_cons_of_mem _ hc)
def dJoin (a : Str) (te : TQ) : TD := fun ρ Q => te ρ fun o2 ρ2 => match o2.get ρ2 with
  | some (.lst l) => ∃ ys : List Str, l = ys.map D.str ∧ (ys.map (·.length)).sum + ys.length * a.length ≤ 16777216 ∧ Q (.v (.str (Txt.join a ys))) ρ2
  | _ => False
theorem de_join {a : Str} {j : Nat} {e : Expr} {apos pos cp : Pos} {te : TE} {u : TQ} (he : DO X e te u) (ho : PyData.strOk a = true := by decide +kernel) (hs : starEach [e] X.env = [(false, eval e X.env)] := by rfl)
    (hbase : attributeBase (.Constant (.str a) j cp) "join" X.env (eval (.Constant (.str a) j cp) X.env) = eval (.Constant (.str a) j cp) X.env := by rfl) (hline : (apos.endLine == pos.line) = true := by rfl) :
    DE X (.Call (.Attribute (.Constant (.str a) j cp) "join" apos) [e] [] pos) (tM1 (fun x xs H Q => ∃ a p, ∃ ys : List Str, x = .str a ∧ xs = [.ref p] ∧ (SqL X.K H p (ys.map V.str) ∨ SqT X.K H p (ys.map V.str)) ∧
      (ys.map (·.length)).sum + ys.length * a.length ≤ 16777216 ∧ Q (.str (Txt.join a ys)) H) (tC (.str a)) te) (dJoin a u) := by
  refine ⟨pe_join pe_str he.pe hs hbase hline, fun {G σ H F ρ Q Qd} R q k => ⟨⟨a, rfl⟩, he.sem R q fun o ρ1 v H1 F1 q1 s1 R1 d1 => ?_⟩⟩
  split at q1
  · rename_i l e1
    obtain ⟨ys, rfl, hz, q1⟩ := q1
    obtain ⟨p, xs, rfl, h1, h2⟩ := (d1.pk R1 e1).lst R1.ext
    obtain ⟨rfl, h3⟩ := h2.txts
    exact ⟨a, p, ys, rfl, rfl, .inl (.inl (.inl h1)), hz, k _ _ _ _ _ q1 s1 R1 (.str _ (strOk_join ho h3))⟩
  · exact q1.elim
/-! ### x[::-1] of a list -/
def dRev (te : TQ) : TD := fun ρ Q => te ρ fun o ρ1 => match o.get ρ1 with
  | some (.lst l) => Q (.fr (.l l.reverse)) ρ1
  | _ => False
theorem de_rev {e : Expr} {te : TE} {u : TQ} {k : Nat} {p1 p2 p3 pos : Pos} (he : DO X e te u) : DE X (.Subscript e (.Slice none none (some (.UnaryOp .USub (.Constant (.int 1) k p1) p2)) p3) pos) (tRevL X.K te) (dRev u) := by
  refine ⟨pe_revL he.pe, fun {G σ H F ρ Q Qd} R q k => he.sem R q fun o ρ1 v H1 F1 q1 s1 R1 d1 => ?_⟩
  split at q1
  · rename_i l e1
    obtain ⟨p, xs, rfl, h1, h2⟩ := (d1.pk R1 e1).lst R1.ext
    refine ⟨p, xs, rfl, .inl (.inl h1), fun b hb => ?_⟩
    obtain ⟨R2, rd⟩ := R1.allocFr hb (o := .lst xs.reverse) (c := .l l.reverse) ⟨_, upd_same, h2.rev⟩
    exact k _ _ _ _ _ q1 s1 R2 rd
  · exact q1.elim
/-! ### repr of plain data -/
def rRepr (K : PySem.W.Frag) : List V → Hp → VK → Prop := fun xs H Q => ∃ x d, xs = [x] ∧ Dp K H x d ∧ d.showable = true ∧ d.hasDict = false ∧ d.depth ≤ 60 ∧ d.shown.length ≤ sizeLine ∧ Q (.str d.shown) H
theorem call_repr (hg : X.A.guards = some []) (hu : X.A.units + 64 < cLine) : CallR X (.builtin "repr") (rRepr X.K) := by
  intro pins s σ H xs us Q I r h
  obtain ⟨x, d, rfl, dp, h1, h2, h3, h4, q⟩ := h
  obtain ⟨u, rfl, r1⟩ := vals1 r
  obtain ⟨as, hr⟩ := Dp.reads I d x u dp r1
  cases dp with
  | non =>
    cases r1
    exact PySem.P.repr_of_none ⟨.str _, H, I.tok _, ⟨_, rfl⟩, by rw [PyData.shown_none] at q; exact q⟩
  | bl b =>
    cases r1
    exact PySem.P.repr_of_bool ⟨.str _, H, I.tok _, ⟨_, rfl⟩, by rw [PyData.shown_bool] at q; exact q⟩
  | int i =>
    obtain ⟨t, rfl⟩ := r1
    have h5 : i.natAbs.log2 < 1920 := by simpa [PyData.showable] using h1
    exact PySem.P.repr_of_int h5 ⟨.str _, H, I.tok _, ⟨_, rfl⟩, by rw [PyData.shown_int] at q; exact q⟩
  | str y =>
    obtain ⟨t, rfl⟩ := r1
    rw [PyData.shown_str] at q h4
    exact PySem.P.repr_of_str ⟨.str _, H, I.tok _, ⟨_, rfl⟩, q⟩ h4
  | lst a b =>
    cases r1
    exact repr_of_reads' hr h1 (fun z => by rw [h2] at z; cases z) hg (by omega) (fun _ _ e => e) (fun h' u tk hk => ⟨.str _, H, I.kept (t' := tk) hk, ⟨u, rfl⟩, q⟩) h4
  | tup a b =>
    cases r1
    exact repr_of_reads' hr h1 (fun z => by rw [h2] at z; cases z) hg (by omega) (fun _ _ e => e) (fun h' u tk hk => ⟨.str _, H, I.kept (t' := tk) hk, ⟨u, rfl⟩, q⟩) h4
mutual
/-- what may be shown: ints below 2 ^ 240 -/
def D.small : D → Bool
  | .int i => decide (i.natAbs < 2 ^ 240)
  | .lst l => D.smalls l
  | .tup l => D.smalls l
  | _ => true
def D.smalls : List D → Bool
  | [] => true
  | d :: r => D.small d && D.smalls r
end
mutual
theorem small_show : ∀ (n : Nat) (d : D), D.fit n d = true → D.small d = true → d.py.showable = true ∧ d.py.hasDict = false
  | n, .non, _, _ => by simp [D.py, PyData.showable, PyData.hasDict]
  | n, .bl _, _, _ => by simp [D.py, PyData.showable, PyData.hasDict]
  | n, .str _, _, _ => by simp [D.py, PyData.showable, PyData.hasDict]
  | n, .int i, _, h => by
    have h1 : i.natAbs < 2 ^ 240 := by simpa [D.small] using h
    have h2 : i.natAbs.log2 < 1920 := by
      by_cases h0 : i.natAbs = 0
      · rw [h0]; decide
      · exact Nat.lt_of_lt_of_le ((Nat.log2_lt h0).mpr h1) (by decide)
    simp [D.py, PyData.showable, PyData.hasDict, h2]
  | 0, .lst _, e, h => by simp [D.fit] at e
  | 0, .tup _, e, h => by simp [D.fit] at e
  | n + 1, .lst l, e, h => by
    rw [D.fit] at e
    rw [D.small] at h
    rw [D.py, PyData.showable, PyData.hasDict]
    exact smalls_show n l e h
  | n + 1, .tup l, e, h => by
    rw [D.fit] at e
    rw [D.small] at h
    rw [D.py, PyData.showable, PyData.hasDict]
    exact smalls_show n l e h
  | n, .dct _, e, _ => by simp [D.fit] at e
  | n, .obj _ _, e, _ => by simp [D.fit] at e
  | n, .scr _, e, _ => by simp [D.fit] at e
  | n, .rep _, e, _ => by simp [D.fit] at e
theorem smalls_show : ∀ (n : Nat) (l : List D), D.fits n l = true → D.smalls l = true → PyData.showableAll (D.pys l) = true ∧ PyData.hasDictAll (D.pys l) = false
  | n, [], _, _ => by simp [D.pys, PyData.showableAll, PyData.hasDictAll]
  | n, d :: r, e, h => by
    rw [D.fits, Bool.and_eq_true] at e
    rw [D.smalls, Bool.and_eq_true] at h
    obtain ⟨h1, h2⟩ := small_show n d e.1 h.1
    obtain ⟨h3, h4⟩ := smalls_show n r e.2 h.2
    rw [D.pys, PyData.showableAll, PyData.hasDictAll, h1, h2, h3, h4]
    exact ⟨rfl, rfl⟩
end
def gRepr : List D → (Rv → Prop) → Prop
  | [d] => fun Q => D.fit 60 d = true ∧ D.small d = true ∧ d.py.shown.length ≤ sizeLine ∧ Q (.v (.rep d))
  | _ => fun _ => False
theorem sem_repr : SemCall X.K (rRepr X.K) gRepr := by
  intro G σ H F ρ xs as Q Qd R ha h k
  unfold gRepr at h
  split at h
  · rename_i d
    obtain ⟨h1, h2, h3, h⟩ := h
    obtain ⟨x, rfl, p⟩ := pks1 ha
    have dd := p.den R.ext
    obtain ⟨h4, h5⟩ := small_show 60 d h1 h2
    exact ⟨x, d.py, rfl, dd.dp h1, h4, h5, (fit_lay 60 d x dd h1).2, h3, k _ _ _ _ h (Same.refl _) R (.rep d)⟩
  · exact h.elim
end
end DL
namespace DL
open PySem PySem.Spec PyProof.Rows L2
/-- the heap at the law's call: the script alone may be told -/
def scriptH (a : Addr) (o : Obj) (xs : List V) (told : Bool) : Hp := fun b => if told = true ∧ b = a then some (.frz o (.lst xs)) else none
theorem runG {P : Program} {w : World} {K : PySem.W.Frag} {mg mb : Str → Option Value} {k : Nat} {fa a : Addr} {fd : FuncData} {x : Str} {sp : Sp} {s1 : Shared} {vs : List Value} {ns : List Int}
    (KX : K.In s1.heap) (hns : s1.heap.Ns mainGlobals mg) (hb : s1.heap.Ns builtinsNs mb) (hbb : ∀ x : Str, x ≠ "__name__" → mb x = bootBuiltins x) (hlim : s1.heap.NoLimit) (hg : s1.gens = #[])
    (ha : s1.heap.get? a = some { cls := .type "list", data := .seq vs.toArray }) (hi : IntsAre vs ns) (hl : ns.length ≤ sizeLine) (hr : Room k callerA)
    (Fn : ∀ base : Heap, K.In base → base.Ns mainGlobals mg → FnG P w K mg base CX0 k fa fd [x] sp) (hbind : ∀ (s : Shared) (u : Value), BindsTo s fd ⟨[u], []⟩ [(x, u)])
    (hsp : ∀ H : Hp, SqL K H a (ns.map V.int) → sp [.ref a] H (fun v _ => v = .bl true) fun _ _ _ => False) :
    codeAny (model P w) callerA (.call (.ref fa) ⟨[.ref a], []⟩) (fun r s' => r = .ok (.ret (.bool true)) ∧ OldK s1.heap s'.heap ∧ s'.os = s1.os ∧ AllBare s'.gens) s1 := by
  have told : ∃ t : Bool, SqL K (scriptH a { cls := .type "list", data := .seq vs.toArray } (ns.map V.int) t) a (ns.map V.int) ∧ (t = true → K.lookup a = none) := by
    cases hk : K.lookup a with
    | none => exact ⟨true, .inl (.inr ⟨_, if_pos ⟨rfl, rfl⟩⟩), fun _ => rfl⟩
    | some o =>
      have e := KX a o hk
      rw [ha] at e
      cases e
      exact ⟨false, .inr ⟨_, vs.toArray, _, hk, rfl, rfl, rfl, by rw [List.size_toArray, hi.length]; exact hl, vals_ints hi⟩, fun z => by cases z⟩
  obtain ⟨t, hS, hK⟩ := told
  have only : ∀ b u, scriptH a { cls := .type "list", data := .seq vs.toArray } (ns.map V.int) t b = some u → b = a ∧ t = true ∧ u = .frz { cls := .type "list", data := .seq vs.toArray } (.lst (ns.map V.int)) := fun b u e => by
    unfold scriptH at e
    by_cases q : t = true ∧ b = a
    · rw [if_pos q] at e
      cases e
      exact ⟨q.2, q.1, rfl⟩
    · rw [if_neg q] at e; cases e
  generalize scriptH a { cls := .type "list", data := .seq vs.toArray } (ns.map V.int) t = H at hS only
  have free : ∀ {b : Addr} {o : Obj} {es : Array DictEntry} {ep : Nat}, s1.heap.get? b = some o → o.data = .dict es ep → H b = none := fun {b o es ep} e d => by
    cases q : H b with
    | none => rfl
    | some u =>
      obtain ⟨rfl, _, _⟩ := only b u q
      rw [ha] at e; cases e
      cases (show Data.seq vs.toArray _ = Data.dict es ep from d)
  have nsH : ∀ {b : Addr} {m : Str → Option Value}, s1.heap.Ns b m → (hidT s1.heap H).Ns b m := fun {b m} ⟨o, es, ep, e, d, r⟩ => ⟨o, es, ep, hidT_get e (free e d), d, r⟩
  have hKb : K.In (hidT s1.heap H) := fun b o e => hidT_get (KX b o e) (by
    cases q : H b with
    | none => rfl
    | some u =>
      obtain ⟨rfl, z, _⟩ := only b u q
      rw [hK z] at e; cases e)
  obtain ⟨mc, lim1, lim2⟩ := hlim
  have ok : HOk P w H s1.heap := fun b u e => by
    obtain ⟨rfl, _, rfl⟩ := only b u e
    exact ⟨ha, by rw [List.length_map]; exact hl, vs, 0, vals_ints hi, ha⟩
  have e0 : Env0 P w K mg (hidT s1.heap H) callerA [] s1 H := ⟨rfl, ⟨hKb, nsH hns, ⟨mb, nsH hb, hbb⟩, mc, nsH lim1, lim2⟩, fun b o e => of_hidT e, Nat.le_of_eq (hidT_size _ _), trivial, (fun b hb => nomatch hb), ok, .of_eq hg⟩
  refine codeAny_mono ((Fn _ hKb (nsH hns)).run callerA [] s1 H ⟨[.ref a], []⟩ [.ref a] [.ref a] _ _ rfl hr e0 (hbind s1 (.ref a)) (.cons rfl .nil) (hsp H hS)) fun r s' h => ?_
  match r, h with
  | .error e, h => exact False.elim h
  | .ok .next, h => exact False.elim h
  | .ok .brk, h => exact False.elim h
  | .ok .cont, h => exact False.elim h
  | .ok (.ret u), ⟨v, H', os, bare, un, hok', r', q⟩ =>
    obtain rfl : v = .bl true := q
    obtain rfl : u = Value.bool true := r'
    refine ⟨rfl, OldK.of_keep fun b o e => ?_, os, bare⟩
    cases q : H b with
    | none => exact un.keep b o e q (fun z => nomatch z) (fun z => nomatch z)
    | some u =>
      obtain ⟨rfl, _, rfl⟩ := only b u q
      rw [ha] at e; cases e
      exact (hok' _ _ (un.frzs _ _ _ q)).1
/-- the goal that k_head leaves, from the law's promise over data -/
theorem walkG {l : PySem.W.OpenLaw} {n k : Nat} {q : Program} {loose : List Str} {XP : (Str → Option Value) → Heap → Prop} {YP : World → Heap → Prop} {d : DefRec} {K : Params → PySem.W.Frag} {x : Str}
    (hn : l.most = some n) (hn2 : n ≤ sizeLine) (hdf : d.params.defaults = []) (hr : Room k callerA)
    (hY : ∀ (w : World) (h : Heap), YP w h → (K w.params).In h)
    (Fn : ∀ (w : World) (mg : Str → Option Value) (fa : Addr) (h : Heap), (K w.params).In h → h.Ns mainGlobals mg → mg d.name = some (.ref fa) →
      ∃ fd : FuncData, (∀ (s : Shared) (u : Value), BindsTo s fd ⟨[u], []⟩ [(x, u)]) ∧
        ∀ base : Heap, (K w.params).In base → base.Ns mainGlobals mg → FnG l.prog w (K w.params) mg base CX0 k fa fd [x] (lift (K w.params) fun as Q => ∃ ns : List Int, as = [.sh (.scr ns)] ∧ ns.length ≤ n ∧ ∀ o, Q (.v (.bl true)) o)) :
    PySem.W.WalkO q loose XP YP l.row.toRowW d [] (fun f vs => PySem.call f vs) := by
  refine Att.attach_call hn hdf fun w s0 s1 mg mb fa o pm cd doc a vs ns G Y ho hd hcd hmg hobj hints hlen hg => ?_
  have KX := hY w _ Y
  obtain ⟨fd, hb, hF⟩ := Fn w mg fa _ KX G.T.g hmg
  refine runG KX G.T.g G.T.b G.T.builtins G.T.nolimit hg hobj hints (Nat.le_trans hlen hn2) hr hF hb fun H hS => ?_
  have R0 : Rep (K w.params) ⟨fun _ => none, fun _ => False, H, H⟩ [some (V.ref a)] H H [.sh (.scr ns)] := by
    refine { len := rfl, ext := Same.refl H, sh := fun i dd e => ?_, ow := fun i c e => ?_, bw := fun i j c e => ?_, sep := fun i j s t c c' p e1 e2 h1 h2 h3 h4 => ?_, fr0 := Same.refl H, new := fun _ _ e => .inl e, keep := fun _ _ e _ _ => e, dom := fun a o e => ⟨o, e⟩, bd := fun _ _ e => ?_, lb := fun _ _ z => ?_ }
    · cases i with
      | zero =>
        cases e
        exact ⟨.ref a, rfl, .scr hS⟩
      | succ i => cases e
    · cases i with
      | zero => cases e
      | succ i => cases e
    · cases i with
      | zero => cases e
      | succ i => cases e
    · cases i with
      | zero => cases e1; cases h1
      | succ i => cases e1
    · cases e
    · exact (show False from z).elim
  refine ⟨fun _ => none, H, [.sh (.scr ns)], fun r _ => r = .v (.bl true), R0, ⟨ns, rfl, hlen, fun _ => rfl⟩, fun r outs σ' v H' F' hq R rd => ?_⟩
  cases hq
  cases rd
  rfl
end DL
namespace DL
open PySem L2
/-! ### short words for the printed terms -/
structure Cal (P : Program) (w : World) (K : PySem.W.Frag) (mg : Str → Option Value) (base : Heap) (k : Nat) (x : Str) (f : Addr) (fd : FuncData) (ps : List Str) (sp : SpD) : Prop where
  g : mg x = some (.ref f)
  kp : PySem.W.keepIn K (.ref f) = true
  b : Binds K fd ps []
  ok : FnG P w K mg base CX0 k f fd ps (lift K sp)
theorem hu1 {A : Around} {k : Nat} (hr : Room k A) : A.units + 1 < cLine := by have := hr.un; omega
theorem hu64 {A : Around} {k : Nat} (hr : Room k A) : A.units + 64 < cLine := by have := hr.un; omega
theorem hu65 {A : Around} {k : Nat} (hr : Room k A) : A.units + 65 < cLine := by have := hr.un; omega
section
variable {X : Cx}
theorem sem_lt : SemOp X.K (rI0 fun i j => .bl (decide (i < j))) (gCmpI fun i j => decide (i < j)) := sem_cmpI
theorem sem_le : SemOp X.K (rI0 fun i j => .bl (decide (i ≤ j))) (gCmpI fun i j => decide (i ≤ j)) := sem_cmpI
theorem sem_gt : SemOp X.K (rI0 fun i j => .bl (decide (j < i))) (gCmpI fun i j => decide (j < i)) := sem_cmpI
theorem sem_ge : SemOp X.K (rI0 fun i j => .bl (decide (j ≤ i))) (gCmpI fun i j => decide (j ≤ i)) := sem_cmpI
theorem call_intA : CallR X (.type "int") (fun xs H Q => (∃ i, xs = [.int i] ∧ Q (.int i) H) ∨ ∃ k, xs = [.bl k] ∧ Q (.int (if k then 1 else 0)) H) := call_int1
theorem sem_intA : SemCall X.K (fun xs H Q => (∃ i, xs = [.int i] ∧ Q (.int i) H) ∨ ∃ k, xs = [.bl k] ∧ Q (.int (if k then 1 else 0)) H) gInt := sem_int
def sRetN : TSD := fun E ρ => E.rt (.v .non) ρ
theorem ds_retN {pos : Pos} : DS X (.Return none pos) tRetN sRetN := ⟨ps_retN, fun R q L => L.rt _ _ _ _ _ _ q R .non⟩
theorem de_globI {x : Str} {i : Int} {t : Tok} {pos : Pos} (hg : Gl X x) (hm : X.mg x = some (.int i t)) (hd : (x == ("__debug__" : Str)) = false := by decide) : DE X (.Name x pos) (tC (.int i)) (dC (.int i)) :=
  ⟨pe_glob hg hm ⟨t, rfl⟩ hd, fun R h k => k _ _ _ _ _ h (Same.refl _) R (.int i)⟩
theorem de_globS {x : Str} {i : Str} {t : Tok} {pos : Pos} (hg : Gl X x) (hm : X.mg x = some (.str i t)) (hi : PyData.strOk i = true := by decide +kernel) (hd : (x == ("__debug__" : Str)) = false := by decide) : DE X (.Name x pos) (tC (.str i)) (dC (.str i)) :=
  ⟨pe_glob hg hm ⟨t, rfl⟩ hd, fun R h k => k _ _ _ _ _ h (Same.refl _) R (.str i hi)⟩
abbrev Bk (α : Type) := Shared → Hp → Addr → List (Str × Addr) → List Addr → α
/-- a comprehension whose parts are told within its block -/
theorem de_lcF {elt iter : Expr} {ifs : List Expr} {scope : Scope} {own : List (Str × Nat)} {pos : Pos} {wi : TI} {g : Bk TG} {tt : Bk TT} {te : Bk TE} {t : TSrcC} {gd : TGd} {dt : TB} {de : TD} (hc : X.calm = true) (hN : X.N.Nodup)
    (hi : DIc X tg iter wi t) (ok : BlkOk X.N X.env.scope scope own)
    (hg : ∀ (s : Shared) (H : Hp) (C : Addr) (cl : List (Str × Addr)) (fp : List Addr), DG (X.blk s H scope (compEnvC scope cl C X.env) fp) tg (own.map (·.2)) (g s H C cl fp) gd)
    (ht : ∀ (s : Shared) (H : Hp) (C : Addr) (cl : List (Str × Addr)) (fp : List Addr), DTs (X.blk s H scope (compEnvC scope cl C X.env) fp) ifs (tt s H C cl fp) dt)
    (he : ∀ (s : Shared) (H : Hp) (C : Addr) (cl : List (Str × Addr)) (fp : List Addr), DE (X.blk s H scope (compEnvC scope cl C X.env) fp) elt (te s H C cl fp) de)
    (eg : ∀ s H C cl fp, g s H C cl fp = g X.s_0 H 0 [] [] := by intros; rfl) (et : ∀ s H C cl fp, tt s H C cl fp = tt X.s_0 H 0 [] [] := by intros; rfl) (ee : ∀ s H C cl fp, te s H C cl fp = te X.s_0 H 0 [] [] := by intros; rfl)
    (eg' : ∀ H, g X.s_0 H 0 [] [] = g X.s_0 (fun _ => none) 0 [] [] := by intros; rfl) (et' : ∀ H, tt X.s_0 H 0 [] [] = tt X.s_0 (fun _ => none) 0 [] [] := by intros; rfl) (ee' : ∀ H, te X.s_0 H 0 [] [] = te X.s_0 (fun _ => none) 0 [] [] := by intros; rfl)
    (hs : ∀ x, foldedSetIterable iter X.env x = pure x := by intro _; rfl) :
    DE X (.ListComp elt [⟨tg, iter, ifs, 0⟩] scope pos) (tLc wi (g X.s_0 (fun _ => none) 0 [] []) (tt X.s_0 (fun _ => none) 0 [] []) (te X.s_0 (fun _ => none) 0 [] []) (own.map (·.2))) (dLc t gd dt de (own.map (·.2))) :=
  de_lc hc hN hi ok (fun s H C cl fp => by rw [← eg' H, ← eg s H C cl fp]; exact hg s H C cl fp) (fun s H C cl fp => by rw [← et' H, ← et s H C cl fp]; exact ht s H C cl fp) (fun s H C cl fp => by rw [← ee' H, ← ee s H C cl fp]; exact he s H C cl fp) hs
theorem ds_setLcF {i : Nat} {y : Str} {py : Pos} {elt iter : Expr} {ifs : List Expr} {scope : Scope} {own : List (Str × Nat)} {pos spos : Pos} {wi : TI} {g : Bk TG} {tt : Bk TT} {te : Bk TE} {t : TSrcC} {gd : TGd} {dt : TB} {de : TD} (hc : X.calm = true) (hN : X.N.Nodup)
    (hy : X.N[i]? = some y) (hyl : X.env.scope.names.lookup y = some .local)
    (hsw : swapsWith (.ListComp elt [⟨tg, iter, ifs, 0⟩] scope pos) (some (.Name y py)) spos.line X.env = pure true) (hi : DIc X tg iter wi t) (ok : BlkOk X.N X.env.scope scope own)
    (hg : ∀ (s : Shared) (H : Hp) (C : Addr) (cl : List (Str × Addr)) (fp : List Addr), DG (X.blk s H scope (compEnvC scope cl C X.env) fp) tg (own.map (·.2)) (g s H C cl fp) gd)
    (ht : ∀ (s : Shared) (H : Hp) (C : Addr) (cl : List (Str × Addr)) (fp : List Addr), DTs (X.blk s H scope (compEnvC scope cl C X.env) fp) ifs (tt s H C cl fp) dt)
    (he : ∀ (s : Shared) (H : Hp) (C : Addr) (cl : List (Str × Addr)) (fp : List Addr), DE (X.blk s H scope (compEnvC scope cl C X.env) fp) elt (te s H C cl fp) de)
    (eg : ∀ s H C cl fp, g s H C cl fp = g X.s_0 H 0 [] [] := by intros; rfl) (et : ∀ s H C cl fp, tt s H C cl fp = tt X.s_0 H 0 [] [] := by intros; rfl) (ee : ∀ s H C cl fp, te s H C cl fp = te X.s_0 H 0 [] [] := by intros; rfl)
    (eg' : ∀ H, g X.s_0 H 0 [] [] = g X.s_0 (fun _ => none) 0 [] [] := by intros; rfl) (et' : ∀ H, tt X.s_0 H 0 [] [] = tt X.s_0 (fun _ => none) 0 [] [] := by intros; rfl) (ee' : ∀ H, te X.s_0 H 0 [] [] = te X.s_0 (fun _ => none) 0 [] [] := by intros; rfl)
    (hs : ∀ x, foldedSetIterable iter X.env x = pure x := by intro _; rfl) :
    DS X (.Assign [.Name y py] (.ListComp elt [⟨tg, iter, ifs, 0⟩] scope pos) spos) (tAsg (tLc wi (g X.s_0 (fun _ => none) 0 [] []) (tt X.s_0 (fun _ => none) 0 [] []) (te X.s_0 (fun _ => none) 0 [] []) (own.map (·.2))) (gName i)) (sSet i (dLc t gd dt de (own.map (·.2)))) :=
  ds_setLc hc hN hy hyl hsw hi ok (fun s H C cl fp => by rw [← eg' H, ← eg s H C cl fp]; exact hg s H C cl fp) (fun s H C cl fp => by rw [← et' H, ← et s H C cl fp]; exact ht s H C cl fp) (fun s H C cl fp => by rw [← ee' H, ← ee s H C cl fp]; exact he s H C cl fp) hs
end
end DL
namespace DL
open PySem L2
theorem le_size {n : Nat} (h : n ≤ 16777216) : n ≤ sizeLine := by rw [sizeLine_eq]; omega
theorem lt_size {n : Nat} (h : n < 16777216) : n < sizeLine := by rw [sizeLine_eq]; omega
/-! ### loops, by what holds before each round -/
theorem forL_on {α : Type} (f : α → D) {g : TGd} {b : TSD} {E : EndsD} (I : List α → List α → SL → Prop) {l : List α} {ρ : SL} (hI : I [] l ρ) (h0 : ∀ ρ, I l [] ρ → E.nx ρ)
    (h1 : ∀ (p : List α) (x : α) (r : List α) (ρ : SL) (N : SL → Prop), l = p ++ x :: r → (∀ ρ', I (p ++ [x]) r ρ' → N ρ') → I p (x :: r) ρ → g (f x) ρ fun ρ1 => b { nx := N, rt := E.rt, bk := E.nx, ct := N } ρ1) : forL g b E (l.map f) ρ := by
  have key : ∀ (r p : List α) (ρ : SL), l = p ++ r → I p r ρ → forL g b E (r.map f) ρ := by
    intro r
    induction r with
    | nil => intro p ρ e h; rw [List.append_nil] at e; subst e; exact h0 _ h
    | cons x r ih => intro p ρ e h; exact h1 p x r ρ _ e (fun ρ' h' => ih (p ++ [x]) ρ' (by rw [e]; simp) h') h
  exact key l [] ρ rfl hI
theorem forL_rng {g : TGd} {b : TSD} {E : EndsD} {lo c : Int} {n : Nat} (I : Nat → SL → Prop) {ρ : SL} (hI : I 0 ρ) (h0 : ∀ ρ, I n ρ → E.nx ρ)
    (h1 : ∀ (i : Nat) (ρ : SL) (N : SL → Prop), i < n → (∀ ρ', I (i + 1) ρ' → N ρ') → I i ρ → g (.int (lo + (i : Int) * c)) ρ fun ρ1 => b { nx := N, rt := E.rt, bk := E.nx, ct := N } ρ1) : forL g b E (rangeC lo c n) ρ := by
  unfold rangeC
  refine forL_on _ (fun p r ρ => I p.length ρ) hI (fun ρ h => h0 ρ (by rw [List.length_range] at h; exact h)) fun p x r ρ N e hN h => ?_
  have hp : x = p.length := by
    have := congrArg (fun l => l[p.length]?) e
    simp only [List.getElem?_append_right (Nat.le_refl _), Nat.sub_self, List.getElem?_cons_zero] at this
    by_cases q : p.length < n
    · rw [List.getElem?_range q] at this; cases this; rfl
    · rw [List.getElem?_eq_none (by rw [List.length_range]; omega)] at this; cases this
  have hl : p.length < n := by
    have := congrArg List.length e
    rw [List.length_range, List.length_append, List.length_cons] at this
    omega
  subst hp
  exact h1 p.length ρ N hl (fun ρ' h' => hN ρ' (by rw [List.length_append]; exact h')) h
theorem lcL_on {α : Type} (f : α → D) {g : TGd} {tt : TB} {te : TD} {vs : List Nat} {Q : List D → SL → Prop} (I : List α → List α → List D → SL → Prop) {l : List α} {ρ : SL} (hI : I [] l [] ρ) (h0 : ∀ acc ρ, I l [] acc ρ → Q acc ρ)
    (h1 : ∀ (p : List α) (x : α) (r : List α) (acc : List D) (ρ : SL) (N : List D → SL → Prop), l = p ++ x :: r → (∀ acc' ρ', I (p ++ [x]) r acc' ρ' → N acc' ρ') → I p (x :: r) acc ρ →
      g (f x) ρ fun ρ1 => tt ρ1 fun b ρ2 => if b = true then te ρ2 fun rv ρ3 => acc.length < sizeLine ∧ N (acc ++ [rv.dat]) (wipeD ρ3 vs) else N acc (wipeD ρ2 vs)) : lcL g tt te vs Q (l.map f) [] ρ := by
  have key : ∀ (r p : List α) (acc : List D) (ρ : SL), l = p ++ r → I p r acc ρ → lcL g tt te vs Q (r.map f) acc ρ := by
    intro r
    induction r with
    | nil => intro p acc ρ e h; rw [List.append_nil] at e; subst e; exact h0 _ _ h
    | cons x r ih =>
      intro p acc ρ e h
      exact h1 p x r acc ρ (fun acc ρ => lcL g tt te vs Q (r.map f) acc ρ) e (fun acc' ρ' h' => ih (p ++ [x]) acc' ρ' (by rw [e]; simp) h') h
  exact key l [] [] ρ rfl hI
theorem lcL_rng {g : TGd} {tt : TB} {te : TD} {vs : List Nat} {Q : List D → SL → Prop} {lo c : Int} {n : Nat} (I : Nat → List D → SL → Prop) {ρ : SL} (hI : I 0 [] ρ) (h0 : ∀ acc ρ, I n acc ρ → Q acc ρ)
    (h1 : ∀ (i : Nat) (acc : List D) (ρ : SL) (N : List D → SL → Prop), i < n → (∀ acc' ρ', I (i + 1) acc' ρ' → N acc' ρ') → I i acc ρ →
      g (.int (lo + (i : Int) * c)) ρ fun ρ1 => tt ρ1 fun b ρ2 => if b = true then te ρ2 fun rv ρ3 => acc.length < sizeLine ∧ N (acc ++ [rv.dat]) (wipeD ρ3 vs) else N acc (wipeD ρ2 vs)) : lcL g tt te vs Q (rangeC lo c n) [] ρ := by
  unfold rangeC
  refine lcL_on _ (fun p r acc ρ => I p.length acc ρ) hI (fun acc ρ h => h0 acc ρ (by rw [List.length_range] at h; exact h)) fun p x r acc ρ N e hN h => ?_
  have hp : x = p.length := by
    have := congrArg (fun l => l[p.length]?) e
    simp only [List.getElem?_append_right (Nat.le_refl _), Nat.sub_self, List.getElem?_cons_zero] at this
    by_cases q : p.length < n
    · rw [List.getElem?_range q] at this; cases this; rfl
    · rw [List.getElem?_eq_none (by rw [List.length_range]; omega)] at this; cases this
  have hl : p.length < n := by
    have := congrArg List.length e
    rw [List.length_range, List.length_append, List.length_cons] at this
    omega
  subst hp
  exact h1 p.length acc ρ N hl (fun acc' ρ' h' => hN acc' ρ' (by rw [List.length_append]; exact h')) h
/-! ### places -/
theorem ixN_ok {n : Nat} {k : Nat} (h : k < n) : ixN n (k : Int) = some k := by
  unfold ixN
  rw [if_pos (by omega), if_pos (by omega)]
  rfl
theorem ixN_int {n : Nat} {k : Int} (h0 : 0 ≤ k) (h : k < n) : ixN n k = some k.toNat := by
  unfold ixN
  rw [if_pos h0, if_pos h]
theorem atI_int {α : Type} {l : List α} {k : Int} {x : α} (h0 : 0 ≤ k) (h : l[k.toNat]? = some x) : atI l k = some x := by
  unfold atI
  have := (List.getElem?_eq_some_iff.mp h).1
  rw [ixN_int h0 (by omega)]
  exact h
theorem atI_last {α : Type} {l : List α} {x : α} (h : l.getLast? = some x) : atI l (-1) = some x := by
  have hl : 0 < l.length := by
    cases l with
    | nil => cases h
    | cons a r => simp
  unfold atI ixN
  rw [if_neg (by omega), if_pos (by omega)]
  have e : ((-1 : Int) + l.length).toNat = l.length - 1 := by omega
  show l[((-1 : Int) + l.length).toNat]? = some x
  rw [e, ← List.getLast?_eq_getElem?]
  exact h
/-! ### cuts -/
theorem cut_to {α : Type} (l : List α) (k : Nat) : cut l none (some (k : Int)) = l.take k := by
  unfold cut
  rw [HT.sIx_none, HT.sIx_nat]
  simp
theorem cut_from {α : Type} (l : List α) (k : Nat) : cut l (some (k : Int)) none = l.drop k := by
  unfold cut
  rw [HT.sIx_none, HT.sIx_nat]
  by_cases h : k ≤ l.length
  · rw [Nat.min_eq_left h]
    exact List.take_of_length_le (by rw [List.length_drop]; omega)
  · rw [Nat.min_eq_right (by omega), List.drop_eq_nil_of_le (Nat.le_refl _), List.drop_eq_nil_of_le (by omega), List.take_nil]
theorem cut_le {α : Type} (l : List α) (lo hi : Option Int) : (cut l lo hi).length ≤ l.length := by
  unfold cut
  rw [List.length_take, List.length_drop]
  omega
theorem cut_mem {α : Type} {l : List α} {lo hi : Option Int} {x : α} (h : x ∈ cut l lo hi) : x ∈ l := by
  unfold cut at h
  exact List.mem_of_mem_drop (List.mem_of_mem_take h)
theorem cut_map {α β : Type} (f : α → β) (l : List α) (lo hi : Option Int) : cut (l.map f) lo hi = (cut l lo hi).map f := by
  unfold cut
  rw [List.length_map, List.map_take, List.map_drop]
/-! ### cuts between statements -/
theorem sSeq_cut {t u : TSD} {E : EndsD} {ρ : SL} (M : SL → Prop) (h1 : ∀ N : SL → Prop, (∀ ρ', M ρ' → N ρ') → t { E with nx := N } ρ) (h2 : ∀ ρ', M ρ' → u E ρ') : sSeq t u E ρ := h1 _ h2
theorem sSeq_go {t u : TSD} {E : EndsD} {ρ : SL} (h1 : ∀ N : SL → Prop, (∀ ρ', u E ρ' → N ρ') → t { E with nx := N } ρ) : sSeq t u E ρ := h1 _ fun _ h => h
theorem sIf_go {t : TB} {u w : TSD} {E : EndsD} {ρ : SL} (h : ∀ N : Bool → SL → Prop, (∀ ρ', u E ρ' → N true ρ') → (∀ ρ', w E ρ' → N false ρ') → t ρ N) : sIf t u w E ρ :=
  h _ (fun ρ' h => by rw [if_pos rfl]; exact h) (fun ρ' h => by rw [if_neg Bool.false_ne_true]; exact h)
/-- a test whose answer is known -/
theorem sIf_at {t : TB} {u w : TSD} {E : EndsD} {ρ : SL} (h : ∀ N : Bool → SL → Prop, (∀ b ρ', (if b = true then u E ρ' else w E ρ') → N b ρ') → t ρ N) : sIf t u w E ρ := h _ fun _ _ h => h
theorem gEq_int {f : Bool → Bool} {i j : Int} {Q : Rv → Prop} : gEq f (.int i) (.int j) Q = Q (.v (.bl (f (decide (i = j))))) := by
  show gEqD f (.int i) (.int j) Q = _
  unfold gEqD
  rw [D.fit, D.fit, D.eqv]
  simp only [true_and]
  congr
theorem Str.beq_dec (x y : Str) : (x == y) = decide (x = y) := by
  by_cases h : x = y
  · subst h; simp
  · rw [decide_eq_false h]; exact beq_false_of_ne h
theorem gEq_str {f : Bool → Bool} {i j : Str} {Q : Rv → Prop} : gEq f (.str i) (.str j) Q = Q (.v (.bl (f (decide (i = j))))) := by
  show gEqD f (.str i) (.str j) Q = _
  unfold gEqD
  rw [D.fit, D.fit, D.eqv, Str.beq_dec]
  simp only [true_and]
theorem gAdd_int {i j : Int} {Q : Rv → Prop} : gAdd (.int i) (.int j) Q = Q (.v (.int (i + j))) := rfl
theorem atI_0 {α : Type} {x : α} {l : List α} : atI (x :: l) 0 = some x := atI_int (by decide) rfl
theorem atI_1 {α : Type} {x y : α} {l : List α} : atI (x :: y :: l) 1 = some y := atI_int (by decide) rfl
theorem atI_2 {α : Type} {x y z : α} {l : List α} : atI (x :: y :: z :: l) 2 = some z := atI_int (by decide) rfl
theorem atI_3 {α : Type} {x y z u : α} {l : List α} : atI (x :: y :: z :: u :: l) 3 = some u := atI_int (by decide) rfl
theorem atI_4 {α : Type} {x y z u v : α} {l : List α} : atI (x :: y :: z :: u :: v :: l) 4 = some v := atI_int (by decide) rfl
theorem atI_5 {α : Type} {x y z u v w : α} {l : List α} : atI (x :: y :: z :: u :: v :: w :: l) 5 = some w := atI_int (by decide) rfl
theorem ixN_40 : ixN 4 0 = some 0 := by decide
theorem ixN_41 : ixN 4 1 = some 1 := by decide
theorem ixN_42 : ixN 4 2 = some 2 := by decide
theorem ixN_43 : ixN 4 3 = some 3 := by decide
theorem gMul_int {i j : Int} {Q : Rv → Prop} (a b : Nat) (ha : i.natAbs < 2 ^ a) (hb : j.natAbs < 2 ^ b) (h0 : 0 < a) (h1 : 0 < b) (h : a + b ≤ 1000000) : gMul (.int i) (.int j) Q = Q (.v (.int (i * j))) := by
  show (CMulW i j ∧ _) = _
  simp only [wide_mul ha hb h0 h1 h, true_and]
theorem cMul_of {i j : Int} (ha : i.natAbs < 2 ^ 250) (hb : j.natAbs < 2 ^ 250) : CMulW i j := wide_mul ha hb (by decide) (by decide) (by decide)
theorem cDiv_of {i j : Int} (h : 0 < j) (hb : j.natAbs < 2 ^ 250) : CDivW i j := wide_div h hb (by decide) (by decide)
theorem natAbs_lt {i : Int} {n : Nat} (h0 : 0 ≤ i) (h : i < 2 ^ n) : i.natAbs < 2 ^ n := by
  have : (i.natAbs : Int) = i := Int.natAbs_of_nonneg h0
  have h2 : (i.natAbs : Int) < ((2 ^ n : Nat) : Int) := by rw [this, Int.natCast_pow]; exact h
  exact_mod_cast h2
theorem nodup1 {i : Nat} : [i].Nodup ↔ True := by simp
theorem gMin2 {i j : Int} {Q : Rv → Prop} : gMin [.int i, .int j] Q = Q (.v (.int (min i j))) := rfl
theorem gMax2 {i j : Int} {Q : Rv → Prop} : gMax [.int i, .int j] Q = Q (.v (.int (max i j))) := rfl
theorem gMax3 {i j k : Int} {Q : Rv → Prop} : gMax [.int i, .int j, .int k] Q = Q (.v (.int (max (max i j) k))) := rfl
/-- what repr can show -/
def Fine (d : D) : Prop := D.fit 60 d = true ∧ D.small d = true ∧ d.py.shown.length ≤ sizeLine
theorem fine_int {i : Int} (h : i.natAbs < 2 ^ 240) : Fine (.int i) := by
  refine ⟨by simp [D.fit], by simpa [D.small] using h, ?_⟩
  rw [D.py, PyData.shown_int]
  refine int_text_fits ?_
  by_cases h0 : i.natAbs = 0
  · rw [h0]; decide
  · exact Nat.lt_of_lt_of_le ((Nat.log2_lt h0).mpr h) (by decide)
mutual
theorem eqv_self : ∀ d : D, (∃ n, D.fit n d = true) → D.eqv d d = true
  | .non, _ => by simp [D.eqv]
  | .bl _, _ => by simp [D.eqv]
  | .int _, _ => by simp [D.eqv]
  | .str _, _ => by simp [D.eqv]
  | .lst l, ⟨n, h⟩ => by
    cases n with
    | zero => simp [D.fit] at h
    | succ n => rw [D.fit] at h; rw [D.eqv]; exact eqvs_self l ⟨n, h⟩
  | .tup l, ⟨n, h⟩ => by
    cases n with
    | zero => simp [D.fit] at h
    | succ n => rw [D.fit] at h; rw [D.eqv]; exact eqvs_self l ⟨n, h⟩
  | .dct _, ⟨_, h⟩ => by simp [D.fit] at h
  | .obj _ _, ⟨_, h⟩ => by simp [D.fit] at h
  | .scr _, ⟨_, h⟩ => by simp [D.fit] at h
  | .rep _, ⟨_, h⟩ => by simp [D.fit] at h
theorem eqvs_self : ∀ l : List D, (∃ n, D.fits n l = true) → D.eqvs l l = true
  | [], _ => by simp [D.eqvs]
  | d :: r, ⟨n, h⟩ => by
    rw [D.fits, Bool.and_eq_true] at h
    rw [D.eqvs, eqv_self d ⟨n, h.1⟩, eqvs_self r ⟨n, h.2⟩]
    rfl
end
theorem gEq_self {f : Bool → Bool} {d : D} {Q : Rv → Prop} (h : D.fit 60 d = true) (q : Q (.v (.bl (f true)))) : gEq f d d Q := by
  have e := eqv_self d ⟨60, h⟩
  cases d with
  | rep d => simp [D.fit] at h
  | _ => exact ⟨h, h, by rw [e]; exact q⟩
theorem gRepr_of {d : D} {Q : Rv → Prop} (h : Fine d) (q : Q (.v (.rep d))) : gRepr [d] Q := ⟨h.1, h.2.1, h.2.2, q⟩
theorem gEq_rep {f : Bool → Bool} {d : D} {Q : Rv → Prop} (q : Q (.v (.bl (f true)))) : gEq f (.rep d) (.rep d) Q := by
  show Q (.v (.bl (f (decide (d.py.shown = d.py.shown)))))
  rw [decide_eq_true rfl]
  exact q
theorem dat_sh {d : D} : (Sl.sh d).dat = some d := rfl
theorem dat_ow {c : Cn} : (Sl.ow c).dat = some c.dat := rfl
theorem dat_bw {j : Nat} {c : Cn} : (Sl.bw j c).dat = some c.dat := rfl
theorem dat_un : Sl.un.dat = none := rfl
theorem gEq_bl {f : Bool → Bool} {i j : Bool} {Q : Rv → Prop} : gEq f (.bl i) (.bl j) Q = Q (.v (.bl (f (i == j)))) := by
  show gEqD f (.bl i) (.bl j) Q = _
  unfold gEqD
  rw [D.fit, D.fit, D.eqv]
  simp only [true_and]
theorem fits_strs : ∀ (n : Nat) (l : List Str), D.fits n (l.map D.str) = true
  | n, [] => by simp [D.fits]
  | n, x :: r => by rw [List.map_cons, D.fits, fits_strs n r]; cases n <;> simp [D.fit]
theorem fit_strs (l : List Str) : D.fit 60 (.lst (l.map D.str)) = true := by rw [D.fit]; exact fits_strs 59 l
theorem eqvs_strs : ∀ a b : List Str, D.eqvs (a.map D.str) (b.map D.str) = decide (a = b)
  | [], [] => by simp [D.eqvs]
  | [], _ :: _ => by simp [D.eqvs]
  | _ :: _, [] => by simp [D.eqvs]
  | x :: a, y :: b => by
    rw [List.map_cons, List.map_cons, D.eqvs, eqvs_strs a b, D.eqv, Str.beq_dec]
    simp only [List.cons.injEq, Bool.decide_and]
theorem gEq_strs {f : Bool → Bool} {a b : List Str} {Q : Rv → Prop} : gEq f (.lst (a.map D.str)) (.lst (b.map D.str)) Q = Q (.v (.bl (f (decide (a = b))))) := by
  show gEqD f _ _ Q = _
  unfold gEqD
  rw [fit_strs, fit_strs, D.eqv, eqvs_strs]
  simp only [true_and]
theorem get_str {l : List Str} {k : Int} (j : Nat) (e : k = j) (h : j < l.length) : atI (l.map D.str) k = some (.str l[j]) := by
  subst e
  exact atI_int (by omega) (by rw [Int.toNat_natCast, List.getElem?_map, List.getElem?_eq_getElem h]; rfl)
end DL
namespace DL
open PySem L2
/-! ### how long a shown text may be -/
theorem digs16 {c k : Nat} (hk : 0 < k) (h : c < 16 ^ k) : (Nat.toDigits 16 c).length ≤ k := (Nat.length_toDigits_le_iff (by decide) hk).mpr h
theorem reprChar_len {q c : Nat} (h : c < 0x110000) : (Builtin.Str.reprChar q c).length ≤ 10 := by
  have hx : ∀ k, 0 < k → c < 16 ^ k → (List.replicate (k - ((Nat.toDigits 16 c).map Char.toNat).length) 48 ++ (Nat.toDigits 16 c).map Char.toNat).length ≤ k := fun k hk hc => by
    have := digs16 hk hc
    rw [List.length_append, List.length_replicate, List.length_map]
    omega
  unfold Builtin.Str.reprChar
  simp only
  split
  · simp
  · split
    · simp
    · split
      · simp
      · split
        · simp
        · split
          · simp
          · split
            · rename_i h1
              have := hx 2 (by decide) (Nat.lt_of_lt_of_le h1 (by decide))
              rw [List.length_append]
              simp only [List.length_cons, List.length_nil]
              omega
            · split
              · rename_i h1
                have := hx 4 (by decide) (Nat.lt_of_lt_of_le h1 (by decide))
                rw [List.length_append]
                simp only [List.length_cons, List.length_nil]
                omega
              · have := hx 8 (by decide) (Nat.lt_of_lt_of_le h (by decide))
                rw [List.length_append]
                simp only [List.length_cons, List.length_nil]
                omega
theorem fold_repr_len (q : Nat) : ∀ (l : List Nat) (acc : Array Nat), (∀ c ∈ l, c < 0x110000) → (l.foldl (fun out c => out ++ (Builtin.Str.reprChar q c).toArray) acc).size ≤ acc.size + 10 * l.length
  | [], acc, _ => by simp
  | c :: r, acc, h => by
    rw [List.foldl_cons]
    refine Nat.le_trans (fold_repr_len q r _ fun x hx => h x (List.mem_cons_of_mem _ hx)) ?_
    have := reprChar_len (q := q) (h c List.mem_cons_self)
    have e : (Builtin.Str.reprChar q c).toArray.size = (Builtin.Str.reprChar q c).length := List.size_toArray ..
    rw [Array.size_append, e, List.length_cons]
    omega
theorem reprText_len {x : Str} (h : PyData.strOk x = true) : (reprText x).length ≤ 10 * x.length + 2 := by
  rw [strOk_iff] at h
  unfold reprText
  show (Array.push _ _).size ≤ _
  rw [Array.size_push, ← Array.foldl_toList]
  have := fold_repr_len (reprQuote x) x.cps.toList #[reprQuote x] h
  rw [Array.length_toList] at this
  show _ ≤ 10 * x.cps.size + 2
  have e : #[reprQuote x].size = 1 := rfl
  omega
mutual
def D.wt : D → Nat
  | .int _ => 250
  | .str x => 10 * x.length + 2
  | .lst l => 4 + D.wts l
  | .tup l => 4 + D.wts l
  | .non => 10
  | .bl _ => 10
  | .dct _ => 10
  | .obj _ _ => 10
  | .scr _ => 10
  | .rep _ => 10
def D.wts : List D → Nat
  | [] => 0
  | d :: r => D.wt d + 2 + D.wts r
end
theorem join_le (ts : List Str) : (Str.join ", " ts).length ≤ (ts.map fun t => t.length + 2).sum := by
  cases ts with
  | nil => exact Nat.zero_le _
  | cons a r =>
    have := join_length_add (a :: r) (by simp)
    unfold piled at this
    omega
mutual
theorem shown_wt {K : PySem.W.Frag} {F : Hp} : ∀ (n : Nat) (d : D) (v : V), Den K F v d → D.fit n d = true → D.small d = true → d.py.shown.length ≤ D.wt d
  | _, .non, _, _, _, _ => by rw [D.py, PyData.shown_none, D.wt]; decide +kernel
  | _, .bl b, _, _, _, _ => by rw [D.py, PyData.shown_bool, D.wt]; cases b <;> decide +kernel
  | _, .int i, _, _, _, h => by
    have h1 : i.natAbs < 2 ^ 240 := by simpa [D.small] using h
    rw [D.py, PyData.shown_int, D.wt, ofString_length]
    have := int_text_length_le (a := i) (k := 240) (by decide) (by
      by_cases h0 : i.natAbs = 0
      · rw [h0]; decide
      · exact (Nat.log2_lt h0).mpr h1)
    omega
  | _, .str x, _, d, _, _ => by
    cases d with
    | str _ a => rw [D.py, PyData.shown_str, D.wt]; exact reprText_len a
  | 0, .lst _, _, _, e, _ => by simp [D.fit] at e
  | 0, .tup _, _, _, e, _ => by simp [D.fit] at e
  | n + 1, .lst l, _, d, e, h => by
    rw [D.fit] at e
    rw [D.small] at h
    cases d with
    | lst a b =>
      have h1 := showns_wt n l _ b e h
      have h2 := join_le (PyData.shownAll (D.pys l))
      rw [D.py, PyData.shown_list, D.wt, strLen_append, strLen_append]
      have e1 : (Str.ofString "[").length = 1 := rfl
      have e2 : (Str.ofString "]").length = 1 := rfl
      omega
  | n + 1, .tup l, _, d, e, h => by
    rw [D.fit] at e
    rw [D.small] at h
    cases d with
    | tup a b =>
      have h1 := showns_wt n l _ b e h
      have h2 := join_le (PyData.shownAll (D.pys l))
      rw [D.py, PyData.shown_tuple, D.wt, strLen_append, strLen_append]
      have e1 : (Str.ofString "(").length = 1 := rfl
      have e2 : (Str.ofString (if ((D.pys l).length == 1) = true then ",)" else ")")).length ≤ 2 := by split <;> decide
      omega
  | _, .dct _, _, _, e, _ => by simp [D.fit] at e
  | _, .obj _ _, _, _, e, _ => by simp [D.fit] at e
  | _, .scr _, _, _, e, _ => by simp [D.fit] at e
  | _, .rep _, _, _, e, _ => by simp [D.fit] at e
theorem showns_wt {K : PySem.W.Frag} {F : Hp} : ∀ (n : Nat) (l : List D) (vs : List V), DenL K F vs l → D.fits n l = true → D.smalls l = true → ((PyData.shownAll (D.pys l)).map fun t => t.length + 2).sum ≤ D.wts l
  | _, [], _, _, _, _ => by rw [D.pys, PyData.shownAll_nil, D.wts]; exact Nat.le_refl _
  | n, d :: r, _, h, e, s => by
    rw [D.fits, Bool.and_eq_true] at e
    rw [D.smalls, Bool.and_eq_true] at s
    cases h with
    | cons a b =>
      have h1 := shown_wt n d _ a e.1 s.1
      have h2 := showns_wt n r _ b e.2 s.2
      rw [D.pys, PyData.shownAll_cons, D.wts, List.map_cons, List.sum_cons]
      omega
end
/-- what repr shows: by its weight -/
def gReprW : List D → (Rv → Prop) → Prop
  | [d] => fun Q => D.fit 60 d = true ∧ D.small d = true ∧ D.wt d ≤ 16777216 ∧ Q (.v (.rep d))
  | _ => fun _ => False
section
variable {X : Cx}
theorem sem_reprW : SemCall X.K (rRepr X.K) gReprW := by
  intro G σ H F ρ xs as Q Qd R ha h k
  unfold gReprW at h
  split at h
  · rename_i d
    obtain ⟨h1, h2, h3, h⟩ := h
    obtain ⟨x, rfl, p⟩ := pks1 ha
    have dd := p.den R.ext
    obtain ⟨h4, h5⟩ := small_show 60 d h1 h2
    exact ⟨x, d.py, rfl, dd.dp h1, h4, h5, (fit_lay 60 d x dd h1).2, le_size (Nat.le_trans (shown_wt 60 d x dd h1 h2) h3), k _ _ _ _ h (Same.refl _) R (.rep d)⟩
  · exact h.elim
/-! ### isinstance, one built-in type -/
def D.ty : D → Option String
  | .non => some "NoneType"
  | .bl _ => some "bool"
  | .int _ => some "int"
  | .str _ => some "str"
  | .lst _ => some "list"
  | .tup _ => some "tuple"
  | .dct _ => some "dict"
  | _ => none
def isTy (t T : String) : Bool := t == T || (t == "bool" && T == "int")
def tyNames : List String := ["NoneType", "bool", "int", "str", "list", "tuple", "dict"]
theorem kit_isTy (K : PySem.W.Frag) : ∀ t ∈ tyNames, ∀ T ∈ tyNames, PySem.W.kitOne K (.type t) (.type T) = some (isTy t T) := by
  intro t ht T hT
  simp only [tyNames, List.mem_cons, List.not_mem_nil, or_false] at ht hT
  rcases ht with rfl | rfl | rfl | rfl | rfl | rfl | rfl <;> rcases hT with rfl | rfl | rfl | rfl | rfl | rfl | rfl <;> kernel_rfl
theorem D.ty_mem {d : D} {t : String} (h : d.ty = some t) : t ∈ tyNames := by
  cases d <;> cases h <;> decide
theorem Pk.ty {K : PySem.W.Frag} {F H : Hp} {v : V} {d : D} {t : String} (e : Same F H) (h : Pk K F H v d) (q : d.ty = some t) : TyX K H v (.type t) := by
  cases d with
  | non => cases q; cases h.non; exact .base .non
  | bl b => cases q; cases h.bl; exact .base (.bl _)
  | int i => cases q; cases h.int; exact .base (.int _)
  | str x => cases q; cases h.str; exact .base (.str _)
  | lst l => cases q; obtain ⟨p, xs, rfl, a, b⟩ := h.lst e; exact .base (.lst a)
  | tup l => cases q; obtain ⟨p, xs, rfl, a, b⟩ := h.tup; exact .base (.tup (e _ _ a))
  | dct l => cases q; obtain ⟨p, xs, rfl, a, b⟩ := h.dct e; exact .base (.dK a)
  | _ => cases q
def gIsi (T : String) : D → (Rv → Prop) → Prop := fun d Q => ∃ t, d.ty = some t ∧ Q (.v (.bl (isTy t T)))
theorem de_isi {T : String} {y : Str} {e : Expr} {te : TE} {t : TQ} {p p2 pos : Pos} (hg : Gl X "isinstance") (hm : X.mg "isinstance" = none) (he : DO X e te t) (hgT : Gl X y) (hmT : X.mg y = none) (hv : bootBuiltins y = some (.type T)) (hT : T ∈ tyNames) (hy : y ≠ "__name__" := by decide) (hdy : (y == ("__debug__" : Str)) = false := by decide)
    (hs2 : starEach [.Name y p2] X.env = (false, eval (.Name y p2) X.env) :: starEach [] X.env := by rfl)
    (hs : starEach [e, .Name y p2] X.env = (false, eval e X.env) :: starEach [.Name y p2] X.env := by rfl) (hpl : (backTo pos (starEach [.Name y p2] X.env)).any (·.1) = false := by rfl) :
    DE X (.Call (.Name "isinstance" p) [e, .Name y p2] [] pos) (tCB (rIsi X.K) (tCons te (tCons (tC (.ty T)) tNil))) (dUn (gIsi T) t) := by
  refine ⟨pe_callB call_isi hg hm PyProof.Rows.boot_isinstance (pa_cons he.pe (pa_cons (pe_bltn hgT hmT hv rfl hy hdy) pa_nil hs2) hs) (by decide) (by decide) hs hpl, fun {G σ H F ρ Q Qd} R q k => ?_⟩
  refine he.sem R q fun o ρ1 v H1 F1 q1 s1 R1 d1 => ?_
  cases ea : o.get ρ1 with
  | none => simp only [ea] at q1
  | some d =>
    simp only [ea] at q1
    obtain ⟨t1, h1, h2⟩ := q1
    exact ⟨v, .ty T, .type t1, .type T, isTy t1 T, rfl, .ty T, (d1.pk R1 ea).ty R1.ext h1, kit_isTy X.K t1 (D.ty_mem h1) T hT, k _ _ _ _ _ h2 s1 R1 (.bl _)⟩
theorem gIsi_non {T : String} {Q : Rv → Prop} : gIsi T .non Q = Q (.v (.bl (isTy "NoneType" T))) := by unfold gIsi; simp [D.ty]
theorem gIsi_bl {T : String} {b : Bool} {Q : Rv → Prop} : gIsi T (.bl b) Q = Q (.v (.bl (isTy "bool" T))) := by unfold gIsi; simp [D.ty]
theorem gIsi_int {T : String} {b : Int} {Q : Rv → Prop} : gIsi T (.int b) Q = Q (.v (.bl (isTy "int" T))) := by unfold gIsi; simp [D.ty]
theorem gIsi_str {T : String} {b : Str} {Q : Rv → Prop} : gIsi T (.str b) Q = Q (.v (.bl (isTy "str" T))) := by unfold gIsi; simp [D.ty]
theorem gIsi_lst {T : String} {b : List D} {Q : Rv → Prop} : gIsi T (.lst b) Q = Q (.v (.bl (isTy "list" T))) := by unfold gIsi; simp [D.ty]
theorem gIsi_tup {T : String} {b : List D} {Q : Rv → Prop} : gIsi T (.tup b) Q = Q (.v (.bl (isTy "tuple" T))) := by unfold gIsi; simp [D.ty]
theorem gIsi_dct {T : String} {b : List (Key × D)} {Q : Rv → Prop} : gIsi T (.dct b) Q = Q (.v (.bl (isTy "dict" T))) := by unfold gIsi; simp [D.ty]
/-! ### x is None, x is True -/
def rIsC (f : Bool → Bool) : R2 := fun x y H Q => (y = .non ∨ ∃ b, y = .bl b) ∧ ((x = y ∧ Q (.bl (f true)) H) ∨ (x ≠ y ∧ Q (.bl (f false)) H))
theorem plain_nb {x : V} {u w : Value} (hu : RelV x u) (hw : w = .none ∨ ∃ b, w = .bool b) : plainIs u w = true := by
  rcases hw with rfl | ⟨b, rfl⟩
  · cases x <;> first | (cases hu; rfl) | (obtain ⟨t, rfl⟩ := hu; rfl)
  · cases x <;> first | (cases hu; rfl) | (obtain ⟨t, rfl⟩ := hu; rfl)
theorem rel_nb {y : V} {w : Value} (h : y = .non ∨ ∃ b, y = .bl b) (r : RelV y w) : w = .none ∨ ∃ b, w = .bool b := by
  rcases h with rfl | ⟨b, rfl⟩
  · cases r; exact .inl rfl
  · cases r; exact .inr ⟨b, rfl⟩
theorem beq_nb {x y : V} {u w : Value} (hu : RelV x u) (h : y = .non ∨ ∃ b, y = .bl b) (r : RelV y w) : (u == w) = decide (x = y) := by
  rcases h with rfl | ⟨b, rfl⟩
  · cases r
    cases x <;> first | (cases hu; rfl) | (obtain ⟨t, rfl⟩ := hu; rfl)
  · cases r
    cases x with
    | bl c => cases hu; cases b <;> cases c <;> rfl
    | _ => first | (cases hu; rfl) | (obtain ⟨t, rfl⟩ := hu; rfl)
theorem op_isA : OpR X (compareOp .Is) (rIsC id) := by
  intro pins s σ H x y v u Q I rx ry h
  obtain ⟨hy, h⟩ := h
  refine wpAny_is_plain (plain_nb rx (rel_nb hy ry)) ?_
  rw [beq_nb rx hy ry]
  rcases h with ⟨rfl, q⟩ | ⟨ne, q⟩
  · exact fin_bl I q (by simp)
  · exact fin_bl I q (by simp [ne])
theorem op_isntA : OpR X (compareOp .IsNot) (rIsC not) := by
  intro pins s σ H x y v u Q I rx ry h
  obtain ⟨hy, h⟩ := h
  refine wpAny_isNot_plain (plain_nb rx (rel_nb hy ry)) ?_
  rw [beq_nb rx hy ry]
  rcases h with ⟨rfl, q⟩ | ⟨ne, q⟩
  · exact fin_bl I q (by simp)
  · exact fin_bl I q (by simp [ne])
def gIsC (f : Bool → Bool) : D → D → (Rv → Prop) → Prop
  | .non, .non => fun Q => Q (.v (.bl (f true)))
  | _, .non => fun Q => Q (.v (.bl (f false)))
  | .bl a, .bl b => fun Q => Q (.v (.bl (f (a == b))))
  | _, .bl _ => fun Q => Q (.v (.bl (f false)))
  | _, _ => fun _ => False
theorem Pk.notBl {K : PySem.W.Frag} {F H : Hp} {v : V} {d : D} {b : Bool} (h : Pk K F H v d) (hd : ∀ c, d ≠ .bl c) : v ≠ .bl b := by
  intro e
  subst e
  rcases h with h | ⟨p, c, e, _⟩
  · cases h; exact hd _ rfl
  · cases e
theorem sem_isC {f : Bool → Bool} : SemOp X.K (rIsC f) (gIsC f) := by
  intro G σ H F ρ x y a b Q Qd R ha hb h k
  unfold gIsC at h
  split at h
  · cases ha.non; cases hb.non
    exact ⟨.inl rfl, .inl ⟨rfl, k _ _ _ _ h (Same.refl _) R (.bl _)⟩⟩
  · rename_i hn
    cases hb.non
    exact ⟨.inl rfl, .inr ⟨of_decide_eq_false (ha.notNon fun e => hn (by rw [e])), k _ _ _ _ h (Same.refl _) R (.bl _)⟩⟩
  · cases ha.bl; cases hb.bl
    rename_i a b
    refine ⟨.inr ⟨_, rfl⟩, ?_⟩
    by_cases e : a = b
    · subst e
      rw [beq_self_eq_true] at h
      exact .inl ⟨rfl, k _ _ _ _ h (Same.refl _) R (.bl _)⟩
    · rw [beq_false_of_ne e] at h
      exact .inr ⟨fun z => e (by cases z; rfl), k _ _ _ _ h (Same.refl _) R (.bl _)⟩
  · rename_i hn
    cases hb.bl
    exact ⟨.inr ⟨_, rfl⟩, .inr ⟨ha.notBl fun c e => hn c e, k _ _ _ _ h (Same.refl _) R (.bl _)⟩⟩
  · exact h.elim
theorem sem_isA : SemOp X.K (rIsC id) (gIsC id) := sem_isC
theorem sem_isntA : SemOp X.K (rIsC not) (gIsC not) := sem_isC
/-! ### more of one's own list -/
def dMut0 (i : Nat) (g : List D → (List D → D → Prop) → Prop) : TD := fun ρ Q => match slL ρ i with
  | some (s, l) => g l fun l' d => Q (.v d) (ρ.set i (s.with (.l l')))
  | none => False
def SemMut0 (K : PySem.W.Frag) (r : V → List V → Hp → VK → Prop) (g : List D → (List D → D → Prop) → Prop) : Prop :=
  ∀ {F H : Hp} {p : Addr} {xs : List V} {l : List D} {Q : VK} {Qd : List D → D → Prop}, Same F H → H p = some (.lst xs) → DenL K F xs l → g l Qd →
    (∀ l' d xs' z, Qd l' d → DenL K F xs' l' → Den K F z d → Q z (upd H p (.lst xs'))) → r (.ref p) [] H Q
theorem de_mut0 {i : Nat} {x : Str} {px : Pos} {name : Str} {apos cpos : Pos} {id : String} {r : V → List V → Hp → VK → Prop} {g : List D → (List D → D → Prop) → Prop}
    (slot : Slot "list" name id) (hty : typeOf (.builtin id) = pure (.type "method_descriptor")) (hm : MtR X id r) (hg : SemMut0 X.K r g) (ho : PE X (.Name x px) (tVar i))
    (hbase : attributeBase (.Name x px) name X.env (eval (.Name x px) X.env) = eval (.Name x px) X.env := by rfl) (hline : (apos.endLine == cpos.line) = true := by rfl) :
    DE X (.Call (.Attribute (.Name x px) name apos) [] [] cpos) (tBM0 X.K "list" r (tVar i)) (dMut0 i g) := by
  refine ⟨pe_bm0 PySem.F.plainAttrs_list slot hty hm ho hbase hline, fun {G σ H F ρ Q Qd} R q k => ?_⟩
  unfold dMut0 at q
  cases e1 : slL ρ i with
  | none => simp only [e1] at q
  | some sl =>
    obtain ⟨s, l⟩ := sl
    simp only [e1] at q
    obtain ⟨a1, b1⟩ := slL_some e1
    obtain ⟨p, hp, ⟨xs, hx, dx⟩, _⟩ := R.owned a1 b1
    refine ⟨.ref p, hp, .inl ⟨rfl, xs, .inl (.inl hx)⟩, hg R.ext hx dx q fun l' d xs' z qd d2 dz => ?_⟩
    exact k _ _ _ _ _ qd (Same.refl _) (R.write a1 b1 hp ⟨xs', upd_same, d2⟩) dz
def mReverse (l : List D) (Q : List D → D → Prop) : Prop := Q l.reverse .non
theorem sem_reverse : SemMut0 X.K rReverse mReverse := by
  intro F H p xs l Q Qd e hp dl h k
  exact ⟨p, xs, rfl, rfl, hp, k _ _ _ _ h dl.rev .non⟩
theorem de_reverse0 {i : Nat} {x : Str} {px : Pos} {apos cpos : Pos} (ho : PE X (.Name x px) (tVar i))
    (hbase : attributeBase (.Name x px) "reverse" X.env (eval (.Name x px) X.env) = eval (.Name x px) X.env := by rfl) (hline : (apos.endLine == cpos.line) = true := by rfl) :
    DE X (.Call (.Attribute (.Name x px) "reverse" apos) [] [] cpos) (tBM0 X.K "list" rReverse (tVar i)) (dMut0 i mReverse) :=
  de_mut0 PySem.F.slot_list_reverse PySem.F.type_list_reverse (fun pins s σ H x xs v us Q => mt_reverse pins s σ H x xs v us Q) sem_reverse ho hbase hline
def mPopAt (l : List D) (ds : List D) (Q : List D → D → Prop) : Prop := match ds with
  | [.int i] => 0 ≤ i ∧ i < 2 ^ 63 ∧ ∃ d, l[i.toNat]? = some d ∧ Q (l.eraseIdx i.toNat) d
  | _ => False
theorem sem_popAt : SemMut X.K rPopAt mPopAt := by
  intro F H p xs l vs ds Q Qd e hp dl dv h k
  unfold mPopAt at h
  split at h
  · cases dv with
    | cons a b =>
      cases b
      cases a
      obtain ⟨h0, h1, d, h2, h⟩ := h
      obtain ⟨v, hv, dd⟩ := dl.get h2
      have hl := (List.getElem?_eq_some_iff.mp hv).1
      exact ⟨p, xs, _, _, v, rfl, rfl, hp, by omega, h1, seqIndex_of h0 (by omega), hv, k _ _ _ _ h (dl.eraseIdx _) dd⟩
  · exact h.elim
theorem de_pop {i : Nat} {x : Str} {px : Pos} {e : Expr} {apos cpos : Pos} {ta : TA} {t : TVs} (ho : PE X (.Name x px) (tVar i)) (ha : DV X [e] ta t)
    (hbase : attributeBase (.Name x px) "pop" X.env (eval (.Name x px) X.env) = eval (.Name x px) X.env := by rfl)
    (hfew : ((backTo cpos (starEach [e] X.env)).all (fun x => !x.1) && (backToKw cpos (keywordEach [] X.env)).all (fun x => x.1.isSome)
      && decide (([e] : List Expr).length + ([] : List Keyword).length + (if ([] : List Keyword).isEmpty then 0 else 1) < 30)) = true := by rfl)
    (hline : (apos.endLine == cpos.line) = true := by rfl) (hs : starEach [e] X.env = (false, eval e X.env) :: starEach [] X.env := by rfl) (hplain : (backTo cpos (starEach [] X.env)).any (·.1) = false := by rfl) :
    DE X (.Call (.Attribute (.Name x px) "pop" apos) [e] [] cpos) (tBM X.K "list" rPopAt (tVar i) ta) (dMut i mPopAt t) :=
  de_mut PySem.F.slot_list_pop PySem.F.type_list_pop (fun pins s σ H x xs v us Q => mt_popAt pins s σ H x xs v us Q) sem_popAt ho ha hbase hfew hline hs hplain
theorem ty0 : isTy "NoneType" "bool" = false := rfl
theorem ty1 : isTy "NoneType" "int" = false := rfl
theorem ty2 : isTy "NoneType" "str" = false := rfl
theorem ty3 : isTy "NoneType" "list" = false := rfl
theorem ty4 : isTy "NoneType" "tuple" = false := rfl
theorem ty5 : isTy "NoneType" "dict" = false := rfl
theorem ty6 : isTy "bool" "bool" = true := rfl
theorem ty7 : isTy "bool" "int" = true := rfl
theorem ty8 : isTy "bool" "str" = false := rfl
theorem ty9 : isTy "bool" "list" = false := rfl
theorem ty10 : isTy "bool" "tuple" = false := rfl
theorem ty11 : isTy "bool" "dict" = false := rfl
theorem ty12 : isTy "int" "bool" = false := rfl
theorem ty13 : isTy "int" "int" = true := rfl
theorem ty14 : isTy "int" "str" = false := rfl
theorem ty15 : isTy "int" "list" = false := rfl
theorem ty16 : isTy "int" "tuple" = false := rfl
theorem ty17 : isTy "int" "dict" = false := rfl
theorem ty18 : isTy "str" "bool" = false := rfl
theorem ty19 : isTy "str" "int" = false := rfl
theorem ty20 : isTy "str" "str" = true := rfl
theorem ty21 : isTy "str" "list" = false := rfl
theorem ty22 : isTy "str" "tuple" = false := rfl
theorem ty23 : isTy "str" "dict" = false := rfl
theorem ty24 : isTy "list" "bool" = false := rfl
theorem ty25 : isTy "list" "int" = false := rfl
theorem ty26 : isTy "list" "str" = false := rfl
theorem ty27 : isTy "list" "list" = true := rfl
theorem ty28 : isTy "list" "tuple" = false := rfl
theorem ty29 : isTy "list" "dict" = false := rfl
theorem ty30 : isTy "tuple" "bool" = false := rfl
theorem ty31 : isTy "tuple" "int" = false := rfl
theorem ty32 : isTy "tuple" "str" = false := rfl
theorem ty33 : isTy "tuple" "list" = false := rfl
theorem ty34 : isTy "tuple" "tuple" = true := rfl
theorem ty35 : isTy "tuple" "dict" = false := rfl
theorem ty36 : isTy "dict" "bool" = false := rfl
theorem ty37 : isTy "dict" "int" = false := rfl
theorem ty38 : isTy "dict" "str" = false := rfl
theorem ty39 : isTy "dict" "list" = false := rfl
theorem ty40 : isTy "dict" "tuple" = false := rfl
theorem ty41 : isTy "dict" "dict" = true := rfl
end
section
variable {X : Cx}
theorem mid_get {α : Type} {l p r : List α} {x : α} (e : l = p ++ x :: r) : l[p.length]? = some x := by subst e; simp
theorem forL_ix {g : TGd} {b : TSD} {E : EndsD} (I : Nat → SL → Prop) {l : List D} {ρ : SL} (hI : I 0 ρ) (h0 : ∀ ρ, I l.length ρ → E.nx ρ)
    (h1 : ∀ (i : Nat) (x : D) (ρ : SL) (N : SL → Prop), l[i]? = some x → (∀ ρ', I (i + 1) ρ' → N ρ') → I i ρ → g x ρ fun ρ1 => b { nx := N, rt := E.rt, bk := E.nx, ct := N } ρ1) : forL g b E l ρ := by
  have := forL_on (fun x : D => x) (g := g) (b := b) (E := E) (fun p r ρ => I p.length ρ) (l := l) hI (fun ρ h => h0 ρ h) fun p x r ρ N e hN h => h1 p.length x ρ N (mid_get e) (fun ρ' h' => hN ρ' (by rw [List.length_append]; exact h')) h
  rwa [List.map_id'] at this
theorem lcL_ix {g : TGd} {tt : TB} {te : TD} {vs : List Nat} {Q : List D → SL → Prop} (I : Nat → List D → SL → Prop) {l : List D} {ρ : SL} (hI : I 0 [] ρ) (h0 : ∀ acc ρ, I l.length acc ρ → Q acc ρ)
    (h1 : ∀ (i : Nat) (x : D) (acc : List D) (ρ : SL) (N : List D → SL → Prop), l[i]? = some x → (∀ acc' ρ', I (i + 1) acc' ρ' → N acc' ρ') → I i acc ρ →
      g x ρ fun ρ1 => tt ρ1 fun b ρ2 => if b = true then te ρ2 fun rv ρ3 => acc.length < sizeLine ∧ N (acc ++ [rv.dat]) (wipeD ρ3 vs) else N acc (wipeD ρ2 vs)) : lcL g tt te vs Q l [] ρ := by
  have := lcL_on (fun x : D => x) (g := g) (tt := tt) (te := te) (vs := vs) (Q := Q) (fun p r acc ρ => I p.length acc ρ) (l := l) hI (fun acc ρ h => h0 acc ρ h) fun p x r acc ρ N e hN h => h1 p.length x acc ρ N (mid_get e) (fun acc' ρ' h' => hN acc' ρ' (by rw [List.length_append]; exact h')) h
  rwa [List.map_id'] at this
theorem sWhile_on {t : TB} {b : TSD} {E : EndsD} (W : Nat → SL → Prop) {m0 : Nat} {ρ : SL} (hw : W m0 ρ)
    (h : ∀ (m : Nat) (ρ : SL) (N : SL → Prop), (∀ m' ρ', m' < m → W m' ρ' → N ρ') → W m ρ → t ρ fun z ρ1 => if z = true then b { nx := N, rt := E.rt, bk := E.nx, ct := N } ρ1 else E.nx ρ1) : sWhile t b E ρ :=
  ⟨W, ⟨m0, hw⟩, fun m ρ w => h m ρ _ (fun m' ρ' hm w' => ⟨m', hm, w'⟩) w⟩
end
end DL
/-! ### the text of the law -/
namespace LW
open PySem L2 DL
def topS (i : Nat) : Stmt := PySem.Challenge.pw_suitedpairs_k42_common_parts.main.body.getD i (.Pass ⟨0, 0, 0, 0⟩)
abbrev s__law_bag : Stmt := topS 10
theorem sc__law_bag : FnScope ["_law_script", "_law_cell"] ["_law_script"] (defScope s__law_bag) := ⟨rfl, rfl, rfl, by decide +kernel, rfl, by decide +kernel, by decide +kernel⟩
abbrev s__law_take : Stmt := topS 11
theorem sc__law_take : FnScope ["_law_bag_here", "_law_many", "_law_cell", "_law_value", "_law_begin", "_law_second"] ["_law_bag_here", "_law_many"] (defScope s__law_take) := ⟨rfl, rfl, rfl, by decide +kernel, rfl, by decide +kernel, by decide +kernel⟩
abbrev s__law_fit : Stmt := topS 14
theorem sc__law_fit : FnScope ["_law_plan_here", "_law_one", "_law_other"] ["_law_plan_here", "_law_one", "_law_other"] (defScope s__law_fit) := ⟨rfl, rfl, rfl, by decide +kernel, rfl, by decide +kernel, by decide +kernel⟩
abbrev s__law_line : Stmt := topS 15
theorem sc__law_line : FnScope ["_law_bag_here", "_law_plan_here", "_law_most", "_law_found", "_law_k", "_law_kind", "_law_one"] ["_law_bag_here", "_law_plan_here", "_law_most"] (defScope s__law_line) := ⟨rfl, rfl, rfl, by decide +kernel, rfl, by decide +kernel, by decide +kernel⟩
abbrev s__law_two_lines : Stmt := topS 16
theorem sc__law_two_lines : FnScope ["_law_bag_here", "_law_plan_here", "_law_most", "_law_one", "_law_some", "_law_at", "_law_ways", "_law_kind"] ["_law_bag_here", "_law_plan_here", "_law_most"] (defScope s__law_two_lines) := ⟨rfl, rfl, rfl, by decide +kernel, rfl, by decide +kernel, by decide +kernel⟩
abbrev s__law_names : Stmt := topS 12
theorem sc__law_names : FnScope ["_law_bag_here", "_law_many", "_law_letters", "_law_way", "_law_turn", "_law_words", "_law_base", "_law_at", "_law_k"] ["_law_bag_here", "_law_many"] (defScope s__law_names) := ⟨rfl, rfl, rfl, by decide +kernel, rfl, by decide +kernel, by decide +kernel⟩
abbrev s__law_plan : Stmt := topS 13
theorem sc__law_plan : FnScope ["_law_bag_here", "_law_most", "_law_many", "_law_kinds", "_law_pairs", "_law_style", "_law_loops", "_law_k", "_law_j", "_law_near", "_law_odds", "_law_pair"] ["_law_bag_here", "_law_most"] (defScope s__law_plan) := ⟨rfl, rfl, rfl, by decide +kernel, rfl, by decide +kernel, by decide +kernel⟩
abbrev s_common_lengths : Stmt := topS 4
theorem sc_common_lengths : FnScope ["one", "other", "rows", "kind", "below", "row", "at"] ["one", "other"] (defScope s_common_lengths) := ⟨rfl, rfl, rfl, by decide +kernel, rfl, by decide +kernel, by decide +kernel⟩
abbrev s_common : Stmt := topS 6
theorem sc_common : FnScope ["one", "other", "lengths", "found", "first", "second"] ["one", "other"] (defScope s_common) := ⟨rfl, rfl, rfl, by decide +kernel, rfl, by decide +kernel, by decide +kernel⟩
abbrev s__law_longest : Stmt := topS 17
theorem sc__law_longest : FnScope ["_law_one", "_law_other", "_law_ahead", "_law_kind", "_law_found", "_law_k"] ["_law_one", "_law_other"] (defScope s__law_longest) := ⟨rfl, rfl, rfl, by decide +kernel, rfl, by decide +kernel, by decide +kernel⟩
abbrev s__law_is_index : Stmt := topS 18
theorem sc__law_is_index : FnScope ["_law_thing", "_law_line_here"] ["_law_thing", "_law_line_here"] (defScope s__law_is_index) := ⟨rfl, rfl, rfl, by decide +kernel, rfl, by decide +kernel, by decide +kernel⟩
abbrev s__law_is_right : Stmt := topS 19
theorem sc__law_is_right : FnScope ["_law_one", "_law_other", "_law_found", "_law_k"] ["_law_one", "_law_other", "_law_found"] (defScope s__law_is_right) := ⟨rfl, rfl, rfl, by decide +kernel, rfl, by decide +kernel, by decide +kernel⟩
abbrev s_is_integer : Stmt := topS 1
theorem sc_is_integer : FnScope ["thing"] ["thing"] (defScope s_is_integer) := ⟨rfl, rfl, rfl, by decide +kernel, rfl, by decide +kernel, by decide +kernel⟩
abbrev s_is_between : Stmt := topS 2
theorem sc_is_between : FnScope ["thing", "least", "greatest"] ["thing", "least", "greatest"] (defScope s_is_between) := ⟨rfl, rfl, rfl, by decide +kernel, rfl, by decide +kernel, by decide +kernel⟩
abbrev s_is_link : Stmt := topS 7
theorem sc_is_link : FnScope ["one", "other", "thing"] ["one", "other", "thing"] (defScope s_is_link) := ⟨rfl, rfl, rfl, by decide +kernel, rfl, by decide +kernel, by decide +kernel⟩
abbrev s_is_common : Stmt := topS 8
theorem sc_is_common : FnScope ["one", "other", "thing", "earlier", "later", "item"] ["one", "other", "thing"] (defScope s_is_common) := ⟨rfl, rfl, rfl, by decide +kernel, rfl, by decide +kernel, by decide +kernel⟩
abbrev s_distance : Stmt := topS 5
theorem sc_distance : FnScope ["one", "other"] ["one", "other"] (defScope s_distance) := ⟨rfl, rfl, rfl, by decide +kernel, rfl, by decide +kernel, by decide +kernel⟩
abbrev s_law : Stmt := topS 20
theorem sc_law : FnScope ["_law_script", "_law_bag_here", "_law_turn", "_law_one", "_law_other", "_law_shown", "_law_step", "_law_found"] ["_law_script"] (defScope s_law) := ⟨rfl, rfl, rfl, by decide +kernel, rfl, by decide +kernel, by decide +kernel⟩
section
variable {P : Program} {w : World} {K : PySem.W.Frag} {mg : Str → Option Value} {base : Heap}
/-- the law's bag: n takes may still come -/
def Bag (n : Nat) (c : Cn) : Prop := ∃ (a b : Int) (k : Nat) (cells : List Int), c = .l [.int a, .int b, .int k, .lst (cells.map D.int)] ∧ 0 ≤ a ∧ 0 ≤ b ∧ b < 2147483647 ∧ k + n ≤ 1000000000 ∧ ∀ x ∈ cells, 0 ≤ x
theorem Bag.le {n m : Nat} {c : Cn} (h : Bag n c) (e : m ≤ n) : Bag m c := by
  obtain ⟨a, b, k, cells, h1, h2, h3, h4, h5, h6⟩ := h
  exact ⟨a, b, k, cells, h1, h2, h3, h4, by omega, h6⟩
def sp__law_bag : SpD := fun as Q => ∃ ns : List Int, as = [.sh (.scr ns)] ∧ ns.length ≤ 63 ∧ ∀ c, Bag 1000000000 c → Q (.fr c) [.un]
theorem len__law_bag {as : SL} {Q : Rv → SL → Prop} (h : sp__law_bag as Q) : as.length = 1 := by
  obtain ⟨_, rfl, _⟩ := h
  rfl
theorem ok__law_bag {f : Addr} {fd : FuncData} (Fn : Fun K "_law_bag" "_law_bag" s__law_bag f fd) (z_abs : mg "abs" = none) : FnG P w K mg base CX0 1 f fd ["_law_script"] (lift K sp__law_bag) := by
  have nd := sc__law_bag.nd
  refine fnD Fn sc__law_bag (fun as Q h => ?len) (fun cdv A outer s H hgd hr => ⟨_, _,
    (dss_one (ds_ret (de_lst (dv_cons de_int (dv_cons de_int (dv_cons de_int (dv_cons (de_lcF rfl nd (dic_of (di_e (de_slice (do_var (pv 0)) dop_none (dop_some de_int)))) (blkOk_by (own := [("_law_cell", 1)]) (N := ["_law_script", "_law_cell"]) (sc := defScope s__law_bag) (by decide +kernel)) (fun _ _ _ _ _ => (dg_name (i := 1) nd rfl (.inl rfl))) (fun _ _ _ _ _ => dts_nil) (fun _ _ _ _ _ => (de_callB call_abs sem_abs (by rfl) z_abs (by decide +kernel) (da_cons (do_var (pv 1)) da_nil)))) dv_nil))))))), fun as Q h => ?_⟩)
  case len => exact len__law_bag h
  · obtain ⟨ns, rfl, hl, h⟩ := h
    simp only [sSeq, sNext, sSet, sRet, sRetN, sIf, sAsg, sDrop, sPar, sBrk, sCnt, sFor, sStore, sAugI, sAug, dC, dVar, dTake, qVar, qE, aNil, aCons, dOp, dUn, dCallB, gets, Op.get, put, puts, dat_sh, dat_ow, dat_bw, dat_un, ty0, ty1, ty2, ty3, ty4, ty5, ty6, ty7, ty8, ty9, ty10, ty11, ty12, ty13, ty14, ty15, ty16, ty17, ty18, ty19, ty20, ty21, ty22, ty23, ty24, ty25, ty26, ty27, ty28, ty29, ty30, ty31, ty32, ty33, ty34, ty35, ty36, ty37, ty38, ty39, ty40, ty41, gIsi_non, gIsi_bl, gIsi_int, gIsi_str, gIsi_lst, gIsi_tup, gIsi_dct, gIsC, dMut0, mReverse, mPopAt, gEq_bl, gEq_strs, eq_self, Sl.cn, Sl.with, Cn.dat, Rv.dat, bOf, asB, bTr, gTruth, bAnd, bOr, bNot, dAnd, dOr, dNot, dIf, dChain, vNil, vCons, dTup, dLst, dDisp, psNil, psCons, keyed, D.key, gN, gT, gsNil, gsCons, rNil, rCons, srcE, srcR1, srcR2, srcR3, srcEnum, srcZip, srcC, srcV, itsOf, dLc, bYes, wipeD, agNil, agVal, agBor, mkArgs, bors, giveB, dCall, clean, dMut, slL, mAppend, mInsert, slC, cnSet, gAdd, gSubI, gDiv, gMod, gNeg, gCmpI, gIx, dSl, oNo, oE, gSl, dRev, dJoin, gAbs, gLen, gInt, gIsN, gList, Option.map_some, List.map_cons, List.map_nil, List.getElem?_cons_zero, List.getElem?_cons_succ, List.getElem?_nil, List.set_cons_zero, List.set_cons_succ, List.length_cons, List.length_nil, List.cons_append, List.nil_append, List.take_succ_cons, List.take_zero, List.replicate_succ, List.replicate_zero, gMin2, gMax2, gMax3, nodup1, List.nodup_nil, gEq_int, gEq_str, atI_0, atI_1, atI_2, atI_3, atI_4, atI_5, ixN_40, ixN_41, ixN_42, ixN_43, gMul, Nat.reduceAdd, Nat.reduceSub, Nat.zero_add, Option.isSome_some, true_and, and_true, Option.some.injEq, exists_and_left, exists_eq_left, exists_eq_left', id_eq, ite_true, ite_false, reduceIte, Bool.false_eq_true, decide_eq_true_eq]
    have hc := cut_le ns none (some 63)
    refine lcL_on D.int (fun p r acc ρ => ρ = [Sl.sh (D.scr ns), Sl.un] ∧ ∃ ds : List Int, acc = ds.map D.int ∧ ds.length = p.length ∧ ∀ x ∈ ds, 0 ≤ x) ⟨rfl, [], rfl, rfl, fun x hx => by cases hx⟩ ?_ ?_
    · rintro acc ρ ⟨rfl, ds, rfl, hl2, hp⟩
      exact ⟨le_size (by decide), h _ ⟨0, 1234567891, 0, ds, rfl, by decide, by decide, by decide, by decide, hp⟩⟩
    · rintro p x r acc ρ N e hN ⟨rfl, ds, rfl, hl2, hp⟩
      simp only [sSeq, sNext, sSet, sRet, sRetN, sIf, sAsg, sDrop, sPar, sBrk, sCnt, sFor, sStore, sAugI, sAug, dC, dVar, dTake, qVar, qE, aNil, aCons, dOp, dUn, dCallB, gets, Op.get, put, puts, dat_sh, dat_ow, dat_bw, dat_un, ty0, ty1, ty2, ty3, ty4, ty5, ty6, ty7, ty8, ty9, ty10, ty11, ty12, ty13, ty14, ty15, ty16, ty17, ty18, ty19, ty20, ty21, ty22, ty23, ty24, ty25, ty26, ty27, ty28, ty29, ty30, ty31, ty32, ty33, ty34, ty35, ty36, ty37, ty38, ty39, ty40, ty41, gIsi_non, gIsi_bl, gIsi_int, gIsi_str, gIsi_lst, gIsi_tup, gIsi_dct, gIsC, dMut0, mReverse, mPopAt, gEq_bl, gEq_strs, eq_self, Sl.cn, Sl.with, Cn.dat, Rv.dat, bOf, asB, bTr, gTruth, bAnd, bOr, bNot, dAnd, dOr, dNot, dIf, dChain, vNil, vCons, dTup, dLst, dDisp, psNil, psCons, keyed, D.key, gN, gT, gsNil, gsCons, rNil, rCons, srcE, srcR1, srcR2, srcR3, srcEnum, srcZip, srcC, srcV, itsOf, dLc, bYes, wipeD, agNil, agVal, agBor, mkArgs, bors, giveB, dCall, clean, dMut, slL, mAppend, mInsert, slC, cnSet, gAdd, gSubI, gDiv, gMod, gNeg, gCmpI, gIx, dSl, oNo, oE, gSl, dRev, dJoin, gAbs, gLen, gInt, gIsN, gList, Option.map_some, List.map_cons, List.map_nil, List.getElem?_cons_zero, List.getElem?_cons_succ, List.getElem?_nil, List.set_cons_zero, List.set_cons_succ, List.length_cons, List.length_nil, List.cons_append, List.nil_append, List.take_succ_cons, List.take_zero, List.replicate_succ, List.replicate_zero, gMin2, gMax2, gMax3, nodup1, List.nodup_nil, gEq_int, gEq_str, atI_0, atI_1, atI_2, atI_3, atI_4, atI_5, ixN_40, ixN_41, ixN_42, ixN_43, gMul, Nat.reduceAdd, Nat.reduceSub, Nat.zero_add, Option.isSome_some, true_and, and_true, Option.some.injEq, exists_and_left, exists_eq_left, exists_eq_left', id_eq, ite_true, ite_false, reduceIte, Bool.false_eq_true, decide_eq_true_eq]
      have := congrArg List.length e
      rw [List.length_append, List.length_cons] at this
      refine ⟨lt_size (by rw [List.length_map]; omega), hN _ _ ⟨rfl, ds ++ [if x < 0 then -x else x], by simp, by simp [hl2], fun y hy => ?_⟩⟩
      rcases List.mem_append.mp hy with z | z
      · exact hp y z
      · rw [List.mem_singleton.mp z]
        split <;> omega
def sp__law_take : SpD := fun as Q => ∃ (n : Nat) (c : Cn) (m : Int), as = [.bw 0 c, .sh (.int m)] ∧ Bag (n + 1) c ∧ 0 < m ∧ m < 2 ^ 200 ∧ ∀ v c', Bag n c' → 0 ≤ v → v < m → Q (.v (.int v)) [.bw 0 c', .un]
theorem len__law_take {as : SL} {Q : Rv → SL → Prop} (h : sp__law_take as Q) : as.length = 2 := by
  obtain ⟨_, _, _, rfl, _⟩ := h
  rfl
theorem ok__law_take {f : Addr} {fd : FuncData} (Fn : Fun K "_law_take" "_law_take" s__law_take f fd) (z_len : mg "len" = none) : FnG P w K mg base CX0 1 f fd ["_law_bag_here", "_law_many"] (lift K sp__law_take) := by
  have nd := sc__law_take.nd
  refine fnD Fn sc__law_take (fun as Q h => ?len) (fun cdv A outer s H hgd hr => ⟨_, _,
    (dss_cons (ds_if (dt_cmp (op_eqA (hu64 hr)) sem_eq (do_e (de_ix (hu1 hr) (do_var (pv 0)) (do_e de_int))) (do_e de_int) (nomark _)) (dss_cons (ds_set (i := 2) nd rfl (.inl rfl) de_int)
      (dss_cons (ds_if (dt_cmp op_lt sem_lt (do_e (de_ix (hu1 hr) (do_var (pv 0)) (do_e de_int))) (do_e (de_callB call_lenA sem_len (by rfl) z_len (by decide +kernel) (da_cons (do_e (de_ix (hu1 hr) (do_var (pv 0)) (do_e de_int))) da_nil))) (nomark _)) (dss_one (ds_set (i := 2) nd rfl (.inl rfl) (de_ix (hu1 hr) (do_e (de_ix (hu1 hr) (do_var (pv 0)) (do_e de_int))) (do_e (de_ix (hu1 hr) (do_var (pv 0)) (do_e de_int)))))) dss_nil)
      (dss_cons (ds_augI (hu1 hr) (pv 0) (do_e de_int) de_int ip_add)
      (dss_cons (ds_if (dt_cmp op_ge sem_ge (do_var (pv 2)) (do_e de_int) (nomark _)) (dss_one (ds_store (hu1 hr) (pv 0) (do_e de_int) (de_var (pv 2)) (pg_sub (pv 0) (do_e de_int).pe (set_any (hu1 hr))))) dss_nil)
      (dss_one (ds_store (hu1 hr) (pv 0) (do_e de_int) (de_op op_mod sem_mod (do_e (de_op op_addA sem_addA (do_e (de_op op_addA sem_addA (do_e (de_op op_mulA sem_mulA (do_e (de_ix (hu1 hr) (do_var (pv 0)) (do_e de_int))) (do_e de_int))) (do_e (de_op op_mod sem_mod (do_var (pv 2)) (do_e de_int))))) (do_e (de_op op_mulA sem_mulA (do_e de_int) (do_e (de_ix (hu1 hr) (do_var (pv 0)) (do_e de_int))))))) (do_e de_int)) (pg_sub (pv 0) (do_e de_int).pe (set_any (hu1 hr))))))))) dss_nil)
      (dss_cons (ds_if (dt_cmp op_gt sem_gt (do_e (de_ix (hu1 hr) (do_var (pv 0)) (do_e de_int))) (do_e de_int) (nomark _)) (dss_cons (ds_set (i := 3) nd rfl (.inl rfl) (de_op op_mod sem_mod (do_e (de_ix (hu1 hr) (do_var (pv 0)) (do_e de_int))) (do_var (pv 1))))
      (dss_cons (ds_store (hu1 hr) (pv 0) (do_e de_int) (de_op op_fdivW sem_div (do_e (de_ix (hu1 hr) (do_var (pv 0)) (do_e de_int))) (do_var (pv 1))) (pg_sub (pv 0) (do_e de_int).pe (set_any (hu1 hr))))
      (dss_one (ds_ret (de_take (pv 3)))))) dss_nil)
      (dss_cons (ds_set (i := 4) nd rfl (.inl rfl) (de_op op_mod sem_mod (do_e (de_op op_mulA sem_mulA (do_e (de_op op_addA sem_addA (do_e (de_ix (hu1 hr) (do_var (pv 0)) (do_e de_int))) (do_e de_int))) (do_e de_int))) (do_e de_int)))
      (dss_cons (ds_set (i := 5) nd rfl (.inl rfl) (de_op op_mod sem_mod (do_e (de_op op_mulA sem_mulA (do_e (de_op op_mod sem_mod (do_e (de_op op_mulA sem_mulA (do_var (pv 4)) (do_var (pv 4)))) (do_e de_int))) (do_e de_int))) (do_e de_int)))
      (dss_cons (ds_if (dt_cmp op_gt sem_gt (do_var (pv 1)) (do_e de_int) (nomark _)) (dss_one (ds_ret (de_op op_mod sem_mod (do_e (de_op op_addA sem_addA (do_e (de_op op_mulA sem_mulA (do_var (pv 5)) (do_e de_int))) (do_var (pv 4)))) (do_var (pv 1))))) dss_nil)
      (dss_one (ds_ret (de_op op_mod sem_mod (do_e (de_op op_fdivW sem_div (do_var (pv 5)) (do_e de_int))) (do_var (pv 1)))))))))), fun as Q h => ?_⟩)
  case len => exact len__law_take h
  · obtain ⟨n, c, m, rfl, ⟨a, b, k, cells, rfl, ha, hb, hb2, hk, hc⟩, hm, hm2, h⟩ := h
    simp only [List.length_cons, List.length_nil, Nat.reduceAdd, Nat.reduceSub, List.replicate_succ, List.replicate_zero, List.cons_append, List.nil_append]
    refine sSeq_cut (fun ρ' => ∃ (a b : Int) (k : Nat) (s : Sl), ρ' = [.bw 0 (.l [.int a, .int b, .int k, .lst (cells.map D.int)]), .sh (.int m), s, .un, .un, .un] ∧ 0 ≤ a ∧ 0 ≤ b ∧ b < 2147483647 ∧ k + n ≤ 1000000000) (fun N hN => ?_) ?_
    · refine sIf_go fun T hT hF => ?_
      simp only [sSeq, sNext, sSet, sRet, sRetN, sIf, sAsg, sDrop, sPar, sBrk, sCnt, sFor, sStore, sAugI, sAug, dC, dVar, dTake, qVar, qE, aNil, aCons, dOp, dUn, dCallB, gets, Op.get, put, puts, dat_sh, dat_ow, dat_bw, dat_un, ty0, ty1, ty2, ty3, ty4, ty5, ty6, ty7, ty8, ty9, ty10, ty11, ty12, ty13, ty14, ty15, ty16, ty17, ty18, ty19, ty20, ty21, ty22, ty23, ty24, ty25, ty26, ty27, ty28, ty29, ty30, ty31, ty32, ty33, ty34, ty35, ty36, ty37, ty38, ty39, ty40, ty41, gIsi_non, gIsi_bl, gIsi_int, gIsi_str, gIsi_lst, gIsi_tup, gIsi_dct, gIsC, dMut0, mReverse, mPopAt, gEq_bl, gEq_strs, eq_self, Sl.cn, Sl.with, Cn.dat, Rv.dat, bOf, asB, bTr, gTruth, bAnd, bOr, bNot, dAnd, dOr, dNot, dIf, dChain, vNil, vCons, dTup, dLst, dDisp, psNil, psCons, keyed, D.key, gN, gT, gsNil, gsCons, rNil, rCons, srcE, srcR1, srcR2, srcR3, srcEnum, srcZip, srcC, srcV, itsOf, dLc, bYes, wipeD, agNil, agVal, agBor, mkArgs, bors, giveB, dCall, clean, dMut, slL, mAppend, mInsert, slC, cnSet, gAdd, gSubI, gDiv, gMod, gNeg, gCmpI, gIx, dSl, oNo, oE, gSl, dRev, dJoin, gAbs, gLen, gInt, gIsN, gList, Option.map_some, List.map_cons, List.map_nil, List.getElem?_cons_zero, List.getElem?_cons_succ, List.getElem?_nil, List.set_cons_zero, List.set_cons_succ, List.length_cons, List.length_nil, List.cons_append, List.nil_append, List.take_succ_cons, List.take_zero, List.replicate_succ, List.replicate_zero, gMin2, gMax2, gMax3, nodup1, List.nodup_nil, gEq_int, gEq_str, atI_0, atI_1, atI_2, atI_3, atI_4, atI_5, ixN_40, ixN_41, ixN_42, ixN_43, gMul, Nat.reduceAdd, Nat.reduceSub, Nat.zero_add, Option.isSome_some, true_and, and_true, Option.some.injEq, exists_and_left, exists_eq_left, exists_eq_left', id_eq, ite_true, ite_false, reduceIte, Bool.false_eq_true, decide_eq_true_eq]
      by_cases h0 : a = 0
      · rw [decide_eq_true h0]
        refine hT _ ?_
        refine sSeq_go fun N2 h2 => ?_
        simp only [sSeq, sNext, sSet, sRet, sRetN, sIf, sAsg, sDrop, sPar, sBrk, sCnt, sFor, sStore, sAugI, sAug, dC, dVar, dTake, qVar, qE, aNil, aCons, dOp, dUn, dCallB, gets, Op.get, put, puts, dat_sh, dat_ow, dat_bw, dat_un, ty0, ty1, ty2, ty3, ty4, ty5, ty6, ty7, ty8, ty9, ty10, ty11, ty12, ty13, ty14, ty15, ty16, ty17, ty18, ty19, ty20, ty21, ty22, ty23, ty24, ty25, ty26, ty27, ty28, ty29, ty30, ty31, ty32, ty33, ty34, ty35, ty36, ty37, ty38, ty39, ty40, ty41, gIsi_non, gIsi_bl, gIsi_int, gIsi_str, gIsi_lst, gIsi_tup, gIsi_dct, gIsC, dMut0, mReverse, mPopAt, gEq_bl, gEq_strs, eq_self, Sl.cn, Sl.with, Cn.dat, Rv.dat, bOf, asB, bTr, gTruth, bAnd, bOr, bNot, dAnd, dOr, dNot, dIf, dChain, vNil, vCons, dTup, dLst, dDisp, psNil, psCons, keyed, D.key, gN, gT, gsNil, gsCons, rNil, rCons, srcE, srcR1, srcR2, srcR3, srcEnum, srcZip, srcC, srcV, itsOf, dLc, bYes, wipeD, agNil, agVal, agBor, mkArgs, bors, giveB, dCall, clean, dMut, slL, mAppend, mInsert, slC, cnSet, gAdd, gSubI, gDiv, gMod, gNeg, gCmpI, gIx, dSl, oNo, oE, gSl, dRev, dJoin, gAbs, gLen, gInt, gIsN, gList, Option.map_some, List.map_cons, List.map_nil, List.getElem?_cons_zero, List.getElem?_cons_succ, List.getElem?_nil, List.set_cons_zero, List.set_cons_succ, List.length_cons, List.length_nil, List.cons_append, List.nil_append, List.take_succ_cons, List.take_zero, List.replicate_succ, List.replicate_zero, gMin2, gMax2, gMax3, nodup1, List.nodup_nil, gEq_int, gEq_str, atI_0, atI_1, atI_2, atI_3, atI_4, atI_5, ixN_40, ixN_41, ixN_42, ixN_43, gMul, Nat.reduceAdd, Nat.reduceSub, Nat.zero_add, Option.isSome_some, true_and, and_true, Option.some.injEq, exists_and_left, exists_eq_left, exists_eq_left', id_eq, ite_true, ite_false, reduceIte, Bool.false_eq_true, decide_eq_true_eq]
        refine h2 _ ?_
        refine sSeq_cut (fun ρ' => ∃ x : Int, 0 ≤ x ∧ ρ' = [.bw 0 (.l [.int a, .int b, .int k, .lst (cells.map D.int)]), .sh (.int m), .sh (.int x), .un, .un, .un]) (fun N3 h3 => ?_) ?_
        · refine sIf_go fun T hT hF => ?_
          simp only [sSeq, sNext, sSet, sRet, sRetN, sIf, sAsg, sDrop, sPar, sBrk, sCnt, sFor, sStore, sAugI, sAug, dC, dVar, dTake, qVar, qE, aNil, aCons, dOp, dUn, dCallB, gets, Op.get, put, puts, dat_sh, dat_ow, dat_bw, dat_un, ty0, ty1, ty2, ty3, ty4, ty5, ty6, ty7, ty8, ty9, ty10, ty11, ty12, ty13, ty14, ty15, ty16, ty17, ty18, ty19, ty20, ty21, ty22, ty23, ty24, ty25, ty26, ty27, ty28, ty29, ty30, ty31, ty32, ty33, ty34, ty35, ty36, ty37, ty38, ty39, ty40, ty41, gIsi_non, gIsi_bl, gIsi_int, gIsi_str, gIsi_lst, gIsi_tup, gIsi_dct, gIsC, dMut0, mReverse, mPopAt, gEq_bl, gEq_strs, eq_self, Sl.cn, Sl.with, Cn.dat, Rv.dat, bOf, asB, bTr, gTruth, bAnd, bOr, bNot, dAnd, dOr, dNot, dIf, dChain, vNil, vCons, dTup, dLst, dDisp, psNil, psCons, keyed, D.key, gN, gT, gsNil, gsCons, rNil, rCons, srcE, srcR1, srcR2, srcR3, srcEnum, srcZip, srcC, srcV, itsOf, dLc, bYes, wipeD, agNil, agVal, agBor, mkArgs, bors, giveB, dCall, clean, dMut, slL, mAppend, mInsert, slC, cnSet, gAdd, gSubI, gDiv, gMod, gNeg, gCmpI, gIx, dSl, oNo, oE, gSl, dRev, dJoin, gAbs, gLen, gInt, gIsN, gList, Option.map_some, List.map_cons, List.map_nil, List.getElem?_cons_zero, List.getElem?_cons_succ, List.getElem?_nil, List.set_cons_zero, List.set_cons_succ, List.length_cons, List.length_nil, List.cons_append, List.nil_append, List.take_succ_cons, List.take_zero, List.replicate_succ, List.replicate_zero, gMin2, gMax2, gMax3, nodup1, List.nodup_nil, gEq_int, gEq_str, atI_0, atI_1, atI_2, atI_3, atI_4, atI_5, ixN_40, ixN_41, ixN_42, ixN_43, gMul, Nat.reduceAdd, Nat.reduceSub, Nat.zero_add, Option.isSome_some, true_and, and_true, Option.some.injEq, exists_and_left, exists_eq_left, exists_eq_left', id_eq, ite_true, ite_false, reduceIte, Bool.false_eq_true, decide_eq_true_eq, List.length_map]
          by_cases h1 : (k : Int) < cells.length
          · rw [decide_eq_true h1]
            refine hT _ ?_
            simp only [sSeq, sNext, sSet, sRet, sRetN, sIf, sAsg, sDrop, sPar, sBrk, sCnt, sFor, sStore, sAugI, sAug, dC, dVar, dTake, qVar, qE, aNil, aCons, dOp, dUn, dCallB, gets, Op.get, put, puts, dat_sh, dat_ow, dat_bw, dat_un, ty0, ty1, ty2, ty3, ty4, ty5, ty6, ty7, ty8, ty9, ty10, ty11, ty12, ty13, ty14, ty15, ty16, ty17, ty18, ty19, ty20, ty21, ty22, ty23, ty24, ty25, ty26, ty27, ty28, ty29, ty30, ty31, ty32, ty33, ty34, ty35, ty36, ty37, ty38, ty39, ty40, ty41, gIsi_non, gIsi_bl, gIsi_int, gIsi_str, gIsi_lst, gIsi_tup, gIsi_dct, gIsC, dMut0, mReverse, mPopAt, gEq_bl, gEq_strs, eq_self, Sl.cn, Sl.with, Cn.dat, Rv.dat, bOf, asB, bTr, gTruth, bAnd, bOr, bNot, dAnd, dOr, dNot, dIf, dChain, vNil, vCons, dTup, dLst, dDisp, psNil, psCons, keyed, D.key, gN, gT, gsNil, gsCons, rNil, rCons, srcE, srcR1, srcR2, srcR3, srcEnum, srcZip, srcC, srcV, itsOf, dLc, bYes, wipeD, agNil, agVal, agBor, mkArgs, bors, giveB, dCall, clean, dMut, slL, mAppend, mInsert, slC, cnSet, gAdd, gSubI, gDiv, gMod, gNeg, gCmpI, gIx, dSl, oNo, oE, gSl, dRev, dJoin, gAbs, gLen, gInt, gIsN, gList, Option.map_some, List.map_cons, List.map_nil, List.getElem?_cons_zero, List.getElem?_cons_succ, List.getElem?_nil, List.set_cons_zero, List.set_cons_succ, List.length_cons, List.length_nil, List.cons_append, List.nil_append, List.take_succ_cons, List.take_zero, List.replicate_succ, List.replicate_zero, gMin2, gMax2, gMax3, nodup1, List.nodup_nil, gEq_int, gEq_str, atI_0, atI_1, atI_2, atI_3, atI_4, atI_5, ixN_40, ixN_41, ixN_42, ixN_43, gMul, Nat.reduceAdd, Nat.reduceSub, Nat.zero_add, Option.isSome_some, true_and, and_true, Option.some.injEq, exists_and_left, exists_eq_left, exists_eq_left', id_eq, ite_true, ite_false, reduceIte, Bool.false_eq_true, decide_eq_true_eq]
            have hkl : k < cells.length := by omega
            refine ⟨_, atI_int (x := D.int cells[k]) (by omega) (by rw [Int.toNat_natCast, List.getElem?_map, List.getElem?_eq_getElem hkl]; rfl), h3 _ ⟨_, hc _ (List.getElem_mem hkl), rfl⟩⟩
          · rw [decide_eq_false h1]
            refine hF _ ?_
            simp only [sSeq, sNext, sSet, sRet, sRetN, sIf, sAsg, sDrop, sPar, sBrk, sCnt, sFor, sStore, sAugI, sAug, dC, dVar, dTake, qVar, qE, aNil, aCons, dOp, dUn, dCallB, gets, Op.get, put, puts, dat_sh, dat_ow, dat_bw, dat_un, ty0, ty1, ty2, ty3, ty4, ty5, ty6, ty7, ty8, ty9, ty10, ty11, ty12, ty13, ty14, ty15, ty16, ty17, ty18, ty19, ty20, ty21, ty22, ty23, ty24, ty25, ty26, ty27, ty28, ty29, ty30, ty31, ty32, ty33, ty34, ty35, ty36, ty37, ty38, ty39, ty40, ty41, gIsi_non, gIsi_bl, gIsi_int, gIsi_str, gIsi_lst, gIsi_tup, gIsi_dct, gIsC, dMut0, mReverse, mPopAt, gEq_bl, gEq_strs, eq_self, Sl.cn, Sl.with, Cn.dat, Rv.dat, bOf, asB, bTr, gTruth, bAnd, bOr, bNot, dAnd, dOr, dNot, dIf, dChain, vNil, vCons, dTup, dLst, dDisp, psNil, psCons, keyed, D.key, gN, gT, gsNil, gsCons, rNil, rCons, srcE, srcR1, srcR2, srcR3, srcEnum, srcZip, srcC, srcV, itsOf, dLc, bYes, wipeD, agNil, agVal, agBor, mkArgs, bors, giveB, dCall, clean, dMut, slL, mAppend, mInsert, slC, cnSet, gAdd, gSubI, gDiv, gMod, gNeg, gCmpI, gIx, dSl, oNo, oE, gSl, dRev, dJoin, gAbs, gLen, gInt, gIsN, gList, Option.map_some, List.map_cons, List.map_nil, List.getElem?_cons_zero, List.getElem?_cons_succ, List.getElem?_nil, List.set_cons_zero, List.set_cons_succ, List.length_cons, List.length_nil, List.cons_append, List.nil_append, List.take_succ_cons, List.take_zero, List.replicate_succ, List.replicate_zero, gMin2, gMax2, gMax3, nodup1, List.nodup_nil, gEq_int, gEq_str, atI_0, atI_1, atI_2, atI_3, atI_4, atI_5, ixN_40, ixN_41, ixN_42, ixN_43, gMul, Nat.reduceAdd, Nat.reduceSub, Nat.zero_add, Option.isSome_some, true_and, and_true, Option.some.injEq, exists_and_left, exists_eq_left, exists_eq_left', id_eq, ite_true, ite_false, reduceIte, Bool.false_eq_true, decide_eq_true_eq]
            exact h3 _ ⟨0, by decide, rfl⟩
        · rintro ρ' ⟨x, hx, rfl⟩
          refine sSeq_go fun N4 h4 => ?_
          simp only [sSeq, sNext, sSet, sRet, sRetN, sIf, sAsg, sDrop, sPar, sBrk, sCnt, sFor, sStore, sAugI, sAug, dC, dVar, dTake, qVar, qE, aNil, aCons, dOp, dUn, dCallB, gets, Op.get, put, puts, dat_sh, dat_ow, dat_bw, dat_un, ty0, ty1, ty2, ty3, ty4, ty5, ty6, ty7, ty8, ty9, ty10, ty11, ty12, ty13, ty14, ty15, ty16, ty17, ty18, ty19, ty20, ty21, ty22, ty23, ty24, ty25, ty26, ty27, ty28, ty29, ty30, ty31, ty32, ty33, ty34, ty35, ty36, ty37, ty38, ty39, ty40, ty41, gIsi_non, gIsi_bl, gIsi_int, gIsi_str, gIsi_lst, gIsi_tup, gIsi_dct, gIsC, dMut0, mReverse, mPopAt, gEq_bl, gEq_strs, eq_self, Sl.cn, Sl.with, Cn.dat, Rv.dat, bOf, asB, bTr, gTruth, bAnd, bOr, bNot, dAnd, dOr, dNot, dIf, dChain, vNil, vCons, dTup, dLst, dDisp, psNil, psCons, keyed, D.key, gN, gT, gsNil, gsCons, rNil, rCons, srcE, srcR1, srcR2, srcR3, srcEnum, srcZip, srcC, srcV, itsOf, dLc, bYes, wipeD, agNil, agVal, agBor, mkArgs, bors, giveB, dCall, clean, dMut, slL, mAppend, mInsert, slC, cnSet, gAdd, gSubI, gDiv, gMod, gNeg, gCmpI, gIx, dSl, oNo, oE, gSl, dRev, dJoin, gAbs, gLen, gInt, gIsN, gList, Option.map_some, List.map_cons, List.map_nil, List.getElem?_cons_zero, List.getElem?_cons_succ, List.getElem?_nil, List.set_cons_zero, List.set_cons_succ, List.length_cons, List.length_nil, List.cons_append, List.nil_append, List.take_succ_cons, List.take_zero, List.replicate_succ, List.replicate_zero, gMin2, gMax2, gMax3, nodup1, List.nodup_nil, gEq_int, gEq_str, atI_0, atI_1, atI_2, atI_3, atI_4, atI_5, ixN_40, ixN_41, ixN_42, ixN_43, gMul, Nat.reduceAdd, Nat.reduceSub, Nat.zero_add, Option.isSome_some, true_and, and_true, Option.some.injEq, exists_and_left, exists_eq_left, exists_eq_left', id_eq, ite_true, ite_false, reduceIte, Bool.false_eq_true, decide_eq_true_eq]
          refine h4 _ ?_
          refine sSeq_cut (fun ρ' => ∃ a : Int, 0 ≤ a ∧ ρ' = [.bw 0 (.l [.int a, .int b, .int (k + 1), .lst (cells.map D.int)]), .sh (.int m), .sh (.int x), .un, .un, .un]) (fun N5 h5 => ?_) ?_
          · refine sIf_go fun T hT hF => ?_
            simp only [sSeq, sNext, sSet, sRet, sRetN, sIf, sAsg, sDrop, sPar, sBrk, sCnt, sFor, sStore, sAugI, sAug, dC, dVar, dTake, qVar, qE, aNil, aCons, dOp, dUn, dCallB, gets, Op.get, put, puts, dat_sh, dat_ow, dat_bw, dat_un, ty0, ty1, ty2, ty3, ty4, ty5, ty6, ty7, ty8, ty9, ty10, ty11, ty12, ty13, ty14, ty15, ty16, ty17, ty18, ty19, ty20, ty21, ty22, ty23, ty24, ty25, ty26, ty27, ty28, ty29, ty30, ty31, ty32, ty33, ty34, ty35, ty36, ty37, ty38, ty39, ty40, ty41, gIsi_non, gIsi_bl, gIsi_int, gIsi_str, gIsi_lst, gIsi_tup, gIsi_dct, gIsC, dMut0, mReverse, mPopAt, gEq_bl, gEq_strs, eq_self, Sl.cn, Sl.with, Cn.dat, Rv.dat, bOf, asB, bTr, gTruth, bAnd, bOr, bNot, dAnd, dOr, dNot, dIf, dChain, vNil, vCons, dTup, dLst, dDisp, psNil, psCons, keyed, D.key, gN, gT, gsNil, gsCons, rNil, rCons, srcE, srcR1, srcR2, srcR3, srcEnum, srcZip, srcC, srcV, itsOf, dLc, bYes, wipeD, agNil, agVal, agBor, mkArgs, bors, giveB, dCall, clean, dMut, slL, mAppend, mInsert, slC, cnSet, gAdd, gSubI, gDiv, gMod, gNeg, gCmpI, gIx, dSl, oNo, oE, gSl, dRev, dJoin, gAbs, gLen, gInt, gIsN, gList, Option.map_some, List.map_cons, List.map_nil, List.getElem?_cons_zero, List.getElem?_cons_succ, List.getElem?_nil, List.set_cons_zero, List.set_cons_succ, List.length_cons, List.length_nil, List.cons_append, List.nil_append, List.take_succ_cons, List.take_zero, List.replicate_succ, List.replicate_zero, gMin2, gMax2, gMax3, nodup1, List.nodup_nil, gEq_int, gEq_str, atI_0, atI_1, atI_2, atI_3, atI_4, atI_5, ixN_40, ixN_41, ixN_42, ixN_43, gMul, Nat.reduceAdd, Nat.reduceSub, Nat.zero_add, Option.isSome_some, true_and, and_true, Option.some.injEq, exists_and_left, exists_eq_left, exists_eq_left', id_eq, ite_true, ite_false, reduceIte, Bool.false_eq_true, decide_eq_true_eq]
            by_cases h1 : (1000000000000000000 : Int) ≤ x
            · rw [decide_eq_true h1]
              refine hT _ ?_
              simp only [sSeq, sNext, sSet, sRet, sRetN, sIf, sAsg, sDrop, sPar, sBrk, sCnt, sFor, sStore, sAugI, sAug, dC, dVar, dTake, qVar, qE, aNil, aCons, dOp, dUn, dCallB, gets, Op.get, put, puts, dat_sh, dat_ow, dat_bw, dat_un, ty0, ty1, ty2, ty3, ty4, ty5, ty6, ty7, ty8, ty9, ty10, ty11, ty12, ty13, ty14, ty15, ty16, ty17, ty18, ty19, ty20, ty21, ty22, ty23, ty24, ty25, ty26, ty27, ty28, ty29, ty30, ty31, ty32, ty33, ty34, ty35, ty36, ty37, ty38, ty39, ty40, ty41, gIsi_non, gIsi_bl, gIsi_int, gIsi_str, gIsi_lst, gIsi_tup, gIsi_dct, gIsC, dMut0, mReverse, mPopAt, gEq_bl, gEq_strs, eq_self, Sl.cn, Sl.with, Cn.dat, Rv.dat, bOf, asB, bTr, gTruth, bAnd, bOr, bNot, dAnd, dOr, dNot, dIf, dChain, vNil, vCons, dTup, dLst, dDisp, psNil, psCons, keyed, D.key, gN, gT, gsNil, gsCons, rNil, rCons, srcE, srcR1, srcR2, srcR3, srcEnum, srcZip, srcC, srcV, itsOf, dLc, bYes, wipeD, agNil, agVal, agBor, mkArgs, bors, giveB, dCall, clean, dMut, slL, mAppend, mInsert, slC, cnSet, gAdd, gSubI, gDiv, gMod, gNeg, gCmpI, gIx, dSl, oNo, oE, gSl, dRev, dJoin, gAbs, gLen, gInt, gIsN, gList, Option.map_some, List.map_cons, List.map_nil, List.getElem?_cons_zero, List.getElem?_cons_succ, List.getElem?_nil, List.set_cons_zero, List.set_cons_succ, List.length_cons, List.length_nil, List.cons_append, List.nil_append, List.take_succ_cons, List.take_zero, List.replicate_succ, List.replicate_zero, gMin2, gMax2, gMax3, nodup1, List.nodup_nil, gEq_int, gEq_str, atI_0, atI_1, atI_2, atI_3, atI_4, atI_5, ixN_40, ixN_41, ixN_42, ixN_43, gMul, Nat.reduceAdd, Nat.reduceSub, Nat.zero_add, Option.isSome_some, true_and, and_true, Option.some.injEq, exists_and_left, exists_eq_left, exists_eq_left', id_eq, ite_true, ite_false, reduceIte, Bool.false_eq_true, decide_eq_true_eq]
              exact h5 _ ⟨x, hx, rfl⟩
            · rw [decide_eq_false h1]
              refine hF _ ?_
              simp only [sSeq, sNext, sSet, sRet, sRetN, sIf, sAsg, sDrop, sPar, sBrk, sCnt, sFor, sStore, sAugI, sAug, dC, dVar, dTake, qVar, qE, aNil, aCons, dOp, dUn, dCallB, gets, Op.get, put, puts, dat_sh, dat_ow, dat_bw, dat_un, ty0, ty1, ty2, ty3, ty4, ty5, ty6, ty7, ty8, ty9, ty10, ty11, ty12, ty13, ty14, ty15, ty16, ty17, ty18, ty19, ty20, ty21, ty22, ty23, ty24, ty25, ty26, ty27, ty28, ty29, ty30, ty31, ty32, ty33, ty34, ty35, ty36, ty37, ty38, ty39, ty40, ty41, gIsi_non, gIsi_bl, gIsi_int, gIsi_str, gIsi_lst, gIsi_tup, gIsi_dct, gIsC, dMut0, mReverse, mPopAt, gEq_bl, gEq_strs, eq_self, Sl.cn, Sl.with, Cn.dat, Rv.dat, bOf, asB, bTr, gTruth, bAnd, bOr, bNot, dAnd, dOr, dNot, dIf, dChain, vNil, vCons, dTup, dLst, dDisp, psNil, psCons, keyed, D.key, gN, gT, gsNil, gsCons, rNil, rCons, srcE, srcR1, srcR2, srcR3, srcEnum, srcZip, srcC, srcV, itsOf, dLc, bYes, wipeD, agNil, agVal, agBor, mkArgs, bors, giveB, dCall, clean, dMut, slL, mAppend, mInsert, slC, cnSet, gAdd, gSubI, gDiv, gMod, gNeg, gCmpI, gIx, dSl, oNo, oE, gSl, dRev, dJoin, gAbs, gLen, gInt, gIsN, gList, Option.map_some, List.map_cons, List.map_nil, List.getElem?_cons_zero, List.getElem?_cons_succ, List.getElem?_nil, List.set_cons_zero, List.set_cons_succ, List.length_cons, List.length_nil, List.cons_append, List.nil_append, List.take_succ_cons, List.take_zero, List.replicate_succ, List.replicate_zero, gMin2, gMax2, gMax3, nodup1, List.nodup_nil, gEq_int, gEq_str, atI_0, atI_1, atI_2, atI_3, atI_4, atI_5, ixN_40, ixN_41, ixN_42, ixN_43, gMul, Nat.reduceAdd, Nat.reduceSub, Nat.zero_add, Option.isSome_some, true_and, and_true, Option.some.injEq, exists_and_left, exists_eq_left, exists_eq_left', id_eq, ite_true, ite_false, reduceIte, Bool.false_eq_true, decide_eq_true_eq]
              exact h5 _ ⟨a, ha, rfl⟩
          · rintro ρ' ⟨a', ha', rfl⟩
            simp only [sSeq, sNext, sSet, sRet, sRetN, sIf, sAsg, sDrop, sPar, sBrk, sCnt, sFor, sStore, sAugI, sAug, dC, dVar, dTake, qVar, qE, aNil, aCons, dOp, dUn, dCallB, gets, Op.get, put, puts, dat_sh, dat_ow, dat_bw, dat_un, ty0, ty1, ty2, ty3, ty4, ty5, ty6, ty7, ty8, ty9, ty10, ty11, ty12, ty13, ty14, ty15, ty16, ty17, ty18, ty19, ty20, ty21, ty22, ty23, ty24, ty25, ty26, ty27, ty28, ty29, ty30, ty31, ty32, ty33, ty34, ty35, ty36, ty37, ty38, ty39, ty40, ty41, gIsi_non, gIsi_bl, gIsi_int, gIsi_str, gIsi_lst, gIsi_tup, gIsi_dct, gIsC, dMut0, mReverse, mPopAt, gEq_bl, gEq_strs, eq_self, Sl.cn, Sl.with, Cn.dat, Rv.dat, bOf, asB, bTr, gTruth, bAnd, bOr, bNot, dAnd, dOr, dNot, dIf, dChain, vNil, vCons, dTup, dLst, dDisp, psNil, psCons, keyed, D.key, gN, gT, gsNil, gsCons, rNil, rCons, srcE, srcR1, srcR2, srcR3, srcEnum, srcZip, srcC, srcV, itsOf, dLc, bYes, wipeD, agNil, agVal, agBor, mkArgs, bors, giveB, dCall, clean, dMut, slL, mAppend, mInsert, slC, cnSet, gAdd, gSubI, gDiv, gMod, gNeg, gCmpI, gIx, dSl, oNo, oE, gSl, dRev, dJoin, gAbs, gLen, gInt, gIsN, gList, Option.map_some, List.map_cons, List.map_nil, List.getElem?_cons_zero, List.getElem?_cons_succ, List.getElem?_nil, List.set_cons_zero, List.set_cons_succ, List.length_cons, List.length_nil, List.cons_append, List.nil_append, List.take_succ_cons, List.take_zero, List.replicate_succ, List.replicate_zero, gMin2, gMax2, gMax3, nodup1, List.nodup_nil, gEq_int, gEq_str, atI_0, atI_1, atI_2, atI_3, atI_4, atI_5, ixN_40, ixN_41, ixN_42, ixN_43, gMul, Nat.reduceAdd, Nat.reduceSub, Nat.zero_add, Option.isSome_some, true_and, and_true, Option.some.injEq, exists_and_left, exists_eq_left, exists_eq_left', id_eq, ite_true, ite_false, reduceIte, Bool.false_eq_true, decide_eq_true_eq]
            refine ⟨cMul_of (by omega) (by decide), by decide, cMul_of (by decide) (by omega), by decide, hN _ ⟨a', _, k + 1, _, rfl, ha', Int.emod_nonneg _ (by decide), Int.emod_lt_of_pos _ (by decide), by omega⟩⟩
      · rw [decide_eq_false h0]
        refine hF _ ?_
        simp only [sSeq, sNext, sSet, sRet, sRetN, sIf, sAsg, sDrop, sPar, sBrk, sCnt, sFor, sStore, sAugI, sAug, dC, dVar, dTake, qVar, qE, aNil, aCons, dOp, dUn, dCallB, gets, Op.get, put, puts, dat_sh, dat_ow, dat_bw, dat_un, ty0, ty1, ty2, ty3, ty4, ty5, ty6, ty7, ty8, ty9, ty10, ty11, ty12, ty13, ty14, ty15, ty16, ty17, ty18, ty19, ty20, ty21, ty22, ty23, ty24, ty25, ty26, ty27, ty28, ty29, ty30, ty31, ty32, ty33, ty34, ty35, ty36, ty37, ty38, ty39, ty40, ty41, gIsi_non, gIsi_bl, gIsi_int, gIsi_str, gIsi_lst, gIsi_tup, gIsi_dct, gIsC, dMut0, mReverse, mPopAt, gEq_bl, gEq_strs, eq_self, Sl.cn, Sl.with, Cn.dat, Rv.dat, bOf, asB, bTr, gTruth, bAnd, bOr, bNot, dAnd, dOr, dNot, dIf, dChain, vNil, vCons, dTup, dLst, dDisp, psNil, psCons, keyed, D.key, gN, gT, gsNil, gsCons, rNil, rCons, srcE, srcR1, srcR2, srcR3, srcEnum, srcZip, srcC, srcV, itsOf, dLc, bYes, wipeD, agNil, agVal, agBor, mkArgs, bors, giveB, dCall, clean, dMut, slL, mAppend, mInsert, slC, cnSet, gAdd, gSubI, gDiv, gMod, gNeg, gCmpI, gIx, dSl, oNo, oE, gSl, dRev, dJoin, gAbs, gLen, gInt, gIsN, gList, Option.map_some, List.map_cons, List.map_nil, List.getElem?_cons_zero, List.getElem?_cons_succ, List.getElem?_nil, List.set_cons_zero, List.set_cons_succ, List.length_cons, List.length_nil, List.cons_append, List.nil_append, List.take_succ_cons, List.take_zero, List.replicate_succ, List.replicate_zero, gMin2, gMax2, gMax3, nodup1, List.nodup_nil, gEq_int, gEq_str, atI_0, atI_1, atI_2, atI_3, atI_4, atI_5, ixN_40, ixN_41, ixN_42, ixN_43, gMul, Nat.reduceAdd, Nat.reduceSub, Nat.zero_add, Option.isSome_some, true_and, and_true, Option.some.injEq, exists_and_left, exists_eq_left, exists_eq_left', id_eq, ite_true, ite_false, reduceIte, Bool.false_eq_true, decide_eq_true_eq]
        exact hN _ ⟨a, b, k, _, rfl, ha, hb, hb2, by omega⟩
    · rintro ρ' ⟨a, b, k, s, rfl, ha, hb, hb2, hk⟩
      refine sSeq_cut (fun ρ' => ρ' = [.bw 0 (.l [.int a, .int b, .int k, .lst (cells.map D.int)]), .sh (.int m), s, .un, .un, .un]) (fun N hN => ?_) ?_
      · refine sIf_go fun T hT hF => ?_
        simp only [sSeq, sNext, sSet, sRet, sRetN, sIf, sAsg, sDrop, sPar, sBrk, sCnt, sFor, sStore, sAugI, sAug, dC, dVar, dTake, qVar, qE, aNil, aCons, dOp, dUn, dCallB, gets, Op.get, put, puts, dat_sh, dat_ow, dat_bw, dat_un, ty0, ty1, ty2, ty3, ty4, ty5, ty6, ty7, ty8, ty9, ty10, ty11, ty12, ty13, ty14, ty15, ty16, ty17, ty18, ty19, ty20, ty21, ty22, ty23, ty24, ty25, ty26, ty27, ty28, ty29, ty30, ty31, ty32, ty33, ty34, ty35, ty36, ty37, ty38, ty39, ty40, ty41, gIsi_non, gIsi_bl, gIsi_int, gIsi_str, gIsi_lst, gIsi_tup, gIsi_dct, gIsC, dMut0, mReverse, mPopAt, gEq_bl, gEq_strs, eq_self, Sl.cn, Sl.with, Cn.dat, Rv.dat, bOf, asB, bTr, gTruth, bAnd, bOr, bNot, dAnd, dOr, dNot, dIf, dChain, vNil, vCons, dTup, dLst, dDisp, psNil, psCons, keyed, D.key, gN, gT, gsNil, gsCons, rNil, rCons, srcE, srcR1, srcR2, srcR3, srcEnum, srcZip, srcC, srcV, itsOf, dLc, bYes, wipeD, agNil, agVal, agBor, mkArgs, bors, giveB, dCall, clean, dMut, slL, mAppend, mInsert, slC, cnSet, gAdd, gSubI, gDiv, gMod, gNeg, gCmpI, gIx, dSl, oNo, oE, gSl, dRev, dJoin, gAbs, gLen, gInt, gIsN, gList, Option.map_some, List.map_cons, List.map_nil, List.getElem?_cons_zero, List.getElem?_cons_succ, List.getElem?_nil, List.set_cons_zero, List.set_cons_succ, List.length_cons, List.length_nil, List.cons_append, List.nil_append, List.take_succ_cons, List.take_zero, List.replicate_succ, List.replicate_zero, gMin2, gMax2, gMax3, nodup1, List.nodup_nil, gEq_int, gEq_str, atI_0, atI_1, atI_2, atI_3, atI_4, atI_5, ixN_40, ixN_41, ixN_42, ixN_43, gMul, Nat.reduceAdd, Nat.reduceSub, Nat.zero_add, Option.isSome_some, true_and, and_true, Option.some.injEq, exists_and_left, exists_eq_left, exists_eq_left', id_eq, ite_true, ite_false, reduceIte, Bool.false_eq_true, decide_eq_true_eq]
        by_cases h1 : (0 : Int) < a
        · rw [decide_eq_true h1]
          refine hT _ ?_
          simp only [sSeq, sNext, sSet, sRet, sRetN, sIf, sAsg, sDrop, sPar, sBrk, sCnt, sFor, sStore, sAugI, sAug, dC, dVar, dTake, qVar, qE, aNil, aCons, dOp, dUn, dCallB, gets, Op.get, put, puts, dat_sh, dat_ow, dat_bw, dat_un, ty0, ty1, ty2, ty3, ty4, ty5, ty6, ty7, ty8, ty9, ty10, ty11, ty12, ty13, ty14, ty15, ty16, ty17, ty18, ty19, ty20, ty21, ty22, ty23, ty24, ty25, ty26, ty27, ty28, ty29, ty30, ty31, ty32, ty33, ty34, ty35, ty36, ty37, ty38, ty39, ty40, ty41, gIsi_non, gIsi_bl, gIsi_int, gIsi_str, gIsi_lst, gIsi_tup, gIsi_dct, gIsC, dMut0, mReverse, mPopAt, gEq_bl, gEq_strs, eq_self, Sl.cn, Sl.with, Cn.dat, Rv.dat, bOf, asB, bTr, gTruth, bAnd, bOr, bNot, dAnd, dOr, dNot, dIf, dChain, vNil, vCons, dTup, dLst, dDisp, psNil, psCons, keyed, D.key, gN, gT, gsNil, gsCons, rNil, rCons, srcE, srcR1, srcR2, srcR3, srcEnum, srcZip, srcC, srcV, itsOf, dLc, bYes, wipeD, agNil, agVal, agBor, mkArgs, bors, giveB, dCall, clean, dMut, slL, mAppend, mInsert, slC, cnSet, gAdd, gSubI, gDiv, gMod, gNeg, gCmpI, gIx, dSl, oNo, oE, gSl, dRev, dJoin, gAbs, gLen, gInt, gIsN, gList, Option.map_some, List.map_cons, List.map_nil, List.getElem?_cons_zero, List.getElem?_cons_succ, List.getElem?_nil, List.set_cons_zero, List.set_cons_succ, List.length_cons, List.length_nil, List.cons_append, List.nil_append, List.take_succ_cons, List.take_zero, List.replicate_succ, List.replicate_zero, gMin2, gMax2, gMax3, nodup1, List.nodup_nil, gEq_int, gEq_str, atI_0, atI_1, atI_2, atI_3, atI_4, atI_5, ixN_40, ixN_41, ixN_42, ixN_43, gMul, Nat.reduceAdd, Nat.reduceSub, Nat.zero_add, Option.isSome_some, true_and, and_true, Option.some.injEq, exists_and_left, exists_eq_left, exists_eq_left', id_eq, ite_true, ite_false, reduceIte, Bool.false_eq_true, decide_eq_true_eq]
          refine ⟨hm, cDiv_of hm (by omega), ?_⟩
          exact h _ _ ⟨_, b, k, cells, rfl, Int.ediv_nonneg ha (by omega), hb, hb2, hk, hc⟩ (Int.emod_nonneg _ (by omega)) (Int.emod_lt_of_pos _ hm)
        · rw [decide_eq_false h1]
          refine hF _ ?_
          simp only [sSeq, sNext, sSet, sRet, sRetN, sIf, sAsg, sDrop, sPar, sBrk, sCnt, sFor, sStore, sAugI, sAug, dC, dVar, dTake, qVar, qE, aNil, aCons, dOp, dUn, dCallB, gets, Op.get, put, puts, dat_sh, dat_ow, dat_bw, dat_un, ty0, ty1, ty2, ty3, ty4, ty5, ty6, ty7, ty8, ty9, ty10, ty11, ty12, ty13, ty14, ty15, ty16, ty17, ty18, ty19, ty20, ty21, ty22, ty23, ty24, ty25, ty26, ty27, ty28, ty29, ty30, ty31, ty32, ty33, ty34, ty35, ty36, ty37, ty38, ty39, ty40, ty41, gIsi_non, gIsi_bl, gIsi_int, gIsi_str, gIsi_lst, gIsi_tup, gIsi_dct, gIsC, dMut0, mReverse, mPopAt, gEq_bl, gEq_strs, eq_self, Sl.cn, Sl.with, Cn.dat, Rv.dat, bOf, asB, bTr, gTruth, bAnd, bOr, bNot, dAnd, dOr, dNot, dIf, dChain, vNil, vCons, dTup, dLst, dDisp, psNil, psCons, keyed, D.key, gN, gT, gsNil, gsCons, rNil, rCons, srcE, srcR1, srcR2, srcR3, srcEnum, srcZip, srcC, srcV, itsOf, dLc, bYes, wipeD, agNil, agVal, agBor, mkArgs, bors, giveB, dCall, clean, dMut, slL, mAppend, mInsert, slC, cnSet, gAdd, gSubI, gDiv, gMod, gNeg, gCmpI, gIx, dSl, oNo, oE, gSl, dRev, dJoin, gAbs, gLen, gInt, gIsN, gList, Option.map_some, List.map_cons, List.map_nil, List.getElem?_cons_zero, List.getElem?_cons_succ, List.getElem?_nil, List.set_cons_zero, List.set_cons_succ, List.length_cons, List.length_nil, List.cons_append, List.nil_append, List.take_succ_cons, List.take_zero, List.replicate_succ, List.replicate_zero, gMin2, gMax2, gMax3, nodup1, List.nodup_nil, gEq_int, gEq_str, atI_0, atI_1, atI_2, atI_3, atI_4, atI_5, ixN_40, ixN_41, ixN_42, ixN_43, gMul, Nat.reduceAdd, Nat.reduceSub, Nat.zero_add, Option.isSome_some, true_and, and_true, Option.some.injEq, exists_and_left, exists_eq_left, exists_eq_left', id_eq, ite_true, ite_false, reduceIte, Bool.false_eq_true, decide_eq_true_eq]
          exact hN _ rfl
      · rintro ρ' rfl
        have hB : Bag n (.l [.int a, .int b, .int k, .lst (cells.map D.int)]) := ⟨a, b, k, cells, rfl, ha, hb, hb2, hk, hc⟩
        refine sSeq_go fun N h2 => ?_
        simp only [sSeq, sNext, sSet, sRet, sRetN, sIf, sAsg, sDrop, sPar, sBrk, sCnt, sFor, sStore, sAugI, sAug, dC, dVar, dTake, qVar, qE, aNil, aCons, dOp, dUn, dCallB, gets, Op.get, put, puts, dat_sh, dat_ow, dat_bw, dat_un, ty0, ty1, ty2, ty3, ty4, ty5, ty6, ty7, ty8, ty9, ty10, ty11, ty12, ty13, ty14, ty15, ty16, ty17, ty18, ty19, ty20, ty21, ty22, ty23, ty24, ty25, ty26, ty27, ty28, ty29, ty30, ty31, ty32, ty33, ty34, ty35, ty36, ty37, ty38, ty39, ty40, ty41, gIsi_non, gIsi_bl, gIsi_int, gIsi_str, gIsi_lst, gIsi_tup, gIsi_dct, gIsC, dMut0, mReverse, mPopAt, gEq_bl, gEq_strs, eq_self, Sl.cn, Sl.with, Cn.dat, Rv.dat, bOf, asB, bTr, gTruth, bAnd, bOr, bNot, dAnd, dOr, dNot, dIf, dChain, vNil, vCons, dTup, dLst, dDisp, psNil, psCons, keyed, D.key, gN, gT, gsNil, gsCons, rNil, rCons, srcE, srcR1, srcR2, srcR3, srcEnum, srcZip, srcC, srcV, itsOf, dLc, bYes, wipeD, agNil, agVal, agBor, mkArgs, bors, giveB, dCall, clean, dMut, slL, mAppend, mInsert, slC, cnSet, gAdd, gSubI, gDiv, gMod, gNeg, gCmpI, gIx, dSl, oNo, oE, gSl, dRev, dJoin, gAbs, gLen, gInt, gIsN, gList, Option.map_some, List.map_cons, List.map_nil, List.getElem?_cons_zero, List.getElem?_cons_succ, List.getElem?_nil, List.set_cons_zero, List.set_cons_succ, List.length_cons, List.length_nil, List.cons_append, List.nil_append, List.take_succ_cons, List.take_zero, List.replicate_succ, List.replicate_zero, gMin2, gMax2, gMax3, nodup1, List.nodup_nil, gEq_int, gEq_str, atI_0, atI_1, atI_2, atI_3, atI_4, atI_5, ixN_40, ixN_41, ixN_42, ixN_43, gMul, Nat.reduceAdd, Nat.reduceSub, Nat.zero_add, Option.isSome_some, true_and, and_true, Option.some.injEq, exists_and_left, exists_eq_left, exists_eq_left', id_eq, ite_true, ite_false, reduceIte, Bool.false_eq_true, decide_eq_true_eq]
        refine ⟨cMul_of (by omega) (by decide), by decide, h2 _ ?_⟩
        have g1 := Int.emod_nonneg ((b + 1) * 39373) (b := 1000000007) (by decide)
        have g2 := Int.emod_lt_of_pos ((b + 1) * 39373) (b := 1000000007) (by decide)
        generalize (b + 1) * 39373 % 1000000007 = z at g1 g2 ⊢
        refine sSeq_go fun N h2 => ?_
        simp only [sSeq, sNext, sSet, sRet, sRetN, sIf, sAsg, sDrop, sPar, sBrk, sCnt, sFor, sStore, sAugI, sAug, dC, dVar, dTake, qVar, qE, aNil, aCons, dOp, dUn, dCallB, gets, Op.get, put, puts, dat_sh, dat_ow, dat_bw, dat_un, ty0, ty1, ty2, ty3, ty4, ty5, ty6, ty7, ty8, ty9, ty10, ty11, ty12, ty13, ty14, ty15, ty16, ty17, ty18, ty19, ty20, ty21, ty22, ty23, ty24, ty25, ty26, ty27, ty28, ty29, ty30, ty31, ty32, ty33, ty34, ty35, ty36, ty37, ty38, ty39, ty40, ty41, gIsi_non, gIsi_bl, gIsi_int, gIsi_str, gIsi_lst, gIsi_tup, gIsi_dct, gIsC, dMut0, mReverse, mPopAt, gEq_bl, gEq_strs, eq_self, Sl.cn, Sl.with, Cn.dat, Rv.dat, bOf, asB, bTr, gTruth, bAnd, bOr, bNot, dAnd, dOr, dNot, dIf, dChain, vNil, vCons, dTup, dLst, dDisp, psNil, psCons, keyed, D.key, gN, gT, gsNil, gsCons, rNil, rCons, srcE, srcR1, srcR2, srcR3, srcEnum, srcZip, srcC, srcV, itsOf, dLc, bYes, wipeD, agNil, agVal, agBor, mkArgs, bors, giveB, dCall, clean, dMut, slL, mAppend, mInsert, slC, cnSet, gAdd, gSubI, gDiv, gMod, gNeg, gCmpI, gIx, dSl, oNo, oE, gSl, dRev, dJoin, gAbs, gLen, gInt, gIsN, gList, Option.map_some, List.map_cons, List.map_nil, List.getElem?_cons_zero, List.getElem?_cons_succ, List.getElem?_nil, List.set_cons_zero, List.set_cons_succ, List.length_cons, List.length_nil, List.cons_append, List.nil_append, List.take_succ_cons, List.take_zero, List.replicate_succ, List.replicate_zero, gMin2, gMax2, gMax3, nodup1, List.nodup_nil, gEq_int, gEq_str, atI_0, atI_1, atI_2, atI_3, atI_4, atI_5, ixN_40, ixN_41, ixN_42, ixN_43, gMul, Nat.reduceAdd, Nat.reduceSub, Nat.zero_add, Option.isSome_some, true_and, and_true, Option.some.injEq, exists_and_left, exists_eq_left, exists_eq_left', id_eq, ite_true, ite_false, reduceIte, Bool.false_eq_true, decide_eq_true_eq]
        have g3 := Int.emod_nonneg (z * z) (b := 998244353) (by decide)
        have g4 := Int.emod_lt_of_pos (z * z) (b := 998244353) (by decide)
        refine ⟨cMul_of (by omega) (by omega), by decide, cMul_of (by omega) (by decide), by decide, h2 _ ?_⟩
        have g5 := Int.emod_nonneg (z * z % 998244353 * 30011) (b := 998244353) (by decide)
        have g6 := Int.emod_lt_of_pos (z * z % 998244353 * 30011) (b := 998244353) (by decide)
        generalize z * z % 998244353 * 30011 % 998244353 = y at g5 g6 ⊢
        refine sSeq_go fun N h2 => ?_
        refine sIf_go fun T hT hF => ?_
        simp only [sSeq, sNext, sSet, sRet, sRetN, sIf, sAsg, sDrop, sPar, sBrk, sCnt, sFor, sStore, sAugI, sAug, dC, dVar, dTake, qVar, qE, aNil, aCons, dOp, dUn, dCallB, gets, Op.get, put, puts, dat_sh, dat_ow, dat_bw, dat_un, ty0, ty1, ty2, ty3, ty4, ty5, ty6, ty7, ty8, ty9, ty10, ty11, ty12, ty13, ty14, ty15, ty16, ty17, ty18, ty19, ty20, ty21, ty22, ty23, ty24, ty25, ty26, ty27, ty28, ty29, ty30, ty31, ty32, ty33, ty34, ty35, ty36, ty37, ty38, ty39, ty40, ty41, gIsi_non, gIsi_bl, gIsi_int, gIsi_str, gIsi_lst, gIsi_tup, gIsi_dct, gIsC, dMut0, mReverse, mPopAt, gEq_bl, gEq_strs, eq_self, Sl.cn, Sl.with, Cn.dat, Rv.dat, bOf, asB, bTr, gTruth, bAnd, bOr, bNot, dAnd, dOr, dNot, dIf, dChain, vNil, vCons, dTup, dLst, dDisp, psNil, psCons, keyed, D.key, gN, gT, gsNil, gsCons, rNil, rCons, srcE, srcR1, srcR2, srcR3, srcEnum, srcZip, srcC, srcV, itsOf, dLc, bYes, wipeD, agNil, agVal, agBor, mkArgs, bors, giveB, dCall, clean, dMut, slL, mAppend, mInsert, slC, cnSet, gAdd, gSubI, gDiv, gMod, gNeg, gCmpI, gIx, dSl, oNo, oE, gSl, dRev, dJoin, gAbs, gLen, gInt, gIsN, gList, Option.map_some, List.map_cons, List.map_nil, List.getElem?_cons_zero, List.getElem?_cons_succ, List.getElem?_nil, List.set_cons_zero, List.set_cons_succ, List.length_cons, List.length_nil, List.cons_append, List.nil_append, List.take_succ_cons, List.take_zero, List.replicate_succ, List.replicate_zero, gMin2, gMax2, gMax3, nodup1, List.nodup_nil, gEq_int, gEq_str, atI_0, atI_1, atI_2, atI_3, atI_4, atI_5, ixN_40, ixN_41, ixN_42, ixN_43, gMul, Nat.reduceAdd, Nat.reduceSub, Nat.zero_add, Option.isSome_some, true_and, and_true, Option.some.injEq, exists_and_left, exists_eq_left, exists_eq_left', id_eq, ite_true, ite_false, reduceIte, Bool.false_eq_true, decide_eq_true_eq]
        by_cases h1 : (1000000 : Int) < m
        · rw [decide_eq_true h1]
          refine hT _ ?_
          simp only [sSeq, sNext, sSet, sRet, sRetN, sIf, sAsg, sDrop, sPar, sBrk, sCnt, sFor, sStore, sAugI, sAug, dC, dVar, dTake, qVar, qE, aNil, aCons, dOp, dUn, dCallB, gets, Op.get, put, puts, dat_sh, dat_ow, dat_bw, dat_un, ty0, ty1, ty2, ty3, ty4, ty5, ty6, ty7, ty8, ty9, ty10, ty11, ty12, ty13, ty14, ty15, ty16, ty17, ty18, ty19, ty20, ty21, ty22, ty23, ty24, ty25, ty26, ty27, ty28, ty29, ty30, ty31, ty32, ty33, ty34, ty35, ty36, ty37, ty38, ty39, ty40, ty41, gIsi_non, gIsi_bl, gIsi_int, gIsi_str, gIsi_lst, gIsi_tup, gIsi_dct, gIsC, dMut0, mReverse, mPopAt, gEq_bl, gEq_strs, eq_self, Sl.cn, Sl.with, Cn.dat, Rv.dat, bOf, asB, bTr, gTruth, bAnd, bOr, bNot, dAnd, dOr, dNot, dIf, dChain, vNil, vCons, dTup, dLst, dDisp, psNil, psCons, keyed, D.key, gN, gT, gsNil, gsCons, rNil, rCons, srcE, srcR1, srcR2, srcR3, srcEnum, srcZip, srcC, srcV, itsOf, dLc, bYes, wipeD, agNil, agVal, agBor, mkArgs, bors, giveB, dCall, clean, dMut, slL, mAppend, mInsert, slC, cnSet, gAdd, gSubI, gDiv, gMod, gNeg, gCmpI, gIx, dSl, oNo, oE, gSl, dRev, dJoin, gAbs, gLen, gInt, gIsN, gList, Option.map_some, List.map_cons, List.map_nil, List.getElem?_cons_zero, List.getElem?_cons_succ, List.getElem?_nil, List.set_cons_zero, List.set_cons_succ, List.length_cons, List.length_nil, List.cons_append, List.nil_append, List.take_succ_cons, List.take_zero, List.replicate_succ, List.replicate_zero, gMin2, gMax2, gMax3, nodup1, List.nodup_nil, gEq_int, gEq_str, atI_0, atI_1, atI_2, atI_3, atI_4, atI_5, ixN_40, ixN_41, ixN_42, ixN_43, gMul, Nat.reduceAdd, Nat.reduceSub, Nat.zero_add, Option.isSome_some, true_and, and_true, Option.some.injEq, exists_and_left, exists_eq_left, exists_eq_left', id_eq, ite_true, ite_false, reduceIte, Bool.false_eq_true, decide_eq_true_eq]
          exact ⟨cMul_of (by omega) (by decide), hm, h _ _ hB (Int.emod_nonneg _ (by omega)) (Int.emod_lt_of_pos _ hm)⟩
        · rw [decide_eq_false h1]
          refine hF _ ?_
          simp only [sSeq, sNext, sSet, sRet, sRetN, sIf, sAsg, sDrop, sPar, sBrk, sCnt, sFor, sStore, sAugI, sAug, dC, dVar, dTake, qVar, qE, aNil, aCons, dOp, dUn, dCallB, gets, Op.get, put, puts, dat_sh, dat_ow, dat_bw, dat_un, ty0, ty1, ty2, ty3, ty4, ty5, ty6, ty7, ty8, ty9, ty10, ty11, ty12, ty13, ty14, ty15, ty16, ty17, ty18, ty19, ty20, ty21, ty22, ty23, ty24, ty25, ty26, ty27, ty28, ty29, ty30, ty31, ty32, ty33, ty34, ty35, ty36, ty37, ty38, ty39, ty40, ty41, gIsi_non, gIsi_bl, gIsi_int, gIsi_str, gIsi_lst, gIsi_tup, gIsi_dct, gIsC, dMut0, mReverse, mPopAt, gEq_bl, gEq_strs, eq_self, Sl.cn, Sl.with, Cn.dat, Rv.dat, bOf, asB, bTr, gTruth, bAnd, bOr, bNot, dAnd, dOr, dNot, dIf, dChain, vNil, vCons, dTup, dLst, dDisp, psNil, psCons, keyed, D.key, gN, gT, gsNil, gsCons, rNil, rCons, srcE, srcR1, srcR2, srcR3, srcEnum, srcZip, srcC, srcV, itsOf, dLc, bYes, wipeD, agNil, agVal, agBor, mkArgs, bors, giveB, dCall, clean, dMut, slL, mAppend, mInsert, slC, cnSet, gAdd, gSubI, gDiv, gMod, gNeg, gCmpI, gIx, dSl, oNo, oE, gSl, dRev, dJoin, gAbs, gLen, gInt, gIsN, gList, Option.map_some, List.map_cons, List.map_nil, List.getElem?_cons_zero, List.getElem?_cons_succ, List.getElem?_nil, List.set_cons_zero, List.set_cons_succ, List.length_cons, List.length_nil, List.cons_append, List.nil_append, List.take_succ_cons, List.take_zero, List.replicate_succ, List.replicate_zero, gMin2, gMax2, gMax3, nodup1, List.nodup_nil, gEq_int, gEq_str, atI_0, atI_1, atI_2, atI_3, atI_4, atI_5, ixN_40, ixN_41, ixN_42, ixN_43, gMul, Nat.reduceAdd, Nat.reduceSub, Nat.zero_add, Option.isSome_some, true_and, and_true, Option.some.injEq, exists_and_left, exists_eq_left, exists_eq_left', id_eq, ite_true, ite_false, reduceIte, Bool.false_eq_true, decide_eq_true_eq]
          refine h2 _ ?_
          simp only [sSeq, sNext, sSet, sRet, sRetN, sIf, sAsg, sDrop, sPar, sBrk, sCnt, sFor, sStore, sAugI, sAug, dC, dVar, dTake, qVar, qE, aNil, aCons, dOp, dUn, dCallB, gets, Op.get, put, puts, dat_sh, dat_ow, dat_bw, dat_un, ty0, ty1, ty2, ty3, ty4, ty5, ty6, ty7, ty8, ty9, ty10, ty11, ty12, ty13, ty14, ty15, ty16, ty17, ty18, ty19, ty20, ty21, ty22, ty23, ty24, ty25, ty26, ty27, ty28, ty29, ty30, ty31, ty32, ty33, ty34, ty35, ty36, ty37, ty38, ty39, ty40, ty41, gIsi_non, gIsi_bl, gIsi_int, gIsi_str, gIsi_lst, gIsi_tup, gIsi_dct, gIsC, dMut0, mReverse, mPopAt, gEq_bl, gEq_strs, eq_self, Sl.cn, Sl.with, Cn.dat, Rv.dat, bOf, asB, bTr, gTruth, bAnd, bOr, bNot, dAnd, dOr, dNot, dIf, dChain, vNil, vCons, dTup, dLst, dDisp, psNil, psCons, keyed, D.key, gN, gT, gsNil, gsCons, rNil, rCons, srcE, srcR1, srcR2, srcR3, srcEnum, srcZip, srcC, srcV, itsOf, dLc, bYes, wipeD, agNil, agVal, agBor, mkArgs, bors, giveB, dCall, clean, dMut, slL, mAppend, mInsert, slC, cnSet, gAdd, gSubI, gDiv, gMod, gNeg, gCmpI, gIx, dSl, oNo, oE, gSl, dRev, dJoin, gAbs, gLen, gInt, gIsN, gList, Option.map_some, List.map_cons, List.map_nil, List.getElem?_cons_zero, List.getElem?_cons_succ, List.getElem?_nil, List.set_cons_zero, List.set_cons_succ, List.length_cons, List.length_nil, List.cons_append, List.nil_append, List.take_succ_cons, List.take_zero, List.replicate_succ, List.replicate_zero, gMin2, gMax2, gMax3, nodup1, List.nodup_nil, gEq_int, gEq_str, atI_0, atI_1, atI_2, atI_3, atI_4, atI_5, ixN_40, ixN_41, ixN_42, ixN_43, gMul, Nat.reduceAdd, Nat.reduceSub, Nat.zero_add, Option.isSome_some, true_and, and_true, Option.some.injEq, exists_and_left, exists_eq_left, exists_eq_left', id_eq, ite_true, ite_false, reduceIte, Bool.false_eq_true, decide_eq_true_eq]
          exact ⟨cDiv_of (by decide) (by decide), hm, h _ _ hB (Int.emod_nonneg _ (by omega)) (Int.emod_lt_of_pos _ hm)⟩
/-- the plan: names, and pairs of names -/
def PairD (p : Str × Str) : D := .tup [.str p.1, .str p.2]
def Plan (names : List Str) (pairs : List (Str × Str)) : List (Key × D) := [(.inr "kinds", .lst (names.map D.str)), (.inr "pairs", .lst (pairs.map PairD))]
theorem pairs_fits : ∀ (n : Nat) (l : List (Str × Str)), 0 < n → D.fits n (l.map PairD) = true
  | n, [], _ => by simp [D.fits]
  | n + 1, p :: r, h => by
    rw [List.map_cons, D.fits, pairs_fits (n + 1) r h, PairD, D.fit, D.fits, D.fits, D.fits, D.fit, D.fit]
    rfl
theorem pair_eqv (p : Str × Str) (x y : Str) : D.eqv (PairD p) (.tup [.str x, .str y]) = decide (p = (x, y)) := by
  rw [PairD, D.eqv, D.eqvs, D.eqvs, D.eqvs, D.eqv, D.eqv, Str.beq_dec, Str.beq_dec]
  obtain ⟨a, b⟩ := p
  simp only [Bool.and_true, Prod.mk.injEq, Bool.decide_and]
theorem pair_any (l : List (Str × Str)) (x y : Str) : ((l.map PairD).any fun z => D.eqv z (.tup [.str x, .str y])) = decide ((x, y) ∈ l) := by
  induction l with
  | nil => simp
  | cons p r ih =>
    rw [List.map_cons, List.any_cons, ih, pair_eqv]
    simp only [List.mem_cons, Bool.decide_or]
    congr 1
    exact decide_eq_decide.mpr eq_comm
theorem gIn_pair (f : Bool → Bool) (l : List (Str × Str)) (x y : Str) (Q : Rv → Prop) (h : Q (.v (.bl (f (decide ((x, y) ∈ l)))))) : gIn f (.tup [.str x, .str y]) (.lst (l.map PairD)) Q := by
  refine ⟨by simp [D.fit, D.fits], pairs_fits 59 l (by decide), ?_⟩
  rw [pair_any]
  exact h
theorem kGet_kinds {names : List Str} {pairs : List (Str × Str)} : kGet (Plan names pairs) (.inr "kinds") = some (.lst (names.map D.str)) := by unfold Plan; rw [kGet_cons, if_pos rfl]
theorem kGet_pairs {names : List Str} {pairs : List (Str × Str)} : kGet (Plan names pairs) (.inr "pairs") = some (.lst (pairs.map PairD)) := by unfold Plan; rw [kGet_cons, if_neg (by decide), kGet_cons, if_pos rfl]
def sp__law_fit : SpD := fun as Q => ∃ (names : List Str) (pairs : List (Str × Str)) (x y : Str), as = [.sh (.dct (Plan names pairs)), .sh (.str x), .sh (.str y)] ∧ Q (.v (.bl (decide ((x, y) ∈ pairs ∨ (y, x) ∈ pairs)))) [.un, .un, .un]
theorem len__law_fit {as : SL} {Q : Rv → SL → Prop} (h : sp__law_fit as Q) : as.length = 3 := by
  obtain ⟨_, _, _, _, rfl, _⟩ := h
  rfl
theorem ok__law_fit {f : Addr} {fd : FuncData} (Fn : Fun K "_law_fit" "_law_fit" s__law_fit f fd)  : FnG P w K mg base CX0 1 f fd ["_law_plan_here", "_law_one", "_law_other"] (lift K sp__law_fit) := by
  have nd := sc__law_fit.nd
  refine fnD Fn sc__law_fit (fun as Q h => ?len) (fun cdv A outer s H hgd hr => ⟨_, _,
    (dss_one (ds_ret (de_or (de_cmp (op_inA (hu65 hr)) sem_in (do_e (de_tup (dv_cons (de_var (pv 1)) (dv_cons (de_var (pv 2)) dv_nil)))) (do_e (de_ix (hu1 hr) (do_var (pv 0)) (do_e de_str))) (by rfl)) (de_one (de_cmp (op_inA (hu65 hr)) sem_in (do_e (de_tup (dv_cons (de_var (pv 2)) (dv_cons (de_var (pv 1)) dv_nil)))) (do_e (de_ix (hu1 hr) (do_var (pv 0)) (do_e de_str))) (by rfl)))))), fun as Q h => ?_⟩)
  case len => exact len__law_fit h
  · obtain ⟨names, pairs, x, y, rfl, h⟩ := h
    simp only [sSeq, sNext, sSet, sRet, sRetN, sIf, sAsg, sDrop, sPar, sBrk, sCnt, sFor, sStore, sAugI, sAug, dC, dVar, dTake, qVar, qE, aNil, aCons, dOp, dUn, dCallB, gets, Op.get, put, puts, dat_sh, dat_ow, dat_bw, dat_un, ty0, ty1, ty2, ty3, ty4, ty5, ty6, ty7, ty8, ty9, ty10, ty11, ty12, ty13, ty14, ty15, ty16, ty17, ty18, ty19, ty20, ty21, ty22, ty23, ty24, ty25, ty26, ty27, ty28, ty29, ty30, ty31, ty32, ty33, ty34, ty35, ty36, ty37, ty38, ty39, ty40, ty41, gIsi_non, gIsi_bl, gIsi_int, gIsi_str, gIsi_lst, gIsi_tup, gIsi_dct, gIsC, dMut0, mReverse, mPopAt, gEq_bl, gEq_strs, eq_self, Sl.cn, Sl.with, Cn.dat, Rv.dat, bOf, asB, bTr, gTruth, bAnd, bOr, bNot, dAnd, dOr, dNot, dIf, dChain, vNil, vCons, dTup, dLst, dDisp, psNil, psCons, keyed, D.key, gN, gT, gsNil, gsCons, rNil, rCons, srcE, srcR1, srcR2, srcR3, srcEnum, srcZip, srcC, srcV, itsOf, dLc, bYes, wipeD, agNil, agVal, agBor, mkArgs, bors, giveB, dCall, clean, dMut, slL, mAppend, mInsert, slC, cnSet, gAdd, gSubI, gDiv, gMod, gNeg, gCmpI, gIx, dSl, oNo, oE, gSl, dRev, dJoin, gAbs, gLen, gInt, gIsN, gList, Option.map_some, List.map_cons, List.map_nil, List.getElem?_cons_zero, List.getElem?_cons_succ, List.getElem?_nil, List.set_cons_zero, List.set_cons_succ, List.length_cons, List.length_nil, List.cons_append, List.nil_append, List.take_succ_cons, List.take_zero, List.replicate_succ, List.replicate_zero, gMin2, gMax2, gMax3, nodup1, List.nodup_nil, gEq_int, gEq_str, atI_0, atI_1, atI_2, atI_3, atI_4, atI_5, ixN_40, ixN_41, ixN_42, ixN_43, gMul, Nat.reduceAdd, Nat.reduceSub, Nat.zero_add, Option.isSome_some, true_and, and_true, Option.some.injEq, exists_and_left, exists_eq_left, exists_eq_left', id_eq, ite_true, ite_false, reduceIte, Bool.false_eq_true, decide_eq_true_eq, kGet_pairs]
    refine ⟨by decide, gIn_pair _ _ _ _ _ ?_⟩
    by_cases h1 : (x, y) ∈ pairs
    · rw [decide_eq_true h1]
      rw [decide_eq_true (.inl h1)] at h
      exact h
    · rw [decide_eq_false h1]
      simp only [sSeq, sNext, sSet, sRet, sRetN, sIf, sAsg, sDrop, sPar, sBrk, sCnt, sFor, sStore, sAugI, sAug, dC, dVar, dTake, qVar, qE, aNil, aCons, dOp, dUn, dCallB, gets, Op.get, put, puts, dat_sh, dat_ow, dat_bw, dat_un, ty0, ty1, ty2, ty3, ty4, ty5, ty6, ty7, ty8, ty9, ty10, ty11, ty12, ty13, ty14, ty15, ty16, ty17, ty18, ty19, ty20, ty21, ty22, ty23, ty24, ty25, ty26, ty27, ty28, ty29, ty30, ty31, ty32, ty33, ty34, ty35, ty36, ty37, ty38, ty39, ty40, ty41, gIsi_non, gIsi_bl, gIsi_int, gIsi_str, gIsi_lst, gIsi_tup, gIsi_dct, gIsC, dMut0, mReverse, mPopAt, gEq_bl, gEq_strs, eq_self, Sl.cn, Sl.with, Cn.dat, Rv.dat, bOf, asB, bTr, gTruth, bAnd, bOr, bNot, dAnd, dOr, dNot, dIf, dChain, vNil, vCons, dTup, dLst, dDisp, psNil, psCons, keyed, D.key, gN, gT, gsNil, gsCons, rNil, rCons, srcE, srcR1, srcR2, srcR3, srcEnum, srcZip, srcC, srcV, itsOf, dLc, bYes, wipeD, agNil, agVal, agBor, mkArgs, bors, giveB, dCall, clean, dMut, slL, mAppend, mInsert, slC, cnSet, gAdd, gSubI, gDiv, gMod, gNeg, gCmpI, gIx, dSl, oNo, oE, gSl, dRev, dJoin, gAbs, gLen, gInt, gIsN, gList, Option.map_some, List.map_cons, List.map_nil, List.getElem?_cons_zero, List.getElem?_cons_succ, List.getElem?_nil, List.set_cons_zero, List.set_cons_succ, List.length_cons, List.length_nil, List.cons_append, List.nil_append, List.take_succ_cons, List.take_zero, List.replicate_succ, List.replicate_zero, gMin2, gMax2, gMax3, nodup1, List.nodup_nil, gEq_int, gEq_str, atI_0, atI_1, atI_2, atI_3, atI_4, atI_5, ixN_40, ixN_41, ixN_42, ixN_43, gMul, Nat.reduceAdd, Nat.reduceSub, Nat.zero_add, Option.isSome_some, true_and, and_true, Option.some.injEq, exists_and_left, exists_eq_left, exists_eq_left', id_eq, ite_true, ite_false, reduceIte, Bool.false_eq_true, decide_eq_true_eq, kGet_pairs]
      refine ⟨by decide, gIn_pair _ _ _ _ _ ?_⟩
      rw [decide_eq_decide.mpr (show ((x, y) ∈ pairs ∨ (y, x) ∈ pairs) ↔ (y, x) ∈ pairs from ⟨fun z => z.resolve_left h1, .inr⟩)] at h
      exact h
def NamesOk (names : List Str) : Prop := 0 < names.length ∧ names.length ≤ 8
/-- none of the line stands in a pair with another of it -/
def Apart (pairs : List (Str × Str)) (l : List Str) : Prop := l.Pairwise fun x y => ¬((y, x) ∈ pairs ∨ (x, y) ∈ pairs)
def sp__law_line : SpD := fun as Q => ∃ (n : Nat) (c : Cn) (names : List Str) (pairs : List (Str × Str)) (m : Int), as = [.bw 0 c, .sh (.dct (Plan names pairs)), .sh (.int m)] ∧ Bag (n + 300) c ∧ 0 ≤ m ∧ m ≤ 200 ∧ NamesOk names ∧
  ∀ (l : List Str) c', Bag n c' → (l.length : Int) ≤ m → (∀ x ∈ l, x ∈ names) → Apart pairs l → Q (.fr (.l (l.map D.str))) [.bw 0 c', .un, .un]
theorem len__law_line {as : SL} {Q : Rv → SL → Prop} (h : sp__law_line as Q) : as.length = 3 := by
  obtain ⟨_, _, _, _, _, rfl, _⟩ := h
  rfl
theorem ok__law_line {f : Addr} {fd : FuncData} (Fn : Fun K "_law_line" "_law_line" s__law_line f fd) (z_range : mg "range" = none) {a__law_take : Addr} {d__law_take : FuncData} (f__law_take : Cal P w K mg base 1 "_law_take" a__law_take d__law_take ["_law_bag_here", "_law_many"] sp__law_take) (z_len : mg "len" = none) (z_any : mg "any" = none) {a__law_fit : Addr} {d__law_fit : FuncData} (f__law_fit : Cal P w K mg base 1 "_law_fit" a__law_fit d__law_fit ["_law_plan_here", "_law_one", "_law_other"] sp__law_fit) : FnG P w K mg base CX0 2 f fd ["_law_bag_here", "_law_plan_here", "_law_most"] (lift K sp__law_line) := by
  have nd := sc__law_line.nd
  refine fnD Fn sc__law_line (fun as Q h => ?len) (fun cdv A outer s H hgd hr => ⟨_, _,
    (dss_cons (ds_set (i := 3) nd rfl (.inl rfl) (de_lst dv_nil))
      (dss_cons (ds_for PassesOwn.never rfl (di_r1 (by rfl) z_range (dv_cons (de_call f__law_take.ok hgd (hr.mono (by decide)) (by rfl) f__law_take.g f__law_take.kp f__law_take.b pass0 (dag_bor (pv 0) (dag_val (de_op op_addA sem_addA (do_var (pv 2)) (do_e de_int)) dag_nil))) dv_nil)) (dg_name (i := 4) nd rfl (.inl rfl))
      (dss_cons (ds_set (i := 5) nd rfl (.inr rfl) (de_ix (hu1 hr) (do_e (de_ix (hu1 hr) (do_var (pv 1)) (do_e de_str))) (do_e (de_call f__law_take.ok hgd (hr.mono (by decide)) (by rfl) f__law_take.g f__law_take.kp f__law_take.b pass0 (dag_bor (pv 0) (dag_val (de_callB call_lenA sem_len (by rfl) z_len (by decide +kernel) (da_cons (do_e (de_ix (hu1 hr) (do_var (pv 1)) (do_e de_str))) da_nil)) dag_nil))))))
      (dss_one (ds_if (dt_not (dt_tr (do_e (de_callB (cr_any rfl) sem_any (by rfl) z_any (by decide +kernel) (da_cons (do_e (de_lcF rfl nd (dic_var (pv 3)) (blkOk_by (own := [("_law_one", 6)]) (N := ["_law_bag_here", "_law_plan_here", "_law_most", "_law_found", "_law_k", "_law_kind", "_law_one"]) (sc := defScope s__law_line) (by decide +kernel)) (fun _ _ _ _ _ => (dg_name (i := 6) nd rfl (.inl rfl))) (fun _ _ _ _ _ => dts_nil) (fun _ _ _ _ _ => (de_call f__law_fit.ok hgd (hr.mono (by decide)) (by rfl) f__law_fit.g f__law_fit.kp f__law_fit.b pass0 (dag_val (de_var (pv 1)) (dag_val (de_var (pv 5)) (dag_val (de_var (pv 6)) dag_nil))))))) da_nil))))) (dss_one (ds_expr (de_append (pv 3) (dv_cons (de_var (pv 5)) dv_nil)))) dss_nil))))
      (dss_one (ds_ret (de_take (pv 3)))))), fun as Q h => ?_⟩)
  case len => exact len__law_line h
  · obtain ⟨n, c, names, pairs, m, rfl, hB, hm0, hm1, hN, h⟩ := h
    simp only [List.length_cons, List.length_nil, Nat.reduceAdd, Nat.reduceSub, List.replicate_succ, List.replicate_zero, List.cons_append, List.nil_append]
    refine sSeq_go fun N0 h0 => ?_
    simp only [sSeq, sNext, sSet, sRet, sRetN, sIf, sAsg, sDrop, sPar, sBrk, sCnt, sFor, sStore, sAugI, sAug, dC, dVar, dTake, qVar, qE, aNil, aCons, dOp, dUn, dCallB, gets, Op.get, put, puts, dat_sh, dat_ow, dat_bw, dat_un, ty0, ty1, ty2, ty3, ty4, ty5, ty6, ty7, ty8, ty9, ty10, ty11, ty12, ty13, ty14, ty15, ty16, ty17, ty18, ty19, ty20, ty21, ty22, ty23, ty24, ty25, ty26, ty27, ty28, ty29, ty30, ty31, ty32, ty33, ty34, ty35, ty36, ty37, ty38, ty39, ty40, ty41, gIsi_non, gIsi_bl, gIsi_int, gIsi_str, gIsi_lst, gIsi_tup, gIsi_dct, gIsC, dMut0, mReverse, mPopAt, gEq_bl, gEq_strs, eq_self, Sl.cn, Sl.with, Cn.dat, Rv.dat, bOf, asB, bTr, gTruth, bAnd, bOr, bNot, dAnd, dOr, dNot, dIf, dChain, vNil, vCons, dTup, dLst, dDisp, psNil, psCons, keyed, D.key, gN, gT, gsNil, gsCons, rNil, rCons, srcE, srcR1, srcR2, srcR3, srcEnum, srcZip, srcC, srcV, itsOf, dLc, bYes, wipeD, agNil, agVal, agBor, mkArgs, bors, giveB, dCall, clean, dMut, slL, mAppend, mInsert, slC, cnSet, gAdd, gSubI, gDiv, gMod, gNeg, gCmpI, gIx, dSl, oNo, oE, gSl, dRev, dJoin, gAbs, gLen, gInt, gIsN, gList, Option.map_some, List.map_cons, List.map_nil, List.getElem?_cons_zero, List.getElem?_cons_succ, List.getElem?_nil, List.set_cons_zero, List.set_cons_succ, List.length_cons, List.length_nil, List.cons_append, List.nil_append, List.take_succ_cons, List.take_zero, List.replicate_succ, List.replicate_zero, gMin2, gMax2, gMax3, nodup1, List.nodup_nil, gEq_int, gEq_str, atI_0, atI_1, atI_2, atI_3, atI_4, atI_5, ixN_40, ixN_41, ixN_42, ixN_43, gMul, Nat.reduceAdd, Nat.reduceSub, Nat.zero_add, Option.isSome_some, true_and, and_true, Option.some.injEq, exists_and_left, exists_eq_left, exists_eq_left', id_eq, ite_true, ite_false, reduceIte, Bool.false_eq_true, decide_eq_true_eq]
    refine ⟨le_size (by decide), h0 _ ?_⟩
    clear h0
    refine sSeq_cut (fun ρ' => ∃ (c' : Cn) (l : List Str) (s4 s5 s6 : Sl), ρ' = [.bw 0 c', .sh (.dct (Plan names pairs)), .sh (.int m), .ow (.l (l.map D.str)), s4, s5, s6] ∧ Bag n c' ∧ (l.length : Int) ≤ m ∧ (∀ x ∈ l, x ∈ names) ∧ Apart pairs l) (fun N hN2 => ?_) ?_
    · simp only [sSeq, sNext, sSet, sRet, sRetN, sIf, sAsg, sDrop, sPar, sBrk, sCnt, sFor, sStore, sAugI, sAug, dC, dVar, dTake, qVar, qE, aNil, aCons, dOp, dUn, dCallB, gets, Op.get, put, puts, dat_sh, dat_ow, dat_bw, dat_un, ty0, ty1, ty2, ty3, ty4, ty5, ty6, ty7, ty8, ty9, ty10, ty11, ty12, ty13, ty14, ty15, ty16, ty17, ty18, ty19, ty20, ty21, ty22, ty23, ty24, ty25, ty26, ty27, ty28, ty29, ty30, ty31, ty32, ty33, ty34, ty35, ty36, ty37, ty38, ty39, ty40, ty41, gIsi_non, gIsi_bl, gIsi_int, gIsi_str, gIsi_lst, gIsi_tup, gIsi_dct, gIsC, dMut0, mReverse, mPopAt, gEq_bl, gEq_strs, eq_self, Sl.cn, Sl.with, Cn.dat, Rv.dat, bOf, asB, bTr, gTruth, bAnd, bOr, bNot, dAnd, dOr, dNot, dIf, dChain, vNil, vCons, dTup, dLst, dDisp, psNil, psCons, keyed, D.key, gN, gT, gsNil, gsCons, rNil, rCons, srcE, srcR1, srcR2, srcR3, srcEnum, srcZip, srcC, srcV, itsOf, dLc, bYes, wipeD, agNil, agVal, agBor, mkArgs, bors, giveB, dCall, clean, dMut, slL, mAppend, mInsert, slC, cnSet, gAdd, gSubI, gDiv, gMod, gNeg, gCmpI, gIx, dSl, oNo, oE, gSl, dRev, dJoin, gAbs, gLen, gInt, gIsN, gList, Option.map_some, List.map_cons, List.map_nil, List.getElem?_cons_zero, List.getElem?_cons_succ, List.getElem?_nil, List.set_cons_zero, List.set_cons_succ, List.length_cons, List.length_nil, List.cons_append, List.nil_append, List.take_succ_cons, List.take_zero, List.replicate_succ, List.replicate_zero, gMin2, gMax2, gMax3, nodup1, List.nodup_nil, gEq_int, gEq_str, atI_0, atI_1, atI_2, atI_3, atI_4, atI_5, ixN_40, ixN_41, ixN_42, ixN_43, gMul, Nat.reduceAdd, Nat.reduceSub, Nat.zero_add, Option.isSome_some, true_and, and_true, Option.some.injEq, exists_and_left, exists_eq_left, exists_eq_left', id_eq, ite_true, ite_false, reduceIte, Bool.false_eq_true, decide_eq_true_eq]
      refine ⟨n + 299, c, m + 1, rfl, hB.le (by omega), by omega, by omega, fun v c' hB' hv0 hv1 => ?_⟩
      simp only [sSeq, sNext, sSet, sRet, sRetN, sIf, sAsg, sDrop, sPar, sBrk, sCnt, sFor, sStore, sAugI, sAug, dC, dVar, dTake, qVar, qE, aNil, aCons, dOp, dUn, dCallB, gets, Op.get, put, puts, dat_sh, dat_ow, dat_bw, dat_un, ty0, ty1, ty2, ty3, ty4, ty5, ty6, ty7, ty8, ty9, ty10, ty11, ty12, ty13, ty14, ty15, ty16, ty17, ty18, ty19, ty20, ty21, ty22, ty23, ty24, ty25, ty26, ty27, ty28, ty29, ty30, ty31, ty32, ty33, ty34, ty35, ty36, ty37, ty38, ty39, ty40, ty41, gIsi_non, gIsi_bl, gIsi_int, gIsi_str, gIsi_lst, gIsi_tup, gIsi_dct, gIsC, dMut0, mReverse, mPopAt, gEq_bl, gEq_strs, eq_self, Sl.cn, Sl.with, Cn.dat, Rv.dat, bOf, asB, bTr, gTruth, bAnd, bOr, bNot, dAnd, dOr, dNot, dIf, dChain, vNil, vCons, dTup, dLst, dDisp, psNil, psCons, keyed, D.key, gN, gT, gsNil, gsCons, rNil, rCons, srcE, srcR1, srcR2, srcR3, srcEnum, srcZip, srcC, srcV, itsOf, dLc, bYes, wipeD, agNil, agVal, agBor, mkArgs, bors, giveB, dCall, clean, dMut, slL, mAppend, mInsert, slC, cnSet, gAdd, gSubI, gDiv, gMod, gNeg, gCmpI, gIx, dSl, oNo, oE, gSl, dRev, dJoin, gAbs, gLen, gInt, gIsN, gList, Option.map_some, List.map_cons, List.map_nil, List.getElem?_cons_zero, List.getElem?_cons_succ, List.getElem?_nil, List.set_cons_zero, List.set_cons_succ, List.length_cons, List.length_nil, List.cons_append, List.nil_append, List.take_succ_cons, List.take_zero, List.replicate_succ, List.replicate_zero, gMin2, gMax2, gMax3, nodup1, List.nodup_nil, gEq_int, gEq_str, atI_0, atI_1, atI_2, atI_3, atI_4, atI_5, ixN_40, ixN_41, ixN_42, ixN_43, gMul, Nat.reduceAdd, Nat.reduceSub, Nat.zero_add, Option.isSome_some, true_and, and_true, Option.some.injEq, exists_and_left, exists_eq_left, exists_eq_left', id_eq, ite_true, ite_false, reduceIte, Bool.false_eq_true, decide_eq_true_eq, big]
      refine ⟨by omega, by omega, forL_rng (fun i ρ => ∃ (c' : Cn) (l : List Str) (s4 s5 s6 : Sl), ρ = [.bw 0 c', .sh (.dct (Plan names pairs)), .sh (.int m), .ow (.l (l.map D.str)), s4, s5, s6] ∧ Bag (n + (299 - i)) c' ∧ l.length ≤ i ∧ (∀ x ∈ l, x ∈ names) ∧ Apart pairs l)
        ⟨c', [], .un, .un, .un, rfl, hB', Nat.le_refl _, by simp, List.Pairwise.nil⟩ ?_ ?_⟩
      · rintro ρ ⟨c', l, s4, s5, s6, rfl, hB, hl, hx, hp⟩
        exact hN2 _ ⟨c', l, s4, s5, s6, rfl, hB.le (by omega), by omega, hx, hp⟩
      · rintro i ρ N3 hi h3 ⟨c2, l, s4, s5, s6, rfl, hB, hl, hx, hp⟩
        simp only [gN, List.set_cons_succ, List.set_cons_zero]
        refine sSeq_go fun N4 h4 => ?_
        simp only [sSeq, sNext, sSet, sRet, sRetN, sIf, sAsg, sDrop, sPar, sBrk, sCnt, sFor, sStore, sAugI, sAug, dC, dVar, dTake, qVar, qE, aNil, aCons, dOp, dUn, dCallB, gets, Op.get, put, puts, dat_sh, dat_ow, dat_bw, dat_un, ty0, ty1, ty2, ty3, ty4, ty5, ty6, ty7, ty8, ty9, ty10, ty11, ty12, ty13, ty14, ty15, ty16, ty17, ty18, ty19, ty20, ty21, ty22, ty23, ty24, ty25, ty26, ty27, ty28, ty29, ty30, ty31, ty32, ty33, ty34, ty35, ty36, ty37, ty38, ty39, ty40, ty41, gIsi_non, gIsi_bl, gIsi_int, gIsi_str, gIsi_lst, gIsi_tup, gIsi_dct, gIsC, dMut0, mReverse, mPopAt, gEq_bl, gEq_strs, eq_self, Sl.cn, Sl.with, Cn.dat, Rv.dat, bOf, asB, bTr, gTruth, bAnd, bOr, bNot, dAnd, dOr, dNot, dIf, dChain, vNil, vCons, dTup, dLst, dDisp, psNil, psCons, keyed, D.key, gN, gT, gsNil, gsCons, rNil, rCons, srcE, srcR1, srcR2, srcR3, srcEnum, srcZip, srcC, srcV, itsOf, dLc, bYes, wipeD, agNil, agVal, agBor, mkArgs, bors, giveB, dCall, clean, dMut, slL, mAppend, mInsert, slC, cnSet, gAdd, gSubI, gDiv, gMod, gNeg, gCmpI, gIx, dSl, oNo, oE, gSl, dRev, dJoin, gAbs, gLen, gInt, gIsN, gList, Option.map_some, List.map_cons, List.map_nil, List.getElem?_cons_zero, List.getElem?_cons_succ, List.getElem?_nil, List.set_cons_zero, List.set_cons_succ, List.length_cons, List.length_nil, List.cons_append, List.nil_append, List.take_succ_cons, List.take_zero, List.replicate_succ, List.replicate_zero, gMin2, gMax2, gMax3, nodup1, List.nodup_nil, gEq_int, gEq_str, atI_0, atI_1, atI_2, atI_3, atI_4, atI_5, ixN_40, ixN_41, ixN_42, ixN_43, gMul, Nat.reduceAdd, Nat.reduceSub, Nat.zero_add, Option.isSome_some, true_and, and_true, Option.some.injEq, exists_and_left, exists_eq_left, exists_eq_left', id_eq, ite_true, ite_false, reduceIte, Bool.false_eq_true, decide_eq_true_eq, kGet_kinds, List.length_map]
        refine ⟨n + (299 - (i + 1)), c2, _, rfl, hB.le (by omega), by have := hN.1; omega, by have := hN.2; omega, fun w c3 hB3 hw0 hw1 => ?_⟩
        simp only [sSeq, sNext, sSet, sRet, sRetN, sIf, sAsg, sDrop, sPar, sBrk, sCnt, sFor, sStore, sAugI, sAug, dC, dVar, dTake, qVar, qE, aNil, aCons, dOp, dUn, dCallB, gets, Op.get, put, puts, dat_sh, dat_ow, dat_bw, dat_un, ty0, ty1, ty2, ty3, ty4, ty5, ty6, ty7, ty8, ty9, ty10, ty11, ty12, ty13, ty14, ty15, ty16, ty17, ty18, ty19, ty20, ty21, ty22, ty23, ty24, ty25, ty26, ty27, ty28, ty29, ty30, ty31, ty32, ty33, ty34, ty35, ty36, ty37, ty38, ty39, ty40, ty41, gIsi_non, gIsi_bl, gIsi_int, gIsi_str, gIsi_lst, gIsi_tup, gIsi_dct, gIsC, dMut0, mReverse, mPopAt, gEq_bl, gEq_strs, eq_self, Sl.cn, Sl.with, Cn.dat, Rv.dat, bOf, asB, bTr, gTruth, bAnd, bOr, bNot, dAnd, dOr, dNot, dIf, dChain, vNil, vCons, dTup, dLst, dDisp, psNil, psCons, keyed, D.key, gN, gT, gsNil, gsCons, rNil, rCons, srcE, srcR1, srcR2, srcR3, srcEnum, srcZip, srcC, srcV, itsOf, dLc, bYes, wipeD, agNil, agVal, agBor, mkArgs, bors, giveB, dCall, clean, dMut, slL, mAppend, mInsert, slC, cnSet, gAdd, gSubI, gDiv, gMod, gNeg, gCmpI, gIx, dSl, oNo, oE, gSl, dRev, dJoin, gAbs, gLen, gInt, gIsN, gList, Option.map_some, List.map_cons, List.map_nil, List.getElem?_cons_zero, List.getElem?_cons_succ, List.getElem?_nil, List.set_cons_zero, List.set_cons_succ, List.length_cons, List.length_nil, List.cons_append, List.nil_append, List.take_succ_cons, List.take_zero, List.replicate_succ, List.replicate_zero, gMin2, gMax2, gMax3, nodup1, List.nodup_nil, gEq_int, gEq_str, atI_0, atI_1, atI_2, atI_3, atI_4, atI_5, ixN_40, ixN_41, ixN_42, ixN_43, gMul, Nat.reduceAdd, Nat.reduceSub, Nat.zero_add, Option.isSome_some, true_and, and_true, Option.some.injEq, exists_and_left, exists_eq_left, exists_eq_left', id_eq, ite_true, ite_false, reduceIte, Bool.false_eq_true, decide_eq_true_eq, kGet_kinds]
        have hwl : w.toNat < names.length := by omega
        refine ⟨_, atI_int (x := D.str names[w.toNat]) hw0 (by rw [List.getElem?_map, List.getElem?_eq_getElem hwl]; rfl), h4 _ ?_⟩
        clear h4
        have hk := List.getElem_mem hwl
        generalize names[w.toNat] = kind at hk ⊢
        refine sIf_go fun T hT hF => ?_
        simp only [sSeq, sNext, sSet, sRet, sRetN, sIf, sAsg, sDrop, sPar, sBrk, sCnt, sFor, sStore, sAugI, sAug, dC, dVar, dTake, qVar, qE, aNil, aCons, dOp, dUn, dCallB, gets, Op.get, put, puts, dat_sh, dat_ow, dat_bw, dat_un, ty0, ty1, ty2, ty3, ty4, ty5, ty6, ty7, ty8, ty9, ty10, ty11, ty12, ty13, ty14, ty15, ty16, ty17, ty18, ty19, ty20, ty21, ty22, ty23, ty24, ty25, ty26, ty27, ty28, ty29, ty30, ty31, ty32, ty33, ty34, ty35, ty36, ty37, ty38, ty39, ty40, ty41, gIsi_non, gIsi_bl, gIsi_int, gIsi_str, gIsi_lst, gIsi_tup, gIsi_dct, gIsC, dMut0, mReverse, mPopAt, gEq_bl, gEq_strs, eq_self, Sl.cn, Sl.with, Cn.dat, Rv.dat, bOf, asB, bTr, gTruth, bAnd, bOr, bNot, dAnd, dOr, dNot, dIf, dChain, vNil, vCons, dTup, dLst, dDisp, psNil, psCons, keyed, D.key, gN, gT, gsNil, gsCons, rNil, rCons, srcE, srcR1, srcR2, srcR3, srcEnum, srcZip, srcC, srcV, itsOf, dLc, bYes, wipeD, agNil, agVal, agBor, mkArgs, bors, giveB, dCall, clean, dMut, slL, mAppend, mInsert, slC, cnSet, gAdd, gSubI, gDiv, gMod, gNeg, gCmpI, gIx, dSl, oNo, oE, gSl, dRev, dJoin, gAbs, gLen, gInt, gIsN, gList, Option.map_some, List.map_cons, List.map_nil, List.getElem?_cons_zero, List.getElem?_cons_succ, List.getElem?_nil, List.set_cons_zero, List.set_cons_succ, List.length_cons, List.length_nil, List.cons_append, List.nil_append, List.take_succ_cons, List.take_zero, List.replicate_succ, List.replicate_zero, gMin2, gMax2, gMax3, nodup1, List.nodup_nil, gEq_int, gEq_str, atI_0, atI_1, atI_2, atI_3, atI_4, atI_5, ixN_40, ixN_41, ixN_42, ixN_43, gMul, Nat.reduceAdd, Nat.reduceSub, Nat.zero_add, Option.isSome_some, true_and, and_true, Option.some.injEq, exists_and_left, exists_eq_left, exists_eq_left', id_eq, ite_true, ite_false, reduceIte, Bool.false_eq_true, decide_eq_true_eq]
        refine lcL_on D.str (fun p r acc ρ => ρ = [.bw 0 c3, .sh (.dct (Plan names pairs)), .sh (.int m), .un, .sh (.int (0 + (i : Int) * 1)), .sh (.str kind), .un] ∧ acc = (p.map fun x => decide ((kind, x) ∈ pairs ∨ (x, kind) ∈ pairs)).map D.bl) ⟨rfl, rfl⟩ ?_ ?_
        · rintro acc ρ ⟨rfl, rfl⟩
          simp only [sSeq, sNext, sSet, sRet, sRetN, sIf, sAsg, sDrop, sPar, sBrk, sCnt, sFor, sStore, sAugI, sAug, dC, dVar, dTake, qVar, qE, aNil, aCons, dOp, dUn, dCallB, gets, Op.get, put, puts, dat_sh, dat_ow, dat_bw, dat_un, ty0, ty1, ty2, ty3, ty4, ty5, ty6, ty7, ty8, ty9, ty10, ty11, ty12, ty13, ty14, ty15, ty16, ty17, ty18, ty19, ty20, ty21, ty22, ty23, ty24, ty25, ty26, ty27, ty28, ty29, ty30, ty31, ty32, ty33, ty34, ty35, ty36, ty37, ty38, ty39, ty40, ty41, gIsi_non, gIsi_bl, gIsi_int, gIsi_str, gIsi_lst, gIsi_tup, gIsi_dct, gIsC, dMut0, mReverse, mPopAt, gEq_bl, gEq_strs, eq_self, Sl.cn, Sl.with, Cn.dat, Rv.dat, bOf, asB, bTr, gTruth, bAnd, bOr, bNot, dAnd, dOr, dNot, dIf, dChain, vNil, vCons, dTup, dLst, dDisp, psNil, psCons, keyed, D.key, gN, gT, gsNil, gsCons, rNil, rCons, srcE, srcR1, srcR2, srcR3, srcEnum, srcZip, srcC, srcV, itsOf, dLc, bYes, wipeD, agNil, agVal, agBor, mkArgs, bors, giveB, dCall, clean, dMut, slL, mAppend, mInsert, slC, cnSet, gAdd, gSubI, gDiv, gMod, gNeg, gCmpI, gIx, dSl, oNo, oE, gSl, dRev, dJoin, gAbs, gLen, gInt, gIsN, gList, Option.map_some, List.map_cons, List.map_nil, List.getElem?_cons_zero, List.getElem?_cons_succ, List.getElem?_nil, List.set_cons_zero, List.set_cons_succ, List.length_cons, List.length_nil, List.cons_append, List.nil_append, List.take_succ_cons, List.take_zero, List.replicate_succ, List.replicate_zero, gMin2, gMax2, gMax3, nodup1, List.nodup_nil, gEq_int, gEq_str, atI_0, atI_1, atI_2, atI_3, atI_4, atI_5, ixN_40, ixN_41, ixN_42, ixN_43, gMul, Nat.reduceAdd, Nat.reduceSub, Nat.zero_add, Option.isSome_some, true_and, and_true, Option.some.injEq, exists_and_left, exists_eq_left, exists_eq_left', id_eq, ite_true, ite_false, reduceIte, Bool.false_eq_true, decide_eq_true_eq, gAny]
          refine ⟨_, rfl, ?_⟩
          cases hb : (List.map (fun x => decide ((kind, x) ∈ pairs ∨ (x, kind) ∈ pairs)) l).any id with
          | true =>
            refine hF _ ?_
            simp only [sNext]
            exact h3 _ ⟨c3, l, _, _, _, rfl, hB3, by omega, hx, hp⟩
          | false =>
            refine hT _ ?_
            simp only [sSeq, sNext, sSet, sRet, sRetN, sIf, sAsg, sDrop, sPar, sBrk, sCnt, sFor, sStore, sAugI, sAug, dC, dVar, dTake, qVar, qE, aNil, aCons, dOp, dUn, dCallB, gets, Op.get, put, puts, dat_sh, dat_ow, dat_bw, dat_un, ty0, ty1, ty2, ty3, ty4, ty5, ty6, ty7, ty8, ty9, ty10, ty11, ty12, ty13, ty14, ty15, ty16, ty17, ty18, ty19, ty20, ty21, ty22, ty23, ty24, ty25, ty26, ty27, ty28, ty29, ty30, ty31, ty32, ty33, ty34, ty35, ty36, ty37, ty38, ty39, ty40, ty41, gIsi_non, gIsi_bl, gIsi_int, gIsi_str, gIsi_lst, gIsi_tup, gIsi_dct, gIsC, dMut0, mReverse, mPopAt, gEq_bl, gEq_strs, eq_self, Sl.cn, Sl.with, Cn.dat, Rv.dat, bOf, asB, bTr, gTruth, bAnd, bOr, bNot, dAnd, dOr, dNot, dIf, dChain, vNil, vCons, dTup, dLst, dDisp, psNil, psCons, keyed, D.key, gN, gT, gsNil, gsCons, rNil, rCons, srcE, srcR1, srcR2, srcR3, srcEnum, srcZip, srcC, srcV, itsOf, dLc, bYes, wipeD, agNil, agVal, agBor, mkArgs, bors, giveB, dCall, clean, dMut, slL, mAppend, mInsert, slC, cnSet, gAdd, gSubI, gDiv, gMod, gNeg, gCmpI, gIx, dSl, oNo, oE, gSl, dRev, dJoin, gAbs, gLen, gInt, gIsN, gList, Option.map_some, List.map_cons, List.map_nil, List.getElem?_cons_zero, List.getElem?_cons_succ, List.getElem?_nil, List.set_cons_zero, List.set_cons_succ, List.length_cons, List.length_nil, List.cons_append, List.nil_append, List.take_succ_cons, List.take_zero, List.replicate_succ, List.replicate_zero, gMin2, gMax2, gMax3, nodup1, List.nodup_nil, gEq_int, gEq_str, atI_0, atI_1, atI_2, atI_3, atI_4, atI_5, ixN_40, ixN_41, ixN_42, ixN_43, gMul, Nat.reduceAdd, Nat.reduceSub, Nat.zero_add, Option.isSome_some, true_and, and_true, Option.some.injEq, exists_and_left, exists_eq_left, exists_eq_left', id_eq, ite_true, ite_false, reduceIte, Bool.false_eq_true, decide_eq_true_eq, List.length_map]
            refine ⟨lt_size (by omega), h3 _ ⟨c3, l ++ [kind], _, _, _, by rw [List.map_append]; rfl, hB3, by rw [List.length_append]; simp; omega, ?_, ?_⟩⟩
            · intro x hx2
              rcases List.mem_append.mp hx2 with z | z
              · exact hx x z
              · rw [List.mem_singleton.mp z]; exact hk
            · refine List.pairwise_append.mpr ⟨hp, List.pairwise_singleton _ _, fun x hx2 y hy => ?_⟩
              rw [List.mem_singleton.mp hy]
              have := List.any_eq_false.mp hb _ (List.mem_map_of_mem hx2)
              simpa using this
        · rintro p x r acc ρ N5 e hN5 ⟨rfl, rfl⟩
          simp only [sSeq, sNext, sSet, sRet, sRetN, sIf, sAsg, sDrop, sPar, sBrk, sCnt, sFor, sStore, sAugI, sAug, dC, dVar, dTake, qVar, qE, aNil, aCons, dOp, dUn, dCallB, gets, Op.get, put, puts, dat_sh, dat_ow, dat_bw, dat_un, ty0, ty1, ty2, ty3, ty4, ty5, ty6, ty7, ty8, ty9, ty10, ty11, ty12, ty13, ty14, ty15, ty16, ty17, ty18, ty19, ty20, ty21, ty22, ty23, ty24, ty25, ty26, ty27, ty28, ty29, ty30, ty31, ty32, ty33, ty34, ty35, ty36, ty37, ty38, ty39, ty40, ty41, gIsi_non, gIsi_bl, gIsi_int, gIsi_str, gIsi_lst, gIsi_tup, gIsi_dct, gIsC, dMut0, mReverse, mPopAt, gEq_bl, gEq_strs, eq_self, Sl.cn, Sl.with, Cn.dat, Rv.dat, bOf, asB, bTr, gTruth, bAnd, bOr, bNot, dAnd, dOr, dNot, dIf, dChain, vNil, vCons, dTup, dLst, dDisp, psNil, psCons, keyed, D.key, gN, gT, gsNil, gsCons, rNil, rCons, srcE, srcR1, srcR2, srcR3, srcEnum, srcZip, srcC, srcV, itsOf, dLc, bYes, wipeD, agNil, agVal, agBor, mkArgs, bors, giveB, dCall, clean, dMut, slL, mAppend, mInsert, slC, cnSet, gAdd, gSubI, gDiv, gMod, gNeg, gCmpI, gIx, dSl, oNo, oE, gSl, dRev, dJoin, gAbs, gLen, gInt, gIsN, gList, Option.map_some, List.map_cons, List.map_nil, List.getElem?_cons_zero, List.getElem?_cons_succ, List.getElem?_nil, List.set_cons_zero, List.set_cons_succ, List.length_cons, List.length_nil, List.cons_append, List.nil_append, List.take_succ_cons, List.take_zero, List.replicate_succ, List.replicate_zero, gMin2, gMax2, gMax3, nodup1, List.nodup_nil, gEq_int, gEq_str, atI_0, atI_1, atI_2, atI_3, atI_4, atI_5, ixN_40, ixN_41, ixN_42, ixN_43, gMul, Nat.reduceAdd, Nat.reduceSub, Nat.zero_add, Option.isSome_some, true_and, and_true, Option.some.injEq, exists_and_left, exists_eq_left, exists_eq_left', id_eq, ite_true, ite_false, reduceIte, Bool.false_eq_true, decide_eq_true_eq]
          refine ⟨names, pairs, kind, x, rfl, ?_⟩
          simp only [sSeq, sNext, sSet, sRet, sRetN, sIf, sAsg, sDrop, sPar, sBrk, sCnt, sFor, sStore, sAugI, sAug, dC, dVar, dTake, qVar, qE, aNil, aCons, dOp, dUn, dCallB, gets, Op.get, put, puts, dat_sh, dat_ow, dat_bw, dat_un, ty0, ty1, ty2, ty3, ty4, ty5, ty6, ty7, ty8, ty9, ty10, ty11, ty12, ty13, ty14, ty15, ty16, ty17, ty18, ty19, ty20, ty21, ty22, ty23, ty24, ty25, ty26, ty27, ty28, ty29, ty30, ty31, ty32, ty33, ty34, ty35, ty36, ty37, ty38, ty39, ty40, ty41, gIsi_non, gIsi_bl, gIsi_int, gIsi_str, gIsi_lst, gIsi_tup, gIsi_dct, gIsC, dMut0, mReverse, mPopAt, gEq_bl, gEq_strs, eq_self, Sl.cn, Sl.with, Cn.dat, Rv.dat, bOf, asB, bTr, gTruth, bAnd, bOr, bNot, dAnd, dOr, dNot, dIf, dChain, vNil, vCons, dTup, dLst, dDisp, psNil, psCons, keyed, D.key, gN, gT, gsNil, gsCons, rNil, rCons, srcE, srcR1, srcR2, srcR3, srcEnum, srcZip, srcC, srcV, itsOf, dLc, bYes, wipeD, agNil, agVal, agBor, mkArgs, bors, giveB, dCall, clean, dMut, slL, mAppend, mInsert, slC, cnSet, gAdd, gSubI, gDiv, gMod, gNeg, gCmpI, gIx, dSl, oNo, oE, gSl, dRev, dJoin, gAbs, gLen, gInt, gIsN, gList, Option.map_some, List.map_cons, List.map_nil, List.getElem?_cons_zero, List.getElem?_cons_succ, List.getElem?_nil, List.set_cons_zero, List.set_cons_succ, List.length_cons, List.length_nil, List.cons_append, List.nil_append, List.take_succ_cons, List.take_zero, List.replicate_succ, List.replicate_zero, gMin2, gMax2, gMax3, nodup1, List.nodup_nil, gEq_int, gEq_str, atI_0, atI_1, atI_2, atI_3, atI_4, atI_5, ixN_40, ixN_41, ixN_42, ixN_43, gMul, Nat.reduceAdd, Nat.reduceSub, Nat.zero_add, Option.isSome_some, true_and, and_true, Option.some.injEq, exists_and_left, exists_eq_left, exists_eq_left', id_eq, ite_true, ite_false, reduceIte, Bool.false_eq_true, decide_eq_true_eq]
          refine ⟨lt_size ?_, hN5 _ _ ⟨rfl, by simp⟩⟩
          have := congrArg List.length e
          rw [List.length_append, List.length_cons] at this
          rw [List.length_map, List.length_map]
          omega
    · rintro ρ' ⟨c', l, s4, s5, s6, rfl, hB', hl, hx, hp⟩
      simp only [sSeq, sNext, sSet, sRet, sRetN, sIf, sAsg, sDrop, sPar, sBrk, sCnt, sFor, sStore, sAugI, sAug, dC, dVar, dTake, qVar, qE, aNil, aCons, dOp, dUn, dCallB, gets, Op.get, put, puts, dat_sh, dat_ow, dat_bw, dat_un, ty0, ty1, ty2, ty3, ty4, ty5, ty6, ty7, ty8, ty9, ty10, ty11, ty12, ty13, ty14, ty15, ty16, ty17, ty18, ty19, ty20, ty21, ty22, ty23, ty24, ty25, ty26, ty27, ty28, ty29, ty30, ty31, ty32, ty33, ty34, ty35, ty36, ty37, ty38, ty39, ty40, ty41, gIsi_non, gIsi_bl, gIsi_int, gIsi_str, gIsi_lst, gIsi_tup, gIsi_dct, gIsC, dMut0, mReverse, mPopAt, gEq_bl, gEq_strs, eq_self, Sl.cn, Sl.with, Cn.dat, Rv.dat, bOf, asB, bTr, gTruth, bAnd, bOr, bNot, dAnd, dOr, dNot, dIf, dChain, vNil, vCons, dTup, dLst, dDisp, psNil, psCons, keyed, D.key, gN, gT, gsNil, gsCons, rNil, rCons, srcE, srcR1, srcR2, srcR3, srcEnum, srcZip, srcC, srcV, itsOf, dLc, bYes, wipeD, agNil, agVal, agBor, mkArgs, bors, giveB, dCall, clean, dMut, slL, mAppend, mInsert, slC, cnSet, gAdd, gSubI, gDiv, gMod, gNeg, gCmpI, gIx, dSl, oNo, oE, gSl, dRev, dJoin, gAbs, gLen, gInt, gIsN, gList, Option.map_some, List.map_cons, List.map_nil, List.getElem?_cons_zero, List.getElem?_cons_succ, List.getElem?_nil, List.set_cons_zero, List.set_cons_succ, List.length_cons, List.length_nil, List.cons_append, List.nil_append, List.take_succ_cons, List.take_zero, List.replicate_succ, List.replicate_zero, gMin2, gMax2, gMax3, nodup1, List.nodup_nil, gEq_int, gEq_str, atI_0, atI_1, atI_2, atI_3, atI_4, atI_5, ixN_40, ixN_41, ixN_42, ixN_43, gMul, Nat.reduceAdd, Nat.reduceSub, Nat.zero_add, Option.isSome_some, true_and, and_true, Option.some.injEq, exists_and_left, exists_eq_left, exists_eq_left', id_eq, ite_true, ite_false, reduceIte, Bool.false_eq_true, decide_eq_true_eq]
      exact h _ _ hB' hl hx hp
/-- a line of names -/
structure Line (names : List Str) (pairs : List (Str × Str)) (m : Int) (l : List Str) : Prop where
  len : (l.length : Int) ≤ m
  mem : ∀ x ∈ l, x ∈ names
  ap : Apart pairs l
theorem Line.perm {names : List Str} {pairs : List (Str × Str)} {m : Int} {l l' : List Str} (h : Line names pairs m l) (e : List.Perm l l') : Line names pairs m l' :=
  ⟨by rw [← e.length_eq]; exact h.len, fun x hx => h.mem x (e.mem_iff.mpr hx), (e.pairwise_iff (fun {x y} q z => q (z.symm))).mp h.ap⟩
theorem Line.sub {names : List Str} {pairs : List (Str × Str)} {m : Int} {l l' : List Str} (h : Line names pairs m l) (e : List.Sublist l' l) : Line names pairs m l' :=
  ⟨by have := e.length_le; have := h.len; omega, fun x hx => h.mem x (e.mem hx), h.ap.sublist e⟩
def sp__law_two_lines : SpD := fun as Q => ∃ (n : Nat) (c : Cn) (names : List Str) (pairs : List (Str × Str)) (m : Int), as = [.bw 0 c, .sh (.dct (Plan names pairs)), .sh (.int m)] ∧ Bag (n + 1000) c ∧ 0 ≤ m ∧ m ≤ 200 ∧ NamesOk names ∧
  ∀ (one other : List Str) c', Bag n c' → Line names pairs m one → Line names pairs m other → Q (.v (.tup [.lst (one.map D.str), .lst (other.map D.str)])) [.bw 0 c', .un, .un]
theorem len__law_two_lines {as : SL} {Q : Rv → SL → Prop} (h : sp__law_two_lines as Q) : as.length = 3 := by
  obtain ⟨_, _, _, _, _, rfl, _⟩ := h
  rfl
theorem ok__law_two_lines {f : Addr} {fd : FuncData} (Fn : Fun K "_law_two_lines" "_law_two_lines" s__law_two_lines f fd) {a__law_line : Addr} {d__law_line : FuncData} (f__law_line : Cal P w K mg base 2 "_law_line" a__law_line d__law_line ["_law_bag_here", "_law_plan_here", "_law_most"] sp__law_line) {a__law_take : Addr} {d__law_take : FuncData} (f__law_take : Cal P w K mg base 1 "_law_take" a__law_take d__law_take ["_law_bag_here", "_law_many"] sp__law_take) (z_len : mg "len" = none) (z_list : mg "list" = none) : FnG P w K mg base CX0 3 f fd ["_law_bag_here", "_law_plan_here", "_law_most"] (lift K sp__law_two_lines) := by
  have nd := sc__law_two_lines.nd
  refine fnD Fn sc__law_two_lines (fun as Q h => ?len) (fun cdv A outer s H hgd hr => ⟨_, _,
    (dss_cons (ds_set (i := 3) nd rfl (.inl rfl) (de_call f__law_line.ok hgd (hr.mono (by decide)) (by rfl) f__law_line.g f__law_line.kp f__law_line.b pass0 (dag_bor (pv 0) (dag_val (de_var (pv 1)) (dag_val (de_var (pv 2)) dag_nil)))))
      (dss_cons (ds_setLcF (i := 4) rfl nd rfl rfl (sw_true rfl rfl rfl (by decide +kernel)) (dic_var (pv 3)) (blkOk_by (own := [("_law_kind", 7)]) (N := ["_law_bag_here", "_law_plan_here", "_law_most", "_law_one", "_law_some", "_law_at", "_law_ways", "_law_kind"]) (sc := defScope s__law_two_lines) (by decide +kernel)) (fun _ _ _ _ _ => (dg_name (i := 7) nd rfl (.inl rfl))) (fun _ _ _ _ _ => (dts_one (dt_cmp op_gt sem_gt (do_e (de_call f__law_take.ok hgd (hr.mono (by decide)) (by rfl) f__law_take.g f__law_take.kp f__law_take.b pass0 (dag_bor (pv 0) (dag_val de_int dag_nil)))) (do_e de_int) (nomark _)))) (fun _ _ _ _ _ => (de_var (pv 7))))
      (dss_cons (ds_set (i := 5) nd rfl (.inl rfl) (de_call f__law_take.ok hgd (hr.mono (by decide)) (by rfl) f__law_take.g f__law_take.kp f__law_take.b pass0 (dag_bor (pv 0) (dag_val (de_op op_addA sem_addA (do_e (de_callB call_lenA sem_len (by rfl) z_len (by decide +kernel) (da_cons (do_var (pv 3)) da_nil))) (do_e de_int)) dag_nil))))
      (dss_cons (ds_set (i := 6) nd rfl (.inl rfl) (de_lst (dv_cons (de_call f__law_line.ok hgd (hr.mono (by decide)) (by rfl) f__law_line.g f__law_line.kp f__law_line.b pass0 (dag_bor (pv 0) (dag_val (de_var (pv 1)) (dag_val (de_var (pv 2)) dag_nil)))) (dv_cons (de_callTy call_list_of sem_list (by rfl) z_list (by decide +kernel) (da_cons (do_var (pv 3)) da_nil)) (dv_cons (de_var (pv 4)) (dv_cons (de_op op_addA sem_addA (do_e (de_slice (do_var (pv 3)) (dop_some (de_var (pv 5))) dop_none)) (do_e (de_slice (do_var (pv 3)) dop_none (dop_some (de_var (pv 5)))))) (dv_cons (de_rev (do_var (pv 4))) dv_nil)))))))
      (dss_one (ds_ret (de_tup (dv_cons (de_var (pv 3)) (dv_cons (de_ix (hu1 hr) (do_var (pv 6)) (do_e (de_call f__law_take.ok hgd (hr.mono (by decide)) (by rfl) f__law_take.g f__law_take.kp f__law_take.b pass0 (dag_bor (pv 0) (dag_val de_int dag_nil))))) dv_nil))))))))), fun as Q h => ?_⟩)
  case len => exact len__law_two_lines h
  · obtain ⟨n, c, names, pairs, m, rfl, hB, hm0, hm1, hN, h⟩ := h
    simp only [List.length_cons, List.length_nil, Nat.reduceAdd, Nat.reduceSub, List.replicate_succ, List.replicate_zero, List.cons_append, List.nil_append]
    refine sSeq_go fun N0 h0 => ?_
    simp only [sSeq, sNext, sSet, sRet, sRetN, sIf, sAsg, sDrop, sPar, sBrk, sCnt, sFor, sStore, sAugI, sAug, dC, dVar, dTake, qVar, qE, aNil, aCons, dOp, dUn, dCallB, gets, Op.get, put, puts, dat_sh, dat_ow, dat_bw, dat_un, ty0, ty1, ty2, ty3, ty4, ty5, ty6, ty7, ty8, ty9, ty10, ty11, ty12, ty13, ty14, ty15, ty16, ty17, ty18, ty19, ty20, ty21, ty22, ty23, ty24, ty25, ty26, ty27, ty28, ty29, ty30, ty31, ty32, ty33, ty34, ty35, ty36, ty37, ty38, ty39, ty40, ty41, gIsi_non, gIsi_bl, gIsi_int, gIsi_str, gIsi_lst, gIsi_tup, gIsi_dct, gIsC, dMut0, mReverse, mPopAt, gEq_bl, gEq_strs, eq_self, Sl.cn, Sl.with, Cn.dat, Rv.dat, bOf, asB, bTr, gTruth, bAnd, bOr, bNot, dAnd, dOr, dNot, dIf, dChain, vNil, vCons, dTup, dLst, dDisp, psNil, psCons, keyed, D.key, gN, gT, gsNil, gsCons, rNil, rCons, srcE, srcR1, srcR2, srcR3, srcEnum, srcZip, srcC, srcV, itsOf, dLc, bYes, wipeD, agNil, agVal, agBor, mkArgs, bors, giveB, dCall, clean, dMut, slL, mAppend, mInsert, slC, cnSet, gAdd, gSubI, gDiv, gMod, gNeg, gCmpI, gIx, dSl, oNo, oE, gSl, dRev, dJoin, gAbs, gLen, gInt, gIsN, gList, Option.map_some, List.map_cons, List.map_nil, List.getElem?_cons_zero, List.getElem?_cons_succ, List.getElem?_nil, List.set_cons_zero, List.set_cons_succ, List.length_cons, List.length_nil, List.cons_append, List.nil_append, List.take_succ_cons, List.take_zero, List.replicate_succ, List.replicate_zero, gMin2, gMax2, gMax3, nodup1, List.nodup_nil, gEq_int, gEq_str, atI_0, atI_1, atI_2, atI_3, atI_4, atI_5, ixN_40, ixN_41, ixN_42, ixN_43, gMul, Nat.reduceAdd, Nat.reduceSub, Nat.zero_add, Option.isSome_some, true_and, and_true, Option.some.injEq, exists_and_left, exists_eq_left, exists_eq_left', id_eq, ite_true, ite_false, reduceIte, Bool.false_eq_true, decide_eq_true_eq]
    refine ⟨n + 700, c, names, pairs, m, rfl, hB.le (by omega), hm0, hm1, hN, fun one c1 hB1 hl1 hx1 hp1 => ?_⟩
    have hL : Line names pairs m one := ⟨hl1, hx1, hp1⟩
    simp only [sSeq, sNext, sSet, sRet, sRetN, sIf, sAsg, sDrop, sPar, sBrk, sCnt, sFor, sStore, sAugI, sAug, dC, dVar, dTake, qVar, qE, aNil, aCons, dOp, dUn, dCallB, gets, Op.get, put, puts, dat_sh, dat_ow, dat_bw, dat_un, ty0, ty1, ty2, ty3, ty4, ty5, ty6, ty7, ty8, ty9, ty10, ty11, ty12, ty13, ty14, ty15, ty16, ty17, ty18, ty19, ty20, ty21, ty22, ty23, ty24, ty25, ty26, ty27, ty28, ty29, ty30, ty31, ty32, ty33, ty34, ty35, ty36, ty37, ty38, ty39, ty40, ty41, gIsi_non, gIsi_bl, gIsi_int, gIsi_str, gIsi_lst, gIsi_tup, gIsi_dct, gIsC, dMut0, mReverse, mPopAt, gEq_bl, gEq_strs, eq_self, Sl.cn, Sl.with, Cn.dat, Rv.dat, bOf, asB, bTr, gTruth, bAnd, bOr, bNot, dAnd, dOr, dNot, dIf, dChain, vNil, vCons, dTup, dLst, dDisp, psNil, psCons, keyed, D.key, gN, gT, gsNil, gsCons, rNil, rCons, srcE, srcR1, srcR2, srcR3, srcEnum, srcZip, srcC, srcV, itsOf, dLc, bYes, wipeD, agNil, agVal, agBor, mkArgs, bors, giveB, dCall, clean, dMut, slL, mAppend, mInsert, slC, cnSet, gAdd, gSubI, gDiv, gMod, gNeg, gCmpI, gIx, dSl, oNo, oE, gSl, dRev, dJoin, gAbs, gLen, gInt, gIsN, gList, Option.map_some, List.map_cons, List.map_nil, List.getElem?_cons_zero, List.getElem?_cons_succ, List.getElem?_nil, List.set_cons_zero, List.set_cons_succ, List.length_cons, List.length_nil, List.cons_append, List.nil_append, List.take_succ_cons, List.take_zero, List.replicate_succ, List.replicate_zero, gMin2, gMax2, gMax3, nodup1, List.nodup_nil, gEq_int, gEq_str, atI_0, atI_1, atI_2, atI_3, atI_4, atI_5, ixN_40, ixN_41, ixN_42, ixN_43, gMul, Nat.reduceAdd, Nat.reduceSub, Nat.zero_add, Option.isSome_some, true_and, and_true, Option.some.injEq, exists_and_left, exists_eq_left, exists_eq_left', id_eq, ite_true, ite_false, reduceIte, Bool.false_eq_true, decide_eq_true_eq]
    refine h0 _ ?_
    clear h0
    refine sSeq_cut (fun ρ' => ∃ (c' : Cn) (l : List Str) (s4 s5 s6 : Sl), ρ' = [.bw 0 c', .sh (.dct (Plan names pairs)), .sh (.int m), .ow (.l (one.map D.str)), .ow (.l (l.map D.str)), .un, .un, .un] ∧ Bag (n + 500) c' ∧ List.Sublist l one) (fun N hN2 => ?_) ?_
    · simp only [sSeq, sNext, sSet, sRet, sRetN, sIf, sAsg, sDrop, sPar, sBrk, sCnt, sFor, sStore, sAugI, sAug, dC, dVar, dTake, qVar, qE, aNil, aCons, dOp, dUn, dCallB, gets, Op.get, put, puts, dat_sh, dat_ow, dat_bw, dat_un, ty0, ty1, ty2, ty3, ty4, ty5, ty6, ty7, ty8, ty9, ty10, ty11, ty12, ty13, ty14, ty15, ty16, ty17, ty18, ty19, ty20, ty21, ty22, ty23, ty24, ty25, ty26, ty27, ty28, ty29, ty30, ty31, ty32, ty33, ty34, ty35, ty36, ty37, ty38, ty39, ty40, ty41, gIsi_non, gIsi_bl, gIsi_int, gIsi_str, gIsi_lst, gIsi_tup, gIsi_dct, gIsC, dMut0, mReverse, mPopAt, gEq_bl, gEq_strs, eq_self, Sl.cn, Sl.with, Cn.dat, Rv.dat, bOf, asB, bTr, gTruth, bAnd, bOr, bNot, dAnd, dOr, dNot, dIf, dChain, vNil, vCons, dTup, dLst, dDisp, psNil, psCons, keyed, D.key, gN, gT, gsNil, gsCons, rNil, rCons, srcE, srcR1, srcR2, srcR3, srcEnum, srcZip, srcC, srcV, itsOf, dLc, bYes, wipeD, agNil, agVal, agBor, mkArgs, bors, giveB, dCall, clean, dMut, slL, mAppend, mInsert, slC, cnSet, gAdd, gSubI, gDiv, gMod, gNeg, gCmpI, gIx, dSl, oNo, oE, gSl, dRev, dJoin, gAbs, gLen, gInt, gIsN, gList, Option.map_some, List.map_cons, List.map_nil, List.getElem?_cons_zero, List.getElem?_cons_succ, List.getElem?_nil, List.set_cons_zero, List.set_cons_succ, List.length_cons, List.length_nil, List.cons_append, List.nil_append, List.take_succ_cons, List.take_zero, List.replicate_succ, List.replicate_zero, gMin2, gMax2, gMax3, nodup1, List.nodup_nil, gEq_int, gEq_str, atI_0, atI_1, atI_2, atI_3, atI_4, atI_5, ixN_40, ixN_41, ixN_42, ixN_43, gMul, Nat.reduceAdd, Nat.reduceSub, Nat.zero_add, Option.isSome_some, true_and, and_true, Option.some.injEq, exists_and_left, exists_eq_left, exists_eq_left', id_eq, ite_true, ite_false, reduceIte, Bool.false_eq_true, decide_eq_true_eq]
      refine lcL_on D.str (fun p r acc ρ => ∃ (c' : Cn) (l : List Str), ρ = [.bw 0 c', .sh (.dct (Plan names pairs)), .sh (.int m), .un, .un, .un, .un, .un] ∧ Bag (n + (700 - p.length)) c' ∧ acc = l.map D.str ∧ List.Sublist l p) ⟨c1, [], rfl, hB1, rfl, List.Sublist.refl _⟩ ?_ ?_
      · rintro acc ρ ⟨c', l, rfl, hB2, rfl, hs⟩
        simp only [sSeq, sNext, sSet, sRet, sRetN, sIf, sAsg, sDrop, sPar, sBrk, sCnt, sFor, sStore, sAugI, sAug, dC, dVar, dTake, qVar, qE, aNil, aCons, dOp, dUn, dCallB, gets, Op.get, put, puts, dat_sh, dat_ow, dat_bw, dat_un, ty0, ty1, ty2, ty3, ty4, ty5, ty6, ty7, ty8, ty9, ty10, ty11, ty12, ty13, ty14, ty15, ty16, ty17, ty18, ty19, ty20, ty21, ty22, ty23, ty24, ty25, ty26, ty27, ty28, ty29, ty30, ty31, ty32, ty33, ty34, ty35, ty36, ty37, ty38, ty39, ty40, ty41, gIsi_non, gIsi_bl, gIsi_int, gIsi_str, gIsi_lst, gIsi_tup, gIsi_dct, gIsC, dMut0, mReverse, mPopAt, gEq_bl, gEq_strs, eq_self, Sl.cn, Sl.with, Cn.dat, Rv.dat, bOf, asB, bTr, gTruth, bAnd, bOr, bNot, dAnd, dOr, dNot, dIf, dChain, vNil, vCons, dTup, dLst, dDisp, psNil, psCons, keyed, D.key, gN, gT, gsNil, gsCons, rNil, rCons, srcE, srcR1, srcR2, srcR3, srcEnum, srcZip, srcC, srcV, itsOf, dLc, bYes, wipeD, agNil, agVal, agBor, mkArgs, bors, giveB, dCall, clean, dMut, slL, mAppend, mInsert, slC, cnSet, gAdd, gSubI, gDiv, gMod, gNeg, gCmpI, gIx, dSl, oNo, oE, gSl, dRev, dJoin, gAbs, gLen, gInt, gIsN, gList, Option.map_some, List.map_cons, List.map_nil, List.getElem?_cons_zero, List.getElem?_cons_succ, List.getElem?_nil, List.set_cons_zero, List.set_cons_succ, List.length_cons, List.length_nil, List.cons_append, List.nil_append, List.take_succ_cons, List.take_zero, List.replicate_succ, List.replicate_zero, gMin2, gMax2, gMax3, nodup1, List.nodup_nil, gEq_int, gEq_str, atI_0, atI_1, atI_2, atI_3, atI_4, atI_5, ixN_40, ixN_41, ixN_42, ixN_43, gMul, Nat.reduceAdd, Nat.reduceSub, Nat.zero_add, Option.isSome_some, true_and, and_true, Option.some.injEq, exists_and_left, exists_eq_left, exists_eq_left', id_eq, ite_true, ite_false, reduceIte, Bool.false_eq_true, decide_eq_true_eq]
        exact hN2 _ ⟨c', l, .un, .un, .un, rfl, hB2.le (by omega), hs⟩
      · rintro p x r acc ρ N3 e hN3 ⟨c', l, rfl, hB2, rfl, hs⟩
        have hlp := congrArg List.length e
        rw [List.length_append, List.length_cons] at hlp
        simp only [sSeq, sNext, sSet, sRet, sRetN, sIf, sAsg, sDrop, sPar, sBrk, sCnt, sFor, sStore, sAugI, sAug, dC, dVar, dTake, qVar, qE, aNil, aCons, dOp, dUn, dCallB, gets, Op.get, put, puts, dat_sh, dat_ow, dat_bw, dat_un, ty0, ty1, ty2, ty3, ty4, ty5, ty6, ty7, ty8, ty9, ty10, ty11, ty12, ty13, ty14, ty15, ty16, ty17, ty18, ty19, ty20, ty21, ty22, ty23, ty24, ty25, ty26, ty27, ty28, ty29, ty30, ty31, ty32, ty33, ty34, ty35, ty36, ty37, ty38, ty39, ty40, ty41, gIsi_non, gIsi_bl, gIsi_int, gIsi_str, gIsi_lst, gIsi_tup, gIsi_dct, gIsC, dMut0, mReverse, mPopAt, gEq_bl, gEq_strs, eq_self, Sl.cn, Sl.with, Cn.dat, Rv.dat, bOf, asB, bTr, gTruth, bAnd, bOr, bNot, dAnd, dOr, dNot, dIf, dChain, vNil, vCons, dTup, dLst, dDisp, psNil, psCons, keyed, D.key, gN, gT, gsNil, gsCons, rNil, rCons, srcE, srcR1, srcR2, srcR3, srcEnum, srcZip, srcC, srcV, itsOf, dLc, bYes, wipeD, agNil, agVal, agBor, mkArgs, bors, giveB, dCall, clean, dMut, slL, mAppend, mInsert, slC, cnSet, gAdd, gSubI, gDiv, gMod, gNeg, gCmpI, gIx, dSl, oNo, oE, gSl, dRev, dJoin, gAbs, gLen, gInt, gIsN, gList, Option.map_some, List.map_cons, List.map_nil, List.getElem?_cons_zero, List.getElem?_cons_succ, List.getElem?_nil, List.set_cons_zero, List.set_cons_succ, List.length_cons, List.length_nil, List.cons_append, List.nil_append, List.take_succ_cons, List.take_zero, List.replicate_succ, List.replicate_zero, gMin2, gMax2, gMax3, nodup1, List.nodup_nil, gEq_int, gEq_str, atI_0, atI_1, atI_2, atI_3, atI_4, atI_5, ixN_40, ixN_41, ixN_42, ixN_43, gMul, Nat.reduceAdd, Nat.reduceSub, Nat.zero_add, Option.isSome_some, true_and, and_true, Option.some.injEq, exists_and_left, exists_eq_left, exists_eq_left', id_eq, ite_true, ite_false, reduceIte, Bool.false_eq_true, decide_eq_true_eq]
        refine ⟨n + (700 - (p.length + 1)), c', 3, rfl, hB2.le (by omega), by decide, by decide, fun v c2 hB3 hv0 hv1 => ?_⟩
        simp only [sSeq, sNext, sSet, sRet, sRetN, sIf, sAsg, sDrop, sPar, sBrk, sCnt, sFor, sStore, sAugI, sAug, dC, dVar, dTake, qVar, qE, aNil, aCons, dOp, dUn, dCallB, gets, Op.get, put, puts, dat_sh, dat_ow, dat_bw, dat_un, ty0, ty1, ty2, ty3, ty4, ty5, ty6, ty7, ty8, ty9, ty10, ty11, ty12, ty13, ty14, ty15, ty16, ty17, ty18, ty19, ty20, ty21, ty22, ty23, ty24, ty25, ty26, ty27, ty28, ty29, ty30, ty31, ty32, ty33, ty34, ty35, ty36, ty37, ty38, ty39, ty40, ty41, gIsi_non, gIsi_bl, gIsi_int, gIsi_str, gIsi_lst, gIsi_tup, gIsi_dct, gIsC, dMut0, mReverse, mPopAt, gEq_bl, gEq_strs, eq_self, Sl.cn, Sl.with, Cn.dat, Rv.dat, bOf, asB, bTr, gTruth, bAnd, bOr, bNot, dAnd, dOr, dNot, dIf, dChain, vNil, vCons, dTup, dLst, dDisp, psNil, psCons, keyed, D.key, gN, gT, gsNil, gsCons, rNil, rCons, srcE, srcR1, srcR2, srcR3, srcEnum, srcZip, srcC, srcV, itsOf, dLc, bYes, wipeD, agNil, agVal, agBor, mkArgs, bors, giveB, dCall, clean, dMut, slL, mAppend, mInsert, slC, cnSet, gAdd, gSubI, gDiv, gMod, gNeg, gCmpI, gIx, dSl, oNo, oE, gSl, dRev, dJoin, gAbs, gLen, gInt, gIsN, gList, Option.map_some, List.map_cons, List.map_nil, List.getElem?_cons_zero, List.getElem?_cons_succ, List.getElem?_nil, List.set_cons_zero, List.set_cons_succ, List.length_cons, List.length_nil, List.cons_append, List.nil_append, List.take_succ_cons, List.take_zero, List.replicate_succ, List.replicate_zero, gMin2, gMax2, gMax3, nodup1, List.nodup_nil, gEq_int, gEq_str, atI_0, atI_1, atI_2, atI_3, atI_4, atI_5, ixN_40, ixN_41, ixN_42, ixN_43, gMul, Nat.reduceAdd, Nat.reduceSub, Nat.zero_add, Option.isSome_some, true_and, and_true, Option.some.injEq, exists_and_left, exists_eq_left, exists_eq_left', id_eq, ite_true, ite_false, reduceIte, Bool.false_eq_true, decide_eq_true_eq]
        by_cases hv : 0 < v
        · rw [if_pos hv]
          refine ⟨lt_size ?_, hN3 _ _ ⟨c2, l ++ [x], rfl, hB3.le (by rw [List.length_append]; simp), by simp, hs.append (List.Sublist.refl _)⟩⟩
          have := hs.length_le
          rw [List.length_map]
          omega
        · rw [if_neg hv]
          exact hN3 _ _ ⟨c2, l, rfl, hB3.le (by rw [List.length_append]; simp), rfl, hs.trans (List.sublist_append_left _ _)⟩
    · rintro ρ' ⟨c2, some1, s4, s5, s6, rfl, hB2, hs⟩
      have hS := hL.sub hs
      refine sSeq_go fun N1 h1 => ?_
      simp only [sSeq, sNext, sSet, sRet, sRetN, sIf, sAsg, sDrop, sPar, sBrk, sCnt, sFor, sStore, sAugI, sAug, dC, dVar, dTake, qVar, qE, aNil, aCons, dOp, dUn, dCallB, gets, Op.get, put, puts, dat_sh, dat_ow, dat_bw, dat_un, ty0, ty1, ty2, ty3, ty4, ty5, ty6, ty7, ty8, ty9, ty10, ty11, ty12, ty13, ty14, ty15, ty16, ty17, ty18, ty19, ty20, ty21, ty22, ty23, ty24, ty25, ty26, ty27, ty28, ty29, ty30, ty31, ty32, ty33, ty34, ty35, ty36, ty37, ty38, ty39, ty40, ty41, gIsi_non, gIsi_bl, gIsi_int, gIsi_str, gIsi_lst, gIsi_tup, gIsi_dct, gIsC, dMut0, mReverse, mPopAt, gEq_bl, gEq_strs, eq_self, Sl.cn, Sl.with, Cn.dat, Rv.dat, bOf, asB, bTr, gTruth, bAnd, bOr, bNot, dAnd, dOr, dNot, dIf, dChain, vNil, vCons, dTup, dLst, dDisp, psNil, psCons, keyed, D.key, gN, gT, gsNil, gsCons, rNil, rCons, srcE, srcR1, srcR2, srcR3, srcEnum, srcZip, srcC, srcV, itsOf, dLc, bYes, wipeD, agNil, agVal, agBor, mkArgs, bors, giveB, dCall, clean, dMut, slL, mAppend, mInsert, slC, cnSet, gAdd, gSubI, gDiv, gMod, gNeg, gCmpI, gIx, dSl, oNo, oE, gSl, dRev, dJoin, gAbs, gLen, gInt, gIsN, gList, Option.map_some, List.map_cons, List.map_nil, List.getElem?_cons_zero, List.getElem?_cons_succ, List.getElem?_nil, List.set_cons_zero, List.set_cons_succ, List.length_cons, List.length_nil, List.cons_append, List.nil_append, List.take_succ_cons, List.take_zero, List.replicate_succ, List.replicate_zero, gMin2, gMax2, gMax3, nodup1, List.nodup_nil, gEq_int, gEq_str, atI_0, atI_1, atI_2, atI_3, atI_4, atI_5, ixN_40, ixN_41, ixN_42, ixN_43, gMul, Nat.reduceAdd, Nat.reduceSub, Nat.zero_add, Option.isSome_some, true_and, and_true, Option.some.injEq, exists_and_left, exists_eq_left, exists_eq_left', id_eq, ite_true, ite_false, reduceIte, Bool.false_eq_true, decide_eq_true_eq, List.length_map]
      refine ⟨n + 450, c2, (one.length : Int) + 1, rfl, hB2.le (by omega), by omega, by omega, fun v c3 hB3 hv0 hv1 => ?_⟩
      simp only [sSeq, sNext, sSet, sRet, sRetN, sIf, sAsg, sDrop, sPar, sBrk, sCnt, sFor, sStore, sAugI, sAug, dC, dVar, dTake, qVar, qE, aNil, aCons, dOp, dUn, dCallB, gets, Op.get, put, puts, dat_sh, dat_ow, dat_bw, dat_un, ty0, ty1, ty2, ty3, ty4, ty5, ty6, ty7, ty8, ty9, ty10, ty11, ty12, ty13, ty14, ty15, ty16, ty17, ty18, ty19, ty20, ty21, ty22, ty23, ty24, ty25, ty26, ty27, ty28, ty29, ty30, ty31, ty32, ty33, ty34, ty35, ty36, ty37, ty38, ty39, ty40, ty41, gIsi_non, gIsi_bl, gIsi_int, gIsi_str, gIsi_lst, gIsi_tup, gIsi_dct, gIsC, dMut0, mReverse, mPopAt, gEq_bl, gEq_strs, eq_self, Sl.cn, Sl.with, Cn.dat, Rv.dat, bOf, asB, bTr, gTruth, bAnd, bOr, bNot, dAnd, dOr, dNot, dIf, dChain, vNil, vCons, dTup, dLst, dDisp, psNil, psCons, keyed, D.key, gN, gT, gsNil, gsCons, rNil, rCons, srcE, srcR1, srcR2, srcR3, srcEnum, srcZip, srcC, srcV, itsOf, dLc, bYes, wipeD, agNil, agVal, agBor, mkArgs, bors, giveB, dCall, clean, dMut, slL, mAppend, mInsert, slC, cnSet, gAdd, gSubI, gDiv, gMod, gNeg, gCmpI, gIx, dSl, oNo, oE, gSl, dRev, dJoin, gAbs, gLen, gInt, gIsN, gList, Option.map_some, List.map_cons, List.map_nil, List.getElem?_cons_zero, List.getElem?_cons_succ, List.getElem?_nil, List.set_cons_zero, List.set_cons_succ, List.length_cons, List.length_nil, List.cons_append, List.nil_append, List.take_succ_cons, List.take_zero, List.replicate_succ, List.replicate_zero, gMin2, gMax2, gMax3, nodup1, List.nodup_nil, gEq_int, gEq_str, atI_0, atI_1, atI_2, atI_3, atI_4, atI_5, ixN_40, ixN_41, ixN_42, ixN_43, gMul, Nat.reduceAdd, Nat.reduceSub, Nat.zero_add, Option.isSome_some, true_and, and_true, Option.some.injEq, exists_and_left, exists_eq_left, exists_eq_left', id_eq, ite_true, ite_false, reduceIte, Bool.false_eq_true, decide_eq_true_eq]
      refine h1 _ ?_
      clear h1
      refine sSeq_go fun N1 h1 => ?_
      simp only [sSeq, sNext, sSet, sRet, sRetN, sIf, sAsg, sDrop, sPar, sBrk, sCnt, sFor, sStore, sAugI, sAug, dC, dVar, dTake, qVar, qE, aNil, aCons, dOp, dUn, dCallB, gets, Op.get, put, puts, dat_sh, dat_ow, dat_bw, dat_un, ty0, ty1, ty2, ty3, ty4, ty5, ty6, ty7, ty8, ty9, ty10, ty11, ty12, ty13, ty14, ty15, ty16, ty17, ty18, ty19, ty20, ty21, ty22, ty23, ty24, ty25, ty26, ty27, ty28, ty29, ty30, ty31, ty32, ty33, ty34, ty35, ty36, ty37, ty38, ty39, ty40, ty41, gIsi_non, gIsi_bl, gIsi_int, gIsi_str, gIsi_lst, gIsi_tup, gIsi_dct, gIsC, dMut0, mReverse, mPopAt, gEq_bl, gEq_strs, eq_self, Sl.cn, Sl.with, Cn.dat, Rv.dat, bOf, asB, bTr, gTruth, bAnd, bOr, bNot, dAnd, dOr, dNot, dIf, dChain, vNil, vCons, dTup, dLst, dDisp, psNil, psCons, keyed, D.key, gN, gT, gsNil, gsCons, rNil, rCons, srcE, srcR1, srcR2, srcR3, srcEnum, srcZip, srcC, srcV, itsOf, dLc, bYes, wipeD, agNil, agVal, agBor, mkArgs, bors, giveB, dCall, clean, dMut, slL, mAppend, mInsert, slC, cnSet, gAdd, gSubI, gDiv, gMod, gNeg, gCmpI, gIx, dSl, oNo, oE, gSl, dRev, dJoin, gAbs, gLen, gInt, gIsN, gList, Option.map_some, List.map_cons, List.map_nil, List.getElem?_cons_zero, List.getElem?_cons_succ, List.getElem?_nil, List.set_cons_zero, List.set_cons_succ, List.length_cons, List.length_nil, List.cons_append, List.nil_append, List.take_succ_cons, List.take_zero, List.replicate_succ, List.replicate_zero, gMin2, gMax2, gMax3, nodup1, List.nodup_nil, gEq_int, gEq_str, atI_0, atI_1, atI_2, atI_3, atI_4, atI_5, ixN_40, ixN_41, ixN_42, ixN_43, gMul, Nat.reduceAdd, Nat.reduceSub, Nat.zero_add, Option.isSome_some, true_and, and_true, Option.some.injEq, exists_and_left, exists_eq_left, exists_eq_left', id_eq, ite_true, ite_false, reduceIte, Bool.false_eq_true, decide_eq_true_eq]
      refine ⟨n + 100, c3, names, pairs, m, rfl, hB3.le (by omega), hm0, hm1, hN, fun l2 c4 hB4 hl4 hx4 hp4 => ?_⟩
      simp only [sSeq, sNext, sSet, sRet, sRetN, sIf, sAsg, sDrop, sPar, sBrk, sCnt, sFor, sStore, sAugI, sAug, dC, dVar, dTake, qVar, qE, aNil, aCons, dOp, dUn, dCallB, gets, Op.get, put, puts, dat_sh, dat_ow, dat_bw, dat_un, ty0, ty1, ty2, ty3, ty4, ty5, ty6, ty7, ty8, ty9, ty10, ty11, ty12, ty13, ty14, ty15, ty16, ty17, ty18, ty19, ty20, ty21, ty22, ty23, ty24, ty25, ty26, ty27, ty28, ty29, ty30, ty31, ty32, ty33, ty34, ty35, ty36, ty37, ty38, ty39, ty40, ty41, gIsi_non, gIsi_bl, gIsi_int, gIsi_str, gIsi_lst, gIsi_tup, gIsi_dct, gIsC, dMut0, mReverse, mPopAt, gEq_bl, gEq_strs, eq_self, Sl.cn, Sl.with, Cn.dat, Rv.dat, bOf, asB, bTr, gTruth, bAnd, bOr, bNot, dAnd, dOr, dNot, dIf, dChain, vNil, vCons, dTup, dLst, dDisp, psNil, psCons, keyed, D.key, gN, gT, gsNil, gsCons, rNil, rCons, srcE, srcR1, srcR2, srcR3, srcEnum, srcZip, srcC, srcV, itsOf, dLc, bYes, wipeD, agNil, agVal, agBor, mkArgs, bors, giveB, dCall, clean, dMut, slL, mAppend, mInsert, slC, cnSet, gAdd, gSubI, gDiv, gMod, gNeg, gCmpI, gIx, dSl, oNo, oE, gSl, dRev, dJoin, gAbs, gLen, gInt, gIsN, gList, Option.map_some, List.map_cons, List.map_nil, List.getElem?_cons_zero, List.getElem?_cons_succ, List.getElem?_nil, List.set_cons_zero, List.set_cons_succ, List.length_cons, List.length_nil, List.cons_append, List.nil_append, List.take_succ_cons, List.take_zero, List.replicate_succ, List.replicate_zero, gMin2, gMax2, gMax3, nodup1, List.nodup_nil, gEq_int, gEq_str, atI_0, atI_1, atI_2, atI_3, atI_4, atI_5, ixN_40, ixN_41, ixN_42, ixN_43, gMul, Nat.reduceAdd, Nat.reduceSub, Nat.zero_add, Option.isSome_some, true_and, and_true, Option.some.injEq, exists_and_left, exists_eq_left, exists_eq_left', id_eq, ite_true, ite_false, reduceIte, Bool.false_eq_true, decide_eq_true_eq, List.length_map]
      obtain ⟨k, rfl⟩ := Int.eq_ofNat_of_zero_le hv0
      rw [cut_from, cut_to]
      refine ⟨?_, le_size (by decide), h1 _ ?_⟩
      · rw [List.length_drop, List.length_take, List.length_map]
        exact le_size (by omega)
      clear h1
      simp only [sSeq, sNext, sSet, sRet, sRetN, sIf, sAsg, sDrop, sPar, sBrk, sCnt, sFor, sStore, sAugI, sAug, dC, dVar, dTake, qVar, qE, aNil, aCons, dOp, dUn, dCallB, gets, Op.get, put, puts, dat_sh, dat_ow, dat_bw, dat_un, ty0, ty1, ty2, ty3, ty4, ty5, ty6, ty7, ty8, ty9, ty10, ty11, ty12, ty13, ty14, ty15, ty16, ty17, ty18, ty19, ty20, ty21, ty22, ty23, ty24, ty25, ty26, ty27, ty28, ty29, ty30, ty31, ty32, ty33, ty34, ty35, ty36, ty37, ty38, ty39, ty40, ty41, gIsi_non, gIsi_bl, gIsi_int, gIsi_str, gIsi_lst, gIsi_tup, gIsi_dct, gIsC, dMut0, mReverse, mPopAt, gEq_bl, gEq_strs, eq_self, Sl.cn, Sl.with, Cn.dat, Rv.dat, bOf, asB, bTr, gTruth, bAnd, bOr, bNot, dAnd, dOr, dNot, dIf, dChain, vNil, vCons, dTup, dLst, dDisp, psNil, psCons, keyed, D.key, gN, gT, gsNil, gsCons, rNil, rCons, srcE, srcR1, srcR2, srcR3, srcEnum, srcZip, srcC, srcV, itsOf, dLc, bYes, wipeD, agNil, agVal, agBor, mkArgs, bors, giveB, dCall, clean, dMut, slL, mAppend, mInsert, slC, cnSet, gAdd, gSubI, gDiv, gMod, gNeg, gCmpI, gIx, dSl, oNo, oE, gSl, dRev, dJoin, gAbs, gLen, gInt, gIsN, gList, Option.map_some, List.map_cons, List.map_nil, List.getElem?_cons_zero, List.getElem?_cons_succ, List.getElem?_nil, List.set_cons_zero, List.set_cons_succ, List.length_cons, List.length_nil, List.cons_append, List.nil_append, List.take_succ_cons, List.take_zero, List.replicate_succ, List.replicate_zero, gMin2, gMax2, gMax3, nodup1, List.nodup_nil, gEq_int, gEq_str, atI_0, atI_1, atI_2, atI_3, atI_4, atI_5, ixN_40, ixN_41, ixN_42, ixN_43, gMul, Nat.reduceAdd, Nat.reduceSub, Nat.zero_add, Option.isSome_some, true_and, and_true, Option.some.injEq, exists_and_left, exists_eq_left, exists_eq_left', id_eq, ite_true, ite_false, reduceIte, Bool.false_eq_true, decide_eq_true_eq]
      refine ⟨n, c4, 5, rfl, hB4.le (by omega), by decide, by decide, fun w c5 hB5 hw0 hw1 => ?_⟩
      simp only [sSeq, sNext, sSet, sRet, sRetN, sIf, sAsg, sDrop, sPar, sBrk, sCnt, sFor, sStore, sAugI, sAug, dC, dVar, dTake, qVar, qE, aNil, aCons, dOp, dUn, dCallB, gets, Op.get, put, puts, dat_sh, dat_ow, dat_bw, dat_un, ty0, ty1, ty2, ty3, ty4, ty5, ty6, ty7, ty8, ty9, ty10, ty11, ty12, ty13, ty14, ty15, ty16, ty17, ty18, ty19, ty20, ty21, ty22, ty23, ty24, ty25, ty26, ty27, ty28, ty29, ty30, ty31, ty32, ty33, ty34, ty35, ty36, ty37, ty38, ty39, ty40, ty41, gIsi_non, gIsi_bl, gIsi_int, gIsi_str, gIsi_lst, gIsi_tup, gIsi_dct, gIsC, dMut0, mReverse, mPopAt, gEq_bl, gEq_strs, eq_self, Sl.cn, Sl.with, Cn.dat, Rv.dat, bOf, asB, bTr, gTruth, bAnd, bOr, bNot, dAnd, dOr, dNot, dIf, dChain, vNil, vCons, dTup, dLst, dDisp, psNil, psCons, keyed, D.key, gN, gT, gsNil, gsCons, rNil, rCons, srcE, srcR1, srcR2, srcR3, srcEnum, srcZip, srcC, srcV, itsOf, dLc, bYes, wipeD, agNil, agVal, agBor, mkArgs, bors, giveB, dCall, clean, dMut, slL, mAppend, mInsert, slC, cnSet, gAdd, gSubI, gDiv, gMod, gNeg, gCmpI, gIx, dSl, oNo, oE, gSl, dRev, dJoin, gAbs, gLen, gInt, gIsN, gList, Option.map_some, List.map_cons, List.map_nil, List.getElem?_cons_zero, List.getElem?_cons_succ, List.getElem?_nil, List.set_cons_zero, List.set_cons_succ, List.length_cons, List.length_nil, List.cons_append, List.nil_append, List.take_succ_cons, List.take_zero, List.replicate_succ, List.replicate_zero, gMin2, gMax2, gMax3, nodup1, List.nodup_nil, gEq_int, gEq_str, atI_0, atI_1, atI_2, atI_3, atI_4, atI_5, ixN_40, ixN_41, ixN_42, ixN_43, gMul, Nat.reduceAdd, Nat.reduceSub, Nat.zero_add, Option.isSome_some, true_and, and_true, Option.some.injEq, exists_and_left, exists_eq_left, exists_eq_left', id_eq, ite_true, ite_false, reduceIte, Bool.false_eq_true, decide_eq_true_eq]
      have fin : ∀ other : List Str, Line names pairs m other → (2 ≤ sizeLine ∧ Q (.v (.tup [.lst (one.map D.str), .lst (other.map D.str)])) [.bw 0 c5, .un, .un]) := fun other ho => ⟨le_size (by decide), h _ _ _ hB5 hL ho⟩
      have hw : w = 0 ∨ w = 1 ∨ w = 2 ∨ w = 3 ∨ w = 4 := by omega
      rcases hw with rfl | rfl | rfl | rfl | rfl
      · exact ⟨_, atI_0, fin l2 ⟨hl4, hx4, hp4⟩⟩
      · exact ⟨_, atI_1, fin one hL⟩
      · exact ⟨_, atI_2, fin some1 hS⟩
      · refine ⟨_, atI_3, ?_⟩
        have := fin (one.drop k ++ one.take k) (hL.perm (by
          have := List.perm_append_comm (l₁ := one.take k) (l₂ := one.drop k)
          rwa [List.take_append_drop] at this))
        simpa only [List.map_append, List.map_drop, List.map_take] using this
      · refine ⟨_, atI_4, ?_⟩
        have := fin some1.reverse (hS.perm (List.reverse_perm _).symm)
        simpa only [List.map_reverse] using this
def LL : Str := "abcdefghijklmnopqrstuvwxyz"
def WW : List Str := ["come", "go", "late", "cut", "back", "line", "more", "alike"]
theorem LL_at {i : Int} (h0 : 0 ≤ i) (h1 : i < 26) : ∃ c, atI LL.cps.toList i = some c := by
  have hl : LL.cps.toList.length = 26 := by decide +kernel
  refine ⟨LL.cps.toList[i.toNat]'(by omega), atI_int h0 (List.getElem?_eq_getElem _)⟩
theorem LL_len : LL.length ≤ sizeLine := by rw [sizeLine_eq]; decide +kernel
theorem len_one (c : Nat) : (⟨#[c]⟩ : Str).length = 1 := rfl
theorem len_reps (x : Str) (n : Nat) : (Str.reps x n).length = n * x.length := by
  unfold Str.reps Str.length
  simp
theorem len_append (x y : Str) : (x ++ y).length = x.length + y.length := by
  have := congrArg List.length (Str.append_list x y)
  rw [List.length_append] at this
  simpa [Str.length] using this
theorem len_cutS (x : Str) (lo hi : Option Int) : (cutS x lo hi).length ≤ x.length := by
  unfold cutS Str.length
  simp
  omega
theorem len_cutS_to (x : Str) (k : Nat) : (cutS x none (some (k : Int))).length = min k x.length := by
  unfold cutS
  rw [HT.sIx_none, HT.sIx_nat]
  unfold Str.length
  simp
theorem len_cutS_from (x : Str) (k : Nat) : (cutS x (some (k : Int)) none).length = x.length - k := by
  unfold cutS
  rw [HT.sIx_none, HT.sIx_nat]
  unfold Str.length
  simp
  omega
theorem fold_size (a : List Str) : ∀ b : Array Nat, (a.foldl (fun acc p => acc ++ (Str.ofString "").cps ++ p.cps) b).size = b.size + (a.map (·.length)).sum := by
  induction a with
  | nil => intro b; simp
  | cons x r ih =>
    intro b
    rw [List.foldl_cons, ih, List.map_cons, List.sum_cons]
    have : (Str.ofString "").cps.size = 0 := by decide +kernel
    simp only [Array.size_append, this, Str.length]
    omega
theorem len_join (l : List Str) : (Txt.join "" l).length = (l.map (·.length)).sum := by
  cases l with
  | nil => rfl
  | cons x r =>
    show (r.foldl (fun acc p => acc ++ (Str.ofString "").cps ++ p.cps) x.cps).size = _
    rw [fold_size, List.map_cons, List.sum_cons]
    rfl
/-- m short names -/
def Named (m : Int) (l : List Str) : Prop := (l.length : Int) = m ∧ ∀ x ∈ l, x.length ≤ 8
def sp__law_names : SpD := fun as Q => ∃ (n : Nat) (c : Cn) (m : Int), as = [.bw 0 c, .sh (.int m)] ∧ Bag (n + 20) c ∧ 0 < m ∧ m ≤ 8 ∧ ∀ (l : List Str) c', Bag n c' → Named m l → Q (.fr (.l (l.map D.str))) [.bw 0 c', .un]
theorem len__law_names {as : SL} {Q : Rv → SL → Prop} (h : sp__law_names as Q) : as.length = 2 := by
  obtain ⟨_, _, _, rfl, _⟩ := h
  rfl
theorem named_cut {m : Int} (l : List Str) (hl : l.length = 8) (h8 : ∀ x ∈ l, x.length ≤ 8) (h0 : 0 < m) (h1 : m ≤ 8) : Named m (cut l none (some m)) := by
  obtain ⟨k, rfl⟩ := Int.eq_ofNat_of_zero_le (Int.le_of_lt h0)
  rw [cut_to]
  exact ⟨by rw [List.length_take]; omega, fun x hx => h8 x (List.mem_of_mem_take hx)⟩
theorem WW_rot {k : Int} (h0 : 0 ≤ k) (h1 : k < 8) : (cut WW (some k) none ++ cut WW none (some k)).length = 8 ∧ ∀ x ∈ cut WW (some k) none ++ cut WW none (some k), x.length ≤ 8 := by
  refine ⟨?_, fun x hx => ?_⟩
  · obtain ⟨k, rfl⟩ := Int.eq_ofNat_of_zero_le h0
    rw [cut_from, cut_to, List.length_append, List.length_drop, List.length_take]
    have : WW.length = 8 := rfl
    omega
  · have : x ∈ WW := by
      rcases List.mem_append.mp hx with z | z
      · exact cut_mem z
      · exact cut_mem z
    have h : ∀ x ∈ WW, x.length ≤ 8 := by decide +kernel
    exact h x this
theorem ok__law_names {f : Addr} {fd : FuncData} (Fn : Fun K "_law_names" "_law_names" s__law_names f fd) {a__law_take : Addr} {d__law_take : FuncData} (f__law_take : Cal P w K mg base 1 "_law_take" a__law_take d__law_take ["_law_bag_here", "_law_many"] sp__law_take) (z_range : mg "range" = none) (z_len : mg "len" = none) : FnG P w K mg base CX0 2 f fd ["_law_bag_here", "_law_many"] (lift K sp__law_names) := by
  have nd := sc__law_names.nd
  refine fnD Fn sc__law_names (fun as Q h => ?len) (fun cdv A outer s H hgd hr => ⟨_, _,
    (dss_cons (ds_set (i := 2) nd rfl (.inr rfl) de_str)
      (dss_cons (ds_parT rfl (nm_cons (i := 3) nd rfl (.inl rfl) (nm_cons (i := 4) nd rfl (.inr rfl) nm_nil)) (dr_cons (de_call f__law_take.ok hgd (hr.mono (by decide)) (by rfl) f__law_take.g f__law_take.kp f__law_take.b pass0 (dag_bor (pv 0) (dag_val de_int dag_nil))) (dr_cons (de_call f__law_take.ok hgd (hr.mono (by decide)) (by rfl) f__law_take.g f__law_take.kp f__law_take.b pass0 (dag_bor (pv 0) (dag_val de_int dag_nil))) dr_nil)))
      (dss_cons (ds_if (dt_cmp (op_eqA (hu64 hr)) sem_eq (do_var (pv 3)) (do_e de_int) (nomark _)) (dss_cons (ds_set (i := 5) nd rfl (.inl rfl) (de_lst (dv_cons de_str (dv_cons de_str (dv_cons de_str (dv_cons de_str (dv_cons de_str (dv_cons de_str (dv_cons de_str (dv_cons de_str dv_nil))))))))))
      (dss_one (ds_ret (de_slice (do_e (de_op op_addA sem_addA (do_e (de_slice (do_var (pv 5)) (dop_some (de_op op_mod sem_mod (do_var (pv 4)) (do_e de_int))) dop_none)) (do_e (de_slice (do_var (pv 5)) dop_none (dop_some (de_op op_mod sem_mod (do_var (pv 4)) (do_e de_int))))))) dop_none (dop_some (de_var (pv 1))))))) dss_nil)
      (dss_cons (ds_if (dt_cmp (op_eqA (hu64 hr)) sem_eq (do_var (pv 3)) (do_e de_int) (nomark _)) (dss_one (ds_ret (de_lcF rfl nd (dic_of (di_r1 (by rfl) z_range (dv_cons (de_var (pv 1)) dv_nil))) (blkOk_by (own := [("_law_k", 8)]) (N := ["_law_bag_here", "_law_many", "_law_letters", "_law_way", "_law_turn", "_law_words", "_law_base", "_law_at", "_law_k"]) (sc := defScope s__law_names) (by decide +kernel)) (fun _ _ _ _ _ => (dg_name (i := 8) nd rfl (.inl rfl))) (fun _ _ _ _ _ => dts_nil) (fun _ _ _ _ _ => (de_ix (hu1 hr) (do_var (pv 2)) (do_e (de_op op_mod sem_mod (do_e (de_op op_addA sem_addA (do_var (pv 4)) (do_e (de_op op_mulA sem_mulA (do_e de_int) (do_var (pv 8)))))) (do_e de_int)))))))) dss_nil)
      (dss_cons (ds_if (dt_cmp (op_eqA (hu64 hr)) sem_eq (do_var (pv 3)) (do_e de_int) (nomark _)) (dss_one (ds_ret (de_lcF rfl nd (dic_of (di_r1 (by rfl) z_range (dv_cons (de_var (pv 1)) dv_nil))) (blkOk_by (own := [("_law_k", 8)]) (N := ["_law_bag_here", "_law_many", "_law_letters", "_law_way", "_law_turn", "_law_words", "_law_base", "_law_at", "_law_k"]) (sc := defScope s__law_names) (by decide +kernel)) (fun _ _ _ _ _ => (dg_name (i := 8) nd rfl (.inl rfl))) (fun _ _ _ _ _ => dts_nil) (fun _ _ _ _ _ => (de_op op_mulA sem_mulA (do_e (de_ix (hu1 hr) (do_var (pv 2)) (do_var (pv 4)))) (do_e (de_op op_addA sem_addA (do_var (pv 8)) (do_e de_int)))))))) dss_nil)
      (dss_cons (ds_set (i := 6) nd rfl (.inr rfl) (de_join (do_e (de_lcF rfl nd (dic_of (di_r1 (by rfl) z_range (dv_cons (de_op op_addA sem_addA (do_e de_int) (do_e (de_call f__law_take.ok hgd (hr.mono (by decide)) (by rfl) f__law_take.g f__law_take.kp f__law_take.b pass0 (dag_bor (pv 0) (dag_val de_int dag_nil))))) dv_nil))) (blkOk_by (own := [("_law_k", 8)]) (N := ["_law_bag_here", "_law_many", "_law_letters", "_law_way", "_law_turn", "_law_words", "_law_base", "_law_at", "_law_k"]) (sc := defScope s__law_names) (by decide +kernel)) (fun _ _ _ _ _ => (dg_name (i := 8) nd rfl (.inl rfl))) (fun _ _ _ _ _ => dts_nil) (fun _ _ _ _ _ => (de_ix (hu1 hr) (do_var (pv 2)) (do_e (de_call f__law_take.ok hgd (hr.mono (by decide)) (by rfl) f__law_take.g f__law_take.kp f__law_take.b pass0 (dag_bor (pv 0) (dag_val de_int dag_nil))))))))))
      (dss_cons (ds_set (i := 7) nd rfl (.inr rfl) (de_call f__law_take.ok hgd (hr.mono (by decide)) (by rfl) f__law_take.g f__law_take.kp f__law_take.b pass0 (dag_bor (pv 0) (dag_val (de_callB call_lenA sem_len (by rfl) z_len (by decide +kernel) (da_cons (do_var (pv 6)) da_nil)) dag_nil))))
      (dss_one (ds_ret (de_lcF rfl nd (dic_of (di_r1 (by rfl) z_range (dv_cons (de_var (pv 1)) dv_nil))) (blkOk_by (own := [("_law_k", 8)]) (N := ["_law_bag_here", "_law_many", "_law_letters", "_law_way", "_law_turn", "_law_words", "_law_base", "_law_at", "_law_k"]) (sc := defScope s__law_names) (by decide +kernel)) (fun _ _ _ _ _ => (dg_name (i := 8) nd rfl (.inl rfl))) (fun _ _ _ _ _ => dts_nil) (fun _ _ _ _ _ => (de_op op_addA sem_addA (do_e (de_op op_addA sem_addA (do_e (de_slice (do_var (pv 6)) dop_none (dop_some (de_var (pv 7))))) (do_e (de_ix (hu1 hr) (do_var (pv 2)) (do_e (de_op op_mod sem_mod (do_e (de_op op_addA sem_addA (do_var (pv 4)) (do_e (de_op op_mulA sem_mulA (do_e de_int) (do_var (pv 8)))))) (do_e de_int))))))) (do_e (de_slice (do_var (pv 6)) (dop_some (de_op op_addA sem_addA (do_var (pv 7)) (do_e de_int))) dop_none)))))))))))))), fun as Q h => ?_⟩)
  case len => exact len__law_names h
  · obtain ⟨n, c, m, rfl, hB, hm0, hm1, h⟩ := h
    simp only [List.length_cons, List.length_nil, Nat.reduceAdd, Nat.reduceSub, List.replicate_succ, List.replicate_zero, List.cons_append, List.nil_append]
    refine sSeq_go fun N0 h0 => ?_
    simp only [sSeq, sNext, sSet, sRet, sRetN, sIf, sAsg, sDrop, sPar, sBrk, sCnt, sFor, sStore, sAugI, sAug, dC, dVar, dTake, qVar, qE, aNil, aCons, dOp, dUn, dCallB, gets, Op.get, put, puts, dat_sh, dat_ow, dat_bw, dat_un, ty0, ty1, ty2, ty3, ty4, ty5, ty6, ty7, ty8, ty9, ty10, ty11, ty12, ty13, ty14, ty15, ty16, ty17, ty18, ty19, ty20, ty21, ty22, ty23, ty24, ty25, ty26, ty27, ty28, ty29, ty30, ty31, ty32, ty33, ty34, ty35, ty36, ty37, ty38, ty39, ty40, ty41, gIsi_non, gIsi_bl, gIsi_int, gIsi_str, gIsi_lst, gIsi_tup, gIsi_dct, gIsC, dMut0, mReverse, mPopAt, gEq_bl, gEq_strs, eq_self, Sl.cn, Sl.with, Cn.dat, Rv.dat, bOf, asB, bTr, gTruth, bAnd, bOr, bNot, dAnd, dOr, dNot, dIf, dChain, vNil, vCons, dTup, dLst, dDisp, psNil, psCons, keyed, D.key, gN, gT, gsNil, gsCons, rNil, rCons, srcE, srcR1, srcR2, srcR3, srcEnum, srcZip, srcC, srcV, itsOf, dLc, bYes, wipeD, agNil, agVal, agBor, mkArgs, bors, giveB, dCall, clean, dMut, slL, mAppend, mInsert, slC, cnSet, gAdd, gSubI, gDiv, gMod, gNeg, gCmpI, gIx, dSl, oNo, oE, gSl, dRev, dJoin, gAbs, gLen, gInt, gIsN, gList, Option.map_some, List.map_cons, List.map_nil, List.getElem?_cons_zero, List.getElem?_cons_succ, List.getElem?_nil, List.set_cons_zero, List.set_cons_succ, List.length_cons, List.length_nil, List.cons_append, List.nil_append, List.take_succ_cons, List.take_zero, List.replicate_succ, List.replicate_zero, gMin2, gMax2, gMax3, nodup1, List.nodup_nil, gEq_int, gEq_str, atI_0, atI_1, atI_2, atI_3, atI_4, atI_5, ixN_40, ixN_41, ixN_42, ixN_43, gMul, Nat.reduceAdd, Nat.reduceSub, Nat.zero_add, Option.isSome_some, true_and, and_true, Option.some.injEq, exists_and_left, exists_eq_left, exists_eq_left', id_eq, ite_true, ite_false, reduceIte, Bool.false_eq_true, decide_eq_true_eq]
    refine h0 _ ?_
    clear h0
    refine sSeq_go fun N0 h0 => ?_
    simp only [sSeq, sNext, sSet, sRet, sRetN, sIf, sAsg, sDrop, sPar, sBrk, sCnt, sFor, sStore, sAugI, sAug, dC, dVar, dTake, qVar, qE, aNil, aCons, dOp, dUn, dCallB, gets, Op.get, put, puts, dat_sh, dat_ow, dat_bw, dat_un, ty0, ty1, ty2, ty3, ty4, ty5, ty6, ty7, ty8, ty9, ty10, ty11, ty12, ty13, ty14, ty15, ty16, ty17, ty18, ty19, ty20, ty21, ty22, ty23, ty24, ty25, ty26, ty27, ty28, ty29, ty30, ty31, ty32, ty33, ty34, ty35, ty36, ty37, ty38, ty39, ty40, ty41, gIsi_non, gIsi_bl, gIsi_int, gIsi_str, gIsi_lst, gIsi_tup, gIsi_dct, gIsC, dMut0, mReverse, mPopAt, gEq_bl, gEq_strs, eq_self, Sl.cn, Sl.with, Cn.dat, Rv.dat, bOf, asB, bTr, gTruth, bAnd, bOr, bNot, dAnd, dOr, dNot, dIf, dChain, vNil, vCons, dTup, dLst, dDisp, psNil, psCons, keyed, D.key, gN, gT, gsNil, gsCons, rNil, rCons, srcE, srcR1, srcR2, srcR3, srcEnum, srcZip, srcC, srcV, itsOf, dLc, bYes, wipeD, agNil, agVal, agBor, mkArgs, bors, giveB, dCall, clean, dMut, slL, mAppend, mInsert, slC, cnSet, gAdd, gSubI, gDiv, gMod, gNeg, gCmpI, gIx, dSl, oNo, oE, gSl, dRev, dJoin, gAbs, gLen, gInt, gIsN, gList, Option.map_some, List.map_cons, List.map_nil, List.getElem?_cons_zero, List.getElem?_cons_succ, List.getElem?_nil, List.set_cons_zero, List.set_cons_succ, List.length_cons, List.length_nil, List.cons_append, List.nil_append, List.take_succ_cons, List.take_zero, List.replicate_succ, List.replicate_zero, gMin2, gMax2, gMax3, nodup1, List.nodup_nil, gEq_int, gEq_str, atI_0, atI_1, atI_2, atI_3, atI_4, atI_5, ixN_40, ixN_41, ixN_42, ixN_43, gMul, Nat.reduceAdd, Nat.reduceSub, Nat.zero_add, Option.isSome_some, true_and, and_true, Option.some.injEq, exists_and_left, exists_eq_left, exists_eq_left', id_eq, ite_true, ite_false, reduceIte, Bool.false_eq_true, decide_eq_true_eq]
    refine ⟨n + 19, c, 5, rfl, hB.le (by omega), by decide, by decide, fun w c1 hB1 hw0 hw1 => ?_⟩
    simp only [sSeq, sNext, sSet, sRet, sRetN, sIf, sAsg, sDrop, sPar, sBrk, sCnt, sFor, sStore, sAugI, sAug, dC, dVar, dTake, qVar, qE, aNil, aCons, dOp, dUn, dCallB, gets, Op.get, put, puts, dat_sh, dat_ow, dat_bw, dat_un, ty0, ty1, ty2, ty3, ty4, ty5, ty6, ty7, ty8, ty9, ty10, ty11, ty12, ty13, ty14, ty15, ty16, ty17, ty18, ty19, ty20, ty21, ty22, ty23, ty24, ty25, ty26, ty27, ty28, ty29, ty30, ty31, ty32, ty33, ty34, ty35, ty36, ty37, ty38, ty39, ty40, ty41, gIsi_non, gIsi_bl, gIsi_int, gIsi_str, gIsi_lst, gIsi_tup, gIsi_dct, gIsC, dMut0, mReverse, mPopAt, gEq_bl, gEq_strs, eq_self, Sl.cn, Sl.with, Cn.dat, Rv.dat, bOf, asB, bTr, gTruth, bAnd, bOr, bNot, dAnd, dOr, dNot, dIf, dChain, vNil, vCons, dTup, dLst, dDisp, psNil, psCons, keyed, D.key, gN, gT, gsNil, gsCons, rNil, rCons, srcE, srcR1, srcR2, srcR3, srcEnum, srcZip, srcC, srcV, itsOf, dLc, bYes, wipeD, agNil, agVal, agBor, mkArgs, bors, giveB, dCall, clean, dMut, slL, mAppend, mInsert, slC, cnSet, gAdd, gSubI, gDiv, gMod, gNeg, gCmpI, gIx, dSl, oNo, oE, gSl, dRev, dJoin, gAbs, gLen, gInt, gIsN, gList, Option.map_some, List.map_cons, List.map_nil, List.getElem?_cons_zero, List.getElem?_cons_succ, List.getElem?_nil, List.set_cons_zero, List.set_cons_succ, List.length_cons, List.length_nil, List.cons_append, List.nil_append, List.take_succ_cons, List.take_zero, List.replicate_succ, List.replicate_zero, gMin2, gMax2, gMax3, nodup1, List.nodup_nil, gEq_int, gEq_str, atI_0, atI_1, atI_2, atI_3, atI_4, atI_5, ixN_40, ixN_41, ixN_42, ixN_43, gMul, Nat.reduceAdd, Nat.reduceSub, Nat.zero_add, Option.isSome_some, true_and, and_true, Option.some.injEq, exists_and_left, exists_eq_left, exists_eq_left', id_eq, ite_true, ite_false, reduceIte, Bool.false_eq_true, decide_eq_true_eq]
    refine ⟨n + 18, c1, 26, rfl, hB1.le (by omega), by decide, by decide, fun t c2 hB2 ht0 ht1 => ?_⟩
    simp only [sSeq, sNext, sSet, sRet, sRetN, sIf, sAsg, sDrop, sPar, sBrk, sCnt, sFor, sStore, sAugI, sAug, dC, dVar, dTake, qVar, qE, aNil, aCons, dOp, dUn, dCallB, gets, Op.get, put, puts, dat_sh, dat_ow, dat_bw, dat_un, ty0, ty1, ty2, ty3, ty4, ty5, ty6, ty7, ty8, ty9, ty10, ty11, ty12, ty13, ty14, ty15, ty16, ty17, ty18, ty19, ty20, ty21, ty22, ty23, ty24, ty25, ty26, ty27, ty28, ty29, ty30, ty31, ty32, ty33, ty34, ty35, ty36, ty37, ty38, ty39, ty40, ty41, gIsi_non, gIsi_bl, gIsi_int, gIsi_str, gIsi_lst, gIsi_tup, gIsi_dct, gIsC, dMut0, mReverse, mPopAt, gEq_bl, gEq_strs, eq_self, Sl.cn, Sl.with, Cn.dat, Rv.dat, bOf, asB, bTr, gTruth, bAnd, bOr, bNot, dAnd, dOr, dNot, dIf, dChain, vNil, vCons, dTup, dLst, dDisp, psNil, psCons, keyed, D.key, gN, gT, gsNil, gsCons, rNil, rCons, srcE, srcR1, srcR2, srcR3, srcEnum, srcZip, srcC, srcV, itsOf, dLc, bYes, wipeD, agNil, agVal, agBor, mkArgs, bors, giveB, dCall, clean, dMut, slL, mAppend, mInsert, slC, cnSet, gAdd, gSubI, gDiv, gMod, gNeg, gCmpI, gIx, dSl, oNo, oE, gSl, dRev, dJoin, gAbs, gLen, gInt, gIsN, gList, Option.map_some, List.map_cons, List.map_nil, List.getElem?_cons_zero, List.getElem?_cons_succ, List.getElem?_nil, List.set_cons_zero, List.set_cons_succ, List.length_cons, List.length_nil, List.cons_append, List.nil_append, List.take_succ_cons, List.take_zero, List.replicate_succ, List.replicate_zero, gMin2, gMax2, gMax3, nodup1, List.nodup_nil, gEq_int, gEq_str, atI_0, atI_1, atI_2, atI_3, atI_4, atI_5, ixN_40, ixN_41, ixN_42, ixN_43, gMul, Nat.reduceAdd, Nat.reduceSub, Nat.zero_add, Option.isSome_some, true_and, and_true, Option.some.injEq, exists_and_left, exists_eq_left, exists_eq_left', id_eq, ite_true, ite_false, reduceIte, Bool.false_eq_true, decide_eq_true_eq]
    refine h0 _ ?_
    clear h0
    refine sSeq_go fun N1 h1 => ?_
    refine sIf_go fun T hT hF => ?_
    simp only [sSeq, sNext, sSet, sRet, sRetN, sIf, sAsg, sDrop, sPar, sBrk, sCnt, sFor, sStore, sAugI, sAug, dC, dVar, dTake, qVar, qE, aNil, aCons, dOp, dUn, dCallB, gets, Op.get, put, puts, dat_sh, dat_ow, dat_bw, dat_un, ty0, ty1, ty2, ty3, ty4, ty5, ty6, ty7, ty8, ty9, ty10, ty11, ty12, ty13, ty14, ty15, ty16, ty17, ty18, ty19, ty20, ty21, ty22, ty23, ty24, ty25, ty26, ty27, ty28, ty29, ty30, ty31, ty32, ty33, ty34, ty35, ty36, ty37, ty38, ty39, ty40, ty41, gIsi_non, gIsi_bl, gIsi_int, gIsi_str, gIsi_lst, gIsi_tup, gIsi_dct, gIsC, dMut0, mReverse, mPopAt, gEq_bl, gEq_strs, eq_self, Sl.cn, Sl.with, Cn.dat, Rv.dat, bOf, asB, bTr, gTruth, bAnd, bOr, bNot, dAnd, dOr, dNot, dIf, dChain, vNil, vCons, dTup, dLst, dDisp, psNil, psCons, keyed, D.key, gN, gT, gsNil, gsCons, rNil, rCons, srcE, srcR1, srcR2, srcR3, srcEnum, srcZip, srcC, srcV, itsOf, dLc, bYes, wipeD, agNil, agVal, agBor, mkArgs, bors, giveB, dCall, clean, dMut, slL, mAppend, mInsert, slC, cnSet, gAdd, gSubI, gDiv, gMod, gNeg, gCmpI, gIx, dSl, oNo, oE, gSl, dRev, dJoin, gAbs, gLen, gInt, gIsN, gList, Option.map_some, List.map_cons, List.map_nil, List.getElem?_cons_zero, List.getElem?_cons_succ, List.getElem?_nil, List.set_cons_zero, List.set_cons_succ, List.length_cons, List.length_nil, List.cons_append, List.nil_append, List.take_succ_cons, List.take_zero, List.replicate_succ, List.replicate_zero, gMin2, gMax2, gMax3, nodup1, List.nodup_nil, gEq_int, gEq_str, atI_0, atI_1, atI_2, atI_3, atI_4, atI_5, ixN_40, ixN_41, ixN_42, ixN_43, gMul, Nat.reduceAdd, Nat.reduceSub, Nat.zero_add, Option.isSome_some, true_and, and_true, Option.some.injEq, exists_and_left, exists_eq_left, exists_eq_left', id_eq, ite_true, ite_false, reduceIte, Bool.false_eq_true, decide_eq_true_eq]
    by_cases hw : w = 0
    · rw [decide_eq_true hw]
      refine hT _ ?_
      clear hT hF h1
      refine sSeq_go fun N2 h2 => ?_
      simp only [sSeq, sNext, sSet, sRet, sRetN, sIf, sAsg, sDrop, sPar, sBrk, sCnt, sFor, sStore, sAugI, sAug, dC, dVar, dTake, qVar, qE, aNil, aCons, dOp, dUn, dCallB, gets, Op.get, put, puts, dat_sh, dat_ow, dat_bw, dat_un, ty0, ty1, ty2, ty3, ty4, ty5, ty6, ty7, ty8, ty9, ty10, ty11, ty12, ty13, ty14, ty15, ty16, ty17, ty18, ty19, ty20, ty21, ty22, ty23, ty24, ty25, ty26, ty27, ty28, ty29, ty30, ty31, ty32, ty33, ty34, ty35, ty36, ty37, ty38, ty39, ty40, ty41, gIsi_non, gIsi_bl, gIsi_int, gIsi_str, gIsi_lst, gIsi_tup, gIsi_dct, gIsC, dMut0, mReverse, mPopAt, gEq_bl, gEq_strs, eq_self, Sl.cn, Sl.with, Cn.dat, Rv.dat, bOf, asB, bTr, gTruth, bAnd, bOr, bNot, dAnd, dOr, dNot, dIf, dChain, vNil, vCons, dTup, dLst, dDisp, psNil, psCons, keyed, D.key, gN, gT, gsNil, gsCons, rNil, rCons, srcE, srcR1, srcR2, srcR3, srcEnum, srcZip, srcC, srcV, itsOf, dLc, bYes, wipeD, agNil, agVal, agBor, mkArgs, bors, giveB, dCall, clean, dMut, slL, mAppend, mInsert, slC, cnSet, gAdd, gSubI, gDiv, gMod, gNeg, gCmpI, gIx, dSl, oNo, oE, gSl, dRev, dJoin, gAbs, gLen, gInt, gIsN, gList, Option.map_some, List.map_cons, List.map_nil, List.getElem?_cons_zero, List.getElem?_cons_succ, List.getElem?_nil, List.set_cons_zero, List.set_cons_succ, List.length_cons, List.length_nil, List.cons_append, List.nil_append, List.take_succ_cons, List.take_zero, List.replicate_succ, List.replicate_zero, gMin2, gMax2, gMax3, nodup1, List.nodup_nil, gEq_int, gEq_str, atI_0, atI_1, atI_2, atI_3, atI_4, atI_5, ixN_40, ixN_41, ixN_42, ixN_43, gMul, Nat.reduceAdd, Nat.reduceSub, Nat.zero_add, Option.isSome_some, true_and, and_true, Option.some.injEq, exists_and_left, exists_eq_left, exists_eq_left', id_eq, ite_true, ite_false, reduceIte, Bool.false_eq_true, decide_eq_true_eq]
      refine ⟨le_size (by decide), h2 _ ?_⟩
      clear h2
      have hr0 := Int.emod_nonneg t (b := 8) (by decide)
      have hr1 := Int.emod_lt_of_pos t (b := 8) (by decide)
      obtain ⟨e1, e2⟩ := WW_rot hr0 hr1
      have e3 := named_cut _ e1 e2 hm0 hm1
      simp only [sSeq, sNext, sSet, sRet, sRetN, sIf, sAsg, sDrop, sPar, sBrk, sCnt, sFor, sStore, sAugI, sAug, dC, dVar, dTake, qVar, qE, aNil, aCons, dOp, dUn, dCallB, gets, Op.get, put, puts, dat_sh, dat_ow, dat_bw, dat_un, ty0, ty1, ty2, ty3, ty4, ty5, ty6, ty7, ty8, ty9, ty10, ty11, ty12, ty13, ty14, ty15, ty16, ty17, ty18, ty19, ty20, ty21, ty22, ty23, ty24, ty25, ty26, ty27, ty28, ty29, ty30, ty31, ty32, ty33, ty34, ty35, ty36, ty37, ty38, ty39, ty40, ty41, gIsi_non, gIsi_bl, gIsi_int, gIsi_str, gIsi_lst, gIsi_tup, gIsi_dct, gIsC, dMut0, mReverse, mPopAt, gEq_bl, gEq_strs, eq_self, Sl.cn, Sl.with, Cn.dat, Rv.dat, bOf, asB, bTr, gTruth, bAnd, bOr, bNot, dAnd, dOr, dNot, dIf, dChain, vNil, vCons, dTup, dLst, dDisp, psNil, psCons, keyed, D.key, gN, gT, gsNil, gsCons, rNil, rCons, srcE, srcR1, srcR2, srcR3, srcEnum, srcZip, srcC, srcV, itsOf, dLc, bYes, wipeD, agNil, agVal, agBor, mkArgs, bors, giveB, dCall, clean, dMut, slL, mAppend, mInsert, slC, cnSet, gAdd, gSubI, gDiv, gMod, gNeg, gCmpI, gIx, dSl, oNo, oE, gSl, dRev, dJoin, gAbs, gLen, gInt, gIsN, gList, Option.map_some, List.map_cons, List.map_nil, List.getElem?_cons_zero, List.getElem?_cons_succ, List.getElem?_nil, List.set_cons_zero, List.set_cons_succ, List.length_cons, List.length_nil, List.cons_append, List.nil_append, List.take_succ_cons, List.take_zero, List.replicate_succ, List.replicate_zero, gMin2, gMax2, gMax3, nodup1, List.nodup_nil, gEq_int, gEq_str, atI_0, atI_1, atI_2, atI_3, atI_4, atI_5, ixN_40, ixN_41, ixN_42, ixN_43, gMul, Nat.reduceAdd, Nat.reduceSub, Nat.zero_add, Option.isSome_some, true_and, and_true, Option.some.injEq, exists_and_left, exists_eq_left, exists_eq_left', id_eq, ite_true, ite_false, reduceIte, Bool.false_eq_true, decide_eq_true_eq]
      refine ⟨by decide, by decide, ?_, ?_⟩
      · have z1 := cut_le WW (some (t % 8)) none
        have z2 := cut_le WW none (some (t % 8))
        have z3 : WW.length = 8 := rfl
        have y1 := congrArg List.length (cut_map D.str WW (some (t % 8)) none)
        have y2 := congrArg List.length (cut_map D.str WW none (some (t % 8)))
        rw [List.length_map] at y1 y2
        simp only [WW, List.map_cons, List.map_nil] at y1 y2 z1 z2 z3
        exact le_size (by omega)
      · have := h _ c2 (hB2.le (by omega)) e3
        rw [← cut_map, List.map_append, ← cut_map, ← cut_map] at this
        exact this
    · rw [decide_eq_false hw]
      refine hF _ ?_
      simp only [sNext]
      refine h1 _ ?_
      clear hT hF h1
      refine sSeq_go fun N1 h1 => ?_
      refine sIf_go fun T hT hF => ?_
      simp only [sSeq, sNext, sSet, sRet, sRetN, sIf, sAsg, sDrop, sPar, sBrk, sCnt, sFor, sStore, sAugI, sAug, dC, dVar, dTake, qVar, qE, aNil, aCons, dOp, dUn, dCallB, gets, Op.get, put, puts, dat_sh, dat_ow, dat_bw, dat_un, ty0, ty1, ty2, ty3, ty4, ty5, ty6, ty7, ty8, ty9, ty10, ty11, ty12, ty13, ty14, ty15, ty16, ty17, ty18, ty19, ty20, ty21, ty22, ty23, ty24, ty25, ty26, ty27, ty28, ty29, ty30, ty31, ty32, ty33, ty34, ty35, ty36, ty37, ty38, ty39, ty40, ty41, gIsi_non, gIsi_bl, gIsi_int, gIsi_str, gIsi_lst, gIsi_tup, gIsi_dct, gIsC, dMut0, mReverse, mPopAt, gEq_bl, gEq_strs, eq_self, Sl.cn, Sl.with, Cn.dat, Rv.dat, bOf, asB, bTr, gTruth, bAnd, bOr, bNot, dAnd, dOr, dNot, dIf, dChain, vNil, vCons, dTup, dLst, dDisp, psNil, psCons, keyed, D.key, gN, gT, gsNil, gsCons, rNil, rCons, srcE, srcR1, srcR2, srcR3, srcEnum, srcZip, srcC, srcV, itsOf, dLc, bYes, wipeD, agNil, agVal, agBor, mkArgs, bors, giveB, dCall, clean, dMut, slL, mAppend, mInsert, slC, cnSet, gAdd, gSubI, gDiv, gMod, gNeg, gCmpI, gIx, dSl, oNo, oE, gSl, dRev, dJoin, gAbs, gLen, gInt, gIsN, gList, Option.map_some, List.map_cons, List.map_nil, List.getElem?_cons_zero, List.getElem?_cons_succ, List.getElem?_nil, List.set_cons_zero, List.set_cons_succ, List.length_cons, List.length_nil, List.cons_append, List.nil_append, List.take_succ_cons, List.take_zero, List.replicate_succ, List.replicate_zero, gMin2, gMax2, gMax3, nodup1, List.nodup_nil, gEq_int, gEq_str, atI_0, atI_1, atI_2, atI_3, atI_4, atI_5, ixN_40, ixN_41, ixN_42, ixN_43, gMul, Nat.reduceAdd, Nat.reduceSub, Nat.zero_add, Option.isSome_some, true_and, and_true, Option.some.injEq, exists_and_left, exists_eq_left, exists_eq_left', id_eq, ite_true, ite_false, reduceIte, Bool.false_eq_true, decide_eq_true_eq]
      by_cases hw : w = 1
      · rw [decide_eq_true hw]
        refine hT _ ?_
        clear hT hF h1
        simp only [sSeq, sNext, sSet, sRet, sRetN, sIf, sAsg, sDrop, sPar, sBrk, sCnt, sFor, sStore, sAugI, sAug, dC, dVar, dTake, qVar, qE, aNil, aCons, dOp, dUn, dCallB, gets, Op.get, put, puts, dat_sh, dat_ow, dat_bw, dat_un, ty0, ty1, ty2, ty3, ty4, ty5, ty6, ty7, ty8, ty9, ty10, ty11, ty12, ty13, ty14, ty15, ty16, ty17, ty18, ty19, ty20, ty21, ty22, ty23, ty24, ty25, ty26, ty27, ty28, ty29, ty30, ty31, ty32, ty33, ty34, ty35, ty36, ty37, ty38, ty39, ty40, ty41, gIsi_non, gIsi_bl, gIsi_int, gIsi_str, gIsi_lst, gIsi_tup, gIsi_dct, gIsC, dMut0, mReverse, mPopAt, gEq_bl, gEq_strs, eq_self, Sl.cn, Sl.with, Cn.dat, Rv.dat, bOf, asB, bTr, gTruth, bAnd, bOr, bNot, dAnd, dOr, dNot, dIf, dChain, vNil, vCons, dTup, dLst, dDisp, psNil, psCons, keyed, D.key, gN, gT, gsNil, gsCons, rNil, rCons, srcE, srcR1, srcR2, srcR3, srcEnum, srcZip, srcC, srcV, itsOf, dLc, bYes, wipeD, agNil, agVal, agBor, mkArgs, bors, giveB, dCall, clean, dMut, slL, mAppend, mInsert, slC, cnSet, gAdd, gSubI, gDiv, gMod, gNeg, gCmpI, gIx, dSl, oNo, oE, gSl, dRev, dJoin, gAbs, gLen, gInt, gIsN, gList, Option.map_some, List.map_cons, List.map_nil, List.getElem?_cons_zero, List.getElem?_cons_succ, List.getElem?_nil, List.set_cons_zero, List.set_cons_succ, List.length_cons, List.length_nil, List.cons_append, List.nil_append, List.take_succ_cons, List.take_zero, List.replicate_succ, List.replicate_zero, gMin2, gMax2, gMax3, nodup1, List.nodup_nil, gEq_int, gEq_str, atI_0, atI_1, atI_2, atI_3, atI_4, atI_5, ixN_40, ixN_41, ixN_42, ixN_43, gMul, Nat.reduceAdd, Nat.reduceSub, Nat.zero_add, Option.isSome_some, true_and, and_true, Option.some.injEq, exists_and_left, exists_eq_left, exists_eq_left', id_eq, ite_true, ite_false, reduceIte, Bool.false_eq_true, decide_eq_true_eq, big]
        refine ⟨by omega, by omega, ?_⟩
        refine lcL_rng (fun i acc ρ => ρ = [.bw 0 c2, .sh (.int m), .sh (.str LL), .sh (.int w), .sh (.int t), .un, .un, .un, .un] ∧ ∃ l : List Str, acc = l.map D.str ∧ l.length = i ∧ ∀ x ∈ l, x.length ≤ 8) ⟨rfl, [], rfl, rfl, by simp⟩ ?_ ?_
        · rintro acc ρ ⟨rfl, l, rfl, hl, hx⟩
          simp only [sSeq, sNext, sSet, sRet, sRetN, sIf, sAsg, sDrop, sPar, sBrk, sCnt, sFor, sStore, sAugI, sAug, dC, dVar, dTake, qVar, qE, aNil, aCons, dOp, dUn, dCallB, gets, Op.get, put, puts, dat_sh, dat_ow, dat_bw, dat_un, ty0, ty1, ty2, ty3, ty4, ty5, ty6, ty7, ty8, ty9, ty10, ty11, ty12, ty13, ty14, ty15, ty16, ty17, ty18, ty19, ty20, ty21, ty22, ty23, ty24, ty25, ty26, ty27, ty28, ty29, ty30, ty31, ty32, ty33, ty34, ty35, ty36, ty37, ty38, ty39, ty40, ty41, gIsi_non, gIsi_bl, gIsi_int, gIsi_str, gIsi_lst, gIsi_tup, gIsi_dct, gIsC, dMut0, mReverse, mPopAt, gEq_bl, gEq_strs, eq_self, Sl.cn, Sl.with, Cn.dat, Rv.dat, bOf, asB, bTr, gTruth, bAnd, bOr, bNot, dAnd, dOr, dNot, dIf, dChain, vNil, vCons, dTup, dLst, dDisp, psNil, psCons, keyed, D.key, gN, gT, gsNil, gsCons, rNil, rCons, srcE, srcR1, srcR2, srcR3, srcEnum, srcZip, srcC, srcV, itsOf, dLc, bYes, wipeD, agNil, agVal, agBor, mkArgs, bors, giveB, dCall, clean, dMut, slL, mAppend, mInsert, slC, cnSet, gAdd, gSubI, gDiv, gMod, gNeg, gCmpI, gIx, dSl, oNo, oE, gSl, dRev, dJoin, gAbs, gLen, gInt, gIsN, gList, Option.map_some, List.map_cons, List.map_nil, List.getElem?_cons_zero, List.getElem?_cons_succ, List.getElem?_nil, List.set_cons_zero, List.set_cons_succ, List.length_cons, List.length_nil, List.cons_append, List.nil_append, List.take_succ_cons, List.take_zero, List.replicate_succ, List.replicate_zero, gMin2, gMax2, gMax3, nodup1, List.nodup_nil, gEq_int, gEq_str, atI_0, atI_1, atI_2, atI_3, atI_4, atI_5, ixN_40, ixN_41, ixN_42, ixN_43, gMul, Nat.reduceAdd, Nat.reduceSub, Nat.zero_add, Option.isSome_some, true_and, and_true, Option.some.injEq, exists_and_left, exists_eq_left, exists_eq_left', id_eq, ite_true, ite_false, reduceIte, Bool.false_eq_true, decide_eq_true_eq]
          exact h l _ (hB2.le (by omega)) ⟨by omega, hx⟩
        · rintro i acc ρ N hi hN ⟨rfl, l, rfl, hl, hx⟩
          simp only [sSeq, sNext, sSet, sRet, sRetN, sIf, sAsg, sDrop, sPar, sBrk, sCnt, sFor, sStore, sAugI, sAug, dC, dVar, dTake, qVar, qE, aNil, aCons, dOp, dUn, dCallB, gets, Op.get, put, puts, dat_sh, dat_ow, dat_bw, dat_un, ty0, ty1, ty2, ty3, ty4, ty5, ty6, ty7, ty8, ty9, ty10, ty11, ty12, ty13, ty14, ty15, ty16, ty17, ty18, ty19, ty20, ty21, ty22, ty23, ty24, ty25, ty26, ty27, ty28, ty29, ty30, ty31, ty32, ty33, ty34, ty35, ty36, ty37, ty38, ty39, ty40, ty41, gIsi_non, gIsi_bl, gIsi_int, gIsi_str, gIsi_lst, gIsi_tup, gIsi_dct, gIsC, dMut0, mReverse, mPopAt, gEq_bl, gEq_strs, eq_self, Sl.cn, Sl.with, Cn.dat, Rv.dat, bOf, asB, bTr, gTruth, bAnd, bOr, bNot, dAnd, dOr, dNot, dIf, dChain, vNil, vCons, dTup, dLst, dDisp, psNil, psCons, keyed, D.key, gN, gT, gsNil, gsCons, rNil, rCons, srcE, srcR1, srcR2, srcR3, srcEnum, srcZip, srcC, srcV, itsOf, dLc, bYes, wipeD, agNil, agVal, agBor, mkArgs, bors, giveB, dCall, clean, dMut, slL, mAppend, mInsert, slC, cnSet, gAdd, gSubI, gDiv, gMod, gNeg, gCmpI, gIx, dSl, oNo, oE, gSl, dRev, dJoin, gAbs, gLen, gInt, gIsN, gList, Option.map_some, List.map_cons, List.map_nil, List.getElem?_cons_zero, List.getElem?_cons_succ, List.getElem?_nil, List.set_cons_zero, List.set_cons_succ, List.length_cons, List.length_nil, List.cons_append, List.nil_append, List.take_succ_cons, List.take_zero, List.replicate_succ, List.replicate_zero, gMin2, gMax2, gMax3, nodup1, List.nodup_nil, gEq_int, gEq_str, atI_0, atI_1, atI_2, atI_3, atI_4, atI_5, ixN_40, ixN_41, ixN_42, ixN_43, gMul, Nat.reduceAdd, Nat.reduceSub, Nat.zero_add, Option.isSome_some, true_and, and_true, Option.some.injEq, exists_and_left, exists_eq_left, exists_eq_left', id_eq, ite_true, ite_false, reduceIte, Bool.false_eq_true, decide_eq_true_eq]
          obtain ⟨ch, hc⟩ := LL_at (Int.emod_nonneg (t + 3 * (0 + (i : Int) * 1)) (b := 26) (by decide)) (Int.emod_lt_of_pos _ (by decide))
          refine ⟨cMul_of (by decide) (by omega), by decide, LL_len, ch, hc, lt_size (by rw [List.length_map]; omega), hN _ _ ⟨rfl, l ++ [⟨#[ch]⟩], by simp, by simp [hl], fun x hx2 => ?_⟩⟩
          rcases List.mem_append.mp hx2 with z | z
          · exact hx x z
          · rw [List.mem_singleton.mp z, len_one]; decide
      · rw [decide_eq_false hw]
        refine hF _ ?_
        simp only [sNext]
        refine h1 _ ?_
        clear hT hF h1
        refine sSeq_go fun N1 h1 => ?_
        refine sIf_go fun T hT hF => ?_
        simp only [sSeq, sNext, sSet, sRet, sRetN, sIf, sAsg, sDrop, sPar, sBrk, sCnt, sFor, sStore, sAugI, sAug, dC, dVar, dTake, qVar, qE, aNil, aCons, dOp, dUn, dCallB, gets, Op.get, put, puts, dat_sh, dat_ow, dat_bw, dat_un, ty0, ty1, ty2, ty3, ty4, ty5, ty6, ty7, ty8, ty9, ty10, ty11, ty12, ty13, ty14, ty15, ty16, ty17, ty18, ty19, ty20, ty21, ty22, ty23, ty24, ty25, ty26, ty27, ty28, ty29, ty30, ty31, ty32, ty33, ty34, ty35, ty36, ty37, ty38, ty39, ty40, ty41, gIsi_non, gIsi_bl, gIsi_int, gIsi_str, gIsi_lst, gIsi_tup, gIsi_dct, gIsC, dMut0, mReverse, mPopAt, gEq_bl, gEq_strs, eq_self, Sl.cn, Sl.with, Cn.dat, Rv.dat, bOf, asB, bTr, gTruth, bAnd, bOr, bNot, dAnd, dOr, dNot, dIf, dChain, vNil, vCons, dTup, dLst, dDisp, psNil, psCons, keyed, D.key, gN, gT, gsNil, gsCons, rNil, rCons, srcE, srcR1, srcR2, srcR3, srcEnum, srcZip, srcC, srcV, itsOf, dLc, bYes, wipeD, agNil, agVal, agBor, mkArgs, bors, giveB, dCall, clean, dMut, slL, mAppend, mInsert, slC, cnSet, gAdd, gSubI, gDiv, gMod, gNeg, gCmpI, gIx, dSl, oNo, oE, gSl, dRev, dJoin, gAbs, gLen, gInt, gIsN, gList, Option.map_some, List.map_cons, List.map_nil, List.getElem?_cons_zero, List.getElem?_cons_succ, List.getElem?_nil, List.set_cons_zero, List.set_cons_succ, List.length_cons, List.length_nil, List.cons_append, List.nil_append, List.take_succ_cons, List.take_zero, List.replicate_succ, List.replicate_zero, gMin2, gMax2, gMax3, nodup1, List.nodup_nil, gEq_int, gEq_str, atI_0, atI_1, atI_2, atI_3, atI_4, atI_5, ixN_40, ixN_41, ixN_42, ixN_43, gMul, Nat.reduceAdd, Nat.reduceSub, Nat.zero_add, Option.isSome_some, true_and, and_true, Option.some.injEq, exists_and_left, exists_eq_left, exists_eq_left', id_eq, ite_true, ite_false, reduceIte, Bool.false_eq_true, decide_eq_true_eq]
        by_cases hw : w = 2
        · rw [decide_eq_true hw]
          refine hT _ ?_
          clear hT hF h1
          simp only [sSeq, sNext, sSet, sRet, sRetN, sIf, sAsg, sDrop, sPar, sBrk, sCnt, sFor, sStore, sAugI, sAug, dC, dVar, dTake, qVar, qE, aNil, aCons, dOp, dUn, dCallB, gets, Op.get, put, puts, dat_sh, dat_ow, dat_bw, dat_un, ty0, ty1, ty2, ty3, ty4, ty5, ty6, ty7, ty8, ty9, ty10, ty11, ty12, ty13, ty14, ty15, ty16, ty17, ty18, ty19, ty20, ty21, ty22, ty23, ty24, ty25, ty26, ty27, ty28, ty29, ty30, ty31, ty32, ty33, ty34, ty35, ty36, ty37, ty38, ty39, ty40, ty41, gIsi_non, gIsi_bl, gIsi_int, gIsi_str, gIsi_lst, gIsi_tup, gIsi_dct, gIsC, dMut0, mReverse, mPopAt, gEq_bl, gEq_strs, eq_self, Sl.cn, Sl.with, Cn.dat, Rv.dat, bOf, asB, bTr, gTruth, bAnd, bOr, bNot, dAnd, dOr, dNot, dIf, dChain, vNil, vCons, dTup, dLst, dDisp, psNil, psCons, keyed, D.key, gN, gT, gsNil, gsCons, rNil, rCons, srcE, srcR1, srcR2, srcR3, srcEnum, srcZip, srcC, srcV, itsOf, dLc, bYes, wipeD, agNil, agVal, agBor, mkArgs, bors, giveB, dCall, clean, dMut, slL, mAppend, mInsert, slC, cnSet, gAdd, gSubI, gDiv, gMod, gNeg, gCmpI, gIx, dSl, oNo, oE, gSl, dRev, dJoin, gAbs, gLen, gInt, gIsN, gList, Option.map_some, List.map_cons, List.map_nil, List.getElem?_cons_zero, List.getElem?_cons_succ, List.getElem?_nil, List.set_cons_zero, List.set_cons_succ, List.length_cons, List.length_nil, List.cons_append, List.nil_append, List.take_succ_cons, List.take_zero, List.replicate_succ, List.replicate_zero, gMin2, gMax2, gMax3, nodup1, List.nodup_nil, gEq_int, gEq_str, atI_0, atI_1, atI_2, atI_3, atI_4, atI_5, ixN_40, ixN_41, ixN_42, ixN_43, gMul, Nat.reduceAdd, Nat.reduceSub, Nat.zero_add, Option.isSome_some, true_and, and_true, Option.some.injEq, exists_and_left, exists_eq_left, exists_eq_left', id_eq, ite_true, ite_false, reduceIte, Bool.false_eq_true, decide_eq_true_eq, big]
          refine ⟨by omega, by omega, ?_⟩
          refine lcL_rng (fun i acc ρ => ρ = [.bw 0 c2, .sh (.int m), .sh (.str LL), .sh (.int w), .sh (.int t), .un, .un, .un, .un] ∧ ∃ l : List Str, acc = l.map D.str ∧ l.length = i ∧ ∀ x ∈ l, x.length ≤ 8) ⟨rfl, [], rfl, rfl, by simp⟩ ?_ ?_
          · rintro acc ρ ⟨rfl, l, rfl, hl, hx⟩
            simp only [sSeq, sNext, sSet, sRet, sRetN, sIf, sAsg, sDrop, sPar, sBrk, sCnt, sFor, sStore, sAugI, sAug, dC, dVar, dTake, qVar, qE, aNil, aCons, dOp, dUn, dCallB, gets, Op.get, put, puts, dat_sh, dat_ow, dat_bw, dat_un, ty0, ty1, ty2, ty3, ty4, ty5, ty6, ty7, ty8, ty9, ty10, ty11, ty12, ty13, ty14, ty15, ty16, ty17, ty18, ty19, ty20, ty21, ty22, ty23, ty24, ty25, ty26, ty27, ty28, ty29, ty30, ty31, ty32, ty33, ty34, ty35, ty36, ty37, ty38, ty39, ty40, ty41, gIsi_non, gIsi_bl, gIsi_int, gIsi_str, gIsi_lst, gIsi_tup, gIsi_dct, gIsC, dMut0, mReverse, mPopAt, gEq_bl, gEq_strs, eq_self, Sl.cn, Sl.with, Cn.dat, Rv.dat, bOf, asB, bTr, gTruth, bAnd, bOr, bNot, dAnd, dOr, dNot, dIf, dChain, vNil, vCons, dTup, dLst, dDisp, psNil, psCons, keyed, D.key, gN, gT, gsNil, gsCons, rNil, rCons, srcE, srcR1, srcR2, srcR3, srcEnum, srcZip, srcC, srcV, itsOf, dLc, bYes, wipeD, agNil, agVal, agBor, mkArgs, bors, giveB, dCall, clean, dMut, slL, mAppend, mInsert, slC, cnSet, gAdd, gSubI, gDiv, gMod, gNeg, gCmpI, gIx, dSl, oNo, oE, gSl, dRev, dJoin, gAbs, gLen, gInt, gIsN, gList, Option.map_some, List.map_cons, List.map_nil, List.getElem?_cons_zero, List.getElem?_cons_succ, List.getElem?_nil, List.set_cons_zero, List.set_cons_succ, List.length_cons, List.length_nil, List.cons_append, List.nil_append, List.take_succ_cons, List.take_zero, List.replicate_succ, List.replicate_zero, gMin2, gMax2, gMax3, nodup1, List.nodup_nil, gEq_int, gEq_str, atI_0, atI_1, atI_2, atI_3, atI_4, atI_5, ixN_40, ixN_41, ixN_42, ixN_43, gMul, Nat.reduceAdd, Nat.reduceSub, Nat.zero_add, Option.isSome_some, true_and, and_true, Option.some.injEq, exists_and_left, exists_eq_left, exists_eq_left', id_eq, ite_true, ite_false, reduceIte, Bool.false_eq_true, decide_eq_true_eq]
            exact h l _ (hB2.le (by omega)) ⟨by omega, hx⟩
          · rintro i acc ρ N hi hN ⟨rfl, l, rfl, hl, hx⟩
            simp only [sSeq, sNext, sSet, sRet, sRetN, sIf, sAsg, sDrop, sPar, sBrk, sCnt, sFor, sStore, sAugI, sAug, dC, dVar, dTake, qVar, qE, aNil, aCons, dOp, dUn, dCallB, gets, Op.get, put, puts, dat_sh, dat_ow, dat_bw, dat_un, ty0, ty1, ty2, ty3, ty4, ty5, ty6, ty7, ty8, ty9, ty10, ty11, ty12, ty13, ty14, ty15, ty16, ty17, ty18, ty19, ty20, ty21, ty22, ty23, ty24, ty25, ty26, ty27, ty28, ty29, ty30, ty31, ty32, ty33, ty34, ty35, ty36, ty37, ty38, ty39, ty40, ty41, gIsi_non, gIsi_bl, gIsi_int, gIsi_str, gIsi_lst, gIsi_tup, gIsi_dct, gIsC, dMut0, mReverse, mPopAt, gEq_bl, gEq_strs, eq_self, Sl.cn, Sl.with, Cn.dat, Rv.dat, bOf, asB, bTr, gTruth, bAnd, bOr, bNot, dAnd, dOr, dNot, dIf, dChain, vNil, vCons, dTup, dLst, dDisp, psNil, psCons, keyed, D.key, gN, gT, gsNil, gsCons, rNil, rCons, srcE, srcR1, srcR2, srcR3, srcEnum, srcZip, srcC, srcV, itsOf, dLc, bYes, wipeD, agNil, agVal, agBor, mkArgs, bors, giveB, dCall, clean, dMut, slL, mAppend, mInsert, slC, cnSet, gAdd, gSubI, gDiv, gMod, gNeg, gCmpI, gIx, dSl, oNo, oE, gSl, dRev, dJoin, gAbs, gLen, gInt, gIsN, gList, Option.map_some, List.map_cons, List.map_nil, List.getElem?_cons_zero, List.getElem?_cons_succ, List.getElem?_nil, List.set_cons_zero, List.set_cons_succ, List.length_cons, List.length_nil, List.cons_append, List.nil_append, List.take_succ_cons, List.take_zero, List.replicate_succ, List.replicate_zero, gMin2, gMax2, gMax3, nodup1, List.nodup_nil, gEq_int, gEq_str, atI_0, atI_1, atI_2, atI_3, atI_4, atI_5, ixN_40, ixN_41, ixN_42, ixN_43, gMul, Nat.reduceAdd, Nat.reduceSub, Nat.zero_add, Option.isSome_some, true_and, and_true, Option.some.injEq, exists_and_left, exists_eq_left, exists_eq_left', id_eq, ite_true, ite_false, reduceIte, Bool.false_eq_true, decide_eq_true_eq]
            obtain ⟨ch, hc⟩ := LL_at ht0 ht1
            refine ⟨LL_len, ch, hc, by omega, by rw [len_one]; exact le_size (by omega), by rw [sizeLine_eq]; omega, lt_size (by rw [List.length_map]; omega), hN _ _ ⟨rfl, l ++ [Str.reps ⟨#[ch]⟩ (0 + (i : Int) * 1 + 1).toNat], by simp, by simp [hl], fun x hx2 => ?_⟩⟩
            rcases List.mem_append.mp hx2 with z | z
            · exact hx x z
            · rw [List.mem_singleton.mp z, len_reps, len_one]; omega
        · rw [decide_eq_false hw]
          refine hF _ ?_
          simp only [sNext]
          refine h1 _ ?_
          clear hT hF h1
          refine sSeq_go fun N1 h1 => ?_
          simp only [sSeq, sNext, sSet, sRet, sRetN, sIf, sAsg, sDrop, sPar, sBrk, sCnt, sFor, sStore, sAugI, sAug, dC, dVar, dTake, qVar, qE, aNil, aCons, dOp, dUn, dCallB, gets, Op.get, put, puts, dat_sh, dat_ow, dat_bw, dat_un, ty0, ty1, ty2, ty3, ty4, ty5, ty6, ty7, ty8, ty9, ty10, ty11, ty12, ty13, ty14, ty15, ty16, ty17, ty18, ty19, ty20, ty21, ty22, ty23, ty24, ty25, ty26, ty27, ty28, ty29, ty30, ty31, ty32, ty33, ty34, ty35, ty36, ty37, ty38, ty39, ty40, ty41, gIsi_non, gIsi_bl, gIsi_int, gIsi_str, gIsi_lst, gIsi_tup, gIsi_dct, gIsC, dMut0, mReverse, mPopAt, gEq_bl, gEq_strs, eq_self, Sl.cn, Sl.with, Cn.dat, Rv.dat, bOf, asB, bTr, gTruth, bAnd, bOr, bNot, dAnd, dOr, dNot, dIf, dChain, vNil, vCons, dTup, dLst, dDisp, psNil, psCons, keyed, D.key, gN, gT, gsNil, gsCons, rNil, rCons, srcE, srcR1, srcR2, srcR3, srcEnum, srcZip, srcC, srcV, itsOf, dLc, bYes, wipeD, agNil, agVal, agBor, mkArgs, bors, giveB, dCall, clean, dMut, slL, mAppend, mInsert, slC, cnSet, gAdd, gSubI, gDiv, gMod, gNeg, gCmpI, gIx, dSl, oNo, oE, gSl, dRev, dJoin, gAbs, gLen, gInt, gIsN, gList, Option.map_some, List.map_cons, List.map_nil, List.getElem?_cons_zero, List.getElem?_cons_succ, List.getElem?_nil, List.set_cons_zero, List.set_cons_succ, List.length_cons, List.length_nil, List.cons_append, List.nil_append, List.take_succ_cons, List.take_zero, List.replicate_succ, List.replicate_zero, gMin2, gMax2, gMax3, nodup1, List.nodup_nil, gEq_int, gEq_str, atI_0, atI_1, atI_2, atI_3, atI_4, atI_5, ixN_40, ixN_41, ixN_42, ixN_43, gMul, Nat.reduceAdd, Nat.reduceSub, Nat.zero_add, Option.isSome_some, true_and, and_true, Option.some.injEq, exists_and_left, exists_eq_left, exists_eq_left', id_eq, ite_true, ite_false, reduceIte, Bool.false_eq_true, decide_eq_true_eq, big]
          refine ⟨n + 17, c2, 8, rfl, hB2.le (by omega), by decide, by decide, fun v c3 hB3 hv0 hv1 => ?_⟩
          simp only [sSeq, sNext, sSet, sRet, sRetN, sIf, sAsg, sDrop, sPar, sBrk, sCnt, sFor, sStore, sAugI, sAug, dC, dVar, dTake, qVar, qE, aNil, aCons, dOp, dUn, dCallB, gets, Op.get, put, puts, dat_sh, dat_ow, dat_bw, dat_un, ty0, ty1, ty2, ty3, ty4, ty5, ty6, ty7, ty8, ty9, ty10, ty11, ty12, ty13, ty14, ty15, ty16, ty17, ty18, ty19, ty20, ty21, ty22, ty23, ty24, ty25, ty26, ty27, ty28, ty29, ty30, ty31, ty32, ty33, ty34, ty35, ty36, ty37, ty38, ty39, ty40, ty41, gIsi_non, gIsi_bl, gIsi_int, gIsi_str, gIsi_lst, gIsi_tup, gIsi_dct, gIsC, dMut0, mReverse, mPopAt, gEq_bl, gEq_strs, eq_self, Sl.cn, Sl.with, Cn.dat, Rv.dat, bOf, asB, bTr, gTruth, bAnd, bOr, bNot, dAnd, dOr, dNot, dIf, dChain, vNil, vCons, dTup, dLst, dDisp, psNil, psCons, keyed, D.key, gN, gT, gsNil, gsCons, rNil, rCons, srcE, srcR1, srcR2, srcR3, srcEnum, srcZip, srcC, srcV, itsOf, dLc, bYes, wipeD, agNil, agVal, agBor, mkArgs, bors, giveB, dCall, clean, dMut, slL, mAppend, mInsert, slC, cnSet, gAdd, gSubI, gDiv, gMod, gNeg, gCmpI, gIx, dSl, oNo, oE, gSl, dRev, dJoin, gAbs, gLen, gInt, gIsN, gList, Option.map_some, List.map_cons, List.map_nil, List.getElem?_cons_zero, List.getElem?_cons_succ, List.getElem?_nil, List.set_cons_zero, List.set_cons_succ, List.length_cons, List.length_nil, List.cons_append, List.nil_append, List.take_succ_cons, List.take_zero, List.replicate_succ, List.replicate_zero, gMin2, gMax2, gMax3, nodup1, List.nodup_nil, gEq_int, gEq_str, atI_0, atI_1, atI_2, atI_3, atI_4, atI_5, ixN_40, ixN_41, ixN_42, ixN_43, gMul, Nat.reduceAdd, Nat.reduceSub, Nat.zero_add, Option.isSome_some, true_and, and_true, Option.some.injEq, exists_and_left, exists_eq_left, exists_eq_left', id_eq, ite_true, ite_false, reduceIte, Bool.false_eq_true, decide_eq_true_eq, big]
          refine ⟨by omega, by omega, ?_⟩
          refine lcL_rng (fun i acc ρ => ∃ c' : Cn, ρ = [.bw 0 c', .sh (.int m), .sh (.str LL), .sh (.int w), .sh (.int t), .un, .un, .un, .un] ∧ Bag (n + (17 - i)) c' ∧ ∃ l : List Str, acc = l.map D.str ∧ l.length = i ∧ ∀ x ∈ l, x.length = 1) ⟨c3, rfl, hB3, [], rfl, rfl, by simp⟩ ?_ ?_
          · rintro acc ρ ⟨c4, rfl, hB4, l, rfl, hl, hx⟩
            simp only [sSeq, sNext, sSet, sRet, sRetN, sIf, sAsg, sDrop, sPar, sBrk, sCnt, sFor, sStore, sAugI, sAug, dC, dVar, dTake, qVar, qE, aNil, aCons, dOp, dUn, dCallB, gets, Op.get, put, puts, dat_sh, dat_ow, dat_bw, dat_un, ty0, ty1, ty2, ty3, ty4, ty5, ty6, ty7, ty8, ty9, ty10, ty11, ty12, ty13, ty14, ty15, ty16, ty17, ty18, ty19, ty20, ty21, ty22, ty23, ty24, ty25, ty26, ty27, ty28, ty29, ty30, ty31, ty32, ty33, ty34, ty35, ty36, ty37, ty38, ty39, ty40, ty41, gIsi_non, gIsi_bl, gIsi_int, gIsi_str, gIsi_lst, gIsi_tup, gIsi_dct, gIsC, dMut0, mReverse, mPopAt, gEq_bl, gEq_strs, eq_self, Sl.cn, Sl.with, Cn.dat, Rv.dat, bOf, asB, bTr, gTruth, bAnd, bOr, bNot, dAnd, dOr, dNot, dIf, dChain, vNil, vCons, dTup, dLst, dDisp, psNil, psCons, keyed, D.key, gN, gT, gsNil, gsCons, rNil, rCons, srcE, srcR1, srcR2, srcR3, srcEnum, srcZip, srcC, srcV, itsOf, dLc, bYes, wipeD, agNil, agVal, agBor, mkArgs, bors, giveB, dCall, clean, dMut, slL, mAppend, mInsert, slC, cnSet, gAdd, gSubI, gDiv, gMod, gNeg, gCmpI, gIx, dSl, oNo, oE, gSl, dRev, dJoin, gAbs, gLen, gInt, gIsN, gList, Option.map_some, List.map_cons, List.map_nil, List.getElem?_cons_zero, List.getElem?_cons_succ, List.getElem?_nil, List.set_cons_zero, List.set_cons_succ, List.length_cons, List.length_nil, List.cons_append, List.nil_append, List.take_succ_cons, List.take_zero, List.replicate_succ, List.replicate_zero, gMin2, gMax2, gMax3, nodup1, List.nodup_nil, gEq_int, gEq_str, atI_0, atI_1, atI_2, atI_3, atI_4, atI_5, ixN_40, ixN_41, ixN_42, ixN_43, gMul, Nat.reduceAdd, Nat.reduceSub, Nat.zero_add, Option.isSome_some, true_and, and_true, Option.some.injEq, exists_and_left, exists_eq_left, exists_eq_left', id_eq, ite_true, ite_false, reduceIte, Bool.false_eq_true, decide_eq_true_eq]
            have hs : (l.map (·.length)).sum = l.length := by
              clear hl
              induction l with
              | nil => rfl
              | cons a r ih =>
                rw [List.map_cons, List.sum_cons, ih fun x hx2 => hx x (List.mem_cons_of_mem _ hx2), hx a List.mem_cons_self, List.length_cons]
                omega
            refine ⟨l, rfl, by rw [hs]; have : (Str.ofString "").length = 0 := by decide +kernel
                               rw [this]; omega, h1 _ ?_⟩
            clear h1
            have hz : (Txt.join "" l).length = l.length := by rw [len_join, hs]
            generalize Txt.join "" l = base at hz ⊢
            refine sSeq_go fun N2 h2 => ?_
            simp only [sSeq, sNext, sSet, sRet, sRetN, sIf, sAsg, sDrop, sPar, sBrk, sCnt, sFor, sStore, sAugI, sAug, dC, dVar, dTake, qVar, qE, aNil, aCons, dOp, dUn, dCallB, gets, Op.get, put, puts, dat_sh, dat_ow, dat_bw, dat_un, ty0, ty1, ty2, ty3, ty4, ty5, ty6, ty7, ty8, ty9, ty10, ty11, ty12, ty13, ty14, ty15, ty16, ty17, ty18, ty19, ty20, ty21, ty22, ty23, ty24, ty25, ty26, ty27, ty28, ty29, ty30, ty31, ty32, ty33, ty34, ty35, ty36, ty37, ty38, ty39, ty40, ty41, gIsi_non, gIsi_bl, gIsi_int, gIsi_str, gIsi_lst, gIsi_tup, gIsi_dct, gIsC, dMut0, mReverse, mPopAt, gEq_bl, gEq_strs, eq_self, Sl.cn, Sl.with, Cn.dat, Rv.dat, bOf, asB, bTr, gTruth, bAnd, bOr, bNot, dAnd, dOr, dNot, dIf, dChain, vNil, vCons, dTup, dLst, dDisp, psNil, psCons, keyed, D.key, gN, gT, gsNil, gsCons, rNil, rCons, srcE, srcR1, srcR2, srcR3, srcEnum, srcZip, srcC, srcV, itsOf, dLc, bYes, wipeD, agNil, agVal, agBor, mkArgs, bors, giveB, dCall, clean, dMut, slL, mAppend, mInsert, slC, cnSet, gAdd, gSubI, gDiv, gMod, gNeg, gCmpI, gIx, dSl, oNo, oE, gSl, dRev, dJoin, gAbs, gLen, gInt, gIsN, gList, Option.map_some, List.map_cons, List.map_nil, List.getElem?_cons_zero, List.getElem?_cons_succ, List.getElem?_nil, List.set_cons_zero, List.set_cons_succ, List.length_cons, List.length_nil, List.cons_append, List.nil_append, List.take_succ_cons, List.take_zero, List.replicate_succ, List.replicate_zero, gMin2, gMax2, gMax3, nodup1, List.nodup_nil, gEq_int, gEq_str, atI_0, atI_1, atI_2, atI_3, atI_4, atI_5, ixN_40, ixN_41, ixN_42, ixN_43, gMul, Nat.reduceAdd, Nat.reduceSub, Nat.zero_add, Option.isSome_some, true_and, and_true, Option.some.injEq, exists_and_left, exists_eq_left, exists_eq_left', id_eq, ite_true, ite_false, reduceIte, Bool.false_eq_true, decide_eq_true_eq]
            refine ⟨le_size (by omega), n, c4, _, rfl, hB4.le (by omega), by omega, by omega, fun u c5 hB5 hu0 hu1 => ?_⟩
            simp only [sSeq, sNext, sSet, sRet, sRetN, sIf, sAsg, sDrop, sPar, sBrk, sCnt, sFor, sStore, sAugI, sAug, dC, dVar, dTake, qVar, qE, aNil, aCons, dOp, dUn, dCallB, gets, Op.get, put, puts, dat_sh, dat_ow, dat_bw, dat_un, ty0, ty1, ty2, ty3, ty4, ty5, ty6, ty7, ty8, ty9, ty10, ty11, ty12, ty13, ty14, ty15, ty16, ty17, ty18, ty19, ty20, ty21, ty22, ty23, ty24, ty25, ty26, ty27, ty28, ty29, ty30, ty31, ty32, ty33, ty34, ty35, ty36, ty37, ty38, ty39, ty40, ty41, gIsi_non, gIsi_bl, gIsi_int, gIsi_str, gIsi_lst, gIsi_tup, gIsi_dct, gIsC, dMut0, mReverse, mPopAt, gEq_bl, gEq_strs, eq_self, Sl.cn, Sl.with, Cn.dat, Rv.dat, bOf, asB, bTr, gTruth, bAnd, bOr, bNot, dAnd, dOr, dNot, dIf, dChain, vNil, vCons, dTup, dLst, dDisp, psNil, psCons, keyed, D.key, gN, gT, gsNil, gsCons, rNil, rCons, srcE, srcR1, srcR2, srcR3, srcEnum, srcZip, srcC, srcV, itsOf, dLc, bYes, wipeD, agNil, agVal, agBor, mkArgs, bors, giveB, dCall, clean, dMut, slL, mAppend, mInsert, slC, cnSet, gAdd, gSubI, gDiv, gMod, gNeg, gCmpI, gIx, dSl, oNo, oE, gSl, dRev, dJoin, gAbs, gLen, gInt, gIsN, gList, Option.map_some, List.map_cons, List.map_nil, List.getElem?_cons_zero, List.getElem?_cons_succ, List.getElem?_nil, List.set_cons_zero, List.set_cons_succ, List.length_cons, List.length_nil, List.cons_append, List.nil_append, List.take_succ_cons, List.take_zero, List.replicate_succ, List.replicate_zero, gMin2, gMax2, gMax3, nodup1, List.nodup_nil, gEq_int, gEq_str, atI_0, atI_1, atI_2, atI_3, atI_4, atI_5, ixN_40, ixN_41, ixN_42, ixN_43, gMul, Nat.reduceAdd, Nat.reduceSub, Nat.zero_add, Option.isSome_some, true_and, and_true, Option.some.injEq, exists_and_left, exists_eq_left, exists_eq_left', id_eq, ite_true, ite_false, reduceIte, Bool.false_eq_true, decide_eq_true_eq]
            refine h2 _ ?_
            clear h2
            simp only [sSeq, sNext, sSet, sRet, sRetN, sIf, sAsg, sDrop, sPar, sBrk, sCnt, sFor, sStore, sAugI, sAug, dC, dVar, dTake, qVar, qE, aNil, aCons, dOp, dUn, dCallB, gets, Op.get, put, puts, dat_sh, dat_ow, dat_bw, dat_un, ty0, ty1, ty2, ty3, ty4, ty5, ty6, ty7, ty8, ty9, ty10, ty11, ty12, ty13, ty14, ty15, ty16, ty17, ty18, ty19, ty20, ty21, ty22, ty23, ty24, ty25, ty26, ty27, ty28, ty29, ty30, ty31, ty32, ty33, ty34, ty35, ty36, ty37, ty38, ty39, ty40, ty41, gIsi_non, gIsi_bl, gIsi_int, gIsi_str, gIsi_lst, gIsi_tup, gIsi_dct, gIsC, dMut0, mReverse, mPopAt, gEq_bl, gEq_strs, eq_self, Sl.cn, Sl.with, Cn.dat, Rv.dat, bOf, asB, bTr, gTruth, bAnd, bOr, bNot, dAnd, dOr, dNot, dIf, dChain, vNil, vCons, dTup, dLst, dDisp, psNil, psCons, keyed, D.key, gN, gT, gsNil, gsCons, rNil, rCons, srcE, srcR1, srcR2, srcR3, srcEnum, srcZip, srcC, srcV, itsOf, dLc, bYes, wipeD, agNil, agVal, agBor, mkArgs, bors, giveB, dCall, clean, dMut, slL, mAppend, mInsert, slC, cnSet, gAdd, gSubI, gDiv, gMod, gNeg, gCmpI, gIx, dSl, oNo, oE, gSl, dRev, dJoin, gAbs, gLen, gInt, gIsN, gList, Option.map_some, List.map_cons, List.map_nil, List.getElem?_cons_zero, List.getElem?_cons_succ, List.getElem?_nil, List.set_cons_zero, List.set_cons_succ, List.length_cons, List.length_nil, List.cons_append, List.nil_append, List.take_succ_cons, List.take_zero, List.replicate_succ, List.replicate_zero, gMin2, gMax2, gMax3, nodup1, List.nodup_nil, gEq_int, gEq_str, atI_0, atI_1, atI_2, atI_3, atI_4, atI_5, ixN_40, ixN_41, ixN_42, ixN_43, gMul, Nat.reduceAdd, Nat.reduceSub, Nat.zero_add, Option.isSome_some, true_and, and_true, Option.some.injEq, exists_and_left, exists_eq_left, exists_eq_left', id_eq, ite_true, ite_false, reduceIte, Bool.false_eq_true, decide_eq_true_eq, big]
            refine ⟨by omega, by omega, ?_⟩
            refine lcL_rng (fun i acc ρ => ρ = [.bw 0 c5, .sh (.int m), .sh (.str LL), .sh (.int w), .sh (.int t), .un, .sh (.str base), .sh (.int u), .un] ∧ ∃ l : List Str, acc = l.map D.str ∧ l.length = i ∧ ∀ x ∈ l, x.length ≤ 8) ⟨rfl, [], rfl, rfl, by simp⟩ ?_ ?_
            · rintro acc ρ ⟨rfl, l, rfl, hl, hx⟩
              simp only [sSeq, sNext, sSet, sRet, sRetN, sIf, sAsg, sDrop, sPar, sBrk, sCnt, sFor, sStore, sAugI, sAug, dC, dVar, dTake, qVar, qE, aNil, aCons, dOp, dUn, dCallB, gets, Op.get, put, puts, dat_sh, dat_ow, dat_bw, dat_un, ty0, ty1, ty2, ty3, ty4, ty5, ty6, ty7, ty8, ty9, ty10, ty11, ty12, ty13, ty14, ty15, ty16, ty17, ty18, ty19, ty20, ty21, ty22, ty23, ty24, ty25, ty26, ty27, ty28, ty29, ty30, ty31, ty32, ty33, ty34, ty35, ty36, ty37, ty38, ty39, ty40, ty41, gIsi_non, gIsi_bl, gIsi_int, gIsi_str, gIsi_lst, gIsi_tup, gIsi_dct, gIsC, dMut0, mReverse, mPopAt, gEq_bl, gEq_strs, eq_self, Sl.cn, Sl.with, Cn.dat, Rv.dat, bOf, asB, bTr, gTruth, bAnd, bOr, bNot, dAnd, dOr, dNot, dIf, dChain, vNil, vCons, dTup, dLst, dDisp, psNil, psCons, keyed, D.key, gN, gT, gsNil, gsCons, rNil, rCons, srcE, srcR1, srcR2, srcR3, srcEnum, srcZip, srcC, srcV, itsOf, dLc, bYes, wipeD, agNil, agVal, agBor, mkArgs, bors, giveB, dCall, clean, dMut, slL, mAppend, mInsert, slC, cnSet, gAdd, gSubI, gDiv, gMod, gNeg, gCmpI, gIx, dSl, oNo, oE, gSl, dRev, dJoin, gAbs, gLen, gInt, gIsN, gList, Option.map_some, List.map_cons, List.map_nil, List.getElem?_cons_zero, List.getElem?_cons_succ, List.getElem?_nil, List.set_cons_zero, List.set_cons_succ, List.length_cons, List.length_nil, List.cons_append, List.nil_append, List.take_succ_cons, List.take_zero, List.replicate_succ, List.replicate_zero, gMin2, gMax2, gMax3, nodup1, List.nodup_nil, gEq_int, gEq_str, atI_0, atI_1, atI_2, atI_3, atI_4, atI_5, ixN_40, ixN_41, ixN_42, ixN_43, gMul, Nat.reduceAdd, Nat.reduceSub, Nat.zero_add, Option.isSome_some, true_and, and_true, Option.some.injEq, exists_and_left, exists_eq_left, exists_eq_left', id_eq, ite_true, ite_false, reduceIte, Bool.false_eq_true, decide_eq_true_eq]
              exact h l _ hB5 ⟨by omega, hx⟩
            · rintro i acc ρ N hi hN ⟨rfl, l2, rfl, hl2, hx2⟩
              simp only [sSeq, sNext, sSet, sRet, sRetN, sIf, sAsg, sDrop, sPar, sBrk, sCnt, sFor, sStore, sAugI, sAug, dC, dVar, dTake, qVar, qE, aNil, aCons, dOp, dUn, dCallB, gets, Op.get, put, puts, dat_sh, dat_ow, dat_bw, dat_un, ty0, ty1, ty2, ty3, ty4, ty5, ty6, ty7, ty8, ty9, ty10, ty11, ty12, ty13, ty14, ty15, ty16, ty17, ty18, ty19, ty20, ty21, ty22, ty23, ty24, ty25, ty26, ty27, ty28, ty29, ty30, ty31, ty32, ty33, ty34, ty35, ty36, ty37, ty38, ty39, ty40, ty41, gIsi_non, gIsi_bl, gIsi_int, gIsi_str, gIsi_lst, gIsi_tup, gIsi_dct, gIsC, dMut0, mReverse, mPopAt, gEq_bl, gEq_strs, eq_self, Sl.cn, Sl.with, Cn.dat, Rv.dat, bOf, asB, bTr, gTruth, bAnd, bOr, bNot, dAnd, dOr, dNot, dIf, dChain, vNil, vCons, dTup, dLst, dDisp, psNil, psCons, keyed, D.key, gN, gT, gsNil, gsCons, rNil, rCons, srcE, srcR1, srcR2, srcR3, srcEnum, srcZip, srcC, srcV, itsOf, dLc, bYes, wipeD, agNil, agVal, agBor, mkArgs, bors, giveB, dCall, clean, dMut, slL, mAppend, mInsert, slC, cnSet, gAdd, gSubI, gDiv, gMod, gNeg, gCmpI, gIx, dSl, oNo, oE, gSl, dRev, dJoin, gAbs, gLen, gInt, gIsN, gList, Option.map_some, List.map_cons, List.map_nil, List.getElem?_cons_zero, List.getElem?_cons_succ, List.getElem?_nil, List.set_cons_zero, List.set_cons_succ, List.length_cons, List.length_nil, List.cons_append, List.nil_append, List.take_succ_cons, List.take_zero, List.replicate_succ, List.replicate_zero, gMin2, gMax2, gMax3, nodup1, List.nodup_nil, gEq_int, gEq_str, atI_0, atI_1, atI_2, atI_3, atI_4, atI_5, ixN_40, ixN_41, ixN_42, ixN_43, gMul, Nat.reduceAdd, Nat.reduceSub, Nat.zero_add, Option.isSome_some, true_and, and_true, Option.some.injEq, exists_and_left, exists_eq_left, exists_eq_left', id_eq, ite_true, ite_false, reduceIte, Bool.false_eq_true, decide_eq_true_eq]
              obtain ⟨ch, hc⟩ := LL_at (Int.emod_nonneg (t + 5 * (0 + (i : Int) * 1)) (b := 26) (by decide)) (Int.emod_lt_of_pos _ (by decide))
              obtain ⟨k, rfl⟩ := Int.eq_ofNat_of_zero_le hu0
              have g1 := len_cutS_to base k
              have g2 := len_cutS_from base (k + 1)
              rw [Int.natCast_add] at g2
              have g3 : (cutS base none (some (k : Int)) ++ ⟨#[ch]⟩ : Str).length = min k base.length + 1 := by rw [len_append, g1, len_one]
              have g4 : ((cutS base none (some (k : Int)) ++ ⟨#[ch]⟩ : Str) ++ cutS base (some ((k : Int) + 1)) none).length = min k base.length + 1 + (base.length - (k + 1)) := by rw [len_append, g3]; exact congrArg _ g2
              refine ⟨le_size (by omega), cMul_of (by decide) (by omega), by decide, LL_len, ch, hc, le_size (by rw [g1, len_one]; omega), le_size (by omega), ?_, lt_size (by rw [List.length_map]; omega), hN _ _ ⟨rfl, l2 ++ [_], by rw [List.map_append]; rfl, by simp [hl2], fun x hx3 => ?_⟩⟩
              · rw [g3]
                refine le_size ?_
                have := len_cutS base (some ((k : Int) + 1)) none
                omega
              · rcases List.mem_append.mp hx3 with z | z
                · exact hx2 x z
                · rw [List.mem_singleton.mp z, g4]; omega
          · rintro i acc ρ N hi hN ⟨c4, rfl, hB4, l, rfl, hl, hx⟩
            simp only [sSeq, sNext, sSet, sRet, sRetN, sIf, sAsg, sDrop, sPar, sBrk, sCnt, sFor, sStore, sAugI, sAug, dC, dVar, dTake, qVar, qE, aNil, aCons, dOp, dUn, dCallB, gets, Op.get, put, puts, dat_sh, dat_ow, dat_bw, dat_un, ty0, ty1, ty2, ty3, ty4, ty5, ty6, ty7, ty8, ty9, ty10, ty11, ty12, ty13, ty14, ty15, ty16, ty17, ty18, ty19, ty20, ty21, ty22, ty23, ty24, ty25, ty26, ty27, ty28, ty29, ty30, ty31, ty32, ty33, ty34, ty35, ty36, ty37, ty38, ty39, ty40, ty41, gIsi_non, gIsi_bl, gIsi_int, gIsi_str, gIsi_lst, gIsi_tup, gIsi_dct, gIsC, dMut0, mReverse, mPopAt, gEq_bl, gEq_strs, eq_self, Sl.cn, Sl.with, Cn.dat, Rv.dat, bOf, asB, bTr, gTruth, bAnd, bOr, bNot, dAnd, dOr, dNot, dIf, dChain, vNil, vCons, dTup, dLst, dDisp, psNil, psCons, keyed, D.key, gN, gT, gsNil, gsCons, rNil, rCons, srcE, srcR1, srcR2, srcR3, srcEnum, srcZip, srcC, srcV, itsOf, dLc, bYes, wipeD, agNil, agVal, agBor, mkArgs, bors, giveB, dCall, clean, dMut, slL, mAppend, mInsert, slC, cnSet, gAdd, gSubI, gDiv, gMod, gNeg, gCmpI, gIx, dSl, oNo, oE, gSl, dRev, dJoin, gAbs, gLen, gInt, gIsN, gList, Option.map_some, List.map_cons, List.map_nil, List.getElem?_cons_zero, List.getElem?_cons_succ, List.getElem?_nil, List.set_cons_zero, List.set_cons_succ, List.length_cons, List.length_nil, List.cons_append, List.nil_append, List.take_succ_cons, List.take_zero, List.replicate_succ, List.replicate_zero, gMin2, gMax2, gMax3, nodup1, List.nodup_nil, gEq_int, gEq_str, atI_0, atI_1, atI_2, atI_3, atI_4, atI_5, ixN_40, ixN_41, ixN_42, ixN_43, gMul, Nat.reduceAdd, Nat.reduceSub, Nat.zero_add, Option.isSome_some, true_and, and_true, Option.some.injEq, exists_and_left, exists_eq_left, exists_eq_left', id_eq, ite_true, ite_false, reduceIte, Bool.false_eq_true, decide_eq_true_eq]
            refine ⟨n + (17 - (i + 1)), c4, 26, rfl, hB4.le (by omega), by decide, by decide, fun u c5 hB5 hu0 hu1 => ?_⟩
            simp only [sSeq, sNext, sSet, sRet, sRetN, sIf, sAsg, sDrop, sPar, sBrk, sCnt, sFor, sStore, sAugI, sAug, dC, dVar, dTake, qVar, qE, aNil, aCons, dOp, dUn, dCallB, gets, Op.get, put, puts, dat_sh, dat_ow, dat_bw, dat_un, ty0, ty1, ty2, ty3, ty4, ty5, ty6, ty7, ty8, ty9, ty10, ty11, ty12, ty13, ty14, ty15, ty16, ty17, ty18, ty19, ty20, ty21, ty22, ty23, ty24, ty25, ty26, ty27, ty28, ty29, ty30, ty31, ty32, ty33, ty34, ty35, ty36, ty37, ty38, ty39, ty40, ty41, gIsi_non, gIsi_bl, gIsi_int, gIsi_str, gIsi_lst, gIsi_tup, gIsi_dct, gIsC, dMut0, mReverse, mPopAt, gEq_bl, gEq_strs, eq_self, Sl.cn, Sl.with, Cn.dat, Rv.dat, bOf, asB, bTr, gTruth, bAnd, bOr, bNot, dAnd, dOr, dNot, dIf, dChain, vNil, vCons, dTup, dLst, dDisp, psNil, psCons, keyed, D.key, gN, gT, gsNil, gsCons, rNil, rCons, srcE, srcR1, srcR2, srcR3, srcEnum, srcZip, srcC, srcV, itsOf, dLc, bYes, wipeD, agNil, agVal, agBor, mkArgs, bors, giveB, dCall, clean, dMut, slL, mAppend, mInsert, slC, cnSet, gAdd, gSubI, gDiv, gMod, gNeg, gCmpI, gIx, dSl, oNo, oE, gSl, dRev, dJoin, gAbs, gLen, gInt, gIsN, gList, Option.map_some, List.map_cons, List.map_nil, List.getElem?_cons_zero, List.getElem?_cons_succ, List.getElem?_nil, List.set_cons_zero, List.set_cons_succ, List.length_cons, List.length_nil, List.cons_append, List.nil_append, List.take_succ_cons, List.take_zero, List.replicate_succ, List.replicate_zero, gMin2, gMax2, gMax3, nodup1, List.nodup_nil, gEq_int, gEq_str, atI_0, atI_1, atI_2, atI_3, atI_4, atI_5, ixN_40, ixN_41, ixN_42, ixN_43, gMul, Nat.reduceAdd, Nat.reduceSub, Nat.zero_add, Option.isSome_some, true_and, and_true, Option.some.injEq, exists_and_left, exists_eq_left, exists_eq_left', id_eq, ite_true, ite_false, reduceIte, Bool.false_eq_true, decide_eq_true_eq]
            obtain ⟨ch, hc⟩ := LL_at hu0 hu1
            refine ⟨LL_len, ch, hc, lt_size (by rw [List.length_map]; omega), hN _ _ ⟨c5, rfl, hB5, l ++ [⟨#[ch]⟩], by simp, by simp [hl], fun x hx2 => ?_⟩⟩
            rcases List.mem_append.mp hx2 with z | z
            · exact hx x z
            · rw [List.mem_singleton.mp z, len_one]
/-- the plan that the law makes up -/
def PlanOk (m : Int) (names : List Str) (pairs : List (Str × Str)) : Prop := 0 < names.length ∧ (names.length : Int) ≤ m ∧ (∀ x ∈ names, x.length ≤ 8) ∧ (∀ p ∈ pairs, p.1 ∈ names ∧ p.2 ∈ names) ∧ pairs.length ≤ 100
def sp__law_plan : SpD := fun as Q => ∃ (n : Nat) (c : Cn) (m : Int), as = [.bw 0 c, .sh (.int m)] ∧ Bag (n + 300) c ∧ 0 < m ∧ m ≤ 8 ∧
  ∀ (names : List Str) (pairs : List (Str × Str)) c', Bag n c' → PlanOk m names pairs → Q (.fr (.d (Plan names pairs))) [.bw 0 c', .un]
theorem len__law_plan {as : SL} {Q : Rv → SL → Prop} (h : sp__law_plan as Q) : as.length = 2 := by
  obtain ⟨_, _, _, rfl, _⟩ := h
  rfl
theorem ok__law_plan {f : Addr} {fd : FuncData} (Fn : Fun K "_law_plan" "_law_plan" s__law_plan f fd) {a__law_take : Addr} {d__law_take : FuncData} (f__law_take : Cal P w K mg base 1 "_law_take" a__law_take d__law_take ["_law_bag_here", "_law_many"] sp__law_take) (z_min : mg "min" = none) {a__law_names : Addr} {d__law_names : FuncData} (f__law_names : Cal P w K mg base 2 "_law_names" a__law_names d__law_names ["_law_bag_here", "_law_many"] sp__law_names) (z_range : mg "range" = none) (z_int : mg "int" = none) (z_len : mg "len" = none) : FnG P w K mg base CX0 3 f fd ["_law_bag_here", "_law_most"] (lift K sp__law_plan) := by
  have nd := sc__law_plan.nd
  refine fnD Fn sc__law_plan (fun as Q h => ?len) (fun cdv A outer s H hgd hr => ⟨_, _,
    (dss_cons (ds_set (i := 2) nd rfl (.inl rfl) (de_op op_addA sem_addA (do_e de_int) (do_e (de_call f__law_take.ok hgd (hr.mono (by decide)) (by rfl) f__law_take.g f__law_take.kp f__law_take.b pass0 (dag_bor (pv 0) (dag_val (de_ix (hu1 hr) (do_e (de_lst (dv_cons (de_callB (call_minA rfl) sem_min (by rfl) z_min (by decide +kernel) (da_cons (do_e de_int) (da_cons (do_var (pv 1)) da_nil))) (dv_cons (de_var (pv 1)) dv_nil)))) (do_e (de_call f__law_take.ok hgd (hr.mono (by decide)) (by rfl) f__law_take.g f__law_take.kp f__law_take.b pass0 (dag_bor (pv 0) (dag_val de_int dag_nil))))) dag_nil))))))
      (dss_cons (ds_par (i := 3) (j := 4) rfl nd rfl rfl (by decide) rfl rfl (dr_cons (de_call f__law_names.ok hgd (hr.mono (by decide)) (by rfl) f__law_names.g f__law_names.kp f__law_names.b pass0 (dag_bor (pv 0) (dag_val (de_var (pv 2)) dag_nil))) (dr_cons (de_lst dv_nil) dr_nil)) (by rfl))
      (dss_cons (ds_par (i := 5) (j := 6) rfl nd rfl rfl (by decide) rfl rfl (dr_cons (de_call f__law_take.ok hgd (hr.mono (by decide)) (by rfl) f__law_take.g f__law_take.kp f__law_take.b pass0 (dag_bor (pv 0) (dag_val de_int dag_nil))) (dr_cons (de_call f__law_take.ok hgd (hr.mono (by decide)) (by rfl) f__law_take.g f__law_take.kp f__law_take.b pass0 (dag_bor (pv 0) (dag_val de_int dag_nil))) dr_nil)) (by rfl))
      (dss_cons (ds_for PassesOwn.never rfl (di_r1 (by rfl) z_range (dv_cons (de_var (pv 2)) dv_nil)) (dg_name (i := 7) nd rfl (.inl rfl))
      (dss_one (ds_for PassesOwn.never rfl (di_r1 (by rfl) z_range (dv_cons (de_op op_addA sem_addA (do_var (pv 7)) (do_e de_int)) dv_nil)) (dg_name (i := 8) nd rfl (.inl rfl))
      (dss_cons (ds_set (i := 9) nd rfl (.inl rfl) (de_or (de_cmp (op_eqA (hu64 hr)) sem_eq (do_e (de_op op_sub sem_sub (do_var (pv 7)) (do_var (pv 8)))) (do_e de_int) (nomark _)) (de_one (de_and (de_cmp (op_eqA (hu64 hr)) sem_eq (do_var (pv 5)) (do_e de_int) (nomark _)) (de_and (de_cmp (op_eqA (hu64 hr)) sem_eq (do_var (pv 8)) (do_e de_int) (nomark _)) (de_one (de_cmp (op_eqA (hu64 hr)) sem_eq (do_var (pv 7)) (do_e (de_op op_sub sem_sub (do_var (pv 2)) (do_e de_int))) (nomark _))))))))
      (dss_cons (ds_set (i := 10) nd rfl (.inl rfl) (de_ix (hu1 hr) (do_e (de_lst (dv_cons (de_op op_mulA sem_mulA (do_e de_int) (do_e (de_callTy call_intA sem_intA (by rfl) z_int (by decide +kernel) (da_cons (do_var (pv 9)) da_nil)))) (dv_cons (de_op op_mulA sem_mulA (do_e de_int) (do_e (de_callTy call_intA sem_intA (by rfl) z_int (by decide +kernel) (da_cons (do_var (pv 9)) da_nil)))) (dv_cons de_int (dv_cons de_int (dv_cons de_int (dv_cons de_int dv_nil)))))))) (do_var (pv 5))))
      (dss_cons (ds_if (dt_cmp (op_eqA (hu64 hr)) sem_eq (do_var (pv 8)) (do_var (pv 7)) (nomark _)) (dss_one (ds_set (i := 10) nd rfl (.inl rfl) (de_ix (hu1 hr) (do_e (de_lst (dv_cons de_int (dv_cons de_int (dv_cons de_int dv_nil))))) (do_var (pv 6))))) dss_nil)
      (dss_one (ds_if (dt_cmp op_lt sem_lt (do_e (de_call f__law_take.ok hgd (hr.mono (by decide)) (by rfl) f__law_take.g f__law_take.kp f__law_take.b pass0 (dag_bor (pv 0) (dag_val de_int dag_nil)))) (do_var (pv 10)) (nomark _)) (dss_cons (ds_set (i := 11) nd rfl (.inl rfl) (de_ix (hu1 hr) (do_e (de_lst (dv_cons (de_tup (dv_cons (de_ix (hu1 hr) (do_var (pv 3)) (do_var (pv 8))) (dv_cons (de_ix (hu1 hr) (do_var (pv 3)) (do_var (pv 7))) dv_nil))) (dv_cons (de_tup (dv_cons (de_ix (hu1 hr) (do_var (pv 3)) (do_var (pv 7))) (dv_cons (de_ix (hu1 hr) (do_var (pv 3)) (do_var (pv 8))) dv_nil))) dv_nil)))) (do_e (de_call f__law_take.ok hgd (hr.mono (by decide)) (by rfl) f__law_take.g f__law_take.kp f__law_take.b pass0 (dag_bor (pv 0) (dag_val de_int dag_nil))))))
      (dss_one (ds_expr (de_insert (pv 4) (dv_cons (de_call f__law_take.ok hgd (hr.mono (by decide)) (by rfl) f__law_take.g f__law_take.kp f__law_take.b pass0 (dag_bor (pv 0) (dag_val (de_op op_addA sem_addA (do_e (de_callB call_lenA sem_len (by rfl) z_len (by decide +kernel) (da_cons (do_var (pv 4)) da_nil))) (do_e de_int)) dag_nil))) (dv_cons (de_var (pv 11)) dv_nil)))))) dss_nil))))))))
      (dss_one (ds_ret (de_disp (dps_cons de_str (de_var (pv 3)) (dps_cons de_str (de_var (pv 4)) dps_nil)) (by rfl) (by rfl) (fun z => by cases z) (by decide)))))))), fun as Q h => ?_⟩)
  case len => exact len__law_plan h
  · obtain ⟨n, c, m, rfl, hB, hm0, hm1, h⟩ := h
    simp only [List.length_cons, List.length_nil, Nat.reduceAdd, Nat.reduceSub, List.replicate_succ, List.replicate_zero, List.cons_append, List.nil_append]
    refine sSeq_cut (fun ρ' => ∃ (c' : Cn) (q : Int), ρ' = [.bw 0 c', .sh (.int m), .sh (.int q), .un, .un, .un, .un, .un, .un, .un, .un, .un] ∧ Bag (n + 298) c' ∧ 1 ≤ q ∧ q ≤ m) (fun N hN => ?_) ?_
    · simp only [sSeq, sNext, sSet, sRet, sRetN, sIf, sAsg, sDrop, sPar, sBrk, sCnt, sFor, sStore, sAugI, sAug, dC, dVar, dTake, qVar, qE, aNil, aCons, dOp, dUn, dCallB, gets, Op.get, put, puts, dat_sh, dat_ow, dat_bw, dat_un, ty0, ty1, ty2, ty3, ty4, ty5, ty6, ty7, ty8, ty9, ty10, ty11, ty12, ty13, ty14, ty15, ty16, ty17, ty18, ty19, ty20, ty21, ty22, ty23, ty24, ty25, ty26, ty27, ty28, ty29, ty30, ty31, ty32, ty33, ty34, ty35, ty36, ty37, ty38, ty39, ty40, ty41, gIsi_non, gIsi_bl, gIsi_int, gIsi_str, gIsi_lst, gIsi_tup, gIsi_dct, gIsC, dMut0, mReverse, mPopAt, gEq_bl, gEq_strs, eq_self, Sl.cn, Sl.with, Cn.dat, Rv.dat, bOf, asB, bTr, gTruth, bAnd, bOr, bNot, dAnd, dOr, dNot, dIf, dChain, vNil, vCons, dTup, dLst, dDisp, psNil, psCons, keyed, D.key, gN, gT, gsNil, gsCons, rNil, rCons, srcE, srcR1, srcR2, srcR3, srcEnum, srcZip, srcC, srcV, itsOf, dLc, bYes, wipeD, agNil, agVal, agBor, mkArgs, bors, giveB, dCall, clean, dMut, slL, mAppend, mInsert, slC, cnSet, gAdd, gSubI, gDiv, gMod, gNeg, gCmpI, gIx, dSl, oNo, oE, gSl, dRev, dJoin, gAbs, gLen, gInt, gIsN, gList, Option.map_some, List.map_cons, List.map_nil, List.getElem?_cons_zero, List.getElem?_cons_succ, List.getElem?_nil, List.set_cons_zero, List.set_cons_succ, List.length_cons, List.length_nil, List.cons_append, List.nil_append, List.take_succ_cons, List.take_zero, List.replicate_succ, List.replicate_zero, gMin2, gMax2, gMax3, nodup1, List.nodup_nil, gEq_int, gEq_str, atI_0, atI_1, atI_2, atI_3, atI_4, atI_5, ixN_40, ixN_41, ixN_42, ixN_43, gMul, Nat.reduceAdd, Nat.reduceSub, Nat.zero_add, Option.isSome_some, true_and, and_true, Option.some.injEq, exists_and_left, exists_eq_left, exists_eq_left', id_eq, ite_true, ite_false, reduceIte, Bool.false_eq_true, decide_eq_true_eq]
      refine ⟨le_size (by decide), n + 299, c, 2, rfl, hB.le (by omega), by decide, by decide, fun v c1 hB1 hv0 hv1 => ?_⟩
      simp only [sSeq, sNext, sSet, sRet, sRetN, sIf, sAsg, sDrop, sPar, sBrk, sCnt, sFor, sStore, sAugI, sAug, dC, dVar, dTake, qVar, qE, aNil, aCons, dOp, dUn, dCallB, gets, Op.get, put, puts, dat_sh, dat_ow, dat_bw, dat_un, ty0, ty1, ty2, ty3, ty4, ty5, ty6, ty7, ty8, ty9, ty10, ty11, ty12, ty13, ty14, ty15, ty16, ty17, ty18, ty19, ty20, ty21, ty22, ty23, ty24, ty25, ty26, ty27, ty28, ty29, ty30, ty31, ty32, ty33, ty34, ty35, ty36, ty37, ty38, ty39, ty40, ty41, gIsi_non, gIsi_bl, gIsi_int, gIsi_str, gIsi_lst, gIsi_tup, gIsi_dct, gIsC, dMut0, mReverse, mPopAt, gEq_bl, gEq_strs, eq_self, Sl.cn, Sl.with, Cn.dat, Rv.dat, bOf, asB, bTr, gTruth, bAnd, bOr, bNot, dAnd, dOr, dNot, dIf, dChain, vNil, vCons, dTup, dLst, dDisp, psNil, psCons, keyed, D.key, gN, gT, gsNil, gsCons, rNil, rCons, srcE, srcR1, srcR2, srcR3, srcEnum, srcZip, srcC, srcV, itsOf, dLc, bYes, wipeD, agNil, agVal, agBor, mkArgs, bors, giveB, dCall, clean, dMut, slL, mAppend, mInsert, slC, cnSet, gAdd, gSubI, gDiv, gMod, gNeg, gCmpI, gIx, dSl, oNo, oE, gSl, dRev, dJoin, gAbs, gLen, gInt, gIsN, gList, Option.map_some, List.map_cons, List.map_nil, List.getElem?_cons_zero, List.getElem?_cons_succ, List.getElem?_nil, List.set_cons_zero, List.set_cons_succ, List.length_cons, List.length_nil, List.cons_append, List.nil_append, List.take_succ_cons, List.take_zero, List.replicate_succ, List.replicate_zero, gMin2, gMax2, gMax3, nodup1, List.nodup_nil, gEq_int, gEq_str, atI_0, atI_1, atI_2, atI_3, atI_4, atI_5, ixN_40, ixN_41, ixN_42, ixN_43, gMul, Nat.reduceAdd, Nat.reduceSub, Nat.zero_add, Option.isSome_some, true_and, and_true, Option.some.injEq, exists_and_left, exists_eq_left, exists_eq_left', id_eq, ite_true, ite_false, reduceIte, Bool.false_eq_true, decide_eq_true_eq]
      have hv : v = 0 ∨ v = 1 := by omega
      have st : ∀ x : Int, 0 < x → x ≤ m → (∃ n c m_1, [Sl.bw 0 c1, Sl.sh (D.int x)] = [Sl.bw 0 c, Sl.sh (D.int m_1)] ∧ Bag (n + 1) c ∧ 0 < m_1 ∧ m_1 < 2 ^ 200 ∧ ∀ v c', Bag n c' → 0 ≤ v → v < m_1 → N [Sl.bw 0 c', Sl.sh (D.int m), Sl.sh (D.int (1 + v)), .un, .un, .un, .un, .un, .un, .un, .un, .un]) := fun x hx0 hx1 =>
        ⟨n + 298, c1, x, rfl, hB1.le (by omega), hx0, by omega, fun v c' hB2 hv0 hv1 => hN _ ⟨c', 1 + v, rfl, hB2, by omega, by omega⟩⟩
      rcases hv with rfl | rfl
      · refine ⟨_, atI_0, ?_⟩
        obtain ⟨a, b, c, e, h1, h2, h3, h4⟩ := st (min 4 m) (by omega) (by omega)
        refine ⟨a, b, c, e, h1, h2, h3, fun v c' hB2 hv0 hv1 => ?_⟩
        simp only [sSeq, sNext, sSet, sRet, sRetN, sIf, sAsg, sDrop, sPar, sBrk, sCnt, sFor, sStore, sAugI, sAug, dC, dVar, dTake, qVar, qE, aNil, aCons, dOp, dUn, dCallB, gets, Op.get, put, puts, dat_sh, dat_ow, dat_bw, dat_un, ty0, ty1, ty2, ty3, ty4, ty5, ty6, ty7, ty8, ty9, ty10, ty11, ty12, ty13, ty14, ty15, ty16, ty17, ty18, ty19, ty20, ty21, ty22, ty23, ty24, ty25, ty26, ty27, ty28, ty29, ty30, ty31, ty32, ty33, ty34, ty35, ty36, ty37, ty38, ty39, ty40, ty41, gIsi_non, gIsi_bl, gIsi_int, gIsi_str, gIsi_lst, gIsi_tup, gIsi_dct, gIsC, dMut0, mReverse, mPopAt, gEq_bl, gEq_strs, eq_self, Sl.cn, Sl.with, Cn.dat, Rv.dat, bOf, asB, bTr, gTruth, bAnd, bOr, bNot, dAnd, dOr, dNot, dIf, dChain, vNil, vCons, dTup, dLst, dDisp, psNil, psCons, keyed, D.key, gN, gT, gsNil, gsCons, rNil, rCons, srcE, srcR1, srcR2, srcR3, srcEnum, srcZip, srcC, srcV, itsOf, dLc, bYes, wipeD, agNil, agVal, agBor, mkArgs, bors, giveB, dCall, clean, dMut, slL, mAppend, mInsert, slC, cnSet, gAdd, gSubI, gDiv, gMod, gNeg, gCmpI, gIx, dSl, oNo, oE, gSl, dRev, dJoin, gAbs, gLen, gInt, gIsN, gList, Option.map_some, List.map_cons, List.map_nil, List.getElem?_cons_zero, List.getElem?_cons_succ, List.getElem?_nil, List.set_cons_zero, List.set_cons_succ, List.length_cons, List.length_nil, List.cons_append, List.nil_append, List.take_succ_cons, List.take_zero, List.replicate_succ, List.replicate_zero, gMin2, gMax2, gMax3, nodup1, List.nodup_nil, gEq_int, gEq_str, atI_0, atI_1, atI_2, atI_3, atI_4, atI_5, ixN_40, ixN_41, ixN_42, ixN_43, gMul, Nat.reduceAdd, Nat.reduceSub, Nat.zero_add, Option.isSome_some, true_and, and_true, Option.some.injEq, exists_and_left, exists_eq_left, exists_eq_left', id_eq, ite_true, ite_false, reduceIte, Bool.false_eq_true, decide_eq_true_eq]
        exact h4 v c' hB2 hv0 hv1
      · refine ⟨_, atI_1, ?_⟩
        obtain ⟨a, b, c, e, h1, h2, h3, h4⟩ := st m (by omega) (by omega)
        refine ⟨a, b, c, e, h1, h2, h3, fun v c' hB2 hv0 hv1 => ?_⟩
        simp only [sSeq, sNext, sSet, sRet, sRetN, sIf, sAsg, sDrop, sPar, sBrk, sCnt, sFor, sStore, sAugI, sAug, dC, dVar, dTake, qVar, qE, aNil, aCons, dOp, dUn, dCallB, gets, Op.get, put, puts, dat_sh, dat_ow, dat_bw, dat_un, ty0, ty1, ty2, ty3, ty4, ty5, ty6, ty7, ty8, ty9, ty10, ty11, ty12, ty13, ty14, ty15, ty16, ty17, ty18, ty19, ty20, ty21, ty22, ty23, ty24, ty25, ty26, ty27, ty28, ty29, ty30, ty31, ty32, ty33, ty34, ty35, ty36, ty37, ty38, ty39, ty40, ty41, gIsi_non, gIsi_bl, gIsi_int, gIsi_str, gIsi_lst, gIsi_tup, gIsi_dct, gIsC, dMut0, mReverse, mPopAt, gEq_bl, gEq_strs, eq_self, Sl.cn, Sl.with, Cn.dat, Rv.dat, bOf, asB, bTr, gTruth, bAnd, bOr, bNot, dAnd, dOr, dNot, dIf, dChain, vNil, vCons, dTup, dLst, dDisp, psNil, psCons, keyed, D.key, gN, gT, gsNil, gsCons, rNil, rCons, srcE, srcR1, srcR2, srcR3, srcEnum, srcZip, srcC, srcV, itsOf, dLc, bYes, wipeD, agNil, agVal, agBor, mkArgs, bors, giveB, dCall, clean, dMut, slL, mAppend, mInsert, slC, cnSet, gAdd, gSubI, gDiv, gMod, gNeg, gCmpI, gIx, dSl, oNo, oE, gSl, dRev, dJoin, gAbs, gLen, gInt, gIsN, gList, Option.map_some, List.map_cons, List.map_nil, List.getElem?_cons_zero, List.getElem?_cons_succ, List.getElem?_nil, List.set_cons_zero, List.set_cons_succ, List.length_cons, List.length_nil, List.cons_append, List.nil_append, List.take_succ_cons, List.take_zero, List.replicate_succ, List.replicate_zero, gMin2, gMax2, gMax3, nodup1, List.nodup_nil, gEq_int, gEq_str, atI_0, atI_1, atI_2, atI_3, atI_4, atI_5, ixN_40, ixN_41, ixN_42, ixN_43, gMul, Nat.reduceAdd, Nat.reduceSub, Nat.zero_add, Option.isSome_some, true_and, and_true, Option.some.injEq, exists_and_left, exists_eq_left, exists_eq_left', id_eq, ite_true, ite_false, reduceIte, Bool.false_eq_true, decide_eq_true_eq]
        exact h4 v c' hB2 hv0 hv1
    · rintro ρ' ⟨c1, q, rfl, hB1, hq0, hq1⟩
      refine sSeq_go fun N0 h0 => ?_
      simp only [sSeq, sNext, sSet, sRet, sRetN, sIf, sAsg, sDrop, sPar, sBrk, sCnt, sFor, sStore, sAugI, sAug, dC, dVar, dTake, qVar, qE, aNil, aCons, dOp, dUn, dCallB, gets, Op.get, put, puts, dat_sh, dat_ow, dat_bw, dat_un, ty0, ty1, ty2, ty3, ty4, ty5, ty6, ty7, ty8, ty9, ty10, ty11, ty12, ty13, ty14, ty15, ty16, ty17, ty18, ty19, ty20, ty21, ty22, ty23, ty24, ty25, ty26, ty27, ty28, ty29, ty30, ty31, ty32, ty33, ty34, ty35, ty36, ty37, ty38, ty39, ty40, ty41, gIsi_non, gIsi_bl, gIsi_int, gIsi_str, gIsi_lst, gIsi_tup, gIsi_dct, gIsC, dMut0, mReverse, mPopAt, gEq_bl, gEq_strs, eq_self, Sl.cn, Sl.with, Cn.dat, Rv.dat, bOf, asB, bTr, gTruth, bAnd, bOr, bNot, dAnd, dOr, dNot, dIf, dChain, vNil, vCons, dTup, dLst, dDisp, psNil, psCons, keyed, D.key, gN, gT, gsNil, gsCons, rNil, rCons, srcE, srcR1, srcR2, srcR3, srcEnum, srcZip, srcC, srcV, itsOf, dLc, bYes, wipeD, agNil, agVal, agBor, mkArgs, bors, giveB, dCall, clean, dMut, slL, mAppend, mInsert, slC, cnSet, gAdd, gSubI, gDiv, gMod, gNeg, gCmpI, gIx, dSl, oNo, oE, gSl, dRev, dJoin, gAbs, gLen, gInt, gIsN, gList, Option.map_some, List.map_cons, List.map_nil, List.getElem?_cons_zero, List.getElem?_cons_succ, List.getElem?_nil, List.set_cons_zero, List.set_cons_succ, List.length_cons, List.length_nil, List.cons_append, List.nil_append, List.take_succ_cons, List.take_zero, List.replicate_succ, List.replicate_zero, gMin2, gMax2, gMax3, nodup1, List.nodup_nil, gEq_int, gEq_str, atI_0, atI_1, atI_2, atI_3, atI_4, atI_5, ixN_40, ixN_41, ixN_42, ixN_43, gMul, Nat.reduceAdd, Nat.reduceSub, Nat.zero_add, Option.isSome_some, true_and, and_true, Option.some.injEq, exists_and_left, exists_eq_left, exists_eq_left', id_eq, ite_true, ite_false, reduceIte, Bool.false_eq_true, decide_eq_true_eq]
      refine ⟨n + 278, c1, q, rfl, hB1.le (by omega), by omega, by omega, fun names c2 hB2 hNm => ?_⟩
      simp only [sSeq, sNext, sSet, sRet, sRetN, sIf, sAsg, sDrop, sPar, sBrk, sCnt, sFor, sStore, sAugI, sAug, dC, dVar, dTake, qVar, qE, aNil, aCons, dOp, dUn, dCallB, gets, Op.get, put, puts, dat_sh, dat_ow, dat_bw, dat_un, ty0, ty1, ty2, ty3, ty4, ty5, ty6, ty7, ty8, ty9, ty10, ty11, ty12, ty13, ty14, ty15, ty16, ty17, ty18, ty19, ty20, ty21, ty22, ty23, ty24, ty25, ty26, ty27, ty28, ty29, ty30, ty31, ty32, ty33, ty34, ty35, ty36, ty37, ty38, ty39, ty40, ty41, gIsi_non, gIsi_bl, gIsi_int, gIsi_str, gIsi_lst, gIsi_tup, gIsi_dct, gIsC, dMut0, mReverse, mPopAt, gEq_bl, gEq_strs, eq_self, Sl.cn, Sl.with, Cn.dat, Rv.dat, bOf, asB, bTr, gTruth, bAnd, bOr, bNot, dAnd, dOr, dNot, dIf, dChain, vNil, vCons, dTup, dLst, dDisp, psNil, psCons, keyed, D.key, gN, gT, gsNil, gsCons, rNil, rCons, srcE, srcR1, srcR2, srcR3, srcEnum, srcZip, srcC, srcV, itsOf, dLc, bYes, wipeD, agNil, agVal, agBor, mkArgs, bors, giveB, dCall, clean, dMut, slL, mAppend, mInsert, slC, cnSet, gAdd, gSubI, gDiv, gMod, gNeg, gCmpI, gIx, dSl, oNo, oE, gSl, dRev, dJoin, gAbs, gLen, gInt, gIsN, gList, Option.map_some, List.map_cons, List.map_nil, List.getElem?_cons_zero, List.getElem?_cons_succ, List.getElem?_nil, List.set_cons_zero, List.set_cons_succ, List.length_cons, List.length_nil, List.cons_append, List.nil_append, List.take_succ_cons, List.take_zero, List.replicate_succ, List.replicate_zero, gMin2, gMax2, gMax3, nodup1, List.nodup_nil, gEq_int, gEq_str, atI_0, atI_1, atI_2, atI_3, atI_4, atI_5, ixN_40, ixN_41, ixN_42, ixN_43, gMul, Nat.reduceAdd, Nat.reduceSub, Nat.zero_add, Option.isSome_some, true_and, and_true, Option.some.injEq, exists_and_left, exists_eq_left, exists_eq_left', id_eq, ite_true, ite_false, reduceIte, Bool.false_eq_true, decide_eq_true_eq]
      refine ⟨le_size (by decide), h0 _ ?_⟩
      clear h0
      refine sSeq_go fun N0 h0 => ?_
      simp only [sSeq, sNext, sSet, sRet, sRetN, sIf, sAsg, sDrop, sPar, sBrk, sCnt, sFor, sStore, sAugI, sAug, dC, dVar, dTake, qVar, qE, aNil, aCons, dOp, dUn, dCallB, gets, Op.get, put, puts, dat_sh, dat_ow, dat_bw, dat_un, ty0, ty1, ty2, ty3, ty4, ty5, ty6, ty7, ty8, ty9, ty10, ty11, ty12, ty13, ty14, ty15, ty16, ty17, ty18, ty19, ty20, ty21, ty22, ty23, ty24, ty25, ty26, ty27, ty28, ty29, ty30, ty31, ty32, ty33, ty34, ty35, ty36, ty37, ty38, ty39, ty40, ty41, gIsi_non, gIsi_bl, gIsi_int, gIsi_str, gIsi_lst, gIsi_tup, gIsi_dct, gIsC, dMut0, mReverse, mPopAt, gEq_bl, gEq_strs, eq_self, Sl.cn, Sl.with, Cn.dat, Rv.dat, bOf, asB, bTr, gTruth, bAnd, bOr, bNot, dAnd, dOr, dNot, dIf, dChain, vNil, vCons, dTup, dLst, dDisp, psNil, psCons, keyed, D.key, gN, gT, gsNil, gsCons, rNil, rCons, srcE, srcR1, srcR2, srcR3, srcEnum, srcZip, srcC, srcV, itsOf, dLc, bYes, wipeD, agNil, agVal, agBor, mkArgs, bors, giveB, dCall, clean, dMut, slL, mAppend, mInsert, slC, cnSet, gAdd, gSubI, gDiv, gMod, gNeg, gCmpI, gIx, dSl, oNo, oE, gSl, dRev, dJoin, gAbs, gLen, gInt, gIsN, gList, Option.map_some, List.map_cons, List.map_nil, List.getElem?_cons_zero, List.getElem?_cons_succ, List.getElem?_nil, List.set_cons_zero, List.set_cons_succ, List.length_cons, List.length_nil, List.cons_append, List.nil_append, List.take_succ_cons, List.take_zero, List.replicate_succ, List.replicate_zero, gMin2, gMax2, gMax3, nodup1, List.nodup_nil, gEq_int, gEq_str, atI_0, atI_1, atI_2, atI_3, atI_4, atI_5, ixN_40, ixN_41, ixN_42, ixN_43, gMul, Nat.reduceAdd, Nat.reduceSub, Nat.zero_add, Option.isSome_some, true_and, and_true, Option.some.injEq, exists_and_left, exists_eq_left, exists_eq_left', id_eq, ite_true, ite_false, reduceIte, Bool.false_eq_true, decide_eq_true_eq]
      refine ⟨n + 277, c2, 6, rfl, hB2.le (by omega), by decide, by decide, fun style c3 hB3 hs0 hs1 => ?_⟩
      simp only [sSeq, sNext, sSet, sRet, sRetN, sIf, sAsg, sDrop, sPar, sBrk, sCnt, sFor, sStore, sAugI, sAug, dC, dVar, dTake, qVar, qE, aNil, aCons, dOp, dUn, dCallB, gets, Op.get, put, puts, dat_sh, dat_ow, dat_bw, dat_un, ty0, ty1, ty2, ty3, ty4, ty5, ty6, ty7, ty8, ty9, ty10, ty11, ty12, ty13, ty14, ty15, ty16, ty17, ty18, ty19, ty20, ty21, ty22, ty23, ty24, ty25, ty26, ty27, ty28, ty29, ty30, ty31, ty32, ty33, ty34, ty35, ty36, ty37, ty38, ty39, ty40, ty41, gIsi_non, gIsi_bl, gIsi_int, gIsi_str, gIsi_lst, gIsi_tup, gIsi_dct, gIsC, dMut0, mReverse, mPopAt, gEq_bl, gEq_strs, eq_self, Sl.cn, Sl.with, Cn.dat, Rv.dat, bOf, asB, bTr, gTruth, bAnd, bOr, bNot, dAnd, dOr, dNot, dIf, dChain, vNil, vCons, dTup, dLst, dDisp, psNil, psCons, keyed, D.key, gN, gT, gsNil, gsCons, rNil, rCons, srcE, srcR1, srcR2, srcR3, srcEnum, srcZip, srcC, srcV, itsOf, dLc, bYes, wipeD, agNil, agVal, agBor, mkArgs, bors, giveB, dCall, clean, dMut, slL, mAppend, mInsert, slC, cnSet, gAdd, gSubI, gDiv, gMod, gNeg, gCmpI, gIx, dSl, oNo, oE, gSl, dRev, dJoin, gAbs, gLen, gInt, gIsN, gList, Option.map_some, List.map_cons, List.map_nil, List.getElem?_cons_zero, List.getElem?_cons_succ, List.getElem?_nil, List.set_cons_zero, List.set_cons_succ, List.length_cons, List.length_nil, List.cons_append, List.nil_append, List.take_succ_cons, List.take_zero, List.replicate_succ, List.replicate_zero, gMin2, gMax2, gMax3, nodup1, List.nodup_nil, gEq_int, gEq_str, atI_0, atI_1, atI_2, atI_3, atI_4, atI_5, ixN_40, ixN_41, ixN_42, ixN_43, gMul, Nat.reduceAdd, Nat.reduceSub, Nat.zero_add, Option.isSome_some, true_and, and_true, Option.some.injEq, exists_and_left, exists_eq_left, exists_eq_left', id_eq, ite_true, ite_false, reduceIte, Bool.false_eq_true, decide_eq_true_eq]
      refine ⟨n + 276, c3, 3, rfl, hB3.le (by omega), by decide, by decide, fun loops c4 hB4 ho0 ho1 => ?_⟩
      simp only [sSeq, sNext, sSet, sRet, sRetN, sIf, sAsg, sDrop, sPar, sBrk, sCnt, sFor, sStore, sAugI, sAug, dC, dVar, dTake, qVar, qE, aNil, aCons, dOp, dUn, dCallB, gets, Op.get, put, puts, dat_sh, dat_ow, dat_bw, dat_un, ty0, ty1, ty2, ty3, ty4, ty5, ty6, ty7, ty8, ty9, ty10, ty11, ty12, ty13, ty14, ty15, ty16, ty17, ty18, ty19, ty20, ty21, ty22, ty23, ty24, ty25, ty26, ty27, ty28, ty29, ty30, ty31, ty32, ty33, ty34, ty35, ty36, ty37, ty38, ty39, ty40, ty41, gIsi_non, gIsi_bl, gIsi_int, gIsi_str, gIsi_lst, gIsi_tup, gIsi_dct, gIsC, dMut0, mReverse, mPopAt, gEq_bl, gEq_strs, eq_self, Sl.cn, Sl.with, Cn.dat, Rv.dat, bOf, asB, bTr, gTruth, bAnd, bOr, bNot, dAnd, dOr, dNot, dIf, dChain, vNil, vCons, dTup, dLst, dDisp, psNil, psCons, keyed, D.key, gN, gT, gsNil, gsCons, rNil, rCons, srcE, srcR1, srcR2, srcR3, srcEnum, srcZip, srcC, srcV, itsOf, dLc, bYes, wipeD, agNil, agVal, agBor, mkArgs, bors, giveB, dCall, clean, dMut, slL, mAppend, mInsert, slC, cnSet, gAdd, gSubI, gDiv, gMod, gNeg, gCmpI, gIx, dSl, oNo, oE, gSl, dRev, dJoin, gAbs, gLen, gInt, gIsN, gList, Option.map_some, List.map_cons, List.map_nil, List.getElem?_cons_zero, List.getElem?_cons_succ, List.getElem?_nil, List.set_cons_zero, List.set_cons_succ, List.length_cons, List.length_nil, List.cons_append, List.nil_append, List.take_succ_cons, List.take_zero, List.replicate_succ, List.replicate_zero, gMin2, gMax2, gMax3, nodup1, List.nodup_nil, gEq_int, gEq_str, atI_0, atI_1, atI_2, atI_3, atI_4, atI_5, ixN_40, ixN_41, ixN_42, ixN_43, gMul, Nat.reduceAdd, Nat.reduceSub, Nat.zero_add, Option.isSome_some, true_and, and_true, Option.some.injEq, exists_and_left, exists_eq_left, exists_eq_left', id_eq, ite_true, ite_false, reduceIte, Bool.false_eq_true, decide_eq_true_eq]
      refine h0 _ ?_
      clear h0
      obtain ⟨hn1, hn2⟩ := hNm
      refine sSeq_cut (fun ρ' => ∃ (c' : Cn) (pairs : List (Str × Str)) (s7 s8 s9 s10 s11 : Sl), ρ' = [.bw 0 c', .sh (.int m), .sh (.int q), .ow (.l (names.map D.str)), .ow (.l (pairs.map PairD)), .sh (.int style), .sh (.int loops), s7, s8, s9, s10, s11] ∧ Bag n c' ∧ PlanOk m names pairs) (fun N hN => ?_) ?_
      · simp only [sSeq, sNext, sSet, sRet, sRetN, sIf, sAsg, sDrop, sPar, sBrk, sCnt, sFor, sStore, sAugI, sAug, dC, dVar, dTake, qVar, qE, aNil, aCons, dOp, dUn, dCallB, gets, Op.get, put, puts, dat_sh, dat_ow, dat_bw, dat_un, ty0, ty1, ty2, ty3, ty4, ty5, ty6, ty7, ty8, ty9, ty10, ty11, ty12, ty13, ty14, ty15, ty16, ty17, ty18, ty19, ty20, ty21, ty22, ty23, ty24, ty25, ty26, ty27, ty28, ty29, ty30, ty31, ty32, ty33, ty34, ty35, ty36, ty37, ty38, ty39, ty40, ty41, gIsi_non, gIsi_bl, gIsi_int, gIsi_str, gIsi_lst, gIsi_tup, gIsi_dct, gIsC, dMut0, mReverse, mPopAt, gEq_bl, gEq_strs, eq_self, Sl.cn, Sl.with, Cn.dat, Rv.dat, bOf, asB, bTr, gTruth, bAnd, bOr, bNot, dAnd, dOr, dNot, dIf, dChain, vNil, vCons, dTup, dLst, dDisp, psNil, psCons, keyed, D.key, gN, gT, gsNil, gsCons, rNil, rCons, srcE, srcR1, srcR2, srcR3, srcEnum, srcZip, srcC, srcV, itsOf, dLc, bYes, wipeD, agNil, agVal, agBor, mkArgs, bors, giveB, dCall, clean, dMut, slL, mAppend, mInsert, slC, cnSet, gAdd, gSubI, gDiv, gMod, gNeg, gCmpI, gIx, dSl, oNo, oE, gSl, dRev, dJoin, gAbs, gLen, gInt, gIsN, gList, Option.map_some, List.map_cons, List.map_nil, List.getElem?_cons_zero, List.getElem?_cons_succ, List.getElem?_nil, List.set_cons_zero, List.set_cons_succ, List.length_cons, List.length_nil, List.cons_append, List.nil_append, List.take_succ_cons, List.take_zero, List.replicate_succ, List.replicate_zero, gMin2, gMax2, gMax3, nodup1, List.nodup_nil, gEq_int, gEq_str, atI_0, atI_1, atI_2, atI_3, atI_4, atI_5, ixN_40, ixN_41, ixN_42, ixN_43, gMul, Nat.reduceAdd, Nat.reduceSub, Nat.zero_add, Option.isSome_some, true_and, and_true, Option.some.injEq, exists_and_left, exists_eq_left, exists_eq_left', id_eq, ite_true, ite_false, reduceIte, Bool.false_eq_true, decide_eq_true_eq, big]
        refine ⟨by omega, by omega, forL_rng (fun i ρ => ∃ (c' : Cn) (pairs : List (Str × Str)) (s7 s8 s9 s10 s11 : Sl), ρ = [.bw 0 c', .sh (.int m), .sh (.int q), .ow (.l (names.map D.str)), .ow (.l (pairs.map PairD)), .sh (.int style), .sh (.int loops), s7, s8, s9, s10, s11] ∧
          Bag (n + (276 - 30 * i)) c' ∧ (∀ p ∈ pairs, p.1 ∈ names ∧ p.2 ∈ names) ∧ pairs.length ≤ 10 * i) ⟨c4, [], _, _, _, _, _, rfl, hB4, by simp, by simp⟩ ?_ ?_⟩
        · rintro ρ ⟨c', pairs, s7, s8, s9, s10, s11, rfl, hB5, hp, hpl⟩
          exact hN _ ⟨c', pairs, s7, s8, s9, s10, s11, rfl, hB5.le (by omega), by omega, by omega, hn2, hp, by omega⟩
        · rintro i ρ N3 hi hN3 ⟨c', pairs, s7, s8, s9, s10, s11, rfl, hB5, hp, hpl⟩
          simp only [sSeq, sNext, sSet, sRet, sRetN, sIf, sAsg, sDrop, sPar, sBrk, sCnt, sFor, sStore, sAugI, sAug, dC, dVar, dTake, qVar, qE, aNil, aCons, dOp, dUn, dCallB, gets, Op.get, put, puts, dat_sh, dat_ow, dat_bw, dat_un, ty0, ty1, ty2, ty3, ty4, ty5, ty6, ty7, ty8, ty9, ty10, ty11, ty12, ty13, ty14, ty15, ty16, ty17, ty18, ty19, ty20, ty21, ty22, ty23, ty24, ty25, ty26, ty27, ty28, ty29, ty30, ty31, ty32, ty33, ty34, ty35, ty36, ty37, ty38, ty39, ty40, ty41, gIsi_non, gIsi_bl, gIsi_int, gIsi_str, gIsi_lst, gIsi_tup, gIsi_dct, gIsC, dMut0, mReverse, mPopAt, gEq_bl, gEq_strs, eq_self, Sl.cn, Sl.with, Cn.dat, Rv.dat, bOf, asB, bTr, gTruth, bAnd, bOr, bNot, dAnd, dOr, dNot, dIf, dChain, vNil, vCons, dTup, dLst, dDisp, psNil, psCons, keyed, D.key, gN, gT, gsNil, gsCons, rNil, rCons, srcE, srcR1, srcR2, srcR3, srcEnum, srcZip, srcC, srcV, itsOf, dLc, bYes, wipeD, agNil, agVal, agBor, mkArgs, bors, giveB, dCall, clean, dMut, slL, mAppend, mInsert, slC, cnSet, gAdd, gSubI, gDiv, gMod, gNeg, gCmpI, gIx, dSl, oNo, oE, gSl, dRev, dJoin, gAbs, gLen, gInt, gIsN, gList, Option.map_some, List.map_cons, List.map_nil, List.getElem?_cons_zero, List.getElem?_cons_succ, List.getElem?_nil, List.set_cons_zero, List.set_cons_succ, List.length_cons, List.length_nil, List.cons_append, List.nil_append, List.take_succ_cons, List.take_zero, List.replicate_succ, List.replicate_zero, gMin2, gMax2, gMax3, nodup1, List.nodup_nil, gEq_int, gEq_str, atI_0, atI_1, atI_2, atI_3, atI_4, atI_5, ixN_40, ixN_41, ixN_42, ixN_43, gMul, Nat.reduceAdd, Nat.reduceSub, Nat.zero_add, Option.isSome_some, true_and, and_true, Option.some.injEq, exists_and_left, exists_eq_left, exists_eq_left', id_eq, ite_true, ite_false, reduceIte, Bool.false_eq_true, decide_eq_true_eq, big]
          refine ⟨by omega, by omega, forL_rng (fun j ρ => ∃ (c' : Cn) (pairs : List (Str × Str)) (s8 s9 s10 s11 : Sl), ρ = [.bw 0 c', .sh (.int m), .sh (.int q), .ow (.l (names.map D.str)), .ow (.l (pairs.map PairD)), .sh (.int style), .sh (.int loops), .sh (.int (0 + (i : Int) * 1)), s8, s9, s10, s11] ∧
            Bag (n + (276 - 30 * i - 3 * j)) c' ∧ (∀ p ∈ pairs, p.1 ∈ names ∧ p.2 ∈ names) ∧ pairs.length ≤ 10 * i + j) ⟨c', pairs, _, _, _, _, rfl, hB5, hp, hpl⟩ ?_ ?_⟩
          · rintro ρ ⟨c', pairs, s8, s9, s10, s11, rfl, hB5, hp, hpl⟩
            exact hN3 _ ⟨c', pairs, _, _, _, _, _, rfl, hB5.le (by omega), hp, by omega⟩
          · rintro j ρ N4 hj hN4 ⟨c', pairs, s8, s9, s10, s11, rfl, hB5, hp, hpl⟩
            simp only [gN, List.set_cons_succ, List.set_cons_zero]
            generalize hK : (0 + (i : Int) * 1) = K at hN4 ⊢
            generalize hJ : (0 + (j : Int) * 1) = J
            refine sSeq_cut (fun ρ' => ∃ b : Bool, ρ' = [.bw 0 c', .sh (.int m), .sh (.int q), .ow (.l (names.map D.str)), .ow (.l (pairs.map PairD)), .sh (.int style), .sh (.int loops), .sh (.int K), .sh (.int J), .sh (.bl b), s10, s11]) (fun N5 hN5 => ?_) ?_
            · simp only [sSeq, sNext, sSet, sRet, sRetN, sIf, sAsg, sDrop, sPar, sBrk, sCnt, sFor, sStore, sAugI, sAug, dC, dVar, dTake, qVar, qE, aNil, aCons, dOp, dUn, dCallB, gets, Op.get, put, puts, dat_sh, dat_ow, dat_bw, dat_un, ty0, ty1, ty2, ty3, ty4, ty5, ty6, ty7, ty8, ty9, ty10, ty11, ty12, ty13, ty14, ty15, ty16, ty17, ty18, ty19, ty20, ty21, ty22, ty23, ty24, ty25, ty26, ty27, ty28, ty29, ty30, ty31, ty32, ty33, ty34, ty35, ty36, ty37, ty38, ty39, ty40, ty41, gIsi_non, gIsi_bl, gIsi_int, gIsi_str, gIsi_lst, gIsi_tup, gIsi_dct, gIsC, dMut0, mReverse, mPopAt, gEq_bl, gEq_strs, eq_self, Sl.cn, Sl.with, Cn.dat, Rv.dat, bOf, asB, bTr, gTruth, bAnd, bOr, bNot, dAnd, dOr, dNot, dIf, dChain, vNil, vCons, dTup, dLst, dDisp, psNil, psCons, keyed, D.key, gN, gT, gsNil, gsCons, rNil, rCons, srcE, srcR1, srcR2, srcR3, srcEnum, srcZip, srcC, srcV, itsOf, dLc, bYes, wipeD, agNil, agVal, agBor, mkArgs, bors, giveB, dCall, clean, dMut, slL, mAppend, mInsert, slC, cnSet, gAdd, gSubI, gDiv, gMod, gNeg, gCmpI, gIx, dSl, oNo, oE, gSl, dRev, dJoin, gAbs, gLen, gInt, gIsN, gList, Option.map_some, List.map_cons, List.map_nil, List.getElem?_cons_zero, List.getElem?_cons_succ, List.getElem?_nil, List.set_cons_zero, List.set_cons_succ, List.length_cons, List.length_nil, List.cons_append, List.nil_append, List.take_succ_cons, List.take_zero, List.replicate_succ, List.replicate_zero, gMin2, gMax2, gMax3, nodup1, List.nodup_nil, gEq_int, gEq_str, atI_0, atI_1, atI_2, atI_3, atI_4, atI_5, ixN_40, ixN_41, ixN_42, ixN_43, gMul, Nat.reduceAdd, Nat.reduceSub, Nat.zero_add, Option.isSome_some, true_and, and_true, Option.some.injEq, exists_and_left, exists_eq_left, exists_eq_left', id_eq, ite_true, ite_false, reduceIte, Bool.false_eq_true, decide_eq_true_eq]
              repeat' split
              all_goals exact hN5 _ ⟨_, rfl⟩
            · rintro ρ' ⟨b, rfl⟩
              refine sSeq_cut (fun ρ' => ∃ o : Int, ρ' = [.bw 0 c', .sh (.int m), .sh (.int q), .ow (.l (names.map D.str)), .ow (.l (pairs.map PairD)), .sh (.int style), .sh (.int loops), .sh (.int K), .sh (.int J), .sh (.bl b), .sh (.int o), s11]) (fun N5 hN5 => ?_) ?_
              · simp only [sSeq, sNext, sSet, sRet, sRetN, sIf, sAsg, sDrop, sPar, sBrk, sCnt, sFor, sStore, sAugI, sAug, dC, dVar, dTake, qVar, qE, aNil, aCons, dOp, dUn, dCallB, gets, Op.get, put, puts, dat_sh, dat_ow, dat_bw, dat_un, ty0, ty1, ty2, ty3, ty4, ty5, ty6, ty7, ty8, ty9, ty10, ty11, ty12, ty13, ty14, ty15, ty16, ty17, ty18, ty19, ty20, ty21, ty22, ty23, ty24, ty25, ty26, ty27, ty28, ty29, ty30, ty31, ty32, ty33, ty34, ty35, ty36, ty37, ty38, ty39, ty40, ty41, gIsi_non, gIsi_bl, gIsi_int, gIsi_str, gIsi_lst, gIsi_tup, gIsi_dct, gIsC, dMut0, mReverse, mPopAt, gEq_bl, gEq_strs, eq_self, Sl.cn, Sl.with, Cn.dat, Rv.dat, bOf, asB, bTr, gTruth, bAnd, bOr, bNot, dAnd, dOr, dNot, dIf, dChain, vNil, vCons, dTup, dLst, dDisp, psNil, psCons, keyed, D.key, gN, gT, gsNil, gsCons, rNil, rCons, srcE, srcR1, srcR2, srcR3, srcEnum, srcZip, srcC, srcV, itsOf, dLc, bYes, wipeD, agNil, agVal, agBor, mkArgs, bors, giveB, dCall, clean, dMut, slL, mAppend, mInsert, slC, cnSet, gAdd, gSubI, gDiv, gMod, gNeg, gCmpI, gIx, dSl, oNo, oE, gSl, dRev, dJoin, gAbs, gLen, gInt, gIsN, gList, Option.map_some, List.map_cons, List.map_nil, List.getElem?_cons_zero, List.getElem?_cons_succ, List.getElem?_nil, List.set_cons_zero, List.set_cons_succ, List.length_cons, List.length_nil, List.cons_append, List.nil_append, List.take_succ_cons, List.take_zero, List.replicate_succ, List.replicate_zero, gMin2, gMax2, gMax3, nodup1, List.nodup_nil, gEq_int, gEq_str, atI_0, atI_1, atI_2, atI_3, atI_4, atI_5, ixN_40, ixN_41, ixN_42, ixN_43, gMul, Nat.reduceAdd, Nat.reduceSub, Nat.zero_add, Option.isSome_some, true_and, and_true, Option.some.injEq, exists_and_left, exists_eq_left, exists_eq_left', id_eq, ite_true, ite_false, reduceIte, Bool.false_eq_true, decide_eq_true_eq]
                have hcm : CMulW 4 (if b = true then 1 else 0) := by cases b <;> exact cMul_of (by decide) (by decide)
                refine ⟨hcm, hcm, le_size (by decide), ?_⟩
                have hs : style = 0 ∨ style = 1 ∨ style = 2 ∨ style = 3 ∨ style = 4 ∨ style = 5 := by omega
                rcases hs with rfl | rfl | rfl | rfl | rfl | rfl
                · exact ⟨_, atI_0, hN5 _ ⟨_, rfl⟩⟩
                · exact ⟨_, atI_1, hN5 _ ⟨_, rfl⟩⟩
                · exact ⟨_, atI_2, hN5 _ ⟨_, rfl⟩⟩
                · exact ⟨_, atI_3, hN5 _ ⟨_, rfl⟩⟩
                · exact ⟨_, atI_4, hN5 _ ⟨_, rfl⟩⟩
                · exact ⟨_, atI_5, hN5 _ ⟨_, rfl⟩⟩
              · rintro ρ' ⟨o, rfl⟩
                refine sSeq_cut (fun ρ' => ∃ o : Int, ρ' = [.bw 0 c', .sh (.int m), .sh (.int q), .ow (.l (names.map D.str)), .ow (.l (pairs.map PairD)), .sh (.int style), .sh (.int loops), .sh (.int K), .sh (.int J), .sh (.bl b), .sh (.int o), s11]) (fun N5 hN5 => ?_) ?_
                · refine sIf_go fun T hT hF => ?_
                  simp only [sSeq, sNext, sSet, sRet, sRetN, sIf, sAsg, sDrop, sPar, sBrk, sCnt, sFor, sStore, sAugI, sAug, dC, dVar, dTake, qVar, qE, aNil, aCons, dOp, dUn, dCallB, gets, Op.get, put, puts, dat_sh, dat_ow, dat_bw, dat_un, ty0, ty1, ty2, ty3, ty4, ty5, ty6, ty7, ty8, ty9, ty10, ty11, ty12, ty13, ty14, ty15, ty16, ty17, ty18, ty19, ty20, ty21, ty22, ty23, ty24, ty25, ty26, ty27, ty28, ty29, ty30, ty31, ty32, ty33, ty34, ty35, ty36, ty37, ty38, ty39, ty40, ty41, gIsi_non, gIsi_bl, gIsi_int, gIsi_str, gIsi_lst, gIsi_tup, gIsi_dct, gIsC, dMut0, mReverse, mPopAt, gEq_bl, gEq_strs, eq_self, Sl.cn, Sl.with, Cn.dat, Rv.dat, bOf, asB, bTr, gTruth, bAnd, bOr, bNot, dAnd, dOr, dNot, dIf, dChain, vNil, vCons, dTup, dLst, dDisp, psNil, psCons, keyed, D.key, gN, gT, gsNil, gsCons, rNil, rCons, srcE, srcR1, srcR2, srcR3, srcEnum, srcZip, srcC, srcV, itsOf, dLc, bYes, wipeD, agNil, agVal, agBor, mkArgs, bors, giveB, dCall, clean, dMut, slL, mAppend, mInsert, slC, cnSet, gAdd, gSubI, gDiv, gMod, gNeg, gCmpI, gIx, dSl, oNo, oE, gSl, dRev, dJoin, gAbs, gLen, gInt, gIsN, gList, Option.map_some, List.map_cons, List.map_nil, List.getElem?_cons_zero, List.getElem?_cons_succ, List.getElem?_nil, List.set_cons_zero, List.set_cons_succ, List.length_cons, List.length_nil, List.cons_append, List.nil_append, List.take_succ_cons, List.take_zero, List.replicate_succ, List.replicate_zero, gMin2, gMax2, gMax3, nodup1, List.nodup_nil, gEq_int, gEq_str, atI_0, atI_1, atI_2, atI_3, atI_4, atI_5, ixN_40, ixN_41, ixN_42, ixN_43, gMul, Nat.reduceAdd, Nat.reduceSub, Nat.zero_add, Option.isSome_some, true_and, and_true, Option.some.injEq, exists_and_left, exists_eq_left, exists_eq_left', id_eq, ite_true, ite_false, reduceIte, Bool.false_eq_true, decide_eq_true_eq]
                  by_cases e : J = K
                  · rw [decide_eq_true e]
                    refine hT _ ?_
                    simp only [sSeq, sNext, sSet, sRet, sRetN, sIf, sAsg, sDrop, sPar, sBrk, sCnt, sFor, sStore, sAugI, sAug, dC, dVar, dTake, qVar, qE, aNil, aCons, dOp, dUn, dCallB, gets, Op.get, put, puts, dat_sh, dat_ow, dat_bw, dat_un, ty0, ty1, ty2, ty3, ty4, ty5, ty6, ty7, ty8, ty9, ty10, ty11, ty12, ty13, ty14, ty15, ty16, ty17, ty18, ty19, ty20, ty21, ty22, ty23, ty24, ty25, ty26, ty27, ty28, ty29, ty30, ty31, ty32, ty33, ty34, ty35, ty36, ty37, ty38, ty39, ty40, ty41, gIsi_non, gIsi_bl, gIsi_int, gIsi_str, gIsi_lst, gIsi_tup, gIsi_dct, gIsC, dMut0, mReverse, mPopAt, gEq_bl, gEq_strs, eq_self, Sl.cn, Sl.with, Cn.dat, Rv.dat, bOf, asB, bTr, gTruth, bAnd, bOr, bNot, dAnd, dOr, dNot, dIf, dChain, vNil, vCons, dTup, dLst, dDisp, psNil, psCons, keyed, D.key, gN, gT, gsNil, gsCons, rNil, rCons, srcE, srcR1, srcR2, srcR3, srcEnum, srcZip, srcC, srcV, itsOf, dLc, bYes, wipeD, agNil, agVal, agBor, mkArgs, bors, giveB, dCall, clean, dMut, slL, mAppend, mInsert, slC, cnSet, gAdd, gSubI, gDiv, gMod, gNeg, gCmpI, gIx, dSl, oNo, oE, gSl, dRev, dJoin, gAbs, gLen, gInt, gIsN, gList, Option.map_some, List.map_cons, List.map_nil, List.getElem?_cons_zero, List.getElem?_cons_succ, List.getElem?_nil, List.set_cons_zero, List.set_cons_succ, List.length_cons, List.length_nil, List.cons_append, List.nil_append, List.take_succ_cons, List.take_zero, List.replicate_succ, List.replicate_zero, gMin2, gMax2, gMax3, nodup1, List.nodup_nil, gEq_int, gEq_str, atI_0, atI_1, atI_2, atI_3, atI_4, atI_5, ixN_40, ixN_41, ixN_42, ixN_43, gMul, Nat.reduceAdd, Nat.reduceSub, Nat.zero_add, Option.isSome_some, true_and, and_true, Option.some.injEq, exists_and_left, exists_eq_left, exists_eq_left', id_eq, ite_true, ite_false, reduceIte, Bool.false_eq_true, decide_eq_true_eq]
                    refine ⟨le_size (by decide), ?_⟩
                    have hs : loops = 0 ∨ loops = 1 ∨ loops = 2 := by omega
                    rcases hs with rfl | rfl | rfl
                    · exact ⟨_, atI_0, hN5 _ ⟨_, rfl⟩⟩
                    · exact ⟨_, atI_1, hN5 _ ⟨_, rfl⟩⟩
                    · exact ⟨_, atI_2, hN5 _ ⟨_, rfl⟩⟩
                  · rw [decide_eq_false e]
                    refine hF _ ?_
                    exact hN5 _ ⟨_, rfl⟩
                · rintro ρ' ⟨o, rfl⟩
                  refine sIf_go fun T hT hF => ?_
                  simp only [sSeq, sNext, sSet, sRet, sRetN, sIf, sAsg, sDrop, sPar, sBrk, sCnt, sFor, sStore, sAugI, sAug, dC, dVar, dTake, qVar, qE, aNil, aCons, dOp, dUn, dCallB, gets, Op.get, put, puts, dat_sh, dat_ow, dat_bw, dat_un, ty0, ty1, ty2, ty3, ty4, ty5, ty6, ty7, ty8, ty9, ty10, ty11, ty12, ty13, ty14, ty15, ty16, ty17, ty18, ty19, ty20, ty21, ty22, ty23, ty24, ty25, ty26, ty27, ty28, ty29, ty30, ty31, ty32, ty33, ty34, ty35, ty36, ty37, ty38, ty39, ty40, ty41, gIsi_non, gIsi_bl, gIsi_int, gIsi_str, gIsi_lst, gIsi_tup, gIsi_dct, gIsC, dMut0, mReverse, mPopAt, gEq_bl, gEq_strs, eq_self, Sl.cn, Sl.with, Cn.dat, Rv.dat, bOf, asB, bTr, gTruth, bAnd, bOr, bNot, dAnd, dOr, dNot, dIf, dChain, vNil, vCons, dTup, dLst, dDisp, psNil, psCons, keyed, D.key, gN, gT, gsNil, gsCons, rNil, rCons, srcE, srcR1, srcR2, srcR3, srcEnum, srcZip, srcC, srcV, itsOf, dLc, bYes, wipeD, agNil, agVal, agBor, mkArgs, bors, giveB, dCall, clean, dMut, slL, mAppend, mInsert, slC, cnSet, gAdd, gSubI, gDiv, gMod, gNeg, gCmpI, gIx, dSl, oNo, oE, gSl, dRev, dJoin, gAbs, gLen, gInt, gIsN, gList, Option.map_some, List.map_cons, List.map_nil, List.getElem?_cons_zero, List.getElem?_cons_succ, List.getElem?_nil, List.set_cons_zero, List.set_cons_succ, List.length_cons, List.length_nil, List.cons_append, List.nil_append, List.take_succ_cons, List.take_zero, List.replicate_succ, List.replicate_zero, gMin2, gMax2, gMax3, nodup1, List.nodup_nil, gEq_int, gEq_str, atI_0, atI_1, atI_2, atI_3, atI_4, atI_5, ixN_40, ixN_41, ixN_42, ixN_43, gMul, Nat.reduceAdd, Nat.reduceSub, Nat.zero_add, Option.isSome_some, true_and, and_true, Option.some.injEq, exists_and_left, exists_eq_left, exists_eq_left', id_eq, ite_true, ite_false, reduceIte, Bool.false_eq_true, decide_eq_true_eq]
                  refine ⟨n + (276 - 30 * i - 3 * j - 1), c', 4, rfl, hB5.le (by omega), by decide, by decide, fun v c5 hB6 hv0 hv1 => ?_⟩
                  simp only [sSeq, sNext, sSet, sRet, sRetN, sIf, sAsg, sDrop, sPar, sBrk, sCnt, sFor, sStore, sAugI, sAug, dC, dVar, dTake, qVar, qE, aNil, aCons, dOp, dUn, dCallB, gets, Op.get, put, puts, dat_sh, dat_ow, dat_bw, dat_un, ty0, ty1, ty2, ty3, ty4, ty5, ty6, ty7, ty8, ty9, ty10, ty11, ty12, ty13, ty14, ty15, ty16, ty17, ty18, ty19, ty20, ty21, ty22, ty23, ty24, ty25, ty26, ty27, ty28, ty29, ty30, ty31, ty32, ty33, ty34, ty35, ty36, ty37, ty38, ty39, ty40, ty41, gIsi_non, gIsi_bl, gIsi_int, gIsi_str, gIsi_lst, gIsi_tup, gIsi_dct, gIsC, dMut0, mReverse, mPopAt, gEq_bl, gEq_strs, eq_self, Sl.cn, Sl.with, Cn.dat, Rv.dat, bOf, asB, bTr, gTruth, bAnd, bOr, bNot, dAnd, dOr, dNot, dIf, dChain, vNil, vCons, dTup, dLst, dDisp, psNil, psCons, keyed, D.key, gN, gT, gsNil, gsCons, rNil, rCons, srcE, srcR1, srcR2, srcR3, srcEnum, srcZip, srcC, srcV, itsOf, dLc, bYes, wipeD, agNil, agVal, agBor, mkArgs, bors, giveB, dCall, clean, dMut, slL, mAppend, mInsert, slC, cnSet, gAdd, gSubI, gDiv, gMod, gNeg, gCmpI, gIx, dSl, oNo, oE, gSl, dRev, dJoin, gAbs, gLen, gInt, gIsN, gList, Option.map_some, List.map_cons, List.map_nil, List.getElem?_cons_zero, List.getElem?_cons_succ, List.getElem?_nil, List.set_cons_zero, List.set_cons_succ, List.length_cons, List.length_nil, List.cons_append, List.nil_append, List.take_succ_cons, List.take_zero, List.replicate_succ, List.replicate_zero, gMin2, gMax2, gMax3, nodup1, List.nodup_nil, gEq_int, gEq_str, atI_0, atI_1, atI_2, atI_3, atI_4, atI_5, ixN_40, ixN_41, ixN_42, ixN_43, gMul, Nat.reduceAdd, Nat.reduceSub, Nat.zero_add, Option.isSome_some, true_and, and_true, Option.some.injEq, exists_and_left, exists_eq_left, exists_eq_left', id_eq, ite_true, ite_false, reduceIte, Bool.false_eq_true, decide_eq_true_eq]
                  by_cases e : v < o
                  · rw [decide_eq_true e]
                    refine hT _ ?_
                    have hi' : i < names.length := by omega
                    have hj' : j < names.length := by omega
                    have aI : atI (names.map D.str) K = some (.str names[i]) := atI_int (by omega) (by rw [← hK, show (0 + (i : Int) * 1).toNat = i by omega, List.getElem?_map, List.getElem?_eq_getElem hi']; rfl)
                    have aJ : atI (names.map D.str) J = some (.str names[j]) := atI_int (by omega) (by rw [← hJ, show (0 + (j : Int) * 1).toNat = j by omega, List.getElem?_map, List.getElem?_eq_getElem hj']; rfl)
                    have mI := List.getElem_mem hi'
                    have mJ := List.getElem_mem hj'
                    generalize names[i] = x at aI mI
                    generalize names[j] = y at aJ mJ
                    refine sSeq_cut (fun ρ' => ∃ (c' : Cn) (p : Str × Str), ρ' = [.bw 0 c', .sh (.int m), .sh (.int q), .ow (.l (names.map D.str)), .ow (.l (pairs.map PairD)), .sh (.int style), .sh (.int loops), .sh (.int K), .sh (.int J), .sh (.bl b), .sh (.int o), .sh (PairD p)] ∧ Bag (n + (276 - 30 * i - 3 * j - 2)) c' ∧ p.1 ∈ names ∧ p.2 ∈ names) (fun N6 hN6 => ?_) ?_
                    · simp only [sSeq, sNext, sSet, sRet, sRetN, sIf, sAsg, sDrop, sPar, sBrk, sCnt, sFor, sStore, sAugI, sAug, dC, dVar, dTake, qVar, qE, aNil, aCons, dOp, dUn, dCallB, gets, Op.get, put, puts, dat_sh, dat_ow, dat_bw, dat_un, ty0, ty1, ty2, ty3, ty4, ty5, ty6, ty7, ty8, ty9, ty10, ty11, ty12, ty13, ty14, ty15, ty16, ty17, ty18, ty19, ty20, ty21, ty22, ty23, ty24, ty25, ty26, ty27, ty28, ty29, ty30, ty31, ty32, ty33, ty34, ty35, ty36, ty37, ty38, ty39, ty40, ty41, gIsi_non, gIsi_bl, gIsi_int, gIsi_str, gIsi_lst, gIsi_tup, gIsi_dct, gIsC, dMut0, mReverse, mPopAt, gEq_bl, gEq_strs, eq_self, Sl.cn, Sl.with, Cn.dat, Rv.dat, bOf, asB, bTr, gTruth, bAnd, bOr, bNot, dAnd, dOr, dNot, dIf, dChain, vNil, vCons, dTup, dLst, dDisp, psNil, psCons, keyed, D.key, gN, gT, gsNil, gsCons, rNil, rCons, srcE, srcR1, srcR2, srcR3, srcEnum, srcZip, srcC, srcV, itsOf, dLc, bYes, wipeD, agNil, agVal, agBor, mkArgs, bors, giveB, dCall, clean, dMut, slL, mAppend, mInsert, slC, cnSet, gAdd, gSubI, gDiv, gMod, gNeg, gCmpI, gIx, dSl, oNo, oE, gSl, dRev, dJoin, gAbs, gLen, gInt, gIsN, gList, Option.map_some, List.map_cons, List.map_nil, List.getElem?_cons_zero, List.getElem?_cons_succ, List.getElem?_nil, List.set_cons_zero, List.set_cons_succ, List.length_cons, List.length_nil, List.cons_append, List.nil_append, List.take_succ_cons, List.take_zero, List.replicate_succ, List.replicate_zero, gMin2, gMax2, gMax3, nodup1, List.nodup_nil, gEq_int, gEq_str, atI_0, atI_1, atI_2, atI_3, atI_4, atI_5, ixN_40, ixN_41, ixN_42, ixN_43, gMul, Nat.reduceAdd, Nat.reduceSub, Nat.zero_add, Option.isSome_some, true_and, and_true, Option.some.injEq, exists_and_left, exists_eq_left, exists_eq_left', id_eq, ite_true, ite_false, reduceIte, Bool.false_eq_true, decide_eq_true_eq, aI, aJ]
                      refine ⟨le_size (by decide), le_size (by decide), le_size (by decide), n + (276 - 30 * i - 3 * j - 2), c5, 2, rfl, hB6.le (by omega), by decide, by decide, fun u c6 hB7 hu0 hu1 => ?_⟩
                      simp only [sSeq, sNext, sSet, sRet, sRetN, sIf, sAsg, sDrop, sPar, sBrk, sCnt, sFor, sStore, sAugI, sAug, dC, dVar, dTake, qVar, qE, aNil, aCons, dOp, dUn, dCallB, gets, Op.get, put, puts, dat_sh, dat_ow, dat_bw, dat_un, ty0, ty1, ty2, ty3, ty4, ty5, ty6, ty7, ty8, ty9, ty10, ty11, ty12, ty13, ty14, ty15, ty16, ty17, ty18, ty19, ty20, ty21, ty22, ty23, ty24, ty25, ty26, ty27, ty28, ty29, ty30, ty31, ty32, ty33, ty34, ty35, ty36, ty37, ty38, ty39, ty40, ty41, gIsi_non, gIsi_bl, gIsi_int, gIsi_str, gIsi_lst, gIsi_tup, gIsi_dct, gIsC, dMut0, mReverse, mPopAt, gEq_bl, gEq_strs, eq_self, Sl.cn, Sl.with, Cn.dat, Rv.dat, bOf, asB, bTr, gTruth, bAnd, bOr, bNot, dAnd, dOr, dNot, dIf, dChain, vNil, vCons, dTup, dLst, dDisp, psNil, psCons, keyed, D.key, gN, gT, gsNil, gsCons, rNil, rCons, srcE, srcR1, srcR2, srcR3, srcEnum, srcZip, srcC, srcV, itsOf, dLc, bYes, wipeD, agNil, agVal, agBor, mkArgs, bors, giveB, dCall, clean, dMut, slL, mAppend, mInsert, slC, cnSet, gAdd, gSubI, gDiv, gMod, gNeg, gCmpI, gIx, dSl, oNo, oE, gSl, dRev, dJoin, gAbs, gLen, gInt, gIsN, gList, Option.map_some, List.map_cons, List.map_nil, List.getElem?_cons_zero, List.getElem?_cons_succ, List.getElem?_nil, List.set_cons_zero, List.set_cons_succ, List.length_cons, List.length_nil, List.cons_append, List.nil_append, List.take_succ_cons, List.take_zero, List.replicate_succ, List.replicate_zero, gMin2, gMax2, gMax3, nodup1, List.nodup_nil, gEq_int, gEq_str, atI_0, atI_1, atI_2, atI_3, atI_4, atI_5, ixN_40, ixN_41, ixN_42, ixN_43, gMul, Nat.reduceAdd, Nat.reduceSub, Nat.zero_add, Option.isSome_some, true_and, and_true, Option.some.injEq, exists_and_left, exists_eq_left, exists_eq_left', id_eq, ite_true, ite_false, reduceIte, Bool.false_eq_true, decide_eq_true_eq]
                      have hu : u = 0 ∨ u = 1 := by omega
                      rcases hu with rfl | rfl
                      · exact ⟨_, atI_0, hN6 _ ⟨c6, (y, x), rfl, hB7, mJ, mI⟩⟩
                      · exact ⟨_, atI_1, hN6 _ ⟨c6, (x, y), rfl, hB7, mI, mJ⟩⟩
                    · rintro ρ' ⟨c6, p, rfl, hB7, hp1, hp2⟩
                      simp only [sSeq, sNext, sSet, sRet, sRetN, sIf, sAsg, sDrop, sPar, sBrk, sCnt, sFor, sStore, sAugI, sAug, dC, dVar, dTake, qVar, qE, aNil, aCons, dOp, dUn, dCallB, gets, Op.get, put, puts, dat_sh, dat_ow, dat_bw, dat_un, ty0, ty1, ty2, ty3, ty4, ty5, ty6, ty7, ty8, ty9, ty10, ty11, ty12, ty13, ty14, ty15, ty16, ty17, ty18, ty19, ty20, ty21, ty22, ty23, ty24, ty25, ty26, ty27, ty28, ty29, ty30, ty31, ty32, ty33, ty34, ty35, ty36, ty37, ty38, ty39, ty40, ty41, gIsi_non, gIsi_bl, gIsi_int, gIsi_str, gIsi_lst, gIsi_tup, gIsi_dct, gIsC, dMut0, mReverse, mPopAt, gEq_bl, gEq_strs, eq_self, Sl.cn, Sl.with, Cn.dat, Rv.dat, bOf, asB, bTr, gTruth, bAnd, bOr, bNot, dAnd, dOr, dNot, dIf, dChain, vNil, vCons, dTup, dLst, dDisp, psNil, psCons, keyed, D.key, gN, gT, gsNil, gsCons, rNil, rCons, srcE, srcR1, srcR2, srcR3, srcEnum, srcZip, srcC, srcV, itsOf, dLc, bYes, wipeD, agNil, agVal, agBor, mkArgs, bors, giveB, dCall, clean, dMut, slL, mAppend, mInsert, slC, cnSet, gAdd, gSubI, gDiv, gMod, gNeg, gCmpI, gIx, dSl, oNo, oE, gSl, dRev, dJoin, gAbs, gLen, gInt, gIsN, gList, Option.map_some, List.map_cons, List.map_nil, List.getElem?_cons_zero, List.getElem?_cons_succ, List.getElem?_nil, List.set_cons_zero, List.set_cons_succ, List.length_cons, List.length_nil, List.cons_append, List.nil_append, List.take_succ_cons, List.take_zero, List.replicate_succ, List.replicate_zero, gMin2, gMax2, gMax3, nodup1, List.nodup_nil, gEq_int, gEq_str, atI_0, atI_1, atI_2, atI_3, atI_4, atI_5, ixN_40, ixN_41, ixN_42, ixN_43, gMul, Nat.reduceAdd, Nat.reduceSub, Nat.zero_add, Option.isSome_some, true_and, and_true, Option.some.injEq, exists_and_left, exists_eq_left, exists_eq_left', id_eq, ite_true, ite_false, reduceIte, Bool.false_eq_true, decide_eq_true_eq, List.length_map]
                      refine ⟨n + (276 - 30 * i - 3 * j - 3), c6, _, rfl, hB7.le (by omega), by omega, by omega, fun u c7 hB8 hu0 hu1 => ?_⟩
                      simp only [sSeq, sNext, sSet, sRet, sRetN, sIf, sAsg, sDrop, sPar, sBrk, sCnt, sFor, sStore, sAugI, sAug, dC, dVar, dTake, qVar, qE, aNil, aCons, dOp, dUn, dCallB, gets, Op.get, put, puts, dat_sh, dat_ow, dat_bw, dat_un, ty0, ty1, ty2, ty3, ty4, ty5, ty6, ty7, ty8, ty9, ty10, ty11, ty12, ty13, ty14, ty15, ty16, ty17, ty18, ty19, ty20, ty21, ty22, ty23, ty24, ty25, ty26, ty27, ty28, ty29, ty30, ty31, ty32, ty33, ty34, ty35, ty36, ty37, ty38, ty39, ty40, ty41, gIsi_non, gIsi_bl, gIsi_int, gIsi_str, gIsi_lst, gIsi_tup, gIsi_dct, gIsC, dMut0, mReverse, mPopAt, gEq_bl, gEq_strs, eq_self, Sl.cn, Sl.with, Cn.dat, Rv.dat, bOf, asB, bTr, gTruth, bAnd, bOr, bNot, dAnd, dOr, dNot, dIf, dChain, vNil, vCons, dTup, dLst, dDisp, psNil, psCons, keyed, D.key, gN, gT, gsNil, gsCons, rNil, rCons, srcE, srcR1, srcR2, srcR3, srcEnum, srcZip, srcC, srcV, itsOf, dLc, bYes, wipeD, agNil, agVal, agBor, mkArgs, bors, giveB, dCall, clean, dMut, slL, mAppend, mInsert, slC, cnSet, gAdd, gSubI, gDiv, gMod, gNeg, gCmpI, gIx, dSl, oNo, oE, gSl, dRev, dJoin, gAbs, gLen, gInt, gIsN, gList, Option.map_some, List.map_cons, List.map_nil, List.getElem?_cons_zero, List.getElem?_cons_succ, List.getElem?_nil, List.set_cons_zero, List.set_cons_succ, List.length_cons, List.length_nil, List.cons_append, List.nil_append, List.take_succ_cons, List.take_zero, List.replicate_succ, List.replicate_zero, gMin2, gMax2, gMax3, nodup1, List.nodup_nil, gEq_int, gEq_str, atI_0, atI_1, atI_2, atI_3, atI_4, atI_5, ixN_40, ixN_41, ixN_42, ixN_43, gMul, Nat.reduceAdd, Nat.reduceSub, Nat.zero_add, Option.isSome_some, true_and, and_true, Option.some.injEq, exists_and_left, exists_eq_left, exists_eq_left', id_eq, ite_true, ite_false, reduceIte, Bool.false_eq_true, decide_eq_true_eq, List.length_map]
                      refine ⟨lt_size (by omega), hu0, by omega, hN4 _ ⟨c7, pairs.take u.toNat ++ [p] ++ pairs.drop u.toNat, _, _, _, _, by rw [List.map_append, List.map_append, List.map_take, List.map_drop]; rfl, hB8.le (by omega), ?_, ?_⟩⟩
                      · intro z hz
                        rcases List.mem_append.mp hz with hz | hz
                        · rcases List.mem_append.mp hz with hz | hz
                          · exact hp z (List.mem_of_mem_take hz)
                          · rw [List.mem_singleton.mp hz]; exact ⟨hp1, hp2⟩
                        · exact hp z (List.mem_of_mem_drop hz)
                      · rw [List.length_append, List.length_append, List.length_take, List.length_drop, List.length_singleton]
                        omega
                  · rw [decide_eq_false e]
                    refine hF _ ?_
                    simp only [sNext]
                    exact hN4 _ ⟨c5, pairs, _, _, _, _, rfl, hB6.le (by omega), hp, by omega⟩
      · rintro ρ' ⟨c', pairs, s7, s8, s9, s10, s11, rfl, hB5, hP⟩
        simp only [sSeq, sNext, sSet, sRet, sRetN, sIf, sAsg, sDrop, sPar, sBrk, sCnt, sFor, sStore, sAugI, sAug, dC, dVar, dTake, qVar, qE, aNil, aCons, dOp, dUn, dCallB, gets, Op.get, put, puts, dat_sh, dat_ow, dat_bw, dat_un, ty0, ty1, ty2, ty3, ty4, ty5, ty6, ty7, ty8, ty9, ty10, ty11, ty12, ty13, ty14, ty15, ty16, ty17, ty18, ty19, ty20, ty21, ty22, ty23, ty24, ty25, ty26, ty27, ty28, ty29, ty30, ty31, ty32, ty33, ty34, ty35, ty36, ty37, ty38, ty39, ty40, ty41, gIsi_non, gIsi_bl, gIsi_int, gIsi_str, gIsi_lst, gIsi_tup, gIsi_dct, gIsC, dMut0, mReverse, mPopAt, gEq_bl, gEq_strs, eq_self, Sl.cn, Sl.with, Cn.dat, Rv.dat, bOf, asB, bTr, gTruth, bAnd, bOr, bNot, dAnd, dOr, dNot, dIf, dChain, vNil, vCons, dTup, dLst, dDisp, psNil, psCons, keyed, D.key, gN, gT, gsNil, gsCons, rNil, rCons, srcE, srcR1, srcR2, srcR3, srcEnum, srcZip, srcC, srcV, itsOf, dLc, bYes, wipeD, agNil, agVal, agBor, mkArgs, bors, giveB, dCall, clean, dMut, slL, mAppend, mInsert, slC, cnSet, gAdd, gSubI, gDiv, gMod, gNeg, gCmpI, gIx, dSl, oNo, oE, gSl, dRev, dJoin, gAbs, gLen, gInt, gIsN, gList, Option.map_some, List.map_cons, List.map_nil, List.getElem?_cons_zero, List.getElem?_cons_succ, List.getElem?_nil, List.set_cons_zero, List.set_cons_succ, List.length_cons, List.length_nil, List.cons_append, List.nil_append, List.take_succ_cons, List.take_zero, List.replicate_succ, List.replicate_zero, gMin2, gMax2, gMax3, nodup1, List.nodup_nil, gEq_int, gEq_str, atI_0, atI_1, atI_2, atI_3, atI_4, atI_5, ixN_40, ixN_41, ixN_42, ixN_43, gMul, Nat.reduceAdd, Nat.reduceSub, Nat.zero_add, Option.isSome_some, true_and, and_true, Option.some.injEq, exists_and_left, exists_eq_left, exists_eq_left', id_eq, ite_true, ite_false, reduceIte, Bool.false_eq_true, decide_eq_true_eq]
        exact ⟨by decide, h _ _ _ hB5 hP⟩
/-- the length of the longest common part -/
def lcs : List Str → List Str → Nat
  | [], _ => 0
  | _ :: _, [] => 0
  | a :: r, b :: s => if a = b then lcs r s + 1 else max (lcs r (b :: s)) (lcs (a :: r) s)
termination_by l s => l.length + s.length
def IsLcs (a b : List Str) (n : Nat) : Prop := (∃ s, List.Sublist s a ∧ List.Sublist s b ∧ s.length = n) ∧ ∀ s, List.Sublist s a → List.Sublist s b → s.length ≤ n
theorem IsLcs.uniq {a b : List Str} {n m : Nat} (h : IsLcs a b n) (h' : IsLcs a b m) : n = m := by
  obtain ⟨⟨s, h1, h2, rfl⟩, h3⟩ := h
  obtain ⟨⟨t, g1, g2, rfl⟩, g3⟩ := h'
  exact Nat.le_antisymm (g3 s h1 h2) (h3 t g1 g2)
theorem isLcs_nil (b : List Str) : IsLcs [] b 0 := ⟨⟨[], List.Sublist.refl _, List.nil_sublist _, rfl⟩, fun s h _ => by rw [List.sublist_nil.mp h]; exact Nat.le_refl _⟩
theorem IsLcs.symm {a b : List Str} {n : Nat} (h : IsLcs a b n) : IsLcs b a n := by
  obtain ⟨⟨s, h1, h2, h3⟩, h4⟩ := h
  exact ⟨⟨s, h2, h1, h3⟩, fun t x y => h4 t y x⟩
theorem IsLcs.rev {a b : List Str} {n : Nat} (h : IsLcs a b n) : IsLcs a.reverse b.reverse n := by
  obtain ⟨⟨s, h1, h2, h3⟩, h4⟩ := h
  refine ⟨⟨s.reverse, h1.reverse, h2.reverse, by simpa using h3⟩, fun t x y => ?_⟩
  have := h4 t.reverse (by simpa using x.reverse) (by simpa using y.reverse)
  simpa using this
theorem lcs_is (a b : List Str) : IsLcs a b (lcs a b) := by
  fun_induction lcs a b with
  | case1 b => exact isLcs_nil b
  | case2 x r => exact (isLcs_nil _).symm
  | case3 r x s ih =>
    obtain ⟨⟨t, h1, h2, h3⟩, h4⟩ := ih
    refine ⟨⟨x :: t, h1.cons_cons x, h2.cons_cons x, by simp [h3]⟩, fun u g1 g2 => ?_⟩
    have := h4 u.tail (by simpa using g1.tail) (by simpa using g2.tail)
    rw [List.length_tail] at this
    omega
  | case4 x r y s hne ih1 ih2 =>
    obtain ⟨⟨t, h1, h2, h3⟩, h4⟩ := ih1
    obtain ⟨⟨u, g1, g2, g3⟩, g4⟩ := ih2
    refine ⟨?_, fun v e1 e2 => ?_⟩
    · by_cases hm : lcs (x :: r) s ≤ lcs r (y :: s)
      · exact ⟨t, h1.cons x, h2, by omega⟩
      · exact ⟨u, g1, g2.cons y, by omega⟩
    · cases e1 with
      | cons _ e1 => have := h4 v e1 e2; omega
      | cons_cons _ e1 =>
        cases e2 with
        | cons _ e2 => have := g4 _ (e1.cons_cons x) e2; omega
        | cons_cons _ e2 => exact absurd rfl hne
theorem lcs_symm (a b : List Str) : lcs a b = lcs b a := (lcs_is a b).uniq (lcs_is b a).symm
theorem lcs_rev (a b : List Str) : lcs a.reverse b.reverse = lcs a b := (lcs_is _ _).uniq (lcs_is a b).rev
theorem lcs_le (a b : List Str) : lcs a b ≤ a.length := by
  obtain ⟨⟨s, h1, _, h3⟩, _⟩ := lcs_is a b
  rw [← h3]
  exact h1.length_le
theorem lcs_le' (a b : List Str) : lcs a b ≤ b.length := by rw [lcs_symm]; exact lcs_le b a
theorem lcs_nil (b : List Str) : lcs [] b = 0 := (lcs_is _ _).uniq (isLcs_nil b)
theorem lcs_nil' (b : List Str) : lcs b [] = 0 := by rw [lcs_symm, lcs_nil]
theorem lcs_mono {a b : List Str} (c : List Str) (h : List.Sublist a b) : lcs a c ≤ lcs b c := by
  obtain ⟨⟨s, h1, h2, h3⟩, _⟩ := lcs_is a c
  rw [← h3]
  exact (lcs_is b c).2 s (h1.trans h) h2
theorem lcs_cons (a b : Str) (r s : List Str) : lcs (a :: r) (b :: s) = if a = b then lcs r s + 1 else max (lcs r (b :: s)) (lcs (a :: r) s) := by rw [lcs]
theorem lcs_max (a b : Str) (r s : List Str) : lcs (a :: r) (b :: s) = max (max (lcs (a :: r) s) (lcs r (b :: s))) ((lcs r s + 1) * if b = a then 1 else 0) := by
  have h1 : lcs (a :: r) s ≤ lcs (a :: r) (b :: s) := by
    rw [lcs_symm _ s, lcs_symm _ (b :: s)]
    exact lcs_mono _ (List.sublist_cons_self b s)
  have h2 : lcs r (b :: s) ≤ lcs (a :: r) (b :: s) := lcs_mono _ (List.sublist_cons_self a r)
  rw [lcs_cons] at h1 h2 ⊢
  by_cases h : a = b
  · rw [if_pos h] at h1 h2 ⊢
    rw [if_pos h.symm]
    omega
  · rw [if_neg h, if_neg (fun e => h e.symm)]
    omega
theorem lcs_full (a b : List Str) : a.length + b.length = 2 * lcs a b ↔ a = b := by
  constructor
  · intro h
    have h1 := lcs_le a b
    have h2 := lcs_le' a b
    obtain ⟨⟨s, g1, g2, g3⟩, _⟩ := lcs_is a b
    have e1 := g1.eq_of_length (by omega)
    have e2 := g2.eq_of_length (by omega)
    rw [← e1, ← e2]
  · rintro rfl
    have h1 := lcs_le a a
    have h2 := (lcs_is a a).2 a (List.Sublist.refl _) (List.Sublist.refl _)
    omega
/-! rows of numbers -/
def rowD (f : Nat → Nat) (n : Nat) : List D := (List.range n).map fun j => D.int (f j)
theorem rowD_len (f : Nat → Nat) (n : Nat) : (rowD f n).length = n := by unfold rowD; simp
theorem rowD_get {f : Nat → Nat} {n j : Nat} (h : j < n) : (rowD f n)[j]? = some (.int (f j)) := by unfold rowD; rw [List.getElem?_map, List.getElem?_range h]; rfl
theorem rowD_at {f : Nat → Nat} {n : Nat} {k : Int} (j : Nat) (e : k = j) (h : j < n) : atI (rowD f n) k = some (.int (f j)) := by
  subst e
  exact atI_int (by omega) (rowD_get (by simpa using h))
theorem rowD_snoc (f : Nat → Nat) (n : Nat) : rowD f n ++ [.int (f n)] = rowD f (n + 1) := by unfold rowD; rw [List.range_succ, List.map_append]; rfl
theorem rowD_congr {f g : Nat → Nat} {n : Nat} (h : ∀ j, j < n → f j = g j) : rowD f n = rowD g n := by
  unfold rowD
  exact List.map_congr_left fun j hj => by rw [h j (List.mem_range.mp hj)]
theorem rowD_zero (n : Nat) : (List.replicate n [D.int 0]).flatten = rowD (fun _ => 0) n := by
  induction n with
  | zero => rfl
  | succ n ih =>
    rw [← rowD_snoc, ← ih, List.replicate_succ', List.flatten_append]
    rfl
theorem rowD_set {f g : Nat → Nat} {n i : Nat} (h : ∀ j, j < n → j ≠ i → f j = g j) : (rowD f n).set i (.int (g i)) = rowD g n := by
  apply List.ext_getElem?
  intro j
  by_cases hj : j < n
  · rw [rowD_get hj]
    by_cases e : j = i
    · subst e
      rw [List.getElem?_set_self (by rw [rowD_len]; exact hj)]
    · rw [List.getElem?_set_ne (Ne.symm e), rowD_get hj, h j hj e]
  · rw [List.getElem?_eq_none (by rw [List.length_set, rowD_len]; omega), List.getElem?_eq_none (by rw [rowD_len]; omega)]
/-- the lengths that the rests of two lines have in common -/
def tabD (one other : List Str) : List D := (List.range (one.length + 1)).map fun i => D.lst (rowD (fun j => lcs (one.drop i) (other.drop j)) (other.length + 1))
/-- the rows made so far, the last first line's end -/
def tabR (p other : List Str) : List D := (List.range (p.length + 1)).map fun i => D.lst (rowD (fun j => lcs (p.take i).reverse (other.drop j)) (other.length + 1))
theorem tabR_snoc (p other : List Str) (x : Str) : tabR (p ++ [x]) other = tabR p other ++ [.lst (rowD (fun j => lcs (x :: p.reverse) (other.drop j)) (other.length + 1))] := by
  unfold tabR
  rw [List.length_append, List.length_singleton, List.range_succ (n := p.length + 1), List.map_append]
  congr 1
  · refine List.map_congr_left fun i hi => ?_
    have := List.mem_range.mp hi
    rw [List.take_append_of_le_length (by omega)]
  · simp only [List.map_cons, List.map_nil]
    rw [List.take_of_length_le (by simp), List.reverse_append]
    rfl
theorem tabR_rev (one other : List Str) : (tabR one.reverse other).reverse = tabD one other := by
  unfold tabR tabD
  rw [List.length_reverse]
  apply List.ext_getElem?
  intro i
  by_cases hi : i < one.length + 1
  · rw [List.getElem?_reverse (by simpa using hi), List.length_map, List.length_range, List.getElem?_map, List.getElem?_map, List.getElem?_range (by omega), List.getElem?_range hi]
    simp only [Option.map_some]
    rw [List.take_reverse, List.reverse_reverse, show one.length - (one.length + 1 - 1 - i) = i by omega]
  · rw [List.getElem?_eq_none (by simp; omega), List.getElem?_eq_none (by simp; omega)]
theorem tabR_last (p other : List Str) : atI (tabR p other) (-1) = some (.lst (rowD (fun j => lcs p.reverse (other.drop j)) (other.length + 1))) := by
  refine atI_last ?_
  unfold tabR
  rw [List.range_succ, List.map_append, List.map_cons, List.map_nil, List.getLast?_concat, List.take_length]
theorem tabR_len (p other : List Str) : (tabR p other).length = p.length + 1 := by unfold tabR; simp
theorem back_row (p : List Str) (x : Str) (other : List Str) (k : Nat) (hk : k < other.length) : lcs (x :: p) (other.drop k) = if other[k] = x then lcs p (other.drop (k + 1)) + 1 else max (lcs p (other.drop k)) (lcs (x :: p) (other.drop (k + 1))) := by
  rw [List.drop_eq_getElem_cons hk, lcs_cons]
  by_cases h : other[k] = x
  · rw [if_pos h, if_pos h.symm]
  · rw [if_neg h, if_neg (Ne.symm h)]
def sp_common_lengths : SpD := fun as Q => ∃ (one other : List Str), as = [.sh (.lst (one.map D.str)), .sh (.lst (other.map D.str))] ∧ one.length ≤ 200 ∧ other.length ≤ 200 ∧ Q (.fr (.l (tabD one other))) [.un, .un]
theorem len_common_lengths {as : SL} {Q : Rv → SL → Prop} (h : sp_common_lengths as Q) : as.length = 2 := by
  obtain ⟨_, _, rfl, _⟩ := h
  rfl
theorem tabD_zero (one other : List Str) : atI (tabD one other) 0 = some (.lst (rowD (fun j => lcs one (other.drop j)) (other.length + 1))) := by
  refine atI_int (by decide) ?_
  unfold tabD
  show (List.map _ _)[0]? = _
  rw [List.getElem?_map, List.getElem?_range (by omega)]
  rfl
theorem ok_common_lengths {f : Addr} {fd : FuncData} (Fn : Fun K "common_lengths" "common_lengths" s_common_lengths f fd) (z_len : mg "len" = none) (z_range : mg "range" = none) (z_max : mg "max" = none) : FnG P w K mg base CX0 1 f fd ["one", "other"] (lift K sp_common_lengths) := by
  have nd := sc_common_lengths.nd
  refine fnD Fn sc_common_lengths (fun as Q h => ?len) (fun cdv A outer s H hgd hr => ⟨_, _,
    (dss_cons (ds_set (i := 2) nd rfl (.inl rfl) (de_lst (dv_cons (de_op op_mulA sem_mulA (do_e (de_lst (dv_cons de_int dv_nil))) (do_e (de_op op_addA sem_addA (do_e (de_callB call_lenA sem_len (by rfl) z_len (by decide +kernel) (da_cons (do_var (pv 1)) da_nil))) (do_e de_int)))) dv_nil)))
      (dss_cons (ds_for PassesOwn.never rfl (di_e (de_rev (do_var (pv 0)))) (dg_name (i := 3) nd rfl (.inl rfl))
      (dss_cons (ds_set (i := 4) nd rfl (.inl rfl) (de_ix (hu1 hr) (do_var (pv 2)) (do_e (de_un un_neg sem_neg (do_e de_int)))))
      (dss_cons (ds_set (i := 5) nd rfl (.inl rfl) (de_op op_mulA sem_mulA (do_e (de_lst (dv_cons de_int dv_nil))) (do_e (de_op op_addA sem_addA (do_e (de_callB call_lenA sem_len (by rfl) z_len (by decide +kernel) (da_cons (do_var (pv 1)) da_nil))) (do_e de_int)))))
      (dss_cons (ds_for PassesOwn.never rfl (di_r3 (by rfl) z_range (dv_cons (de_op op_sub sem_sub (do_e (de_callB call_lenA sem_len (by rfl) z_len (by decide +kernel) (da_cons (do_var (pv 1)) da_nil))) (do_e de_int)) (dv_cons (de_un un_neg sem_neg (do_e de_int)) (dv_cons (de_un un_neg sem_neg (do_e de_int)) dv_nil)))) (dg_name (i := 6) nd rfl (.inl rfl))
      (dss_one (ds_store (hu1 hr) (pv 5) (do_var (pv 6)) (de_if (dt_cmp (op_eqA (hu64 hr)) sem_eq (do_e (de_ix (hu1 hr) (do_var (pv 1)) (do_var (pv 6)))) (do_var (pv 3)) (nomark _)) (de_op op_addA sem_addA (do_e (de_ix (hu1 hr) (do_var (pv 4)) (do_e (de_op op_addA sem_addA (do_var (pv 6)) (do_e de_int))))) (do_e de_int)) (de_callB (call_maxA rfl) sem_max (by rfl) z_max (by decide +kernel) (da_cons (do_e (de_ix (hu1 hr) (do_var (pv 4)) (do_var (pv 6)))) (da_cons (do_e (de_ix (hu1 hr) (do_var (pv 5)) (do_e (de_op op_addA sem_addA (do_var (pv 6)) (do_e de_int))))) da_nil)))) (pg_sub (pv 5) (do_var (pv 6)).pe (set_any (hu1 hr))))))
      (dss_one (ds_expr (de_append (pv 2) (dv_cons (de_var (pv 5)) dv_nil))))))))
      (dss_one (ds_ret (de_rev (do_var (pv 2))))))), fun as Q h => ?_⟩)
  case len => exact len_common_lengths h
  · obtain ⟨one, other, rfl, h1, h2, h⟩ := h
    simp only [List.length_cons, List.length_nil, Nat.reduceAdd, Nat.reduceSub, List.replicate_succ, List.replicate_zero, List.cons_append, List.nil_append]
    refine sSeq_go fun N0 h0 => ?_
    simp only [sSeq, sNext, sSet, sRet, sRetN, sIf, sAsg, sDrop, sPar, sBrk, sCnt, sFor, sStore, sAugI, sAug, dC, dVar, dTake, qVar, qE, aNil, aCons, dOp, dUn, dCallB, gets, Op.get, put, puts, dat_sh, dat_ow, dat_bw, dat_un, ty0, ty1, ty2, ty3, ty4, ty5, ty6, ty7, ty8, ty9, ty10, ty11, ty12, ty13, ty14, ty15, ty16, ty17, ty18, ty19, ty20, ty21, ty22, ty23, ty24, ty25, ty26, ty27, ty28, ty29, ty30, ty31, ty32, ty33, ty34, ty35, ty36, ty37, ty38, ty39, ty40, ty41, gIsi_non, gIsi_bl, gIsi_int, gIsi_str, gIsi_lst, gIsi_tup, gIsi_dct, gIsC, dMut0, mReverse, mPopAt, gEq_bl, gEq_strs, eq_self, Sl.cn, Sl.with, Cn.dat, Rv.dat, bOf, asB, bTr, gTruth, bAnd, bOr, bNot, dAnd, dOr, dNot, dIf, dChain, vNil, vCons, dTup, dLst, dDisp, psNil, psCons, keyed, D.key, gN, gT, gsNil, gsCons, rNil, rCons, srcE, srcR1, srcR2, srcR3, srcEnum, srcZip, srcC, srcV, itsOf, dLc, bYes, wipeD, agNil, agVal, agBor, mkArgs, bors, giveB, dCall, clean, dMut, slL, mAppend, mInsert, slC, cnSet, gAdd, gSubI, gDiv, gMod, gNeg, gCmpI, gIx, dSl, oNo, oE, gSl, dRev, dJoin, gAbs, gLen, gInt, gIsN, gList, Option.map_some, List.map_cons, List.map_nil, List.getElem?_cons_zero, List.getElem?_cons_succ, List.getElem?_nil, List.set_cons_zero, List.set_cons_succ, List.length_cons, List.length_nil, List.cons_append, List.nil_append, List.take_succ_cons, List.take_zero, List.replicate_succ, List.replicate_zero, gMin2, gMax2, gMax3, nodup1, List.nodup_nil, gEq_int, gEq_str, atI_0, atI_1, atI_2, atI_3, atI_4, atI_5, ixN_40, ixN_41, ixN_42, ixN_43, gMul, Nat.reduceAdd, Nat.reduceSub, Nat.zero_add, Option.isSome_some, true_and, and_true, Option.some.injEq, exists_and_left, exists_eq_left, exists_eq_left', id_eq, ite_true, ite_false, reduceIte, Bool.false_eq_true, decide_eq_true_eq, List.length_map]
    refine ⟨le_size (by decide), by omega, by omega, le_size (by omega), le_size (by decide), h0 _ ?_⟩
    clear h0
    rw [show ((other.length : Int) + 1).toNat = other.length + 1 by omega, rowD_zero]
    refine sSeq_cut (fun ρ' => ∃ (s3 s4 s5 s6 : Sl), ρ' = [.sh (.lst (one.map D.str)), .sh (.lst (other.map D.str)), .ow (.l (tabR one.reverse other)), s3, s4, s5, s6]) (fun N hN => ?_) ?_
    · simp only [sSeq, sNext, sSet, sRet, sRetN, sIf, sAsg, sDrop, sPar, sBrk, sCnt, sFor, sStore, sAugI, sAug, dC, dVar, dTake, qVar, qE, aNil, aCons, dOp, dUn, dCallB, gets, Op.get, put, puts, dat_sh, dat_ow, dat_bw, dat_un, ty0, ty1, ty2, ty3, ty4, ty5, ty6, ty7, ty8, ty9, ty10, ty11, ty12, ty13, ty14, ty15, ty16, ty17, ty18, ty19, ty20, ty21, ty22, ty23, ty24, ty25, ty26, ty27, ty28, ty29, ty30, ty31, ty32, ty33, ty34, ty35, ty36, ty37, ty38, ty39, ty40, ty41, gIsi_non, gIsi_bl, gIsi_int, gIsi_str, gIsi_lst, gIsi_tup, gIsi_dct, gIsC, dMut0, mReverse, mPopAt, gEq_bl, gEq_strs, eq_self, Sl.cn, Sl.with, Cn.dat, Rv.dat, bOf, asB, bTr, gTruth, bAnd, bOr, bNot, dAnd, dOr, dNot, dIf, dChain, vNil, vCons, dTup, dLst, dDisp, psNil, psCons, keyed, D.key, gN, gT, gsNil, gsCons, rNil, rCons, srcE, srcR1, srcR2, srcR3, srcEnum, srcZip, srcC, srcV, itsOf, dLc, bYes, wipeD, agNil, agVal, agBor, mkArgs, bors, giveB, dCall, clean, dMut, slL, mAppend, mInsert, slC, cnSet, gAdd, gSubI, gDiv, gMod, gNeg, gCmpI, gIx, dSl, oNo, oE, gSl, dRev, dJoin, gAbs, gLen, gInt, gIsN, gList, Option.map_some, List.map_cons, List.map_nil, List.getElem?_cons_zero, List.getElem?_cons_succ, List.getElem?_nil, List.set_cons_zero, List.set_cons_succ, List.length_cons, List.length_nil, List.cons_append, List.nil_append, List.take_succ_cons, List.take_zero, List.replicate_succ, List.replicate_zero, gMin2, gMax2, gMax3, nodup1, List.nodup_nil, gEq_int, gEq_str, atI_0, atI_1, atI_2, atI_3, atI_4, atI_5, ixN_40, ixN_41, ixN_42, ixN_43, gMul, Nat.reduceAdd, Nat.reduceSub, Nat.zero_add, Option.isSome_some, true_and, and_true, Option.some.injEq, exists_and_left, exists_eq_left, exists_eq_left', id_eq, ite_true, ite_false, reduceIte, Bool.false_eq_true, decide_eq_true_eq]
      rw [← List.map_reverse]
      refine forL_on D.str (fun p r ρ => ∃ (s3 s4 s5 s6 : Sl), ρ = [.sh (.lst (one.map D.str)), .sh (.lst (other.map D.str)), .ow (.l (tabR p other)), s3, s4, s5, s6])
        ⟨_, _, _, _, by unfold tabR; rw [rowD_congr (f := fun _ => 0) (g := fun j => lcs [] (other.drop j)) fun j _ => (lcs_nil _).symm]; rfl⟩ ?_ ?_
      · rintro ρ ⟨s3, s4, s5, s6, rfl⟩
        exact hN _ ⟨s3, s4, s5, s6, rfl⟩
      · rintro p x r ρ N2 e hN2 ⟨s3, s4, s5, s6, rfl⟩
        have hpl := congrArg List.length e
        rw [List.length_append, List.length_cons, List.length_reverse] at hpl
        simp only [gN, List.set_cons_succ, List.set_cons_zero]
        refine sSeq_go fun N3 h3 => ?_
        simp only [sSeq, sNext, sSet, sRet, sRetN, sIf, sAsg, sDrop, sPar, sBrk, sCnt, sFor, sStore, sAugI, sAug, dC, dVar, dTake, qVar, qE, aNil, aCons, dOp, dUn, dCallB, gets, Op.get, put, puts, dat_sh, dat_ow, dat_bw, dat_un, ty0, ty1, ty2, ty3, ty4, ty5, ty6, ty7, ty8, ty9, ty10, ty11, ty12, ty13, ty14, ty15, ty16, ty17, ty18, ty19, ty20, ty21, ty22, ty23, ty24, ty25, ty26, ty27, ty28, ty29, ty30, ty31, ty32, ty33, ty34, ty35, ty36, ty37, ty38, ty39, ty40, ty41, gIsi_non, gIsi_bl, gIsi_int, gIsi_str, gIsi_lst, gIsi_tup, gIsi_dct, gIsC, dMut0, mReverse, mPopAt, gEq_bl, gEq_strs, eq_self, Sl.cn, Sl.with, Cn.dat, Rv.dat, bOf, asB, bTr, gTruth, bAnd, bOr, bNot, dAnd, dOr, dNot, dIf, dChain, vNil, vCons, dTup, dLst, dDisp, psNil, psCons, keyed, D.key, gN, gT, gsNil, gsCons, rNil, rCons, srcE, srcR1, srcR2, srcR3, srcEnum, srcZip, srcC, srcV, itsOf, dLc, bYes, wipeD, agNil, agVal, agBor, mkArgs, bors, giveB, dCall, clean, dMut, slL, mAppend, mInsert, slC, cnSet, gAdd, gSubI, gDiv, gMod, gNeg, gCmpI, gIx, dSl, oNo, oE, gSl, dRev, dJoin, gAbs, gLen, gInt, gIsN, gList, Option.map_some, List.map_cons, List.map_nil, List.getElem?_cons_zero, List.getElem?_cons_succ, List.getElem?_nil, List.set_cons_zero, List.set_cons_succ, List.length_cons, List.length_nil, List.cons_append, List.nil_append, List.take_succ_cons, List.take_zero, List.replicate_succ, List.replicate_zero, gMin2, gMax2, gMax3, nodup1, List.nodup_nil, gEq_int, gEq_str, atI_0, atI_1, atI_2, atI_3, atI_4, atI_5, ixN_40, ixN_41, ixN_42, ixN_43, gMul, Nat.reduceAdd, Nat.reduceSub, Nat.zero_add, Option.isSome_some, true_and, and_true, Option.some.injEq, exists_and_left, exists_eq_left, exists_eq_left', id_eq, ite_true, ite_false, reduceIte, Bool.false_eq_true, decide_eq_true_eq, tabR_last]
        refine h3 _ ?_
        clear h3
        refine sSeq_go fun N3 h3 => ?_
        simp only [sSeq, sNext, sSet, sRet, sRetN, sIf, sAsg, sDrop, sPar, sBrk, sCnt, sFor, sStore, sAugI, sAug, dC, dVar, dTake, qVar, qE, aNil, aCons, dOp, dUn, dCallB, gets, Op.get, put, puts, dat_sh, dat_ow, dat_bw, dat_un, ty0, ty1, ty2, ty3, ty4, ty5, ty6, ty7, ty8, ty9, ty10, ty11, ty12, ty13, ty14, ty15, ty16, ty17, ty18, ty19, ty20, ty21, ty22, ty23, ty24, ty25, ty26, ty27, ty28, ty29, ty30, ty31, ty32, ty33, ty34, ty35, ty36, ty37, ty38, ty39, ty40, ty41, gIsi_non, gIsi_bl, gIsi_int, gIsi_str, gIsi_lst, gIsi_tup, gIsi_dct, gIsC, dMut0, mReverse, mPopAt, gEq_bl, gEq_strs, eq_self, Sl.cn, Sl.with, Cn.dat, Rv.dat, bOf, asB, bTr, gTruth, bAnd, bOr, bNot, dAnd, dOr, dNot, dIf, dChain, vNil, vCons, dTup, dLst, dDisp, psNil, psCons, keyed, D.key, gN, gT, gsNil, gsCons, rNil, rCons, srcE, srcR1, srcR2, srcR3, srcEnum, srcZip, srcC, srcV, itsOf, dLc, bYes, wipeD, agNil, agVal, agBor, mkArgs, bors, giveB, dCall, clean, dMut, slL, mAppend, mInsert, slC, cnSet, gAdd, gSubI, gDiv, gMod, gNeg, gCmpI, gIx, dSl, oNo, oE, gSl, dRev, dJoin, gAbs, gLen, gInt, gIsN, gList, Option.map_some, List.map_cons, List.map_nil, List.getElem?_cons_zero, List.getElem?_cons_succ, List.getElem?_nil, List.set_cons_zero, List.set_cons_succ, List.length_cons, List.length_nil, List.cons_append, List.nil_append, List.take_succ_cons, List.take_zero, List.replicate_succ, List.replicate_zero, gMin2, gMax2, gMax3, nodup1, List.nodup_nil, gEq_int, gEq_str, atI_0, atI_1, atI_2, atI_3, atI_4, atI_5, ixN_40, ixN_41, ixN_42, ixN_43, gMul, Nat.reduceAdd, Nat.reduceSub, Nat.zero_add, Option.isSome_some, true_and, and_true, Option.some.injEq, exists_and_left, exists_eq_left, exists_eq_left', id_eq, ite_true, ite_false, reduceIte, Bool.false_eq_true, decide_eq_true_eq, List.length_map]
        refine ⟨le_size (by decide), by omega, by omega, le_size (by omega), h3 _ ?_⟩
        clear h3
        rw [show ((other.length : Int) + 1).toNat = other.length + 1 by omega, rowD_zero]
        refine sSeq_cut (fun ρ' => ∃ (s6 : Sl), ρ' = [.sh (.lst (one.map D.str)), .sh (.lst (other.map D.str)), .ow (.l (tabR p other)), .sh (.str x), .sh (.lst (rowD (fun j => lcs p.reverse (other.drop j)) (other.length + 1))), .ow (.l (rowD (fun j => lcs (x :: p.reverse) (other.drop j)) (other.length + 1))), s6]) (fun N4 hN4 => ?_) ?_
        · simp only [sSeq, sNext, sSet, sRet, sRetN, sIf, sAsg, sDrop, sPar, sBrk, sCnt, sFor, sStore, sAugI, sAug, dC, dVar, dTake, qVar, qE, aNil, aCons, dOp, dUn, dCallB, gets, Op.get, put, puts, dat_sh, dat_ow, dat_bw, dat_un, ty0, ty1, ty2, ty3, ty4, ty5, ty6, ty7, ty8, ty9, ty10, ty11, ty12, ty13, ty14, ty15, ty16, ty17, ty18, ty19, ty20, ty21, ty22, ty23, ty24, ty25, ty26, ty27, ty28, ty29, ty30, ty31, ty32, ty33, ty34, ty35, ty36, ty37, ty38, ty39, ty40, ty41, gIsi_non, gIsi_bl, gIsi_int, gIsi_str, gIsi_lst, gIsi_tup, gIsi_dct, gIsC, dMut0, mReverse, mPopAt, gEq_bl, gEq_strs, eq_self, Sl.cn, Sl.with, Cn.dat, Rv.dat, bOf, asB, bTr, gTruth, bAnd, bOr, bNot, dAnd, dOr, dNot, dIf, dChain, vNil, vCons, dTup, dLst, dDisp, psNil, psCons, keyed, D.key, gN, gT, gsNil, gsCons, rNil, rCons, srcE, srcR1, srcR2, srcR3, srcEnum, srcZip, srcC, srcV, itsOf, dLc, bYes, wipeD, agNil, agVal, agBor, mkArgs, bors, giveB, dCall, clean, dMut, slL, mAppend, mInsert, slC, cnSet, gAdd, gSubI, gDiv, gMod, gNeg, gCmpI, gIx, dSl, oNo, oE, gSl, dRev, dJoin, gAbs, gLen, gInt, gIsN, gList, Option.map_some, List.map_cons, List.map_nil, List.getElem?_cons_zero, List.getElem?_cons_succ, List.getElem?_nil, List.set_cons_zero, List.set_cons_succ, List.length_cons, List.length_nil, List.cons_append, List.nil_append, List.take_succ_cons, List.take_zero, List.replicate_succ, List.replicate_zero, gMin2, gMax2, gMax3, nodup1, List.nodup_nil, gEq_int, gEq_str, atI_0, atI_1, atI_2, atI_3, atI_4, atI_5, ixN_40, ixN_41, ixN_42, ixN_43, gMul, Nat.reduceAdd, Nat.reduceSub, Nat.zero_add, Option.isSome_some, true_and, and_true, Option.some.injEq, exists_and_left, exists_eq_left, exists_eq_left', id_eq, ite_true, ite_false, reduceIte, Bool.false_eq_true, decide_eq_true_eq, List.length_map, big]
          refine ⟨by omega, forL_rng (fun i ρ => ∃ (s6 : Sl), ρ = [.sh (.lst (one.map D.str)), .sh (.lst (other.map D.str)), .ow (.l (tabR p other)), .sh (.str x), .sh (.lst (rowD (fun j => lcs p.reverse (other.drop j)) (other.length + 1))), .ow (.l (rowD (fun j => if other.length ≤ j + i then lcs (x :: p.reverse) (other.drop j) else 0) (other.length + 1))), s6]) ⟨s6, ?_⟩ ?_ ?_⟩
          · have e1 : rowD (fun _ => 0) (other.length + 1) = rowD (fun j => if other.length ≤ j + 0 then lcs (x :: p.reverse) (other.drop j) else 0) (other.length + 1) := rowD_congr fun j hj => by
              by_cases q : other.length ≤ j + 0
              · rw [if_pos q, List.drop_eq_nil_of_le (by omega), lcs_nil']
              · rw [if_neg q]
            rw [e1]
          · rintro ρ ⟨s6, rfl⟩
            refine hN4 _ ⟨s6, ?_⟩
            have e1 : rowD (fun j => if other.length ≤ j + ((other.length : Int) - 1 - -1).toNat then lcs (x :: p.reverse) (other.drop j) else 0) (other.length + 1) = rowD (fun j => lcs (x :: p.reverse) (other.drop j)) (other.length + 1) := rowD_congr fun j hj => by
              rw [if_pos (by omega)]
            rw [e1]
          · rintro i ρ N5 hi hN5 ⟨s6, rfl⟩
            have hk' : other.length - 1 - i < other.length := by omega
            generalize hK : ((other.length : Int) - 1 + (i : Int) * -1) = K
            have eK : K = ((other.length - 1 - i : Nat) : Int) := by omega
            have bk := back_row p.reverse x other _ hk'
            have fin : ∀ z : Int, z = (lcs (x :: p.reverse) (other.drop (other.length - 1 - i)) : Nat) → N5 [.sh (.lst (one.map D.str)), .sh (.lst (other.map D.str)), .ow (.l (tabR p other)), .sh (.str x), .sh (.lst (rowD (fun j => lcs p.reverse (other.drop j)) (other.length + 1))), .ow (.l ((rowD (fun j => if other.length ≤ j + i then lcs (x :: p.reverse) (other.drop j) else 0) (other.length + 1)).set (other.length - 1 - i) (.int z))), .sh (.int K)] := fun z hz => by
              refine hN5 _ ⟨.sh (.int K), ?_⟩
              rw [hz]
              have := rowD_set (f := fun j => if other.length ≤ j + i then lcs (x :: p.reverse) (other.drop j) else 0) (g := fun j => if other.length ≤ j + (i + 1) then lcs (x :: p.reverse) (other.drop j) else 0) (n := other.length + 1) (i := other.length - 1 - i) fun j _ hj => by
                by_cases q : other.length ≤ j + i
                · rw [if_pos q, if_pos (by omega)]
                · rw [if_neg q, if_neg (by omega)]
              rw [← this]
              simp only [show other.length ≤ other.length - 1 - i + (i + 1) from by omega, if_true]
            have put : ixN ((rowD (fun j => if other.length ≤ j + i then lcs (x :: p.reverse) (other.drop j) else 0) (other.length + 1)).length) K = some (other.length - 1 - i) := by
              rw [rowD_len, eK]
              exact ixN_ok (by omega)
            simp only [sSeq, sNext, sSet, sRet, sRetN, sIf, sAsg, sDrop, sPar, sBrk, sCnt, sFor, sStore, sAugI, sAug, dC, dVar, dTake, qVar, qE, aNil, aCons, dOp, dUn, dCallB, gets, Op.get, put, puts, dat_sh, dat_ow, dat_bw, dat_un, ty0, ty1, ty2, ty3, ty4, ty5, ty6, ty7, ty8, ty9, ty10, ty11, ty12, ty13, ty14, ty15, ty16, ty17, ty18, ty19, ty20, ty21, ty22, ty23, ty24, ty25, ty26, ty27, ty28, ty29, ty30, ty31, ty32, ty33, ty34, ty35, ty36, ty37, ty38, ty39, ty40, ty41, gIsi_non, gIsi_bl, gIsi_int, gIsi_str, gIsi_lst, gIsi_tup, gIsi_dct, gIsC, dMut0, mReverse, mPopAt, gEq_bl, gEq_strs, eq_self, Sl.cn, Sl.with, Cn.dat, Rv.dat, bOf, asB, bTr, gTruth, bAnd, bOr, bNot, dAnd, dOr, dNot, dIf, dChain, vNil, vCons, dTup, dLst, dDisp, psNil, psCons, keyed, D.key, gN, gT, gsNil, gsCons, rNil, rCons, srcE, srcR1, srcR2, srcR3, srcEnum, srcZip, srcC, srcV, itsOf, dLc, bYes, wipeD, agNil, agVal, agBor, mkArgs, bors, giveB, dCall, clean, dMut, slL, mAppend, mInsert, slC, cnSet, gAdd, gSubI, gDiv, gMod, gNeg, gCmpI, gIx, dSl, oNo, oE, gSl, dRev, dJoin, gAbs, gLen, gInt, gIsN, gList, Option.map_some, List.map_cons, List.map_nil, List.getElem?_cons_zero, List.getElem?_cons_succ, List.getElem?_nil, List.set_cons_zero, List.set_cons_succ, List.length_cons, List.length_nil, List.cons_append, List.nil_append, List.take_succ_cons, List.take_zero, List.replicate_succ, List.replicate_zero, gMin2, gMax2, gMax3, nodup1, List.nodup_nil, gEq_int, gEq_str, atI_0, atI_1, atI_2, atI_3, atI_4, atI_5, ixN_40, ixN_41, ixN_42, ixN_43, gMul, Nat.reduceAdd, Nat.reduceSub, Nat.zero_add, Option.isSome_some, true_and, and_true, Option.some.injEq, exists_and_left, exists_eq_left, exists_eq_left', id_eq, ite_true, ite_false, reduceIte, Bool.false_eq_true, decide_eq_true_eq]
            refine ⟨_, get_str _ eK hk', ?_⟩
            by_cases q : other[other.length - 1 - i] = x
            · simp only [sSeq, sNext, sSet, sRet, sRetN, sIf, sAsg, sDrop, sPar, sBrk, sCnt, sFor, sStore, sAugI, sAug, dC, dVar, dTake, qVar, qE, aNil, aCons, dOp, dUn, dCallB, gets, Op.get, put, puts, dat_sh, dat_ow, dat_bw, dat_un, ty0, ty1, ty2, ty3, ty4, ty5, ty6, ty7, ty8, ty9, ty10, ty11, ty12, ty13, ty14, ty15, ty16, ty17, ty18, ty19, ty20, ty21, ty22, ty23, ty24, ty25, ty26, ty27, ty28, ty29, ty30, ty31, ty32, ty33, ty34, ty35, ty36, ty37, ty38, ty39, ty40, ty41, gIsi_non, gIsi_bl, gIsi_int, gIsi_str, gIsi_lst, gIsi_tup, gIsi_dct, gIsC, dMut0, mReverse, mPopAt, gEq_bl, gEq_strs, eq_self, Sl.cn, Sl.with, Cn.dat, Rv.dat, bOf, asB, bTr, gTruth, bAnd, bOr, bNot, dAnd, dOr, dNot, dIf, dChain, vNil, vCons, dTup, dLst, dDisp, psNil, psCons, keyed, D.key, gN, gT, gsNil, gsCons, rNil, rCons, srcE, srcR1, srcR2, srcR3, srcEnum, srcZip, srcC, srcV, itsOf, dLc, bYes, wipeD, agNil, agVal, agBor, mkArgs, bors, giveB, dCall, clean, dMut, slL, mAppend, mInsert, slC, cnSet, gAdd, gSubI, gDiv, gMod, gNeg, gCmpI, gIx, dSl, oNo, oE, gSl, dRev, dJoin, gAbs, gLen, gInt, gIsN, gList, Option.map_some, List.map_cons, List.map_nil, List.getElem?_cons_zero, List.getElem?_cons_succ, List.getElem?_nil, List.set_cons_zero, List.set_cons_succ, List.length_cons, List.length_nil, List.cons_append, List.nil_append, List.take_succ_cons, List.take_zero, List.replicate_succ, List.replicate_zero, gMin2, gMax2, gMax3, nodup1, List.nodup_nil, gEq_int, gEq_str, atI_0, atI_1, atI_2, atI_3, atI_4, atI_5, ixN_40, ixN_41, ixN_42, ixN_43, gMul, Nat.reduceAdd, Nat.reduceSub, Nat.zero_add, Option.isSome_some, true_and, and_true, Option.some.injEq, exists_and_left, exists_eq_left, exists_eq_left', id_eq, ite_true, ite_false, reduceIte, Bool.false_eq_true, decide_eq_true_eq, q]
              refine ⟨_, rowD_at (other.length - 1 - i + 1) (by omega) (by omega), ?_⟩
              try simp only [sSeq, sNext, sSet, sRet, sRetN, sIf, sAsg, sDrop, sPar, sBrk, sCnt, sFor, sStore, sAugI, sAug, dC, dVar, dTake, qVar, qE, aNil, aCons, dOp, dUn, dCallB, gets, Op.get, put, puts, dat_sh, dat_ow, dat_bw, dat_un, ty0, ty1, ty2, ty3, ty4, ty5, ty6, ty7, ty8, ty9, ty10, ty11, ty12, ty13, ty14, ty15, ty16, ty17, ty18, ty19, ty20, ty21, ty22, ty23, ty24, ty25, ty26, ty27, ty28, ty29, ty30, ty31, ty32, ty33, ty34, ty35, ty36, ty37, ty38, ty39, ty40, ty41, gIsi_non, gIsi_bl, gIsi_int, gIsi_str, gIsi_lst, gIsi_tup, gIsi_dct, gIsC, dMut0, mReverse, mPopAt, gEq_bl, gEq_strs, eq_self, Sl.cn, Sl.with, Cn.dat, Rv.dat, bOf, asB, bTr, gTruth, bAnd, bOr, bNot, dAnd, dOr, dNot, dIf, dChain, vNil, vCons, dTup, dLst, dDisp, psNil, psCons, keyed, D.key, gN, gT, gsNil, gsCons, rNil, rCons, srcE, srcR1, srcR2, srcR3, srcEnum, srcZip, srcC, srcV, itsOf, dLc, bYes, wipeD, agNil, agVal, agBor, mkArgs, bors, giveB, dCall, clean, dMut, slL, mAppend, mInsert, slC, cnSet, gAdd, gSubI, gDiv, gMod, gNeg, gCmpI, gIx, dSl, oNo, oE, gSl, dRev, dJoin, gAbs, gLen, gInt, gIsN, gList, Option.map_some, List.map_cons, List.map_nil, List.getElem?_cons_zero, List.getElem?_cons_succ, List.getElem?_nil, List.set_cons_zero, List.set_cons_succ, List.length_cons, List.length_nil, List.cons_append, List.nil_append, List.take_succ_cons, List.take_zero, List.replicate_succ, List.replicate_zero, gMin2, gMax2, gMax3, nodup1, List.nodup_nil, gEq_int, gEq_str, atI_0, atI_1, atI_2, atI_3, atI_4, atI_5, ixN_40, ixN_41, ixN_42, ixN_43, gMul, Nat.reduceAdd, Nat.reduceSub, Nat.zero_add, Option.isSome_some, true_and, and_true, Option.some.injEq, exists_and_left, exists_eq_left, exists_eq_left', id_eq, ite_true, ite_false, reduceIte, Bool.false_eq_true, decide_eq_true_eq, put]
              refine fin _ ?_
              rw [bk, if_pos q]
              rfl
            · simp only [sSeq, sNext, sSet, sRet, sRetN, sIf, sAsg, sDrop, sPar, sBrk, sCnt, sFor, sStore, sAugI, sAug, dC, dVar, dTake, qVar, qE, aNil, aCons, dOp, dUn, dCallB, gets, Op.get, put, puts, dat_sh, dat_ow, dat_bw, dat_un, ty0, ty1, ty2, ty3, ty4, ty5, ty6, ty7, ty8, ty9, ty10, ty11, ty12, ty13, ty14, ty15, ty16, ty17, ty18, ty19, ty20, ty21, ty22, ty23, ty24, ty25, ty26, ty27, ty28, ty29, ty30, ty31, ty32, ty33, ty34, ty35, ty36, ty37, ty38, ty39, ty40, ty41, gIsi_non, gIsi_bl, gIsi_int, gIsi_str, gIsi_lst, gIsi_tup, gIsi_dct, gIsC, dMut0, mReverse, mPopAt, gEq_bl, gEq_strs, eq_self, Sl.cn, Sl.with, Cn.dat, Rv.dat, bOf, asB, bTr, gTruth, bAnd, bOr, bNot, dAnd, dOr, dNot, dIf, dChain, vNil, vCons, dTup, dLst, dDisp, psNil, psCons, keyed, D.key, gN, gT, gsNil, gsCons, rNil, rCons, srcE, srcR1, srcR2, srcR3, srcEnum, srcZip, srcC, srcV, itsOf, dLc, bYes, wipeD, agNil, agVal, agBor, mkArgs, bors, giveB, dCall, clean, dMut, slL, mAppend, mInsert, slC, cnSet, gAdd, gSubI, gDiv, gMod, gNeg, gCmpI, gIx, dSl, oNo, oE, gSl, dRev, dJoin, gAbs, gLen, gInt, gIsN, gList, Option.map_some, List.map_cons, List.map_nil, List.getElem?_cons_zero, List.getElem?_cons_succ, List.getElem?_nil, List.set_cons_zero, List.set_cons_succ, List.length_cons, List.length_nil, List.cons_append, List.nil_append, List.take_succ_cons, List.take_zero, List.replicate_succ, List.replicate_zero, gMin2, gMax2, gMax3, nodup1, List.nodup_nil, gEq_int, gEq_str, atI_0, atI_1, atI_2, atI_3, atI_4, atI_5, ixN_40, ixN_41, ixN_42, ixN_43, gMul, Nat.reduceAdd, Nat.reduceSub, Nat.zero_add, Option.isSome_some, true_and, and_true, Option.some.injEq, exists_and_left, exists_eq_left, exists_eq_left', id_eq, ite_true, ite_false, reduceIte, Bool.false_eq_true, decide_eq_true_eq, q]
              refine ⟨_, rowD_at (other.length - 1 - i) (by omega) (by omega), ?_⟩
              try simp only [sSeq, sNext, sSet, sRet, sRetN, sIf, sAsg, sDrop, sPar, sBrk, sCnt, sFor, sStore, sAugI, sAug, dC, dVar, dTake, qVar, qE, aNil, aCons, dOp, dUn, dCallB, gets, Op.get, put, puts, dat_sh, dat_ow, dat_bw, dat_un, ty0, ty1, ty2, ty3, ty4, ty5, ty6, ty7, ty8, ty9, ty10, ty11, ty12, ty13, ty14, ty15, ty16, ty17, ty18, ty19, ty20, ty21, ty22, ty23, ty24, ty25, ty26, ty27, ty28, ty29, ty30, ty31, ty32, ty33, ty34, ty35, ty36, ty37, ty38, ty39, ty40, ty41, gIsi_non, gIsi_bl, gIsi_int, gIsi_str, gIsi_lst, gIsi_tup, gIsi_dct, gIsC, dMut0, mReverse, mPopAt, gEq_bl, gEq_strs, eq_self, Sl.cn, Sl.with, Cn.dat, Rv.dat, bOf, asB, bTr, gTruth, bAnd, bOr, bNot, dAnd, dOr, dNot, dIf, dChain, vNil, vCons, dTup, dLst, dDisp, psNil, psCons, keyed, D.key, gN, gT, gsNil, gsCons, rNil, rCons, srcE, srcR1, srcR2, srcR3, srcEnum, srcZip, srcC, srcV, itsOf, dLc, bYes, wipeD, agNil, agVal, agBor, mkArgs, bors, giveB, dCall, clean, dMut, slL, mAppend, mInsert, slC, cnSet, gAdd, gSubI, gDiv, gMod, gNeg, gCmpI, gIx, dSl, oNo, oE, gSl, dRev, dJoin, gAbs, gLen, gInt, gIsN, gList, Option.map_some, List.map_cons, List.map_nil, List.getElem?_cons_zero, List.getElem?_cons_succ, List.getElem?_nil, List.set_cons_zero, List.set_cons_succ, List.length_cons, List.length_nil, List.cons_append, List.nil_append, List.take_succ_cons, List.take_zero, List.replicate_succ, List.replicate_zero, gMin2, gMax2, gMax3, nodup1, List.nodup_nil, gEq_int, gEq_str, atI_0, atI_1, atI_2, atI_3, atI_4, atI_5, ixN_40, ixN_41, ixN_42, ixN_43, gMul, Nat.reduceAdd, Nat.reduceSub, Nat.zero_add, Option.isSome_some, true_and, and_true, Option.some.injEq, exists_and_left, exists_eq_left, exists_eq_left', id_eq, ite_true, ite_false, reduceIte, Bool.false_eq_true, decide_eq_true_eq]
              refine ⟨_, rowD_at (other.length - 1 - i + 1) (by omega) (by omega), ?_⟩
              try simp only [sSeq, sNext, sSet, sRet, sRetN, sIf, sAsg, sDrop, sPar, sBrk, sCnt, sFor, sStore, sAugI, sAug, dC, dVar, dTake, qVar, qE, aNil, aCons, dOp, dUn, dCallB, gets, Op.get, put, puts, dat_sh, dat_ow, dat_bw, dat_un, ty0, ty1, ty2, ty3, ty4, ty5, ty6, ty7, ty8, ty9, ty10, ty11, ty12, ty13, ty14, ty15, ty16, ty17, ty18, ty19, ty20, ty21, ty22, ty23, ty24, ty25, ty26, ty27, ty28, ty29, ty30, ty31, ty32, ty33, ty34, ty35, ty36, ty37, ty38, ty39, ty40, ty41, gIsi_non, gIsi_bl, gIsi_int, gIsi_str, gIsi_lst, gIsi_tup, gIsi_dct, gIsC, dMut0, mReverse, mPopAt, gEq_bl, gEq_strs, eq_self, Sl.cn, Sl.with, Cn.dat, Rv.dat, bOf, asB, bTr, gTruth, bAnd, bOr, bNot, dAnd, dOr, dNot, dIf, dChain, vNil, vCons, dTup, dLst, dDisp, psNil, psCons, keyed, D.key, gN, gT, gsNil, gsCons, rNil, rCons, srcE, srcR1, srcR2, srcR3, srcEnum, srcZip, srcC, srcV, itsOf, dLc, bYes, wipeD, agNil, agVal, agBor, mkArgs, bors, giveB, dCall, clean, dMut, slL, mAppend, mInsert, slC, cnSet, gAdd, gSubI, gDiv, gMod, gNeg, gCmpI, gIx, dSl, oNo, oE, gSl, dRev, dJoin, gAbs, gLen, gInt, gIsN, gList, Option.map_some, List.map_cons, List.map_nil, List.getElem?_cons_zero, List.getElem?_cons_succ, List.getElem?_nil, List.set_cons_zero, List.set_cons_succ, List.length_cons, List.length_nil, List.cons_append, List.nil_append, List.take_succ_cons, List.take_zero, List.replicate_succ, List.replicate_zero, gMin2, gMax2, gMax3, nodup1, List.nodup_nil, gEq_int, gEq_str, atI_0, atI_1, atI_2, atI_3, atI_4, atI_5, ixN_40, ixN_41, ixN_42, ixN_43, gMul, Nat.reduceAdd, Nat.reduceSub, Nat.zero_add, Option.isSome_some, true_and, and_true, Option.some.injEq, exists_and_left, exists_eq_left, exists_eq_left', id_eq, ite_true, ite_false, reduceIte, Bool.false_eq_true, decide_eq_true_eq, put]
              refine fin _ ?_
              rw [bk, if_neg q, if_pos (by omega)]
              omega
        · rintro ρ' ⟨s6, rfl⟩
          simp only [sSeq, sNext, sSet, sRet, sRetN, sIf, sAsg, sDrop, sPar, sBrk, sCnt, sFor, sStore, sAugI, sAug, dC, dVar, dTake, qVar, qE, aNil, aCons, dOp, dUn, dCallB, gets, Op.get, put, puts, dat_sh, dat_ow, dat_bw, dat_un, ty0, ty1, ty2, ty3, ty4, ty5, ty6, ty7, ty8, ty9, ty10, ty11, ty12, ty13, ty14, ty15, ty16, ty17, ty18, ty19, ty20, ty21, ty22, ty23, ty24, ty25, ty26, ty27, ty28, ty29, ty30, ty31, ty32, ty33, ty34, ty35, ty36, ty37, ty38, ty39, ty40, ty41, gIsi_non, gIsi_bl, gIsi_int, gIsi_str, gIsi_lst, gIsi_tup, gIsi_dct, gIsC, dMut0, mReverse, mPopAt, gEq_bl, gEq_strs, eq_self, Sl.cn, Sl.with, Cn.dat, Rv.dat, bOf, asB, bTr, gTruth, bAnd, bOr, bNot, dAnd, dOr, dNot, dIf, dChain, vNil, vCons, dTup, dLst, dDisp, psNil, psCons, keyed, D.key, gN, gT, gsNil, gsCons, rNil, rCons, srcE, srcR1, srcR2, srcR3, srcEnum, srcZip, srcC, srcV, itsOf, dLc, bYes, wipeD, agNil, agVal, agBor, mkArgs, bors, giveB, dCall, clean, dMut, slL, mAppend, mInsert, slC, cnSet, gAdd, gSubI, gDiv, gMod, gNeg, gCmpI, gIx, dSl, oNo, oE, gSl, dRev, dJoin, gAbs, gLen, gInt, gIsN, gList, Option.map_some, List.map_cons, List.map_nil, List.getElem?_cons_zero, List.getElem?_cons_succ, List.getElem?_nil, List.set_cons_zero, List.set_cons_succ, List.length_cons, List.length_nil, List.cons_append, List.nil_append, List.take_succ_cons, List.take_zero, List.replicate_succ, List.replicate_zero, gMin2, gMax2, gMax3, nodup1, List.nodup_nil, gEq_int, gEq_str, atI_0, atI_1, atI_2, atI_3, atI_4, atI_5, ixN_40, ixN_41, ixN_42, ixN_43, gMul, Nat.reduceAdd, Nat.reduceSub, Nat.zero_add, Option.isSome_some, true_and, and_true, Option.some.injEq, exists_and_left, exists_eq_left, exists_eq_left', id_eq, ite_true, ite_false, reduceIte, Bool.false_eq_true, decide_eq_true_eq, tabR_len]
          rw [← tabR_snoc]
          exact ⟨lt_size (by omega), hN2 _ ⟨_, _, _, _, rfl⟩⟩
    · rintro ρ' ⟨s3, s4, s5, s6, rfl⟩
      simp only [sSeq, sNext, sSet, sRet, sRetN, sIf, sAsg, sDrop, sPar, sBrk, sCnt, sFor, sStore, sAugI, sAug, dC, dVar, dTake, qVar, qE, aNil, aCons, dOp, dUn, dCallB, gets, Op.get, put, puts, dat_sh, dat_ow, dat_bw, dat_un, ty0, ty1, ty2, ty3, ty4, ty5, ty6, ty7, ty8, ty9, ty10, ty11, ty12, ty13, ty14, ty15, ty16, ty17, ty18, ty19, ty20, ty21, ty22, ty23, ty24, ty25, ty26, ty27, ty28, ty29, ty30, ty31, ty32, ty33, ty34, ty35, ty36, ty37, ty38, ty39, ty40, ty41, gIsi_non, gIsi_bl, gIsi_int, gIsi_str, gIsi_lst, gIsi_tup, gIsi_dct, gIsC, dMut0, mReverse, mPopAt, gEq_bl, gEq_strs, eq_self, Sl.cn, Sl.with, Cn.dat, Rv.dat, bOf, asB, bTr, gTruth, bAnd, bOr, bNot, dAnd, dOr, dNot, dIf, dChain, vNil, vCons, dTup, dLst, dDisp, psNil, psCons, keyed, D.key, gN, gT, gsNil, gsCons, rNil, rCons, srcE, srcR1, srcR2, srcR3, srcEnum, srcZip, srcC, srcV, itsOf, dLc, bYes, wipeD, agNil, agVal, agBor, mkArgs, bors, giveB, dCall, clean, dMut, slL, mAppend, mInsert, slC, cnSet, gAdd, gSubI, gDiv, gMod, gNeg, gCmpI, gIx, dSl, oNo, oE, gSl, dRev, dJoin, gAbs, gLen, gInt, gIsN, gList, Option.map_some, List.map_cons, List.map_nil, List.getElem?_cons_zero, List.getElem?_cons_succ, List.getElem?_nil, List.set_cons_zero, List.set_cons_succ, List.length_cons, List.length_nil, List.cons_append, List.nil_append, List.take_succ_cons, List.take_zero, List.replicate_succ, List.replicate_zero, gMin2, gMax2, gMax3, nodup1, List.nodup_nil, gEq_int, gEq_str, atI_0, atI_1, atI_2, atI_3, atI_4, atI_5, ixN_40, ixN_41, ixN_42, ixN_43, gMul, Nat.reduceAdd, Nat.reduceSub, Nat.zero_add, Option.isSome_some, true_and, and_true, Option.some.injEq, exists_and_left, exists_eq_left, exists_eq_left', id_eq, ite_true, ite_false, reduceIte, Bool.false_eq_true, decide_eq_true_eq, tabR_rev]
      exact h
def isIntD : D → Bool
  | .int _ => true
  | _ => false
def btwD (d : D) (lo hi : Int) : Bool := match d with
  | .int i => decide (lo ≤ i) && decide (i ≤ hi)
  | _ => false
/-- a link of two lines -/
def LinkD (one other : List Str) (d : D) : Prop := ∃ i j : Nat, d = .tup [.int i, .int j] ∧ ∃ x, one[i]? = some x ∧ other[j]? = some x
/-- behind the item ahead of it -/
def AscD (d e : D) : Prop := ∀ i j k l : Int, d = .tup [.int i, .int j] → e = .tup [.int k, .int l] → i < k ∧ j < l
/-- the longest common parts, as they are told -/
def GoodL (one other : List Str) (l : List D) : Prop := l.length = lcs one other ∧ (∀ d ∈ l, LinkD one other d) ∧ ∀ (k : Nat) (d e : D), l[k]? = some d → l[k + 1]? = some e → AscD d e
def GoodD (one other : List Str) (d : D) : Prop := ∃ l, d = .lst l ∧ GoodL one other l
/-- a thing whose parts are plain -/
def Tame (d : D) : Prop := d.ty.isSome = true ∧ ∀ l, d = .tup l → ∀ x ∈ l, x.ty.isSome = true
def TameL (d : D) : Prop := d.ty.isSome = true ∧ ∀ l, d = .lst l → l.length ≤ 1000 ∧ ∀ x ∈ l, Tame x
def sp_common : SpD := fun as Q => ∃ (one other : List Str), as = [.sh (.lst (one.map D.str)), .sh (.lst (other.map D.str))] ∧ one.length ≤ 200 ∧ other.length ≤ 200 ∧ ∀ l, GoodL one other l → Q (.fr (.l l)) [.un, .un]
theorem len_common {as : SL} {Q : Rv → SL → Prop} (h : sp_common as Q) : as.length = 2 := by
  obtain ⟨_, _, rfl, _⟩ := h
  rfl
theorem tabD_at {one other : List Str} {k : Int} (i : Nat) (e : k = i) (h : i ≤ one.length) : atI (tabD one other) k = some (.lst (rowD (fun j => lcs (one.drop i) (other.drop j)) (other.length + 1))) := by
  subst e
  refine atI_int (by omega) ?_
  unfold tabD
  rw [Int.toNat_natCast, List.getElem?_map, List.getElem?_range (by omega)]
  rfl
/-- the parts found so far -/
structure Far (one other : List Str) (i j : Nat) (l : List D) : Prop where
  lk : ∀ d ∈ l, LinkD one other d
  asc : ∀ (k : Nat) (d e : D), l[k]? = some d → l[k + 1]? = some e → AscD d e
  last : ∀ (a b : Int), D.tup [.int a, .int b] ∈ l → a < i ∧ b < j
  len : l.length + lcs (one.drop i) (other.drop j) = lcs one other
  hi : i ≤ one.length
  hj : j ≤ other.length
theorem ok_common {f : Addr} {fd : FuncData} (Fn : Fun K "common" "common" s_common f fd) {a_common_lengths : Addr} {d_common_lengths : FuncData} (f_common_lengths : Cal P w K mg base 1 "common_lengths" a_common_lengths d_common_lengths ["one", "other"] sp_common_lengths) (z_len : mg "len" = none) : FnG P w K mg base CX0 2 f fd ["one", "other"] (lift K sp_common) := by
  have nd := sc_common.nd
  refine fnD Fn sc_common (fun as Q h => ?len) (fun cdv A outer s H hgd hr => ⟨_, _,
    (dss_cons (ds_set (i := 2) nd rfl (.inl rfl) (de_call f_common_lengths.ok hgd (hr.mono (by decide)) (by rfl) f_common_lengths.g f_common_lengths.kp f_common_lengths.b pass0 (dag_val (de_var (pv 0)) (dag_val (de_var (pv 1)) dag_nil))))
      (dss_cons (ds_par3 (i := 3) (j := 4) (l := 5) rfl nd rfl rfl rfl (by decide) (by decide) (by decide) rfl rfl rfl (dr_cons (de_lst dv_nil) (dr_cons de_int (dr_cons de_int dr_nil))) (by rfl))
      (dss_cons (ds_while PassesOwn.never (dw_pt (dw_and (dt_cmp op_lt sem_lt (do_var (pv 4)) (do_e (de_callB call_lenA sem_len (by rfl) z_len (by decide +kernel) (da_cons (do_var (pv 0)) da_nil))) (nomark _)) (dw_and1 (dt_cmp op_lt sem_lt (do_var (pv 5)) (do_e (de_callB call_lenA sem_len (by rfl) z_len (by decide +kernel) (da_cons (do_var (pv 1)) da_nil))) (nomark _)))))
      (dss_one (ds_if (dt_cmp (op_eqA (hu64 hr)) sem_eq (do_e (de_ix (hu1 hr) (do_var (pv 0)) (do_var (pv 4)))) (do_e (de_ix (hu1 hr) (do_var (pv 1)) (do_var (pv 5)))) (nomark _)) (dss_cons (ds_expr (de_append (pv 3) (dv_cons (de_tup (dv_cons (de_var (pv 4)) (dv_cons (de_var (pv 5)) dv_nil))) dv_nil)))
      (dss_one (ds_par (i := 4) (j := 5) rfl nd rfl rfl (by decide) rfl rfl (dr_cons (de_op op_addA sem_addA (do_var (pv 4)) (do_e de_int)) (dr_cons (de_op op_addA sem_addA (do_var (pv 5)) (do_e de_int)) dr_nil)) (by rfl)))) (dss_one (ds_if (dt_cmp op_ge sem_ge (do_e (de_ix (hu1 hr) (do_e (de_ix (hu1 hr) (do_var (pv 2)) (do_e (de_op op_addA sem_addA (do_var (pv 4)) (do_e de_int))))) (do_var (pv 5)))) (do_e (de_ix (hu1 hr) (do_e (de_ix (hu1 hr) (do_var (pv 2)) (do_var (pv 4)))) (do_e (de_op op_addA sem_addA (do_var (pv 5)) (do_e de_int))))) (nomark _)) (dss_one (ds_aug (i := 4) nd rfl (.inl rfl) de_int ip_add)) (dss_one (ds_aug (i := 5) nd rfl (.inl rfl) de_int ip_add)))))))
      (dss_one (ds_ret (de_take (pv 3))))))), fun as Q h => ?_⟩)
  case len => exact len_common h
  · obtain ⟨one, other, rfl, l1, l2, h⟩ := h
    simp only [List.length_cons, List.length_nil, Nat.reduceAdd, Nat.reduceSub, List.replicate_succ, List.replicate_zero, List.cons_append, List.nil_append]
    refine sSeq_go fun N0 h0 => ?_
    try simp only [sSeq, sNext, sSet, sRet, sRetN, sIf, sAsg, sDrop, sPar, sBrk, sCnt, sFor, sStore, sAugI, sAug, dC, dVar, dTake, qVar, qE, aNil, aCons, dOp, dUn, dCallB, gets, Op.get, put, puts, dat_sh, dat_ow, dat_bw, dat_un, ty0, ty1, ty2, ty3, ty4, ty5, ty6, ty7, ty8, ty9, ty10, ty11, ty12, ty13, ty14, ty15, ty16, ty17, ty18, ty19, ty20, ty21, ty22, ty23, ty24, ty25, ty26, ty27, ty28, ty29, ty30, ty31, ty32, ty33, ty34, ty35, ty36, ty37, ty38, ty39, ty40, ty41, gIsi_non, gIsi_bl, gIsi_int, gIsi_str, gIsi_lst, gIsi_tup, gIsi_dct, gIsC, dMut0, mReverse, mPopAt, gEq_bl, gEq_strs, eq_self, Sl.cn, Sl.with, Cn.dat, Rv.dat, bOf, asB, bTr, gTruth, bAnd, bOr, bNot, dAnd, dOr, dNot, dIf, dChain, vNil, vCons, dTup, dLst, dDisp, psNil, psCons, keyed, D.key, gN, gT, gsNil, gsCons, rNil, rCons, srcE, srcR1, srcR2, srcR3, srcEnum, srcZip, srcC, srcV, itsOf, dLc, bYes, wipeD, agNil, agVal, agBor, mkArgs, bors, giveB, dCall, clean, dMut, slL, mAppend, mInsert, slC, cnSet, gAdd, gSubI, gDiv, gMod, gNeg, gCmpI, gIx, dSl, oNo, oE, gSl, dRev, dJoin, gAbs, gLen, gInt, gIsN, gList, Option.map_some, List.map_cons, List.map_nil, List.getElem?_cons_zero, List.getElem?_cons_succ, List.getElem?_nil, List.set_cons_zero, List.set_cons_succ, List.length_cons, List.length_nil, List.cons_append, List.nil_append, List.take_succ_cons, List.take_zero, List.replicate_succ, List.replicate_zero, gMin2, gMax2, gMax3, nodup1, List.nodup_nil, gEq_int, gEq_str, atI_0, atI_1, atI_2, atI_3, atI_4, atI_5, ixN_40, ixN_41, ixN_42, ixN_43, gMul, Nat.reduceAdd, Nat.reduceSub, Nat.zero_add, Option.isSome_some, true_and, and_true, Option.some.injEq, exists_and_left, exists_eq_left, exists_eq_left', id_eq, ite_true, ite_false, reduceIte, Bool.false_eq_true, decide_eq_true_eq]
    refine ⟨one, other, rfl, l1, l2, ?_⟩
    try simp only [sSeq, sNext, sSet, sRet, sRetN, sIf, sAsg, sDrop, sPar, sBrk, sCnt, sFor, sStore, sAugI, sAug, dC, dVar, dTake, qVar, qE, aNil, aCons, dOp, dUn, dCallB, gets, Op.get, put, puts, dat_sh, dat_ow, dat_bw, dat_un, ty0, ty1, ty2, ty3, ty4, ty5, ty6, ty7, ty8, ty9, ty10, ty11, ty12, ty13, ty14, ty15, ty16, ty17, ty18, ty19, ty20, ty21, ty22, ty23, ty24, ty25, ty26, ty27, ty28, ty29, ty30, ty31, ty32, ty33, ty34, ty35, ty36, ty37, ty38, ty39, ty40, ty41, gIsi_non, gIsi_bl, gIsi_int, gIsi_str, gIsi_lst, gIsi_tup, gIsi_dct, gIsC, dMut0, mReverse, mPopAt, gEq_bl, gEq_strs, eq_self, Sl.cn, Sl.with, Cn.dat, Rv.dat, bOf, asB, bTr, gTruth, bAnd, bOr, bNot, dAnd, dOr, dNot, dIf, dChain, vNil, vCons, dTup, dLst, dDisp, psNil, psCons, keyed, D.key, gN, gT, gsNil, gsCons, rNil, rCons, srcE, srcR1, srcR2, srcR3, srcEnum, srcZip, srcC, srcV, itsOf, dLc, bYes, wipeD, agNil, agVal, agBor, mkArgs, bors, giveB, dCall, clean, dMut, slL, mAppend, mInsert, slC, cnSet, gAdd, gSubI, gDiv, gMod, gNeg, gCmpI, gIx, dSl, oNo, oE, gSl, dRev, dJoin, gAbs, gLen, gInt, gIsN, gList, Option.map_some, List.map_cons, List.map_nil, List.getElem?_cons_zero, List.getElem?_cons_succ, List.getElem?_nil, List.set_cons_zero, List.set_cons_succ, List.length_cons, List.length_nil, List.cons_append, List.nil_append, List.take_succ_cons, List.take_zero, List.replicate_succ, List.replicate_zero, gMin2, gMax2, gMax3, nodup1, List.nodup_nil, gEq_int, gEq_str, atI_0, atI_1, atI_2, atI_3, atI_4, atI_5, ixN_40, ixN_41, ixN_42, ixN_43, gMul, Nat.reduceAdd, Nat.reduceSub, Nat.zero_add, Option.isSome_some, true_and, and_true, Option.some.injEq, exists_and_left, exists_eq_left, exists_eq_left', id_eq, ite_true, ite_false, reduceIte, Bool.false_eq_true, decide_eq_true_eq]
    refine h0 _ ?_
    clear h0
    refine sSeq_go fun N0 h0 => ?_
    try simp only [sSeq, sNext, sSet, sRet, sRetN, sIf, sAsg, sDrop, sPar, sBrk, sCnt, sFor, sStore, sAugI, sAug, dC, dVar, dTake, qVar, qE, aNil, aCons, dOp, dUn, dCallB, gets, Op.get, put, puts, dat_sh, dat_ow, dat_bw, dat_un, ty0, ty1, ty2, ty3, ty4, ty5, ty6, ty7, ty8, ty9, ty10, ty11, ty12, ty13, ty14, ty15, ty16, ty17, ty18, ty19, ty20, ty21, ty22, ty23, ty24, ty25, ty26, ty27, ty28, ty29, ty30, ty31, ty32, ty33, ty34, ty35, ty36, ty37, ty38, ty39, ty40, ty41, gIsi_non, gIsi_bl, gIsi_int, gIsi_str, gIsi_lst, gIsi_tup, gIsi_dct, gIsC, dMut0, mReverse, mPopAt, gEq_bl, gEq_strs, eq_self, Sl.cn, Sl.with, Cn.dat, Rv.dat, bOf, asB, bTr, gTruth, bAnd, bOr, bNot, dAnd, dOr, dNot, dIf, dChain, vNil, vCons, dTup, dLst, dDisp, psNil, psCons, keyed, D.key, gN, gT, gsNil, gsCons, rNil, rCons, srcE, srcR1, srcR2, srcR3, srcEnum, srcZip, srcC, srcV, itsOf, dLc, bYes, wipeD, agNil, agVal, agBor, mkArgs, bors, giveB, dCall, clean, dMut, slL, mAppend, mInsert, slC, cnSet, gAdd, gSubI, gDiv, gMod, gNeg, gCmpI, gIx, dSl, oNo, oE, gSl, dRev, dJoin, gAbs, gLen, gInt, gIsN, gList, Option.map_some, List.map_cons, List.map_nil, List.getElem?_cons_zero, List.getElem?_cons_succ, List.getElem?_nil, List.set_cons_zero, List.set_cons_succ, List.length_cons, List.length_nil, List.cons_append, List.nil_append, List.take_succ_cons, List.take_zero, List.replicate_succ, List.replicate_zero, gMin2, gMax2, gMax3, nodup1, List.nodup_nil, gEq_int, gEq_str, atI_0, atI_1, atI_2, atI_3, atI_4, atI_5, ixN_40, ixN_41, ixN_42, ixN_43, gMul, Nat.reduceAdd, Nat.reduceSub, Nat.zero_add, Option.isSome_some, true_and, and_true, Option.some.injEq, exists_and_left, exists_eq_left, exists_eq_left', id_eq, ite_true, ite_false, reduceIte, Bool.false_eq_true, decide_eq_true_eq]
    refine ⟨le_size (by decide), h0 _ ?_⟩
    clear h0
    refine sSeq_cut (fun ρ' => ∃ l s4 s5, GoodL one other l ∧ ρ' = [.sh (.lst (one.map D.str)), .sh (.lst (other.map D.str)), .ow (.l (tabD one other)), .ow (.l l), s4, s5]) (fun N hN1 => ?_) ?_
    · refine sWhile_on (fun m ρ => ∃ (i j : Nat) (l : List D), m = (one.length - i) + (other.length - j) ∧ Far one other i j l ∧ ρ = [.sh (.lst (one.map D.str)), .sh (.lst (other.map D.str)), .ow (.l (tabD one other)), .ow (.l l), .sh (.int i), .sh (.int j)])
        ⟨0, 0, [], rfl, ⟨by simp, by simp, by simp, by simp, Nat.zero_le _, Nat.zero_le _⟩, rfl⟩ ?_
      rintro m ρ N2 hN2 ⟨i, j, l, rfl, hf, rfl⟩
      try simp only [sSeq, sNext, sSet, sRet, sRetN, sIf, sAsg, sDrop, sPar, sBrk, sCnt, sFor, sStore, sAugI, sAug, dC, dVar, dTake, qVar, qE, aNil, aCons, dOp, dUn, dCallB, gets, Op.get, put, puts, dat_sh, dat_ow, dat_bw, dat_un, ty0, ty1, ty2, ty3, ty4, ty5, ty6, ty7, ty8, ty9, ty10, ty11, ty12, ty13, ty14, ty15, ty16, ty17, ty18, ty19, ty20, ty21, ty22, ty23, ty24, ty25, ty26, ty27, ty28, ty29, ty30, ty31, ty32, ty33, ty34, ty35, ty36, ty37, ty38, ty39, ty40, ty41, gIsi_non, gIsi_bl, gIsi_int, gIsi_str, gIsi_lst, gIsi_tup, gIsi_dct, gIsC, dMut0, mReverse, mPopAt, gEq_bl, gEq_strs, eq_self, Sl.cn, Sl.with, Cn.dat, Rv.dat, bOf, asB, bTr, gTruth, bAnd, bOr, bNot, dAnd, dOr, dNot, dIf, dChain, vNil, vCons, dTup, dLst, dDisp, psNil, psCons, keyed, D.key, gN, gT, gsNil, gsCons, rNil, rCons, srcE, srcR1, srcR2, srcR3, srcEnum, srcZip, srcC, srcV, itsOf, dLc, bYes, wipeD, agNil, agVal, agBor, mkArgs, bors, giveB, dCall, clean, dMut, slL, mAppend, mInsert, slC, cnSet, gAdd, gSubI, gDiv, gMod, gNeg, gCmpI, gIx, dSl, oNo, oE, gSl, dRev, dJoin, gAbs, gLen, gInt, gIsN, gList, Option.map_some, List.map_cons, List.map_nil, List.getElem?_cons_zero, List.getElem?_cons_succ, List.getElem?_nil, List.set_cons_zero, List.set_cons_succ, List.length_cons, List.length_nil, List.cons_append, List.nil_append, List.take_succ_cons, List.take_zero, List.replicate_succ, List.replicate_zero, gMin2, gMax2, gMax3, nodup1, List.nodup_nil, gEq_int, gEq_str, atI_0, atI_1, atI_2, atI_3, atI_4, atI_5, ixN_40, ixN_41, ixN_42, ixN_43, gMul, Nat.reduceAdd, Nat.reduceSub, Nat.zero_add, Option.isSome_some, true_and, and_true, Option.some.injEq, exists_and_left, exists_eq_left, exists_eq_left', id_eq, ite_true, ite_false, reduceIte, Bool.false_eq_true, decide_eq_true_eq, List.length_map]
      by_cases h1 : i < one.length ∧ j < other.length
      · obtain ⟨hi, hj⟩ := h1
        have hi' : (i : Int) < one.length := by omega
        have hj' : (j : Int) < other.length := by omega
        try simp only [sSeq, sNext, sSet, sRet, sRetN, sIf, sAsg, sDrop, sPar, sBrk, sCnt, sFor, sStore, sAugI, sAug, dC, dVar, dTake, qVar, qE, aNil, aCons, dOp, dUn, dCallB, gets, Op.get, put, puts, dat_sh, dat_ow, dat_bw, dat_un, ty0, ty1, ty2, ty3, ty4, ty5, ty6, ty7, ty8, ty9, ty10, ty11, ty12, ty13, ty14, ty15, ty16, ty17, ty18, ty19, ty20, ty21, ty22, ty23, ty24, ty25, ty26, ty27, ty28, ty29, ty30, ty31, ty32, ty33, ty34, ty35, ty36, ty37, ty38, ty39, ty40, ty41, gIsi_non, gIsi_bl, gIsi_int, gIsi_str, gIsi_lst, gIsi_tup, gIsi_dct, gIsC, dMut0, mReverse, mPopAt, gEq_bl, gEq_strs, eq_self, Sl.cn, Sl.with, Cn.dat, Rv.dat, bOf, asB, bTr, gTruth, bAnd, bOr, bNot, dAnd, dOr, dNot, dIf, dChain, vNil, vCons, dTup, dLst, dDisp, psNil, psCons, keyed, D.key, gN, gT, gsNil, gsCons, rNil, rCons, srcE, srcR1, srcR2, srcR3, srcEnum, srcZip, srcC, srcV, itsOf, dLc, bYes, wipeD, agNil, agVal, agBor, mkArgs, bors, giveB, dCall, clean, dMut, slL, mAppend, mInsert, slC, cnSet, gAdd, gSubI, gDiv, gMod, gNeg, gCmpI, gIx, dSl, oNo, oE, gSl, dRev, dJoin, gAbs, gLen, gInt, gIsN, gList, Option.map_some, List.map_cons, List.map_nil, List.getElem?_cons_zero, List.getElem?_cons_succ, List.getElem?_nil, List.set_cons_zero, List.set_cons_succ, List.length_cons, List.length_nil, List.cons_append, List.nil_append, List.take_succ_cons, List.take_zero, List.replicate_succ, List.replicate_zero, gMin2, gMax2, gMax3, nodup1, List.nodup_nil, gEq_int, gEq_str, atI_0, atI_1, atI_2, atI_3, atI_4, atI_5, ixN_40, ixN_41, ixN_42, ixN_43, gMul, Nat.reduceAdd, Nat.reduceSub, Nat.zero_add, Option.isSome_some, true_and, and_true, Option.some.injEq, exists_and_left, exists_eq_left, exists_eq_left', id_eq, ite_true, ite_false, reduceIte, Bool.false_eq_true, decide_eq_true_eq, hi', hj']
        refine ⟨_, get_str i rfl hi, ?_⟩
        try simp only [sSeq, sNext, sSet, sRet, sRetN, sIf, sAsg, sDrop, sPar, sBrk, sCnt, sFor, sStore, sAugI, sAug, dC, dVar, dTake, qVar, qE, aNil, aCons, dOp, dUn, dCallB, gets, Op.get, put, puts, dat_sh, dat_ow, dat_bw, dat_un, ty0, ty1, ty2, ty3, ty4, ty5, ty6, ty7, ty8, ty9, ty10, ty11, ty12, ty13, ty14, ty15, ty16, ty17, ty18, ty19, ty20, ty21, ty22, ty23, ty24, ty25, ty26, ty27, ty28, ty29, ty30, ty31, ty32, ty33, ty34, ty35, ty36, ty37, ty38, ty39, ty40, ty41, gIsi_non, gIsi_bl, gIsi_int, gIsi_str, gIsi_lst, gIsi_tup, gIsi_dct, gIsC, dMut0, mReverse, mPopAt, gEq_bl, gEq_strs, eq_self, Sl.cn, Sl.with, Cn.dat, Rv.dat, bOf, asB, bTr, gTruth, bAnd, bOr, bNot, dAnd, dOr, dNot, dIf, dChain, vNil, vCons, dTup, dLst, dDisp, psNil, psCons, keyed, D.key, gN, gT, gsNil, gsCons, rNil, rCons, srcE, srcR1, srcR2, srcR3, srcEnum, srcZip, srcC, srcV, itsOf, dLc, bYes, wipeD, agNil, agVal, agBor, mkArgs, bors, giveB, dCall, clean, dMut, slL, mAppend, mInsert, slC, cnSet, gAdd, gSubI, gDiv, gMod, gNeg, gCmpI, gIx, dSl, oNo, oE, gSl, dRev, dJoin, gAbs, gLen, gInt, gIsN, gList, Option.map_some, List.map_cons, List.map_nil, List.getElem?_cons_zero, List.getElem?_cons_succ, List.getElem?_nil, List.set_cons_zero, List.set_cons_succ, List.length_cons, List.length_nil, List.cons_append, List.nil_append, List.take_succ_cons, List.take_zero, List.replicate_succ, List.replicate_zero, gMin2, gMax2, gMax3, nodup1, List.nodup_nil, gEq_int, gEq_str, atI_0, atI_1, atI_2, atI_3, atI_4, atI_5, ixN_40, ixN_41, ixN_42, ixN_43, gMul, Nat.reduceAdd, Nat.reduceSub, Nat.zero_add, Option.isSome_some, true_and, and_true, Option.some.injEq, exists_and_left, exists_eq_left, exists_eq_left', id_eq, ite_true, ite_false, reduceIte, Bool.false_eq_true, decide_eq_true_eq]
        refine ⟨_, get_str j rfl hj, ?_⟩
        have ei := List.drop_eq_getElem_cons hi
        have ej := List.drop_eq_getElem_cons hj
        have hlen := hf.len
        rw [ei, ej, lcs_cons, ← ei, ← ej] at hlen
        have hb := lcs_le one other
        by_cases q : one[i] = other[j]
        · rw [if_pos q] at hlen
          try simp only [sSeq, sNext, sSet, sRet, sRetN, sIf, sAsg, sDrop, sPar, sBrk, sCnt, sFor, sStore, sAugI, sAug, dC, dVar, dTake, qVar, qE, aNil, aCons, dOp, dUn, dCallB, gets, Op.get, put, puts, dat_sh, dat_ow, dat_bw, dat_un, ty0, ty1, ty2, ty3, ty4, ty5, ty6, ty7, ty8, ty9, ty10, ty11, ty12, ty13, ty14, ty15, ty16, ty17, ty18, ty19, ty20, ty21, ty22, ty23, ty24, ty25, ty26, ty27, ty28, ty29, ty30, ty31, ty32, ty33, ty34, ty35, ty36, ty37, ty38, ty39, ty40, ty41, gIsi_non, gIsi_bl, gIsi_int, gIsi_str, gIsi_lst, gIsi_tup, gIsi_dct, gIsC, dMut0, mReverse, mPopAt, gEq_bl, gEq_strs, eq_self, Sl.cn, Sl.with, Cn.dat, Rv.dat, bOf, asB, bTr, gTruth, bAnd, bOr, bNot, dAnd, dOr, dNot, dIf, dChain, vNil, vCons, dTup, dLst, dDisp, psNil, psCons, keyed, D.key, gN, gT, gsNil, gsCons, rNil, rCons, srcE, srcR1, srcR2, srcR3, srcEnum, srcZip, srcC, srcV, itsOf, dLc, bYes, wipeD, agNil, agVal, agBor, mkArgs, bors, giveB, dCall, clean, dMut, slL, mAppend, mInsert, slC, cnSet, gAdd, gSubI, gDiv, gMod, gNeg, gCmpI, gIx, dSl, oNo, oE, gSl, dRev, dJoin, gAbs, gLen, gInt, gIsN, gList, Option.map_some, List.map_cons, List.map_nil, List.getElem?_cons_zero, List.getElem?_cons_succ, List.getElem?_nil, List.set_cons_zero, List.set_cons_succ, List.length_cons, List.length_nil, List.cons_append, List.nil_append, List.take_succ_cons, List.take_zero, List.replicate_succ, List.replicate_zero, gMin2, gMax2, gMax3, nodup1, List.nodup_nil, gEq_int, gEq_str, atI_0, atI_1, atI_2, atI_3, atI_4, atI_5, ixN_40, ixN_41, ixN_42, ixN_43, gMul, Nat.reduceAdd, Nat.reduceSub, Nat.zero_add, Option.isSome_some, true_and, and_true, Option.some.injEq, exists_and_left, exists_eq_left, exists_eq_left', id_eq, ite_true, ite_false, reduceIte, Bool.false_eq_true, decide_eq_true_eq, q]
          refine ⟨le_size (by decide), lt_size (by omega), hN2 (one.length - (i + 1) + (other.length - (j + 1))) _ (by omega) ⟨i + 1, j + 1, l ++ [.tup [.int i, .int j]], rfl, ⟨?_, ?_, ?_, ?_, by omega, by omega⟩, rfl⟩⟩
          · intro d hd
            rcases List.mem_append.mp hd with z | z
            · exact hf.lk d z
            · rw [List.mem_singleton.mp z]
              exact ⟨i, j, rfl, _, List.getElem?_eq_getElem hi, by rw [List.getElem?_eq_getElem hj, q]⟩
          · intro k d e g1 g2
            by_cases z : k + 1 < l.length
            · rw [List.getElem?_append_left (by omega)] at g1
              rw [List.getElem?_append_left z] at g2
              exact hf.asc k d e g1 g2
            · have hk := (List.getElem?_eq_some_iff.mp g2).1
              rw [List.length_append, List.length_singleton] at hk
              have : k + 1 = l.length := by omega
              rw [List.getElem?_append_right (by omega), this, Nat.sub_self] at g2
              rw [List.getElem?_append_left (by omega)] at g1
              cases g2
              have hm := List.mem_of_getElem? g1
              intro a b c d z1 z2
              subst z1
              have := hf.last a b hm
              simp only [D.tup.injEq, List.cons.injEq, D.int.injEq] at z2
              omega
          · intro a b hm
            rcases List.mem_append.mp hm with z | z
            · have := hf.last a b z; omega
            · have := List.mem_singleton.mp z
              simp only [D.tup.injEq, List.cons.injEq, D.int.injEq] at this
              omega
          · rw [List.length_append, List.length_singleton]; omega
        · rw [if_neg q] at hlen
          try simp only [sSeq, sNext, sSet, sRet, sRetN, sIf, sAsg, sDrop, sPar, sBrk, sCnt, sFor, sStore, sAugI, sAug, dC, dVar, dTake, qVar, qE, aNil, aCons, dOp, dUn, dCallB, gets, Op.get, put, puts, dat_sh, dat_ow, dat_bw, dat_un, ty0, ty1, ty2, ty3, ty4, ty5, ty6, ty7, ty8, ty9, ty10, ty11, ty12, ty13, ty14, ty15, ty16, ty17, ty18, ty19, ty20, ty21, ty22, ty23, ty24, ty25, ty26, ty27, ty28, ty29, ty30, ty31, ty32, ty33, ty34, ty35, ty36, ty37, ty38, ty39, ty40, ty41, gIsi_non, gIsi_bl, gIsi_int, gIsi_str, gIsi_lst, gIsi_tup, gIsi_dct, gIsC, dMut0, mReverse, mPopAt, gEq_bl, gEq_strs, eq_self, Sl.cn, Sl.with, Cn.dat, Rv.dat, bOf, asB, bTr, gTruth, bAnd, bOr, bNot, dAnd, dOr, dNot, dIf, dChain, vNil, vCons, dTup, dLst, dDisp, psNil, psCons, keyed, D.key, gN, gT, gsNil, gsCons, rNil, rCons, srcE, srcR1, srcR2, srcR3, srcEnum, srcZip, srcC, srcV, itsOf, dLc, bYes, wipeD, agNil, agVal, agBor, mkArgs, bors, giveB, dCall, clean, dMut, slL, mAppend, mInsert, slC, cnSet, gAdd, gSubI, gDiv, gMod, gNeg, gCmpI, gIx, dSl, oNo, oE, gSl, dRev, dJoin, gAbs, gLen, gInt, gIsN, gList, Option.map_some, List.map_cons, List.map_nil, List.getElem?_cons_zero, List.getElem?_cons_succ, List.getElem?_nil, List.set_cons_zero, List.set_cons_succ, List.length_cons, List.length_nil, List.cons_append, List.nil_append, List.take_succ_cons, List.take_zero, List.replicate_succ, List.replicate_zero, gMin2, gMax2, gMax3, nodup1, List.nodup_nil, gEq_int, gEq_str, atI_0, atI_1, atI_2, atI_3, atI_4, atI_5, ixN_40, ixN_41, ixN_42, ixN_43, gMul, Nat.reduceAdd, Nat.reduceSub, Nat.zero_add, Option.isSome_some, true_and, and_true, Option.some.injEq, exists_and_left, exists_eq_left, exists_eq_left', id_eq, ite_true, ite_false, reduceIte, Bool.false_eq_true, decide_eq_true_eq, q]
          refine ⟨_, tabD_at (i + 1) (by omega) (by omega), ?_⟩
          try simp only [sSeq, sNext, sSet, sRet, sRetN, sIf, sAsg, sDrop, sPar, sBrk, sCnt, sFor, sStore, sAugI, sAug, dC, dVar, dTake, qVar, qE, aNil, aCons, dOp, dUn, dCallB, gets, Op.get, put, puts, dat_sh, dat_ow, dat_bw, dat_un, ty0, ty1, ty2, ty3, ty4, ty5, ty6, ty7, ty8, ty9, ty10, ty11, ty12, ty13, ty14, ty15, ty16, ty17, ty18, ty19, ty20, ty21, ty22, ty23, ty24, ty25, ty26, ty27, ty28, ty29, ty30, ty31, ty32, ty33, ty34, ty35, ty36, ty37, ty38, ty39, ty40, ty41, gIsi_non, gIsi_bl, gIsi_int, gIsi_str, gIsi_lst, gIsi_tup, gIsi_dct, gIsC, dMut0, mReverse, mPopAt, gEq_bl, gEq_strs, eq_self, Sl.cn, Sl.with, Cn.dat, Rv.dat, bOf, asB, bTr, gTruth, bAnd, bOr, bNot, dAnd, dOr, dNot, dIf, dChain, vNil, vCons, dTup, dLst, dDisp, psNil, psCons, keyed, D.key, gN, gT, gsNil, gsCons, rNil, rCons, srcE, srcR1, srcR2, srcR3, srcEnum, srcZip, srcC, srcV, itsOf, dLc, bYes, wipeD, agNil, agVal, agBor, mkArgs, bors, giveB, dCall, clean, dMut, slL, mAppend, mInsert, slC, cnSet, gAdd, gSubI, gDiv, gMod, gNeg, gCmpI, gIx, dSl, oNo, oE, gSl, dRev, dJoin, gAbs, gLen, gInt, gIsN, gList, Option.map_some, List.map_cons, List.map_nil, List.getElem?_cons_zero, List.getElem?_cons_succ, List.getElem?_nil, List.set_cons_zero, List.set_cons_succ, List.length_cons, List.length_nil, List.cons_append, List.nil_append, List.take_succ_cons, List.take_zero, List.replicate_succ, List.replicate_zero, gMin2, gMax2, gMax3, nodup1, List.nodup_nil, gEq_int, gEq_str, atI_0, atI_1, atI_2, atI_3, atI_4, atI_5, ixN_40, ixN_41, ixN_42, ixN_43, gMul, Nat.reduceAdd, Nat.reduceSub, Nat.zero_add, Option.isSome_some, true_and, and_true, Option.some.injEq, exists_and_left, exists_eq_left, exists_eq_left', id_eq, ite_true, ite_false, reduceIte, Bool.false_eq_true, decide_eq_true_eq]
          refine ⟨_, rowD_at j rfl (by omega), ?_⟩
          try simp only [sSeq, sNext, sSet, sRet, sRetN, sIf, sAsg, sDrop, sPar, sBrk, sCnt, sFor, sStore, sAugI, sAug, dC, dVar, dTake, qVar, qE, aNil, aCons, dOp, dUn, dCallB, gets, Op.get, put, puts, dat_sh, dat_ow, dat_bw, dat_un, ty0, ty1, ty2, ty3, ty4, ty5, ty6, ty7, ty8, ty9, ty10, ty11, ty12, ty13, ty14, ty15, ty16, ty17, ty18, ty19, ty20, ty21, ty22, ty23, ty24, ty25, ty26, ty27, ty28, ty29, ty30, ty31, ty32, ty33, ty34, ty35, ty36, ty37, ty38, ty39, ty40, ty41, gIsi_non, gIsi_bl, gIsi_int, gIsi_str, gIsi_lst, gIsi_tup, gIsi_dct, gIsC, dMut0, mReverse, mPopAt, gEq_bl, gEq_strs, eq_self, Sl.cn, Sl.with, Cn.dat, Rv.dat, bOf, asB, bTr, gTruth, bAnd, bOr, bNot, dAnd, dOr, dNot, dIf, dChain, vNil, vCons, dTup, dLst, dDisp, psNil, psCons, keyed, D.key, gN, gT, gsNil, gsCons, rNil, rCons, srcE, srcR1, srcR2, srcR3, srcEnum, srcZip, srcC, srcV, itsOf, dLc, bYes, wipeD, agNil, agVal, agBor, mkArgs, bors, giveB, dCall, clean, dMut, slL, mAppend, mInsert, slC, cnSet, gAdd, gSubI, gDiv, gMod, gNeg, gCmpI, gIx, dSl, oNo, oE, gSl, dRev, dJoin, gAbs, gLen, gInt, gIsN, gList, Option.map_some, List.map_cons, List.map_nil, List.getElem?_cons_zero, List.getElem?_cons_succ, List.getElem?_nil, List.set_cons_zero, List.set_cons_succ, List.length_cons, List.length_nil, List.cons_append, List.nil_append, List.take_succ_cons, List.take_zero, List.replicate_succ, List.replicate_zero, gMin2, gMax2, gMax3, nodup1, List.nodup_nil, gEq_int, gEq_str, atI_0, atI_1, atI_2, atI_3, atI_4, atI_5, ixN_40, ixN_41, ixN_42, ixN_43, gMul, Nat.reduceAdd, Nat.reduceSub, Nat.zero_add, Option.isSome_some, true_and, and_true, Option.some.injEq, exists_and_left, exists_eq_left, exists_eq_left', id_eq, ite_true, ite_false, reduceIte, Bool.false_eq_true, decide_eq_true_eq]
          refine ⟨_, tabD_at i rfl (by omega), ?_⟩
          try simp only [sSeq, sNext, sSet, sRet, sRetN, sIf, sAsg, sDrop, sPar, sBrk, sCnt, sFor, sStore, sAugI, sAug, dC, dVar, dTake, qVar, qE, aNil, aCons, dOp, dUn, dCallB, gets, Op.get, put, puts, dat_sh, dat_ow, dat_bw, dat_un, ty0, ty1, ty2, ty3, ty4, ty5, ty6, ty7, ty8, ty9, ty10, ty11, ty12, ty13, ty14, ty15, ty16, ty17, ty18, ty19, ty20, ty21, ty22, ty23, ty24, ty25, ty26, ty27, ty28, ty29, ty30, ty31, ty32, ty33, ty34, ty35, ty36, ty37, ty38, ty39, ty40, ty41, gIsi_non, gIsi_bl, gIsi_int, gIsi_str, gIsi_lst, gIsi_tup, gIsi_dct, gIsC, dMut0, mReverse, mPopAt, gEq_bl, gEq_strs, eq_self, Sl.cn, Sl.with, Cn.dat, Rv.dat, bOf, asB, bTr, gTruth, bAnd, bOr, bNot, dAnd, dOr, dNot, dIf, dChain, vNil, vCons, dTup, dLst, dDisp, psNil, psCons, keyed, D.key, gN, gT, gsNil, gsCons, rNil, rCons, srcE, srcR1, srcR2, srcR3, srcEnum, srcZip, srcC, srcV, itsOf, dLc, bYes, wipeD, agNil, agVal, agBor, mkArgs, bors, giveB, dCall, clean, dMut, slL, mAppend, mInsert, slC, cnSet, gAdd, gSubI, gDiv, gMod, gNeg, gCmpI, gIx, dSl, oNo, oE, gSl, dRev, dJoin, gAbs, gLen, gInt, gIsN, gList, Option.map_some, List.map_cons, List.map_nil, List.getElem?_cons_zero, List.getElem?_cons_succ, List.getElem?_nil, List.set_cons_zero, List.set_cons_succ, List.length_cons, List.length_nil, List.cons_append, List.nil_append, List.take_succ_cons, List.take_zero, List.replicate_succ, List.replicate_zero, gMin2, gMax2, gMax3, nodup1, List.nodup_nil, gEq_int, gEq_str, atI_0, atI_1, atI_2, atI_3, atI_4, atI_5, ixN_40, ixN_41, ixN_42, ixN_43, gMul, Nat.reduceAdd, Nat.reduceSub, Nat.zero_add, Option.isSome_some, true_and, and_true, Option.some.injEq, exists_and_left, exists_eq_left, exists_eq_left', id_eq, ite_true, ite_false, reduceIte, Bool.false_eq_true, decide_eq_true_eq]
          refine ⟨_, rowD_at (j + 1) (by omega) (by omega), ?_⟩
          try simp only [sSeq, sNext, sSet, sRet, sRetN, sIf, sAsg, sDrop, sPar, sBrk, sCnt, sFor, sStore, sAugI, sAug, dC, dVar, dTake, qVar, qE, aNil, aCons, dOp, dUn, dCallB, gets, Op.get, put, puts, dat_sh, dat_ow, dat_bw, dat_un, ty0, ty1, ty2, ty3, ty4, ty5, ty6, ty7, ty8, ty9, ty10, ty11, ty12, ty13, ty14, ty15, ty16, ty17, ty18, ty19, ty20, ty21, ty22, ty23, ty24, ty25, ty26, ty27, ty28, ty29, ty30, ty31, ty32, ty33, ty34, ty35, ty36, ty37, ty38, ty39, ty40, ty41, gIsi_non, gIsi_bl, gIsi_int, gIsi_str, gIsi_lst, gIsi_tup, gIsi_dct, gIsC, dMut0, mReverse, mPopAt, gEq_bl, gEq_strs, eq_self, Sl.cn, Sl.with, Cn.dat, Rv.dat, bOf, asB, bTr, gTruth, bAnd, bOr, bNot, dAnd, dOr, dNot, dIf, dChain, vNil, vCons, dTup, dLst, dDisp, psNil, psCons, keyed, D.key, gN, gT, gsNil, gsCons, rNil, rCons, srcE, srcR1, srcR2, srcR3, srcEnum, srcZip, srcC, srcV, itsOf, dLc, bYes, wipeD, agNil, agVal, agBor, mkArgs, bors, giveB, dCall, clean, dMut, slL, mAppend, mInsert, slC, cnSet, gAdd, gSubI, gDiv, gMod, gNeg, gCmpI, gIx, dSl, oNo, oE, gSl, dRev, dJoin, gAbs, gLen, gInt, gIsN, gList, Option.map_some, List.map_cons, List.map_nil, List.getElem?_cons_zero, List.getElem?_cons_succ, List.getElem?_nil, List.set_cons_zero, List.set_cons_succ, List.length_cons, List.length_nil, List.cons_append, List.nil_append, List.take_succ_cons, List.take_zero, List.replicate_succ, List.replicate_zero, gMin2, gMax2, gMax3, nodup1, List.nodup_nil, gEq_int, gEq_str, atI_0, atI_1, atI_2, atI_3, atI_4, atI_5, ixN_40, ixN_41, ixN_42, ixN_43, gMul, Nat.reduceAdd, Nat.reduceSub, Nat.zero_add, Option.isSome_some, true_and, and_true, Option.some.injEq, exists_and_left, exists_eq_left, exists_eq_left', id_eq, ite_true, ite_false, reduceIte, Bool.false_eq_true, decide_eq_true_eq]
          by_cases g : lcs (one.drop i) (other.drop (j + 1)) ≤ lcs (one.drop (i + 1)) (other.drop j)
          · have g' : ((lcs (one.drop i) (other.drop (j + 1)) : Nat) : Int) ≤ (lcs (one.drop (i + 1)) (other.drop j) : Nat) := by omega
            try simp only [sSeq, sNext, sSet, sRet, sRetN, sIf, sAsg, sDrop, sPar, sBrk, sCnt, sFor, sStore, sAugI, sAug, dC, dVar, dTake, qVar, qE, aNil, aCons, dOp, dUn, dCallB, gets, Op.get, put, puts, dat_sh, dat_ow, dat_bw, dat_un, ty0, ty1, ty2, ty3, ty4, ty5, ty6, ty7, ty8, ty9, ty10, ty11, ty12, ty13, ty14, ty15, ty16, ty17, ty18, ty19, ty20, ty21, ty22, ty23, ty24, ty25, ty26, ty27, ty28, ty29, ty30, ty31, ty32, ty33, ty34, ty35, ty36, ty37, ty38, ty39, ty40, ty41, gIsi_non, gIsi_bl, gIsi_int, gIsi_str, gIsi_lst, gIsi_tup, gIsi_dct, gIsC, dMut0, mReverse, mPopAt, gEq_bl, gEq_strs, eq_self, Sl.cn, Sl.with, Cn.dat, Rv.dat, bOf, asB, bTr, gTruth, bAnd, bOr, bNot, dAnd, dOr, dNot, dIf, dChain, vNil, vCons, dTup, dLst, dDisp, psNil, psCons, keyed, D.key, gN, gT, gsNil, gsCons, rNil, rCons, srcE, srcR1, srcR2, srcR3, srcEnum, srcZip, srcC, srcV, itsOf, dLc, bYes, wipeD, agNil, agVal, agBor, mkArgs, bors, giveB, dCall, clean, dMut, slL, mAppend, mInsert, slC, cnSet, gAdd, gSubI, gDiv, gMod, gNeg, gCmpI, gIx, dSl, oNo, oE, gSl, dRev, dJoin, gAbs, gLen, gInt, gIsN, gList, Option.map_some, List.map_cons, List.map_nil, List.getElem?_cons_zero, List.getElem?_cons_succ, List.getElem?_nil, List.set_cons_zero, List.set_cons_succ, List.length_cons, List.length_nil, List.cons_append, List.nil_append, List.take_succ_cons, List.take_zero, List.replicate_succ, List.replicate_zero, gMin2, gMax2, gMax3, nodup1, List.nodup_nil, gEq_int, gEq_str, atI_0, atI_1, atI_2, atI_3, atI_4, atI_5, ixN_40, ixN_41, ixN_42, ixN_43, gMul, Nat.reduceAdd, Nat.reduceSub, Nat.zero_add, Option.isSome_some, true_and, and_true, Option.some.injEq, exists_and_left, exists_eq_left, exists_eq_left', id_eq, ite_true, ite_false, reduceIte, Bool.false_eq_true, decide_eq_true_eq, g']
            exact hN2 (one.length - (i + 1) + (other.length - j)) _ (by omega) ⟨i + 1, j, l, rfl, ⟨hf.lk, hf.asc, fun a b hm => by have := hf.last a b hm; omega, by omega, by omega, by omega⟩, rfl⟩
          · have g' : ¬ ((lcs (one.drop i) (other.drop (j + 1)) : Nat) : Int) ≤ (lcs (one.drop (i + 1)) (other.drop j) : Nat) := by omega
            try simp only [sSeq, sNext, sSet, sRet, sRetN, sIf, sAsg, sDrop, sPar, sBrk, sCnt, sFor, sStore, sAugI, sAug, dC, dVar, dTake, qVar, qE, aNil, aCons, dOp, dUn, dCallB, gets, Op.get, put, puts, dat_sh, dat_ow, dat_bw, dat_un, ty0, ty1, ty2, ty3, ty4, ty5, ty6, ty7, ty8, ty9, ty10, ty11, ty12, ty13, ty14, ty15, ty16, ty17, ty18, ty19, ty20, ty21, ty22, ty23, ty24, ty25, ty26, ty27, ty28, ty29, ty30, ty31, ty32, ty33, ty34, ty35, ty36, ty37, ty38, ty39, ty40, ty41, gIsi_non, gIsi_bl, gIsi_int, gIsi_str, gIsi_lst, gIsi_tup, gIsi_dct, gIsC, dMut0, mReverse, mPopAt, gEq_bl, gEq_strs, eq_self, Sl.cn, Sl.with, Cn.dat, Rv.dat, bOf, asB, bTr, gTruth, bAnd, bOr, bNot, dAnd, dOr, dNot, dIf, dChain, vNil, vCons, dTup, dLst, dDisp, psNil, psCons, keyed, D.key, gN, gT, gsNil, gsCons, rNil, rCons, srcE, srcR1, srcR2, srcR3, srcEnum, srcZip, srcC, srcV, itsOf, dLc, bYes, wipeD, agNil, agVal, agBor, mkArgs, bors, giveB, dCall, clean, dMut, slL, mAppend, mInsert, slC, cnSet, gAdd, gSubI, gDiv, gMod, gNeg, gCmpI, gIx, dSl, oNo, oE, gSl, dRev, dJoin, gAbs, gLen, gInt, gIsN, gList, Option.map_some, List.map_cons, List.map_nil, List.getElem?_cons_zero, List.getElem?_cons_succ, List.getElem?_nil, List.set_cons_zero, List.set_cons_succ, List.length_cons, List.length_nil, List.cons_append, List.nil_append, List.take_succ_cons, List.take_zero, List.replicate_succ, List.replicate_zero, gMin2, gMax2, gMax3, nodup1, List.nodup_nil, gEq_int, gEq_str, atI_0, atI_1, atI_2, atI_3, atI_4, atI_5, ixN_40, ixN_41, ixN_42, ixN_43, gMul, Nat.reduceAdd, Nat.reduceSub, Nat.zero_add, Option.isSome_some, true_and, and_true, Option.some.injEq, exists_and_left, exists_eq_left, exists_eq_left', id_eq, ite_true, ite_false, reduceIte, Bool.false_eq_true, decide_eq_true_eq, g']
            exact hN2 (one.length - i + (other.length - (j + 1))) _ (by omega) ⟨i, j + 1, l, rfl, ⟨hf.lk, hf.asc, fun a b hm => by have := hf.last a b hm; omega, by omega, by omega, by omega⟩, rfl⟩
      · have fin : N [.sh (.lst (one.map D.str)), .sh (.lst (other.map D.str)), .ow (.l (tabD one other)), .ow (.l l), .sh (.int i), .sh (.int j)] := by
          refine hN1 _ ⟨l, _, _, ⟨?_, hf.lk, hf.asc⟩, rfl⟩
          have hl := hf.len
          by_cases z : i < one.length
          · rw [List.drop_eq_nil_of_le (as := other) (by omega), lcs_nil'] at hl
            omega
          · rw [List.drop_eq_nil_of_le (as := one) (by omega), lcs_nil] at hl
            omega
        by_cases z : (i : Int) < one.length
        · have z2 : ¬ (j : Int) < other.length := by omega
          try simp only [sSeq, sNext, sSet, sRet, sRetN, sIf, sAsg, sDrop, sPar, sBrk, sCnt, sFor, sStore, sAugI, sAug, dC, dVar, dTake, qVar, qE, aNil, aCons, dOp, dUn, dCallB, gets, Op.get, put, puts, dat_sh, dat_ow, dat_bw, dat_un, ty0, ty1, ty2, ty3, ty4, ty5, ty6, ty7, ty8, ty9, ty10, ty11, ty12, ty13, ty14, ty15, ty16, ty17, ty18, ty19, ty20, ty21, ty22, ty23, ty24, ty25, ty26, ty27, ty28, ty29, ty30, ty31, ty32, ty33, ty34, ty35, ty36, ty37, ty38, ty39, ty40, ty41, gIsi_non, gIsi_bl, gIsi_int, gIsi_str, gIsi_lst, gIsi_tup, gIsi_dct, gIsC, dMut0, mReverse, mPopAt, gEq_bl, gEq_strs, eq_self, Sl.cn, Sl.with, Cn.dat, Rv.dat, bOf, asB, bTr, gTruth, bAnd, bOr, bNot, dAnd, dOr, dNot, dIf, dChain, vNil, vCons, dTup, dLst, dDisp, psNil, psCons, keyed, D.key, gN, gT, gsNil, gsCons, rNil, rCons, srcE, srcR1, srcR2, srcR3, srcEnum, srcZip, srcC, srcV, itsOf, dLc, bYes, wipeD, agNil, agVal, agBor, mkArgs, bors, giveB, dCall, clean, dMut, slL, mAppend, mInsert, slC, cnSet, gAdd, gSubI, gDiv, gMod, gNeg, gCmpI, gIx, dSl, oNo, oE, gSl, dRev, dJoin, gAbs, gLen, gInt, gIsN, gList, Option.map_some, List.map_cons, List.map_nil, List.getElem?_cons_zero, List.getElem?_cons_succ, List.getElem?_nil, List.set_cons_zero, List.set_cons_succ, List.length_cons, List.length_nil, List.cons_append, List.nil_append, List.take_succ_cons, List.take_zero, List.replicate_succ, List.replicate_zero, gMin2, gMax2, gMax3, nodup1, List.nodup_nil, gEq_int, gEq_str, atI_0, atI_1, atI_2, atI_3, atI_4, atI_5, ixN_40, ixN_41, ixN_42, ixN_43, gMul, Nat.reduceAdd, Nat.reduceSub, Nat.zero_add, Option.isSome_some, true_and, and_true, Option.some.injEq, exists_and_left, exists_eq_left, exists_eq_left', id_eq, ite_true, ite_false, reduceIte, Bool.false_eq_true, decide_eq_true_eq, z, z2]
          exact fin
        · simp only [sSeq, sNext, sSet, sRet, sRetN, sIf, sAsg, sDrop, sPar, sBrk, sCnt, sFor, sStore, sAugI, sAug, dC, dVar, dTake, qVar, qE, aNil, aCons, dOp, dUn, dCallB, gets, Op.get, put, puts, dat_sh, dat_ow, dat_bw, dat_un, ty0, ty1, ty2, ty3, ty4, ty5, ty6, ty7, ty8, ty9, ty10, ty11, ty12, ty13, ty14, ty15, ty16, ty17, ty18, ty19, ty20, ty21, ty22, ty23, ty24, ty25, ty26, ty27, ty28, ty29, ty30, ty31, ty32, ty33, ty34, ty35, ty36, ty37, ty38, ty39, ty40, ty41, gIsi_non, gIsi_bl, gIsi_int, gIsi_str, gIsi_lst, gIsi_tup, gIsi_dct, gIsC, dMut0, mReverse, mPopAt, gEq_bl, gEq_strs, eq_self, Sl.cn, Sl.with, Cn.dat, Rv.dat, bOf, asB, bTr, gTruth, bAnd, bOr, bNot, dAnd, dOr, dNot, dIf, dChain, vNil, vCons, dTup, dLst, dDisp, psNil, psCons, keyed, D.key, gN, gT, gsNil, gsCons, rNil, rCons, srcE, srcR1, srcR2, srcR3, srcEnum, srcZip, srcC, srcV, itsOf, dLc, bYes, wipeD, agNil, agVal, agBor, mkArgs, bors, giveB, dCall, clean, dMut, slL, mAppend, mInsert, slC, cnSet, gAdd, gSubI, gDiv, gMod, gNeg, gCmpI, gIx, dSl, oNo, oE, gSl, dRev, dJoin, gAbs, gLen, gInt, gIsN, gList, Option.map_some, List.map_cons, List.map_nil, List.getElem?_cons_zero, List.getElem?_cons_succ, List.getElem?_nil, List.set_cons_zero, List.set_cons_succ, List.length_cons, List.length_nil, List.cons_append, List.nil_append, List.take_succ_cons, List.take_zero, List.replicate_succ, List.replicate_zero, gMin2, gMax2, gMax3, nodup1, List.nodup_nil, gEq_int, gEq_str, atI_0, atI_1, atI_2, atI_3, atI_4, atI_5, ixN_40, ixN_41, ixN_42, ixN_43, gMul, Nat.reduceAdd, Nat.reduceSub, Nat.zero_add, Option.isSome_some, true_and, and_true, Option.some.injEq, exists_and_left, exists_eq_left, exists_eq_left', id_eq, ite_true, ite_false, reduceIte, Bool.false_eq_true, decide_eq_true_eq, z]
          exact fin
    · rintro ρ' ⟨l, s4, s5, hg, rfl⟩
      try simp only [sSeq, sNext, sSet, sRet, sRetN, sIf, sAsg, sDrop, sPar, sBrk, sCnt, sFor, sStore, sAugI, sAug, dC, dVar, dTake, qVar, qE, aNil, aCons, dOp, dUn, dCallB, gets, Op.get, put, puts, dat_sh, dat_ow, dat_bw, dat_un, ty0, ty1, ty2, ty3, ty4, ty5, ty6, ty7, ty8, ty9, ty10, ty11, ty12, ty13, ty14, ty15, ty16, ty17, ty18, ty19, ty20, ty21, ty22, ty23, ty24, ty25, ty26, ty27, ty28, ty29, ty30, ty31, ty32, ty33, ty34, ty35, ty36, ty37, ty38, ty39, ty40, ty41, gIsi_non, gIsi_bl, gIsi_int, gIsi_str, gIsi_lst, gIsi_tup, gIsi_dct, gIsC, dMut0, mReverse, mPopAt, gEq_bl, gEq_strs, eq_self, Sl.cn, Sl.with, Cn.dat, Rv.dat, bOf, asB, bTr, gTruth, bAnd, bOr, bNot, dAnd, dOr, dNot, dIf, dChain, vNil, vCons, dTup, dLst, dDisp, psNil, psCons, keyed, D.key, gN, gT, gsNil, gsCons, rNil, rCons, srcE, srcR1, srcR2, srcR3, srcEnum, srcZip, srcC, srcV, itsOf, dLc, bYes, wipeD, agNil, agVal, agBor, mkArgs, bors, giveB, dCall, clean, dMut, slL, mAppend, mInsert, slC, cnSet, gAdd, gSubI, gDiv, gMod, gNeg, gCmpI, gIx, dSl, oNo, oE, gSl, dRev, dJoin, gAbs, gLen, gInt, gIsN, gList, Option.map_some, List.map_cons, List.map_nil, List.getElem?_cons_zero, List.getElem?_cons_succ, List.getElem?_nil, List.set_cons_zero, List.set_cons_succ, List.length_cons, List.length_nil, List.cons_append, List.nil_append, List.take_succ_cons, List.take_zero, List.replicate_succ, List.replicate_zero, gMin2, gMax2, gMax3, nodup1, List.nodup_nil, gEq_int, gEq_str, atI_0, atI_1, atI_2, atI_3, atI_4, atI_5, ixN_40, ixN_41, ixN_42, ixN_43, gMul, Nat.reduceAdd, Nat.reduceSub, Nat.zero_add, Option.isSome_some, true_and, and_true, Option.some.injEq, exists_and_left, exists_eq_left, exists_eq_left', id_eq, ite_true, ite_false, reduceIte, Bool.false_eq_true, decide_eq_true_eq]
      exact h l hg
theorem fwd_row (p : List Str) (x : Str) (other : List Str) (k : Nat) (hk : k < other.length) : ((lcs (p ++ [x]).reverse (other.take (k + 1)).reverse : Nat) : Int) =
    max (max ((lcs (p ++ [x]).reverse (other.take k).reverse : Nat) : Int) ((lcs p.reverse (other.take (k + 1)).reverse : Nat) : Int)) (((lcs p.reverse (other.take k).reverse : Nat) + 1) * (if other[k] = x then 1 else 0)) := by
  have e : (other.take (k + 1)).reverse = other[k] :: (other.take k).reverse := by
    rw [List.take_succ_eq_append_getElem hk, List.reverse_append]
    rfl
  rw [e, List.reverse_append, List.reverse_singleton, List.singleton_append, lcs_max]
  by_cases h : other[k] = x
  · rw [if_pos h, if_pos h]; omega
  · rw [if_neg h, if_neg h]; omega
def sp__law_longest : SpD := fun as Q => ∃ (one other : List Str), as = [.sh (.lst (one.map D.str)), .sh (.lst (other.map D.str))] ∧ one.length ≤ 200 ∧ other.length ≤ 200 ∧ Q (.v (.int (lcs one other))) [.un, .un]
theorem len__law_longest {as : SL} {Q : Rv → SL → Prop} (h : sp__law_longest as Q) : as.length = 2 := by
  obtain ⟨_, _, rfl, _⟩ := h
  rfl
theorem ok__law_longest {f : Addr} {fd : FuncData} (Fn : Fun K "_law_longest" "_law_longest" s__law_longest f fd) (z_len : mg "len" = none) (z_range : mg "range" = none) (z_max : mg "max" = none) (z_int : mg "int" = none) : FnG P w K mg base CX0 1 f fd ["_law_one", "_law_other"] (lift K sp__law_longest) := by
  have nd := sc__law_longest.nd
  refine fnD Fn sc__law_longest (fun as Q h => ?len) (fun cdv A outer s H hgd hr => ⟨_, _,
    (dss_cons (ds_set (i := 2) nd rfl (.inl rfl) (de_op op_mulA sem_mulA (do_e (de_lst (dv_cons de_int dv_nil))) (do_e (de_op op_addA sem_addA (do_e (de_callB call_lenA sem_len (by rfl) z_len (by decide +kernel) (da_cons (do_var (pv 1)) da_nil))) (do_e de_int)))))
      (dss_cons (ds_for PassesOwn.never rfl (di_e (de_var (pv 0))) (dg_name (i := 3) nd rfl (.inl rfl))
      (dss_cons (ds_set (i := 4) nd rfl (.inl rfl) (de_lst (dv_cons de_int dv_nil)))
      (dss_cons (ds_for PassesOwn.never rfl (di_r1 (by rfl) z_range (dv_cons (de_callB call_lenA sem_len (by rfl) z_len (by decide +kernel) (da_cons (do_var (pv 1)) da_nil)) dv_nil)) (dg_name (i := 5) nd rfl (.inl rfl))
      (dss_one (ds_expr (de_append (pv 4) (dv_cons (de_callB (call_maxA rfl) sem_max (by rfl) z_max (by decide +kernel) (da_cons (do_e (de_ix (hu1 hr) (do_var (pv 4)) (do_var (pv 5)))) (da_cons (do_e (de_ix (hu1 hr) (do_var (pv 2)) (do_e (de_op op_addA sem_addA (do_var (pv 5)) (do_e de_int))))) (da_cons (do_e (de_op op_mulA sem_mulA (do_e (de_op op_addA sem_addA (do_e (de_ix (hu1 hr) (do_var (pv 2)) (do_var (pv 5)))) (do_e de_int))) (do_e (de_callTy call_intA sem_intA (by rfl) z_int (by decide +kernel) (da_cons (do_e (de_cmp (op_eqA (hu64 hr)) sem_eq (do_e (de_ix (hu1 hr) (do_var (pv 1)) (do_var (pv 5)))) (do_var (pv 3)) (nomark _))) da_nil))))) da_nil)))) dv_nil)))))
      (dss_one (ds_set (i := 2) nd rfl (.inl rfl) (de_var (pv 4)))))))
      (dss_one (ds_ret (de_ix (hu1 hr) (do_var (pv 2)) (do_e (de_un un_neg sem_neg (do_e de_int)))))))), fun as Q h => ?_⟩)
  case len => exact len__law_longest h
  · obtain ⟨one, other, rfl, h1, h2, h⟩ := h
    simp only [List.length_cons, List.length_nil, Nat.reduceAdd, Nat.reduceSub, List.replicate_succ, List.replicate_zero, List.cons_append, List.nil_append]
    refine sSeq_go fun N0 h0 => ?_
    simp only [sSeq, sNext, sSet, sRet, sRetN, sIf, sAsg, sDrop, sPar, sBrk, sCnt, sFor, sStore, sAugI, sAug, dC, dVar, dTake, qVar, qE, aNil, aCons, dOp, dUn, dCallB, gets, Op.get, put, puts, dat_sh, dat_ow, dat_bw, dat_un, ty0, ty1, ty2, ty3, ty4, ty5, ty6, ty7, ty8, ty9, ty10, ty11, ty12, ty13, ty14, ty15, ty16, ty17, ty18, ty19, ty20, ty21, ty22, ty23, ty24, ty25, ty26, ty27, ty28, ty29, ty30, ty31, ty32, ty33, ty34, ty35, ty36, ty37, ty38, ty39, ty40, ty41, gIsi_non, gIsi_bl, gIsi_int, gIsi_str, gIsi_lst, gIsi_tup, gIsi_dct, gIsC, dMut0, mReverse, mPopAt, gEq_bl, gEq_strs, eq_self, Sl.cn, Sl.with, Cn.dat, Rv.dat, bOf, asB, bTr, gTruth, bAnd, bOr, bNot, dAnd, dOr, dNot, dIf, dChain, vNil, vCons, dTup, dLst, dDisp, psNil, psCons, keyed, D.key, gN, gT, gsNil, gsCons, rNil, rCons, srcE, srcR1, srcR2, srcR3, srcEnum, srcZip, srcC, srcV, itsOf, dLc, bYes, wipeD, agNil, agVal, agBor, mkArgs, bors, giveB, dCall, clean, dMut, slL, mAppend, mInsert, slC, cnSet, gAdd, gSubI, gDiv, gMod, gNeg, gCmpI, gIx, dSl, oNo, oE, gSl, dRev, dJoin, gAbs, gLen, gInt, gIsN, gList, Option.map_some, List.map_cons, List.map_nil, List.getElem?_cons_zero, List.getElem?_cons_succ, List.getElem?_nil, List.set_cons_zero, List.set_cons_succ, List.length_cons, List.length_nil, List.cons_append, List.nil_append, List.take_succ_cons, List.take_zero, List.replicate_succ, List.replicate_zero, gMin2, gMax2, gMax3, nodup1, List.nodup_nil, gEq_int, gEq_str, atI_0, atI_1, atI_2, atI_3, atI_4, atI_5, ixN_40, ixN_41, ixN_42, ixN_43, gMul, Nat.reduceAdd, Nat.reduceSub, Nat.zero_add, Option.isSome_some, true_and, and_true, Option.some.injEq, exists_and_left, exists_eq_left, exists_eq_left', id_eq, ite_true, ite_false, reduceIte, Bool.false_eq_true, decide_eq_true_eq, List.length_map]
    refine ⟨le_size (by decide), by omega, by omega, le_size (by omega), h0 _ ?_⟩
    clear h0
    rw [show ((other.length : Int) + 1).toNat = other.length + 1 by omega, rowD_zero]
    refine sSeq_cut (fun ρ' => ∃ (s2 s3 s4 s5 : Sl), ρ' = [.sh (.lst (one.map D.str)), .sh (.lst (other.map D.str)), s2, s3, s4, s5] ∧ s2.dat = some (.lst (rowD (fun j => lcs one.reverse (other.take j).reverse) (other.length + 1)))) (fun N hN => ?_) ?_
    · simp only [sSeq, sNext, sSet, sRet, sRetN, sIf, sAsg, sDrop, sPar, sBrk, sCnt, sFor, sStore, sAugI, sAug, dC, dVar, dTake, qVar, qE, aNil, aCons, dOp, dUn, dCallB, gets, Op.get, put, puts, dat_sh, dat_ow, dat_bw, dat_un, ty0, ty1, ty2, ty3, ty4, ty5, ty6, ty7, ty8, ty9, ty10, ty11, ty12, ty13, ty14, ty15, ty16, ty17, ty18, ty19, ty20, ty21, ty22, ty23, ty24, ty25, ty26, ty27, ty28, ty29, ty30, ty31, ty32, ty33, ty34, ty35, ty36, ty37, ty38, ty39, ty40, ty41, gIsi_non, gIsi_bl, gIsi_int, gIsi_str, gIsi_lst, gIsi_tup, gIsi_dct, gIsC, dMut0, mReverse, mPopAt, gEq_bl, gEq_strs, eq_self, Sl.cn, Sl.with, Cn.dat, Rv.dat, bOf, asB, bTr, gTruth, bAnd, bOr, bNot, dAnd, dOr, dNot, dIf, dChain, vNil, vCons, dTup, dLst, dDisp, psNil, psCons, keyed, D.key, gN, gT, gsNil, gsCons, rNil, rCons, srcE, srcR1, srcR2, srcR3, srcEnum, srcZip, srcC, srcV, itsOf, dLc, bYes, wipeD, agNil, agVal, agBor, mkArgs, bors, giveB, dCall, clean, dMut, slL, mAppend, mInsert, slC, cnSet, gAdd, gSubI, gDiv, gMod, gNeg, gCmpI, gIx, dSl, oNo, oE, gSl, dRev, dJoin, gAbs, gLen, gInt, gIsN, gList, Option.map_some, List.map_cons, List.map_nil, List.getElem?_cons_zero, List.getElem?_cons_succ, List.getElem?_nil, List.set_cons_zero, List.set_cons_succ, List.length_cons, List.length_nil, List.cons_append, List.nil_append, List.take_succ_cons, List.take_zero, List.replicate_succ, List.replicate_zero, gMin2, gMax2, gMax3, nodup1, List.nodup_nil, gEq_int, gEq_str, atI_0, atI_1, atI_2, atI_3, atI_4, atI_5, ixN_40, ixN_41, ixN_42, ixN_43, gMul, Nat.reduceAdd, Nat.reduceSub, Nat.zero_add, Option.isSome_some, true_and, and_true, Option.some.injEq, exists_and_left, exists_eq_left, exists_eq_left', id_eq, ite_true, ite_false, reduceIte, Bool.false_eq_true, decide_eq_true_eq]
      refine forL_on D.str (fun p r ρ => ∃ (s2 s3 s4 s5 : Sl), ρ = [.sh (.lst (one.map D.str)), .sh (.lst (other.map D.str)), s2, s3, s4, s5] ∧ s2.dat = some (.lst (rowD (fun j => lcs p.reverse (other.take j).reverse) (other.length + 1))))
        ⟨_, _, _, _, rfl, by rw [dat_ow, Cn.dat]; congr 2; exact rowD_congr fun j _ => by rw [List.reverse_nil, lcs_nil]⟩ ?_ ?_
      · rintro ρ ⟨s2, s3, s4, s5, rfl, hs⟩
        exact hN _ ⟨s2, s3, s4, s5, rfl, hs⟩
      · rintro p x r ρ N2 e hN2 ⟨s2, s3, s4, s5, rfl, hs⟩
        simp only [gN, List.set_cons_succ, List.set_cons_zero]
        refine sSeq_go fun N3 h3 => ?_
        simp only [sSeq, sNext, sSet, sRet, sRetN, sIf, sAsg, sDrop, sPar, sBrk, sCnt, sFor, sStore, sAugI, sAug, dC, dVar, dTake, qVar, qE, aNil, aCons, dOp, dUn, dCallB, gets, Op.get, put, puts, dat_sh, dat_ow, dat_bw, dat_un, ty0, ty1, ty2, ty3, ty4, ty5, ty6, ty7, ty8, ty9, ty10, ty11, ty12, ty13, ty14, ty15, ty16, ty17, ty18, ty19, ty20, ty21, ty22, ty23, ty24, ty25, ty26, ty27, ty28, ty29, ty30, ty31, ty32, ty33, ty34, ty35, ty36, ty37, ty38, ty39, ty40, ty41, gIsi_non, gIsi_bl, gIsi_int, gIsi_str, gIsi_lst, gIsi_tup, gIsi_dct, gIsC, dMut0, mReverse, mPopAt, gEq_bl, gEq_strs, eq_self, Sl.cn, Sl.with, Cn.dat, Rv.dat, bOf, asB, bTr, gTruth, bAnd, bOr, bNot, dAnd, dOr, dNot, dIf, dChain, vNil, vCons, dTup, dLst, dDisp, psNil, psCons, keyed, D.key, gN, gT, gsNil, gsCons, rNil, rCons, srcE, srcR1, srcR2, srcR3, srcEnum, srcZip, srcC, srcV, itsOf, dLc, bYes, wipeD, agNil, agVal, agBor, mkArgs, bors, giveB, dCall, clean, dMut, slL, mAppend, mInsert, slC, cnSet, gAdd, gSubI, gDiv, gMod, gNeg, gCmpI, gIx, dSl, oNo, oE, gSl, dRev, dJoin, gAbs, gLen, gInt, gIsN, gList, Option.map_some, List.map_cons, List.map_nil, List.getElem?_cons_zero, List.getElem?_cons_succ, List.getElem?_nil, List.set_cons_zero, List.set_cons_succ, List.length_cons, List.length_nil, List.cons_append, List.nil_append, List.take_succ_cons, List.take_zero, List.replicate_succ, List.replicate_zero, gMin2, gMax2, gMax3, nodup1, List.nodup_nil, gEq_int, gEq_str, atI_0, atI_1, atI_2, atI_3, atI_4, atI_5, ixN_40, ixN_41, ixN_42, ixN_43, gMul, Nat.reduceAdd, Nat.reduceSub, Nat.zero_add, Option.isSome_some, true_and, and_true, Option.some.injEq, exists_and_left, exists_eq_left, exists_eq_left', id_eq, ite_true, ite_false, reduceIte, Bool.false_eq_true, decide_eq_true_eq]
        refine ⟨le_size (by decide), h3 _ ?_⟩
        clear h3
        refine sSeq_cut (fun ρ' => ∃ (s5 : Sl), ρ' = [.sh (.lst (one.map D.str)), .sh (.lst (other.map D.str)), s2, .sh (.str x), .ow (.l (rowD (fun j => lcs (p ++ [x]).reverse (other.take j).reverse) (other.length + 1))), s5]) (fun N4 hN4 => ?_) ?_
        · simp only [sSeq, sNext, sSet, sRet, sRetN, sIf, sAsg, sDrop, sPar, sBrk, sCnt, sFor, sStore, sAugI, sAug, dC, dVar, dTake, qVar, qE, aNil, aCons, dOp, dUn, dCallB, gets, Op.get, put, puts, dat_sh, dat_ow, dat_bw, dat_un, ty0, ty1, ty2, ty3, ty4, ty5, ty6, ty7, ty8, ty9, ty10, ty11, ty12, ty13, ty14, ty15, ty16, ty17, ty18, ty19, ty20, ty21, ty22, ty23, ty24, ty25, ty26, ty27, ty28, ty29, ty30, ty31, ty32, ty33, ty34, ty35, ty36, ty37, ty38, ty39, ty40, ty41, gIsi_non, gIsi_bl, gIsi_int, gIsi_str, gIsi_lst, gIsi_tup, gIsi_dct, gIsC, dMut0, mReverse, mPopAt, gEq_bl, gEq_strs, eq_self, Sl.cn, Sl.with, Cn.dat, Rv.dat, bOf, asB, bTr, gTruth, bAnd, bOr, bNot, dAnd, dOr, dNot, dIf, dChain, vNil, vCons, dTup, dLst, dDisp, psNil, psCons, keyed, D.key, gN, gT, gsNil, gsCons, rNil, rCons, srcE, srcR1, srcR2, srcR3, srcEnum, srcZip, srcC, srcV, itsOf, dLc, bYes, wipeD, agNil, agVal, agBor, mkArgs, bors, giveB, dCall, clean, dMut, slL, mAppend, mInsert, slC, cnSet, gAdd, gSubI, gDiv, gMod, gNeg, gCmpI, gIx, dSl, oNo, oE, gSl, dRev, dJoin, gAbs, gLen, gInt, gIsN, gList, Option.map_some, List.map_cons, List.map_nil, List.getElem?_cons_zero, List.getElem?_cons_succ, List.getElem?_nil, List.set_cons_zero, List.set_cons_succ, List.length_cons, List.length_nil, List.cons_append, List.nil_append, List.take_succ_cons, List.take_zero, List.replicate_succ, List.replicate_zero, gMin2, gMax2, gMax3, nodup1, List.nodup_nil, gEq_int, gEq_str, atI_0, atI_1, atI_2, atI_3, atI_4, atI_5, ixN_40, ixN_41, ixN_42, ixN_43, gMul, Nat.reduceAdd, Nat.reduceSub, Nat.zero_add, Option.isSome_some, true_and, and_true, Option.some.injEq, exists_and_left, exists_eq_left, exists_eq_left', id_eq, ite_true, ite_false, reduceIte, Bool.false_eq_true, decide_eq_true_eq, List.length_map, big]
          refine ⟨by omega, by omega, forL_rng (fun i ρ => ∃ (s5 : Sl), ρ = [.sh (.lst (one.map D.str)), .sh (.lst (other.map D.str)), s2, .sh (.str x), .ow (.l (rowD (fun j => lcs (p ++ [x]).reverse (other.take j).reverse) (i + 1))), s5]) ⟨s5, ?_⟩ ?_ ?_⟩
          · rw [← rowD_snoc]
            rw [List.take_zero, List.reverse_nil, lcs_nil']
            rfl
          · rintro ρ ⟨s5, rfl⟩
            exact hN4 _ ⟨s5, rfl⟩
          · rintro k ρ N5 hk hN5 ⟨s5, rfl⟩
            have hk' : k < other.length := by omega
            try simp only [sSeq, sNext, sSet, sRet, sRetN, sIf, sAsg, sDrop, sPar, sBrk, sCnt, sFor, sStore, sAugI, sAug, dC, dVar, dTake, qVar, qE, aNil, aCons, dOp, dUn, dCallB, gets, Op.get, put, puts, dat_sh, dat_ow, dat_bw, dat_un, ty0, ty1, ty2, ty3, ty4, ty5, ty6, ty7, ty8, ty9, ty10, ty11, ty12, ty13, ty14, ty15, ty16, ty17, ty18, ty19, ty20, ty21, ty22, ty23, ty24, ty25, ty26, ty27, ty28, ty29, ty30, ty31, ty32, ty33, ty34, ty35, ty36, ty37, ty38, ty39, ty40, ty41, gIsi_non, gIsi_bl, gIsi_int, gIsi_str, gIsi_lst, gIsi_tup, gIsi_dct, gIsC, dMut0, mReverse, mPopAt, gEq_bl, gEq_strs, eq_self, Sl.cn, Sl.with, Cn.dat, Rv.dat, bOf, asB, bTr, gTruth, bAnd, bOr, bNot, dAnd, dOr, dNot, dIf, dChain, vNil, vCons, dTup, dLst, dDisp, psNil, psCons, keyed, D.key, gN, gT, gsNil, gsCons, rNil, rCons, srcE, srcR1, srcR2, srcR3, srcEnum, srcZip, srcC, srcV, itsOf, dLc, bYes, wipeD, agNil, agVal, agBor, mkArgs, bors, giveB, dCall, clean, dMut, slL, mAppend, mInsert, slC, cnSet, gAdd, gSubI, gDiv, gMod, gNeg, gCmpI, gIx, dSl, oNo, oE, gSl, dRev, dJoin, gAbs, gLen, gInt, gIsN, gList, Option.map_some, List.map_cons, List.map_nil, List.getElem?_cons_zero, List.getElem?_cons_succ, List.getElem?_nil, List.set_cons_zero, List.set_cons_succ, List.length_cons, List.length_nil, List.cons_append, List.nil_append, List.take_succ_cons, List.take_zero, List.replicate_succ, List.replicate_zero, gMin2, gMax2, gMax3, nodup1, List.nodup_nil, gEq_int, gEq_str, atI_0, atI_1, atI_2, atI_3, atI_4, atI_5, ixN_40, ixN_41, ixN_42, ixN_43, gMul, Nat.reduceAdd, Nat.reduceSub, Nat.zero_add, Option.isSome_some, true_and, and_true, Option.some.injEq, exists_and_left, exists_eq_left, exists_eq_left', id_eq, ite_true, ite_false, reduceIte, Bool.false_eq_true, decide_eq_true_eq, hs]
            refine ⟨_, rowD_at k (by omega) (by omega), ?_⟩
            try simp only [sSeq, sNext, sSet, sRet, sRetN, sIf, sAsg, sDrop, sPar, sBrk, sCnt, sFor, sStore, sAugI, sAug, dC, dVar, dTake, qVar, qE, aNil, aCons, dOp, dUn, dCallB, gets, Op.get, put, puts, dat_sh, dat_ow, dat_bw, dat_un, ty0, ty1, ty2, ty3, ty4, ty5, ty6, ty7, ty8, ty9, ty10, ty11, ty12, ty13, ty14, ty15, ty16, ty17, ty18, ty19, ty20, ty21, ty22, ty23, ty24, ty25, ty26, ty27, ty28, ty29, ty30, ty31, ty32, ty33, ty34, ty35, ty36, ty37, ty38, ty39, ty40, ty41, gIsi_non, gIsi_bl, gIsi_int, gIsi_str, gIsi_lst, gIsi_tup, gIsi_dct, gIsC, dMut0, mReverse, mPopAt, gEq_bl, gEq_strs, eq_self, Sl.cn, Sl.with, Cn.dat, Rv.dat, bOf, asB, bTr, gTruth, bAnd, bOr, bNot, dAnd, dOr, dNot, dIf, dChain, vNil, vCons, dTup, dLst, dDisp, psNil, psCons, keyed, D.key, gN, gT, gsNil, gsCons, rNil, rCons, srcE, srcR1, srcR2, srcR3, srcEnum, srcZip, srcC, srcV, itsOf, dLc, bYes, wipeD, agNil, agVal, agBor, mkArgs, bors, giveB, dCall, clean, dMut, slL, mAppend, mInsert, slC, cnSet, gAdd, gSubI, gDiv, gMod, gNeg, gCmpI, gIx, dSl, oNo, oE, gSl, dRev, dJoin, gAbs, gLen, gInt, gIsN, gList, Option.map_some, List.map_cons, List.map_nil, List.getElem?_cons_zero, List.getElem?_cons_succ, List.getElem?_nil, List.set_cons_zero, List.set_cons_succ, List.length_cons, List.length_nil, List.cons_append, List.nil_append, List.take_succ_cons, List.take_zero, List.replicate_succ, List.replicate_zero, gMin2, gMax2, gMax3, nodup1, List.nodup_nil, gEq_int, gEq_str, atI_0, atI_1, atI_2, atI_3, atI_4, atI_5, ixN_40, ixN_41, ixN_42, ixN_43, gMul, Nat.reduceAdd, Nat.reduceSub, Nat.zero_add, Option.isSome_some, true_and, and_true, Option.some.injEq, exists_and_left, exists_eq_left, exists_eq_left', id_eq, ite_true, ite_false, reduceIte, Bool.false_eq_true, decide_eq_true_eq, hs]
            refine ⟨_, rowD_at (k + 1) (by omega) (by omega), ?_⟩
            try simp only [sSeq, sNext, sSet, sRet, sRetN, sIf, sAsg, sDrop, sPar, sBrk, sCnt, sFor, sStore, sAugI, sAug, dC, dVar, dTake, qVar, qE, aNil, aCons, dOp, dUn, dCallB, gets, Op.get, put, puts, dat_sh, dat_ow, dat_bw, dat_un, ty0, ty1, ty2, ty3, ty4, ty5, ty6, ty7, ty8, ty9, ty10, ty11, ty12, ty13, ty14, ty15, ty16, ty17, ty18, ty19, ty20, ty21, ty22, ty23, ty24, ty25, ty26, ty27, ty28, ty29, ty30, ty31, ty32, ty33, ty34, ty35, ty36, ty37, ty38, ty39, ty40, ty41, gIsi_non, gIsi_bl, gIsi_int, gIsi_str, gIsi_lst, gIsi_tup, gIsi_dct, gIsC, dMut0, mReverse, mPopAt, gEq_bl, gEq_strs, eq_self, Sl.cn, Sl.with, Cn.dat, Rv.dat, bOf, asB, bTr, gTruth, bAnd, bOr, bNot, dAnd, dOr, dNot, dIf, dChain, vNil, vCons, dTup, dLst, dDisp, psNil, psCons, keyed, D.key, gN, gT, gsNil, gsCons, rNil, rCons, srcE, srcR1, srcR2, srcR3, srcEnum, srcZip, srcC, srcV, itsOf, dLc, bYes, wipeD, agNil, agVal, agBor, mkArgs, bors, giveB, dCall, clean, dMut, slL, mAppend, mInsert, slC, cnSet, gAdd, gSubI, gDiv, gMod, gNeg, gCmpI, gIx, dSl, oNo, oE, gSl, dRev, dJoin, gAbs, gLen, gInt, gIsN, gList, Option.map_some, List.map_cons, List.map_nil, List.getElem?_cons_zero, List.getElem?_cons_succ, List.getElem?_nil, List.set_cons_zero, List.set_cons_succ, List.length_cons, List.length_nil, List.cons_append, List.nil_append, List.take_succ_cons, List.take_zero, List.replicate_succ, List.replicate_zero, gMin2, gMax2, gMax3, nodup1, List.nodup_nil, gEq_int, gEq_str, atI_0, atI_1, atI_2, atI_3, atI_4, atI_5, ixN_40, ixN_41, ixN_42, ixN_43, gMul, Nat.reduceAdd, Nat.reduceSub, Nat.zero_add, Option.isSome_some, true_and, and_true, Option.some.injEq, exists_and_left, exists_eq_left, exists_eq_left', id_eq, ite_true, ite_false, reduceIte, Bool.false_eq_true, decide_eq_true_eq, hs]
            refine ⟨_, rowD_at k (by omega) (by omega), ?_⟩
            try simp only [sSeq, sNext, sSet, sRet, sRetN, sIf, sAsg, sDrop, sPar, sBrk, sCnt, sFor, sStore, sAugI, sAug, dC, dVar, dTake, qVar, qE, aNil, aCons, dOp, dUn, dCallB, gets, Op.get, put, puts, dat_sh, dat_ow, dat_bw, dat_un, ty0, ty1, ty2, ty3, ty4, ty5, ty6, ty7, ty8, ty9, ty10, ty11, ty12, ty13, ty14, ty15, ty16, ty17, ty18, ty19, ty20, ty21, ty22, ty23, ty24, ty25, ty26, ty27, ty28, ty29, ty30, ty31, ty32, ty33, ty34, ty35, ty36, ty37, ty38, ty39, ty40, ty41, gIsi_non, gIsi_bl, gIsi_int, gIsi_str, gIsi_lst, gIsi_tup, gIsi_dct, gIsC, dMut0, mReverse, mPopAt, gEq_bl, gEq_strs, eq_self, Sl.cn, Sl.with, Cn.dat, Rv.dat, bOf, asB, bTr, gTruth, bAnd, bOr, bNot, dAnd, dOr, dNot, dIf, dChain, vNil, vCons, dTup, dLst, dDisp, psNil, psCons, keyed, D.key, gN, gT, gsNil, gsCons, rNil, rCons, srcE, srcR1, srcR2, srcR3, srcEnum, srcZip, srcC, srcV, itsOf, dLc, bYes, wipeD, agNil, agVal, agBor, mkArgs, bors, giveB, dCall, clean, dMut, slL, mAppend, mInsert, slC, cnSet, gAdd, gSubI, gDiv, gMod, gNeg, gCmpI, gIx, dSl, oNo, oE, gSl, dRev, dJoin, gAbs, gLen, gInt, gIsN, gList, Option.map_some, List.map_cons, List.map_nil, List.getElem?_cons_zero, List.getElem?_cons_succ, List.getElem?_nil, List.set_cons_zero, List.set_cons_succ, List.length_cons, List.length_nil, List.cons_append, List.nil_append, List.take_succ_cons, List.take_zero, List.replicate_succ, List.replicate_zero, gMin2, gMax2, gMax3, nodup1, List.nodup_nil, gEq_int, gEq_str, atI_0, atI_1, atI_2, atI_3, atI_4, atI_5, ixN_40, ixN_41, ixN_42, ixN_43, gMul, Nat.reduceAdd, Nat.reduceSub, Nat.zero_add, Option.isSome_some, true_and, and_true, Option.some.injEq, exists_and_left, exists_eq_left, exists_eq_left', id_eq, ite_true, ite_false, reduceIte, Bool.false_eq_true, decide_eq_true_eq, hs]
            refine ⟨_, get_str k (by omega) hk', ?_⟩
            try simp only [sSeq, sNext, sSet, sRet, sRetN, sIf, sAsg, sDrop, sPar, sBrk, sCnt, sFor, sStore, sAugI, sAug, dC, dVar, dTake, qVar, qE, aNil, aCons, dOp, dUn, dCallB, gets, Op.get, put, puts, dat_sh, dat_ow, dat_bw, dat_un, ty0, ty1, ty2, ty3, ty4, ty5, ty6, ty7, ty8, ty9, ty10, ty11, ty12, ty13, ty14, ty15, ty16, ty17, ty18, ty19, ty20, ty21, ty22, ty23, ty24, ty25, ty26, ty27, ty28, ty29, ty30, ty31, ty32, ty33, ty34, ty35, ty36, ty37, ty38, ty39, ty40, ty41, gIsi_non, gIsi_bl, gIsi_int, gIsi_str, gIsi_lst, gIsi_tup, gIsi_dct, gIsC, dMut0, mReverse, mPopAt, gEq_bl, gEq_strs, eq_self, Sl.cn, Sl.with, Cn.dat, Rv.dat, bOf, asB, bTr, gTruth, bAnd, bOr, bNot, dAnd, dOr, dNot, dIf, dChain, vNil, vCons, dTup, dLst, dDisp, psNil, psCons, keyed, D.key, gN, gT, gsNil, gsCons, rNil, rCons, srcE, srcR1, srcR2, srcR3, srcEnum, srcZip, srcC, srcV, itsOf, dLc, bYes, wipeD, agNil, agVal, agBor, mkArgs, bors, giveB, dCall, clean, dMut, slL, mAppend, mInsert, slC, cnSet, gAdd, gSubI, gDiv, gMod, gNeg, gCmpI, gIx, dSl, oNo, oE, gSl, dRev, dJoin, gAbs, gLen, gInt, gIsN, gList, Option.map_some, List.map_cons, List.map_nil, List.getElem?_cons_zero, List.getElem?_cons_succ, List.getElem?_nil, List.set_cons_zero, List.set_cons_succ, List.length_cons, List.length_nil, List.cons_append, List.nil_append, List.take_succ_cons, List.take_zero, List.replicate_succ, List.replicate_zero, gMin2, gMax2, gMax3, nodup1, List.nodup_nil, gEq_int, gEq_str, atI_0, atI_1, atI_2, atI_3, atI_4, atI_5, ixN_40, ixN_41, ixN_42, ixN_43, gMul, Nat.reduceAdd, Nat.reduceSub, Nat.zero_add, Option.isSome_some, true_and, and_true, Option.some.injEq, exists_and_left, exists_eq_left, exists_eq_left', id_eq, ite_true, ite_false, reduceIte, Bool.false_eq_true, decide_eq_true_eq, hs]
            have hb := lcs_le p.reverse (other.take k).reverse
            have hpl := congrArg List.length e
            rw [List.length_append, List.length_cons] at hpl
            rw [List.length_reverse] at hb
            refine ⟨cMul_of (by omega) (by split <;> decide), by rw [rowD_len]; exact lt_size (by omega), hN5 _ ⟨?s, ?e⟩⟩
            case e => rw [← fwd_row p x other k hk', rowD_snoc]
        · rintro ρ' ⟨s5, rfl⟩
          simp only [sSeq, sNext, sSet, sRet, sRetN, sIf, sAsg, sDrop, sPar, sBrk, sCnt, sFor, sStore, sAugI, sAug, dC, dVar, dTake, qVar, qE, aNil, aCons, dOp, dUn, dCallB, gets, Op.get, put, puts, dat_sh, dat_ow, dat_bw, dat_un, ty0, ty1, ty2, ty3, ty4, ty5, ty6, ty7, ty8, ty9, ty10, ty11, ty12, ty13, ty14, ty15, ty16, ty17, ty18, ty19, ty20, ty21, ty22, ty23, ty24, ty25, ty26, ty27, ty28, ty29, ty30, ty31, ty32, ty33, ty34, ty35, ty36, ty37, ty38, ty39, ty40, ty41, gIsi_non, gIsi_bl, gIsi_int, gIsi_str, gIsi_lst, gIsi_tup, gIsi_dct, gIsC, dMut0, mReverse, mPopAt, gEq_bl, gEq_strs, eq_self, Sl.cn, Sl.with, Cn.dat, Rv.dat, bOf, asB, bTr, gTruth, bAnd, bOr, bNot, dAnd, dOr, dNot, dIf, dChain, vNil, vCons, dTup, dLst, dDisp, psNil, psCons, keyed, D.key, gN, gT, gsNil, gsCons, rNil, rCons, srcE, srcR1, srcR2, srcR3, srcEnum, srcZip, srcC, srcV, itsOf, dLc, bYes, wipeD, agNil, agVal, agBor, mkArgs, bors, giveB, dCall, clean, dMut, slL, mAppend, mInsert, slC, cnSet, gAdd, gSubI, gDiv, gMod, gNeg, gCmpI, gIx, dSl, oNo, oE, gSl, dRev, dJoin, gAbs, gLen, gInt, gIsN, gList, Option.map_some, List.map_cons, List.map_nil, List.getElem?_cons_zero, List.getElem?_cons_succ, List.getElem?_nil, List.set_cons_zero, List.set_cons_succ, List.length_cons, List.length_nil, List.cons_append, List.nil_append, List.take_succ_cons, List.take_zero, List.replicate_succ, List.replicate_zero, gMin2, gMax2, gMax3, nodup1, List.nodup_nil, gEq_int, gEq_str, atI_0, atI_1, atI_2, atI_3, atI_4, atI_5, ixN_40, ixN_41, ixN_42, ixN_43, gMul, Nat.reduceAdd, Nat.reduceSub, Nat.zero_add, Option.isSome_some, true_and, and_true, Option.some.injEq, exists_and_left, exists_eq_left, exists_eq_left', id_eq, ite_true, ite_false, reduceIte, Bool.false_eq_true, decide_eq_true_eq]
          exact hN2 _ ⟨_, _, _, _, rfl, rfl⟩
    · rintro ρ' ⟨s2, s3, s4, s5, rfl, hs⟩
      simp only [sSeq, sNext, sSet, sRet, sRetN, sIf, sAsg, sDrop, sPar, sBrk, sCnt, sFor, sStore, sAugI, sAug, dC, dVar, dTake, qVar, qE, aNil, aCons, dOp, dUn, dCallB, gets, Op.get, put, puts, dat_sh, dat_ow, dat_bw, dat_un, ty0, ty1, ty2, ty3, ty4, ty5, ty6, ty7, ty8, ty9, ty10, ty11, ty12, ty13, ty14, ty15, ty16, ty17, ty18, ty19, ty20, ty21, ty22, ty23, ty24, ty25, ty26, ty27, ty28, ty29, ty30, ty31, ty32, ty33, ty34, ty35, ty36, ty37, ty38, ty39, ty40, ty41, gIsi_non, gIsi_bl, gIsi_int, gIsi_str, gIsi_lst, gIsi_tup, gIsi_dct, gIsC, dMut0, mReverse, mPopAt, gEq_bl, gEq_strs, eq_self, Sl.cn, Sl.with, Cn.dat, Rv.dat, bOf, asB, bTr, gTruth, bAnd, bOr, bNot, dAnd, dOr, dNot, dIf, dChain, vNil, vCons, dTup, dLst, dDisp, psNil, psCons, keyed, D.key, gN, gT, gsNil, gsCons, rNil, rCons, srcE, srcR1, srcR2, srcR3, srcEnum, srcZip, srcC, srcV, itsOf, dLc, bYes, wipeD, agNil, agVal, agBor, mkArgs, bors, giveB, dCall, clean, dMut, slL, mAppend, mInsert, slC, cnSet, gAdd, gSubI, gDiv, gMod, gNeg, gCmpI, gIx, dSl, oNo, oE, gSl, dRev, dJoin, gAbs, gLen, gInt, gIsN, gList, Option.map_some, List.map_cons, List.map_nil, List.getElem?_cons_zero, List.getElem?_cons_succ, List.getElem?_nil, List.set_cons_zero, List.set_cons_succ, List.length_cons, List.length_nil, List.cons_append, List.nil_append, List.take_succ_cons, List.take_zero, List.replicate_succ, List.replicate_zero, gMin2, gMax2, gMax3, nodup1, List.nodup_nil, gEq_int, gEq_str, atI_0, atI_1, atI_2, atI_3, atI_4, atI_5, ixN_40, ixN_41, ixN_42, ixN_43, gMul, Nat.reduceAdd, Nat.reduceSub, Nat.zero_add, Option.isSome_some, true_and, and_true, Option.some.injEq, exists_and_left, exists_eq_left, exists_eq_left', id_eq, ite_true, ite_false, reduceIte, Bool.false_eq_true, decide_eq_true_eq, hs]
      refine ⟨_, atI_last (x := .int (lcs one.reverse (other.take other.length).reverse)) ?_, ?_⟩
      · rw [← rowD_snoc, List.getLast?_append]
        rfl
      · rw [List.take_length, lcs_rev]
        exact h
def sp__law_is_index : SpD := fun as Q => ∃ (d : D) (line : List Str), as = [.sh d, .sh (.lst (line.map D.str))] ∧ d.ty.isSome = true ∧ Q (.v (.bl (btwD d 0 ((line.length : Int) - 1)))) [.un, .un]
theorem len__law_is_index {as : SL} {Q : Rv → SL → Prop} (h : sp__law_is_index as Q) : as.length = 2 := by
  obtain ⟨_, _, rfl, _⟩ := h
  rfl
theorem ok__law_is_index {f : Addr} {fd : FuncData} (Fn : Fun K "_law_is_index" "_law_is_index" s__law_is_index f fd) (z_len : mg "len" = none) (z_isinstance : mg "isinstance" = none) (z_bool : mg "bool" = none) (z_int : mg "int" = none) : FnG P w K mg base CX0 1 f fd ["_law_thing", "_law_line_here"] (lift K sp__law_is_index) := by
  have nd := sc__law_is_index.nd
  refine fnD Fn sc__law_is_index (fun as Q h => ?len) (fun cdv A outer s H hgd hr => ⟨_, _,
    (dss_one (ds_ret (de_and (de_isi (T := "int") (by rfl) z_isinstance (do_var (pv 0)) (by rfl) z_int (by decide +kernel) (by decide)) (de_and (de_not (de_isi (T := "bool") (by rfl) z_isinstance (do_var (pv 0)) (by rfl) z_bool (by decide +kernel) (by decide))) (de_one (de_chain op_le op_lt sem_le sem_lt (do_e de_int) (do_var (pv 0)) (do_e (de_callB call_lenA sem_len (by rfl) z_len (by decide +kernel) (da_cons (do_var (pv 1)) da_nil))))))))), fun as Q h => ?_⟩)
  case len => exact len__law_is_index h
  · obtain ⟨d, line, rfl, hd, h⟩ := h
    cases d with
    | int i =>
      simp only [sSeq, sNext, sSet, sRet, sRetN, sIf, sAsg, sDrop, sPar, sBrk, sCnt, sFor, sStore, sAugI, sAug, dC, dVar, dTake, qVar, qE, aNil, aCons, dOp, dUn, dCallB, gets, Op.get, put, puts, dat_sh, dat_ow, dat_bw, dat_un, ty0, ty1, ty2, ty3, ty4, ty5, ty6, ty7, ty8, ty9, ty10, ty11, ty12, ty13, ty14, ty15, ty16, ty17, ty18, ty19, ty20, ty21, ty22, ty23, ty24, ty25, ty26, ty27, ty28, ty29, ty30, ty31, ty32, ty33, ty34, ty35, ty36, ty37, ty38, ty39, ty40, ty41, gIsi_non, gIsi_bl, gIsi_int, gIsi_str, gIsi_lst, gIsi_tup, gIsi_dct, gIsC, dMut0, mReverse, mPopAt, gEq_bl, gEq_strs, eq_self, Sl.cn, Sl.with, Cn.dat, Rv.dat, bOf, asB, bTr, gTruth, bAnd, bOr, bNot, dAnd, dOr, dNot, dIf, dChain, vNil, vCons, dTup, dLst, dDisp, psNil, psCons, keyed, D.key, gN, gT, gsNil, gsCons, rNil, rCons, srcE, srcR1, srcR2, srcR3, srcEnum, srcZip, srcC, srcV, itsOf, dLc, bYes, wipeD, agNil, agVal, agBor, mkArgs, bors, giveB, dCall, clean, dMut, slL, mAppend, mInsert, slC, cnSet, gAdd, gSubI, gDiv, gMod, gNeg, gCmpI, gIx, dSl, oNo, oE, gSl, dRev, dJoin, gAbs, gLen, gInt, gIsN, gList, Option.map_some, List.map_cons, List.map_nil, List.getElem?_cons_zero, List.getElem?_cons_succ, List.getElem?_nil, List.set_cons_zero, List.set_cons_succ, List.length_cons, List.length_nil, List.cons_append, List.nil_append, List.take_succ_cons, List.take_zero, List.replicate_succ, List.replicate_zero, gMin2, gMax2, gMax3, nodup1, List.nodup_nil, gEq_int, gEq_str, atI_0, atI_1, atI_2, atI_3, atI_4, atI_5, ixN_40, ixN_41, ixN_42, ixN_43, gMul, Nat.reduceAdd, Nat.reduceSub, Nat.zero_add, Option.isSome_some, true_and, and_true, Option.some.injEq, exists_and_left, exists_eq_left, exists_eq_left', id_eq, ite_true, ite_false, reduceIte, Bool.false_eq_true, decide_eq_true_eq, Bool.not_true, Bool.not_false, List.length_map]
      simp only [btwD] at h
      by_cases e : 0 ≤ i
      · rw [if_pos e]
        try simp only [sSeq, sNext, sSet, sRet, sRetN, sIf, sAsg, sDrop, sPar, sBrk, sCnt, sFor, sStore, sAugI, sAug, dC, dVar, dTake, qVar, qE, aNil, aCons, dOp, dUn, dCallB, gets, Op.get, put, puts, dat_sh, dat_ow, dat_bw, dat_un, ty0, ty1, ty2, ty3, ty4, ty5, ty6, ty7, ty8, ty9, ty10, ty11, ty12, ty13, ty14, ty15, ty16, ty17, ty18, ty19, ty20, ty21, ty22, ty23, ty24, ty25, ty26, ty27, ty28, ty29, ty30, ty31, ty32, ty33, ty34, ty35, ty36, ty37, ty38, ty39, ty40, ty41, gIsi_non, gIsi_bl, gIsi_int, gIsi_str, gIsi_lst, gIsi_tup, gIsi_dct, gIsC, dMut0, mReverse, mPopAt, gEq_bl, gEq_strs, eq_self, Sl.cn, Sl.with, Cn.dat, Rv.dat, bOf, asB, bTr, gTruth, bAnd, bOr, bNot, dAnd, dOr, dNot, dIf, dChain, vNil, vCons, dTup, dLst, dDisp, psNil, psCons, keyed, D.key, gN, gT, gsNil, gsCons, rNil, rCons, srcE, srcR1, srcR2, srcR3, srcEnum, srcZip, srcC, srcV, itsOf, dLc, bYes, wipeD, agNil, agVal, agBor, mkArgs, bors, giveB, dCall, clean, dMut, slL, mAppend, mInsert, slC, cnSet, gAdd, gSubI, gDiv, gMod, gNeg, gCmpI, gIx, dSl, oNo, oE, gSl, dRev, dJoin, gAbs, gLen, gInt, gIsN, gList, Option.map_some, List.map_cons, List.map_nil, List.getElem?_cons_zero, List.getElem?_cons_succ, List.getElem?_nil, List.set_cons_zero, List.set_cons_succ, List.length_cons, List.length_nil, List.cons_append, List.nil_append, List.take_succ_cons, List.take_zero, List.replicate_succ, List.replicate_zero, gMin2, gMax2, gMax3, nodup1, List.nodup_nil, gEq_int, gEq_str, atI_0, atI_1, atI_2, atI_3, atI_4, atI_5, ixN_40, ixN_41, ixN_42, ixN_43, gMul, Nat.reduceAdd, Nat.reduceSub, Nat.zero_add, Option.isSome_some, true_and, and_true, Option.some.injEq, exists_and_left, exists_eq_left, exists_eq_left', id_eq, ite_true, ite_false, reduceIte, Bool.false_eq_true, decide_eq_true_eq]
        rw [decide_eq_true e, Bool.true_and, decide_eq_decide.mpr (show i ≤ (line.length : Int) - 1 ↔ i < line.length by omega)] at h
        exact h
      · rw [if_neg e]
        rw [decide_eq_false e, Bool.false_and] at h
        exact h
    | _ => first | (cases hd; done) | (simp only [sSeq, sNext, sSet, sRet, sRetN, sIf, sAsg, sDrop, sPar, sBrk, sCnt, sFor, sStore, sAugI, sAug, dC, dVar, dTake, qVar, qE, aNil, aCons, dOp, dUn, dCallB, gets, Op.get, put, puts, dat_sh, dat_ow, dat_bw, dat_un, ty0, ty1, ty2, ty3, ty4, ty5, ty6, ty7, ty8, ty9, ty10, ty11, ty12, ty13, ty14, ty15, ty16, ty17, ty18, ty19, ty20, ty21, ty22, ty23, ty24, ty25, ty26, ty27, ty28, ty29, ty30, ty31, ty32, ty33, ty34, ty35, ty36, ty37, ty38, ty39, ty40, ty41, gIsi_non, gIsi_bl, gIsi_int, gIsi_str, gIsi_lst, gIsi_tup, gIsi_dct, gIsC, dMut0, mReverse, mPopAt, gEq_bl, gEq_strs, eq_self, Sl.cn, Sl.with, Cn.dat, Rv.dat, bOf, asB, bTr, gTruth, bAnd, bOr, bNot, dAnd, dOr, dNot, dIf, dChain, vNil, vCons, dTup, dLst, dDisp, psNil, psCons, keyed, D.key, gN, gT, gsNil, gsCons, rNil, rCons, srcE, srcR1, srcR2, srcR3, srcEnum, srcZip, srcC, srcV, itsOf, dLc, bYes, wipeD, agNil, agVal, agBor, mkArgs, bors, giveB, dCall, clean, dMut, slL, mAppend, mInsert, slC, cnSet, gAdd, gSubI, gDiv, gMod, gNeg, gCmpI, gIx, dSl, oNo, oE, gSl, dRev, dJoin, gAbs, gLen, gInt, gIsN, gList, Option.map_some, List.map_cons, List.map_nil, List.getElem?_cons_zero, List.getElem?_cons_succ, List.getElem?_nil, List.set_cons_zero, List.set_cons_succ, List.length_cons, List.length_nil, List.cons_append, List.nil_append, List.take_succ_cons, List.take_zero, List.replicate_succ, List.replicate_zero, gMin2, gMax2, gMax3, nodup1, List.nodup_nil, gEq_int, gEq_str, atI_0, atI_1, atI_2, atI_3, atI_4, atI_5, ixN_40, ixN_41, ixN_42, ixN_43, gMul, Nat.reduceAdd, Nat.reduceSub, Nat.zero_add, Option.isSome_some, true_and, and_true, Option.some.injEq, exists_and_left, exists_eq_left, exists_eq_left', id_eq, ite_true, ite_false, reduceIte, Bool.false_eq_true, decide_eq_true_eq, Bool.not_true, Bool.not_false]; exact h)
def sp__law_is_right : SpD := fun as Q => ∃ (one other : List Str) (l : List D), as = [.sh (.lst (one.map D.str)), .sh (.lst (other.map D.str)), .bw 2 (.l l)] ∧ TameL (.lst l) ∧ one.length ≤ 200 ∧ other.length ≤ 200 ∧ ∀ b : Bool, (b = true ↔ GoodL one other l) → Q (.v (.bl b)) [.un, .un, .bw 2 (.l l)]
theorem len__law_is_right {as : SL} {Q : Rv → SL → Prop} (h : sp__law_is_right as Q) : as.length = 3 := by
  obtain ⟨_, _, _, rfl, _⟩ := h
  rfl
theorem link_btw {one other : List Str} {a b : D} (h : LinkD one other (.tup [a, b])) : ∃ i j : Nat, a = .int i ∧ b = .int j ∧ i < one.length ∧ j < other.length ∧ one[i]? = other[j]? := by
  obtain ⟨i, j, e, x, h1, h2⟩ := h
  cases e
  exact ⟨i, j, rfl, rfl, (List.getElem?_eq_some_iff.mp h1).1, (List.getElem?_eq_some_iff.mp h2).1, by rw [h1, h2]⟩
theorem btw_of {d : D} {n : Nat} (h : btwD d 0 ((n : Int) - 1) = true) : ∃ i : Nat, d = .int i ∧ i < n := by
  cases d <;> simp only [btwD, Bool.false_eq_true] at h
  rename_i i
  rw [Bool.and_eq_true, decide_eq_true_eq, decide_eq_true_eq] at h
  obtain ⟨i, rfl⟩ := Int.eq_ofNat_of_zero_le h.1
  exact ⟨i, rfl, by omega⟩
theorem of_btw {i n : Nat} (h : i < n) : btwD (.int i) 0 ((n : Int) - 1) = true := by
  simp only [btwD, Bool.and_eq_true, decide_eq_true_eq]
  omega
theorem at_nat {α : Type} {l : List α} {k : Int} {x : α} (i : Nat) (e : k = i) (h : l[i]? = some x) : atI l k = some x := by
  subst e
  exact atI_int (by omega) h
theorem ok__law_is_right {f : Addr} {fd : FuncData} (Fn : Fun K "_law_is_right" "_law_is_right" s__law_is_right f fd) (z_len : mg "len" = none) {a__law_longest : Addr} {d__law_longest : FuncData} (f__law_longest : Cal P w K mg base 1 "_law_longest" a__law_longest d__law_longest ["_law_one", "_law_other"] sp__law_longest) (z_isinstance : mg "isinstance" = none) (z_list : mg "list" = none) (z_range : mg "range" = none) (z_tuple : mg "tuple" = none) {a__law_is_index : Addr} {d__law_is_index : FuncData} (f__law_is_index : Cal P w K mg base 1 "_law_is_index" a__law_is_index d__law_is_index ["_law_thing", "_law_line_here"] sp__law_is_index) : FnG P w K mg base CX0 2 f fd ["_law_one", "_law_other", "_law_found"] (lift K sp__law_is_right) := by
  have nd := sc__law_is_right.nd
  refine fnD Fn sc__law_is_right (fun as Q h => ?len) (fun cdv A outer s H hgd hr => ⟨_, _,
    (dss_cons (ds_if (dw_pt (dw_or (dt_not (dt_tr (do_e (de_isi (T := "list") (by rfl) z_isinstance (do_var (pv 2)) (by rfl) z_list (by decide +kernel) (by decide))))) (dw_or1 (dt_cmp (op_neA (hu64 hr)) sem_ne (do_e (de_callB call_lenA sem_len (by rfl) z_len (by decide +kernel) (da_cons (do_var (pv 2)) da_nil))) (do_e (de_call f__law_longest.ok hgd (hr.mono (by decide)) (by rfl) f__law_longest.g f__law_longest.kp f__law_longest.b pass0 (dag_val (de_var (pv 0)) (dag_val (de_var (pv 1)) dag_nil)))) (nomark _))))) (dss_one (ds_ret de_bl)) dss_nil)
      (dss_cons (ds_for PassesOwn.never rfl (di_r1 (by rfl) z_range (dv_cons (de_callB call_lenA sem_len (by rfl) z_len (by decide +kernel) (da_cons (do_var (pv 2)) da_nil)) dv_nil)) (dg_name (i := 3) nd rfl (.inl rfl))
      (dss_cons (ds_if (dw_pt (dw_or (dt_not (dt_tr (do_e (de_isi (T := "tuple") (by rfl) z_isinstance (do_e (de_ix (hu1 hr) (do_var (pv 2)) (do_var (pv 3)))) (by rfl) z_tuple (by decide +kernel) (by decide))))) (dw_or1 (dt_cmp (op_neA (hu64 hr)) sem_ne (do_e (de_callB call_lenA sem_len (by rfl) z_len (by decide +kernel) (da_cons (do_e (de_ix (hu1 hr) (do_var (pv 2)) (do_var (pv 3)))) da_nil))) (do_e de_int) (nomark _))))) (dss_one (ds_ret de_bl)) dss_nil)
      (dss_cons (ds_if (dw_pt (dw_or (dt_not (dt_tr (do_e (de_call f__law_is_index.ok hgd (hr.mono (by decide)) (by rfl) f__law_is_index.g f__law_is_index.kp f__law_is_index.b pass0 (dag_val (de_ix (hu1 hr) (do_e (de_ix (hu1 hr) (do_var (pv 2)) (do_var (pv 3)))) (do_e de_int)) (dag_val (de_var (pv 0)) dag_nil)))))) (dw_or1 (dt_not (dt_tr (do_e (de_call f__law_is_index.ok hgd (hr.mono (by decide)) (by rfl) f__law_is_index.g f__law_is_index.kp f__law_is_index.b pass0 (dag_val (de_ix (hu1 hr) (do_e (de_ix (hu1 hr) (do_var (pv 2)) (do_var (pv 3)))) (do_e de_int)) (dag_val (de_var (pv 1)) dag_nil))))))))) (dss_one (ds_ret de_bl)) dss_nil)
      (dss_cons (ds_if (dt_cmp (op_neA (hu64 hr)) sem_ne (do_e (de_ix (hu1 hr) (do_var (pv 0)) (do_e (de_ix (hu1 hr) (do_e (de_ix (hu1 hr) (do_var (pv 2)) (do_var (pv 3)))) (do_e de_int))))) (do_e (de_ix (hu1 hr) (do_var (pv 1)) (do_e (de_ix (hu1 hr) (do_e (de_ix (hu1 hr) (do_var (pv 2)) (do_var (pv 3)))) (do_e de_int))))) (nomark _)) (dss_one (ds_ret de_bl)) dss_nil)
      (dss_cons (ds_if (dw_pt (dw_and (dt_cmp op_gt sem_gt (do_var (pv 3)) (do_e de_int) (nomark _)) (dw_and1 (dt_cmp op_ge sem_ge (do_e (de_ix (hu1 hr) (do_e (de_ix (hu1 hr) (do_var (pv 2)) (do_e (de_op op_sub sem_sub (do_var (pv 3)) (do_e de_int))))) (do_e de_int))) (do_e (de_ix (hu1 hr) (do_e (de_ix (hu1 hr) (do_var (pv 2)) (do_var (pv 3)))) (do_e de_int))) (nomark _))))) (dss_one (ds_ret de_bl)) dss_nil)
      (dss_one (ds_if (dw_pt (dw_and (dt_cmp op_gt sem_gt (do_var (pv 3)) (do_e de_int) (nomark _)) (dw_and1 (dt_cmp op_ge sem_ge (do_e (de_ix (hu1 hr) (do_e (de_ix (hu1 hr) (do_var (pv 2)) (do_e (de_op op_sub sem_sub (do_var (pv 3)) (do_e de_int))))) (do_e de_int))) (do_e (de_ix (hu1 hr) (do_e (de_ix (hu1 hr) (do_var (pv 2)) (do_var (pv 3)))) (do_e de_int))) (nomark _))))) (dss_one (ds_ret de_bl)) dss_nil)))))))
      (dss_one (ds_ret de_bl)))), fun as Q h => ?_⟩)
  case len => exact len__law_is_right h
  · obtain ⟨one, other, l, rfl, ⟨hd, hl⟩, l1, l2, h⟩ := h
    simp only [List.length_cons, List.length_nil, Nat.reduceAdd, Nat.reduceSub, List.replicate_succ, List.replicate_zero, List.cons_append, List.nil_append]
    have hF : ¬ GoodL one other l → Q (.v (.bl false)) [.un, .un, .bw 2 (.l l)] := fun q => h false ⟨fun z => (Bool.false_ne_true z).elim, fun z => (q z).elim⟩
    refine sSeq_cut (fun ρ' => l.length = lcs one other ∧ ρ' = [.sh (.lst (one.map D.str)), .sh (.lst (other.map D.str)), .bw 2 (.l l), .un]) (fun N hN1 => ?_) ?_
    · obtain ⟨hz, ht⟩ := hl l rfl
      try simp only [sSeq, sNext, sSet, sRet, sRetN, sIf, sAsg, sDrop, sPar, sBrk, sCnt, sFor, sStore, sAugI, sAug, dC, dVar, dTake, qVar, qE, aNil, aCons, dOp, dUn, dCallB, gets, Op.get, put, puts, dat_sh, dat_ow, dat_bw, dat_un, ty0, ty1, ty2, ty3, ty4, ty5, ty6, ty7, ty8, ty9, ty10, ty11, ty12, ty13, ty14, ty15, ty16, ty17, ty18, ty19, ty20, ty21, ty22, ty23, ty24, ty25, ty26, ty27, ty28, ty29, ty30, ty31, ty32, ty33, ty34, ty35, ty36, ty37, ty38, ty39, ty40, ty41, gIsi_non, gIsi_bl, gIsi_int, gIsi_str, gIsi_lst, gIsi_tup, gIsi_dct, gIsC, dMut0, mReverse, mPopAt, gEq_bl, gEq_strs, eq_self, Sl.cn, Sl.with, Cn.dat, Rv.dat, bOf, asB, bTr, gTruth, bAnd, bOr, bNot, dAnd, dOr, dNot, dIf, dChain, vNil, vCons, dTup, dLst, dDisp, psNil, psCons, keyed, D.key, gN, gT, gsNil, gsCons, rNil, rCons, srcE, srcR1, srcR2, srcR3, srcEnum, srcZip, srcC, srcV, itsOf, dLc, bYes, wipeD, agNil, agVal, agBor, mkArgs, bors, giveB, dCall, clean, dMut, slL, mAppend, mInsert, slC, cnSet, gAdd, gSubI, gDiv, gMod, gNeg, gCmpI, gIx, dSl, oNo, oE, gSl, dRev, dJoin, gAbs, gLen, gInt, gIsN, gList, Option.map_some, List.map_cons, List.map_nil, List.getElem?_cons_zero, List.getElem?_cons_succ, List.getElem?_nil, List.set_cons_zero, List.set_cons_succ, List.length_cons, List.length_nil, List.cons_append, List.nil_append, List.take_succ_cons, List.take_zero, List.replicate_succ, List.replicate_zero, gMin2, gMax2, gMax3, nodup1, List.nodup_nil, gEq_int, gEq_str, atI_0, atI_1, atI_2, atI_3, atI_4, atI_5, ixN_40, ixN_41, ixN_42, ixN_43, gMul, Nat.reduceAdd, Nat.reduceSub, Nat.zero_add, Option.isSome_some, true_and, and_true, Option.some.injEq, exists_and_left, exists_eq_left, exists_eq_left', id_eq, ite_true, ite_false, reduceIte, Bool.false_eq_true, decide_eq_true_eq, Bool.not_true, Bool.not_false]
      refine ⟨one, other, rfl, l1, l2, ?_⟩
      try simp only [sSeq, sNext, sSet, sRet, sRetN, sIf, sAsg, sDrop, sPar, sBrk, sCnt, sFor, sStore, sAugI, sAug, dC, dVar, dTake, qVar, qE, aNil, aCons, dOp, dUn, dCallB, gets, Op.get, put, puts, dat_sh, dat_ow, dat_bw, dat_un, ty0, ty1, ty2, ty3, ty4, ty5, ty6, ty7, ty8, ty9, ty10, ty11, ty12, ty13, ty14, ty15, ty16, ty17, ty18, ty19, ty20, ty21, ty22, ty23, ty24, ty25, ty26, ty27, ty28, ty29, ty30, ty31, ty32, ty33, ty34, ty35, ty36, ty37, ty38, ty39, ty40, ty41, gIsi_non, gIsi_bl, gIsi_int, gIsi_str, gIsi_lst, gIsi_tup, gIsi_dct, gIsC, dMut0, mReverse, mPopAt, gEq_bl, gEq_strs, eq_self, Sl.cn, Sl.with, Cn.dat, Rv.dat, bOf, asB, bTr, gTruth, bAnd, bOr, bNot, dAnd, dOr, dNot, dIf, dChain, vNil, vCons, dTup, dLst, dDisp, psNil, psCons, keyed, D.key, gN, gT, gsNil, gsCons, rNil, rCons, srcE, srcR1, srcR2, srcR3, srcEnum, srcZip, srcC, srcV, itsOf, dLc, bYes, wipeD, agNil, agVal, agBor, mkArgs, bors, giveB, dCall, clean, dMut, slL, mAppend, mInsert, slC, cnSet, gAdd, gSubI, gDiv, gMod, gNeg, gCmpI, gIx, dSl, oNo, oE, gSl, dRev, dJoin, gAbs, gLen, gInt, gIsN, gList, Option.map_some, List.map_cons, List.map_nil, List.getElem?_cons_zero, List.getElem?_cons_succ, List.getElem?_nil, List.set_cons_zero, List.set_cons_succ, List.length_cons, List.length_nil, List.cons_append, List.nil_append, List.take_succ_cons, List.take_zero, List.replicate_succ, List.replicate_zero, gMin2, gMax2, gMax3, nodup1, List.nodup_nil, gEq_int, gEq_str, atI_0, atI_1, atI_2, atI_3, atI_4, atI_5, ixN_40, ixN_41, ixN_42, ixN_43, gMul, Nat.reduceAdd, Nat.reduceSub, Nat.zero_add, Option.isSome_some, true_and, and_true, Option.some.injEq, exists_and_left, exists_eq_left, exists_eq_left', id_eq, ite_true, ite_false, reduceIte, Bool.false_eq_true, decide_eq_true_eq]
      by_cases hz : (l.length : Int) = (lcs one other : Nat)
      · simp only [hz, decide_true, Bool.not_true, Bool.false_eq_true, if_false]
        exact hN1 _ ⟨by omega, rfl⟩
      · simp only [hz, decide_false, Bool.not_false, if_true]
        exact hF fun ⟨e2, _⟩ => by omega
    · rintro ρ' ⟨hlen, rfl⟩
      obtain ⟨hz, ht⟩ := hl l rfl
      refine sSeq_cut (fun ρ' => GoodL one other l ∧ ∃ s3, ρ' = [.sh (.lst (one.map D.str)), .sh (.lst (other.map D.str)), .bw 2 (.l l), s3]) (fun N hN1 => ?_) ?_
      · simp only [sSeq, sNext, sSet, sRet, sRetN, sIf, sAsg, sDrop, sPar, sBrk, sCnt, sFor, sStore, sAugI, sAug, dC, dVar, dTake, qVar, qE, aNil, aCons, dOp, dUn, dCallB, gets, Op.get, put, puts, dat_sh, dat_ow, dat_bw, dat_un, ty0, ty1, ty2, ty3, ty4, ty5, ty6, ty7, ty8, ty9, ty10, ty11, ty12, ty13, ty14, ty15, ty16, ty17, ty18, ty19, ty20, ty21, ty22, ty23, ty24, ty25, ty26, ty27, ty28, ty29, ty30, ty31, ty32, ty33, ty34, ty35, ty36, ty37, ty38, ty39, ty40, ty41, gIsi_non, gIsi_bl, gIsi_int, gIsi_str, gIsi_lst, gIsi_tup, gIsi_dct, gIsC, dMut0, mReverse, mPopAt, gEq_bl, gEq_strs, eq_self, Sl.cn, Sl.with, Cn.dat, Rv.dat, bOf, asB, bTr, gTruth, bAnd, bOr, bNot, dAnd, dOr, dNot, dIf, dChain, vNil, vCons, dTup, dLst, dDisp, psNil, psCons, keyed, D.key, gN, gT, gsNil, gsCons, rNil, rCons, srcE, srcR1, srcR2, srcR3, srcEnum, srcZip, srcC, srcV, itsOf, dLc, bYes, wipeD, agNil, agVal, agBor, mkArgs, bors, giveB, dCall, clean, dMut, slL, mAppend, mInsert, slC, cnSet, gAdd, gSubI, gDiv, gMod, gNeg, gCmpI, gIx, dSl, oNo, oE, gSl, dRev, dJoin, gAbs, gLen, gInt, gIsN, gList, Option.map_some, List.map_cons, List.map_nil, List.getElem?_cons_zero, List.getElem?_cons_succ, List.getElem?_nil, List.set_cons_zero, List.set_cons_succ, List.length_cons, List.length_nil, List.cons_append, List.nil_append, List.take_succ_cons, List.take_zero, List.replicate_succ, List.replicate_zero, gMin2, gMax2, gMax3, nodup1, List.nodup_nil, gEq_int, gEq_str, atI_0, atI_1, atI_2, atI_3, atI_4, atI_5, ixN_40, ixN_41, ixN_42, ixN_43, gMul, Nat.reduceAdd, Nat.reduceSub, Nat.zero_add, Option.isSome_some, true_and, and_true, Option.some.injEq, exists_and_left, exists_eq_left, exists_eq_left', id_eq, ite_true, ite_false, reduceIte, Bool.false_eq_true, decide_eq_true_eq, big]
        refine ⟨by omega, by omega, forL_rng (fun i ρ => (∀ (k : Nat) (d : D), k < i → l[k]? = some d → LinkD one other d) ∧ (∀ (k : Nat) (d e : D), k + 1 < i → l[k]? = some d → l[k + 1]? = some e → AscD d e) ∧ ∃ s3, ρ = [.sh (.lst (one.map D.str)), .sh (.lst (other.map D.str)), .bw 2 (.l l), s3])
          ⟨fun k _ hk => by omega, fun k _ _ hk => by omega, _, rfl⟩ ?_ ?_⟩
        · rintro ρ ⟨ha, hb, s3, rfl⟩
          refine hN1 _ ⟨⟨hlen, fun d hd => ?_, fun k d e h1 h2 => hb k d e ?_ h1 h2⟩, s3, rfl⟩
          · obtain ⟨k, hk, e⟩ := List.getElem_of_mem hd
            exact ha k d (by omega) (by rw [List.getElem?_eq_getElem hk, e])
          · have := (List.getElem?_eq_some_iff.mp h2).1
            omega
        · rintro i ρ N2 hi hN2 ⟨ha, hb, s3, rfl⟩
          simp only [gN, List.set_cons_succ, List.set_cons_zero]
          have hi' : i < l.length := by omega
          generalize hK : (0 + (i : Int) * 1) = K
          have eK : K = i := by omega
          have hx := List.getElem?_eq_getElem hi'
          generalize l[i] = x at hx
          have hat : atI l K = some x := at_nat i eK hx
          have htm := ht x (List.mem_of_getElem? hx)
          have hbad : ¬ LinkD one other x → ¬ GoodL one other l := fun q ⟨_, g, _⟩ => by exact q (g x (List.mem_of_getElem? hx))
          refine sSeq_cut (fun ρ' => ∃ a b, x = .tup [a, b] ∧ ρ' = [.sh (.lst (one.map D.str)), .sh (.lst (other.map D.str)), .bw 2 (.l l), .sh (.int K)]) (fun N3 hN3 => ?_) ?_
          · cases x with
            | tup t =>
              try simp only [sSeq, sNext, sSet, sRet, sRetN, sIf, sAsg, sDrop, sPar, sBrk, sCnt, sFor, sStore, sAugI, sAug, dC, dVar, dTake, qVar, qE, aNil, aCons, dOp, dUn, dCallB, gets, Op.get, put, puts, dat_sh, dat_ow, dat_bw, dat_un, ty0, ty1, ty2, ty3, ty4, ty5, ty6, ty7, ty8, ty9, ty10, ty11, ty12, ty13, ty14, ty15, ty16, ty17, ty18, ty19, ty20, ty21, ty22, ty23, ty24, ty25, ty26, ty27, ty28, ty29, ty30, ty31, ty32, ty33, ty34, ty35, ty36, ty37, ty38, ty39, ty40, ty41, gIsi_non, gIsi_bl, gIsi_int, gIsi_str, gIsi_lst, gIsi_tup, gIsi_dct, gIsC, dMut0, mReverse, mPopAt, gEq_bl, gEq_strs, eq_self, Sl.cn, Sl.with, Cn.dat, Rv.dat, bOf, asB, bTr, gTruth, bAnd, bOr, bNot, dAnd, dOr, dNot, dIf, dChain, vNil, vCons, dTup, dLst, dDisp, psNil, psCons, keyed, D.key, gN, gT, gsNil, gsCons, rNil, rCons, srcE, srcR1, srcR2, srcR3, srcEnum, srcZip, srcC, srcV, itsOf, dLc, bYes, wipeD, agNil, agVal, agBor, mkArgs, bors, giveB, dCall, clean, dMut, slL, mAppend, mInsert, slC, cnSet, gAdd, gSubI, gDiv, gMod, gNeg, gCmpI, gIx, dSl, oNo, oE, gSl, dRev, dJoin, gAbs, gLen, gInt, gIsN, gList, Option.map_some, List.map_cons, List.map_nil, List.getElem?_cons_zero, List.getElem?_cons_succ, List.getElem?_nil, List.set_cons_zero, List.set_cons_succ, List.length_cons, List.length_nil, List.cons_append, List.nil_append, List.take_succ_cons, List.take_zero, List.replicate_succ, List.replicate_zero, gMin2, gMax2, gMax3, nodup1, List.nodup_nil, gEq_int, gEq_str, atI_0, atI_1, atI_2, atI_3, atI_4, atI_5, ixN_40, ixN_41, ixN_42, ixN_43, gMul, Nat.reduceAdd, Nat.reduceSub, Nat.zero_add, Option.isSome_some, true_and, and_true, Option.some.injEq, exists_and_left, exists_eq_left, exists_eq_left', id_eq, ite_true, ite_false, reduceIte, Bool.false_eq_true, decide_eq_true_eq, hat, Bool.not_true, Bool.not_false]
              by_cases h2 : (t.length : Int) = 2
              · have h2' : t.length = 2 := by omega
                match t, h2' with
                | [a, b], _ =>
                  try simp only [sSeq, sNext, sSet, sRet, sRetN, sIf, sAsg, sDrop, sPar, sBrk, sCnt, sFor, sStore, sAugI, sAug, dC, dVar, dTake, qVar, qE, aNil, aCons, dOp, dUn, dCallB, gets, Op.get, put, puts, dat_sh, dat_ow, dat_bw, dat_un, ty0, ty1, ty2, ty3, ty4, ty5, ty6, ty7, ty8, ty9, ty10, ty11, ty12, ty13, ty14, ty15, ty16, ty17, ty18, ty19, ty20, ty21, ty22, ty23, ty24, ty25, ty26, ty27, ty28, ty29, ty30, ty31, ty32, ty33, ty34, ty35, ty36, ty37, ty38, ty39, ty40, ty41, gIsi_non, gIsi_bl, gIsi_int, gIsi_str, gIsi_lst, gIsi_tup, gIsi_dct, gIsC, dMut0, mReverse, mPopAt, gEq_bl, gEq_strs, eq_self, Sl.cn, Sl.with, Cn.dat, Rv.dat, bOf, asB, bTr, gTruth, bAnd, bOr, bNot, dAnd, dOr, dNot, dIf, dChain, vNil, vCons, dTup, dLst, dDisp, psNil, psCons, keyed, D.key, gN, gT, gsNil, gsCons, rNil, rCons, srcE, srcR1, srcR2, srcR3, srcEnum, srcZip, srcC, srcV, itsOf, dLc, bYes, wipeD, agNil, agVal, agBor, mkArgs, bors, giveB, dCall, clean, dMut, slL, mAppend, mInsert, slC, cnSet, gAdd, gSubI, gDiv, gMod, gNeg, gCmpI, gIx, dSl, oNo, oE, gSl, dRev, dJoin, gAbs, gLen, gInt, gIsN, gList, Option.map_some, List.map_cons, List.map_nil, List.getElem?_cons_zero, List.getElem?_cons_succ, List.getElem?_nil, List.set_cons_zero, List.set_cons_succ, List.length_cons, List.length_nil, List.cons_append, List.nil_append, List.take_succ_cons, List.take_zero, List.replicate_succ, List.replicate_zero, gMin2, gMax2, gMax3, nodup1, List.nodup_nil, gEq_int, gEq_str, atI_0, atI_1, atI_2, atI_3, atI_4, atI_5, ixN_40, ixN_41, ixN_42, ixN_43, gMul, Nat.reduceAdd, Nat.reduceSub, Nat.zero_add, Option.isSome_some, true_and, and_true, Option.some.injEq, exists_and_left, exists_eq_left, exists_eq_left', id_eq, ite_true, ite_false, reduceIte, Bool.false_eq_true, decide_eq_true_eq, Bool.not_true, Bool.not_false]
                  exact hN3 _ ⟨a, b, rfl, rfl⟩
              · simp only [h2, decide_false, Bool.not_false, if_true]
                exact hF (hbad fun ⟨a, b, e, _⟩ => by cases e; exact h2 rfl)
            | _ =>
              first
                | (cases htm.1; done)
                | (simp only [sSeq, sNext, sSet, sRet, sRetN, sIf, sAsg, sDrop, sPar, sBrk, sCnt, sFor, sStore, sAugI, sAug, dC, dVar, dTake, qVar, qE, aNil, aCons, dOp, dUn, dCallB, gets, Op.get, put, puts, dat_sh, dat_ow, dat_bw, dat_un, ty0, ty1, ty2, ty3, ty4, ty5, ty6, ty7, ty8, ty9, ty10, ty11, ty12, ty13, ty14, ty15, ty16, ty17, ty18, ty19, ty20, ty21, ty22, ty23, ty24, ty25, ty26, ty27, ty28, ty29, ty30, ty31, ty32, ty33, ty34, ty35, ty36, ty37, ty38, ty39, ty40, ty41, gIsi_non, gIsi_bl, gIsi_int, gIsi_str, gIsi_lst, gIsi_tup, gIsi_dct, gIsC, dMut0, mReverse, mPopAt, gEq_bl, gEq_strs, eq_self, Sl.cn, Sl.with, Cn.dat, Rv.dat, bOf, asB, bTr, gTruth, bAnd, bOr, bNot, dAnd, dOr, dNot, dIf, dChain, vNil, vCons, dTup, dLst, dDisp, psNil, psCons, keyed, D.key, gN, gT, gsNil, gsCons, rNil, rCons, srcE, srcR1, srcR2, srcR3, srcEnum, srcZip, srcC, srcV, itsOf, dLc, bYes, wipeD, agNil, agVal, agBor, mkArgs, bors, giveB, dCall, clean, dMut, slL, mAppend, mInsert, slC, cnSet, gAdd, gSubI, gDiv, gMod, gNeg, gCmpI, gIx, dSl, oNo, oE, gSl, dRev, dJoin, gAbs, gLen, gInt, gIsN, gList, Option.map_some, List.map_cons, List.map_nil, List.getElem?_cons_zero, List.getElem?_cons_succ, List.getElem?_nil, List.set_cons_zero, List.set_cons_succ, List.length_cons, List.length_nil, List.cons_append, List.nil_append, List.take_succ_cons, List.take_zero, List.replicate_succ, List.replicate_zero, gMin2, gMax2, gMax3, nodup1, List.nodup_nil, gEq_int, gEq_str, atI_0, atI_1, atI_2, atI_3, atI_4, atI_5, ixN_40, ixN_41, ixN_42, ixN_43, gMul, Nat.reduceAdd, Nat.reduceSub, Nat.zero_add, Option.isSome_some, true_and, and_true, Option.some.injEq, exists_and_left, exists_eq_left, exists_eq_left', id_eq, ite_true, ite_false, reduceIte, Bool.false_eq_true, decide_eq_true_eq, hat, Bool.not_true, Bool.not_false]
                   exact hF (hbad fun ⟨a, b, e, _⟩ => by cases e))
          · rintro ρ' ⟨a, b, rfl, rfl⟩
            have hta := htm.2 _ rfl a (by simp)
            have htb := htm.2 _ rfl b (by simp)
            refine sSeq_cut (fun ρ' => (∃ i j : Nat, a = .int i ∧ b = .int j ∧ i < one.length ∧ j < other.length) ∧ ρ' = [.sh (.lst (one.map D.str)), .sh (.lst (other.map D.str)), .bw 2 (.l l), .sh (.int K)]) (fun N3 hN3 => ?_) ?_
            · simp only [sSeq, sNext, sSet, sRet, sRetN, sIf, sAsg, sDrop, sPar, sBrk, sCnt, sFor, sStore, sAugI, sAug, dC, dVar, dTake, qVar, qE, aNil, aCons, dOp, dUn, dCallB, gets, Op.get, put, puts, dat_sh, dat_ow, dat_bw, dat_un, ty0, ty1, ty2, ty3, ty4, ty5, ty6, ty7, ty8, ty9, ty10, ty11, ty12, ty13, ty14, ty15, ty16, ty17, ty18, ty19, ty20, ty21, ty22, ty23, ty24, ty25, ty26, ty27, ty28, ty29, ty30, ty31, ty32, ty33, ty34, ty35, ty36, ty37, ty38, ty39, ty40, ty41, gIsi_non, gIsi_bl, gIsi_int, gIsi_str, gIsi_lst, gIsi_tup, gIsi_dct, gIsC, dMut0, mReverse, mPopAt, gEq_bl, gEq_strs, eq_self, Sl.cn, Sl.with, Cn.dat, Rv.dat, bOf, asB, bTr, gTruth, bAnd, bOr, bNot, dAnd, dOr, dNot, dIf, dChain, vNil, vCons, dTup, dLst, dDisp, psNil, psCons, keyed, D.key, gN, gT, gsNil, gsCons, rNil, rCons, srcE, srcR1, srcR2, srcR3, srcEnum, srcZip, srcC, srcV, itsOf, dLc, bYes, wipeD, agNil, agVal, agBor, mkArgs, bors, giveB, dCall, clean, dMut, slL, mAppend, mInsert, slC, cnSet, gAdd, gSubI, gDiv, gMod, gNeg, gCmpI, gIx, dSl, oNo, oE, gSl, dRev, dJoin, gAbs, gLen, gInt, gIsN, gList, Option.map_some, List.map_cons, List.map_nil, List.getElem?_cons_zero, List.getElem?_cons_succ, List.getElem?_nil, List.set_cons_zero, List.set_cons_succ, List.length_cons, List.length_nil, List.cons_append, List.nil_append, List.take_succ_cons, List.take_zero, List.replicate_succ, List.replicate_zero, gMin2, gMax2, gMax3, nodup1, List.nodup_nil, gEq_int, gEq_str, atI_0, atI_1, atI_2, atI_3, atI_4, atI_5, ixN_40, ixN_41, ixN_42, ixN_43, gMul, Nat.reduceAdd, Nat.reduceSub, Nat.zero_add, Option.isSome_some, true_and, and_true, Option.some.injEq, exists_and_left, exists_eq_left, exists_eq_left', id_eq, ite_true, ite_false, reduceIte, Bool.false_eq_true, decide_eq_true_eq, hat]
              refine ⟨a, one, rfl, hta, ?_⟩
              try simp only [sSeq, sNext, sSet, sRet, sRetN, sIf, sAsg, sDrop, sPar, sBrk, sCnt, sFor, sStore, sAugI, sAug, dC, dVar, dTake, qVar, qE, aNil, aCons, dOp, dUn, dCallB, gets, Op.get, put, puts, dat_sh, dat_ow, dat_bw, dat_un, ty0, ty1, ty2, ty3, ty4, ty5, ty6, ty7, ty8, ty9, ty10, ty11, ty12, ty13, ty14, ty15, ty16, ty17, ty18, ty19, ty20, ty21, ty22, ty23, ty24, ty25, ty26, ty27, ty28, ty29, ty30, ty31, ty32, ty33, ty34, ty35, ty36, ty37, ty38, ty39, ty40, ty41, gIsi_non, gIsi_bl, gIsi_int, gIsi_str, gIsi_lst, gIsi_tup, gIsi_dct, gIsC, dMut0, mReverse, mPopAt, gEq_bl, gEq_strs, eq_self, Sl.cn, Sl.with, Cn.dat, Rv.dat, bOf, asB, bTr, gTruth, bAnd, bOr, bNot, dAnd, dOr, dNot, dIf, dChain, vNil, vCons, dTup, dLst, dDisp, psNil, psCons, keyed, D.key, gN, gT, gsNil, gsCons, rNil, rCons, srcE, srcR1, srcR2, srcR3, srcEnum, srcZip, srcC, srcV, itsOf, dLc, bYes, wipeD, agNil, agVal, agBor, mkArgs, bors, giveB, dCall, clean, dMut, slL, mAppend, mInsert, slC, cnSet, gAdd, gSubI, gDiv, gMod, gNeg, gCmpI, gIx, dSl, oNo, oE, gSl, dRev, dJoin, gAbs, gLen, gInt, gIsN, gList, Option.map_some, List.map_cons, List.map_nil, List.getElem?_cons_zero, List.getElem?_cons_succ, List.getElem?_nil, List.set_cons_zero, List.set_cons_succ, List.length_cons, List.length_nil, List.cons_append, List.nil_append, List.take_succ_cons, List.take_zero, List.replicate_succ, List.replicate_zero, gMin2, gMax2, gMax3, nodup1, List.nodup_nil, gEq_int, gEq_str, atI_0, atI_1, atI_2, atI_3, atI_4, atI_5, ixN_40, ixN_41, ixN_42, ixN_43, gMul, Nat.reduceAdd, Nat.reduceSub, Nat.zero_add, Option.isSome_some, true_and, and_true, Option.some.injEq, exists_and_left, exists_eq_left, exists_eq_left', id_eq, ite_true, ite_false, reduceIte, Bool.false_eq_true, decide_eq_true_eq, hat]
              cases e1 : btwD a 0 ((one.length : Int) - 1) with
              | false =>
                try simp only [sSeq, sNext, sSet, sRet, sRetN, sIf, sAsg, sDrop, sPar, sBrk, sCnt, sFor, sStore, sAugI, sAug, dC, dVar, dTake, qVar, qE, aNil, aCons, dOp, dUn, dCallB, gets, Op.get, put, puts, dat_sh, dat_ow, dat_bw, dat_un, ty0, ty1, ty2, ty3, ty4, ty5, ty6, ty7, ty8, ty9, ty10, ty11, ty12, ty13, ty14, ty15, ty16, ty17, ty18, ty19, ty20, ty21, ty22, ty23, ty24, ty25, ty26, ty27, ty28, ty29, ty30, ty31, ty32, ty33, ty34, ty35, ty36, ty37, ty38, ty39, ty40, ty41, gIsi_non, gIsi_bl, gIsi_int, gIsi_str, gIsi_lst, gIsi_tup, gIsi_dct, gIsC, dMut0, mReverse, mPopAt, gEq_bl, gEq_strs, eq_self, Sl.cn, Sl.with, Cn.dat, Rv.dat, bOf, asB, bTr, gTruth, bAnd, bOr, bNot, dAnd, dOr, dNot, dIf, dChain, vNil, vCons, dTup, dLst, dDisp, psNil, psCons, keyed, D.key, gN, gT, gsNil, gsCons, rNil, rCons, srcE, srcR1, srcR2, srcR3, srcEnum, srcZip, srcC, srcV, itsOf, dLc, bYes, wipeD, agNil, agVal, agBor, mkArgs, bors, giveB, dCall, clean, dMut, slL, mAppend, mInsert, slC, cnSet, gAdd, gSubI, gDiv, gMod, gNeg, gCmpI, gIx, dSl, oNo, oE, gSl, dRev, dJoin, gAbs, gLen, gInt, gIsN, gList, Option.map_some, List.map_cons, List.map_nil, List.getElem?_cons_zero, List.getElem?_cons_succ, List.getElem?_nil, List.set_cons_zero, List.set_cons_succ, List.length_cons, List.length_nil, List.cons_append, List.nil_append, List.take_succ_cons, List.take_zero, List.replicate_succ, List.replicate_zero, gMin2, gMax2, gMax3, nodup1, List.nodup_nil, gEq_int, gEq_str, atI_0, atI_1, atI_2, atI_3, atI_4, atI_5, ixN_40, ixN_41, ixN_42, ixN_43, gMul, Nat.reduceAdd, Nat.reduceSub, Nat.zero_add, Option.isSome_some, true_and, and_true, Option.some.injEq, exists_and_left, exists_eq_left, exists_eq_left', id_eq, ite_true, ite_false, reduceIte, Bool.false_eq_true, decide_eq_true_eq, Bool.not_false]
                exact hF (hbad fun z => by obtain ⟨i, j, rfl, rfl, q1, q2, _⟩ := link_btw z; rw [of_btw q1] at e1; cases e1)
              | true =>
                try simp only [sSeq, sNext, sSet, sRet, sRetN, sIf, sAsg, sDrop, sPar, sBrk, sCnt, sFor, sStore, sAugI, sAug, dC, dVar, dTake, qVar, qE, aNil, aCons, dOp, dUn, dCallB, gets, Op.get, put, puts, dat_sh, dat_ow, dat_bw, dat_un, ty0, ty1, ty2, ty3, ty4, ty5, ty6, ty7, ty8, ty9, ty10, ty11, ty12, ty13, ty14, ty15, ty16, ty17, ty18, ty19, ty20, ty21, ty22, ty23, ty24, ty25, ty26, ty27, ty28, ty29, ty30, ty31, ty32, ty33, ty34, ty35, ty36, ty37, ty38, ty39, ty40, ty41, gIsi_non, gIsi_bl, gIsi_int, gIsi_str, gIsi_lst, gIsi_tup, gIsi_dct, gIsC, dMut0, mReverse, mPopAt, gEq_bl, gEq_strs, eq_self, Sl.cn, Sl.with, Cn.dat, Rv.dat, bOf, asB, bTr, gTruth, bAnd, bOr, bNot, dAnd, dOr, dNot, dIf, dChain, vNil, vCons, dTup, dLst, dDisp, psNil, psCons, keyed, D.key, gN, gT, gsNil, gsCons, rNil, rCons, srcE, srcR1, srcR2, srcR3, srcEnum, srcZip, srcC, srcV, itsOf, dLc, bYes, wipeD, agNil, agVal, agBor, mkArgs, bors, giveB, dCall, clean, dMut, slL, mAppend, mInsert, slC, cnSet, gAdd, gSubI, gDiv, gMod, gNeg, gCmpI, gIx, dSl, oNo, oE, gSl, dRev, dJoin, gAbs, gLen, gInt, gIsN, gList, Option.map_some, List.map_cons, List.map_nil, List.getElem?_cons_zero, List.getElem?_cons_succ, List.getElem?_nil, List.set_cons_zero, List.set_cons_succ, List.length_cons, List.length_nil, List.cons_append, List.nil_append, List.take_succ_cons, List.take_zero, List.replicate_succ, List.replicate_zero, gMin2, gMax2, gMax3, nodup1, List.nodup_nil, gEq_int, gEq_str, atI_0, atI_1, atI_2, atI_3, atI_4, atI_5, ixN_40, ixN_41, ixN_42, ixN_43, gMul, Nat.reduceAdd, Nat.reduceSub, Nat.zero_add, Option.isSome_some, true_and, and_true, Option.some.injEq, exists_and_left, exists_eq_left, exists_eq_left', id_eq, ite_true, ite_false, reduceIte, Bool.false_eq_true, decide_eq_true_eq, Bool.not_true, hat]
                refine ⟨b, other, rfl, htb, ?_⟩
                try simp only [sSeq, sNext, sSet, sRet, sRetN, sIf, sAsg, sDrop, sPar, sBrk, sCnt, sFor, sStore, sAugI, sAug, dC, dVar, dTake, qVar, qE, aNil, aCons, dOp, dUn, dCallB, gets, Op.get, put, puts, dat_sh, dat_ow, dat_bw, dat_un, ty0, ty1, ty2, ty3, ty4, ty5, ty6, ty7, ty8, ty9, ty10, ty11, ty12, ty13, ty14, ty15, ty16, ty17, ty18, ty19, ty20, ty21, ty22, ty23, ty24, ty25, ty26, ty27, ty28, ty29, ty30, ty31, ty32, ty33, ty34, ty35, ty36, ty37, ty38, ty39, ty40, ty41, gIsi_non, gIsi_bl, gIsi_int, gIsi_str, gIsi_lst, gIsi_tup, gIsi_dct, gIsC, dMut0, mReverse, mPopAt, gEq_bl, gEq_strs, eq_self, Sl.cn, Sl.with, Cn.dat, Rv.dat, bOf, asB, bTr, gTruth, bAnd, bOr, bNot, dAnd, dOr, dNot, dIf, dChain, vNil, vCons, dTup, dLst, dDisp, psNil, psCons, keyed, D.key, gN, gT, gsNil, gsCons, rNil, rCons, srcE, srcR1, srcR2, srcR3, srcEnum, srcZip, srcC, srcV, itsOf, dLc, bYes, wipeD, agNil, agVal, agBor, mkArgs, bors, giveB, dCall, clean, dMut, slL, mAppend, mInsert, slC, cnSet, gAdd, gSubI, gDiv, gMod, gNeg, gCmpI, gIx, dSl, oNo, oE, gSl, dRev, dJoin, gAbs, gLen, gInt, gIsN, gList, Option.map_some, List.map_cons, List.map_nil, List.getElem?_cons_zero, List.getElem?_cons_succ, List.getElem?_nil, List.set_cons_zero, List.set_cons_succ, List.length_cons, List.length_nil, List.cons_append, List.nil_append, List.take_succ_cons, List.take_zero, List.replicate_succ, List.replicate_zero, gMin2, gMax2, gMax3, nodup1, List.nodup_nil, gEq_int, gEq_str, atI_0, atI_1, atI_2, atI_3, atI_4, atI_5, ixN_40, ixN_41, ixN_42, ixN_43, gMul, Nat.reduceAdd, Nat.reduceSub, Nat.zero_add, Option.isSome_some, true_and, and_true, Option.some.injEq, exists_and_left, exists_eq_left, exists_eq_left', id_eq, ite_true, ite_false, reduceIte, Bool.false_eq_true, decide_eq_true_eq, hat]
                cases e2 : btwD b 0 ((other.length : Int) - 1) with
                | false =>
                  try simp only [sSeq, sNext, sSet, sRet, sRetN, sIf, sAsg, sDrop, sPar, sBrk, sCnt, sFor, sStore, sAugI, sAug, dC, dVar, dTake, qVar, qE, aNil, aCons, dOp, dUn, dCallB, gets, Op.get, put, puts, dat_sh, dat_ow, dat_bw, dat_un, ty0, ty1, ty2, ty3, ty4, ty5, ty6, ty7, ty8, ty9, ty10, ty11, ty12, ty13, ty14, ty15, ty16, ty17, ty18, ty19, ty20, ty21, ty22, ty23, ty24, ty25, ty26, ty27, ty28, ty29, ty30, ty31, ty32, ty33, ty34, ty35, ty36, ty37, ty38, ty39, ty40, ty41, gIsi_non, gIsi_bl, gIsi_int, gIsi_str, gIsi_lst, gIsi_tup, gIsi_dct, gIsC, dMut0, mReverse, mPopAt, gEq_bl, gEq_strs, eq_self, Sl.cn, Sl.with, Cn.dat, Rv.dat, bOf, asB, bTr, gTruth, bAnd, bOr, bNot, dAnd, dOr, dNot, dIf, dChain, vNil, vCons, dTup, dLst, dDisp, psNil, psCons, keyed, D.key, gN, gT, gsNil, gsCons, rNil, rCons, srcE, srcR1, srcR2, srcR3, srcEnum, srcZip, srcC, srcV, itsOf, dLc, bYes, wipeD, agNil, agVal, agBor, mkArgs, bors, giveB, dCall, clean, dMut, slL, mAppend, mInsert, slC, cnSet, gAdd, gSubI, gDiv, gMod, gNeg, gCmpI, gIx, dSl, oNo, oE, gSl, dRev, dJoin, gAbs, gLen, gInt, gIsN, gList, Option.map_some, List.map_cons, List.map_nil, List.getElem?_cons_zero, List.getElem?_cons_succ, List.getElem?_nil, List.set_cons_zero, List.set_cons_succ, List.length_cons, List.length_nil, List.cons_append, List.nil_append, List.take_succ_cons, List.take_zero, List.replicate_succ, List.replicate_zero, gMin2, gMax2, gMax3, nodup1, List.nodup_nil, gEq_int, gEq_str, atI_0, atI_1, atI_2, atI_3, atI_4, atI_5, ixN_40, ixN_41, ixN_42, ixN_43, gMul, Nat.reduceAdd, Nat.reduceSub, Nat.zero_add, Option.isSome_some, true_and, and_true, Option.some.injEq, exists_and_left, exists_eq_left, exists_eq_left', id_eq, ite_true, ite_false, reduceIte, Bool.false_eq_true, decide_eq_true_eq, Bool.not_false]
                  exact hF (hbad fun z => by obtain ⟨i, j, rfl, rfl, q1, q2, _⟩ := link_btw z; rw [of_btw q2] at e2; cases e2)
                | true =>
                  try simp only [sSeq, sNext, sSet, sRet, sRetN, sIf, sAsg, sDrop, sPar, sBrk, sCnt, sFor, sStore, sAugI, sAug, dC, dVar, dTake, qVar, qE, aNil, aCons, dOp, dUn, dCallB, gets, Op.get, put, puts, dat_sh, dat_ow, dat_bw, dat_un, ty0, ty1, ty2, ty3, ty4, ty5, ty6, ty7, ty8, ty9, ty10, ty11, ty12, ty13, ty14, ty15, ty16, ty17, ty18, ty19, ty20, ty21, ty22, ty23, ty24, ty25, ty26, ty27, ty28, ty29, ty30, ty31, ty32, ty33, ty34, ty35, ty36, ty37, ty38, ty39, ty40, ty41, gIsi_non, gIsi_bl, gIsi_int, gIsi_str, gIsi_lst, gIsi_tup, gIsi_dct, gIsC, dMut0, mReverse, mPopAt, gEq_bl, gEq_strs, eq_self, Sl.cn, Sl.with, Cn.dat, Rv.dat, bOf, asB, bTr, gTruth, bAnd, bOr, bNot, dAnd, dOr, dNot, dIf, dChain, vNil, vCons, dTup, dLst, dDisp, psNil, psCons, keyed, D.key, gN, gT, gsNil, gsCons, rNil, rCons, srcE, srcR1, srcR2, srcR3, srcEnum, srcZip, srcC, srcV, itsOf, dLc, bYes, wipeD, agNil, agVal, agBor, mkArgs, bors, giveB, dCall, clean, dMut, slL, mAppend, mInsert, slC, cnSet, gAdd, gSubI, gDiv, gMod, gNeg, gCmpI, gIx, dSl, oNo, oE, gSl, dRev, dJoin, gAbs, gLen, gInt, gIsN, gList, Option.map_some, List.map_cons, List.map_nil, List.getElem?_cons_zero, List.getElem?_cons_succ, List.getElem?_nil, List.set_cons_zero, List.set_cons_succ, List.length_cons, List.length_nil, List.cons_append, List.nil_append, List.take_succ_cons, List.take_zero, List.replicate_succ, List.replicate_zero, gMin2, gMax2, gMax3, nodup1, List.nodup_nil, gEq_int, gEq_str, atI_0, atI_1, atI_2, atI_3, atI_4, atI_5, ixN_40, ixN_41, ixN_42, ixN_43, gMul, Nat.reduceAdd, Nat.reduceSub, Nat.zero_add, Option.isSome_some, true_and, and_true, Option.some.injEq, exists_and_left, exists_eq_left, exists_eq_left', id_eq, ite_true, ite_false, reduceIte, Bool.false_eq_true, decide_eq_true_eq, Bool.not_true]
                  obtain ⟨i1, rfl, h1⟩ := btw_of e1
                  obtain ⟨j1, rfl, h2⟩ := btw_of e2
                  exact hN3 _ ⟨⟨i1, j1, rfl, rfl, h1, h2⟩, rfl⟩
            · rintro ρ' ⟨⟨i1, j1, rfl, rfl, h1, h2⟩, rfl⟩
              refine sSeq_cut (fun ρ' => LinkD one other (.tup [.int i1, .int j1]) ∧ ρ' = [.sh (.lst (one.map D.str)), .sh (.lst (other.map D.str)), .bw 2 (.l l), .sh (.int K)]) (fun N3 hN3 => ?_) ?_
              · refine sIf_go fun T hT hF2 => ?_
                try simp only [sSeq, sNext, sSet, sRet, sRetN, sIf, sAsg, sDrop, sPar, sBrk, sCnt, sFor, sStore, sAugI, sAug, dC, dVar, dTake, qVar, qE, aNil, aCons, dOp, dUn, dCallB, gets, Op.get, put, puts, dat_sh, dat_ow, dat_bw, dat_un, ty0, ty1, ty2, ty3, ty4, ty5, ty6, ty7, ty8, ty9, ty10, ty11, ty12, ty13, ty14, ty15, ty16, ty17, ty18, ty19, ty20, ty21, ty22, ty23, ty24, ty25, ty26, ty27, ty28, ty29, ty30, ty31, ty32, ty33, ty34, ty35, ty36, ty37, ty38, ty39, ty40, ty41, gIsi_non, gIsi_bl, gIsi_int, gIsi_str, gIsi_lst, gIsi_tup, gIsi_dct, gIsC, dMut0, mReverse, mPopAt, gEq_bl, gEq_strs, eq_self, Sl.cn, Sl.with, Cn.dat, Rv.dat, bOf, asB, bTr, gTruth, bAnd, bOr, bNot, dAnd, dOr, dNot, dIf, dChain, vNil, vCons, dTup, dLst, dDisp, psNil, psCons, keyed, D.key, gN, gT, gsNil, gsCons, rNil, rCons, srcE, srcR1, srcR2, srcR3, srcEnum, srcZip, srcC, srcV, itsOf, dLc, bYes, wipeD, agNil, agVal, agBor, mkArgs, bors, giveB, dCall, clean, dMut, slL, mAppend, mInsert, slC, cnSet, gAdd, gSubI, gDiv, gMod, gNeg, gCmpI, gIx, dSl, oNo, oE, gSl, dRev, dJoin, gAbs, gLen, gInt, gIsN, gList, Option.map_some, List.map_cons, List.map_nil, List.getElem?_cons_zero, List.getElem?_cons_succ, List.getElem?_nil, List.set_cons_zero, List.set_cons_succ, List.length_cons, List.length_nil, List.cons_append, List.nil_append, List.take_succ_cons, List.take_zero, List.replicate_succ, List.replicate_zero, gMin2, gMax2, gMax3, nodup1, List.nodup_nil, gEq_int, gEq_str, atI_0, atI_1, atI_2, atI_3, atI_4, atI_5, ixN_40, ixN_41, ixN_42, ixN_43, gMul, Nat.reduceAdd, Nat.reduceSub, Nat.zero_add, Option.isSome_some, true_and, and_true, Option.some.injEq, exists_and_left, exists_eq_left, exists_eq_left', id_eq, ite_true, ite_false, reduceIte, Bool.false_eq_true, decide_eq_true_eq, hat]
                refine ⟨_, get_str i1 rfl h1, ?_⟩
                try simp only [sSeq, sNext, sSet, sRet, sRetN, sIf, sAsg, sDrop, sPar, sBrk, sCnt, sFor, sStore, sAugI, sAug, dC, dVar, dTake, qVar, qE, aNil, aCons, dOp, dUn, dCallB, gets, Op.get, put, puts, dat_sh, dat_ow, dat_bw, dat_un, ty0, ty1, ty2, ty3, ty4, ty5, ty6, ty7, ty8, ty9, ty10, ty11, ty12, ty13, ty14, ty15, ty16, ty17, ty18, ty19, ty20, ty21, ty22, ty23, ty24, ty25, ty26, ty27, ty28, ty29, ty30, ty31, ty32, ty33, ty34, ty35, ty36, ty37, ty38, ty39, ty40, ty41, gIsi_non, gIsi_bl, gIsi_int, gIsi_str, gIsi_lst, gIsi_tup, gIsi_dct, gIsC, dMut0, mReverse, mPopAt, gEq_bl, gEq_strs, eq_self, Sl.cn, Sl.with, Cn.dat, Rv.dat, bOf, asB, bTr, gTruth, bAnd, bOr, bNot, dAnd, dOr, dNot, dIf, dChain, vNil, vCons, dTup, dLst, dDisp, psNil, psCons, keyed, D.key, gN, gT, gsNil, gsCons, rNil, rCons, srcE, srcR1, srcR2, srcR3, srcEnum, srcZip, srcC, srcV, itsOf, dLc, bYes, wipeD, agNil, agVal, agBor, mkArgs, bors, giveB, dCall, clean, dMut, slL, mAppend, mInsert, slC, cnSet, gAdd, gSubI, gDiv, gMod, gNeg, gCmpI, gIx, dSl, oNo, oE, gSl, dRev, dJoin, gAbs, gLen, gInt, gIsN, gList, Option.map_some, List.map_cons, List.map_nil, List.getElem?_cons_zero, List.getElem?_cons_succ, List.getElem?_nil, List.set_cons_zero, List.set_cons_succ, List.length_cons, List.length_nil, List.cons_append, List.nil_append, List.take_succ_cons, List.take_zero, List.replicate_succ, List.replicate_zero, gMin2, gMax2, gMax3, nodup1, List.nodup_nil, gEq_int, gEq_str, atI_0, atI_1, atI_2, atI_3, atI_4, atI_5, ixN_40, ixN_41, ixN_42, ixN_43, gMul, Nat.reduceAdd, Nat.reduceSub, Nat.zero_add, Option.isSome_some, true_and, and_true, Option.some.injEq, exists_and_left, exists_eq_left, exists_eq_left', id_eq, ite_true, ite_false, reduceIte, Bool.false_eq_true, decide_eq_true_eq, hat]
                refine ⟨_, get_str j1 rfl h2, ?_⟩
                try simp only [sSeq, sNext, sSet, sRet, sRetN, sIf, sAsg, sDrop, sPar, sBrk, sCnt, sFor, sStore, sAugI, sAug, dC, dVar, dTake, qVar, qE, aNil, aCons, dOp, dUn, dCallB, gets, Op.get, put, puts, dat_sh, dat_ow, dat_bw, dat_un, ty0, ty1, ty2, ty3, ty4, ty5, ty6, ty7, ty8, ty9, ty10, ty11, ty12, ty13, ty14, ty15, ty16, ty17, ty18, ty19, ty20, ty21, ty22, ty23, ty24, ty25, ty26, ty27, ty28, ty29, ty30, ty31, ty32, ty33, ty34, ty35, ty36, ty37, ty38, ty39, ty40, ty41, gIsi_non, gIsi_bl, gIsi_int, gIsi_str, gIsi_lst, gIsi_tup, gIsi_dct, gIsC, dMut0, mReverse, mPopAt, gEq_bl, gEq_strs, eq_self, Sl.cn, Sl.with, Cn.dat, Rv.dat, bOf, asB, bTr, gTruth, bAnd, bOr, bNot, dAnd, dOr, dNot, dIf, dChain, vNil, vCons, dTup, dLst, dDisp, psNil, psCons, keyed, D.key, gN, gT, gsNil, gsCons, rNil, rCons, srcE, srcR1, srcR2, srcR3, srcEnum, srcZip, srcC, srcV, itsOf, dLc, bYes, wipeD, agNil, agVal, agBor, mkArgs, bors, giveB, dCall, clean, dMut, slL, mAppend, mInsert, slC, cnSet, gAdd, gSubI, gDiv, gMod, gNeg, gCmpI, gIx, dSl, oNo, oE, gSl, dRev, dJoin, gAbs, gLen, gInt, gIsN, gList, Option.map_some, List.map_cons, List.map_nil, List.getElem?_cons_zero, List.getElem?_cons_succ, List.getElem?_nil, List.set_cons_zero, List.set_cons_succ, List.length_cons, List.length_nil, List.cons_append, List.nil_append, List.take_succ_cons, List.take_zero, List.replicate_succ, List.replicate_zero, gMin2, gMax2, gMax3, nodup1, List.nodup_nil, gEq_int, gEq_str, atI_0, atI_1, atI_2, atI_3, atI_4, atI_5, ixN_40, ixN_41, ixN_42, ixN_43, gMul, Nat.reduceAdd, Nat.reduceSub, Nat.zero_add, Option.isSome_some, true_and, and_true, Option.some.injEq, exists_and_left, exists_eq_left, exists_eq_left', id_eq, ite_true, ite_false, reduceIte, Bool.false_eq_true, decide_eq_true_eq]
                by_cases e : one[i1] = other[j1]
                · simp only [e, decide_true, Bool.not_true]
                  refine hF2 _ ?_
                  exact hN3 _ ⟨⟨i1, j1, rfl, _, List.getElem?_eq_getElem h1, by rw [List.getElem?_eq_getElem h2, e]⟩, rfl⟩
                · simp only [e, decide_false, Bool.not_false]
                  refine hT _ ?_
                  try simp only [sSeq, sNext, sSet, sRet, sRetN, sIf, sAsg, sDrop, sPar, sBrk, sCnt, sFor, sStore, sAugI, sAug, dC, dVar, dTake, qVar, qE, aNil, aCons, dOp, dUn, dCallB, gets, Op.get, put, puts, dat_sh, dat_ow, dat_bw, dat_un, ty0, ty1, ty2, ty3, ty4, ty5, ty6, ty7, ty8, ty9, ty10, ty11, ty12, ty13, ty14, ty15, ty16, ty17, ty18, ty19, ty20, ty21, ty22, ty23, ty24, ty25, ty26, ty27, ty28, ty29, ty30, ty31, ty32, ty33, ty34, ty35, ty36, ty37, ty38, ty39, ty40, ty41, gIsi_non, gIsi_bl, gIsi_int, gIsi_str, gIsi_lst, gIsi_tup, gIsi_dct, gIsC, dMut0, mReverse, mPopAt, gEq_bl, gEq_strs, eq_self, Sl.cn, Sl.with, Cn.dat, Rv.dat, bOf, asB, bTr, gTruth, bAnd, bOr, bNot, dAnd, dOr, dNot, dIf, dChain, vNil, vCons, dTup, dLst, dDisp, psNil, psCons, keyed, D.key, gN, gT, gsNil, gsCons, rNil, rCons, srcE, srcR1, srcR2, srcR3, srcEnum, srcZip, srcC, srcV, itsOf, dLc, bYes, wipeD, agNil, agVal, agBor, mkArgs, bors, giveB, dCall, clean, dMut, slL, mAppend, mInsert, slC, cnSet, gAdd, gSubI, gDiv, gMod, gNeg, gCmpI, gIx, dSl, oNo, oE, gSl, dRev, dJoin, gAbs, gLen, gInt, gIsN, gList, Option.map_some, List.map_cons, List.map_nil, List.getElem?_cons_zero, List.getElem?_cons_succ, List.getElem?_nil, List.set_cons_zero, List.set_cons_succ, List.length_cons, List.length_nil, List.cons_append, List.nil_append, List.take_succ_cons, List.take_zero, List.replicate_succ, List.replicate_zero, gMin2, gMax2, gMax3, nodup1, List.nodup_nil, gEq_int, gEq_str, atI_0, atI_1, atI_2, atI_3, atI_4, atI_5, ixN_40, ixN_41, ixN_42, ixN_43, gMul, Nat.reduceAdd, Nat.reduceSub, Nat.zero_add, Option.isSome_some, true_and, and_true, Option.some.injEq, exists_and_left, exists_eq_left, exists_eq_left', id_eq, ite_true, ite_false, reduceIte, Bool.false_eq_true, decide_eq_true_eq]
                  refine hF (hbad fun z => ?_)
                  obtain ⟨i', j', z1, z2, _, _, z3⟩ := link_btw z
                  simp only [D.int.injEq] at z1 z2
                  have g1 : i1 = i' := by omega
                  have g2 : j1 = j' := by omega
                  subst g1 g2
                  rw [List.getElem?_eq_getElem h1, List.getElem?_eq_getElem h2] at z3
                  exact e (Option.some.inj z3)
              · rintro ρ' ⟨hlk, rfl⟩
                by_cases hK0 : (0 : Int) < K
                · have hp : i - 1 < l.length := by omega
                  have hx0 := List.getElem?_eq_getElem hp
                  generalize l[i - 1] = y at hx0
                  obtain ⟨i0, j0, rfl, hy⟩ := ha (i - 1) y (by omega) hx0
                  have hat0 : atI l (K - 1) = some (.tup [.int i0, .int j0]) := at_nat (i - 1) (by omega) hx0
                  have hbad2 : ¬ ((i0 : Int) < i1 ∧ (j0 : Int) < j1) → ¬ GoodL one other l := by
                    rintro q ⟨_, _, g⟩
                    exact q (g (i - 1) _ _ hx0 (by rw [show i - 1 + 1 = i by omega]; exact hx) _ _ _ _ rfl rfl)
                  refine sSeq_cut (fun ρ' => (i0 : Int) < i1 ∧ ρ' = [.sh (.lst (one.map D.str)), .sh (.lst (other.map D.str)), .bw 2 (.l l), .sh (.int K)]) (fun N3 hN3 => ?_) ?_
                  · refine sIf_go fun T hT hF2 => ?_
                    try simp only [sSeq, sNext, sSet, sRet, sRetN, sIf, sAsg, sDrop, sPar, sBrk, sCnt, sFor, sStore, sAugI, sAug, dC, dVar, dTake, qVar, qE, aNil, aCons, dOp, dUn, dCallB, gets, Op.get, put, puts, dat_sh, dat_ow, dat_bw, dat_un, ty0, ty1, ty2, ty3, ty4, ty5, ty6, ty7, ty8, ty9, ty10, ty11, ty12, ty13, ty14, ty15, ty16, ty17, ty18, ty19, ty20, ty21, ty22, ty23, ty24, ty25, ty26, ty27, ty28, ty29, ty30, ty31, ty32, ty33, ty34, ty35, ty36, ty37, ty38, ty39, ty40, ty41, gIsi_non, gIsi_bl, gIsi_int, gIsi_str, gIsi_lst, gIsi_tup, gIsi_dct, gIsC, dMut0, mReverse, mPopAt, gEq_bl, gEq_strs, eq_self, Sl.cn, Sl.with, Cn.dat, Rv.dat, bOf, asB, bTr, gTruth, bAnd, bOr, bNot, dAnd, dOr, dNot, dIf, dChain, vNil, vCons, dTup, dLst, dDisp, psNil, psCons, keyed, D.key, gN, gT, gsNil, gsCons, rNil, rCons, srcE, srcR1, srcR2, srcR3, srcEnum, srcZip, srcC, srcV, itsOf, dLc, bYes, wipeD, agNil, agVal, agBor, mkArgs, bors, giveB, dCall, clean, dMut, slL, mAppend, mInsert, slC, cnSet, gAdd, gSubI, gDiv, gMod, gNeg, gCmpI, gIx, dSl, oNo, oE, gSl, dRev, dJoin, gAbs, gLen, gInt, gIsN, gList, Option.map_some, List.map_cons, List.map_nil, List.getElem?_cons_zero, List.getElem?_cons_succ, List.getElem?_nil, List.set_cons_zero, List.set_cons_succ, List.length_cons, List.length_nil, List.cons_append, List.nil_append, List.take_succ_cons, List.take_zero, List.replicate_succ, List.replicate_zero, gMin2, gMax2, gMax3, nodup1, List.nodup_nil, gEq_int, gEq_str, atI_0, atI_1, atI_2, atI_3, atI_4, atI_5, ixN_40, ixN_41, ixN_42, ixN_43, gMul, Nat.reduceAdd, Nat.reduceSub, Nat.zero_add, Option.isSome_some, true_and, and_true, Option.some.injEq, exists_and_left, exists_eq_left, exists_eq_left', id_eq, ite_true, ite_false, reduceIte, Bool.false_eq_true, decide_eq_true_eq, hat, hat0, hK0]
                    by_cases q : (i1 : Int) ≤ i0
                    · simp only [q, decide_true]
                      refine hT _ ?_
                      try simp only [sSeq, sNext, sSet, sRet, sRetN, sIf, sAsg, sDrop, sPar, sBrk, sCnt, sFor, sStore, sAugI, sAug, dC, dVar, dTake, qVar, qE, aNil, aCons, dOp, dUn, dCallB, gets, Op.get, put, puts, dat_sh, dat_ow, dat_bw, dat_un, ty0, ty1, ty2, ty3, ty4, ty5, ty6, ty7, ty8, ty9, ty10, ty11, ty12, ty13, ty14, ty15, ty16, ty17, ty18, ty19, ty20, ty21, ty22, ty23, ty24, ty25, ty26, ty27, ty28, ty29, ty30, ty31, ty32, ty33, ty34, ty35, ty36, ty37, ty38, ty39, ty40, ty41, gIsi_non, gIsi_bl, gIsi_int, gIsi_str, gIsi_lst, gIsi_tup, gIsi_dct, gIsC, dMut0, mReverse, mPopAt, gEq_bl, gEq_strs, eq_self, Sl.cn, Sl.with, Cn.dat, Rv.dat, bOf, asB, bTr, gTruth, bAnd, bOr, bNot, dAnd, dOr, dNot, dIf, dChain, vNil, vCons, dTup, dLst, dDisp, psNil, psCons, keyed, D.key, gN, gT, gsNil, gsCons, rNil, rCons, srcE, srcR1, srcR2, srcR3, srcEnum, srcZip, srcC, srcV, itsOf, dLc, bYes, wipeD, agNil, agVal, agBor, mkArgs, bors, giveB, dCall, clean, dMut, slL, mAppend, mInsert, slC, cnSet, gAdd, gSubI, gDiv, gMod, gNeg, gCmpI, gIx, dSl, oNo, oE, gSl, dRev, dJoin, gAbs, gLen, gInt, gIsN, gList, Option.map_some, List.map_cons, List.map_nil, List.getElem?_cons_zero, List.getElem?_cons_succ, List.getElem?_nil, List.set_cons_zero, List.set_cons_succ, List.length_cons, List.length_nil, List.cons_append, List.nil_append, List.take_succ_cons, List.take_zero, List.replicate_succ, List.replicate_zero, gMin2, gMax2, gMax3, nodup1, List.nodup_nil, gEq_int, gEq_str, atI_0, atI_1, atI_2, atI_3, atI_4, atI_5, ixN_40, ixN_41, ixN_42, ixN_43, gMul, Nat.reduceAdd, Nat.reduceSub, Nat.zero_add, Option.isSome_some, true_and, and_true, Option.some.injEq, exists_and_left, exists_eq_left, exists_eq_left', id_eq, ite_true, ite_false, reduceIte, Bool.false_eq_true, decide_eq_true_eq]
                      exact hF (hbad2 (by omega))
                    · simp only [q, decide_false]
                      refine hF2 _ ?_
                      exact hN3 _ ⟨by omega, rfl⟩
                  · rintro ρ' ⟨q1, rfl⟩
                    refine sIf_go fun T hT hF2 => ?_
                    try simp only [sSeq, sNext, sSet, sRet, sRetN, sIf, sAsg, sDrop, sPar, sBrk, sCnt, sFor, sStore, sAugI, sAug, dC, dVar, dTake, qVar, qE, aNil, aCons, dOp, dUn, dCallB, gets, Op.get, put, puts, dat_sh, dat_ow, dat_bw, dat_un, ty0, ty1, ty2, ty3, ty4, ty5, ty6, ty7, ty8, ty9, ty10, ty11, ty12, ty13, ty14, ty15, ty16, ty17, ty18, ty19, ty20, ty21, ty22, ty23, ty24, ty25, ty26, ty27, ty28, ty29, ty30, ty31, ty32, ty33, ty34, ty35, ty36, ty37, ty38, ty39, ty40, ty41, gIsi_non, gIsi_bl, gIsi_int, gIsi_str, gIsi_lst, gIsi_tup, gIsi_dct, gIsC, dMut0, mReverse, mPopAt, gEq_bl, gEq_strs, eq_self, Sl.cn, Sl.with, Cn.dat, Rv.dat, bOf, asB, bTr, gTruth, bAnd, bOr, bNot, dAnd, dOr, dNot, dIf, dChain, vNil, vCons, dTup, dLst, dDisp, psNil, psCons, keyed, D.key, gN, gT, gsNil, gsCons, rNil, rCons, srcE, srcR1, srcR2, srcR3, srcEnum, srcZip, srcC, srcV, itsOf, dLc, bYes, wipeD, agNil, agVal, agBor, mkArgs, bors, giveB, dCall, clean, dMut, slL, mAppend, mInsert, slC, cnSet, gAdd, gSubI, gDiv, gMod, gNeg, gCmpI, gIx, dSl, oNo, oE, gSl, dRev, dJoin, gAbs, gLen, gInt, gIsN, gList, Option.map_some, List.map_cons, List.map_nil, List.getElem?_cons_zero, List.getElem?_cons_succ, List.getElem?_nil, List.set_cons_zero, List.set_cons_succ, List.length_cons, List.length_nil, List.cons_append, List.nil_append, List.take_succ_cons, List.take_zero, List.replicate_succ, List.replicate_zero, gMin2, gMax2, gMax3, nodup1, List.nodup_nil, gEq_int, gEq_str, atI_0, atI_1, atI_2, atI_3, atI_4, atI_5, ixN_40, ixN_41, ixN_42, ixN_43, gMul, Nat.reduceAdd, Nat.reduceSub, Nat.zero_add, Option.isSome_some, true_and, and_true, Option.some.injEq, exists_and_left, exists_eq_left, exists_eq_left', id_eq, ite_true, ite_false, reduceIte, Bool.false_eq_true, decide_eq_true_eq, hat, hat0, hK0]
                    by_cases q : (j1 : Int) ≤ j0
                    · simp only [q, decide_true]
                      refine hT _ ?_
                      try simp only [sSeq, sNext, sSet, sRet, sRetN, sIf, sAsg, sDrop, sPar, sBrk, sCnt, sFor, sStore, sAugI, sAug, dC, dVar, dTake, qVar, qE, aNil, aCons, dOp, dUn, dCallB, gets, Op.get, put, puts, dat_sh, dat_ow, dat_bw, dat_un, ty0, ty1, ty2, ty3, ty4, ty5, ty6, ty7, ty8, ty9, ty10, ty11, ty12, ty13, ty14, ty15, ty16, ty17, ty18, ty19, ty20, ty21, ty22, ty23, ty24, ty25, ty26, ty27, ty28, ty29, ty30, ty31, ty32, ty33, ty34, ty35, ty36, ty37, ty38, ty39, ty40, ty41, gIsi_non, gIsi_bl, gIsi_int, gIsi_str, gIsi_lst, gIsi_tup, gIsi_dct, gIsC, dMut0, mReverse, mPopAt, gEq_bl, gEq_strs, eq_self, Sl.cn, Sl.with, Cn.dat, Rv.dat, bOf, asB, bTr, gTruth, bAnd, bOr, bNot, dAnd, dOr, dNot, dIf, dChain, vNil, vCons, dTup, dLst, dDisp, psNil, psCons, keyed, D.key, gN, gT, gsNil, gsCons, rNil, rCons, srcE, srcR1, srcR2, srcR3, srcEnum, srcZip, srcC, srcV, itsOf, dLc, bYes, wipeD, agNil, agVal, agBor, mkArgs, bors, giveB, dCall, clean, dMut, slL, mAppend, mInsert, slC, cnSet, gAdd, gSubI, gDiv, gMod, gNeg, gCmpI, gIx, dSl, oNo, oE, gSl, dRev, dJoin, gAbs, gLen, gInt, gIsN, gList, Option.map_some, List.map_cons, List.map_nil, List.getElem?_cons_zero, List.getElem?_cons_succ, List.getElem?_nil, List.set_cons_zero, List.set_cons_succ, List.length_cons, List.length_nil, List.cons_append, List.nil_append, List.take_succ_cons, List.take_zero, List.replicate_succ, List.replicate_zero, gMin2, gMax2, gMax3, nodup1, List.nodup_nil, gEq_int, gEq_str, atI_0, atI_1, atI_2, atI_3, atI_4, atI_5, ixN_40, ixN_41, ixN_42, ixN_43, gMul, Nat.reduceAdd, Nat.reduceSub, Nat.zero_add, Option.isSome_some, true_and, and_true, Option.some.injEq, exists_and_left, exists_eq_left, exists_eq_left', id_eq, ite_true, ite_false, reduceIte, Bool.false_eq_true, decide_eq_true_eq]
                      exact hF (hbad2 (by omega))
                    · simp only [q, decide_false]
                      refine hF2 _ ?_
                      refine hN2 _ ⟨fun k d hk hd => ?_, fun k d e hk h3 h4 => ?_, _, rfl⟩
                      · by_cases z : k = i
                        · subst z; rw [hx] at hd; cases hd; exact hlk
                        · exact ha k d (by omega) hd
                      · by_cases z : k + 1 = i
                        · subst z
                          rw [hx] at h4
                          rw [Nat.add_sub_cancel] at hx0
                          rw [hx0] at h3
                          cases h3; cases h4
                          intro a b c d z1 z2
                          simp only [D.tup.injEq, List.cons.injEq, D.int.injEq] at z1 z2
                          omega
                        · exact hb k d e (by omega) h3 h4
                · have i0 : i = 0 := by omega
                  subst i0
                  refine sSeq_go fun N3 hN3 => ?_
                  try simp only [sSeq, sNext, sSet, sRet, sRetN, sIf, sAsg, sDrop, sPar, sBrk, sCnt, sFor, sStore, sAugI, sAug, dC, dVar, dTake, qVar, qE, aNil, aCons, dOp, dUn, dCallB, gets, Op.get, put, puts, dat_sh, dat_ow, dat_bw, dat_un, ty0, ty1, ty2, ty3, ty4, ty5, ty6, ty7, ty8, ty9, ty10, ty11, ty12, ty13, ty14, ty15, ty16, ty17, ty18, ty19, ty20, ty21, ty22, ty23, ty24, ty25, ty26, ty27, ty28, ty29, ty30, ty31, ty32, ty33, ty34, ty35, ty36, ty37, ty38, ty39, ty40, ty41, gIsi_non, gIsi_bl, gIsi_int, gIsi_str, gIsi_lst, gIsi_tup, gIsi_dct, gIsC, dMut0, mReverse, mPopAt, gEq_bl, gEq_strs, eq_self, Sl.cn, Sl.with, Cn.dat, Rv.dat, bOf, asB, bTr, gTruth, bAnd, bOr, bNot, dAnd, dOr, dNot, dIf, dChain, vNil, vCons, dTup, dLst, dDisp, psNil, psCons, keyed, D.key, gN, gT, gsNil, gsCons, rNil, rCons, srcE, srcR1, srcR2, srcR3, srcEnum, srcZip, srcC, srcV, itsOf, dLc, bYes, wipeD, agNil, agVal, agBor, mkArgs, bors, giveB, dCall, clean, dMut, slL, mAppend, mInsert, slC, cnSet, gAdd, gSubI, gDiv, gMod, gNeg, gCmpI, gIx, dSl, oNo, oE, gSl, dRev, dJoin, gAbs, gLen, gInt, gIsN, gList, Option.map_some, List.map_cons, List.map_nil, List.getElem?_cons_zero, List.getElem?_cons_succ, List.getElem?_nil, List.set_cons_zero, List.set_cons_succ, List.length_cons, List.length_nil, List.cons_append, List.nil_append, List.take_succ_cons, List.take_zero, List.replicate_succ, List.replicate_zero, gMin2, gMax2, gMax3, nodup1, List.nodup_nil, gEq_int, gEq_str, atI_0, atI_1, atI_2, atI_3, atI_4, atI_5, ixN_40, ixN_41, ixN_42, ixN_43, gMul, Nat.reduceAdd, Nat.reduceSub, Nat.zero_add, Option.isSome_some, true_and, and_true, Option.some.injEq, exists_and_left, exists_eq_left, exists_eq_left', id_eq, ite_true, ite_false, reduceIte, Bool.false_eq_true, decide_eq_true_eq, hK0, decide_false]
                  refine hN3 _ ?_
                  try simp only [sSeq, sNext, sSet, sRet, sRetN, sIf, sAsg, sDrop, sPar, sBrk, sCnt, sFor, sStore, sAugI, sAug, dC, dVar, dTake, qVar, qE, aNil, aCons, dOp, dUn, dCallB, gets, Op.get, put, puts, dat_sh, dat_ow, dat_bw, dat_un, ty0, ty1, ty2, ty3, ty4, ty5, ty6, ty7, ty8, ty9, ty10, ty11, ty12, ty13, ty14, ty15, ty16, ty17, ty18, ty19, ty20, ty21, ty22, ty23, ty24, ty25, ty26, ty27, ty28, ty29, ty30, ty31, ty32, ty33, ty34, ty35, ty36, ty37, ty38, ty39, ty40, ty41, gIsi_non, gIsi_bl, gIsi_int, gIsi_str, gIsi_lst, gIsi_tup, gIsi_dct, gIsC, dMut0, mReverse, mPopAt, gEq_bl, gEq_strs, eq_self, Sl.cn, Sl.with, Cn.dat, Rv.dat, bOf, asB, bTr, gTruth, bAnd, bOr, bNot, dAnd, dOr, dNot, dIf, dChain, vNil, vCons, dTup, dLst, dDisp, psNil, psCons, keyed, D.key, gN, gT, gsNil, gsCons, rNil, rCons, srcE, srcR1, srcR2, srcR3, srcEnum, srcZip, srcC, srcV, itsOf, dLc, bYes, wipeD, agNil, agVal, agBor, mkArgs, bors, giveB, dCall, clean, dMut, slL, mAppend, mInsert, slC, cnSet, gAdd, gSubI, gDiv, gMod, gNeg, gCmpI, gIx, dSl, oNo, oE, gSl, dRev, dJoin, gAbs, gLen, gInt, gIsN, gList, Option.map_some, List.map_cons, List.map_nil, List.getElem?_cons_zero, List.getElem?_cons_succ, List.getElem?_nil, List.set_cons_zero, List.set_cons_succ, List.length_cons, List.length_nil, List.cons_append, List.nil_append, List.take_succ_cons, List.take_zero, List.replicate_succ, List.replicate_zero, gMin2, gMax2, gMax3, nodup1, List.nodup_nil, gEq_int, gEq_str, atI_0, atI_1, atI_2, atI_3, atI_4, atI_5, ixN_40, ixN_41, ixN_42, ixN_43, gMul, Nat.reduceAdd, Nat.reduceSub, Nat.zero_add, Option.isSome_some, true_and, and_true, Option.some.injEq, exists_and_left, exists_eq_left, exists_eq_left', id_eq, ite_true, ite_false, reduceIte, Bool.false_eq_true, decide_eq_true_eq, hK0, decide_false]
                  refine hN2 _ ⟨fun k d hk hd => ?_, fun k d e hk h3 h4 => by omega, _, rfl⟩
                  have : k = 0 := by omega
                  subst this
                  rw [hx] at hd; cases hd; exact hlk
      · rintro ρ' ⟨hg, s3, rfl⟩
        try simp only [sSeq, sNext, sSet, sRet, sRetN, sIf, sAsg, sDrop, sPar, sBrk, sCnt, sFor, sStore, sAugI, sAug, dC, dVar, dTake, qVar, qE, aNil, aCons, dOp, dUn, dCallB, gets, Op.get, put, puts, dat_sh, dat_ow, dat_bw, dat_un, ty0, ty1, ty2, ty3, ty4, ty5, ty6, ty7, ty8, ty9, ty10, ty11, ty12, ty13, ty14, ty15, ty16, ty17, ty18, ty19, ty20, ty21, ty22, ty23, ty24, ty25, ty26, ty27, ty28, ty29, ty30, ty31, ty32, ty33, ty34, ty35, ty36, ty37, ty38, ty39, ty40, ty41, gIsi_non, gIsi_bl, gIsi_int, gIsi_str, gIsi_lst, gIsi_tup, gIsi_dct, gIsC, dMut0, mReverse, mPopAt, gEq_bl, gEq_strs, eq_self, Sl.cn, Sl.with, Cn.dat, Rv.dat, bOf, asB, bTr, gTruth, bAnd, bOr, bNot, dAnd, dOr, dNot, dIf, dChain, vNil, vCons, dTup, dLst, dDisp, psNil, psCons, keyed, D.key, gN, gT, gsNil, gsCons, rNil, rCons, srcE, srcR1, srcR2, srcR3, srcEnum, srcZip, srcC, srcV, itsOf, dLc, bYes, wipeD, agNil, agVal, agBor, mkArgs, bors, giveB, dCall, clean, dMut, slL, mAppend, mInsert, slC, cnSet, gAdd, gSubI, gDiv, gMod, gNeg, gCmpI, gIx, dSl, oNo, oE, gSl, dRev, dJoin, gAbs, gLen, gInt, gIsN, gList, Option.map_some, List.map_cons, List.map_nil, List.getElem?_cons_zero, List.getElem?_cons_succ, List.getElem?_nil, List.set_cons_zero, List.set_cons_succ, List.length_cons, List.length_nil, List.cons_append, List.nil_append, List.take_succ_cons, List.take_zero, List.replicate_succ, List.replicate_zero, gMin2, gMax2, gMax3, nodup1, List.nodup_nil, gEq_int, gEq_str, atI_0, atI_1, atI_2, atI_3, atI_4, atI_5, ixN_40, ixN_41, ixN_42, ixN_43, gMul, Nat.reduceAdd, Nat.reduceSub, Nat.zero_add, Option.isSome_some, true_and, and_true, Option.some.injEq, exists_and_left, exists_eq_left, exists_eq_left', id_eq, ite_true, ite_false, reduceIte, Bool.false_eq_true, decide_eq_true_eq]
        exact h true ⟨fun _ => hg, fun _ => rfl⟩
def sp_is_integer : SpD := fun as Q => ∃ d : D, as = [.sh d] ∧ d.ty.isSome = true ∧ Q (.v (.bl (isIntD d))) [.un]
theorem len_is_integer {as : SL} {Q : Rv → SL → Prop} (h : sp_is_integer as Q) : as.length = 1 := by
  obtain ⟨_, rfl, _⟩ := h
  rfl
theorem ok_is_integer {f : Addr} {fd : FuncData} (Fn : Fun K "is_integer" "is_integer" s_is_integer f fd) (z_isinstance : mg "isinstance" = none) (z_bool : mg "bool" = none) (z_int : mg "int" = none) : FnG P w K mg base CX0 1 f fd ["thing"] (lift K sp_is_integer) := by
  have nd := sc_is_integer.nd
  refine fnD Fn sc_is_integer (fun as Q h => ?len) (fun cdv A outer s H hgd hr => ⟨_, _,
    (dss_one (ds_ret (de_and (de_isi (T := "int") (by rfl) z_isinstance (do_var (pv 0)) (by rfl) z_int (by decide +kernel) (by decide)) (de_one (de_not (de_isi (T := "bool") (by rfl) z_isinstance (do_var (pv 0)) (by rfl) z_bool (by decide +kernel) (by decide))))))), fun as Q h => ?_⟩)
  case len => exact len_is_integer h
  · obtain ⟨d, rfl, hd, h⟩ := h
    cases d <;> first | (cases hd; done) | (simp only [sSeq, sNext, sSet, sRet, sRetN, sIf, sAsg, sDrop, sPar, sBrk, sCnt, sFor, sStore, sAugI, sAug, dC, dVar, dTake, qVar, qE, aNil, aCons, dOp, dUn, dCallB, gets, Op.get, put, puts, dat_sh, dat_ow, dat_bw, dat_un, ty0, ty1, ty2, ty3, ty4, ty5, ty6, ty7, ty8, ty9, ty10, ty11, ty12, ty13, ty14, ty15, ty16, ty17, ty18, ty19, ty20, ty21, ty22, ty23, ty24, ty25, ty26, ty27, ty28, ty29, ty30, ty31, ty32, ty33, ty34, ty35, ty36, ty37, ty38, ty39, ty40, ty41, gIsi_non, gIsi_bl, gIsi_int, gIsi_str, gIsi_lst, gIsi_tup, gIsi_dct, gIsC, dMut0, mReverse, mPopAt, gEq_bl, gEq_strs, eq_self, Sl.cn, Sl.with, Cn.dat, Rv.dat, bOf, asB, bTr, gTruth, bAnd, bOr, bNot, dAnd, dOr, dNot, dIf, dChain, vNil, vCons, dTup, dLst, dDisp, psNil, psCons, keyed, D.key, gN, gT, gsNil, gsCons, rNil, rCons, srcE, srcR1, srcR2, srcR3, srcEnum, srcZip, srcC, srcV, itsOf, dLc, bYes, wipeD, agNil, agVal, agBor, mkArgs, bors, giveB, dCall, clean, dMut, slL, mAppend, mInsert, slC, cnSet, gAdd, gSubI, gDiv, gMod, gNeg, gCmpI, gIx, dSl, oNo, oE, gSl, dRev, dJoin, gAbs, gLen, gInt, gIsN, gList, Option.map_some, List.map_cons, List.map_nil, List.getElem?_cons_zero, List.getElem?_cons_succ, List.getElem?_nil, List.set_cons_zero, List.set_cons_succ, List.length_cons, List.length_nil, List.cons_append, List.nil_append, List.take_succ_cons, List.take_zero, List.replicate_succ, List.replicate_zero, gMin2, gMax2, gMax3, nodup1, List.nodup_nil, gEq_int, gEq_str, atI_0, atI_1, atI_2, atI_3, atI_4, atI_5, ixN_40, ixN_41, ixN_42, ixN_43, gMul, Nat.reduceAdd, Nat.reduceSub, Nat.zero_add, Option.isSome_some, true_and, and_true, Option.some.injEq, exists_and_left, exists_eq_left, exists_eq_left', id_eq, ite_true, ite_false, reduceIte, Bool.false_eq_true, decide_eq_true_eq, Bool.not_true, Bool.not_false]; exact h)
def sp_is_between : SpD := fun as Q => ∃ (d : D) (lo hi : Int), as = [.sh d, .sh (.int lo), .sh (.int hi)] ∧ d.ty.isSome = true ∧ Q (.v (.bl (btwD d lo hi))) [.un, .un, .un]
theorem len_is_between {as : SL} {Q : Rv → SL → Prop} (h : sp_is_between as Q) : as.length = 3 := by
  obtain ⟨_, _, _, rfl, _⟩ := h
  rfl
theorem ok_is_between {f : Addr} {fd : FuncData} (Fn : Fun K "is_between" "is_between" s_is_between f fd) {a_is_integer : Addr} {d_is_integer : FuncData} (f_is_integer : Cal P w K mg base 1 "is_integer" a_is_integer d_is_integer ["thing"] sp_is_integer) : FnG P w K mg base CX0 2 f fd ["thing", "least", "greatest"] (lift K sp_is_between) := by
  have nd := sc_is_between.nd
  refine fnD Fn sc_is_between (fun as Q h => ?len) (fun cdv A outer s H hgd hr => ⟨_, _,
    (dss_one (ds_ret (de_and (de_call f_is_integer.ok hgd (hr.mono (by decide)) (by rfl) f_is_integer.g f_is_integer.kp f_is_integer.b pass0 (dag_val (de_var (pv 0)) dag_nil)) (de_one (de_chain op_le op_le sem_le sem_le (do_var (pv 1)) (do_var (pv 0)) (do_var (pv 2))))))), fun as Q h => ?_⟩)
  case len => exact len_is_between h
  · obtain ⟨d, lo, hi, rfl, hd, h⟩ := h
    simp only [sSeq, sNext, sSet, sRet, sRetN, sIf, sAsg, sDrop, sPar, sBrk, sCnt, sFor, sStore, sAugI, sAug, dC, dVar, dTake, qVar, qE, aNil, aCons, dOp, dUn, dCallB, gets, Op.get, put, puts, dat_sh, dat_ow, dat_bw, dat_un, ty0, ty1, ty2, ty3, ty4, ty5, ty6, ty7, ty8, ty9, ty10, ty11, ty12, ty13, ty14, ty15, ty16, ty17, ty18, ty19, ty20, ty21, ty22, ty23, ty24, ty25, ty26, ty27, ty28, ty29, ty30, ty31, ty32, ty33, ty34, ty35, ty36, ty37, ty38, ty39, ty40, ty41, gIsi_non, gIsi_bl, gIsi_int, gIsi_str, gIsi_lst, gIsi_tup, gIsi_dct, gIsC, dMut0, mReverse, mPopAt, gEq_bl, gEq_strs, eq_self, Sl.cn, Sl.with, Cn.dat, Rv.dat, bOf, asB, bTr, gTruth, bAnd, bOr, bNot, dAnd, dOr, dNot, dIf, dChain, vNil, vCons, dTup, dLst, dDisp, psNil, psCons, keyed, D.key, gN, gT, gsNil, gsCons, rNil, rCons, srcE, srcR1, srcR2, srcR3, srcEnum, srcZip, srcC, srcV, itsOf, dLc, bYes, wipeD, agNil, agVal, agBor, mkArgs, bors, giveB, dCall, clean, dMut, slL, mAppend, mInsert, slC, cnSet, gAdd, gSubI, gDiv, gMod, gNeg, gCmpI, gIx, dSl, oNo, oE, gSl, dRev, dJoin, gAbs, gLen, gInt, gIsN, gList, Option.map_some, List.map_cons, List.map_nil, List.getElem?_cons_zero, List.getElem?_cons_succ, List.getElem?_nil, List.set_cons_zero, List.set_cons_succ, List.length_cons, List.length_nil, List.cons_append, List.nil_append, List.take_succ_cons, List.take_zero, List.replicate_succ, List.replicate_zero, gMin2, gMax2, gMax3, nodup1, List.nodup_nil, gEq_int, gEq_str, atI_0, atI_1, atI_2, atI_3, atI_4, atI_5, ixN_40, ixN_41, ixN_42, ixN_43, gMul, Nat.reduceAdd, Nat.reduceSub, Nat.zero_add, Option.isSome_some, true_and, and_true, Option.some.injEq, exists_and_left, exists_eq_left, exists_eq_left', id_eq, ite_true, ite_false, reduceIte, Bool.false_eq_true, decide_eq_true_eq]
    refine ⟨d, rfl, hd, ?_⟩
    cases d with
    | int i =>
      simp only [sSeq, sNext, sSet, sRet, sRetN, sIf, sAsg, sDrop, sPar, sBrk, sCnt, sFor, sStore, sAugI, sAug, dC, dVar, dTake, qVar, qE, aNil, aCons, dOp, dUn, dCallB, gets, Op.get, put, puts, dat_sh, dat_ow, dat_bw, dat_un, ty0, ty1, ty2, ty3, ty4, ty5, ty6, ty7, ty8, ty9, ty10, ty11, ty12, ty13, ty14, ty15, ty16, ty17, ty18, ty19, ty20, ty21, ty22, ty23, ty24, ty25, ty26, ty27, ty28, ty29, ty30, ty31, ty32, ty33, ty34, ty35, ty36, ty37, ty38, ty39, ty40, ty41, gIsi_non, gIsi_bl, gIsi_int, gIsi_str, gIsi_lst, gIsi_tup, gIsi_dct, gIsC, dMut0, mReverse, mPopAt, gEq_bl, gEq_strs, eq_self, Sl.cn, Sl.with, Cn.dat, Rv.dat, bOf, asB, bTr, gTruth, bAnd, bOr, bNot, dAnd, dOr, dNot, dIf, dChain, vNil, vCons, dTup, dLst, dDisp, psNil, psCons, keyed, D.key, gN, gT, gsNil, gsCons, rNil, rCons, srcE, srcR1, srcR2, srcR3, srcEnum, srcZip, srcC, srcV, itsOf, dLc, bYes, wipeD, agNil, agVal, agBor, mkArgs, bors, giveB, dCall, clean, dMut, slL, mAppend, mInsert, slC, cnSet, gAdd, gSubI, gDiv, gMod, gNeg, gCmpI, gIx, dSl, oNo, oE, gSl, dRev, dJoin, gAbs, gLen, gInt, gIsN, gList, Option.map_some, List.map_cons, List.map_nil, List.getElem?_cons_zero, List.getElem?_cons_succ, List.getElem?_nil, List.set_cons_zero, List.set_cons_succ, List.length_cons, List.length_nil, List.cons_append, List.nil_append, List.take_succ_cons, List.take_zero, List.replicate_succ, List.replicate_zero, gMin2, gMax2, gMax3, nodup1, List.nodup_nil, gEq_int, gEq_str, atI_0, atI_1, atI_2, atI_3, atI_4, atI_5, ixN_40, ixN_41, ixN_42, ixN_43, gMul, Nat.reduceAdd, Nat.reduceSub, Nat.zero_add, Option.isSome_some, true_and, and_true, Option.some.injEq, exists_and_left, exists_eq_left, exists_eq_left', id_eq, ite_true, ite_false, reduceIte, Bool.false_eq_true, decide_eq_true_eq, isIntD]
      simp only [btwD] at h
      by_cases e : lo ≤ i
      · rw [if_pos e]
        try simp only [sSeq, sNext, sSet, sRet, sRetN, sIf, sAsg, sDrop, sPar, sBrk, sCnt, sFor, sStore, sAugI, sAug, dC, dVar, dTake, qVar, qE, aNil, aCons, dOp, dUn, dCallB, gets, Op.get, put, puts, dat_sh, dat_ow, dat_bw, dat_un, ty0, ty1, ty2, ty3, ty4, ty5, ty6, ty7, ty8, ty9, ty10, ty11, ty12, ty13, ty14, ty15, ty16, ty17, ty18, ty19, ty20, ty21, ty22, ty23, ty24, ty25, ty26, ty27, ty28, ty29, ty30, ty31, ty32, ty33, ty34, ty35, ty36, ty37, ty38, ty39, ty40, ty41, gIsi_non, gIsi_bl, gIsi_int, gIsi_str, gIsi_lst, gIsi_tup, gIsi_dct, gIsC, dMut0, mReverse, mPopAt, gEq_bl, gEq_strs, eq_self, Sl.cn, Sl.with, Cn.dat, Rv.dat, bOf, asB, bTr, gTruth, bAnd, bOr, bNot, dAnd, dOr, dNot, dIf, dChain, vNil, vCons, dTup, dLst, dDisp, psNil, psCons, keyed, D.key, gN, gT, gsNil, gsCons, rNil, rCons, srcE, srcR1, srcR2, srcR3, srcEnum, srcZip, srcC, srcV, itsOf, dLc, bYes, wipeD, agNil, agVal, agBor, mkArgs, bors, giveB, dCall, clean, dMut, slL, mAppend, mInsert, slC, cnSet, gAdd, gSubI, gDiv, gMod, gNeg, gCmpI, gIx, dSl, oNo, oE, gSl, dRev, dJoin, gAbs, gLen, gInt, gIsN, gList, Option.map_some, List.map_cons, List.map_nil, List.getElem?_cons_zero, List.getElem?_cons_succ, List.getElem?_nil, List.set_cons_zero, List.set_cons_succ, List.length_cons, List.length_nil, List.cons_append, List.nil_append, List.take_succ_cons, List.take_zero, List.replicate_succ, List.replicate_zero, gMin2, gMax2, gMax3, nodup1, List.nodup_nil, gEq_int, gEq_str, atI_0, atI_1, atI_2, atI_3, atI_4, atI_5, ixN_40, ixN_41, ixN_42, ixN_43, gMul, Nat.reduceAdd, Nat.reduceSub, Nat.zero_add, Option.isSome_some, true_and, and_true, Option.some.injEq, exists_and_left, exists_eq_left, exists_eq_left', id_eq, ite_true, ite_false, reduceIte, Bool.false_eq_true, decide_eq_true_eq]
        rw [decide_eq_true e, Bool.true_and] at h
        exact h
      · rw [if_neg e]
        rw [decide_eq_false e, Bool.false_and] at h
        exact h
    | _ => simp only [sSeq, sNext, sSet, sRet, sRetN, sIf, sAsg, sDrop, sPar, sBrk, sCnt, sFor, sStore, sAugI, sAug, dC, dVar, dTake, qVar, qE, aNil, aCons, dOp, dUn, dCallB, gets, Op.get, put, puts, dat_sh, dat_ow, dat_bw, dat_un, ty0, ty1, ty2, ty3, ty4, ty5, ty6, ty7, ty8, ty9, ty10, ty11, ty12, ty13, ty14, ty15, ty16, ty17, ty18, ty19, ty20, ty21, ty22, ty23, ty24, ty25, ty26, ty27, ty28, ty29, ty30, ty31, ty32, ty33, ty34, ty35, ty36, ty37, ty38, ty39, ty40, ty41, gIsi_non, gIsi_bl, gIsi_int, gIsi_str, gIsi_lst, gIsi_tup, gIsi_dct, gIsC, dMut0, mReverse, mPopAt, gEq_bl, gEq_strs, eq_self, Sl.cn, Sl.with, Cn.dat, Rv.dat, bOf, asB, bTr, gTruth, bAnd, bOr, bNot, dAnd, dOr, dNot, dIf, dChain, vNil, vCons, dTup, dLst, dDisp, psNil, psCons, keyed, D.key, gN, gT, gsNil, gsCons, rNil, rCons, srcE, srcR1, srcR2, srcR3, srcEnum, srcZip, srcC, srcV, itsOf, dLc, bYes, wipeD, agNil, agVal, agBor, mkArgs, bors, giveB, dCall, clean, dMut, slL, mAppend, mInsert, slC, cnSet, gAdd, gSubI, gDiv, gMod, gNeg, gCmpI, gIx, dSl, oNo, oE, gSl, dRev, dJoin, gAbs, gLen, gInt, gIsN, gList, Option.map_some, List.map_cons, List.map_nil, List.getElem?_cons_zero, List.getElem?_cons_succ, List.getElem?_nil, List.set_cons_zero, List.set_cons_succ, List.length_cons, List.length_nil, List.cons_append, List.nil_append, List.take_succ_cons, List.take_zero, List.replicate_succ, List.replicate_zero, gMin2, gMax2, gMax3, nodup1, List.nodup_nil, gEq_int, gEq_str, atI_0, atI_1, atI_2, atI_3, atI_4, atI_5, ixN_40, ixN_41, ixN_42, ixN_43, gMul, Nat.reduceAdd, Nat.reduceSub, Nat.zero_add, Option.isSome_some, true_and, and_true, Option.some.injEq, exists_and_left, exists_eq_left, exists_eq_left', id_eq, ite_true, ite_false, reduceIte, Bool.false_eq_true, decide_eq_true_eq, isIntD]; exact h
def sp_is_link : SpD := fun as Q => ∃ (one other : List Str) (d : D), as = [.sh (.lst (one.map D.str)), .sh (.lst (other.map D.str)), .sh d] ∧ Tame d ∧ ∀ b : Bool, (b = true ↔ LinkD one other d) → Q (.v (.bl b)) [.un, .un, .un]
theorem len_is_link {as : SL} {Q : Rv → SL → Prop} (h : sp_is_link as Q) : as.length = 3 := by
  obtain ⟨_, _, _, rfl, _⟩ := h
  rfl
theorem ok_is_link {f : Addr} {fd : FuncData} (Fn : Fun K "is_link" "is_link" s_is_link f fd) (z_len : mg "len" = none) (z_isinstance : mg "isinstance" = none) (z_tuple : mg "tuple" = none) {a_is_between : Addr} {d_is_between : FuncData} (f_is_between : Cal P w K mg base 2 "is_between" a_is_between d_is_between ["thing", "least", "greatest"] sp_is_between) : FnG P w K mg base CX0 3 f fd ["one", "other", "thing"] (lift K sp_is_link) := by
  have nd := sc_is_link.nd
  refine fnD Fn sc_is_link (fun as Q h => ?len) (fun cdv A outer s H hgd hr => ⟨_, _,
    (dss_cons (ds_if (dw_pt (dw_or (dt_not (dt_tr (do_e (de_isi (T := "tuple") (by rfl) z_isinstance (do_var (pv 2)) (by rfl) z_tuple (by decide +kernel) (by decide))))) (dw_or1 (dt_cmp (op_neA (hu64 hr)) sem_ne (do_e (de_callB call_lenA sem_len (by rfl) z_len (by decide +kernel) (da_cons (do_var (pv 2)) da_nil))) (do_e de_int) (nomark _))))) (dss_one (ds_ret de_bl)) dss_nil)
      (dss_cons (ds_if (dw_pt (dw_or (dt_not (dt_tr (do_e (de_call f_is_between.ok hgd (hr.mono (by decide)) (by rfl) f_is_between.g f_is_between.kp f_is_between.b pass0 (dag_val (de_ix (hu1 hr) (do_var (pv 2)) (do_e de_int)) (dag_val de_int (dag_val (de_op op_sub sem_sub (do_e (de_callB call_lenA sem_len (by rfl) z_len (by decide +kernel) (da_cons (do_var (pv 0)) da_nil))) (do_e de_int)) dag_nil))))))) (dw_or1 (dt_not (dt_tr (do_e (de_call f_is_between.ok hgd (hr.mono (by decide)) (by rfl) f_is_between.g f_is_between.kp f_is_between.b pass0 (dag_val (de_ix (hu1 hr) (do_var (pv 2)) (do_e de_int)) (dag_val de_int (dag_val (de_op op_sub sem_sub (do_e (de_callB call_lenA sem_len (by rfl) z_len (by decide +kernel) (da_cons (do_var (pv 1)) da_nil))) (do_e de_int)) dag_nil)))))))))) (dss_one (ds_ret de_bl)) dss_nil)
      (dss_one (ds_ret (de_cmp (op_eqA (hu64 hr)) sem_eq (do_e (de_ix (hu1 hr) (do_var (pv 0)) (do_e (de_ix (hu1 hr) (do_var (pv 2)) (do_e de_int))))) (do_e (de_ix (hu1 hr) (do_var (pv 1)) (do_e (de_ix (hu1 hr) (do_var (pv 2)) (do_e de_int))))) (nomark _)))))), fun as Q h => ?_⟩)
  case len => exact len_is_link h
  · obtain ⟨one, other, d, rfl, ⟨hd, hl⟩, h⟩ := h
    simp only [List.length_cons, List.length_nil, Nat.reduceAdd, Nat.reduceSub, List.replicate_succ, List.replicate_zero, List.cons_append, List.nil_append]
    have hN : (¬ ∃ a b, d = .tup [a, b]) → Q (.v (.bl false)) [.un, .un, .un] := fun q => h false ⟨fun z => (Bool.false_ne_true z).elim, fun ⟨i, j, e, _⟩ => (q ⟨_, _, e⟩).elim⟩
    refine sSeq_cut (fun ρ' => ∃ a b, d = .tup [a, b] ∧ ρ' = [.sh (.lst (one.map D.str)), .sh (.lst (other.map D.str)), .sh d]) (fun N hN1 => ?_) ?_
    · cases d with
      | tup l =>
        simp only [sSeq, sNext, sSet, sRet, sRetN, sIf, sAsg, sDrop, sPar, sBrk, sCnt, sFor, sStore, sAugI, sAug, dC, dVar, dTake, qVar, qE, aNil, aCons, dOp, dUn, dCallB, gets, Op.get, put, puts, dat_sh, dat_ow, dat_bw, dat_un, ty0, ty1, ty2, ty3, ty4, ty5, ty6, ty7, ty8, ty9, ty10, ty11, ty12, ty13, ty14, ty15, ty16, ty17, ty18, ty19, ty20, ty21, ty22, ty23, ty24, ty25, ty26, ty27, ty28, ty29, ty30, ty31, ty32, ty33, ty34, ty35, ty36, ty37, ty38, ty39, ty40, ty41, gIsi_non, gIsi_bl, gIsi_int, gIsi_str, gIsi_lst, gIsi_tup, gIsi_dct, gIsC, dMut0, mReverse, mPopAt, gEq_bl, gEq_strs, eq_self, Sl.cn, Sl.with, Cn.dat, Rv.dat, bOf, asB, bTr, gTruth, bAnd, bOr, bNot, dAnd, dOr, dNot, dIf, dChain, vNil, vCons, dTup, dLst, dDisp, psNil, psCons, keyed, D.key, gN, gT, gsNil, gsCons, rNil, rCons, srcE, srcR1, srcR2, srcR3, srcEnum, srcZip, srcC, srcV, itsOf, dLc, bYes, wipeD, agNil, agVal, agBor, mkArgs, bors, giveB, dCall, clean, dMut, slL, mAppend, mInsert, slC, cnSet, gAdd, gSubI, gDiv, gMod, gNeg, gCmpI, gIx, dSl, oNo, oE, gSl, dRev, dJoin, gAbs, gLen, gInt, gIsN, gList, Option.map_some, List.map_cons, List.map_nil, List.getElem?_cons_zero, List.getElem?_cons_succ, List.getElem?_nil, List.set_cons_zero, List.set_cons_succ, List.length_cons, List.length_nil, List.cons_append, List.nil_append, List.take_succ_cons, List.take_zero, List.replicate_succ, List.replicate_zero, gMin2, gMax2, gMax3, nodup1, List.nodup_nil, gEq_int, gEq_str, atI_0, atI_1, atI_2, atI_3, atI_4, atI_5, ixN_40, ixN_41, ixN_42, ixN_43, gMul, Nat.reduceAdd, Nat.reduceSub, Nat.zero_add, Option.isSome_some, true_and, and_true, Option.some.injEq, exists_and_left, exists_eq_left, exists_eq_left', id_eq, ite_true, ite_false, reduceIte, Bool.false_eq_true, decide_eq_true_eq, Bool.not_true, Bool.not_false]
        by_cases hz : (l.length : Int) = 2
        · have hz' : l.length = 2 := by omega
          match l, hz' with
          | [a, b], _ =>
            simp only [sSeq, sNext, sSet, sRet, sRetN, sIf, sAsg, sDrop, sPar, sBrk, sCnt, sFor, sStore, sAugI, sAug, dC, dVar, dTake, qVar, qE, aNil, aCons, dOp, dUn, dCallB, gets, Op.get, put, puts, dat_sh, dat_ow, dat_bw, dat_un, ty0, ty1, ty2, ty3, ty4, ty5, ty6, ty7, ty8, ty9, ty10, ty11, ty12, ty13, ty14, ty15, ty16, ty17, ty18, ty19, ty20, ty21, ty22, ty23, ty24, ty25, ty26, ty27, ty28, ty29, ty30, ty31, ty32, ty33, ty34, ty35, ty36, ty37, ty38, ty39, ty40, ty41, gIsi_non, gIsi_bl, gIsi_int, gIsi_str, gIsi_lst, gIsi_tup, gIsi_dct, gIsC, dMut0, mReverse, mPopAt, gEq_bl, gEq_strs, eq_self, Sl.cn, Sl.with, Cn.dat, Rv.dat, bOf, asB, bTr, gTruth, bAnd, bOr, bNot, dAnd, dOr, dNot, dIf, dChain, vNil, vCons, dTup, dLst, dDisp, psNil, psCons, keyed, D.key, gN, gT, gsNil, gsCons, rNil, rCons, srcE, srcR1, srcR2, srcR3, srcEnum, srcZip, srcC, srcV, itsOf, dLc, bYes, wipeD, agNil, agVal, agBor, mkArgs, bors, giveB, dCall, clean, dMut, slL, mAppend, mInsert, slC, cnSet, gAdd, gSubI, gDiv, gMod, gNeg, gCmpI, gIx, dSl, oNo, oE, gSl, dRev, dJoin, gAbs, gLen, gInt, gIsN, gList, Option.map_some, List.map_cons, List.map_nil, List.getElem?_cons_zero, List.getElem?_cons_succ, List.getElem?_nil, List.set_cons_zero, List.set_cons_succ, List.length_cons, List.length_nil, List.cons_append, List.nil_append, List.take_succ_cons, List.take_zero, List.replicate_succ, List.replicate_zero, gMin2, gMax2, gMax3, nodup1, List.nodup_nil, gEq_int, gEq_str, atI_0, atI_1, atI_2, atI_3, atI_4, atI_5, ixN_40, ixN_41, ixN_42, ixN_43, gMul, Nat.reduceAdd, Nat.reduceSub, Nat.zero_add, Option.isSome_some, true_and, and_true, Option.some.injEq, exists_and_left, exists_eq_left, exists_eq_left', id_eq, ite_true, ite_false, reduceIte, Bool.false_eq_true, decide_eq_true_eq, Bool.not_true, Bool.not_false]
            exact hN1 _ ⟨a, b, rfl, rfl⟩
        · rw [decide_eq_false hz]
          simp only [sSeq, sNext, sSet, sRet, sRetN, sIf, sAsg, sDrop, sPar, sBrk, sCnt, sFor, sStore, sAugI, sAug, dC, dVar, dTake, qVar, qE, aNil, aCons, dOp, dUn, dCallB, gets, Op.get, put, puts, dat_sh, dat_ow, dat_bw, dat_un, ty0, ty1, ty2, ty3, ty4, ty5, ty6, ty7, ty8, ty9, ty10, ty11, ty12, ty13, ty14, ty15, ty16, ty17, ty18, ty19, ty20, ty21, ty22, ty23, ty24, ty25, ty26, ty27, ty28, ty29, ty30, ty31, ty32, ty33, ty34, ty35, ty36, ty37, ty38, ty39, ty40, ty41, gIsi_non, gIsi_bl, gIsi_int, gIsi_str, gIsi_lst, gIsi_tup, gIsi_dct, gIsC, dMut0, mReverse, mPopAt, gEq_bl, gEq_strs, eq_self, Sl.cn, Sl.with, Cn.dat, Rv.dat, bOf, asB, bTr, gTruth, bAnd, bOr, bNot, dAnd, dOr, dNot, dIf, dChain, vNil, vCons, dTup, dLst, dDisp, psNil, psCons, keyed, D.key, gN, gT, gsNil, gsCons, rNil, rCons, srcE, srcR1, srcR2, srcR3, srcEnum, srcZip, srcC, srcV, itsOf, dLc, bYes, wipeD, agNil, agVal, agBor, mkArgs, bors, giveB, dCall, clean, dMut, slL, mAppend, mInsert, slC, cnSet, gAdd, gSubI, gDiv, gMod, gNeg, gCmpI, gIx, dSl, oNo, oE, gSl, dRev, dJoin, gAbs, gLen, gInt, gIsN, gList, Option.map_some, List.map_cons, List.map_nil, List.getElem?_cons_zero, List.getElem?_cons_succ, List.getElem?_nil, List.set_cons_zero, List.set_cons_succ, List.length_cons, List.length_nil, List.cons_append, List.nil_append, List.take_succ_cons, List.take_zero, List.replicate_succ, List.replicate_zero, gMin2, gMax2, gMax3, nodup1, List.nodup_nil, gEq_int, gEq_str, atI_0, atI_1, atI_2, atI_3, atI_4, atI_5, ixN_40, ixN_41, ixN_42, ixN_43, gMul, Nat.reduceAdd, Nat.reduceSub, Nat.zero_add, Option.isSome_some, true_and, and_true, Option.some.injEq, exists_and_left, exists_eq_left, exists_eq_left', id_eq, ite_true, ite_false, reduceIte, Bool.false_eq_true, decide_eq_true_eq, Bool.not_true, Bool.not_false]
          exact hN fun ⟨a, b, e⟩ => by cases e; exact hz rfl
      | _ => first | (cases hd; done) | (simp only [sSeq, sNext, sSet, sRet, sRetN, sIf, sAsg, sDrop, sPar, sBrk, sCnt, sFor, sStore, sAugI, sAug, dC, dVar, dTake, qVar, qE, aNil, aCons, dOp, dUn, dCallB, gets, Op.get, put, puts, dat_sh, dat_ow, dat_bw, dat_un, ty0, ty1, ty2, ty3, ty4, ty5, ty6, ty7, ty8, ty9, ty10, ty11, ty12, ty13, ty14, ty15, ty16, ty17, ty18, ty19, ty20, ty21, ty22, ty23, ty24, ty25, ty26, ty27, ty28, ty29, ty30, ty31, ty32, ty33, ty34, ty35, ty36, ty37, ty38, ty39, ty40, ty41, gIsi_non, gIsi_bl, gIsi_int, gIsi_str, gIsi_lst, gIsi_tup, gIsi_dct, gIsC, dMut0, mReverse, mPopAt, gEq_bl, gEq_strs, eq_self, Sl.cn, Sl.with, Cn.dat, Rv.dat, bOf, asB, bTr, gTruth, bAnd, bOr, bNot, dAnd, dOr, dNot, dIf, dChain, vNil, vCons, dTup, dLst, dDisp, psNil, psCons, keyed, D.key, gN, gT, gsNil, gsCons, rNil, rCons, srcE, srcR1, srcR2, srcR3, srcEnum, srcZip, srcC, srcV, itsOf, dLc, bYes, wipeD, agNil, agVal, agBor, mkArgs, bors, giveB, dCall, clean, dMut, slL, mAppend, mInsert, slC, cnSet, gAdd, gSubI, gDiv, gMod, gNeg, gCmpI, gIx, dSl, oNo, oE, gSl, dRev, dJoin, gAbs, gLen, gInt, gIsN, gList, Option.map_some, List.map_cons, List.map_nil, List.getElem?_cons_zero, List.getElem?_cons_succ, List.getElem?_nil, List.set_cons_zero, List.set_cons_succ, List.length_cons, List.length_nil, List.cons_append, List.nil_append, List.take_succ_cons, List.take_zero, List.replicate_succ, List.replicate_zero, gMin2, gMax2, gMax3, nodup1, List.nodup_nil, gEq_int, gEq_str, atI_0, atI_1, atI_2, atI_3, atI_4, atI_5, ixN_40, ixN_41, ixN_42, ixN_43, gMul, Nat.reduceAdd, Nat.reduceSub, Nat.zero_add, Option.isSome_some, true_and, and_true, Option.some.injEq, exists_and_left, exists_eq_left, exists_eq_left', id_eq, ite_true, ite_false, reduceIte, Bool.false_eq_true, decide_eq_true_eq, Bool.not_true, Bool.not_false]; exact hN fun ⟨a, b, e⟩ => by cases e)
    · rintro ρ' ⟨a, b, rfl, rfl⟩
      have ha := hl _ rfl a (by simp)
      have hb := hl _ rfl b (by simp)
      have hF : (btwD a 0 ((one.length : Int) - 1) && btwD b 0 ((other.length : Int) - 1)) = false → Q (.v (.bl false)) [.un, .un, .un] := fun q => h false ⟨fun z => (Bool.false_ne_true z).elim, fun ⟨i, j, e, x, h1, h2⟩ => by
        cases e
        have g1 := (List.getElem?_eq_some_iff.mp h1).1
        have g2 := (List.getElem?_eq_some_iff.mp h2).1
        simp only [btwD, Bool.and_eq_false_iff, decide_eq_false_iff_not] at q
        omega⟩
      refine sSeq_cut (fun ρ' => (btwD a 0 ((one.length : Int) - 1) && btwD b 0 ((other.length : Int) - 1)) = true ∧ ρ' = [.sh (.lst (one.map D.str)), .sh (.lst (other.map D.str)), .sh (.tup [a, b])]) (fun N hN1 => ?_) ?_
      · simp only [sSeq, sNext, sSet, sRet, sRetN, sIf, sAsg, sDrop, sPar, sBrk, sCnt, sFor, sStore, sAugI, sAug, dC, dVar, dTake, qVar, qE, aNil, aCons, dOp, dUn, dCallB, gets, Op.get, put, puts, dat_sh, dat_ow, dat_bw, dat_un, ty0, ty1, ty2, ty3, ty4, ty5, ty6, ty7, ty8, ty9, ty10, ty11, ty12, ty13, ty14, ty15, ty16, ty17, ty18, ty19, ty20, ty21, ty22, ty23, ty24, ty25, ty26, ty27, ty28, ty29, ty30, ty31, ty32, ty33, ty34, ty35, ty36, ty37, ty38, ty39, ty40, ty41, gIsi_non, gIsi_bl, gIsi_int, gIsi_str, gIsi_lst, gIsi_tup, gIsi_dct, gIsC, dMut0, mReverse, mPopAt, gEq_bl, gEq_strs, eq_self, Sl.cn, Sl.with, Cn.dat, Rv.dat, bOf, asB, bTr, gTruth, bAnd, bOr, bNot, dAnd, dOr, dNot, dIf, dChain, vNil, vCons, dTup, dLst, dDisp, psNil, psCons, keyed, D.key, gN, gT, gsNil, gsCons, rNil, rCons, srcE, srcR1, srcR2, srcR3, srcEnum, srcZip, srcC, srcV, itsOf, dLc, bYes, wipeD, agNil, agVal, agBor, mkArgs, bors, giveB, dCall, clean, dMut, slL, mAppend, mInsert, slC, cnSet, gAdd, gSubI, gDiv, gMod, gNeg, gCmpI, gIx, dSl, oNo, oE, gSl, dRev, dJoin, gAbs, gLen, gInt, gIsN, gList, Option.map_some, List.map_cons, List.map_nil, List.getElem?_cons_zero, List.getElem?_cons_succ, List.getElem?_nil, List.set_cons_zero, List.set_cons_succ, List.length_cons, List.length_nil, List.cons_append, List.nil_append, List.take_succ_cons, List.take_zero, List.replicate_succ, List.replicate_zero, gMin2, gMax2, gMax3, nodup1, List.nodup_nil, gEq_int, gEq_str, atI_0, atI_1, atI_2, atI_3, atI_4, atI_5, ixN_40, ixN_41, ixN_42, ixN_43, gMul, Nat.reduceAdd, Nat.reduceSub, Nat.zero_add, Option.isSome_some, true_and, and_true, Option.some.injEq, exists_and_left, exists_eq_left, exists_eq_left', id_eq, ite_true, ite_false, reduceIte, Bool.false_eq_true, decide_eq_true_eq, List.length_map]
        refine ⟨a, 0, _, rfl, ha, ?_⟩
        simp only [sSeq, sNext, sSet, sRet, sRetN, sIf, sAsg, sDrop, sPar, sBrk, sCnt, sFor, sStore, sAugI, sAug, dC, dVar, dTake, qVar, qE, aNil, aCons, dOp, dUn, dCallB, gets, Op.get, put, puts, dat_sh, dat_ow, dat_bw, dat_un, ty0, ty1, ty2, ty3, ty4, ty5, ty6, ty7, ty8, ty9, ty10, ty11, ty12, ty13, ty14, ty15, ty16, ty17, ty18, ty19, ty20, ty21, ty22, ty23, ty24, ty25, ty26, ty27, ty28, ty29, ty30, ty31, ty32, ty33, ty34, ty35, ty36, ty37, ty38, ty39, ty40, ty41, gIsi_non, gIsi_bl, gIsi_int, gIsi_str, gIsi_lst, gIsi_tup, gIsi_dct, gIsC, dMut0, mReverse, mPopAt, gEq_bl, gEq_strs, eq_self, Sl.cn, Sl.with, Cn.dat, Rv.dat, bOf, asB, bTr, gTruth, bAnd, bOr, bNot, dAnd, dOr, dNot, dIf, dChain, vNil, vCons, dTup, dLst, dDisp, psNil, psCons, keyed, D.key, gN, gT, gsNil, gsCons, rNil, rCons, srcE, srcR1, srcR2, srcR3, srcEnum, srcZip, srcC, srcV, itsOf, dLc, bYes, wipeD, agNil, agVal, agBor, mkArgs, bors, giveB, dCall, clean, dMut, slL, mAppend, mInsert, slC, cnSet, gAdd, gSubI, gDiv, gMod, gNeg, gCmpI, gIx, dSl, oNo, oE, gSl, dRev, dJoin, gAbs, gLen, gInt, gIsN, gList, Option.map_some, List.map_cons, List.map_nil, List.getElem?_cons_zero, List.getElem?_cons_succ, List.getElem?_nil, List.set_cons_zero, List.set_cons_succ, List.length_cons, List.length_nil, List.cons_append, List.nil_append, List.take_succ_cons, List.take_zero, List.replicate_succ, List.replicate_zero, gMin2, gMax2, gMax3, nodup1, List.nodup_nil, gEq_int, gEq_str, atI_0, atI_1, atI_2, atI_3, atI_4, atI_5, ixN_40, ixN_41, ixN_42, ixN_43, gMul, Nat.reduceAdd, Nat.reduceSub, Nat.zero_add, Option.isSome_some, true_and, and_true, Option.some.injEq, exists_and_left, exists_eq_left, exists_eq_left', id_eq, ite_true, ite_false, reduceIte, Bool.false_eq_true, decide_eq_true_eq, List.length_map]
        cases e1 : btwD a 0 ((one.length : Int) - 1) with
        | false =>
          simp only [sSeq, sNext, sSet, sRet, sRetN, sIf, sAsg, sDrop, sPar, sBrk, sCnt, sFor, sStore, sAugI, sAug, dC, dVar, dTake, qVar, qE, aNil, aCons, dOp, dUn, dCallB, gets, Op.get, put, puts, dat_sh, dat_ow, dat_bw, dat_un, ty0, ty1, ty2, ty3, ty4, ty5, ty6, ty7, ty8, ty9, ty10, ty11, ty12, ty13, ty14, ty15, ty16, ty17, ty18, ty19, ty20, ty21, ty22, ty23, ty24, ty25, ty26, ty27, ty28, ty29, ty30, ty31, ty32, ty33, ty34, ty35, ty36, ty37, ty38, ty39, ty40, ty41, gIsi_non, gIsi_bl, gIsi_int, gIsi_str, gIsi_lst, gIsi_tup, gIsi_dct, gIsC, dMut0, mReverse, mPopAt, gEq_bl, gEq_strs, eq_self, Sl.cn, Sl.with, Cn.dat, Rv.dat, bOf, asB, bTr, gTruth, bAnd, bOr, bNot, dAnd, dOr, dNot, dIf, dChain, vNil, vCons, dTup, dLst, dDisp, psNil, psCons, keyed, D.key, gN, gT, gsNil, gsCons, rNil, rCons, srcE, srcR1, srcR2, srcR3, srcEnum, srcZip, srcC, srcV, itsOf, dLc, bYes, wipeD, agNil, agVal, agBor, mkArgs, bors, giveB, dCall, clean, dMut, slL, mAppend, mInsert, slC, cnSet, gAdd, gSubI, gDiv, gMod, gNeg, gCmpI, gIx, dSl, oNo, oE, gSl, dRev, dJoin, gAbs, gLen, gInt, gIsN, gList, Option.map_some, List.map_cons, List.map_nil, List.getElem?_cons_zero, List.getElem?_cons_succ, List.getElem?_nil, List.set_cons_zero, List.set_cons_succ, List.length_cons, List.length_nil, List.cons_append, List.nil_append, List.take_succ_cons, List.take_zero, List.replicate_succ, List.replicate_zero, gMin2, gMax2, gMax3, nodup1, List.nodup_nil, gEq_int, gEq_str, atI_0, atI_1, atI_2, atI_3, atI_4, atI_5, ixN_40, ixN_41, ixN_42, ixN_43, gMul, Nat.reduceAdd, Nat.reduceSub, Nat.zero_add, Option.isSome_some, true_and, and_true, Option.some.injEq, exists_and_left, exists_eq_left, exists_eq_left', id_eq, ite_true, ite_false, reduceIte, Bool.false_eq_true, decide_eq_true_eq, Bool.not_false]
          exact hF (by rw [e1]; rfl)
        | true =>
          simp only [sSeq, sNext, sSet, sRet, sRetN, sIf, sAsg, sDrop, sPar, sBrk, sCnt, sFor, sStore, sAugI, sAug, dC, dVar, dTake, qVar, qE, aNil, aCons, dOp, dUn, dCallB, gets, Op.get, put, puts, dat_sh, dat_ow, dat_bw, dat_un, ty0, ty1, ty2, ty3, ty4, ty5, ty6, ty7, ty8, ty9, ty10, ty11, ty12, ty13, ty14, ty15, ty16, ty17, ty18, ty19, ty20, ty21, ty22, ty23, ty24, ty25, ty26, ty27, ty28, ty29, ty30, ty31, ty32, ty33, ty34, ty35, ty36, ty37, ty38, ty39, ty40, ty41, gIsi_non, gIsi_bl, gIsi_int, gIsi_str, gIsi_lst, gIsi_tup, gIsi_dct, gIsC, dMut0, mReverse, mPopAt, gEq_bl, gEq_strs, eq_self, Sl.cn, Sl.with, Cn.dat, Rv.dat, bOf, asB, bTr, gTruth, bAnd, bOr, bNot, dAnd, dOr, dNot, dIf, dChain, vNil, vCons, dTup, dLst, dDisp, psNil, psCons, keyed, D.key, gN, gT, gsNil, gsCons, rNil, rCons, srcE, srcR1, srcR2, srcR3, srcEnum, srcZip, srcC, srcV, itsOf, dLc, bYes, wipeD, agNil, agVal, agBor, mkArgs, bors, giveB, dCall, clean, dMut, slL, mAppend, mInsert, slC, cnSet, gAdd, gSubI, gDiv, gMod, gNeg, gCmpI, gIx, dSl, oNo, oE, gSl, dRev, dJoin, gAbs, gLen, gInt, gIsN, gList, Option.map_some, List.map_cons, List.map_nil, List.getElem?_cons_zero, List.getElem?_cons_succ, List.getElem?_nil, List.set_cons_zero, List.set_cons_succ, List.length_cons, List.length_nil, List.cons_append, List.nil_append, List.take_succ_cons, List.take_zero, List.replicate_succ, List.replicate_zero, gMin2, gMax2, gMax3, nodup1, List.nodup_nil, gEq_int, gEq_str, atI_0, atI_1, atI_2, atI_3, atI_4, atI_5, ixN_40, ixN_41, ixN_42, ixN_43, gMul, Nat.reduceAdd, Nat.reduceSub, Nat.zero_add, Option.isSome_some, true_and, and_true, Option.some.injEq, exists_and_left, exists_eq_left, exists_eq_left', id_eq, ite_true, ite_false, reduceIte, Bool.false_eq_true, decide_eq_true_eq, Bool.not_true, List.length_map]
          refine ⟨b, 0, _, rfl, hb, ?_⟩
          simp only [sSeq, sNext, sSet, sRet, sRetN, sIf, sAsg, sDrop, sPar, sBrk, sCnt, sFor, sStore, sAugI, sAug, dC, dVar, dTake, qVar, qE, aNil, aCons, dOp, dUn, dCallB, gets, Op.get, put, puts, dat_sh, dat_ow, dat_bw, dat_un, ty0, ty1, ty2, ty3, ty4, ty5, ty6, ty7, ty8, ty9, ty10, ty11, ty12, ty13, ty14, ty15, ty16, ty17, ty18, ty19, ty20, ty21, ty22, ty23, ty24, ty25, ty26, ty27, ty28, ty29, ty30, ty31, ty32, ty33, ty34, ty35, ty36, ty37, ty38, ty39, ty40, ty41, gIsi_non, gIsi_bl, gIsi_int, gIsi_str, gIsi_lst, gIsi_tup, gIsi_dct, gIsC, dMut0, mReverse, mPopAt, gEq_bl, gEq_strs, eq_self, Sl.cn, Sl.with, Cn.dat, Rv.dat, bOf, asB, bTr, gTruth, bAnd, bOr, bNot, dAnd, dOr, dNot, dIf, dChain, vNil, vCons, dTup, dLst, dDisp, psNil, psCons, keyed, D.key, gN, gT, gsNil, gsCons, rNil, rCons, srcE, srcR1, srcR2, srcR3, srcEnum, srcZip, srcC, srcV, itsOf, dLc, bYes, wipeD, agNil, agVal, agBor, mkArgs, bors, giveB, dCall, clean, dMut, slL, mAppend, mInsert, slC, cnSet, gAdd, gSubI, gDiv, gMod, gNeg, gCmpI, gIx, dSl, oNo, oE, gSl, dRev, dJoin, gAbs, gLen, gInt, gIsN, gList, Option.map_some, List.map_cons, List.map_nil, List.getElem?_cons_zero, List.getElem?_cons_succ, List.getElem?_nil, List.set_cons_zero, List.set_cons_succ, List.length_cons, List.length_nil, List.cons_append, List.nil_append, List.take_succ_cons, List.take_zero, List.replicate_succ, List.replicate_zero, gMin2, gMax2, gMax3, nodup1, List.nodup_nil, gEq_int, gEq_str, atI_0, atI_1, atI_2, atI_3, atI_4, atI_5, ixN_40, ixN_41, ixN_42, ixN_43, gMul, Nat.reduceAdd, Nat.reduceSub, Nat.zero_add, Option.isSome_some, true_and, and_true, Option.some.injEq, exists_and_left, exists_eq_left, exists_eq_left', id_eq, ite_true, ite_false, reduceIte, Bool.false_eq_true, decide_eq_true_eq, List.length_map]
          cases e2 : btwD b 0 ((other.length : Int) - 1) with
          | false =>
            simp only [sSeq, sNext, sSet, sRet, sRetN, sIf, sAsg, sDrop, sPar, sBrk, sCnt, sFor, sStore, sAugI, sAug, dC, dVar, dTake, qVar, qE, aNil, aCons, dOp, dUn, dCallB, gets, Op.get, put, puts, dat_sh, dat_ow, dat_bw, dat_un, ty0, ty1, ty2, ty3, ty4, ty5, ty6, ty7, ty8, ty9, ty10, ty11, ty12, ty13, ty14, ty15, ty16, ty17, ty18, ty19, ty20, ty21, ty22, ty23, ty24, ty25, ty26, ty27, ty28, ty29, ty30, ty31, ty32, ty33, ty34, ty35, ty36, ty37, ty38, ty39, ty40, ty41, gIsi_non, gIsi_bl, gIsi_int, gIsi_str, gIsi_lst, gIsi_tup, gIsi_dct, gIsC, dMut0, mReverse, mPopAt, gEq_bl, gEq_strs, eq_self, Sl.cn, Sl.with, Cn.dat, Rv.dat, bOf, asB, bTr, gTruth, bAnd, bOr, bNot, dAnd, dOr, dNot, dIf, dChain, vNil, vCons, dTup, dLst, dDisp, psNil, psCons, keyed, D.key, gN, gT, gsNil, gsCons, rNil, rCons, srcE, srcR1, srcR2, srcR3, srcEnum, srcZip, srcC, srcV, itsOf, dLc, bYes, wipeD, agNil, agVal, agBor, mkArgs, bors, giveB, dCall, clean, dMut, slL, mAppend, mInsert, slC, cnSet, gAdd, gSubI, gDiv, gMod, gNeg, gCmpI, gIx, dSl, oNo, oE, gSl, dRev, dJoin, gAbs, gLen, gInt, gIsN, gList, Option.map_some, List.map_cons, List.map_nil, List.getElem?_cons_zero, List.getElem?_cons_succ, List.getElem?_nil, List.set_cons_zero, List.set_cons_succ, List.length_cons, List.length_nil, List.cons_append, List.nil_append, List.take_succ_cons, List.take_zero, List.replicate_succ, List.replicate_zero, gMin2, gMax2, gMax3, nodup1, List.nodup_nil, gEq_int, gEq_str, atI_0, atI_1, atI_2, atI_3, atI_4, atI_5, ixN_40, ixN_41, ixN_42, ixN_43, gMul, Nat.reduceAdd, Nat.reduceSub, Nat.zero_add, Option.isSome_some, true_and, and_true, Option.some.injEq, exists_and_left, exists_eq_left, exists_eq_left', id_eq, ite_true, ite_false, reduceIte, Bool.false_eq_true, decide_eq_true_eq, Bool.not_false]
            exact hF (by rw [e1, e2]; rfl)
          | true =>
            simp only [sSeq, sNext, sSet, sRet, sRetN, sIf, sAsg, sDrop, sPar, sBrk, sCnt, sFor, sStore, sAugI, sAug, dC, dVar, dTake, qVar, qE, aNil, aCons, dOp, dUn, dCallB, gets, Op.get, put, puts, dat_sh, dat_ow, dat_bw, dat_un, ty0, ty1, ty2, ty3, ty4, ty5, ty6, ty7, ty8, ty9, ty10, ty11, ty12, ty13, ty14, ty15, ty16, ty17, ty18, ty19, ty20, ty21, ty22, ty23, ty24, ty25, ty26, ty27, ty28, ty29, ty30, ty31, ty32, ty33, ty34, ty35, ty36, ty37, ty38, ty39, ty40, ty41, gIsi_non, gIsi_bl, gIsi_int, gIsi_str, gIsi_lst, gIsi_tup, gIsi_dct, gIsC, dMut0, mReverse, mPopAt, gEq_bl, gEq_strs, eq_self, Sl.cn, Sl.with, Cn.dat, Rv.dat, bOf, asB, bTr, gTruth, bAnd, bOr, bNot, dAnd, dOr, dNot, dIf, dChain, vNil, vCons, dTup, dLst, dDisp, psNil, psCons, keyed, D.key, gN, gT, gsNil, gsCons, rNil, rCons, srcE, srcR1, srcR2, srcR3, srcEnum, srcZip, srcC, srcV, itsOf, dLc, bYes, wipeD, agNil, agVal, agBor, mkArgs, bors, giveB, dCall, clean, dMut, slL, mAppend, mInsert, slC, cnSet, gAdd, gSubI, gDiv, gMod, gNeg, gCmpI, gIx, dSl, oNo, oE, gSl, dRev, dJoin, gAbs, gLen, gInt, gIsN, gList, Option.map_some, List.map_cons, List.map_nil, List.getElem?_cons_zero, List.getElem?_cons_succ, List.getElem?_nil, List.set_cons_zero, List.set_cons_succ, List.length_cons, List.length_nil, List.cons_append, List.nil_append, List.take_succ_cons, List.take_zero, List.replicate_succ, List.replicate_zero, gMin2, gMax2, gMax3, nodup1, List.nodup_nil, gEq_int, gEq_str, atI_0, atI_1, atI_2, atI_3, atI_4, atI_5, ixN_40, ixN_41, ixN_42, ixN_43, gMul, Nat.reduceAdd, Nat.reduceSub, Nat.zero_add, Option.isSome_some, true_and, and_true, Option.some.injEq, exists_and_left, exists_eq_left, exists_eq_left', id_eq, ite_true, ite_false, reduceIte, Bool.false_eq_true, decide_eq_true_eq, Bool.not_true]
            exact hN1 _ ⟨by rw [e1, e2]; rfl, rfl⟩
      · rintro ρ' ⟨q, rfl⟩
        rw [Bool.and_eq_true] at q
        obtain ⟨q1, q2⟩ := q
        cases a <;> simp only [btwD, Bool.false_eq_true] at q1
        cases b <;> simp only [btwD, Bool.false_eq_true] at q2
        rename_i i j
        rw [Bool.and_eq_true, decide_eq_true_eq, decide_eq_true_eq] at q1 q2
        obtain ⟨i, rfl⟩ := Int.eq_ofNat_of_zero_le q1.1
        obtain ⟨j, rfl⟩ := Int.eq_ofNat_of_zero_le q2.1
        have hi : i < one.length := by omega
        have hj : j < other.length := by omega
        try simp only [sSeq, sNext, sSet, sRet, sRetN, sIf, sAsg, sDrop, sPar, sBrk, sCnt, sFor, sStore, sAugI, sAug, dC, dVar, dTake, qVar, qE, aNil, aCons, dOp, dUn, dCallB, gets, Op.get, put, puts, dat_sh, dat_ow, dat_bw, dat_un, ty0, ty1, ty2, ty3, ty4, ty5, ty6, ty7, ty8, ty9, ty10, ty11, ty12, ty13, ty14, ty15, ty16, ty17, ty18, ty19, ty20, ty21, ty22, ty23, ty24, ty25, ty26, ty27, ty28, ty29, ty30, ty31, ty32, ty33, ty34, ty35, ty36, ty37, ty38, ty39, ty40, ty41, gIsi_non, gIsi_bl, gIsi_int, gIsi_str, gIsi_lst, gIsi_tup, gIsi_dct, gIsC, dMut0, mReverse, mPopAt, gEq_bl, gEq_strs, eq_self, Sl.cn, Sl.with, Cn.dat, Rv.dat, bOf, asB, bTr, gTruth, bAnd, bOr, bNot, dAnd, dOr, dNot, dIf, dChain, vNil, vCons, dTup, dLst, dDisp, psNil, psCons, keyed, D.key, gN, gT, gsNil, gsCons, rNil, rCons, srcE, srcR1, srcR2, srcR3, srcEnum, srcZip, srcC, srcV, itsOf, dLc, bYes, wipeD, agNil, agVal, agBor, mkArgs, bors, giveB, dCall, clean, dMut, slL, mAppend, mInsert, slC, cnSet, gAdd, gSubI, gDiv, gMod, gNeg, gCmpI, gIx, dSl, oNo, oE, gSl, dRev, dJoin, gAbs, gLen, gInt, gIsN, gList, Option.map_some, List.map_cons, List.map_nil, List.getElem?_cons_zero, List.getElem?_cons_succ, List.getElem?_nil, List.set_cons_zero, List.set_cons_succ, List.length_cons, List.length_nil, List.cons_append, List.nil_append, List.take_succ_cons, List.take_zero, List.replicate_succ, List.replicate_zero, gMin2, gMax2, gMax3, nodup1, List.nodup_nil, gEq_int, gEq_str, atI_0, atI_1, atI_2, atI_3, atI_4, atI_5, ixN_40, ixN_41, ixN_42, ixN_43, gMul, Nat.reduceAdd, Nat.reduceSub, Nat.zero_add, Option.isSome_some, true_and, and_true, Option.some.injEq, exists_and_left, exists_eq_left, exists_eq_left', id_eq, ite_true, ite_false, reduceIte, Bool.false_eq_true, decide_eq_true_eq]
        refine ⟨_, get_str i rfl hi, ?_⟩
        try simp only [sSeq, sNext, sSet, sRet, sRetN, sIf, sAsg, sDrop, sPar, sBrk, sCnt, sFor, sStore, sAugI, sAug, dC, dVar, dTake, qVar, qE, aNil, aCons, dOp, dUn, dCallB, gets, Op.get, put, puts, dat_sh, dat_ow, dat_bw, dat_un, ty0, ty1, ty2, ty3, ty4, ty5, ty6, ty7, ty8, ty9, ty10, ty11, ty12, ty13, ty14, ty15, ty16, ty17, ty18, ty19, ty20, ty21, ty22, ty23, ty24, ty25, ty26, ty27, ty28, ty29, ty30, ty31, ty32, ty33, ty34, ty35, ty36, ty37, ty38, ty39, ty40, ty41, gIsi_non, gIsi_bl, gIsi_int, gIsi_str, gIsi_lst, gIsi_tup, gIsi_dct, gIsC, dMut0, mReverse, mPopAt, gEq_bl, gEq_strs, eq_self, Sl.cn, Sl.with, Cn.dat, Rv.dat, bOf, asB, bTr, gTruth, bAnd, bOr, bNot, dAnd, dOr, dNot, dIf, dChain, vNil, vCons, dTup, dLst, dDisp, psNil, psCons, keyed, D.key, gN, gT, gsNil, gsCons, rNil, rCons, srcE, srcR1, srcR2, srcR3, srcEnum, srcZip, srcC, srcV, itsOf, dLc, bYes, wipeD, agNil, agVal, agBor, mkArgs, bors, giveB, dCall, clean, dMut, slL, mAppend, mInsert, slC, cnSet, gAdd, gSubI, gDiv, gMod, gNeg, gCmpI, gIx, dSl, oNo, oE, gSl, dRev, dJoin, gAbs, gLen, gInt, gIsN, gList, Option.map_some, List.map_cons, List.map_nil, List.getElem?_cons_zero, List.getElem?_cons_succ, List.getElem?_nil, List.set_cons_zero, List.set_cons_succ, List.length_cons, List.length_nil, List.cons_append, List.nil_append, List.take_succ_cons, List.take_zero, List.replicate_succ, List.replicate_zero, gMin2, gMax2, gMax3, nodup1, List.nodup_nil, gEq_int, gEq_str, atI_0, atI_1, atI_2, atI_3, atI_4, atI_5, ixN_40, ixN_41, ixN_42, ixN_43, gMul, Nat.reduceAdd, Nat.reduceSub, Nat.zero_add, Option.isSome_some, true_and, and_true, Option.some.injEq, exists_and_left, exists_eq_left, exists_eq_left', id_eq, ite_true, ite_false, reduceIte, Bool.false_eq_true, decide_eq_true_eq]
        refine ⟨_, get_str j rfl hj, ?_⟩
        try simp only [sSeq, sNext, sSet, sRet, sRetN, sIf, sAsg, sDrop, sPar, sBrk, sCnt, sFor, sStore, sAugI, sAug, dC, dVar, dTake, qVar, qE, aNil, aCons, dOp, dUn, dCallB, gets, Op.get, put, puts, dat_sh, dat_ow, dat_bw, dat_un, ty0, ty1, ty2, ty3, ty4, ty5, ty6, ty7, ty8, ty9, ty10, ty11, ty12, ty13, ty14, ty15, ty16, ty17, ty18, ty19, ty20, ty21, ty22, ty23, ty24, ty25, ty26, ty27, ty28, ty29, ty30, ty31, ty32, ty33, ty34, ty35, ty36, ty37, ty38, ty39, ty40, ty41, gIsi_non, gIsi_bl, gIsi_int, gIsi_str, gIsi_lst, gIsi_tup, gIsi_dct, gIsC, dMut0, mReverse, mPopAt, gEq_bl, gEq_strs, eq_self, Sl.cn, Sl.with, Cn.dat, Rv.dat, bOf, asB, bTr, gTruth, bAnd, bOr, bNot, dAnd, dOr, dNot, dIf, dChain, vNil, vCons, dTup, dLst, dDisp, psNil, psCons, keyed, D.key, gN, gT, gsNil, gsCons, rNil, rCons, srcE, srcR1, srcR2, srcR3, srcEnum, srcZip, srcC, srcV, itsOf, dLc, bYes, wipeD, agNil, agVal, agBor, mkArgs, bors, giveB, dCall, clean, dMut, slL, mAppend, mInsert, slC, cnSet, gAdd, gSubI, gDiv, gMod, gNeg, gCmpI, gIx, dSl, oNo, oE, gSl, dRev, dJoin, gAbs, gLen, gInt, gIsN, gList, Option.map_some, List.map_cons, List.map_nil, List.getElem?_cons_zero, List.getElem?_cons_succ, List.getElem?_nil, List.set_cons_zero, List.set_cons_succ, List.length_cons, List.length_nil, List.cons_append, List.nil_append, List.take_succ_cons, List.take_zero, List.replicate_succ, List.replicate_zero, gMin2, gMax2, gMax3, nodup1, List.nodup_nil, gEq_int, gEq_str, atI_0, atI_1, atI_2, atI_3, atI_4, atI_5, ixN_40, ixN_41, ixN_42, ixN_43, gMul, Nat.reduceAdd, Nat.reduceSub, Nat.zero_add, Option.isSome_some, true_and, and_true, Option.some.injEq, exists_and_left, exists_eq_left, exists_eq_left', id_eq, ite_true, ite_false, reduceIte, Bool.false_eq_true, decide_eq_true_eq]
        refine h _ ?_
        rw [decide_eq_true_eq]
        constructor
        · intro e
          exact ⟨i, j, rfl, _, List.getElem?_eq_getElem hi, by rw [List.getElem?_eq_getElem hj, e]⟩
        · rintro ⟨i', j', e, x, g1, g2⟩
          simp only [D.tup.injEq, List.cons.injEq, D.int.injEq] at e
          have e1 : i = i' := by omega
          have e2 : j = j' := by omega
          subst e1 e2
          rw [List.getElem?_eq_getElem hi] at g1
          rw [List.getElem?_eq_getElem hj] at g2
          cases g1
          exact (Option.some.inj g2).symm
def sp_is_common : SpD := fun as Q => ∃ (one other : List Str) (d : D), as = [.sh (.lst (one.map D.str)), .sh (.lst (other.map D.str)), .sh d] ∧ TameL d ∧ one.length ≤ 200 ∧ other.length ≤ 200 ∧ ∀ b : Bool, (b = true ↔ GoodD one other d) → Q (.v (.bl b)) [.un, .un, .un]
theorem len_is_common {as : SL} {Q : Rv → SL → Prop} (h : sp_is_common as Q) : as.length = 3 := by
  obtain ⟨_, _, _, rfl, _⟩ := h
  rfl
theorem cut_from1 {α : Type} (l : List α) : cut l (some 1) none = l.drop 1 := cut_from l 1
theorem all_iff (bs : List Bool) : (bs.all id = true) ↔ ∀ b ∈ bs, b = true := by simp
theorem ok_is_common {f : Addr} {fd : FuncData} (Fn : Fun K "is_common" "is_common" s_is_common f fd) (z_all : mg "all" = none) {a_is_link : Addr} {d_is_link : FuncData} (f_is_link : Cal P w K mg base 3 "is_link" a_is_link d_is_link ["one", "other", "thing"] sp_is_link) (z_isinstance : mg "isinstance" = none) (z_list : mg "list" = none) (z_zip : mg "zip" = none) (z_len : mg "len" = none) {a_common_lengths : Addr} {d_common_lengths : FuncData} (f_common_lengths : Cal P w K mg base 1 "common_lengths" a_common_lengths d_common_lengths ["one", "other"] sp_common_lengths) : FnG P w K mg base CX0 4 f fd ["one", "other", "thing"] (lift K sp_is_common) := by
  have nd := sc_is_common.nd
  refine fnD Fn sc_is_common (fun as Q h => ?len) (fun cdv A outer s H hgd hr => ⟨_, _,
    (dss_cons (ds_if (dw_pt (dw_or (dt_not (dt_tr (do_e (de_isi (T := "list") (by rfl) z_isinstance (do_var (pv 2)) (by rfl) z_list (by decide +kernel) (by decide))))) (dw_or1 (dt_not (dt_tr (do_e (de_callB (cr_all rfl) sem_all (by rfl) z_all (by decide +kernel) (da_cons (do_e (de_lcF rfl nd (dic_var (pv 2)) (blkOk_by (own := [("item", 5)]) (N := ["one", "other", "thing", "earlier", "later", "item"]) (sc := defScope s_is_common) (by decide +kernel)) (fun _ _ _ _ _ => (dg_name (i := 5) nd rfl (.inl rfl))) (fun _ _ _ _ _ => dts_nil) (fun _ _ _ _ _ => (de_call f_is_link.ok hgd (hr.mono (by decide)) (by rfl) f_is_link.g f_is_link.kp f_is_link.b pass0 (dag_val (de_var (pv 0)) (dag_val (de_var (pv 1)) (dag_val (de_var (pv 5)) dag_nil))))))) da_nil)))))))) (dss_one (ds_ret de_bl)) dss_nil)
      (dss_cons (ds_for PassesOwn.never rfl (di_zip (by rfl) z_zip (dv_cons (de_var (pv 2)) (dv_cons (de_slice (do_var (pv 2)) (dop_some de_int) dop_none) dv_nil))) (dg_tup (n := 2) rfl (dgs_cons (dg_name (i := 3) nd rfl (.inl rfl)) (dgs_cons (dg_name (i := 4) nd rfl (.inl rfl)) dgs_nil)))
      (dss_one (ds_if (dw_pt (dw_or (dt_cmp op_ge sem_ge (do_e (de_ix (hu1 hr) (do_var (pv 3)) (do_e de_int))) (do_e (de_ix (hu1 hr) (do_var (pv 4)) (do_e de_int))) (nomark _)) (dw_or1 (dt_cmp op_ge sem_ge (do_e (de_ix (hu1 hr) (do_var (pv 3)) (do_e de_int))) (do_e (de_ix (hu1 hr) (do_var (pv 4)) (do_e de_int))) (nomark _))))) (dss_one (ds_ret de_bl)) dss_nil)))
      (dss_one (ds_ret (de_cmp (op_eqA (hu64 hr)) sem_eq (do_e (de_callB call_lenA sem_len (by rfl) z_len (by decide +kernel) (da_cons (do_var (pv 2)) da_nil))) (do_e (de_ix (hu1 hr) (do_e (de_ix (hu1 hr) (do_e (de_call f_common_lengths.ok hgd (hr.mono (by decide)) (by rfl) f_common_lengths.g f_common_lengths.kp f_common_lengths.b pass0 (dag_val (de_var (pv 0)) (dag_val (de_var (pv 1)) dag_nil)))) (do_e de_int))) (do_e de_int))) (nomark _)))))), fun as Q h => ?_⟩)
  case len => exact len_is_common h
  · obtain ⟨one, other, d, rfl, ⟨hd, hl⟩, l1, l2, h⟩ := h
    simp only [List.length_cons, List.length_nil, Nat.reduceAdd, Nat.reduceSub, List.replicate_succ, List.replicate_zero, List.cons_append, List.nil_append]
    have hF : ¬ GoodD one other d → Q (.v (.bl false)) [.un, .un, .un] := fun q => h false ⟨fun z => (Bool.false_ne_true z).elim, fun z => (q z).elim⟩
    refine sSeq_cut (fun ρ' => ∃ l, d = .lst l ∧ (∀ x ∈ l, LinkD one other x) ∧ ρ' = [.sh (.lst (one.map D.str)), .sh (.lst (other.map D.str)), .sh d, .un, .un, .un]) (fun N hN1 => ?_) ?_
    · cases d with
      | lst l =>
        obtain ⟨hz, ht⟩ := hl l rfl
        refine sIf_go fun T hT hF2 => ?_
        simp only [sSeq, sNext, sSet, sRet, sRetN, sIf, sAsg, sDrop, sPar, sBrk, sCnt, sFor, sStore, sAugI, sAug, dC, dVar, dTake, qVar, qE, aNil, aCons, dOp, dUn, dCallB, gets, Op.get, put, puts, dat_sh, dat_ow, dat_bw, dat_un, ty0, ty1, ty2, ty3, ty4, ty5, ty6, ty7, ty8, ty9, ty10, ty11, ty12, ty13, ty14, ty15, ty16, ty17, ty18, ty19, ty20, ty21, ty22, ty23, ty24, ty25, ty26, ty27, ty28, ty29, ty30, ty31, ty32, ty33, ty34, ty35, ty36, ty37, ty38, ty39, ty40, ty41, gIsi_non, gIsi_bl, gIsi_int, gIsi_str, gIsi_lst, gIsi_tup, gIsi_dct, gIsC, dMut0, mReverse, mPopAt, gEq_bl, gEq_strs, eq_self, Sl.cn, Sl.with, Cn.dat, Rv.dat, bOf, asB, bTr, gTruth, bAnd, bOr, bNot, dAnd, dOr, dNot, dIf, dChain, vNil, vCons, dTup, dLst, dDisp, psNil, psCons, keyed, D.key, gN, gT, gsNil, gsCons, rNil, rCons, srcE, srcR1, srcR2, srcR3, srcEnum, srcZip, srcC, srcV, itsOf, dLc, bYes, wipeD, agNil, agVal, agBor, mkArgs, bors, giveB, dCall, clean, dMut, slL, mAppend, mInsert, slC, cnSet, gAdd, gSubI, gDiv, gMod, gNeg, gCmpI, gIx, dSl, oNo, oE, gSl, dRev, dJoin, gAbs, gLen, gInt, gIsN, gList, Option.map_some, List.map_cons, List.map_nil, List.getElem?_cons_zero, List.getElem?_cons_succ, List.getElem?_nil, List.set_cons_zero, List.set_cons_succ, List.length_cons, List.length_nil, List.cons_append, List.nil_append, List.take_succ_cons, List.take_zero, List.replicate_succ, List.replicate_zero, gMin2, gMax2, gMax3, nodup1, List.nodup_nil, gEq_int, gEq_str, atI_0, atI_1, atI_2, atI_3, atI_4, atI_5, ixN_40, ixN_41, ixN_42, ixN_43, gMul, Nat.reduceAdd, Nat.reduceSub, Nat.zero_add, Option.isSome_some, true_and, and_true, Option.some.injEq, exists_and_left, exists_eq_left, exists_eq_left', id_eq, ite_true, ite_false, reduceIte, Bool.false_eq_true, decide_eq_true_eq, Bool.not_true, Bool.not_false]
        refine lcL_ix (fun i acc ρ => ρ = [.sh (.lst (one.map D.str)), .sh (.lst (other.map D.str)), .sh (.lst l), .un, .un, .un] ∧ ∃ bs : List Bool, acc = bs.map D.bl ∧ bs.length = i ∧ (bs.all id = true ↔ ∀ x ∈ l.take i, LinkD one other x))
          ⟨rfl, [], rfl, rfl, by simp⟩ ?_ ?_
        · rintro acc ρ ⟨rfl, bs, rfl, _, hb⟩
          rw [List.take_length] at hb
          simp only [sSeq, sNext, sSet, sRet, sRetN, sIf, sAsg, sDrop, sPar, sBrk, sCnt, sFor, sStore, sAugI, sAug, dC, dVar, dTake, qVar, qE, aNil, aCons, dOp, dUn, dCallB, gets, Op.get, put, puts, dat_sh, dat_ow, dat_bw, dat_un, ty0, ty1, ty2, ty3, ty4, ty5, ty6, ty7, ty8, ty9, ty10, ty11, ty12, ty13, ty14, ty15, ty16, ty17, ty18, ty19, ty20, ty21, ty22, ty23, ty24, ty25, ty26, ty27, ty28, ty29, ty30, ty31, ty32, ty33, ty34, ty35, ty36, ty37, ty38, ty39, ty40, ty41, gIsi_non, gIsi_bl, gIsi_int, gIsi_str, gIsi_lst, gIsi_tup, gIsi_dct, gIsC, dMut0, mReverse, mPopAt, gEq_bl, gEq_strs, eq_self, Sl.cn, Sl.with, Cn.dat, Rv.dat, bOf, asB, bTr, gTruth, bAnd, bOr, bNot, dAnd, dOr, dNot, dIf, dChain, vNil, vCons, dTup, dLst, dDisp, psNil, psCons, keyed, D.key, gN, gT, gsNil, gsCons, rNil, rCons, srcE, srcR1, srcR2, srcR3, srcEnum, srcZip, srcC, srcV, itsOf, dLc, bYes, wipeD, agNil, agVal, agBor, mkArgs, bors, giveB, dCall, clean, dMut, slL, mAppend, mInsert, slC, cnSet, gAdd, gSubI, gDiv, gMod, gNeg, gCmpI, gIx, dSl, oNo, oE, gSl, dRev, dJoin, gAbs, gLen, gInt, gIsN, gList, Option.map_some, List.map_cons, List.map_nil, List.getElem?_cons_zero, List.getElem?_cons_succ, List.getElem?_nil, List.set_cons_zero, List.set_cons_succ, List.length_cons, List.length_nil, List.cons_append, List.nil_append, List.take_succ_cons, List.take_zero, List.replicate_succ, List.replicate_zero, gMin2, gMax2, gMax3, nodup1, List.nodup_nil, gEq_int, gEq_str, atI_0, atI_1, atI_2, atI_3, atI_4, atI_5, ixN_40, ixN_41, ixN_42, ixN_43, gMul, Nat.reduceAdd, Nat.reduceSub, Nat.zero_add, Option.isSome_some, true_and, and_true, Option.some.injEq, exists_and_left, exists_eq_left, exists_eq_left', id_eq, ite_true, ite_false, reduceIte, Bool.false_eq_true, decide_eq_true_eq, gAny]
          refine ⟨bs, rfl, ?_⟩
          cases e : bs.all id with
          | true =>
            simp only [sSeq, sNext, sSet, sRet, sRetN, sIf, sAsg, sDrop, sPar, sBrk, sCnt, sFor, sStore, sAugI, sAug, dC, dVar, dTake, qVar, qE, aNil, aCons, dOp, dUn, dCallB, gets, Op.get, put, puts, dat_sh, dat_ow, dat_bw, dat_un, ty0, ty1, ty2, ty3, ty4, ty5, ty6, ty7, ty8, ty9, ty10, ty11, ty12, ty13, ty14, ty15, ty16, ty17, ty18, ty19, ty20, ty21, ty22, ty23, ty24, ty25, ty26, ty27, ty28, ty29, ty30, ty31, ty32, ty33, ty34, ty35, ty36, ty37, ty38, ty39, ty40, ty41, gIsi_non, gIsi_bl, gIsi_int, gIsi_str, gIsi_lst, gIsi_tup, gIsi_dct, gIsC, dMut0, mReverse, mPopAt, gEq_bl, gEq_strs, eq_self, Sl.cn, Sl.with, Cn.dat, Rv.dat, bOf, asB, bTr, gTruth, bAnd, bOr, bNot, dAnd, dOr, dNot, dIf, dChain, vNil, vCons, dTup, dLst, dDisp, psNil, psCons, keyed, D.key, gN, gT, gsNil, gsCons, rNil, rCons, srcE, srcR1, srcR2, srcR3, srcEnum, srcZip, srcC, srcV, itsOf, dLc, bYes, wipeD, agNil, agVal, agBor, mkArgs, bors, giveB, dCall, clean, dMut, slL, mAppend, mInsert, slC, cnSet, gAdd, gSubI, gDiv, gMod, gNeg, gCmpI, gIx, dSl, oNo, oE, gSl, dRev, dJoin, gAbs, gLen, gInt, gIsN, gList, Option.map_some, List.map_cons, List.map_nil, List.getElem?_cons_zero, List.getElem?_cons_succ, List.getElem?_nil, List.set_cons_zero, List.set_cons_succ, List.length_cons, List.length_nil, List.cons_append, List.nil_append, List.take_succ_cons, List.take_zero, List.replicate_succ, List.replicate_zero, gMin2, gMax2, gMax3, nodup1, List.nodup_nil, gEq_int, gEq_str, atI_0, atI_1, atI_2, atI_3, atI_4, atI_5, ixN_40, ixN_41, ixN_42, ixN_43, gMul, Nat.reduceAdd, Nat.reduceSub, Nat.zero_add, Option.isSome_some, true_and, and_true, Option.some.injEq, exists_and_left, exists_eq_left, exists_eq_left', id_eq, ite_true, ite_false, reduceIte, Bool.false_eq_true, decide_eq_true_eq, Bool.not_true]
            exact hF2 _ (hN1 _ ⟨l, rfl, hb.mp e, rfl⟩)
          | false =>
            simp only [sSeq, sNext, sSet, sRet, sRetN, sIf, sAsg, sDrop, sPar, sBrk, sCnt, sFor, sStore, sAugI, sAug, dC, dVar, dTake, qVar, qE, aNil, aCons, dOp, dUn, dCallB, gets, Op.get, put, puts, dat_sh, dat_ow, dat_bw, dat_un, ty0, ty1, ty2, ty3, ty4, ty5, ty6, ty7, ty8, ty9, ty10, ty11, ty12, ty13, ty14, ty15, ty16, ty17, ty18, ty19, ty20, ty21, ty22, ty23, ty24, ty25, ty26, ty27, ty28, ty29, ty30, ty31, ty32, ty33, ty34, ty35, ty36, ty37, ty38, ty39, ty40, ty41, gIsi_non, gIsi_bl, gIsi_int, gIsi_str, gIsi_lst, gIsi_tup, gIsi_dct, gIsC, dMut0, mReverse, mPopAt, gEq_bl, gEq_strs, eq_self, Sl.cn, Sl.with, Cn.dat, Rv.dat, bOf, asB, bTr, gTruth, bAnd, bOr, bNot, dAnd, dOr, dNot, dIf, dChain, vNil, vCons, dTup, dLst, dDisp, psNil, psCons, keyed, D.key, gN, gT, gsNil, gsCons, rNil, rCons, srcE, srcR1, srcR2, srcR3, srcEnum, srcZip, srcC, srcV, itsOf, dLc, bYes, wipeD, agNil, agVal, agBor, mkArgs, bors, giveB, dCall, clean, dMut, slL, mAppend, mInsert, slC, cnSet, gAdd, gSubI, gDiv, gMod, gNeg, gCmpI, gIx, dSl, oNo, oE, gSl, dRev, dJoin, gAbs, gLen, gInt, gIsN, gList, Option.map_some, List.map_cons, List.map_nil, List.getElem?_cons_zero, List.getElem?_cons_succ, List.getElem?_nil, List.set_cons_zero, List.set_cons_succ, List.length_cons, List.length_nil, List.cons_append, List.nil_append, List.take_succ_cons, List.take_zero, List.replicate_succ, List.replicate_zero, gMin2, gMax2, gMax3, nodup1, List.nodup_nil, gEq_int, gEq_str, atI_0, atI_1, atI_2, atI_3, atI_4, atI_5, ixN_40, ixN_41, ixN_42, ixN_43, gMul, Nat.reduceAdd, Nat.reduceSub, Nat.zero_add, Option.isSome_some, true_and, and_true, Option.some.injEq, exists_and_left, exists_eq_left, exists_eq_left', id_eq, ite_true, ite_false, reduceIte, Bool.false_eq_true, decide_eq_true_eq, Bool.not_false]
            refine hT _ ?_
            simp only [sSeq, sNext, sSet, sRet, sRetN, sIf, sAsg, sDrop, sPar, sBrk, sCnt, sFor, sStore, sAugI, sAug, dC, dVar, dTake, qVar, qE, aNil, aCons, dOp, dUn, dCallB, gets, Op.get, put, puts, dat_sh, dat_ow, dat_bw, dat_un, ty0, ty1, ty2, ty3, ty4, ty5, ty6, ty7, ty8, ty9, ty10, ty11, ty12, ty13, ty14, ty15, ty16, ty17, ty18, ty19, ty20, ty21, ty22, ty23, ty24, ty25, ty26, ty27, ty28, ty29, ty30, ty31, ty32, ty33, ty34, ty35, ty36, ty37, ty38, ty39, ty40, ty41, gIsi_non, gIsi_bl, gIsi_int, gIsi_str, gIsi_lst, gIsi_tup, gIsi_dct, gIsC, dMut0, mReverse, mPopAt, gEq_bl, gEq_strs, eq_self, Sl.cn, Sl.with, Cn.dat, Rv.dat, bOf, asB, bTr, gTruth, bAnd, bOr, bNot, dAnd, dOr, dNot, dIf, dChain, vNil, vCons, dTup, dLst, dDisp, psNil, psCons, keyed, D.key, gN, gT, gsNil, gsCons, rNil, rCons, srcE, srcR1, srcR2, srcR3, srcEnum, srcZip, srcC, srcV, itsOf, dLc, bYes, wipeD, agNil, agVal, agBor, mkArgs, bors, giveB, dCall, clean, dMut, slL, mAppend, mInsert, slC, cnSet, gAdd, gSubI, gDiv, gMod, gNeg, gCmpI, gIx, dSl, oNo, oE, gSl, dRev, dJoin, gAbs, gLen, gInt, gIsN, gList, Option.map_some, List.map_cons, List.map_nil, List.getElem?_cons_zero, List.getElem?_cons_succ, List.getElem?_nil, List.set_cons_zero, List.set_cons_succ, List.length_cons, List.length_nil, List.cons_append, List.nil_append, List.take_succ_cons, List.take_zero, List.replicate_succ, List.replicate_zero, gMin2, gMax2, gMax3, nodup1, List.nodup_nil, gEq_int, gEq_str, atI_0, atI_1, atI_2, atI_3, atI_4, atI_5, ixN_40, ixN_41, ixN_42, ixN_43, gMul, Nat.reduceAdd, Nat.reduceSub, Nat.zero_add, Option.isSome_some, true_and, and_true, Option.some.injEq, exists_and_left, exists_eq_left, exists_eq_left', id_eq, ite_true, ite_false, reduceIte, Bool.false_eq_true, decide_eq_true_eq]
            refine hF fun ⟨l', e1, _, e2, _⟩ => ?_
            cases e1
            rw [hb.mpr e2] at e
            cases e
        · rintro i x acc ρ N2 hx hN2 ⟨rfl, bs, rfl, hbl, hb⟩
          simp only [sSeq, sNext, sSet, sRet, sRetN, sIf, sAsg, sDrop, sPar, sBrk, sCnt, sFor, sStore, sAugI, sAug, dC, dVar, dTake, qVar, qE, aNil, aCons, dOp, dUn, dCallB, gets, Op.get, put, puts, dat_sh, dat_ow, dat_bw, dat_un, ty0, ty1, ty2, ty3, ty4, ty5, ty6, ty7, ty8, ty9, ty10, ty11, ty12, ty13, ty14, ty15, ty16, ty17, ty18, ty19, ty20, ty21, ty22, ty23, ty24, ty25, ty26, ty27, ty28, ty29, ty30, ty31, ty32, ty33, ty34, ty35, ty36, ty37, ty38, ty39, ty40, ty41, gIsi_non, gIsi_bl, gIsi_int, gIsi_str, gIsi_lst, gIsi_tup, gIsi_dct, gIsC, dMut0, mReverse, mPopAt, gEq_bl, gEq_strs, eq_self, Sl.cn, Sl.with, Cn.dat, Rv.dat, bOf, asB, bTr, gTruth, bAnd, bOr, bNot, dAnd, dOr, dNot, dIf, dChain, vNil, vCons, dTup, dLst, dDisp, psNil, psCons, keyed, D.key, gN, gT, gsNil, gsCons, rNil, rCons, srcE, srcR1, srcR2, srcR3, srcEnum, srcZip, srcC, srcV, itsOf, dLc, bYes, wipeD, agNil, agVal, agBor, mkArgs, bors, giveB, dCall, clean, dMut, slL, mAppend, mInsert, slC, cnSet, gAdd, gSubI, gDiv, gMod, gNeg, gCmpI, gIx, dSl, oNo, oE, gSl, dRev, dJoin, gAbs, gLen, gInt, gIsN, gList, Option.map_some, List.map_cons, List.map_nil, List.getElem?_cons_zero, List.getElem?_cons_succ, List.getElem?_nil, List.set_cons_zero, List.set_cons_succ, List.length_cons, List.length_nil, List.cons_append, List.nil_append, List.take_succ_cons, List.take_zero, List.replicate_succ, List.replicate_zero, gMin2, gMax2, gMax3, nodup1, List.nodup_nil, gEq_int, gEq_str, atI_0, atI_1, atI_2, atI_3, atI_4, atI_5, ixN_40, ixN_41, ixN_42, ixN_43, gMul, Nat.reduceAdd, Nat.reduceSub, Nat.zero_add, Option.isSome_some, true_and, and_true, Option.some.injEq, exists_and_left, exists_eq_left, exists_eq_left', id_eq, ite_true, ite_false, reduceIte, Bool.false_eq_true, decide_eq_true_eq]
          have hi := (List.getElem?_eq_some_iff.mp hx).1
          refine ⟨one, other, x, rfl, ht x (List.mem_of_getElem? hx), fun b hbb => ?_⟩
          simp only [sSeq, sNext, sSet, sRet, sRetN, sIf, sAsg, sDrop, sPar, sBrk, sCnt, sFor, sStore, sAugI, sAug, dC, dVar, dTake, qVar, qE, aNil, aCons, dOp, dUn, dCallB, gets, Op.get, put, puts, dat_sh, dat_ow, dat_bw, dat_un, ty0, ty1, ty2, ty3, ty4, ty5, ty6, ty7, ty8, ty9, ty10, ty11, ty12, ty13, ty14, ty15, ty16, ty17, ty18, ty19, ty20, ty21, ty22, ty23, ty24, ty25, ty26, ty27, ty28, ty29, ty30, ty31, ty32, ty33, ty34, ty35, ty36, ty37, ty38, ty39, ty40, ty41, gIsi_non, gIsi_bl, gIsi_int, gIsi_str, gIsi_lst, gIsi_tup, gIsi_dct, gIsC, dMut0, mReverse, mPopAt, gEq_bl, gEq_strs, eq_self, Sl.cn, Sl.with, Cn.dat, Rv.dat, bOf, asB, bTr, gTruth, bAnd, bOr, bNot, dAnd, dOr, dNot, dIf, dChain, vNil, vCons, dTup, dLst, dDisp, psNil, psCons, keyed, D.key, gN, gT, gsNil, gsCons, rNil, rCons, srcE, srcR1, srcR2, srcR3, srcEnum, srcZip, srcC, srcV, itsOf, dLc, bYes, wipeD, agNil, agVal, agBor, mkArgs, bors, giveB, dCall, clean, dMut, slL, mAppend, mInsert, slC, cnSet, gAdd, gSubI, gDiv, gMod, gNeg, gCmpI, gIx, dSl, oNo, oE, gSl, dRev, dJoin, gAbs, gLen, gInt, gIsN, gList, Option.map_some, List.map_cons, List.map_nil, List.getElem?_cons_zero, List.getElem?_cons_succ, List.getElem?_nil, List.set_cons_zero, List.set_cons_succ, List.length_cons, List.length_nil, List.cons_append, List.nil_append, List.take_succ_cons, List.take_zero, List.replicate_succ, List.replicate_zero, gMin2, gMax2, gMax3, nodup1, List.nodup_nil, gEq_int, gEq_str, atI_0, atI_1, atI_2, atI_3, atI_4, atI_5, ixN_40, ixN_41, ixN_42, ixN_43, gMul, Nat.reduceAdd, Nat.reduceSub, Nat.zero_add, Option.isSome_some, true_and, and_true, Option.some.injEq, exists_and_left, exists_eq_left, exists_eq_left', id_eq, ite_true, ite_false, reduceIte, Bool.false_eq_true, decide_eq_true_eq, List.length_map]
          refine ⟨lt_size (by omega), hN2 _ _ ⟨rfl, bs ++ [b], by simp, by simp [hbl], ?_⟩⟩
          rw [List.all_append, Bool.and_eq_true, hb, List.take_succ, hx]
          simp only [List.all_cons, List.all_nil, id_eq, Bool.and_true, hbb, List.mem_append, Option.toList_some, List.mem_singleton]
          constructor
          · rintro ⟨g1, g2⟩ y (hy | rfl)
            · exact g1 y hy
            · exact g2
          · intro g; exact ⟨fun y hy => g y (.inl hy), g x (.inr rfl)⟩
      | _ =>
        refine sIf_go fun T hT hF2 => ?_
        first
          | (cases hd; done)
          | (simp only [sSeq, sNext, sSet, sRet, sRetN, sIf, sAsg, sDrop, sPar, sBrk, sCnt, sFor, sStore, sAugI, sAug, dC, dVar, dTake, qVar, qE, aNil, aCons, dOp, dUn, dCallB, gets, Op.get, put, puts, dat_sh, dat_ow, dat_bw, dat_un, ty0, ty1, ty2, ty3, ty4, ty5, ty6, ty7, ty8, ty9, ty10, ty11, ty12, ty13, ty14, ty15, ty16, ty17, ty18, ty19, ty20, ty21, ty22, ty23, ty24, ty25, ty26, ty27, ty28, ty29, ty30, ty31, ty32, ty33, ty34, ty35, ty36, ty37, ty38, ty39, ty40, ty41, gIsi_non, gIsi_bl, gIsi_int, gIsi_str, gIsi_lst, gIsi_tup, gIsi_dct, gIsC, dMut0, mReverse, mPopAt, gEq_bl, gEq_strs, eq_self, Sl.cn, Sl.with, Cn.dat, Rv.dat, bOf, asB, bTr, gTruth, bAnd, bOr, bNot, dAnd, dOr, dNot, dIf, dChain, vNil, vCons, dTup, dLst, dDisp, psNil, psCons, keyed, D.key, gN, gT, gsNil, gsCons, rNil, rCons, srcE, srcR1, srcR2, srcR3, srcEnum, srcZip, srcC, srcV, itsOf, dLc, bYes, wipeD, agNil, agVal, agBor, mkArgs, bors, giveB, dCall, clean, dMut, slL, mAppend, mInsert, slC, cnSet, gAdd, gSubI, gDiv, gMod, gNeg, gCmpI, gIx, dSl, oNo, oE, gSl, dRev, dJoin, gAbs, gLen, gInt, gIsN, gList, Option.map_some, List.map_cons, List.map_nil, List.getElem?_cons_zero, List.getElem?_cons_succ, List.getElem?_nil, List.set_cons_zero, List.set_cons_succ, List.length_cons, List.length_nil, List.cons_append, List.nil_append, List.take_succ_cons, List.take_zero, List.replicate_succ, List.replicate_zero, gMin2, gMax2, gMax3, nodup1, List.nodup_nil, gEq_int, gEq_str, atI_0, atI_1, atI_2, atI_3, atI_4, atI_5, ixN_40, ixN_41, ixN_42, ixN_43, gMul, Nat.reduceAdd, Nat.reduceSub, Nat.zero_add, Option.isSome_some, true_and, and_true, Option.some.injEq, exists_and_left, exists_eq_left, exists_eq_left', id_eq, ite_true, ite_false, reduceIte, Bool.false_eq_true, decide_eq_true_eq, Bool.not_true, Bool.not_false]
             refine hT _ ?_
             simp only [sSeq, sNext, sSet, sRet, sRetN, sIf, sAsg, sDrop, sPar, sBrk, sCnt, sFor, sStore, sAugI, sAug, dC, dVar, dTake, qVar, qE, aNil, aCons, dOp, dUn, dCallB, gets, Op.get, put, puts, dat_sh, dat_ow, dat_bw, dat_un, ty0, ty1, ty2, ty3, ty4, ty5, ty6, ty7, ty8, ty9, ty10, ty11, ty12, ty13, ty14, ty15, ty16, ty17, ty18, ty19, ty20, ty21, ty22, ty23, ty24, ty25, ty26, ty27, ty28, ty29, ty30, ty31, ty32, ty33, ty34, ty35, ty36, ty37, ty38, ty39, ty40, ty41, gIsi_non, gIsi_bl, gIsi_int, gIsi_str, gIsi_lst, gIsi_tup, gIsi_dct, gIsC, dMut0, mReverse, mPopAt, gEq_bl, gEq_strs, eq_self, Sl.cn, Sl.with, Cn.dat, Rv.dat, bOf, asB, bTr, gTruth, bAnd, bOr, bNot, dAnd, dOr, dNot, dIf, dChain, vNil, vCons, dTup, dLst, dDisp, psNil, psCons, keyed, D.key, gN, gT, gsNil, gsCons, rNil, rCons, srcE, srcR1, srcR2, srcR3, srcEnum, srcZip, srcC, srcV, itsOf, dLc, bYes, wipeD, agNil, agVal, agBor, mkArgs, bors, giveB, dCall, clean, dMut, slL, mAppend, mInsert, slC, cnSet, gAdd, gSubI, gDiv, gMod, gNeg, gCmpI, gIx, dSl, oNo, oE, gSl, dRev, dJoin, gAbs, gLen, gInt, gIsN, gList, Option.map_some, List.map_cons, List.map_nil, List.getElem?_cons_zero, List.getElem?_cons_succ, List.getElem?_nil, List.set_cons_zero, List.set_cons_succ, List.length_cons, List.length_nil, List.cons_append, List.nil_append, List.take_succ_cons, List.take_zero, List.replicate_succ, List.replicate_zero, gMin2, gMax2, gMax3, nodup1, List.nodup_nil, gEq_int, gEq_str, atI_0, atI_1, atI_2, atI_3, atI_4, atI_5, ixN_40, ixN_41, ixN_42, ixN_43, gMul, Nat.reduceAdd, Nat.reduceSub, Nat.zero_add, Option.isSome_some, true_and, and_true, Option.some.injEq, exists_and_left, exists_eq_left, exists_eq_left', id_eq, ite_true, ite_false, reduceIte, Bool.false_eq_true, decide_eq_true_eq]
             exact hF fun ⟨l', e1, _⟩ => by cases e1)
    · rintro ρ' ⟨l, rfl, hL, rfl⟩
      obtain ⟨hz, ht⟩ := hl l rfl
      refine sSeq_cut (fun ρ' => (∀ (k : Nat) (d e : D), l[k]? = some d → l[k + 1]? = some e → AscD d e) ∧ ∃ s3 s4 s5, ρ' = [.sh (.lst (one.map D.str)), .sh (.lst (other.map D.str)), .sh (.lst l), s3, s4, s5]) (fun N hN1 => ?_) ?_
      · simp only [sSeq, sNext, sSet, sRet, sRetN, sIf, sAsg, sDrop, sPar, sBrk, sCnt, sFor, sStore, sAugI, sAug, dC, dVar, dTake, qVar, qE, aNil, aCons, dOp, dUn, dCallB, gets, Op.get, put, puts, dat_sh, dat_ow, dat_bw, dat_un, ty0, ty1, ty2, ty3, ty4, ty5, ty6, ty7, ty8, ty9, ty10, ty11, ty12, ty13, ty14, ty15, ty16, ty17, ty18, ty19, ty20, ty21, ty22, ty23, ty24, ty25, ty26, ty27, ty28, ty29, ty30, ty31, ty32, ty33, ty34, ty35, ty36, ty37, ty38, ty39, ty40, ty41, gIsi_non, gIsi_bl, gIsi_int, gIsi_str, gIsi_lst, gIsi_tup, gIsi_dct, gIsC, dMut0, mReverse, mPopAt, gEq_bl, gEq_strs, eq_self, Sl.cn, Sl.with, Cn.dat, Rv.dat, bOf, asB, bTr, gTruth, bAnd, bOr, bNot, dAnd, dOr, dNot, dIf, dChain, vNil, vCons, dTup, dLst, dDisp, psNil, psCons, keyed, D.key, gN, gT, gsNil, gsCons, rNil, rCons, srcE, srcR1, srcR2, srcR3, srcEnum, srcZip, srcC, srcV, itsOf, dLc, bYes, wipeD, agNil, agVal, agBor, mkArgs, bors, giveB, dCall, clean, dMut, slL, mAppend, mInsert, slC, cnSet, gAdd, gSubI, gDiv, gMod, gNeg, gCmpI, gIx, dSl, oNo, oE, gSl, dRev, dJoin, gAbs, gLen, gInt, gIsN, gList, Option.map_some, List.map_cons, List.map_nil, List.getElem?_cons_zero, List.getElem?_cons_succ, List.getElem?_nil, List.set_cons_zero, List.set_cons_succ, List.length_cons, List.length_nil, List.cons_append, List.nil_append, List.take_succ_cons, List.take_zero, List.replicate_succ, List.replicate_zero, gMin2, gMax2, gMax3, nodup1, List.nodup_nil, gEq_int, gEq_str, atI_0, atI_1, atI_2, atI_3, atI_4, atI_5, ixN_40, ixN_41, ixN_42, ixN_43, gMul, Nat.reduceAdd, Nat.reduceSub, Nat.zero_add, Option.isSome_some, true_and, and_true, Option.some.injEq, exists_and_left, exists_eq_left, exists_eq_left', id_eq, ite_true, ite_false, reduceIte, Bool.false_eq_true, decide_eq_true_eq, cut_from1]
        refine forL_ix (fun i ρ => (∀ (k : Nat) (d e : D), k < i → l[k]? = some d → l[k + 1]? = some e → AscD d e) ∧ ∃ s3 s4 s5, ρ = [.sh (.lst (one.map D.str)), .sh (.lst (other.map D.str)), .sh (.lst l), s3, s4, s5]) ⟨fun k _ _ hk => by omega, _, _, _, rfl⟩ ?_ ?_
        · rintro ρ ⟨ha, s3, s4, s5, rfl⟩
          refine hN1 _ ⟨fun k d e h1 h2 => ha k d e ?_ h1 h2, s3, s4, s5, rfl⟩
          have := (List.getElem?_eq_some_iff.mp h2).1
          rw [zipD, List.length_zipWith, List.length_drop]
          omega
        · rintro i x ρ N2 hx hN2 ⟨ha, s3, s4, s5, rfl⟩
          rw [zipD, List.getElem?_zipWith, List.getElem?_drop] at hx
          cases e1 : l[i]? with
          | none => rw [e1] at hx; cases hx
          | some d1 =>
            cases e2 : l[1 + i]? with
            | none => rw [e1, e2] at hx; cases hx
            | some d2 =>
              rw [e1, e2] at hx
              cases hx
              obtain ⟨i1, j1, rfl, -⟩ := hL _ (List.mem_of_getElem? e1)
              obtain ⟨i2, j2, rfl, -⟩ := hL _ (List.mem_of_getElem? e2)
              rw [Nat.add_comm] at e2
              have hbad : ¬ ((i1 : Int) < i2 ∧ (j1 : Int) < j2) → ¬ GoodD one other (.lst l) := by
                rintro q ⟨l', e, _, _, g⟩
                cases e
                exact q (g i _ _ e1 e2 _ _ _ _ rfl rfl)
              simp only [gT, gsCons, gsNil, gN, List.length_cons, List.length_nil, List.set_cons_succ, List.set_cons_zero, Nat.reduceAdd, true_and]
              refine sIf_go fun T hT hF2 => ?_
              simp only [sSeq, sNext, sSet, sRet, sRetN, sIf, sAsg, sDrop, sPar, sBrk, sCnt, sFor, sStore, sAugI, sAug, dC, dVar, dTake, qVar, qE, aNil, aCons, dOp, dUn, dCallB, gets, Op.get, put, puts, dat_sh, dat_ow, dat_bw, dat_un, ty0, ty1, ty2, ty3, ty4, ty5, ty6, ty7, ty8, ty9, ty10, ty11, ty12, ty13, ty14, ty15, ty16, ty17, ty18, ty19, ty20, ty21, ty22, ty23, ty24, ty25, ty26, ty27, ty28, ty29, ty30, ty31, ty32, ty33, ty34, ty35, ty36, ty37, ty38, ty39, ty40, ty41, gIsi_non, gIsi_bl, gIsi_int, gIsi_str, gIsi_lst, gIsi_tup, gIsi_dct, gIsC, dMut0, mReverse, mPopAt, gEq_bl, gEq_strs, eq_self, Sl.cn, Sl.with, Cn.dat, Rv.dat, bOf, asB, bTr, gTruth, bAnd, bOr, bNot, dAnd, dOr, dNot, dIf, dChain, vNil, vCons, dTup, dLst, dDisp, psNil, psCons, keyed, D.key, gN, gT, gsNil, gsCons, rNil, rCons, srcE, srcR1, srcR2, srcR3, srcEnum, srcZip, srcC, srcV, itsOf, dLc, bYes, wipeD, agNil, agVal, agBor, mkArgs, bors, giveB, dCall, clean, dMut, slL, mAppend, mInsert, slC, cnSet, gAdd, gSubI, gDiv, gMod, gNeg, gCmpI, gIx, dSl, oNo, oE, gSl, dRev, dJoin, gAbs, gLen, gInt, gIsN, gList, Option.map_some, List.map_cons, List.map_nil, List.getElem?_cons_zero, List.getElem?_cons_succ, List.getElem?_nil, List.set_cons_zero, List.set_cons_succ, List.length_cons, List.length_nil, List.cons_append, List.nil_append, List.take_succ_cons, List.take_zero, List.replicate_succ, List.replicate_zero, gMin2, gMax2, gMax3, nodup1, List.nodup_nil, gEq_int, gEq_str, atI_0, atI_1, atI_2, atI_3, atI_4, atI_5, ixN_40, ixN_41, ixN_42, ixN_43, gMul, Nat.reduceAdd, Nat.reduceSub, Nat.zero_add, Option.isSome_some, true_and, and_true, Option.some.injEq, exists_and_left, exists_eq_left, exists_eq_left', id_eq, ite_true, ite_false, reduceIte, Bool.false_eq_true, decide_eq_true_eq]
              by_cases g1 : (i2 : Int) ≤ i1
              · simp only [g1, decide_true, if_true]
                refine hT _ ?_
                simp only [sSeq, sNext, sSet, sRet, sRetN, sIf, sAsg, sDrop, sPar, sBrk, sCnt, sFor, sStore, sAugI, sAug, dC, dVar, dTake, qVar, qE, aNil, aCons, dOp, dUn, dCallB, gets, Op.get, put, puts, dat_sh, dat_ow, dat_bw, dat_un, ty0, ty1, ty2, ty3, ty4, ty5, ty6, ty7, ty8, ty9, ty10, ty11, ty12, ty13, ty14, ty15, ty16, ty17, ty18, ty19, ty20, ty21, ty22, ty23, ty24, ty25, ty26, ty27, ty28, ty29, ty30, ty31, ty32, ty33, ty34, ty35, ty36, ty37, ty38, ty39, ty40, ty41, gIsi_non, gIsi_bl, gIsi_int, gIsi_str, gIsi_lst, gIsi_tup, gIsi_dct, gIsC, dMut0, mReverse, mPopAt, gEq_bl, gEq_strs, eq_self, Sl.cn, Sl.with, Cn.dat, Rv.dat, bOf, asB, bTr, gTruth, bAnd, bOr, bNot, dAnd, dOr, dNot, dIf, dChain, vNil, vCons, dTup, dLst, dDisp, psNil, psCons, keyed, D.key, gN, gT, gsNil, gsCons, rNil, rCons, srcE, srcR1, srcR2, srcR3, srcEnum, srcZip, srcC, srcV, itsOf, dLc, bYes, wipeD, agNil, agVal, agBor, mkArgs, bors, giveB, dCall, clean, dMut, slL, mAppend, mInsert, slC, cnSet, gAdd, gSubI, gDiv, gMod, gNeg, gCmpI, gIx, dSl, oNo, oE, gSl, dRev, dJoin, gAbs, gLen, gInt, gIsN, gList, Option.map_some, List.map_cons, List.map_nil, List.getElem?_cons_zero, List.getElem?_cons_succ, List.getElem?_nil, List.set_cons_zero, List.set_cons_succ, List.length_cons, List.length_nil, List.cons_append, List.nil_append, List.take_succ_cons, List.take_zero, List.replicate_succ, List.replicate_zero, gMin2, gMax2, gMax3, nodup1, List.nodup_nil, gEq_int, gEq_str, atI_0, atI_1, atI_2, atI_3, atI_4, atI_5, ixN_40, ixN_41, ixN_42, ixN_43, gMul, Nat.reduceAdd, Nat.reduceSub, Nat.zero_add, Option.isSome_some, true_and, and_true, Option.some.injEq, exists_and_left, exists_eq_left, exists_eq_left', id_eq, ite_true, ite_false, reduceIte, Bool.false_eq_true, decide_eq_true_eq]
                exact hF (hbad (by omega))
              · by_cases g2 : (j2 : Int) ≤ j1
                · simp only [g1, g2, decide_false, decide_true, if_true, if_false, Bool.false_eq_true]
                  refine hT _ ?_
                  simp only [sSeq, sNext, sSet, sRet, sRetN, sIf, sAsg, sDrop, sPar, sBrk, sCnt, sFor, sStore, sAugI, sAug, dC, dVar, dTake, qVar, qE, aNil, aCons, dOp, dUn, dCallB, gets, Op.get, put, puts, dat_sh, dat_ow, dat_bw, dat_un, ty0, ty1, ty2, ty3, ty4, ty5, ty6, ty7, ty8, ty9, ty10, ty11, ty12, ty13, ty14, ty15, ty16, ty17, ty18, ty19, ty20, ty21, ty22, ty23, ty24, ty25, ty26, ty27, ty28, ty29, ty30, ty31, ty32, ty33, ty34, ty35, ty36, ty37, ty38, ty39, ty40, ty41, gIsi_non, gIsi_bl, gIsi_int, gIsi_str, gIsi_lst, gIsi_tup, gIsi_dct, gIsC, dMut0, mReverse, mPopAt, gEq_bl, gEq_strs, eq_self, Sl.cn, Sl.with, Cn.dat, Rv.dat, bOf, asB, bTr, gTruth, bAnd, bOr, bNot, dAnd, dOr, dNot, dIf, dChain, vNil, vCons, dTup, dLst, dDisp, psNil, psCons, keyed, D.key, gN, gT, gsNil, gsCons, rNil, rCons, srcE, srcR1, srcR2, srcR3, srcEnum, srcZip, srcC, srcV, itsOf, dLc, bYes, wipeD, agNil, agVal, agBor, mkArgs, bors, giveB, dCall, clean, dMut, slL, mAppend, mInsert, slC, cnSet, gAdd, gSubI, gDiv, gMod, gNeg, gCmpI, gIx, dSl, oNo, oE, gSl, dRev, dJoin, gAbs, gLen, gInt, gIsN, gList, Option.map_some, List.map_cons, List.map_nil, List.getElem?_cons_zero, List.getElem?_cons_succ, List.getElem?_nil, List.set_cons_zero, List.set_cons_succ, List.length_cons, List.length_nil, List.cons_append, List.nil_append, List.take_succ_cons, List.take_zero, List.replicate_succ, List.replicate_zero, gMin2, gMax2, gMax3, nodup1, List.nodup_nil, gEq_int, gEq_str, atI_0, atI_1, atI_2, atI_3, atI_4, atI_5, ixN_40, ixN_41, ixN_42, ixN_43, gMul, Nat.reduceAdd, Nat.reduceSub, Nat.zero_add, Option.isSome_some, true_and, and_true, Option.some.injEq, exists_and_left, exists_eq_left, exists_eq_left', id_eq, ite_true, ite_false, reduceIte, Bool.false_eq_true, decide_eq_true_eq]
                  exact hF (hbad (by omega))
                · simp only [g1, g2, decide_false, if_false, Bool.false_eq_true]
                  refine hF2 _ ?_
                  refine hN2 _ ⟨fun k d e hk h1 h2 => ?_, _, _, _, rfl⟩
                  by_cases q : k = i
                  · subst q
                    rw [e1] at h1
                    rw [e2] at h2
                    cases h1; cases h2
                    intro a b c d z1 z2
                    simp only [D.tup.injEq, List.cons.injEq, D.int.injEq] at z1 z2
                    omega
                  · exact ha k d e (by omega) h1 h2
      · rintro ρ' ⟨ha, s3, s4, s5, rfl⟩
        simp only [sSeq, sNext, sSet, sRet, sRetN, sIf, sAsg, sDrop, sPar, sBrk, sCnt, sFor, sStore, sAugI, sAug, dC, dVar, dTake, qVar, qE, aNil, aCons, dOp, dUn, dCallB, gets, Op.get, put, puts, dat_sh, dat_ow, dat_bw, dat_un, ty0, ty1, ty2, ty3, ty4, ty5, ty6, ty7, ty8, ty9, ty10, ty11, ty12, ty13, ty14, ty15, ty16, ty17, ty18, ty19, ty20, ty21, ty22, ty23, ty24, ty25, ty26, ty27, ty28, ty29, ty30, ty31, ty32, ty33, ty34, ty35, ty36, ty37, ty38, ty39, ty40, ty41, gIsi_non, gIsi_bl, gIsi_int, gIsi_str, gIsi_lst, gIsi_tup, gIsi_dct, gIsC, dMut0, mReverse, mPopAt, gEq_bl, gEq_strs, eq_self, Sl.cn, Sl.with, Cn.dat, Rv.dat, bOf, asB, bTr, gTruth, bAnd, bOr, bNot, dAnd, dOr, dNot, dIf, dChain, vNil, vCons, dTup, dLst, dDisp, psNil, psCons, keyed, D.key, gN, gT, gsNil, gsCons, rNil, rCons, srcE, srcR1, srcR2, srcR3, srcEnum, srcZip, srcC, srcV, itsOf, dLc, bYes, wipeD, agNil, agVal, agBor, mkArgs, bors, giveB, dCall, clean, dMut, slL, mAppend, mInsert, slC, cnSet, gAdd, gSubI, gDiv, gMod, gNeg, gCmpI, gIx, dSl, oNo, oE, gSl, dRev, dJoin, gAbs, gLen, gInt, gIsN, gList, Option.map_some, List.map_cons, List.map_nil, List.getElem?_cons_zero, List.getElem?_cons_succ, List.getElem?_nil, List.set_cons_zero, List.set_cons_succ, List.length_cons, List.length_nil, List.cons_append, List.nil_append, List.take_succ_cons, List.take_zero, List.replicate_succ, List.replicate_zero, gMin2, gMax2, gMax3, nodup1, List.nodup_nil, gEq_int, gEq_str, atI_0, atI_1, atI_2, atI_3, atI_4, atI_5, ixN_40, ixN_41, ixN_42, ixN_43, gMul, Nat.reduceAdd, Nat.reduceSub, Nat.zero_add, Option.isSome_some, true_and, and_true, Option.some.injEq, exists_and_left, exists_eq_left, exists_eq_left', id_eq, ite_true, ite_false, reduceIte, Bool.false_eq_true, decide_eq_true_eq]
        refine ⟨one, other, rfl, l1, l2, ?_⟩
        simp only [sSeq, sNext, sSet, sRet, sRetN, sIf, sAsg, sDrop, sPar, sBrk, sCnt, sFor, sStore, sAugI, sAug, dC, dVar, dTake, qVar, qE, aNil, aCons, dOp, dUn, dCallB, gets, Op.get, put, puts, dat_sh, dat_ow, dat_bw, dat_un, ty0, ty1, ty2, ty3, ty4, ty5, ty6, ty7, ty8, ty9, ty10, ty11, ty12, ty13, ty14, ty15, ty16, ty17, ty18, ty19, ty20, ty21, ty22, ty23, ty24, ty25, ty26, ty27, ty28, ty29, ty30, ty31, ty32, ty33, ty34, ty35, ty36, ty37, ty38, ty39, ty40, ty41, gIsi_non, gIsi_bl, gIsi_int, gIsi_str, gIsi_lst, gIsi_tup, gIsi_dct, gIsC, dMut0, mReverse, mPopAt, gEq_bl, gEq_strs, eq_self, Sl.cn, Sl.with, Cn.dat, Rv.dat, bOf, asB, bTr, gTruth, bAnd, bOr, bNot, dAnd, dOr, dNot, dIf, dChain, vNil, vCons, dTup, dLst, dDisp, psNil, psCons, keyed, D.key, gN, gT, gsNil, gsCons, rNil, rCons, srcE, srcR1, srcR2, srcR3, srcEnum, srcZip, srcC, srcV, itsOf, dLc, bYes, wipeD, agNil, agVal, agBor, mkArgs, bors, giveB, dCall, clean, dMut, slL, mAppend, mInsert, slC, cnSet, gAdd, gSubI, gDiv, gMod, gNeg, gCmpI, gIx, dSl, oNo, oE, gSl, dRev, dJoin, gAbs, gLen, gInt, gIsN, gList, Option.map_some, List.map_cons, List.map_nil, List.getElem?_cons_zero, List.getElem?_cons_succ, List.getElem?_nil, List.set_cons_zero, List.set_cons_succ, List.length_cons, List.length_nil, List.cons_append, List.nil_append, List.take_succ_cons, List.take_zero, List.replicate_succ, List.replicate_zero, gMin2, gMax2, gMax3, nodup1, List.nodup_nil, gEq_int, gEq_str, atI_0, atI_1, atI_2, atI_3, atI_4, atI_5, ixN_40, ixN_41, ixN_42, ixN_43, gMul, Nat.reduceAdd, Nat.reduceSub, Nat.zero_add, Option.isSome_some, true_and, and_true, Option.some.injEq, exists_and_left, exists_eq_left, exists_eq_left', id_eq, ite_true, ite_false, reduceIte, Bool.false_eq_true, decide_eq_true_eq, tabD_zero]
        refine ⟨_, rowD_at 0 (by decide) (by omega), ?_⟩
        simp only [sSeq, sNext, sSet, sRet, sRetN, sIf, sAsg, sDrop, sPar, sBrk, sCnt, sFor, sStore, sAugI, sAug, dC, dVar, dTake, qVar, qE, aNil, aCons, dOp, dUn, dCallB, gets, Op.get, put, puts, dat_sh, dat_ow, dat_bw, dat_un, ty0, ty1, ty2, ty3, ty4, ty5, ty6, ty7, ty8, ty9, ty10, ty11, ty12, ty13, ty14, ty15, ty16, ty17, ty18, ty19, ty20, ty21, ty22, ty23, ty24, ty25, ty26, ty27, ty28, ty29, ty30, ty31, ty32, ty33, ty34, ty35, ty36, ty37, ty38, ty39, ty40, ty41, gIsi_non, gIsi_bl, gIsi_int, gIsi_str, gIsi_lst, gIsi_tup, gIsi_dct, gIsC, dMut0, mReverse, mPopAt, gEq_bl, gEq_strs, eq_self, Sl.cn, Sl.with, Cn.dat, Rv.dat, bOf, asB, bTr, gTruth, bAnd, bOr, bNot, dAnd, dOr, dNot, dIf, dChain, vNil, vCons, dTup, dLst, dDisp, psNil, psCons, keyed, D.key, gN, gT, gsNil, gsCons, rNil, rCons, srcE, srcR1, srcR2, srcR3, srcEnum, srcZip, srcC, srcV, itsOf, dLc, bYes, wipeD, agNil, agVal, agBor, mkArgs, bors, giveB, dCall, clean, dMut, slL, mAppend, mInsert, slC, cnSet, gAdd, gSubI, gDiv, gMod, gNeg, gCmpI, gIx, dSl, oNo, oE, gSl, dRev, dJoin, gAbs, gLen, gInt, gIsN, gList, Option.map_some, List.map_cons, List.map_nil, List.getElem?_cons_zero, List.getElem?_cons_succ, List.getElem?_nil, List.set_cons_zero, List.set_cons_succ, List.length_cons, List.length_nil, List.cons_append, List.nil_append, List.take_succ_cons, List.take_zero, List.replicate_succ, List.replicate_zero, gMin2, gMax2, gMax3, nodup1, List.nodup_nil, gEq_int, gEq_str, atI_0, atI_1, atI_2, atI_3, atI_4, atI_5, ixN_40, ixN_41, ixN_42, ixN_43, gMul, Nat.reduceAdd, Nat.reduceSub, Nat.zero_add, Option.isSome_some, true_and, and_true, Option.some.injEq, exists_and_left, exists_eq_left, exists_eq_left', id_eq, ite_true, ite_false, reduceIte, Bool.false_eq_true, decide_eq_true_eq, List.drop_zero]
        refine h _ ?_
        rw [decide_eq_true_eq]
        constructor
        · intro e; exact ⟨l, rfl, by omega, hL, ha⟩
        · rintro ⟨l', e, e2, _⟩; cases e; omega
def sp_distance : SpD := fun as Q => ∃ (one other : List Str), as = [.sh (.lst (one.map D.str)), .sh (.lst (other.map D.str))] ∧ one.length ≤ 200 ∧ other.length ≤ 200 ∧ Q (.v (.int (one.length + other.length - 2 * lcs one other))) [.un, .un]
theorem len_distance {as : SL} {Q : Rv → SL → Prop} (h : sp_distance as Q) : as.length = 2 := by
  obtain ⟨_, _, rfl, _⟩ := h
  rfl
theorem ok_distance {f : Addr} {fd : FuncData} (Fn : Fun K "distance" "distance" s_distance f fd) (z_len : mg "len" = none) {a_common_lengths : Addr} {d_common_lengths : FuncData} (f_common_lengths : Cal P w K mg base 1 "common_lengths" a_common_lengths d_common_lengths ["one", "other"] sp_common_lengths) : FnG P w K mg base CX0 2 f fd ["one", "other"] (lift K sp_distance) := by
  have nd := sc_distance.nd
  refine fnD Fn sc_distance (fun as Q h => ?len) (fun cdv A outer s H hgd hr => ⟨_, _,
    (dss_one (ds_ret (de_op op_sub sem_sub (do_e (de_op op_addA sem_addA (do_e (de_callB call_lenA sem_len (by rfl) z_len (by decide +kernel) (da_cons (do_var (pv 0)) da_nil))) (do_e (de_callB call_lenA sem_len (by rfl) z_len (by decide +kernel) (da_cons (do_var (pv 1)) da_nil))))) (do_e (de_op op_mulA sem_mulA (do_e de_int) (do_e (de_ix (hu1 hr) (do_e (de_ix (hu1 hr) (do_e (de_call f_common_lengths.ok hgd (hr.mono (by decide)) (by rfl) f_common_lengths.g f_common_lengths.kp f_common_lengths.b pass0 (dag_val (de_var (pv 0)) (dag_val (de_var (pv 1)) dag_nil)))) (do_e de_int))) (do_e de_int)))))))), fun as Q h => ?_⟩)
  case len => exact len_distance h
  · obtain ⟨one, other, rfl, h1, h2, h⟩ := h
    simp only [sSeq, sNext, sSet, sRet, sRetN, sIf, sAsg, sDrop, sPar, sBrk, sCnt, sFor, sStore, sAugI, sAug, dC, dVar, dTake, qVar, qE, aNil, aCons, dOp, dUn, dCallB, gets, Op.get, put, puts, dat_sh, dat_ow, dat_bw, dat_un, ty0, ty1, ty2, ty3, ty4, ty5, ty6, ty7, ty8, ty9, ty10, ty11, ty12, ty13, ty14, ty15, ty16, ty17, ty18, ty19, ty20, ty21, ty22, ty23, ty24, ty25, ty26, ty27, ty28, ty29, ty30, ty31, ty32, ty33, ty34, ty35, ty36, ty37, ty38, ty39, ty40, ty41, gIsi_non, gIsi_bl, gIsi_int, gIsi_str, gIsi_lst, gIsi_tup, gIsi_dct, gIsC, dMut0, mReverse, mPopAt, gEq_bl, gEq_strs, eq_self, Sl.cn, Sl.with, Cn.dat, Rv.dat, bOf, asB, bTr, gTruth, bAnd, bOr, bNot, dAnd, dOr, dNot, dIf, dChain, vNil, vCons, dTup, dLst, dDisp, psNil, psCons, keyed, D.key, gN, gT, gsNil, gsCons, rNil, rCons, srcE, srcR1, srcR2, srcR3, srcEnum, srcZip, srcC, srcV, itsOf, dLc, bYes, wipeD, agNil, agVal, agBor, mkArgs, bors, giveB, dCall, clean, dMut, slL, mAppend, mInsert, slC, cnSet, gAdd, gSubI, gDiv, gMod, gNeg, gCmpI, gIx, dSl, oNo, oE, gSl, dRev, dJoin, gAbs, gLen, gInt, gIsN, gList, Option.map_some, List.map_cons, List.map_nil, List.getElem?_cons_zero, List.getElem?_cons_succ, List.getElem?_nil, List.set_cons_zero, List.set_cons_succ, List.length_cons, List.length_nil, List.cons_append, List.nil_append, List.take_succ_cons, List.take_zero, List.replicate_succ, List.replicate_zero, gMin2, gMax2, gMax3, nodup1, List.nodup_nil, gEq_int, gEq_str, atI_0, atI_1, atI_2, atI_3, atI_4, atI_5, ixN_40, ixN_41, ixN_42, ixN_43, gMul, Nat.reduceAdd, Nat.reduceSub, Nat.zero_add, Option.isSome_some, true_and, and_true, Option.some.injEq, exists_and_left, exists_eq_left, exists_eq_left', id_eq, ite_true, ite_false, reduceIte, Bool.false_eq_true, decide_eq_true_eq, List.length_map]
    refine ⟨one, other, rfl, h1, h2, ?_⟩
    have := lcs_le one other
    simp only [sSeq, sNext, sSet, sRet, sRetN, sIf, sAsg, sDrop, sPar, sBrk, sCnt, sFor, sStore, sAugI, sAug, dC, dVar, dTake, qVar, qE, aNil, aCons, dOp, dUn, dCallB, gets, Op.get, put, puts, dat_sh, dat_ow, dat_bw, dat_un, ty0, ty1, ty2, ty3, ty4, ty5, ty6, ty7, ty8, ty9, ty10, ty11, ty12, ty13, ty14, ty15, ty16, ty17, ty18, ty19, ty20, ty21, ty22, ty23, ty24, ty25, ty26, ty27, ty28, ty29, ty30, ty31, ty32, ty33, ty34, ty35, ty36, ty37, ty38, ty39, ty40, ty41, gIsi_non, gIsi_bl, gIsi_int, gIsi_str, gIsi_lst, gIsi_tup, gIsi_dct, gIsC, dMut0, mReverse, mPopAt, gEq_bl, gEq_strs, eq_self, Sl.cn, Sl.with, Cn.dat, Rv.dat, bOf, asB, bTr, gTruth, bAnd, bOr, bNot, dAnd, dOr, dNot, dIf, dChain, vNil, vCons, dTup, dLst, dDisp, psNil, psCons, keyed, D.key, gN, gT, gsNil, gsCons, rNil, rCons, srcE, srcR1, srcR2, srcR3, srcEnum, srcZip, srcC, srcV, itsOf, dLc, bYes, wipeD, agNil, agVal, agBor, mkArgs, bors, giveB, dCall, clean, dMut, slL, mAppend, mInsert, slC, cnSet, gAdd, gSubI, gDiv, gMod, gNeg, gCmpI, gIx, dSl, oNo, oE, gSl, dRev, dJoin, gAbs, gLen, gInt, gIsN, gList, Option.map_some, List.map_cons, List.map_nil, List.getElem?_cons_zero, List.getElem?_cons_succ, List.getElem?_nil, List.set_cons_zero, List.set_cons_succ, List.length_cons, List.length_nil, List.cons_append, List.nil_append, List.take_succ_cons, List.take_zero, List.replicate_succ, List.replicate_zero, gMin2, gMax2, gMax3, nodup1, List.nodup_nil, gEq_int, gEq_str, atI_0, atI_1, atI_2, atI_3, atI_4, atI_5, ixN_40, ixN_41, ixN_42, ixN_43, gMul, Nat.reduceAdd, Nat.reduceSub, Nat.zero_add, Option.isSome_some, true_and, and_true, Option.some.injEq, exists_and_left, exists_eq_left, exists_eq_left', id_eq, ite_true, ite_false, reduceIte, Bool.false_eq_true, decide_eq_true_eq, tabD_zero]
    refine ⟨_, rowD_at 0 (by decide) (by omega), ?_⟩
    simp only [sSeq, sNext, sSet, sRet, sRetN, sIf, sAsg, sDrop, sPar, sBrk, sCnt, sFor, sStore, sAugI, sAug, dC, dVar, dTake, qVar, qE, aNil, aCons, dOp, dUn, dCallB, gets, Op.get, put, puts, dat_sh, dat_ow, dat_bw, dat_un, ty0, ty1, ty2, ty3, ty4, ty5, ty6, ty7, ty8, ty9, ty10, ty11, ty12, ty13, ty14, ty15, ty16, ty17, ty18, ty19, ty20, ty21, ty22, ty23, ty24, ty25, ty26, ty27, ty28, ty29, ty30, ty31, ty32, ty33, ty34, ty35, ty36, ty37, ty38, ty39, ty40, ty41, gIsi_non, gIsi_bl, gIsi_int, gIsi_str, gIsi_lst, gIsi_tup, gIsi_dct, gIsC, dMut0, mReverse, mPopAt, gEq_bl, gEq_strs, eq_self, Sl.cn, Sl.with, Cn.dat, Rv.dat, bOf, asB, bTr, gTruth, bAnd, bOr, bNot, dAnd, dOr, dNot, dIf, dChain, vNil, vCons, dTup, dLst, dDisp, psNil, psCons, keyed, D.key, gN, gT, gsNil, gsCons, rNil, rCons, srcE, srcR1, srcR2, srcR3, srcEnum, srcZip, srcC, srcV, itsOf, dLc, bYes, wipeD, agNil, agVal, agBor, mkArgs, bors, giveB, dCall, clean, dMut, slL, mAppend, mInsert, slC, cnSet, gAdd, gSubI, gDiv, gMod, gNeg, gCmpI, gIx, dSl, oNo, oE, gSl, dRev, dJoin, gAbs, gLen, gInt, gIsN, gList, Option.map_some, List.map_cons, List.map_nil, List.getElem?_cons_zero, List.getElem?_cons_succ, List.getElem?_nil, List.set_cons_zero, List.set_cons_succ, List.length_cons, List.length_nil, List.cons_append, List.nil_append, List.take_succ_cons, List.take_zero, List.replicate_succ, List.replicate_zero, gMin2, gMax2, gMax3, nodup1, List.nodup_nil, gEq_int, gEq_str, atI_0, atI_1, atI_2, atI_3, atI_4, atI_5, ixN_40, ixN_41, ixN_42, ixN_43, gMul, Nat.reduceAdd, Nat.reduceSub, Nat.zero_add, Option.isSome_some, true_and, and_true, Option.some.injEq, exists_and_left, exists_eq_left, exists_eq_left', id_eq, ite_true, ite_false, reduceIte, Bool.false_eq_true, decide_eq_true_eq, List.drop_zero]
    exact ⟨cMul_of (by decide) (by omega), h⟩
theorem wts_strs (l : List Str) (h : ∀ x ∈ l, x.length ≤ 8) : D.wts (l.map D.str) ≤ 84 * l.length := by
  induction l with
  | nil => simp [D.wts]
  | cons x r ih =>
    rw [List.map_cons, D.wts, D.wt, List.length_cons]
    have := h x List.mem_cons_self
    have := ih fun y hy => h y (List.mem_cons_of_mem _ hy)
    omega
theorem smalls_strs (l : List Str) : D.smalls (l.map D.str) = true := by
  induction l with
  | nil => simp [D.smalls]
  | cons x r ih => rw [List.map_cons, D.smalls, ih]; simp [D.small]
theorem repr_two {a b : List Str} {Q : Rv → Prop} (ha : ∀ x ∈ a, x.length ≤ 8) (hb : ∀ x ∈ b, x.length ≤ 8) (la : a.length ≤ 200) (lb : b.length ≤ 200) (q : Q (.v (.rep (.lst [.lst (a.map D.str), .lst (b.map D.str)])))) : gReprW [.lst [.lst (a.map D.str), .lst (b.map D.str)]] Q := by
  refine ⟨by simp [D.fit, D.fits, fits_strs], by simp [D.small, D.smalls, smalls_strs], ?_, q⟩
  have h1 := wts_strs a ha
  have h2 := wts_strs b hb
  simp only [D.wt, D.wts]
  omega
theorem good_tame {one other : List Str} {l : List D} (h : GoodL one other l) (l1 : one.length ≤ 200) : TameL (.lst l) := by
  refine ⟨rfl, fun l' e => ?_⟩
  cases e
  have := lcs_le one other
  refine ⟨by rw [h.1]; omega, fun x hx => ?_⟩
  obtain ⟨i, j, rfl, _⟩ := h.2.1 x hx
  refine ⟨rfl, fun l e y hy => ?_⟩
  cases e
  simp only [List.mem_cons, List.not_mem_nil, or_false] at hy
  rcases hy with rfl | rfl <;> rfl
def sp_law : SpD := fun as Q => ∃ ns : List Int, as = [.sh (.scr ns)] ∧ ns.length ≤ 63 ∧ ∀ o, Q (.v (.bl true)) o
theorem ok_law {f : Addr} {fd : FuncData} (Fn : Fun K "law" "law" s_law f fd) {a__law_bag : Addr} {d__law_bag : FuncData} (f__law_bag : Cal P w K mg base 1 "_law_bag" a__law_bag d__law_bag ["_law_script"] sp__law_bag) (z_range : mg "range" = none) {a__law_two_lines : Addr} {d__law_two_lines : FuncData} (f__law_two_lines : Cal P w K mg base 3 "_law_two_lines" a__law_two_lines d__law_two_lines ["_law_bag_here", "_law_plan_here", "_law_most"] sp__law_two_lines) {a__law_take : Addr} {d__law_take : FuncData} (f__law_take : Cal P w K mg base 1 "_law_take" a__law_take d__law_take ["_law_bag_here", "_law_many"] sp__law_take) {a__law_plan : Addr} {d__law_plan : FuncData} (f__law_plan : Cal P w K mg base 3 "_law_plan" a__law_plan d__law_plan ["_law_bag_here", "_law_most"] sp__law_plan) (z_repr : mg "repr" = none) {a_common : Addr} {d_common : FuncData} (f_common : Cal P w K mg base 2 "common" a_common d_common ["one", "other"] sp_common) {a_is_common : Addr} {d_is_common : FuncData} (f_is_common : Cal P w K mg base 4 "is_common" a_is_common d_is_common ["one", "other", "thing"] sp_is_common) (z_list : mg "list" = none) {a__law_is_right : Addr} {d__law_is_right : FuncData} (f__law_is_right : Cal P w K mg base 2 "_law_is_right" a__law_is_right d__law_is_right ["_law_one", "_law_other", "_law_found"] sp__law_is_right) {a_distance : Addr} {d_distance : FuncData} (f_distance : Cal P w K mg base 2 "distance" a_distance d_distance ["one", "other"] sp_distance) (z_len : mg "len" = none) : FnG P w K mg base CX0 5 f fd ["_law_script"] (lift K sp_law) := by
  have nd := sc_law.nd
  refine fnD Fn sc_law (fun as Q h => ?len) (fun cdv A outer s H hgd hr => ⟨_, _,
    (dss_cons (ds_set (i := 1) nd rfl (.inl rfl) (de_call f__law_bag.ok hgd (hr.mono (by decide)) (by rfl) f__law_bag.g f__law_bag.kp f__law_bag.b pass0 (dag_val (de_var (pv 0)) dag_nil)))
      (dss_cons (ds_for PassesOwn.never rfl (di_r1 (by rfl) z_range (dv_cons de_int dv_nil)) (dg_name (i := 2) nd rfl (.inl rfl))
      (dss_cons (ds_asg (de_call f__law_two_lines.ok hgd (hr.mono (by decide)) (by rfl) f__law_two_lines.g f__law_two_lines.kp f__law_two_lines.b pass0 (dag_bor (pv 1) (dag_val (de_call f__law_plan.ok hgd (hr.mono (by decide)) (by rfl) f__law_plan.g f__law_plan.kp f__law_plan.b pass0 (dag_bor (pv 1) (dag_val de_int dag_nil))) (dag_val (de_ix (hu1 hr) (do_e (de_lst (dv_cons de_int (dv_cons de_int (dv_cons de_int (dv_cons de_int (dv_cons de_int dv_nil))))))) (do_e (de_call f__law_take.ok hgd (hr.mono (by decide)) (by rfl) f__law_take.g f__law_take.kp f__law_take.b pass0 (dag_bor (pv 1) (dag_val de_int dag_nil))))) dag_nil)))) (dg_tup (n := 2) rfl (dgs_cons (dg_name (i := 3) nd rfl (.inl rfl)) (dgs_cons (dg_name (i := 4) nd rfl (.inl rfl)) dgs_nil))))
      (dss_cons (ds_set (i := 5) nd rfl (.inl rfl) (de_callB (call_repr hgd (hu64 hr)) sem_reprW (by rfl) z_repr (by decide +kernel) (da_cons (do_e (de_lst (dv_cons (de_var (pv 3)) (dv_cons (de_var (pv 4)) dv_nil)))) da_nil)))
      (dss_one (ds_for PassesOwn.never rfl (di_r1 (by rfl) z_range (dv_cons de_int dv_nil)) (dg_name (i := 6) nd rfl (.inl rfl))
      (dss_cons (ds_set (i := 7) nd rfl (.inl rfl) (de_call f_common.ok hgd (hr.mono (by decide)) (by rfl) f_common.g f_common.kp f_common.b pass0 (dag_val (de_var (pv 3)) (dag_val (de_var (pv 4)) dag_nil))))
      (dss_cons (ds_if (dw_pt (dw_or (dt_not (dt_tr (do_e (de_call f__law_is_right.ok hgd (hr.mono (by decide)) (by rfl) f__law_is_right.g f__law_is_right.kp f__law_is_right.b pass0 (dag_val (de_var (pv 3)) (dag_val (de_var (pv 4)) (dag_bor (pv 7) dag_nil))))))) (dw_or1 (dt_cmp op_isntA sem_isntA (do_e (de_call f_is_common.ok hgd (hr.mono (by decide)) (by rfl) f_is_common.g f_is_common.kp f_is_common.b pass0 (dag_val (de_var (pv 3)) (dag_val (de_var (pv 4)) (dag_val (de_callTy call_list_of sem_list (by rfl) z_list (by decide +kernel) (da_cons (do_var (pv 7)) da_nil)) dag_nil))))) (do_e de_bl) (nomark _))))) (dss_one (ds_ret de_bl)) dss_nil)
      (dss_cons (ds_if (dw_pt (dw_or (dt_cmp (op_neA (hu64 hr)) sem_ne (do_e (de_call f_distance.ok hgd (hr.mono (by decide)) (by rfl) f_distance.g f_distance.kp f_distance.b pass0 (dag_val (de_var (pv 3)) (dag_val (de_var (pv 4)) dag_nil)))) (do_e (de_op op_sub sem_sub (do_e (de_op op_addA sem_addA (do_e (de_callB call_lenA sem_len (by rfl) z_len (by decide +kernel) (da_cons (do_var (pv 3)) da_nil))) (do_e (de_callB call_lenA sem_len (by rfl) z_len (by decide +kernel) (da_cons (do_var (pv 4)) da_nil))))) (do_e (de_op op_mulA sem_mulA (do_e de_int) (do_e (de_callB call_lenA sem_len (by rfl) z_len (by decide +kernel) (da_cons (do_var (pv 7)) da_nil))))))) (nomark _)) (dw_or1 (dt_cmp (op_neA (hu64 hr)) sem_ne (do_e (de_callB (call_repr hgd (hu64 hr)) sem_reprW (by rfl) z_repr (by decide +kernel) (da_cons (do_e (de_lst (dv_cons (de_var (pv 3)) (dv_cons (de_var (pv 4)) dv_nil)))) da_nil))) (do_var (pv 5)) (nomark _))))) (dss_one (ds_ret de_bl)) dss_nil)
      (dss_cons (ds_expr (de_append (pv 7) (dv_cons (de_tup (dv_cons de_int (dv_cons de_int dv_nil))) dv_nil)))
      (dss_one (ds_expr (de_reverse0 (pv 7)))))))))))))
      (dss_one (ds_ret de_bl)))), fun as Q h => ?_⟩)
  case len => obtain ⟨_, rfl, _⟩ := h; rfl
  · obtain ⟨ns, rfl, hl, h⟩ := h
    simp only [List.length_cons, List.length_nil, Nat.reduceAdd, Nat.reduceSub, List.replicate_succ, List.replicate_zero, List.cons_append, List.nil_append]
    refine sSeq_go fun N0 h0 => ?_
    try simp only [sSeq, sNext, sSet, sRet, sRetN, sIf, sAsg, sDrop, sPar, sBrk, sCnt, sFor, sStore, sAugI, sAug, dC, dVar, dTake, qVar, qE, aNil, aCons, dOp, dUn, dCallB, gets, Op.get, put, puts, dat_sh, dat_ow, dat_bw, dat_un, ty0, ty1, ty2, ty3, ty4, ty5, ty6, ty7, ty8, ty9, ty10, ty11, ty12, ty13, ty14, ty15, ty16, ty17, ty18, ty19, ty20, ty21, ty22, ty23, ty24, ty25, ty26, ty27, ty28, ty29, ty30, ty31, ty32, ty33, ty34, ty35, ty36, ty37, ty38, ty39, ty40, ty41, gIsi_non, gIsi_bl, gIsi_int, gIsi_str, gIsi_lst, gIsi_tup, gIsi_dct, gIsC, dMut0, mReverse, mPopAt, gEq_bl, gEq_strs, eq_self, Sl.cn, Sl.with, Cn.dat, Rv.dat, bOf, asB, bTr, gTruth, bAnd, bOr, bNot, dAnd, dOr, dNot, dIf, dChain, vNil, vCons, dTup, dLst, dDisp, psNil, psCons, keyed, D.key, gN, gT, gsNil, gsCons, rNil, rCons, srcE, srcR1, srcR2, srcR3, srcEnum, srcZip, srcC, srcV, itsOf, dLc, bYes, wipeD, agNil, agVal, agBor, mkArgs, bors, giveB, dCall, clean, dMut, slL, mAppend, mInsert, slC, cnSet, gAdd, gSubI, gDiv, gMod, gNeg, gCmpI, gIx, dSl, oNo, oE, gSl, dRev, dJoin, gAbs, gLen, gInt, gIsN, gList, Option.map_some, List.map_cons, List.map_nil, List.getElem?_cons_zero, List.getElem?_cons_succ, List.getElem?_nil, List.set_cons_zero, List.set_cons_succ, List.length_cons, List.length_nil, List.cons_append, List.nil_append, List.take_succ_cons, List.take_zero, List.replicate_succ, List.replicate_zero, gMin2, gMax2, gMax3, nodup1, List.nodup_nil, gEq_int, gEq_str, atI_0, atI_1, atI_2, atI_3, atI_4, atI_5, ixN_40, ixN_41, ixN_42, ixN_43, gMul, Nat.reduceAdd, Nat.reduceSub, Nat.zero_add, Option.isSome_some, true_and, and_true, Option.some.injEq, exists_and_left, exists_eq_left, exists_eq_left', id_eq, ite_true, ite_false, reduceIte, Bool.false_eq_true, decide_eq_true_eq]
    refine ⟨ns, rfl, hl, fun c1 hB1 => ?_⟩
    try simp only [sSeq, sNext, sSet, sRet, sRetN, sIf, sAsg, sDrop, sPar, sBrk, sCnt, sFor, sStore, sAugI, sAug, dC, dVar, dTake, qVar, qE, aNil, aCons, dOp, dUn, dCallB, gets, Op.get, put, puts, dat_sh, dat_ow, dat_bw, dat_un, ty0, ty1, ty2, ty3, ty4, ty5, ty6, ty7, ty8, ty9, ty10, ty11, ty12, ty13, ty14, ty15, ty16, ty17, ty18, ty19, ty20, ty21, ty22, ty23, ty24, ty25, ty26, ty27, ty28, ty29, ty30, ty31, ty32, ty33, ty34, ty35, ty36, ty37, ty38, ty39, ty40, ty41, gIsi_non, gIsi_bl, gIsi_int, gIsi_str, gIsi_lst, gIsi_tup, gIsi_dct, gIsC, dMut0, mReverse, mPopAt, gEq_bl, gEq_strs, eq_self, Sl.cn, Sl.with, Cn.dat, Rv.dat, bOf, asB, bTr, gTruth, bAnd, bOr, bNot, dAnd, dOr, dNot, dIf, dChain, vNil, vCons, dTup, dLst, dDisp, psNil, psCons, keyed, D.key, gN, gT, gsNil, gsCons, rNil, rCons, srcE, srcR1, srcR2, srcR3, srcEnum, srcZip, srcC, srcV, itsOf, dLc, bYes, wipeD, agNil, agVal, agBor, mkArgs, bors, giveB, dCall, clean, dMut, slL, mAppend, mInsert, slC, cnSet, gAdd, gSubI, gDiv, gMod, gNeg, gCmpI, gIx, dSl, oNo, oE, gSl, dRev, dJoin, gAbs, gLen, gInt, gIsN, gList, Option.map_some, List.map_cons, List.map_nil, List.getElem?_cons_zero, List.getElem?_cons_succ, List.getElem?_nil, List.set_cons_zero, List.set_cons_succ, List.length_cons, List.length_nil, List.cons_append, List.nil_append, List.take_succ_cons, List.take_zero, List.replicate_succ, List.replicate_zero, gMin2, gMax2, gMax3, nodup1, List.nodup_nil, gEq_int, gEq_str, atI_0, atI_1, atI_2, atI_3, atI_4, atI_5, ixN_40, ixN_41, ixN_42, ixN_43, gMul, Nat.reduceAdd, Nat.reduceSub, Nat.zero_add, Option.isSome_some, true_and, and_true, Option.some.injEq, exists_and_left, exists_eq_left, exists_eq_left', id_eq, ite_true, ite_false, reduceIte, Bool.false_eq_true, decide_eq_true_eq]
    refine h0 _ ?_
    clear h0
    refine sSeq_cut (fun ρ' => ∃ (s1 s2 s3 s4 s5 s6 s7 : Sl), ρ' = [.sh (.scr ns), s1, s2, s3, s4, s5, s6, s7]) (fun N hN => ?_) ?_
    · simp only [sSeq, sNext, sSet, sRet, sRetN, sIf, sAsg, sDrop, sPar, sBrk, sCnt, sFor, sStore, sAugI, sAug, dC, dVar, dTake, qVar, qE, aNil, aCons, dOp, dUn, dCallB, gets, Op.get, put, puts, dat_sh, dat_ow, dat_bw, dat_un, ty0, ty1, ty2, ty3, ty4, ty5, ty6, ty7, ty8, ty9, ty10, ty11, ty12, ty13, ty14, ty15, ty16, ty17, ty18, ty19, ty20, ty21, ty22, ty23, ty24, ty25, ty26, ty27, ty28, ty29, ty30, ty31, ty32, ty33, ty34, ty35, ty36, ty37, ty38, ty39, ty40, ty41, gIsi_non, gIsi_bl, gIsi_int, gIsi_str, gIsi_lst, gIsi_tup, gIsi_dct, gIsC, dMut0, mReverse, mPopAt, gEq_bl, gEq_strs, eq_self, Sl.cn, Sl.with, Cn.dat, Rv.dat, bOf, asB, bTr, gTruth, bAnd, bOr, bNot, dAnd, dOr, dNot, dIf, dChain, vNil, vCons, dTup, dLst, dDisp, psNil, psCons, keyed, D.key, gN, gT, gsNil, gsCons, rNil, rCons, srcE, srcR1, srcR2, srcR3, srcEnum, srcZip, srcC, srcV, itsOf, dLc, bYes, wipeD, agNil, agVal, agBor, mkArgs, bors, giveB, dCall, clean, dMut, slL, mAppend, mInsert, slC, cnSet, gAdd, gSubI, gDiv, gMod, gNeg, gCmpI, gIx, dSl, oNo, oE, gSl, dRev, dJoin, gAbs, gLen, gInt, gIsN, gList, Option.map_some, List.map_cons, List.map_nil, List.getElem?_cons_zero, List.getElem?_cons_succ, List.getElem?_nil, List.set_cons_zero, List.set_cons_succ, List.length_cons, List.length_nil, List.cons_append, List.nil_append, List.take_succ_cons, List.take_zero, List.replicate_succ, List.replicate_zero, gMin2, gMax2, gMax3, nodup1, List.nodup_nil, gEq_int, gEq_str, atI_0, atI_1, atI_2, atI_3, atI_4, atI_5, ixN_40, ixN_41, ixN_42, ixN_43, gMul, Nat.reduceAdd, Nat.reduceSub, Nat.zero_add, Option.isSome_some, true_and, and_true, Option.some.injEq, exists_and_left, exists_eq_left, exists_eq_left', id_eq, ite_true, ite_false, reduceIte, Bool.false_eq_true, decide_eq_true_eq, big]
      refine ⟨by decide, by decide, forL_rng (fun i ρ => ∃ (c : Cn) (s2 s3 s4 s5 s6 s7 : Sl), ρ = [.sh (.scr ns), .ow c, s2, s3, s4, s5, s6, s7] ∧ Bag (900000000 - 10000 * i) c) ⟨c1, _, _, _, _, _, _, rfl, hB1.le (by decide)⟩ ?_ ?_⟩
      · rintro ρ ⟨c, s2, s3, s4, s5, s6, s7, rfl, hB2⟩
        exact hN _ ⟨_, s2, s3, s4, s5, s6, s7, rfl⟩
      · rintro i ρ N2 hi hN2 ⟨c, s2, s3, s4, s5, s6, s7, rfl, hB2⟩
        have hi4 : i < 4 := by simpa using hi
        simp only [gN, List.set_cons_succ, List.set_cons_zero]
        refine sSeq_cut (fun ρ' => ∃ (c : Cn) (s2 s5 s6 s7 : Sl) (one other : List Str), ρ' = [.sh (.scr ns), .ow c, s2, .sh (.lst (one.map D.str)), .sh (.lst (other.map D.str)), s5, s6, s7] ∧ Bag (900000000 - 10000 * (i + 1)) c ∧ one.length ≤ 200 ∧ other.length ≤ 200 ∧ (∀ x ∈ one, x.length ≤ 8) ∧ ∀ x ∈ other, x.length ≤ 8) (fun N3 hN3 => ?_) ?_
        · simp only [sSeq, sNext, sSet, sRet, sRetN, sIf, sAsg, sDrop, sPar, sBrk, sCnt, sFor, sStore, sAugI, sAug, dC, dVar, dTake, qVar, qE, aNil, aCons, dOp, dUn, dCallB, gets, Op.get, put, puts, dat_sh, dat_ow, dat_bw, dat_un, ty0, ty1, ty2, ty3, ty4, ty5, ty6, ty7, ty8, ty9, ty10, ty11, ty12, ty13, ty14, ty15, ty16, ty17, ty18, ty19, ty20, ty21, ty22, ty23, ty24, ty25, ty26, ty27, ty28, ty29, ty30, ty31, ty32, ty33, ty34, ty35, ty36, ty37, ty38, ty39, ty40, ty41, gIsi_non, gIsi_bl, gIsi_int, gIsi_str, gIsi_lst, gIsi_tup, gIsi_dct, gIsC, dMut0, mReverse, mPopAt, gEq_bl, gEq_strs, eq_self, Sl.cn, Sl.with, Cn.dat, Rv.dat, bOf, asB, bTr, gTruth, bAnd, bOr, bNot, dAnd, dOr, dNot, dIf, dChain, vNil, vCons, dTup, dLst, dDisp, psNil, psCons, keyed, D.key, gN, gT, gsNil, gsCons, rNil, rCons, srcE, srcR1, srcR2, srcR3, srcEnum, srcZip, srcC, srcV, itsOf, dLc, bYes, wipeD, agNil, agVal, agBor, mkArgs, bors, giveB, dCall, clean, dMut, slL, mAppend, mInsert, slC, cnSet, gAdd, gSubI, gDiv, gMod, gNeg, gCmpI, gIx, dSl, oNo, oE, gSl, dRev, dJoin, gAbs, gLen, gInt, gIsN, gList, Option.map_some, List.map_cons, List.map_nil, List.getElem?_cons_zero, List.getElem?_cons_succ, List.getElem?_nil, List.set_cons_zero, List.set_cons_succ, List.length_cons, List.length_nil, List.cons_append, List.nil_append, List.take_succ_cons, List.take_zero, List.replicate_succ, List.replicate_zero, gMin2, gMax2, gMax3, nodup1, List.nodup_nil, gEq_int, gEq_str, atI_0, atI_1, atI_2, atI_3, atI_4, atI_5, ixN_40, ixN_41, ixN_42, ixN_43, gMul, Nat.reduceAdd, Nat.reduceSub, Nat.zero_add, Option.isSome_some, true_and, and_true, Option.some.injEq, exists_and_left, exists_eq_left, exists_eq_left', id_eq, ite_true, ite_false, reduceIte, Bool.false_eq_true, decide_eq_true_eq]
          refine ⟨900000000 - 10000 * i - 1000, c, 8, rfl, hB2.le (by omega), by decide, by decide, fun names pairs c2 hB3 hP => ?_⟩
          try simp only [sSeq, sNext, sSet, sRet, sRetN, sIf, sAsg, sDrop, sPar, sBrk, sCnt, sFor, sStore, sAugI, sAug, dC, dVar, dTake, qVar, qE, aNil, aCons, dOp, dUn, dCallB, gets, Op.get, put, puts, dat_sh, dat_ow, dat_bw, dat_un, ty0, ty1, ty2, ty3, ty4, ty5, ty6, ty7, ty8, ty9, ty10, ty11, ty12, ty13, ty14, ty15, ty16, ty17, ty18, ty19, ty20, ty21, ty22, ty23, ty24, ty25, ty26, ty27, ty28, ty29, ty30, ty31, ty32, ty33, ty34, ty35, ty36, ty37, ty38, ty39, ty40, ty41, gIsi_non, gIsi_bl, gIsi_int, gIsi_str, gIsi_lst, gIsi_tup, gIsi_dct, gIsC, dMut0, mReverse, mPopAt, gEq_bl, gEq_strs, eq_self, Sl.cn, Sl.with, Cn.dat, Rv.dat, bOf, asB, bTr, gTruth, bAnd, bOr, bNot, dAnd, dOr, dNot, dIf, dChain, vNil, vCons, dTup, dLst, dDisp, psNil, psCons, keyed, D.key, gN, gT, gsNil, gsCons, rNil, rCons, srcE, srcR1, srcR2, srcR3, srcEnum, srcZip, srcC, srcV, itsOf, dLc, bYes, wipeD, agNil, agVal, agBor, mkArgs, bors, giveB, dCall, clean, dMut, slL, mAppend, mInsert, slC, cnSet, gAdd, gSubI, gDiv, gMod, gNeg, gCmpI, gIx, dSl, oNo, oE, gSl, dRev, dJoin, gAbs, gLen, gInt, gIsN, gList, Option.map_some, List.map_cons, List.map_nil, List.getElem?_cons_zero, List.getElem?_cons_succ, List.getElem?_nil, List.set_cons_zero, List.set_cons_succ, List.length_cons, List.length_nil, List.cons_append, List.nil_append, List.take_succ_cons, List.take_zero, List.replicate_succ, List.replicate_zero, gMin2, gMax2, gMax3, nodup1, List.nodup_nil, gEq_int, gEq_str, atI_0, atI_1, atI_2, atI_3, atI_4, atI_5, ixN_40, ixN_41, ixN_42, ixN_43, gMul, Nat.reduceAdd, Nat.reduceSub, Nat.zero_add, Option.isSome_some, true_and, and_true, Option.some.injEq, exists_and_left, exists_eq_left, exists_eq_left', id_eq, ite_true, ite_false, reduceIte, Bool.false_eq_true, decide_eq_true_eq]
          refine ⟨le_size (by decide), 900000000 - 10000 * i - 2000, c2, 5, rfl, hB3.le (by omega), by decide, by decide, fun v c3 hB4 hv0 hv1 => ?_⟩
          try simp only [sSeq, sNext, sSet, sRet, sRetN, sIf, sAsg, sDrop, sPar, sBrk, sCnt, sFor, sStore, sAugI, sAug, dC, dVar, dTake, qVar, qE, aNil, aCons, dOp, dUn, dCallB, gets, Op.get, put, puts, dat_sh, dat_ow, dat_bw, dat_un, ty0, ty1, ty2, ty3, ty4, ty5, ty6, ty7, ty8, ty9, ty10, ty11, ty12, ty13, ty14, ty15, ty16, ty17, ty18, ty19, ty20, ty21, ty22, ty23, ty24, ty25, ty26, ty27, ty28, ty29, ty30, ty31, ty32, ty33, ty34, ty35, ty36, ty37, ty38, ty39, ty40, ty41, gIsi_non, gIsi_bl, gIsi_int, gIsi_str, gIsi_lst, gIsi_tup, gIsi_dct, gIsC, dMut0, mReverse, mPopAt, gEq_bl, gEq_strs, eq_self, Sl.cn, Sl.with, Cn.dat, Rv.dat, bOf, asB, bTr, gTruth, bAnd, bOr, bNot, dAnd, dOr, dNot, dIf, dChain, vNil, vCons, dTup, dLst, dDisp, psNil, psCons, keyed, D.key, gN, gT, gsNil, gsCons, rNil, rCons, srcE, srcR1, srcR2, srcR3, srcEnum, srcZip, srcC, srcV, itsOf, dLc, bYes, wipeD, agNil, agVal, agBor, mkArgs, bors, giveB, dCall, clean, dMut, slL, mAppend, mInsert, slC, cnSet, gAdd, gSubI, gDiv, gMod, gNeg, gCmpI, gIx, dSl, oNo, oE, gSl, dRev, dJoin, gAbs, gLen, gInt, gIsN, gList, Option.map_some, List.map_cons, List.map_nil, List.getElem?_cons_zero, List.getElem?_cons_succ, List.getElem?_nil, List.set_cons_zero, List.set_cons_succ, List.length_cons, List.length_nil, List.cons_append, List.nil_append, List.take_succ_cons, List.take_zero, List.replicate_succ, List.replicate_zero, gMin2, gMax2, gMax3, nodup1, List.nodup_nil, gEq_int, gEq_str, atI_0, atI_1, atI_2, atI_3, atI_4, atI_5, ixN_40, ixN_41, ixN_42, ixN_43, gMul, Nat.reduceAdd, Nat.reduceSub, Nat.zero_add, Option.isSome_some, true_and, and_true, Option.some.injEq, exists_and_left, exists_eq_left, exists_eq_left', id_eq, ite_true, ite_false, reduceIte, Bool.false_eq_true, decide_eq_true_eq]
          have fin : ∀ m : Int, 0 ≤ m → m ≤ 200 → ∀ R : Rv → SL → Prop, (∀ (one other : List Str) (c' : Cn), Bag (900000000 - 10000 * (i + 1)) c' → one.length ≤ 200 → other.length ≤ 200 → (∀ x ∈ one, x.length ≤ 8) → (∀ x ∈ other, x.length ≤ 8) → R (.v (.tup [.lst (one.map D.str), .lst (other.map D.str)])) [.bw 0 c', .un, .un]) →
              sp__law_two_lines [.bw 0 c3, .sh (.dct (Plan names pairs)), .sh (.int m)] R := fun m hm0 hm1 R hR =>
            ⟨900000000 - 10000 * (i + 1), c3, names, pairs, m, rfl, hB4.le (by omega), hm0, hm1, ⟨hP.1, by have := hP.2.1; omega⟩, fun one other c' hB5 l1 l2 => hR _ _ _ hB5 (by have := l1.len; omega) (by have := l2.len; omega) (fun x hx => hP.2.2.1 x (l1.mem x hx)) (fun x hx => hP.2.2.1 x (l2.mem x hx))⟩
          have hv : v = 0 ∨ v = 1 ∨ v = 2 ∨ v = 3 ∨ v = 4 := by omega
          rcases hv with rfl | rfl | rfl | rfl | rfl
          · refine ⟨_, atI_0, fin 6 (by decide) (by decide) _ fun one other c' hB5 e1 e2 e3 e4 => ?_⟩
            try simp only [sSeq, sNext, sSet, sRet, sRetN, sIf, sAsg, sDrop, sPar, sBrk, sCnt, sFor, sStore, sAugI, sAug, dC, dVar, dTake, qVar, qE, aNil, aCons, dOp, dUn, dCallB, gets, Op.get, put, puts, dat_sh, dat_ow, dat_bw, dat_un, ty0, ty1, ty2, ty3, ty4, ty5, ty6, ty7, ty8, ty9, ty10, ty11, ty12, ty13, ty14, ty15, ty16, ty17, ty18, ty19, ty20, ty21, ty22, ty23, ty24, ty25, ty26, ty27, ty28, ty29, ty30, ty31, ty32, ty33, ty34, ty35, ty36, ty37, ty38, ty39, ty40, ty41, gIsi_non, gIsi_bl, gIsi_int, gIsi_str, gIsi_lst, gIsi_tup, gIsi_dct, gIsC, dMut0, mReverse, mPopAt, gEq_bl, gEq_strs, eq_self, Sl.cn, Sl.with, Cn.dat, Rv.dat, bOf, asB, bTr, gTruth, bAnd, bOr, bNot, dAnd, dOr, dNot, dIf, dChain, vNil, vCons, dTup, dLst, dDisp, psNil, psCons, keyed, D.key, gN, gT, gsNil, gsCons, rNil, rCons, srcE, srcR1, srcR2, srcR3, srcEnum, srcZip, srcC, srcV, itsOf, dLc, bYes, wipeD, agNil, agVal, agBor, mkArgs, bors, giveB, dCall, clean, dMut, slL, mAppend, mInsert, slC, cnSet, gAdd, gSubI, gDiv, gMod, gNeg, gCmpI, gIx, dSl, oNo, oE, gSl, dRev, dJoin, gAbs, gLen, gInt, gIsN, gList, Option.map_some, List.map_cons, List.map_nil, List.getElem?_cons_zero, List.getElem?_cons_succ, List.getElem?_nil, List.set_cons_zero, List.set_cons_succ, List.length_cons, List.length_nil, List.cons_append, List.nil_append, List.take_succ_cons, List.take_zero, List.replicate_succ, List.replicate_zero, gMin2, gMax2, gMax3, nodup1, List.nodup_nil, gEq_int, gEq_str, atI_0, atI_1, atI_2, atI_3, atI_4, atI_5, ixN_40, ixN_41, ixN_42, ixN_43, gMul, Nat.reduceAdd, Nat.reduceSub, Nat.zero_add, Option.isSome_some, true_and, and_true, Option.some.injEq, exists_and_left, exists_eq_left, exists_eq_left', id_eq, ite_true, ite_false, reduceIte, Bool.false_eq_true, decide_eq_true_eq]
            exact hN3 _ ⟨c', _, _, _, _, one, other, rfl, hB5, e1, e2, e3, e4⟩
          · refine ⟨_, atI_1, fin 30 (by decide) (by decide) _ fun one other c' hB5 e1 e2 e3 e4 => ?_⟩
            try simp only [sSeq, sNext, sSet, sRet, sRetN, sIf, sAsg, sDrop, sPar, sBrk, sCnt, sFor, sStore, sAugI, sAug, dC, dVar, dTake, qVar, qE, aNil, aCons, dOp, dUn, dCallB, gets, Op.get, put, puts, dat_sh, dat_ow, dat_bw, dat_un, ty0, ty1, ty2, ty3, ty4, ty5, ty6, ty7, ty8, ty9, ty10, ty11, ty12, ty13, ty14, ty15, ty16, ty17, ty18, ty19, ty20, ty21, ty22, ty23, ty24, ty25, ty26, ty27, ty28, ty29, ty30, ty31, ty32, ty33, ty34, ty35, ty36, ty37, ty38, ty39, ty40, ty41, gIsi_non, gIsi_bl, gIsi_int, gIsi_str, gIsi_lst, gIsi_tup, gIsi_dct, gIsC, dMut0, mReverse, mPopAt, gEq_bl, gEq_strs, eq_self, Sl.cn, Sl.with, Cn.dat, Rv.dat, bOf, asB, bTr, gTruth, bAnd, bOr, bNot, dAnd, dOr, dNot, dIf, dChain, vNil, vCons, dTup, dLst, dDisp, psNil, psCons, keyed, D.key, gN, gT, gsNil, gsCons, rNil, rCons, srcE, srcR1, srcR2, srcR3, srcEnum, srcZip, srcC, srcV, itsOf, dLc, bYes, wipeD, agNil, agVal, agBor, mkArgs, bors, giveB, dCall, clean, dMut, slL, mAppend, mInsert, slC, cnSet, gAdd, gSubI, gDiv, gMod, gNeg, gCmpI, gIx, dSl, oNo, oE, gSl, dRev, dJoin, gAbs, gLen, gInt, gIsN, gList, Option.map_some, List.map_cons, List.map_nil, List.getElem?_cons_zero, List.getElem?_cons_succ, List.getElem?_nil, List.set_cons_zero, List.set_cons_succ, List.length_cons, List.length_nil, List.cons_append, List.nil_append, List.take_succ_cons, List.take_zero, List.replicate_succ, List.replicate_zero, gMin2, gMax2, gMax3, nodup1, List.nodup_nil, gEq_int, gEq_str, atI_0, atI_1, atI_2, atI_3, atI_4, atI_5, ixN_40, ixN_41, ixN_42, ixN_43, gMul, Nat.reduceAdd, Nat.reduceSub, Nat.zero_add, Option.isSome_some, true_and, and_true, Option.some.injEq, exists_and_left, exists_eq_left, exists_eq_left', id_eq, ite_true, ite_false, reduceIte, Bool.false_eq_true, decide_eq_true_eq]
            exact hN3 _ ⟨c', _, _, _, _, one, other, rfl, hB5, e1, e2, e3, e4⟩
          · refine ⟨_, atI_2, fin 6 (by decide) (by decide) _ fun one other c' hB5 e1 e2 e3 e4 => ?_⟩
            try simp only [sSeq, sNext, sSet, sRet, sRetN, sIf, sAsg, sDrop, sPar, sBrk, sCnt, sFor, sStore, sAugI, sAug, dC, dVar, dTake, qVar, qE, aNil, aCons, dOp, dUn, dCallB, gets, Op.get, put, puts, dat_sh, dat_ow, dat_bw, dat_un, ty0, ty1, ty2, ty3, ty4, ty5, ty6, ty7, ty8, ty9, ty10, ty11, ty12, ty13, ty14, ty15, ty16, ty17, ty18, ty19, ty20, ty21, ty22, ty23, ty24, ty25, ty26, ty27, ty28, ty29, ty30, ty31, ty32, ty33, ty34, ty35, ty36, ty37, ty38, ty39, ty40, ty41, gIsi_non, gIsi_bl, gIsi_int, gIsi_str, gIsi_lst, gIsi_tup, gIsi_dct, gIsC, dMut0, mReverse, mPopAt, gEq_bl, gEq_strs, eq_self, Sl.cn, Sl.with, Cn.dat, Rv.dat, bOf, asB, bTr, gTruth, bAnd, bOr, bNot, dAnd, dOr, dNot, dIf, dChain, vNil, vCons, dTup, dLst, dDisp, psNil, psCons, keyed, D.key, gN, gT, gsNil, gsCons, rNil, rCons, srcE, srcR1, srcR2, srcR3, srcEnum, srcZip, srcC, srcV, itsOf, dLc, bYes, wipeD, agNil, agVal, agBor, mkArgs, bors, giveB, dCall, clean, dMut, slL, mAppend, mInsert, slC, cnSet, gAdd, gSubI, gDiv, gMod, gNeg, gCmpI, gIx, dSl, oNo, oE, gSl, dRev, dJoin, gAbs, gLen, gInt, gIsN, gList, Option.map_some, List.map_cons, List.map_nil, List.getElem?_cons_zero, List.getElem?_cons_succ, List.getElem?_nil, List.set_cons_zero, List.set_cons_succ, List.length_cons, List.length_nil, List.cons_append, List.nil_append, List.take_succ_cons, List.take_zero, List.replicate_succ, List.replicate_zero, gMin2, gMax2, gMax3, nodup1, List.nodup_nil, gEq_int, gEq_str, atI_0, atI_1, atI_2, atI_3, atI_4, atI_5, ixN_40, ixN_41, ixN_42, ixN_43, gMul, Nat.reduceAdd, Nat.reduceSub, Nat.zero_add, Option.isSome_some, true_and, and_true, Option.some.injEq, exists_and_left, exists_eq_left, exists_eq_left', id_eq, ite_true, ite_false, reduceIte, Bool.false_eq_true, decide_eq_true_eq]
            exact hN3 _ ⟨c', _, _, _, _, one, other, rfl, hB5, e1, e2, e3, e4⟩
          · refine ⟨_, atI_3, fin 30 (by decide) (by decide) _ fun one other c' hB5 e1 e2 e3 e4 => ?_⟩
            try simp only [sSeq, sNext, sSet, sRet, sRetN, sIf, sAsg, sDrop, sPar, sBrk, sCnt, sFor, sStore, sAugI, sAug, dC, dVar, dTake, qVar, qE, aNil, aCons, dOp, dUn, dCallB, gets, Op.get, put, puts, dat_sh, dat_ow, dat_bw, dat_un, ty0, ty1, ty2, ty3, ty4, ty5, ty6, ty7, ty8, ty9, ty10, ty11, ty12, ty13, ty14, ty15, ty16, ty17, ty18, ty19, ty20, ty21, ty22, ty23, ty24, ty25, ty26, ty27, ty28, ty29, ty30, ty31, ty32, ty33, ty34, ty35, ty36, ty37, ty38, ty39, ty40, ty41, gIsi_non, gIsi_bl, gIsi_int, gIsi_str, gIsi_lst, gIsi_tup, gIsi_dct, gIsC, dMut0, mReverse, mPopAt, gEq_bl, gEq_strs, eq_self, Sl.cn, Sl.with, Cn.dat, Rv.dat, bOf, asB, bTr, gTruth, bAnd, bOr, bNot, dAnd, dOr, dNot, dIf, dChain, vNil, vCons, dTup, dLst, dDisp, psNil, psCons, keyed, D.key, gN, gT, gsNil, gsCons, rNil, rCons, srcE, srcR1, srcR2, srcR3, srcEnum, srcZip, srcC, srcV, itsOf, dLc, bYes, wipeD, agNil, agVal, agBor, mkArgs, bors, giveB, dCall, clean, dMut, slL, mAppend, mInsert, slC, cnSet, gAdd, gSubI, gDiv, gMod, gNeg, gCmpI, gIx, dSl, oNo, oE, gSl, dRev, dJoin, gAbs, gLen, gInt, gIsN, gList, Option.map_some, List.map_cons, List.map_nil, List.getElem?_cons_zero, List.getElem?_cons_succ, List.getElem?_nil, List.set_cons_zero, List.set_cons_succ, List.length_cons, List.length_nil, List.cons_append, List.nil_append, List.take_succ_cons, List.take_zero, List.replicate_succ, List.replicate_zero, gMin2, gMax2, gMax3, nodup1, List.nodup_nil, gEq_int, gEq_str, atI_0, atI_1, atI_2, atI_3, atI_4, atI_5, ixN_40, ixN_41, ixN_42, ixN_43, gMul, Nat.reduceAdd, Nat.reduceSub, Nat.zero_add, Option.isSome_some, true_and, and_true, Option.some.injEq, exists_and_left, exists_eq_left, exists_eq_left', id_eq, ite_true, ite_false, reduceIte, Bool.false_eq_true, decide_eq_true_eq]
            exact hN3 _ ⟨c', _, _, _, _, one, other, rfl, hB5, e1, e2, e3, e4⟩
          · refine ⟨_, atI_4, fin 200 (by decide) (by decide) _ fun one other c' hB5 e1 e2 e3 e4 => ?_⟩
            try simp only [sSeq, sNext, sSet, sRet, sRetN, sIf, sAsg, sDrop, sPar, sBrk, sCnt, sFor, sStore, sAugI, sAug, dC, dVar, dTake, qVar, qE, aNil, aCons, dOp, dUn, dCallB, gets, Op.get, put, puts, dat_sh, dat_ow, dat_bw, dat_un, ty0, ty1, ty2, ty3, ty4, ty5, ty6, ty7, ty8, ty9, ty10, ty11, ty12, ty13, ty14, ty15, ty16, ty17, ty18, ty19, ty20, ty21, ty22, ty23, ty24, ty25, ty26, ty27, ty28, ty29, ty30, ty31, ty32, ty33, ty34, ty35, ty36, ty37, ty38, ty39, ty40, ty41, gIsi_non, gIsi_bl, gIsi_int, gIsi_str, gIsi_lst, gIsi_tup, gIsi_dct, gIsC, dMut0, mReverse, mPopAt, gEq_bl, gEq_strs, eq_self, Sl.cn, Sl.with, Cn.dat, Rv.dat, bOf, asB, bTr, gTruth, bAnd, bOr, bNot, dAnd, dOr, dNot, dIf, dChain, vNil, vCons, dTup, dLst, dDisp, psNil, psCons, keyed, D.key, gN, gT, gsNil, gsCons, rNil, rCons, srcE, srcR1, srcR2, srcR3, srcEnum, srcZip, srcC, srcV, itsOf, dLc, bYes, wipeD, agNil, agVal, agBor, mkArgs, bors, giveB, dCall, clean, dMut, slL, mAppend, mInsert, slC, cnSet, gAdd, gSubI, gDiv, gMod, gNeg, gCmpI, gIx, dSl, oNo, oE, gSl, dRev, dJoin, gAbs, gLen, gInt, gIsN, gList, Option.map_some, List.map_cons, List.map_nil, List.getElem?_cons_zero, List.getElem?_cons_succ, List.getElem?_nil, List.set_cons_zero, List.set_cons_succ, List.length_cons, List.length_nil, List.cons_append, List.nil_append, List.take_succ_cons, List.take_zero, List.replicate_succ, List.replicate_zero, gMin2, gMax2, gMax3, nodup1, List.nodup_nil, gEq_int, gEq_str, atI_0, atI_1, atI_2, atI_3, atI_4, atI_5, ixN_40, ixN_41, ixN_42, ixN_43, gMul, Nat.reduceAdd, Nat.reduceSub, Nat.zero_add, Option.isSome_some, true_and, and_true, Option.some.injEq, exists_and_left, exists_eq_left, exists_eq_left', id_eq, ite_true, ite_false, reduceIte, Bool.false_eq_true, decide_eq_true_eq]
            exact hN3 _ ⟨c', _, _, _, _, one, other, rfl, hB5, e1, e2, e3, e4⟩
        · rintro ρ' ⟨c2, s2, s5, s6, s7, one, other, rfl, hB3, l1, l2, n1, n2⟩
          refine sSeq_go fun N3 h3 => ?_
          try simp only [sSeq, sNext, sSet, sRet, sRetN, sIf, sAsg, sDrop, sPar, sBrk, sCnt, sFor, sStore, sAugI, sAug, dC, dVar, dTake, qVar, qE, aNil, aCons, dOp, dUn, dCallB, gets, Op.get, put, puts, dat_sh, dat_ow, dat_bw, dat_un, ty0, ty1, ty2, ty3, ty4, ty5, ty6, ty7, ty8, ty9, ty10, ty11, ty12, ty13, ty14, ty15, ty16, ty17, ty18, ty19, ty20, ty21, ty22, ty23, ty24, ty25, ty26, ty27, ty28, ty29, ty30, ty31, ty32, ty33, ty34, ty35, ty36, ty37, ty38, ty39, ty40, ty41, gIsi_non, gIsi_bl, gIsi_int, gIsi_str, gIsi_lst, gIsi_tup, gIsi_dct, gIsC, dMut0, mReverse, mPopAt, gEq_bl, gEq_strs, eq_self, Sl.cn, Sl.with, Cn.dat, Rv.dat, bOf, asB, bTr, gTruth, bAnd, bOr, bNot, dAnd, dOr, dNot, dIf, dChain, vNil, vCons, dTup, dLst, dDisp, psNil, psCons, keyed, D.key, gN, gT, gsNil, gsCons, rNil, rCons, srcE, srcR1, srcR2, srcR3, srcEnum, srcZip, srcC, srcV, itsOf, dLc, bYes, wipeD, agNil, agVal, agBor, mkArgs, bors, giveB, dCall, clean, dMut, slL, mAppend, mInsert, slC, cnSet, gAdd, gSubI, gDiv, gMod, gNeg, gCmpI, gIx, dSl, oNo, oE, gSl, dRev, dJoin, gAbs, gLen, gInt, gIsN, gList, Option.map_some, List.map_cons, List.map_nil, List.getElem?_cons_zero, List.getElem?_cons_succ, List.getElem?_nil, List.set_cons_zero, List.set_cons_succ, List.length_cons, List.length_nil, List.cons_append, List.nil_append, List.take_succ_cons, List.take_zero, List.replicate_succ, List.replicate_zero, gMin2, gMax2, gMax3, nodup1, List.nodup_nil, gEq_int, gEq_str, atI_0, atI_1, atI_2, atI_3, atI_4, atI_5, ixN_40, ixN_41, ixN_42, ixN_43, gMul, Nat.reduceAdd, Nat.reduceSub, Nat.zero_add, Option.isSome_some, true_and, and_true, Option.some.injEq, exists_and_left, exists_eq_left, exists_eq_left', id_eq, ite_true, ite_false, reduceIte, Bool.false_eq_true, decide_eq_true_eq]
          refine ⟨le_size (by decide), repr_two n1 n2 l1 l2 ?_⟩
          try simp only [sSeq, sNext, sSet, sRet, sRetN, sIf, sAsg, sDrop, sPar, sBrk, sCnt, sFor, sStore, sAugI, sAug, dC, dVar, dTake, qVar, qE, aNil, aCons, dOp, dUn, dCallB, gets, Op.get, put, puts, dat_sh, dat_ow, dat_bw, dat_un, ty0, ty1, ty2, ty3, ty4, ty5, ty6, ty7, ty8, ty9, ty10, ty11, ty12, ty13, ty14, ty15, ty16, ty17, ty18, ty19, ty20, ty21, ty22, ty23, ty24, ty25, ty26, ty27, ty28, ty29, ty30, ty31, ty32, ty33, ty34, ty35, ty36, ty37, ty38, ty39, ty40, ty41, gIsi_non, gIsi_bl, gIsi_int, gIsi_str, gIsi_lst, gIsi_tup, gIsi_dct, gIsC, dMut0, mReverse, mPopAt, gEq_bl, gEq_strs, eq_self, Sl.cn, Sl.with, Cn.dat, Rv.dat, bOf, asB, bTr, gTruth, bAnd, bOr, bNot, dAnd, dOr, dNot, dIf, dChain, vNil, vCons, dTup, dLst, dDisp, psNil, psCons, keyed, D.key, gN, gT, gsNil, gsCons, rNil, rCons, srcE, srcR1, srcR2, srcR3, srcEnum, srcZip, srcC, srcV, itsOf, dLc, bYes, wipeD, agNil, agVal, agBor, mkArgs, bors, giveB, dCall, clean, dMut, slL, mAppend, mInsert, slC, cnSet, gAdd, gSubI, gDiv, gMod, gNeg, gCmpI, gIx, dSl, oNo, oE, gSl, dRev, dJoin, gAbs, gLen, gInt, gIsN, gList, Option.map_some, List.map_cons, List.map_nil, List.getElem?_cons_zero, List.getElem?_cons_succ, List.getElem?_nil, List.set_cons_zero, List.set_cons_succ, List.length_cons, List.length_nil, List.cons_append, List.nil_append, List.take_succ_cons, List.take_zero, List.replicate_succ, List.replicate_zero, gMin2, gMax2, gMax3, nodup1, List.nodup_nil, gEq_int, gEq_str, atI_0, atI_1, atI_2, atI_3, atI_4, atI_5, ixN_40, ixN_41, ixN_42, ixN_43, gMul, Nat.reduceAdd, Nat.reduceSub, Nat.zero_add, Option.isSome_some, true_and, and_true, Option.some.injEq, exists_and_left, exists_eq_left, exists_eq_left', id_eq, ite_true, ite_false, reduceIte, Bool.false_eq_true, decide_eq_true_eq]
          refine h3 _ ?_
          clear h3
          try simp only [sSeq, sNext, sSet, sRet, sRetN, sIf, sAsg, sDrop, sPar, sBrk, sCnt, sFor, sStore, sAugI, sAug, dC, dVar, dTake, qVar, qE, aNil, aCons, dOp, dUn, dCallB, gets, Op.get, put, puts, dat_sh, dat_ow, dat_bw, dat_un, ty0, ty1, ty2, ty3, ty4, ty5, ty6, ty7, ty8, ty9, ty10, ty11, ty12, ty13, ty14, ty15, ty16, ty17, ty18, ty19, ty20, ty21, ty22, ty23, ty24, ty25, ty26, ty27, ty28, ty29, ty30, ty31, ty32, ty33, ty34, ty35, ty36, ty37, ty38, ty39, ty40, ty41, gIsi_non, gIsi_bl, gIsi_int, gIsi_str, gIsi_lst, gIsi_tup, gIsi_dct, gIsC, dMut0, mReverse, mPopAt, gEq_bl, gEq_strs, eq_self, Sl.cn, Sl.with, Cn.dat, Rv.dat, bOf, asB, bTr, gTruth, bAnd, bOr, bNot, dAnd, dOr, dNot, dIf, dChain, vNil, vCons, dTup, dLst, dDisp, psNil, psCons, keyed, D.key, gN, gT, gsNil, gsCons, rNil, rCons, srcE, srcR1, srcR2, srcR3, srcEnum, srcZip, srcC, srcV, itsOf, dLc, bYes, wipeD, agNil, agVal, agBor, mkArgs, bors, giveB, dCall, clean, dMut, slL, mAppend, mInsert, slC, cnSet, gAdd, gSubI, gDiv, gMod, gNeg, gCmpI, gIx, dSl, oNo, oE, gSl, dRev, dJoin, gAbs, gLen, gInt, gIsN, gList, Option.map_some, List.map_cons, List.map_nil, List.getElem?_cons_zero, List.getElem?_cons_succ, List.getElem?_nil, List.set_cons_zero, List.set_cons_succ, List.length_cons, List.length_nil, List.cons_append, List.nil_append, List.take_succ_cons, List.take_zero, List.replicate_succ, List.replicate_zero, gMin2, gMax2, gMax3, nodup1, List.nodup_nil, gEq_int, gEq_str, atI_0, atI_1, atI_2, atI_3, atI_4, atI_5, ixN_40, ixN_41, ixN_42, ixN_43, gMul, Nat.reduceAdd, Nat.reduceSub, Nat.zero_add, Option.isSome_some, true_and, and_true, Option.some.injEq, exists_and_left, exists_eq_left, exists_eq_left', id_eq, ite_true, ite_false, reduceIte, Bool.false_eq_true, decide_eq_true_eq, big]
          refine ⟨by decide, by decide, forL_rng (fun i ρ => ∃ s6 s7, ρ = [.sh (.scr ns), .ow c2, s2, .sh (.lst (one.map D.str)), .sh (.lst (other.map D.str)), .sh (.rep (.lst [.lst (one.map D.str), .lst (other.map D.str)])), s6, s7]) ⟨_, _, rfl⟩ ?_ ?_⟩
          · rintro ρ ⟨s6, s7, rfl⟩
            exact hN2 _ ⟨c2, _, _, _, _, _, _, rfl, hB3⟩
          · rintro j ρ N4 hj hN4 ⟨s6, s7, rfl⟩
            simp only [gN, List.set_cons_succ, List.set_cons_zero]
            refine sSeq_go fun N3 h3 => ?_
            try simp only [sSeq, sNext, sSet, sRet, sRetN, sIf, sAsg, sDrop, sPar, sBrk, sCnt, sFor, sStore, sAugI, sAug, dC, dVar, dTake, qVar, qE, aNil, aCons, dOp, dUn, dCallB, gets, Op.get, put, puts, dat_sh, dat_ow, dat_bw, dat_un, ty0, ty1, ty2, ty3, ty4, ty5, ty6, ty7, ty8, ty9, ty10, ty11, ty12, ty13, ty14, ty15, ty16, ty17, ty18, ty19, ty20, ty21, ty22, ty23, ty24, ty25, ty26, ty27, ty28, ty29, ty30, ty31, ty32, ty33, ty34, ty35, ty36, ty37, ty38, ty39, ty40, ty41, gIsi_non, gIsi_bl, gIsi_int, gIsi_str, gIsi_lst, gIsi_tup, gIsi_dct, gIsC, dMut0, mReverse, mPopAt, gEq_bl, gEq_strs, eq_self, Sl.cn, Sl.with, Cn.dat, Rv.dat, bOf, asB, bTr, gTruth, bAnd, bOr, bNot, dAnd, dOr, dNot, dIf, dChain, vNil, vCons, dTup, dLst, dDisp, psNil, psCons, keyed, D.key, gN, gT, gsNil, gsCons, rNil, rCons, srcE, srcR1, srcR2, srcR3, srcEnum, srcZip, srcC, srcV, itsOf, dLc, bYes, wipeD, agNil, agVal, agBor, mkArgs, bors, giveB, dCall, clean, dMut, slL, mAppend, mInsert, slC, cnSet, gAdd, gSubI, gDiv, gMod, gNeg, gCmpI, gIx, dSl, oNo, oE, gSl, dRev, dJoin, gAbs, gLen, gInt, gIsN, gList, Option.map_some, List.map_cons, List.map_nil, List.getElem?_cons_zero, List.getElem?_cons_succ, List.getElem?_nil, List.set_cons_zero, List.set_cons_succ, List.length_cons, List.length_nil, List.cons_append, List.nil_append, List.take_succ_cons, List.take_zero, List.replicate_succ, List.replicate_zero, gMin2, gMax2, gMax3, nodup1, List.nodup_nil, gEq_int, gEq_str, atI_0, atI_1, atI_2, atI_3, atI_4, atI_5, ixN_40, ixN_41, ixN_42, ixN_43, gMul, Nat.reduceAdd, Nat.reduceSub, Nat.zero_add, Option.isSome_some, true_and, and_true, Option.some.injEq, exists_and_left, exists_eq_left, exists_eq_left', id_eq, ite_true, ite_false, reduceIte, Bool.false_eq_true, decide_eq_true_eq]
            refine ⟨one, other, rfl, l1, l2, fun l hg => ?_⟩
            try simp only [sSeq, sNext, sSet, sRet, sRetN, sIf, sAsg, sDrop, sPar, sBrk, sCnt, sFor, sStore, sAugI, sAug, dC, dVar, dTake, qVar, qE, aNil, aCons, dOp, dUn, dCallB, gets, Op.get, put, puts, dat_sh, dat_ow, dat_bw, dat_un, ty0, ty1, ty2, ty3, ty4, ty5, ty6, ty7, ty8, ty9, ty10, ty11, ty12, ty13, ty14, ty15, ty16, ty17, ty18, ty19, ty20, ty21, ty22, ty23, ty24, ty25, ty26, ty27, ty28, ty29, ty30, ty31, ty32, ty33, ty34, ty35, ty36, ty37, ty38, ty39, ty40, ty41, gIsi_non, gIsi_bl, gIsi_int, gIsi_str, gIsi_lst, gIsi_tup, gIsi_dct, gIsC, dMut0, mReverse, mPopAt, gEq_bl, gEq_strs, eq_self, Sl.cn, Sl.with, Cn.dat, Rv.dat, bOf, asB, bTr, gTruth, bAnd, bOr, bNot, dAnd, dOr, dNot, dIf, dChain, vNil, vCons, dTup, dLst, dDisp, psNil, psCons, keyed, D.key, gN, gT, gsNil, gsCons, rNil, rCons, srcE, srcR1, srcR2, srcR3, srcEnum, srcZip, srcC, srcV, itsOf, dLc, bYes, wipeD, agNil, agVal, agBor, mkArgs, bors, giveB, dCall, clean, dMut, slL, mAppend, mInsert, slC, cnSet, gAdd, gSubI, gDiv, gMod, gNeg, gCmpI, gIx, dSl, oNo, oE, gSl, dRev, dJoin, gAbs, gLen, gInt, gIsN, gList, Option.map_some, List.map_cons, List.map_nil, List.getElem?_cons_zero, List.getElem?_cons_succ, List.getElem?_nil, List.set_cons_zero, List.set_cons_succ, List.length_cons, List.length_nil, List.cons_append, List.nil_append, List.take_succ_cons, List.take_zero, List.replicate_succ, List.replicate_zero, gMin2, gMax2, gMax3, nodup1, List.nodup_nil, gEq_int, gEq_str, atI_0, atI_1, atI_2, atI_3, atI_4, atI_5, ixN_40, ixN_41, ixN_42, ixN_43, gMul, Nat.reduceAdd, Nat.reduceSub, Nat.zero_add, Option.isSome_some, true_and, and_true, Option.some.injEq, exists_and_left, exists_eq_left, exists_eq_left', id_eq, ite_true, ite_false, reduceIte, Bool.false_eq_true, decide_eq_true_eq]
            refine h3 _ ?_
            clear h3
            have hlen := hg.1
            have hlb := lcs_le one other
            refine sSeq_cut (fun ρ' => ρ' = [.sh (.scr ns), .ow c2, s2, .sh (.lst (one.map D.str)), .sh (.lst (other.map D.str)), .sh (.rep (.lst [.lst (one.map D.str), .lst (other.map D.str)])), .sh (.int (0 + (j : Int) * 1)), .ow (.l l)]) (fun N3 hN3 => ?_) ?_
            · refine sIf_go fun T hT hF => ?_
              try simp only [sSeq, sNext, sSet, sRet, sRetN, sIf, sAsg, sDrop, sPar, sBrk, sCnt, sFor, sStore, sAugI, sAug, dC, dVar, dTake, qVar, qE, aNil, aCons, dOp, dUn, dCallB, gets, Op.get, put, puts, dat_sh, dat_ow, dat_bw, dat_un, ty0, ty1, ty2, ty3, ty4, ty5, ty6, ty7, ty8, ty9, ty10, ty11, ty12, ty13, ty14, ty15, ty16, ty17, ty18, ty19, ty20, ty21, ty22, ty23, ty24, ty25, ty26, ty27, ty28, ty29, ty30, ty31, ty32, ty33, ty34, ty35, ty36, ty37, ty38, ty39, ty40, ty41, gIsi_non, gIsi_bl, gIsi_int, gIsi_str, gIsi_lst, gIsi_tup, gIsi_dct, gIsC, dMut0, mReverse, mPopAt, gEq_bl, gEq_strs, eq_self, Sl.cn, Sl.with, Cn.dat, Rv.dat, bOf, asB, bTr, gTruth, bAnd, bOr, bNot, dAnd, dOr, dNot, dIf, dChain, vNil, vCons, dTup, dLst, dDisp, psNil, psCons, keyed, D.key, gN, gT, gsNil, gsCons, rNil, rCons, srcE, srcR1, srcR2, srcR3, srcEnum, srcZip, srcC, srcV, itsOf, dLc, bYes, wipeD, agNil, agVal, agBor, mkArgs, bors, giveB, dCall, clean, dMut, slL, mAppend, mInsert, slC, cnSet, gAdd, gSubI, gDiv, gMod, gNeg, gCmpI, gIx, dSl, oNo, oE, gSl, dRev, dJoin, gAbs, gLen, gInt, gIsN, gList, Option.map_some, List.map_cons, List.map_nil, List.getElem?_cons_zero, List.getElem?_cons_succ, List.getElem?_nil, List.set_cons_zero, List.set_cons_succ, List.length_cons, List.length_nil, List.cons_append, List.nil_append, List.take_succ_cons, List.take_zero, List.replicate_succ, List.replicate_zero, gMin2, gMax2, gMax3, nodup1, List.nodup_nil, gEq_int, gEq_str, atI_0, atI_1, atI_2, atI_3, atI_4, atI_5, ixN_40, ixN_41, ixN_42, ixN_43, gMul, Nat.reduceAdd, Nat.reduceSub, Nat.zero_add, Option.isSome_some, true_and, and_true, Option.some.injEq, exists_and_left, exists_eq_left, exists_eq_left', id_eq, ite_true, ite_false, reduceIte, Bool.false_eq_true, decide_eq_true_eq]
              refine ⟨one, other, l, rfl, good_tame hg l1, l1, l2, fun b hb => ?_⟩
              have hbt := hb.mpr hg
              subst hbt
              try simp only [sSeq, sNext, sSet, sRet, sRetN, sIf, sAsg, sDrop, sPar, sBrk, sCnt, sFor, sStore, sAugI, sAug, dC, dVar, dTake, qVar, qE, aNil, aCons, dOp, dUn, dCallB, gets, Op.get, put, puts, dat_sh, dat_ow, dat_bw, dat_un, ty0, ty1, ty2, ty3, ty4, ty5, ty6, ty7, ty8, ty9, ty10, ty11, ty12, ty13, ty14, ty15, ty16, ty17, ty18, ty19, ty20, ty21, ty22, ty23, ty24, ty25, ty26, ty27, ty28, ty29, ty30, ty31, ty32, ty33, ty34, ty35, ty36, ty37, ty38, ty39, ty40, ty41, gIsi_non, gIsi_bl, gIsi_int, gIsi_str, gIsi_lst, gIsi_tup, gIsi_dct, gIsC, dMut0, mReverse, mPopAt, gEq_bl, gEq_strs, eq_self, Sl.cn, Sl.with, Cn.dat, Rv.dat, bOf, asB, bTr, gTruth, bAnd, bOr, bNot, dAnd, dOr, dNot, dIf, dChain, vNil, vCons, dTup, dLst, dDisp, psNil, psCons, keyed, D.key, gN, gT, gsNil, gsCons, rNil, rCons, srcE, srcR1, srcR2, srcR3, srcEnum, srcZip, srcC, srcV, itsOf, dLc, bYes, wipeD, agNil, agVal, agBor, mkArgs, bors, giveB, dCall, clean, dMut, slL, mAppend, mInsert, slC, cnSet, gAdd, gSubI, gDiv, gMod, gNeg, gCmpI, gIx, dSl, oNo, oE, gSl, dRev, dJoin, gAbs, gLen, gInt, gIsN, gList, Option.map_some, List.map_cons, List.map_nil, List.getElem?_cons_zero, List.getElem?_cons_succ, List.getElem?_nil, List.set_cons_zero, List.set_cons_succ, List.length_cons, List.length_nil, List.cons_append, List.nil_append, List.take_succ_cons, List.take_zero, List.replicate_succ, List.replicate_zero, gMin2, gMax2, gMax3, nodup1, List.nodup_nil, gEq_int, gEq_str, atI_0, atI_1, atI_2, atI_3, atI_4, atI_5, ixN_40, ixN_41, ixN_42, ixN_43, gMul, Nat.reduceAdd, Nat.reduceSub, Nat.zero_add, Option.isSome_some, true_and, and_true, Option.some.injEq, exists_and_left, exists_eq_left, exists_eq_left', id_eq, ite_true, ite_false, reduceIte, Bool.false_eq_true, decide_eq_true_eq, Bool.not_true]
              refine ⟨one, other, .lst l, rfl, good_tame hg l1, l1, l2, fun b hb => ?_⟩
              have hbt := hb.mpr ⟨l, rfl, hg⟩
              subst hbt
              try simp only [sSeq, sNext, sSet, sRet, sRetN, sIf, sAsg, sDrop, sPar, sBrk, sCnt, sFor, sStore, sAugI, sAug, dC, dVar, dTake, qVar, qE, aNil, aCons, dOp, dUn, dCallB, gets, Op.get, put, puts, dat_sh, dat_ow, dat_bw, dat_un, ty0, ty1, ty2, ty3, ty4, ty5, ty6, ty7, ty8, ty9, ty10, ty11, ty12, ty13, ty14, ty15, ty16, ty17, ty18, ty19, ty20, ty21, ty22, ty23, ty24, ty25, ty26, ty27, ty28, ty29, ty30, ty31, ty32, ty33, ty34, ty35, ty36, ty37, ty38, ty39, ty40, ty41, gIsi_non, gIsi_bl, gIsi_int, gIsi_str, gIsi_lst, gIsi_tup, gIsi_dct, gIsC, dMut0, mReverse, mPopAt, gEq_bl, gEq_strs, eq_self, Sl.cn, Sl.with, Cn.dat, Rv.dat, bOf, asB, bTr, gTruth, bAnd, bOr, bNot, dAnd, dOr, dNot, dIf, dChain, vNil, vCons, dTup, dLst, dDisp, psNil, psCons, keyed, D.key, gN, gT, gsNil, gsCons, rNil, rCons, srcE, srcR1, srcR2, srcR3, srcEnum, srcZip, srcC, srcV, itsOf, dLc, bYes, wipeD, agNil, agVal, agBor, mkArgs, bors, giveB, dCall, clean, dMut, slL, mAppend, mInsert, slC, cnSet, gAdd, gSubI, gDiv, gMod, gNeg, gCmpI, gIx, dSl, oNo, oE, gSl, dRev, dJoin, gAbs, gLen, gInt, gIsN, gList, Option.map_some, List.map_cons, List.map_nil, List.getElem?_cons_zero, List.getElem?_cons_succ, List.getElem?_nil, List.set_cons_zero, List.set_cons_succ, List.length_cons, List.length_nil, List.cons_append, List.nil_append, List.take_succ_cons, List.take_zero, List.replicate_succ, List.replicate_zero, gMin2, gMax2, gMax3, nodup1, List.nodup_nil, gEq_int, gEq_str, atI_0, atI_1, atI_2, atI_3, atI_4, atI_5, ixN_40, ixN_41, ixN_42, ixN_43, gMul, Nat.reduceAdd, Nat.reduceSub, Nat.zero_add, Option.isSome_some, true_and, and_true, Option.some.injEq, exists_and_left, exists_eq_left, exists_eq_left', id_eq, ite_true, ite_false, reduceIte, Bool.false_eq_true, decide_eq_true_eq, beq_self_eq_true, Bool.not_true]
              refine hF _ ?_
              exact hN3 _ rfl
            · rintro ρ' rfl
              refine sSeq_cut (fun ρ' => ρ' = [.sh (.scr ns), .ow c2, s2, .sh (.lst (one.map D.str)), .sh (.lst (other.map D.str)), .sh (.rep (.lst [.lst (one.map D.str), .lst (other.map D.str)])), .sh (.int (0 + (j : Int) * 1)), .ow (.l l)]) (fun N3 hN3 => ?_) ?_
              · refine sIf_go fun T hT hF => ?_
                try simp only [sSeq, sNext, sSet, sRet, sRetN, sIf, sAsg, sDrop, sPar, sBrk, sCnt, sFor, sStore, sAugI, sAug, dC, dVar, dTake, qVar, qE, aNil, aCons, dOp, dUn, dCallB, gets, Op.get, put, puts, dat_sh, dat_ow, dat_bw, dat_un, ty0, ty1, ty2, ty3, ty4, ty5, ty6, ty7, ty8, ty9, ty10, ty11, ty12, ty13, ty14, ty15, ty16, ty17, ty18, ty19, ty20, ty21, ty22, ty23, ty24, ty25, ty26, ty27, ty28, ty29, ty30, ty31, ty32, ty33, ty34, ty35, ty36, ty37, ty38, ty39, ty40, ty41, gIsi_non, gIsi_bl, gIsi_int, gIsi_str, gIsi_lst, gIsi_tup, gIsi_dct, gIsC, dMut0, mReverse, mPopAt, gEq_bl, gEq_strs, eq_self, Sl.cn, Sl.with, Cn.dat, Rv.dat, bOf, asB, bTr, gTruth, bAnd, bOr, bNot, dAnd, dOr, dNot, dIf, dChain, vNil, vCons, dTup, dLst, dDisp, psNil, psCons, keyed, D.key, gN, gT, gsNil, gsCons, rNil, rCons, srcE, srcR1, srcR2, srcR3, srcEnum, srcZip, srcC, srcV, itsOf, dLc, bYes, wipeD, agNil, agVal, agBor, mkArgs, bors, giveB, dCall, clean, dMut, slL, mAppend, mInsert, slC, cnSet, gAdd, gSubI, gDiv, gMod, gNeg, gCmpI, gIx, dSl, oNo, oE, gSl, dRev, dJoin, gAbs, gLen, gInt, gIsN, gList, Option.map_some, List.map_cons, List.map_nil, List.getElem?_cons_zero, List.getElem?_cons_succ, List.getElem?_nil, List.set_cons_zero, List.set_cons_succ, List.length_cons, List.length_nil, List.cons_append, List.nil_append, List.take_succ_cons, List.take_zero, List.replicate_succ, List.replicate_zero, gMin2, gMax2, gMax3, nodup1, List.nodup_nil, gEq_int, gEq_str, atI_0, atI_1, atI_2, atI_3, atI_4, atI_5, ixN_40, ixN_41, ixN_42, ixN_43, gMul, Nat.reduceAdd, Nat.reduceSub, Nat.zero_add, Option.isSome_some, true_and, and_true, Option.some.injEq, exists_and_left, exists_eq_left, exists_eq_left', id_eq, ite_true, ite_false, reduceIte, Bool.false_eq_true, decide_eq_true_eq, List.length_map]
                refine ⟨one, other, rfl, l1, l2, ?_⟩
                try simp only [sSeq, sNext, sSet, sRet, sRetN, sIf, sAsg, sDrop, sPar, sBrk, sCnt, sFor, sStore, sAugI, sAug, dC, dVar, dTake, qVar, qE, aNil, aCons, dOp, dUn, dCallB, gets, Op.get, put, puts, dat_sh, dat_ow, dat_bw, dat_un, ty0, ty1, ty2, ty3, ty4, ty5, ty6, ty7, ty8, ty9, ty10, ty11, ty12, ty13, ty14, ty15, ty16, ty17, ty18, ty19, ty20, ty21, ty22, ty23, ty24, ty25, ty26, ty27, ty28, ty29, ty30, ty31, ty32, ty33, ty34, ty35, ty36, ty37, ty38, ty39, ty40, ty41, gIsi_non, gIsi_bl, gIsi_int, gIsi_str, gIsi_lst, gIsi_tup, gIsi_dct, gIsC, dMut0, mReverse, mPopAt, gEq_bl, gEq_strs, eq_self, Sl.cn, Sl.with, Cn.dat, Rv.dat, bOf, asB, bTr, gTruth, bAnd, bOr, bNot, dAnd, dOr, dNot, dIf, dChain, vNil, vCons, dTup, dLst, dDisp, psNil, psCons, keyed, D.key, gN, gT, gsNil, gsCons, rNil, rCons, srcE, srcR1, srcR2, srcR3, srcEnum, srcZip, srcC, srcV, itsOf, dLc, bYes, wipeD, agNil, agVal, agBor, mkArgs, bors, giveB, dCall, clean, dMut, slL, mAppend, mInsert, slC, cnSet, gAdd, gSubI, gDiv, gMod, gNeg, gCmpI, gIx, dSl, oNo, oE, gSl, dRev, dJoin, gAbs, gLen, gInt, gIsN, gList, Option.map_some, List.map_cons, List.map_nil, List.getElem?_cons_zero, List.getElem?_cons_succ, List.getElem?_nil, List.set_cons_zero, List.set_cons_succ, List.length_cons, List.length_nil, List.cons_append, List.nil_append, List.take_succ_cons, List.take_zero, List.replicate_succ, List.replicate_zero, gMin2, gMax2, gMax3, nodup1, List.nodup_nil, gEq_int, gEq_str, atI_0, atI_1, atI_2, atI_3, atI_4, atI_5, ixN_40, ixN_41, ixN_42, ixN_43, gMul, Nat.reduceAdd, Nat.reduceSub, Nat.zero_add, Option.isSome_some, true_and, and_true, Option.some.injEq, exists_and_left, exists_eq_left, exists_eq_left', id_eq, ite_true, ite_false, reduceIte, Bool.false_eq_true, decide_eq_true_eq, List.length_map]
                refine ⟨cMul_of (by decide) (by omega), ?_⟩
                simp only [hlen, decide_true, Bool.not_true, Bool.false_eq_true, if_false]
                refine ⟨le_size (by decide), repr_two n1 n2 l1 l2 ?_⟩
                try simp only [sSeq, sNext, sSet, sRet, sRetN, sIf, sAsg, sDrop, sPar, sBrk, sCnt, sFor, sStore, sAugI, sAug, dC, dVar, dTake, qVar, qE, aNil, aCons, dOp, dUn, dCallB, gets, Op.get, put, puts, dat_sh, dat_ow, dat_bw, dat_un, ty0, ty1, ty2, ty3, ty4, ty5, ty6, ty7, ty8, ty9, ty10, ty11, ty12, ty13, ty14, ty15, ty16, ty17, ty18, ty19, ty20, ty21, ty22, ty23, ty24, ty25, ty26, ty27, ty28, ty29, ty30, ty31, ty32, ty33, ty34, ty35, ty36, ty37, ty38, ty39, ty40, ty41, gIsi_non, gIsi_bl, gIsi_int, gIsi_str, gIsi_lst, gIsi_tup, gIsi_dct, gIsC, dMut0, mReverse, mPopAt, gEq_bl, gEq_strs, eq_self, Sl.cn, Sl.with, Cn.dat, Rv.dat, bOf, asB, bTr, gTruth, bAnd, bOr, bNot, dAnd, dOr, dNot, dIf, dChain, vNil, vCons, dTup, dLst, dDisp, psNil, psCons, keyed, D.key, gN, gT, gsNil, gsCons, rNil, rCons, srcE, srcR1, srcR2, srcR3, srcEnum, srcZip, srcC, srcV, itsOf, dLc, bYes, wipeD, agNil, agVal, agBor, mkArgs, bors, giveB, dCall, clean, dMut, slL, mAppend, mInsert, slC, cnSet, gAdd, gSubI, gDiv, gMod, gNeg, gCmpI, gIx, dSl, oNo, oE, gSl, dRev, dJoin, gAbs, gLen, gInt, gIsN, gList, Option.map_some, List.map_cons, List.map_nil, List.getElem?_cons_zero, List.getElem?_cons_succ, List.getElem?_nil, List.set_cons_zero, List.set_cons_succ, List.length_cons, List.length_nil, List.cons_append, List.nil_append, List.take_succ_cons, List.take_zero, List.replicate_succ, List.replicate_zero, gMin2, gMax2, gMax3, nodup1, List.nodup_nil, gEq_int, gEq_str, atI_0, atI_1, atI_2, atI_3, atI_4, atI_5, ixN_40, ixN_41, ixN_42, ixN_43, gMul, Nat.reduceAdd, Nat.reduceSub, Nat.zero_add, Option.isSome_some, true_and, and_true, Option.some.injEq, exists_and_left, exists_eq_left, exists_eq_left', id_eq, ite_true, ite_false, reduceIte, Bool.false_eq_true, decide_eq_true_eq]
                refine gEq_rep ?_
                try simp only [sSeq, sNext, sSet, sRet, sRetN, sIf, sAsg, sDrop, sPar, sBrk, sCnt, sFor, sStore, sAugI, sAug, dC, dVar, dTake, qVar, qE, aNil, aCons, dOp, dUn, dCallB, gets, Op.get, put, puts, dat_sh, dat_ow, dat_bw, dat_un, ty0, ty1, ty2, ty3, ty4, ty5, ty6, ty7, ty8, ty9, ty10, ty11, ty12, ty13, ty14, ty15, ty16, ty17, ty18, ty19, ty20, ty21, ty22, ty23, ty24, ty25, ty26, ty27, ty28, ty29, ty30, ty31, ty32, ty33, ty34, ty35, ty36, ty37, ty38, ty39, ty40, ty41, gIsi_non, gIsi_bl, gIsi_int, gIsi_str, gIsi_lst, gIsi_tup, gIsi_dct, gIsC, dMut0, mReverse, mPopAt, gEq_bl, gEq_strs, eq_self, Sl.cn, Sl.with, Cn.dat, Rv.dat, bOf, asB, bTr, gTruth, bAnd, bOr, bNot, dAnd, dOr, dNot, dIf, dChain, vNil, vCons, dTup, dLst, dDisp, psNil, psCons, keyed, D.key, gN, gT, gsNil, gsCons, rNil, rCons, srcE, srcR1, srcR2, srcR3, srcEnum, srcZip, srcC, srcV, itsOf, dLc, bYes, wipeD, agNil, agVal, agBor, mkArgs, bors, giveB, dCall, clean, dMut, slL, mAppend, mInsert, slC, cnSet, gAdd, gSubI, gDiv, gMod, gNeg, gCmpI, gIx, dSl, oNo, oE, gSl, dRev, dJoin, gAbs, gLen, gInt, gIsN, gList, Option.map_some, List.map_cons, List.map_nil, List.getElem?_cons_zero, List.getElem?_cons_succ, List.getElem?_nil, List.set_cons_zero, List.set_cons_succ, List.length_cons, List.length_nil, List.cons_append, List.nil_append, List.take_succ_cons, List.take_zero, List.replicate_succ, List.replicate_zero, gMin2, gMax2, gMax3, nodup1, List.nodup_nil, gEq_int, gEq_str, atI_0, atI_1, atI_2, atI_3, atI_4, atI_5, ixN_40, ixN_41, ixN_42, ixN_43, gMul, Nat.reduceAdd, Nat.reduceSub, Nat.zero_add, Option.isSome_some, true_and, and_true, Option.some.injEq, exists_and_left, exists_eq_left, exists_eq_left', id_eq, ite_true, ite_false, reduceIte, Bool.false_eq_true, decide_eq_true_eq, Bool.not_true]
                refine hF _ ?_
                exact hN3 _ rfl
              · rintro ρ' rfl
                refine sSeq_go fun N3 h3 => ?_
                try simp only [sSeq, sNext, sSet, sRet, sRetN, sIf, sAsg, sDrop, sPar, sBrk, sCnt, sFor, sStore, sAugI, sAug, dC, dVar, dTake, qVar, qE, aNil, aCons, dOp, dUn, dCallB, gets, Op.get, put, puts, dat_sh, dat_ow, dat_bw, dat_un, ty0, ty1, ty2, ty3, ty4, ty5, ty6, ty7, ty8, ty9, ty10, ty11, ty12, ty13, ty14, ty15, ty16, ty17, ty18, ty19, ty20, ty21, ty22, ty23, ty24, ty25, ty26, ty27, ty28, ty29, ty30, ty31, ty32, ty33, ty34, ty35, ty36, ty37, ty38, ty39, ty40, ty41, gIsi_non, gIsi_bl, gIsi_int, gIsi_str, gIsi_lst, gIsi_tup, gIsi_dct, gIsC, dMut0, mReverse, mPopAt, gEq_bl, gEq_strs, eq_self, Sl.cn, Sl.with, Cn.dat, Rv.dat, bOf, asB, bTr, gTruth, bAnd, bOr, bNot, dAnd, dOr, dNot, dIf, dChain, vNil, vCons, dTup, dLst, dDisp, psNil, psCons, keyed, D.key, gN, gT, gsNil, gsCons, rNil, rCons, srcE, srcR1, srcR2, srcR3, srcEnum, srcZip, srcC, srcV, itsOf, dLc, bYes, wipeD, agNil, agVal, agBor, mkArgs, bors, giveB, dCall, clean, dMut, slL, mAppend, mInsert, slC, cnSet, gAdd, gSubI, gDiv, gMod, gNeg, gCmpI, gIx, dSl, oNo, oE, gSl, dRev, dJoin, gAbs, gLen, gInt, gIsN, gList, Option.map_some, List.map_cons, List.map_nil, List.getElem?_cons_zero, List.getElem?_cons_succ, List.getElem?_nil, List.set_cons_zero, List.set_cons_succ, List.length_cons, List.length_nil, List.cons_append, List.nil_append, List.take_succ_cons, List.take_zero, List.replicate_succ, List.replicate_zero, gMin2, gMax2, gMax3, nodup1, List.nodup_nil, gEq_int, gEq_str, atI_0, atI_1, atI_2, atI_3, atI_4, atI_5, ixN_40, ixN_41, ixN_42, ixN_43, gMul, Nat.reduceAdd, Nat.reduceSub, Nat.zero_add, Option.isSome_some, true_and, and_true, Option.some.injEq, exists_and_left, exists_eq_left, exists_eq_left', id_eq, ite_true, ite_false, reduceIte, Bool.false_eq_true, decide_eq_true_eq]
                refine ⟨le_size (by decide), lt_size (by omega), h3 _ ?_⟩
                try simp only [sSeq, sNext, sSet, sRet, sRetN, sIf, sAsg, sDrop, sPar, sBrk, sCnt, sFor, sStore, sAugI, sAug, dC, dVar, dTake, qVar, qE, aNil, aCons, dOp, dUn, dCallB, gets, Op.get, put, puts, dat_sh, dat_ow, dat_bw, dat_un, ty0, ty1, ty2, ty3, ty4, ty5, ty6, ty7, ty8, ty9, ty10, ty11, ty12, ty13, ty14, ty15, ty16, ty17, ty18, ty19, ty20, ty21, ty22, ty23, ty24, ty25, ty26, ty27, ty28, ty29, ty30, ty31, ty32, ty33, ty34, ty35, ty36, ty37, ty38, ty39, ty40, ty41, gIsi_non, gIsi_bl, gIsi_int, gIsi_str, gIsi_lst, gIsi_tup, gIsi_dct, gIsC, dMut0, mReverse, mPopAt, gEq_bl, gEq_strs, eq_self, Sl.cn, Sl.with, Cn.dat, Rv.dat, bOf, asB, bTr, gTruth, bAnd, bOr, bNot, dAnd, dOr, dNot, dIf, dChain, vNil, vCons, dTup, dLst, dDisp, psNil, psCons, keyed, D.key, gN, gT, gsNil, gsCons, rNil, rCons, srcE, srcR1, srcR2, srcR3, srcEnum, srcZip, srcC, srcV, itsOf, dLc, bYes, wipeD, agNil, agVal, agBor, mkArgs, bors, giveB, dCall, clean, dMut, slL, mAppend, mInsert, slC, cnSet, gAdd, gSubI, gDiv, gMod, gNeg, gCmpI, gIx, dSl, oNo, oE, gSl, dRev, dJoin, gAbs, gLen, gInt, gIsN, gList, Option.map_some, List.map_cons, List.map_nil, List.getElem?_cons_zero, List.getElem?_cons_succ, List.getElem?_nil, List.set_cons_zero, List.set_cons_succ, List.length_cons, List.length_nil, List.cons_append, List.nil_append, List.take_succ_cons, List.take_zero, List.replicate_succ, List.replicate_zero, gMin2, gMax2, gMax3, nodup1, List.nodup_nil, gEq_int, gEq_str, atI_0, atI_1, atI_2, atI_3, atI_4, atI_5, ixN_40, ixN_41, ixN_42, ixN_43, gMul, Nat.reduceAdd, Nat.reduceSub, Nat.zero_add, Option.isSome_some, true_and, and_true, Option.some.injEq, exists_and_left, exists_eq_left, exists_eq_left', id_eq, ite_true, ite_false, reduceIte, Bool.false_eq_true, decide_eq_true_eq]
                exact hN4 _ ⟨_, _, rfl⟩
    · rintro ρ' ⟨s1, s2, s3, s4, s5, s6, s7, rfl⟩
      try simp only [sSeq, sNext, sSet, sRet, sRetN, sIf, sAsg, sDrop, sPar, sBrk, sCnt, sFor, sStore, sAugI, sAug, dC, dVar, dTake, qVar, qE, aNil, aCons, dOp, dUn, dCallB, gets, Op.get, put, puts, dat_sh, dat_ow, dat_bw, dat_un, ty0, ty1, ty2, ty3, ty4, ty5, ty6, ty7, ty8, ty9, ty10, ty11, ty12, ty13, ty14, ty15, ty16, ty17, ty18, ty19, ty20, ty21, ty22, ty23, ty24, ty25, ty26, ty27, ty28, ty29, ty30, ty31, ty32, ty33, ty34, ty35, ty36, ty37, ty38, ty39, ty40, ty41, gIsi_non, gIsi_bl, gIsi_int, gIsi_str, gIsi_lst, gIsi_tup, gIsi_dct, gIsC, dMut0, mReverse, mPopAt, gEq_bl, gEq_strs, eq_self, Sl.cn, Sl.with, Cn.dat, Rv.dat, bOf, asB, bTr, gTruth, bAnd, bOr, bNot, dAnd, dOr, dNot, dIf, dChain, vNil, vCons, dTup, dLst, dDisp, psNil, psCons, keyed, D.key, gN, gT, gsNil, gsCons, rNil, rCons, srcE, srcR1, srcR2, srcR3, srcEnum, srcZip, srcC, srcV, itsOf, dLc, bYes, wipeD, agNil, agVal, agBor, mkArgs, bors, giveB, dCall, clean, dMut, slL, mAppend, mInsert, slC, cnSet, gAdd, gSubI, gDiv, gMod, gNeg, gCmpI, gIx, dSl, oNo, oE, gSl, dRev, dJoin, gAbs, gLen, gInt, gIsN, gList, Option.map_some, List.map_cons, List.map_nil, List.getElem?_cons_zero, List.getElem?_cons_succ, List.getElem?_nil, List.set_cons_zero, List.set_cons_succ, List.length_cons, List.length_nil, List.cons_append, List.nil_append, List.take_succ_cons, List.take_zero, List.replicate_succ, List.replicate_zero, gMin2, gMax2, gMax3, nodup1, List.nodup_nil, gEq_int, gEq_str, atI_0, atI_1, atI_2, atI_3, atI_4, atI_5, ixN_40, ixN_41, ixN_42, ixN_43, gMul, Nat.reduceAdd, Nat.reduceSub, Nat.zero_add, Option.isSome_some, true_and, and_true, Option.some.injEq, exists_and_left, exists_eq_left, exists_eq_left', id_eq, ite_true, ite_false, reduceIte, Bool.false_eq_true, decide_eq_true_eq]
      exact h _
end
theorem all_mk {l : PySem.W.OpenLaw} {w : World} {K : PySem.W.Frag} {h : Heap} {mg : Str → Option Value} {fa : Addr} (X : K.In h) (G : h.Ns mainGlobals mg) (hfa : mg "law" = some (.ref fa))
    {f0 : Addr} {od0 an0 : Option Addr} {sl0 : Array (Option Value)} {oc0 kV0 dc0 pm0 cd0 ct0 : Value} (a0 : PySem.W.nsIn K mainGlobals "_law_bag" = some (some (.ref f0))) (l0 : K.lookup f0 = some ⟨oc0, od0, .func (PySem.W.fnOf "_law_bag" "_law_bag" (defArgs s__law_bag) (defBody s__law_bag) (defScope s__law_bag) .none kV0 dc0 pm0 an0 cd0 ct0), sl0⟩) (c0 : PySem.W.codeIn K cd0 "_law_bag" = true) (k0 : PySem.W.keepIn K (.ref f0) = true)
    {f1 : Addr} {od1 an1 : Option Addr} {sl1 : Array (Option Value)} {oc1 kV1 dc1 pm1 cd1 ct1 : Value} (a1 : PySem.W.nsIn K mainGlobals "_law_take" = some (some (.ref f1))) (l1 : K.lookup f1 = some ⟨oc1, od1, .func (PySem.W.fnOf "_law_take" "_law_take" (defArgs s__law_take) (defBody s__law_take) (defScope s__law_take) .none kV1 dc1 pm1 an1 cd1 ct1), sl1⟩) (c1 : PySem.W.codeIn K cd1 "_law_take" = true) (k1 : PySem.W.keepIn K (.ref f1) = true)
    {f2 : Addr} {od2 an2 : Option Addr} {sl2 : Array (Option Value)} {oc2 kV2 dc2 pm2 cd2 ct2 : Value} (a2 : PySem.W.nsIn K mainGlobals "_law_fit" = some (some (.ref f2))) (l2 : K.lookup f2 = some ⟨oc2, od2, .func (PySem.W.fnOf "_law_fit" "_law_fit" (defArgs s__law_fit) (defBody s__law_fit) (defScope s__law_fit) .none kV2 dc2 pm2 an2 cd2 ct2), sl2⟩) (c2 : PySem.W.codeIn K cd2 "_law_fit" = true) (k2 : PySem.W.keepIn K (.ref f2) = true)
    {f3 : Addr} {od3 an3 : Option Addr} {sl3 : Array (Option Value)} {oc3 kV3 dc3 pm3 cd3 ct3 : Value} (a3 : PySem.W.nsIn K mainGlobals "_law_line" = some (some (.ref f3))) (l3 : K.lookup f3 = some ⟨oc3, od3, .func (PySem.W.fnOf "_law_line" "_law_line" (defArgs s__law_line) (defBody s__law_line) (defScope s__law_line) .none kV3 dc3 pm3 an3 cd3 ct3), sl3⟩) (c3 : PySem.W.codeIn K cd3 "_law_line" = true) (k3 : PySem.W.keepIn K (.ref f3) = true)
    {f4 : Addr} {od4 an4 : Option Addr} {sl4 : Array (Option Value)} {oc4 kV4 dc4 pm4 cd4 ct4 : Value} (a4 : PySem.W.nsIn K mainGlobals "_law_two_lines" = some (some (.ref f4))) (l4 : K.lookup f4 = some ⟨oc4, od4, .func (PySem.W.fnOf "_law_two_lines" "_law_two_lines" (defArgs s__law_two_lines) (defBody s__law_two_lines) (defScope s__law_two_lines) .none kV4 dc4 pm4 an4 cd4 ct4), sl4⟩) (c4 : PySem.W.codeIn K cd4 "_law_two_lines" = true) (k4 : PySem.W.keepIn K (.ref f4) = true)
    {f5 : Addr} {od5 an5 : Option Addr} {sl5 : Array (Option Value)} {oc5 kV5 dc5 pm5 cd5 ct5 : Value} (a5 : PySem.W.nsIn K mainGlobals "_law_names" = some (some (.ref f5))) (l5 : K.lookup f5 = some ⟨oc5, od5, .func (PySem.W.fnOf "_law_names" "_law_names" (defArgs s__law_names) (defBody s__law_names) (defScope s__law_names) .none kV5 dc5 pm5 an5 cd5 ct5), sl5⟩) (c5 : PySem.W.codeIn K cd5 "_law_names" = true) (k5 : PySem.W.keepIn K (.ref f5) = true)
    {f6 : Addr} {od6 an6 : Option Addr} {sl6 : Array (Option Value)} {oc6 kV6 dc6 pm6 cd6 ct6 : Value} (a6 : PySem.W.nsIn K mainGlobals "_law_plan" = some (some (.ref f6))) (l6 : K.lookup f6 = some ⟨oc6, od6, .func (PySem.W.fnOf "_law_plan" "_law_plan" (defArgs s__law_plan) (defBody s__law_plan) (defScope s__law_plan) .none kV6 dc6 pm6 an6 cd6 ct6), sl6⟩) (c6 : PySem.W.codeIn K cd6 "_law_plan" = true) (k6 : PySem.W.keepIn K (.ref f6) = true)
    {f7 : Addr} {od7 an7 : Option Addr} {sl7 : Array (Option Value)} {oc7 kV7 dc7 pm7 cd7 ct7 : Value} (a7 : PySem.W.nsIn K mainGlobals "common_lengths" = some (some (.ref f7))) (l7 : K.lookup f7 = some ⟨oc7, od7, .func (PySem.W.fnOf "common_lengths" "common_lengths" (defArgs s_common_lengths) (defBody s_common_lengths) (defScope s_common_lengths) .none kV7 dc7 pm7 an7 cd7 ct7), sl7⟩) (c7 : PySem.W.codeIn K cd7 "common_lengths" = true) (k7 : PySem.W.keepIn K (.ref f7) = true)
    {f8 : Addr} {od8 an8 : Option Addr} {sl8 : Array (Option Value)} {oc8 kV8 dc8 pm8 cd8 ct8 : Value} (a8 : PySem.W.nsIn K mainGlobals "common" = some (some (.ref f8))) (l8 : K.lookup f8 = some ⟨oc8, od8, .func (PySem.W.fnOf "common" "common" (defArgs s_common) (defBody s_common) (defScope s_common) .none kV8 dc8 pm8 an8 cd8 ct8), sl8⟩) (c8 : PySem.W.codeIn K cd8 "common" = true) (k8 : PySem.W.keepIn K (.ref f8) = true)
    {f9 : Addr} {od9 an9 : Option Addr} {sl9 : Array (Option Value)} {oc9 kV9 dc9 pm9 cd9 ct9 : Value} (a9 : PySem.W.nsIn K mainGlobals "_law_longest" = some (some (.ref f9))) (l9 : K.lookup f9 = some ⟨oc9, od9, .func (PySem.W.fnOf "_law_longest" "_law_longest" (defArgs s__law_longest) (defBody s__law_longest) (defScope s__law_longest) .none kV9 dc9 pm9 an9 cd9 ct9), sl9⟩) (c9 : PySem.W.codeIn K cd9 "_law_longest" = true) (k9 : PySem.W.keepIn K (.ref f9) = true)
    {f10 : Addr} {od10 an10 : Option Addr} {sl10 : Array (Option Value)} {oc10 kV10 dc10 pm10 cd10 ct10 : Value} (a10 : PySem.W.nsIn K mainGlobals "_law_is_index" = some (some (.ref f10))) (l10 : K.lookup f10 = some ⟨oc10, od10, .func (PySem.W.fnOf "_law_is_index" "_law_is_index" (defArgs s__law_is_index) (defBody s__law_is_index) (defScope s__law_is_index) .none kV10 dc10 pm10 an10 cd10 ct10), sl10⟩) (c10 : PySem.W.codeIn K cd10 "_law_is_index" = true) (k10 : PySem.W.keepIn K (.ref f10) = true)
    {f11 : Addr} {od11 an11 : Option Addr} {sl11 : Array (Option Value)} {oc11 kV11 dc11 pm11 cd11 ct11 : Value} (a11 : PySem.W.nsIn K mainGlobals "_law_is_right" = some (some (.ref f11))) (l11 : K.lookup f11 = some ⟨oc11, od11, .func (PySem.W.fnOf "_law_is_right" "_law_is_right" (defArgs s__law_is_right) (defBody s__law_is_right) (defScope s__law_is_right) .none kV11 dc11 pm11 an11 cd11 ct11), sl11⟩) (c11 : PySem.W.codeIn K cd11 "_law_is_right" = true) (k11 : PySem.W.keepIn K (.ref f11) = true)
    {f12 : Addr} {od12 an12 : Option Addr} {sl12 : Array (Option Value)} {oc12 kV12 dc12 pm12 cd12 ct12 : Value} (a12 : PySem.W.nsIn K mainGlobals "is_integer" = some (some (.ref f12))) (l12 : K.lookup f12 = some ⟨oc12, od12, .func (PySem.W.fnOf "is_integer" "is_integer" (defArgs s_is_integer) (defBody s_is_integer) (defScope s_is_integer) .none kV12 dc12 pm12 an12 cd12 ct12), sl12⟩) (c12 : PySem.W.codeIn K cd12 "is_integer" = true) (k12 : PySem.W.keepIn K (.ref f12) = true)
    {f13 : Addr} {od13 an13 : Option Addr} {sl13 : Array (Option Value)} {oc13 kV13 dc13 pm13 cd13 ct13 : Value} (a13 : PySem.W.nsIn K mainGlobals "is_between" = some (some (.ref f13))) (l13 : K.lookup f13 = some ⟨oc13, od13, .func (PySem.W.fnOf "is_between" "is_between" (defArgs s_is_between) (defBody s_is_between) (defScope s_is_between) .none kV13 dc13 pm13 an13 cd13 ct13), sl13⟩) (c13 : PySem.W.codeIn K cd13 "is_between" = true) (k13 : PySem.W.keepIn K (.ref f13) = true)
    {f14 : Addr} {od14 an14 : Option Addr} {sl14 : Array (Option Value)} {oc14 kV14 dc14 pm14 cd14 ct14 : Value} (a14 : PySem.W.nsIn K mainGlobals "is_link" = some (some (.ref f14))) (l14 : K.lookup f14 = some ⟨oc14, od14, .func (PySem.W.fnOf "is_link" "is_link" (defArgs s_is_link) (defBody s_is_link) (defScope s_is_link) .none kV14 dc14 pm14 an14 cd14 ct14), sl14⟩) (c14 : PySem.W.codeIn K cd14 "is_link" = true) (k14 : PySem.W.keepIn K (.ref f14) = true)
    {f15 : Addr} {od15 an15 : Option Addr} {sl15 : Array (Option Value)} {oc15 kV15 dc15 pm15 cd15 ct15 : Value} (a15 : PySem.W.nsIn K mainGlobals "is_common" = some (some (.ref f15))) (l15 : K.lookup f15 = some ⟨oc15, od15, .func (PySem.W.fnOf "is_common" "is_common" (defArgs s_is_common) (defBody s_is_common) (defScope s_is_common) .none kV15 dc15 pm15 an15 cd15 ct15), sl15⟩) (c15 : PySem.W.codeIn K cd15 "is_common" = true) (k15 : PySem.W.keepIn K (.ref f15) = true)
    {f16 : Addr} {od16 an16 : Option Addr} {sl16 : Array (Option Value)} {oc16 kV16 dc16 pm16 cd16 ct16 : Value} (a16 : PySem.W.nsIn K mainGlobals "distance" = some (some (.ref f16))) (l16 : K.lookup f16 = some ⟨oc16, od16, .func (PySem.W.fnOf "distance" "distance" (defArgs s_distance) (defBody s_distance) (defScope s_distance) .none kV16 dc16 pm16 an16 cd16 ct16), sl16⟩) (c16 : PySem.W.codeIn K cd16 "distance" = true) (k16 : PySem.W.keepIn K (.ref f16) = true)
    {f17 : Addr} {od17 an17 : Option Addr} {sl17 : Array (Option Value)} {oc17 kV17 dc17 pm17 cd17 ct17 : Value} (a17 : PySem.W.nsIn K mainGlobals "law" = some (some (.ref f17))) (l17 : K.lookup f17 = some ⟨oc17, od17, .func (PySem.W.fnOf "law" "law" (defArgs s_law) (defBody s_law) (defScope s_law) .none kV17 dc17 pm17 an17 cd17 ct17), sl17⟩) (c17 : PySem.W.codeIn K cd17 "law" = true) (k17 : PySem.W.keepIn K (.ref f17) = true)
    (z_abs : PySem.W.nsIn K mainGlobals "abs" = some none)
    (z_len : PySem.W.nsIn K mainGlobals "len" = some none)
    (z_range : PySem.W.nsIn K mainGlobals "range" = some none)
    (z_any : PySem.W.nsIn K mainGlobals "any" = some none)
    (z_list : PySem.W.nsIn K mainGlobals "list" = some none)
    (z_min : PySem.W.nsIn K mainGlobals "min" = some none)
    (z_int : PySem.W.nsIn K mainGlobals "int" = some none)
    (z_max : PySem.W.nsIn K mainGlobals "max" = some none)
    (z_isinstance : PySem.W.nsIn K mainGlobals "isinstance" = some none)
    (z_bool : PySem.W.nsIn K mainGlobals "bool" = some none)
    (z_tuple : PySem.W.nsIn K mainGlobals "tuple" = some none)
    (z_all : PySem.W.nsIn K mainGlobals "all" = some none)
    (z_zip : PySem.W.nsIn K mainGlobals "zip" = some none)
    (z_repr : PySem.W.nsIn K mainGlobals "repr" = some none)
    : ∃ fd : FuncData, (∀ (s : Shared) (v : Value), BindsTo s fd ⟨[v], []⟩ [("_law_script", v)]) ∧ ∀ base : Heap, K.In base → base.Ns mainGlobals mg → FnG l.prog w K mg base CX0 5 fa fd ["_law_script"] (lift K sp_law) := by
  have e := hfa.symm.trans (PySem.W.mg_of X G a17)
  cases e
  have F0 := fun_mk (st := s__law_bag) l0 c0 k0
  have b0 := F0.binds (ps := ["_law_script"]) fun _ _ _ _ _ _ us hl => match us, hl with | [_], _ => rfl
  have F1 := fun_mk (st := s__law_take) l1 c1 k1
  have b1 := F1.binds (ps := ["_law_bag_here", "_law_many"]) fun _ _ _ _ _ _ us hl => match us, hl with | [_, _], _ => rfl
  have F2 := fun_mk (st := s__law_fit) l2 c2 k2
  have b2 := F2.binds (ps := ["_law_plan_here", "_law_one", "_law_other"]) fun _ _ _ _ _ _ us hl => match us, hl with | [_, _, _], _ => rfl
  have F3 := fun_mk (st := s__law_line) l3 c3 k3
  have b3 := F3.binds (ps := ["_law_bag_here", "_law_plan_here", "_law_most"]) fun _ _ _ _ _ _ us hl => match us, hl with | [_, _, _], _ => rfl
  have F4 := fun_mk (st := s__law_two_lines) l4 c4 k4
  have b4 := F4.binds (ps := ["_law_bag_here", "_law_plan_here", "_law_most"]) fun _ _ _ _ _ _ us hl => match us, hl with | [_, _, _], _ => rfl
  have F5 := fun_mk (st := s__law_names) l5 c5 k5
  have b5 := F5.binds (ps := ["_law_bag_here", "_law_many"]) fun _ _ _ _ _ _ us hl => match us, hl with | [_, _], _ => rfl
  have F6 := fun_mk (st := s__law_plan) l6 c6 k6
  have b6 := F6.binds (ps := ["_law_bag_here", "_law_most"]) fun _ _ _ _ _ _ us hl => match us, hl with | [_, _], _ => rfl
  have F7 := fun_mk (st := s_common_lengths) l7 c7 k7
  have b7 := F7.binds (ps := ["one", "other"]) fun _ _ _ _ _ _ us hl => match us, hl with | [_, _], _ => rfl
  have F8 := fun_mk (st := s_common) l8 c8 k8
  have b8 := F8.binds (ps := ["one", "other"]) fun _ _ _ _ _ _ us hl => match us, hl with | [_, _], _ => rfl
  have F9 := fun_mk (st := s__law_longest) l9 c9 k9
  have b9 := F9.binds (ps := ["_law_one", "_law_other"]) fun _ _ _ _ _ _ us hl => match us, hl with | [_, _], _ => rfl
  have F10 := fun_mk (st := s__law_is_index) l10 c10 k10
  have b10 := F10.binds (ps := ["_law_thing", "_law_line_here"]) fun _ _ _ _ _ _ us hl => match us, hl with | [_, _], _ => rfl
  have F11 := fun_mk (st := s__law_is_right) l11 c11 k11
  have b11 := F11.binds (ps := ["_law_one", "_law_other", "_law_found"]) fun _ _ _ _ _ _ us hl => match us, hl with | [_, _, _], _ => rfl
  have F12 := fun_mk (st := s_is_integer) l12 c12 k12
  have b12 := F12.binds (ps := ["thing"]) fun _ _ _ _ _ _ us hl => match us, hl with | [_], _ => rfl
  have F13 := fun_mk (st := s_is_between) l13 c13 k13
  have b13 := F13.binds (ps := ["thing", "least", "greatest"]) fun _ _ _ _ _ _ us hl => match us, hl with | [_, _, _], _ => rfl
  have F14 := fun_mk (st := s_is_link) l14 c14 k14
  have b14 := F14.binds (ps := ["one", "other", "thing"]) fun _ _ _ _ _ _ us hl => match us, hl with | [_, _, _], _ => rfl
  have F15 := fun_mk (st := s_is_common) l15 c15 k15
  have b15 := F15.binds (ps := ["one", "other", "thing"]) fun _ _ _ _ _ _ us hl => match us, hl with | [_, _, _], _ => rfl
  have F16 := fun_mk (st := s_distance) l16 c16 k16
  have b16 := F16.binds (ps := ["one", "other"]) fun _ _ _ _ _ _ us hl => match us, hl with | [_, _], _ => rfl
  have F17 := fun_mk (st := s_law) l17 c17 k17
  have b17 := F17.binds (ps := ["_law_script"]) fun _ _ _ _ _ _ us hl => match us, hl with | [_], _ => rfl
  refine ⟨PySem.W.fnOf "law" "law" (defArgs s_law) (defBody s_law) (defScope s_law) .none kV17 dc17 pm17 an17 cd17 ct17, fun s v => .of_eq rfl, fun base hK hG => ?_⟩
  have C0 : Cal l.prog w K mg base 1 "_law_bag" f0 _ ["_law_script"] sp__law_bag := ⟨PySem.W.mg_of X G a0, k0, b0, ok__law_bag (P := l.prog) (w := w) (mg := mg) (base := base) F0 (PySem.W.mg_none_of X G z_abs)⟩
  have C1 : Cal l.prog w K mg base 1 "_law_take" f1 _ ["_law_bag_here", "_law_many"] sp__law_take := ⟨PySem.W.mg_of X G a1, k1, b1, ok__law_take (P := l.prog) (w := w) (mg := mg) (base := base) F1 (PySem.W.mg_none_of X G z_len)⟩
  have C2 : Cal l.prog w K mg base 1 "_law_fit" f2 _ ["_law_plan_here", "_law_one", "_law_other"] sp__law_fit := ⟨PySem.W.mg_of X G a2, k2, b2, ok__law_fit (P := l.prog) (w := w) (mg := mg) (base := base) F2 ⟩
  have C3 : Cal l.prog w K mg base 2 "_law_line" f3 _ ["_law_bag_here", "_law_plan_here", "_law_most"] sp__law_line := ⟨PySem.W.mg_of X G a3, k3, b3, ok__law_line (P := l.prog) (w := w) (mg := mg) (base := base) F3 (PySem.W.mg_none_of X G z_range) C1 (PySem.W.mg_none_of X G z_len) (PySem.W.mg_none_of X G z_any) C2⟩
  have C4 : Cal l.prog w K mg base 3 "_law_two_lines" f4 _ ["_law_bag_here", "_law_plan_here", "_law_most"] sp__law_two_lines := ⟨PySem.W.mg_of X G a4, k4, b4, ok__law_two_lines (P := l.prog) (w := w) (mg := mg) (base := base) F4 C3 C1 (PySem.W.mg_none_of X G z_len) (PySem.W.mg_none_of X G z_list)⟩
  have C5 : Cal l.prog w K mg base 2 "_law_names" f5 _ ["_law_bag_here", "_law_many"] sp__law_names := ⟨PySem.W.mg_of X G a5, k5, b5, ok__law_names (P := l.prog) (w := w) (mg := mg) (base := base) F5 C1 (PySem.W.mg_none_of X G z_range) (PySem.W.mg_none_of X G z_len)⟩
  have C6 : Cal l.prog w K mg base 3 "_law_plan" f6 _ ["_law_bag_here", "_law_most"] sp__law_plan := ⟨PySem.W.mg_of X G a6, k6, b6, ok__law_plan (P := l.prog) (w := w) (mg := mg) (base := base) F6 C1 (PySem.W.mg_none_of X G z_min) C5 (PySem.W.mg_none_of X G z_range) (PySem.W.mg_none_of X G z_int) (PySem.W.mg_none_of X G z_len)⟩
  have C7 : Cal l.prog w K mg base 1 "common_lengths" f7 _ ["one", "other"] sp_common_lengths := ⟨PySem.W.mg_of X G a7, k7, b7, ok_common_lengths (P := l.prog) (w := w) (mg := mg) (base := base) F7 (PySem.W.mg_none_of X G z_len) (PySem.W.mg_none_of X G z_range) (PySem.W.mg_none_of X G z_max)⟩
  have C8 : Cal l.prog w K mg base 2 "common" f8 _ ["one", "other"] sp_common := ⟨PySem.W.mg_of X G a8, k8, b8, ok_common (P := l.prog) (w := w) (mg := mg) (base := base) F8 C7 (PySem.W.mg_none_of X G z_len)⟩
  have C9 : Cal l.prog w K mg base 1 "_law_longest" f9 _ ["_law_one", "_law_other"] sp__law_longest := ⟨PySem.W.mg_of X G a9, k9, b9, ok__law_longest (P := l.prog) (w := w) (mg := mg) (base := base) F9 (PySem.W.mg_none_of X G z_len) (PySem.W.mg_none_of X G z_range) (PySem.W.mg_none_of X G z_max) (PySem.W.mg_none_of X G z_int)⟩
  have C10 : Cal l.prog w K mg base 1 "_law_is_index" f10 _ ["_law_thing", "_law_line_here"] sp__law_is_index := ⟨PySem.W.mg_of X G a10, k10, b10, ok__law_is_index (P := l.prog) (w := w) (mg := mg) (base := base) F10 (PySem.W.mg_none_of X G z_len) (PySem.W.mg_none_of X G z_isinstance) (PySem.W.mg_none_of X G z_bool) (PySem.W.mg_none_of X G z_int)⟩
  have C11 : Cal l.prog w K mg base 2 "_law_is_right" f11 _ ["_law_one", "_law_other", "_law_found"] sp__law_is_right := ⟨PySem.W.mg_of X G a11, k11, b11, ok__law_is_right (P := l.prog) (w := w) (mg := mg) (base := base) F11 (PySem.W.mg_none_of X G z_len) C9 (PySem.W.mg_none_of X G z_isinstance) (PySem.W.mg_none_of X G z_list) (PySem.W.mg_none_of X G z_range) (PySem.W.mg_none_of X G z_tuple) C10⟩
  have C12 : Cal l.prog w K mg base 1 "is_integer" f12 _ ["thing"] sp_is_integer := ⟨PySem.W.mg_of X G a12, k12, b12, ok_is_integer (P := l.prog) (w := w) (mg := mg) (base := base) F12 (PySem.W.mg_none_of X G z_isinstance) (PySem.W.mg_none_of X G z_bool) (PySem.W.mg_none_of X G z_int)⟩
  have C13 : Cal l.prog w K mg base 2 "is_between" f13 _ ["thing", "least", "greatest"] sp_is_between := ⟨PySem.W.mg_of X G a13, k13, b13, ok_is_between (P := l.prog) (w := w) (mg := mg) (base := base) F13 C12⟩
  have C14 : Cal l.prog w K mg base 3 "is_link" f14 _ ["one", "other", "thing"] sp_is_link := ⟨PySem.W.mg_of X G a14, k14, b14, ok_is_link (P := l.prog) (w := w) (mg := mg) (base := base) F14 (PySem.W.mg_none_of X G z_len) (PySem.W.mg_none_of X G z_isinstance) (PySem.W.mg_none_of X G z_tuple) C13⟩
  have C15 : Cal l.prog w K mg base 4 "is_common" f15 _ ["one", "other", "thing"] sp_is_common := ⟨PySem.W.mg_of X G a15, k15, b15, ok_is_common (P := l.prog) (w := w) (mg := mg) (base := base) F15 (PySem.W.mg_none_of X G z_all) C14 (PySem.W.mg_none_of X G z_isinstance) (PySem.W.mg_none_of X G z_list) (PySem.W.mg_none_of X G z_zip) (PySem.W.mg_none_of X G z_len) C7⟩
  have C16 : Cal l.prog w K mg base 2 "distance" f16 _ ["one", "other"] sp_distance := ⟨PySem.W.mg_of X G a16, k16, b16, ok_distance (P := l.prog) (w := w) (mg := mg) (base := base) F16 (PySem.W.mg_none_of X G z_len) C7⟩
  exact ok_law (P := l.prog) (w := w) (mg := mg) (base := base) F17 C0 (PySem.W.mg_none_of X G z_range) C4 C1 C6 (PySem.W.mg_none_of X G z_repr) C8 C15 (PySem.W.mg_none_of X G z_list) C11 C16 (PySem.W.mg_none_of X G z_len)
end LW
open PySem PySem.W PyProof.Rows
set_option maxHeartbeats 0 in
theorem PySem.Challenge.cw_suitedpairs_k42_common_parts_holds : PySem.Challenge.rw_suitedpairs_k42_common_parts.Holds := by
  w_on; o_law; k_head; (case hw => w_witness2)
  k_fill
  refine DL.walkG (l := PySem.Challenge.rw_suitedpairs_k42_common_parts) (n := 63) (k := 5) (x := "_law_script") rfl (by decide) rfl ⟨rfl, by decide, by decide⟩ (fun w h Y => PySem.W.kIn_of Y) ?F
  case F =>
    intro w mg fa h KX G hmg
    refine' LW.all_mk KX G hmg ?a0 ?l0 ?c0 ?k0 ?a1 ?l1 ?c1 ?k1 ?a2 ?l2 ?c2 ?k2 ?a3 ?l3 ?c3 ?k3 ?a4 ?l4 ?c4 ?k4 ?a5 ?l5 ?c5 ?k5 ?a6 ?l6 ?c6 ?k6 ?a7 ?l7 ?c7 ?k7 ?a8 ?l8 ?c8 ?k8 ?a9 ?l9 ?c9 ?k9 ?a10 ?l10 ?c10 ?k10 ?a11 ?l11 ?c11 ?k11 ?a12 ?l12 ?c12 ?k12 ?a13 ?l13 ?c13 ?k13 ?a14 ?l14 ?c14 ?k14 ?a15 ?l15 ?c15 ?k15 ?a16 ?l16 ?c16 ?k16 ?a17 ?l17 ?c17 ?k17 ?z_abs ?z_len ?z_range ?z_any ?z_list ?z_min ?z_int ?z_max ?z_isinstance ?z_bool ?z_tuple ?z_all ?z_zip ?z_repr 
    (case a0 => k_is); (case l0 => k_is); (case c0 => k_is); (case k0 => k_is); (case a1 => k_is); (case l1 => k_is); (case c1 => k_is); (case k1 => k_is); (case a2 => k_is); (case l2 => k_is); (case c2 => k_is); (case k2 => k_is); (case a3 => k_is); (case l3 => k_is); (case c3 => k_is); (case k3 => k_is); (case a4 => k_is); (case l4 => k_is); (case c4 => k_is); (case k4 => k_is); (case a5 => k_is); (case l5 => k_is); (case c5 => k_is); (case k5 => k_is); (case a6 => k_is); (case l6 => k_is); (case c6 => k_is); (case k6 => k_is); (case a7 => k_is); (case l7 => k_is); (case c7 => k_is); (case k7 => k_is); (case a8 => k_is); (case l8 => k_is); (case c8 => k_is); (case k8 => k_is); (case a9 => k_is); (case l9 => k_is); (case c9 => k_is); (case k9 => k_is); (case a10 => k_is); (case l10 => k_is); (case c10 => k_is); (case k10 => k_is); (case a11 => k_is); (case l11 => k_is); (case c11 => k_is); (case k11 => k_is); (case a12 => k_is); (case l12 => k_is); (case c12 => k_is); (case k12 => k_is); (case a13 => k_is); (case l13 => k_is); (case c13 => k_is); (case k13 => k_is); (case a14 => k_is); (case l14 => k_is); (case c14 => k_is); (case k14 => k_is); (case a15 => k_is); (case l15 => k_is); (case c15 => k_is); (case k15 => k_is); (case a16 => k_is); (case l16 => k_is); (case c16 => k_is); (case k16 => k_is); (case a17 => k_is); (case l17 => k_is); (case c17 => k_is); (case k17 => k_is)
    (case z_abs => k_is); (case z_len => k_is); (case z_range => k_is); (case z_any => k_is); (case z_list => k_is); (case z_min => k_is); (case z_int => k_is); (case z_max => k_is); (case z_isinstance => k_is); (case z_bool => k_is); (case z_tuple => k_is); (case z_all => k_is); (case z_zip => k_is); (case z_repr => k_is)
