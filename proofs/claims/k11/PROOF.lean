import PyProof.Rows.All
import Wide.All
import OpenK.AllK
import Wide.FinOn
import HandS.ForMost
import HandS.More
import HandS.Flow
import HandS.Deep
import HandS.Wide
import HandS.Style
import HandS.Exc
import HandS.TupAny
import HandS.Flt
import HandS.RaiseMore
import HandS.IsInst
import HandS.Property
import HandS.Star
import HandS.Strs
import HandS.DictComp
import KE.SortData
import HandS.Text
import HandS.Conv
import HandS.ListItems
import KE.KDictZip
import KE.DataFind
import KE.KExcSuper
import HandS.ExcIs
import HandS.ExcField
import HandS.TryMany
import HandS.TryOnly
import KE.KTryMore
import HandS.FStr
import KE.KFmtOwn
import HandS.Set
import HandS.NoneIn
import HandS.Codes
import PySem.Challenge.RW_suitedpairs_k11_kinds_known
set_option Elab.async false
set_option linter.all false
set_option maxRecDepth 100000
set_option maxHeartbeats 4000000
/-! The data layer: what a def does, told over data alone. -/
namespace DL
open PySem L2

inductive D where
  | non
  | bl (b : Bool)
  | int (i : Int)
  | str (x : Str)
  | lst (l : List D)
  | tup (l : List D)
  | dct (kvs : List (Key × D))
  | obj (C : Addr) (fs : List (Str × D))
  | scr (ns : List Int)
  | rep (d : D)
  /-- the object at p, whatever it holds -/
  | at (p : Addr)
  /-- a caught error at a: its own dict, its class, its one field -/
  | exc (a dd C : Addr) (f : Str) (d : D)
  /-- nothing is known -/
  | unk

def keyPy : Key → PyData
  | .inl i => .int i
  | .inr x => .str x
mutual
def D.py : D → PyData
  | .non => .none
  | .bl b => .bool b
  | .int i => .int i
  | .str x => .str x
  | .lst l => .list (D.pys l)
  | .tup l => .tuple (D.pys l)
  | .dct kvs => .dict (D.pyk kvs)
  | .obj _ _ => .dict []
  | .scr _ => .dict []
  | .rep _ => .dict []
  | .at _ => .dict []
  | .exc _ _ _ _ _ => .dict []
  | .unk => .dict []
def D.pys : List D → List PyData
  | [] => []
  | d :: r => d.py :: D.pys r
def D.pyk : List (Key × D) → List (PyData × PyData)
  | [] => []
  | (k, d) :: r => (keyPy k, d.py) :: D.pyk r
end
/-- a key that is a text is a good one -/
def keyOk : Key → Prop
  | .inr x => PyData.strOk x = true
  | .inl _ => True
mutual
inductive Den (K : PySem.W.Frag) (F : Hp) : V → D → Prop
  | non : Den K F .non .non
  | bl (b : Bool) : Den K F (.bl b) (.bl b)
  | int (i : Int) : Den K F (.int i) (.int i)
  | str (x : Str) (h : PyData.strOk x = true) : Den K F (.str x) (.str x)
  | lst {a : Addr} {xs : List V} {ds : List D} : F a = some (.lst xs) → DenL K F xs ds → Den K F (.ref a) (.lst ds)
  | tup {a : Addr} {xs : List V} {ds : List D} : F a = some (.tup xs) → DenL K F xs ds → Den K F (.ref a) (.tup ds)
  | dct {a : Addr} {ks : List (Key × V)} {ds : List (Key × D)} : F a = some (.dK ks) → DenK K F ks ds → Den K F (.ref a) (.dct ds)
  | obj {a C dx : Addr} {gs : List (Str × V)} {fs : List (Str × D)} : F a = some (.ins C dx gs) → DenO K F gs fs → Den K F (.ref a) (.obj C fs)
  | scr {a : Addr} {ns : List Int} : SqL K F a (ns.map V.int) → Den K F (.ref a) (.scr ns)
  | rep (d : D) : Den K F (.str d.py.shown) (.rep d)
  | at (p : Addr) : Den K F (.ref p) (.at p)
  | exc {a dd C : Addr} {f : Str} {v : V} {d : D} : F dd = some (.xd [(f, v)]) → Den K F v d → Den K F (.ref a) (.exc a dd C f d)
  | unk (v : V) : Den K F v .unk
inductive DenL (K : PySem.W.Frag) (F : Hp) : List V → List D → Prop
  | nil : DenL K F [] []
  | cons {v : V} {vs : List V} {d : D} {ds : List D} : Den K F v d → DenL K F vs ds → DenL K F (v :: vs) (d :: ds)
inductive DenK (K : PySem.W.Frag) (F : Hp) : List (Key × V) → List (Key × D) → Prop
  | nil : DenK K F [] []
  | cons {k : Key} {v : V} {vs : List (Key × V)} {d : D} {ds : List (Key × D)} : Den K F v d → keyOk k → DenK K F vs ds → DenK K F ((k, v) :: vs) ((k, d) :: ds)
inductive DenO (K : PySem.W.Frag) (F : Hp) : List (Str × V) → List (Str × D) → Prop
  | nil : DenO K F [] []
  | cons {k : Str} {v : V} {vs : List (Str × V)} {d : D} {ds : List (Str × D)} : Den K F v d → DenO K F vs ds → DenO K F ((k, v) :: vs) ((k, d) :: ds)
end

theorem sqT_mono {K : PySem.W.Frag} {H H' : Hp} {a : Addr} {xs : List V} (e : Same H H') (h : SqT K H a xs) : SqT K H' a xs := by
  rcases h with (h | ⟨o, h⟩) | h
  · exact .inl (.inl (e _ _ h))
  · exact .inl (.inr ⟨o, e _ _ h⟩)
  · exact .inr h
section
variable {K : PySem.W.Frag} {F F' : Hp}
mutual
theorem Den.mono (e : Same F F') : ∀ {d : D} {v : V}, Den K F v d → Den K F' v d
  | .non, _, h => by cases h; exact .non
  | .bl b, _, h => by cases h; exact .bl _
  | .int i, _, h => by cases h; exact .int _
  | .str x, _, h => by cases h with | str _ a => exact .str _ a
  | .lst ds, _, h => by cases h with | lst a b => exact .lst (e _ _ a) (DenL.mono e b)
  | .tup ds, _, h => by cases h with | tup a b => exact .tup (e _ _ a) (DenL.mono e b)
  | .dct ds, _, h => by cases h with | dct a b => exact .dct (e _ _ a) (DenK.mono e b)
  | .obj C fs, _, h => by cases h with | obj a b => exact .obj (e _ _ a) (DenO.mono e b)
  | .scr ns, _, h => by cases h with | scr a => exact .scr (e.seq a)
  | .rep d, _, h => by cases h; exact .rep d
  | .at p, _, h => by cases h; exact .at p
  | .exc _ _ _ _ _, _, h => by cases h with | exc a b => exact .exc (e _ _ a) (Den.mono e b)
  | .unk, _, h => .unk _
theorem DenL.mono (e : Same F F') : ∀ {ds : List D} {vs : List V}, DenL K F vs ds → DenL K F' vs ds
  | [], _, h => by cases h; exact .nil
  | d :: ds, _, h => by cases h with | cons a b => exact .cons (Den.mono e a) (DenL.mono e b)
theorem DenK.mono (e : Same F F') : ∀ {ds : List (Key × D)} {vs : List (Key × V)}, DenK K F vs ds → DenK K F' vs ds
  | [], _, h => by cases h; exact .nil
  | (k, d) :: ds, _, h => by cases h with | cons a o b => exact .cons (Den.mono e a) o (DenK.mono e b)
theorem DenO.mono (e : Same F F') : ∀ {ds : List (Str × D)} {vs : List (Str × V)}, DenO K F vs ds → DenO K F' vs ds
  | [], _, h => by cases h; exact .nil
  | (k, d) :: ds, _, h => by cases h with | cons a b => exact .cons (Den.mono e a) (DenO.mono e b)
end
theorem DenL.length : ∀ {vs : List V} {ds : List D}, DenL K F vs ds → vs.length = ds.length
  | _, _, .nil => rfl
  | _, _, .cons _ t => by rw [List.length_cons, List.length_cons, t.length]
theorem DenL.append : ∀ {vs us : List V} {ds es : List D}, DenL K F vs ds → DenL K F us es → DenL K F (vs ++ us) (ds ++ es)
  | _, _, _, _, .nil, h => h
  | _, _, _, _, .cons a t, h => .cons a (t.append h)
theorem DenL.get : ∀ {vs : List V} {ds : List D} {i : Nat} {d : D}, DenL K F vs ds → ds[i]? = some d → ∃ v, vs[i]? = some v ∧ Den K F v d
  | _, _, _, _, .nil, e => by simp at e
  | _, _, 0, _, .cons a _, e => by simp at e; subst e; exact ⟨_, rfl, a⟩
  | _, _, i + 1, d, .cons _ t, e => by
    obtain ⟨u, h1, h2⟩ := DenL.get (i := i) (d := d) t (by simpa using e)
    exact ⟨u, by simpa using h1, h2⟩
theorem DenL.get' {vs : List V} {ds : List D} {i : Nat} {v : V} (h : DenL K F vs ds) (e : vs[i]? = some v) : ∃ d, ds[i]? = some d ∧ Den K F v d := by
  have hi : i < vs.length := (List.getElem?_eq_some_iff.mp e).1
  rw [h.length] at hi
  obtain ⟨u, h1, h2⟩ := h.get (List.getElem?_eq_getElem hi)
  rw [e] at h1; cases h1
  exact ⟨_, List.getElem?_eq_getElem hi, h2⟩
theorem DenL.take : ∀ {vs : List V} {ds : List D} (n : Nat), DenL K F vs ds → DenL K F (vs.take n) (ds.take n)
  | _, _, 0, _ => .nil
  | _, _, _ + 1, .nil => .nil
  | _, _, n + 1, .cons r t => .cons r (t.take n)
theorem DenL.drop : ∀ {vs : List V} {ds : List D} (n : Nat), DenL K F vs ds → DenL K F (vs.drop n) (ds.drop n)
  | _, _, 0, r => r
  | _, _, _ + 1, .nil => .nil
  | _, _, n + 1, .cons _ t => t.drop n
theorem DenL.set {x : V} {d : D} (r : Den K F x d) : ∀ {vs : List V} {ds : List D} (i : Nat), DenL K F vs ds → DenL K F (vs.set i x) (ds.set i d)
  | _, _, _, .nil => .nil
  | _, _, 0, .cons _ t => .cons r t
  | _, _, i + 1, .cons q t => .cons q (DenL.set r i t)
theorem DenL.rev : ∀ {vs : List V} {ds : List D}, DenL K F vs ds → DenL K F vs.reverse ds.reverse
  | _, _, .nil => .nil
  | _, _, .cons r t => by
    rw [List.reverse_cons, List.reverse_cons]
    exact t.rev.append (.cons r .nil)
theorem DenL.eraseIdx : ∀ {vs : List V} {ds : List D} (i : Nat), DenL K F vs ds → DenL K F (vs.eraseIdx i) (ds.eraseIdx i)
  | _, _, _, .nil => .nil
  | _, _, 0, .cons _ t => t
  | _, _, i + 1, .cons q t => .cons q (DenL.eraseIdx i t)
theorem DenL.repl {vs : List V} {ds : List D} (h : DenL K F vs ds) : ∀ n : Nat, DenL K F (List.replicate n vs).flatten (List.replicate n ds).flatten
  | 0 => .nil
  | n + 1 => by
    rw [List.replicate_succ, List.replicate_succ, List.flatten_cons, List.flatten_cons]
    exact h.append (h.repl n)
theorem DenL.ints {ns : List Int} : DenL K F (ns.map V.int) (ns.map D.int) := by
  induction ns with
  | nil => exact .nil
  | cons n r ih => exact .cons (.int _) ih
theorem DenK.length : ∀ {vs : List (Key × V)} {ds : List (Key × D)}, DenK K F vs ds → vs.length = ds.length
  | _, _, .nil => rfl
  | _, _, .cons _ _ t => by rw [List.length_cons, List.length_cons, t.length]
end

/-! ### owned things -/
inductive Cn where
  | l (ds : List D)
  | d (kvs : List (Key × D))
  | o (C : Addr) (fs : List (Str × D))
  /-- a dict that is walked over: it cannot change meanwhile -/
  | k (ob : Obj) (ks : List (Key × V)) (kvs : List (Key × D))
def Cn.dat : Cn → D
  | .l ds => .lst ds
  | .d kvs => .dct kvs
  | .o C fs => .obj C fs
  | .k _ _ _ => .unk
def Has (K : PySem.W.Frag) (F H : Hp) (p : Addr) : Cn → Prop
  | .l ds => ∃ xs, H p = some (.lst xs) ∧ DenL K F xs ds
  | .d kvs => ∃ ks, H p = some (.dK ks) ∧ DenK K F ks kvs
  | .o C fs => ∃ dx gs, H p = some (.ins C dx gs) ∧ DenO K F gs fs
  | .k ob ks kvs => H p = some (.frz ob (.dK ks)) ∧ DenK K F ks kvs
/-- a slot: nothing known; a thing that stays; one's own thing, that nobody else holds; the j-th argument, lent -/
inductive Sl where
  | un
  | sh (d : D)
  | ow (c : Cn)
  | bw (j : Nat) (c : Cn)
  /-- a pile: things of one's own at known places, that no slot holds -/
  | pl (hs : List (Addr × Cn))
def Sl.cn : Sl → Option Cn
  | .ow c => some c
  | .bw _ c => some c
  | _ => none
def Sl.dat : Sl → Option D
  | .sh d => some d
  | .ow c => some c.dat
  | .bw _ c => some c.dat
  | .un => none
  | .pl _ => none
def Sl.with (c : Cn) : Sl → Sl
  | .ow _ => .ow c
  | .bw j _ => .bw j c
  | s => s
abbrev SL := List Sl
/-- a value handed on: a datum, or a thing that nobody holds yet -/
inductive Rv where
  | v (d : D)
  | fr (c : Cn)
  | pt (d : D) (hs : List (Addr × Cn))
mutual
/-- a datum with what a pile holds put in -/
def D.res (hs : List (Addr × Cn)) : D → D
  | .at p => match hs.lookup p with
    | some c => c.dat
    | none => .at p
  | .lst l => .lst (D.ress hs l)
  | .tup l => .tup (D.ress hs l)
  | .dct kvs => .dct (D.resk hs kvs)
  | .obj C fs => .obj C (D.reso hs fs)
  | d => d
def D.ress (hs : List (Addr × Cn)) : List D → List D
  | [] => []
  | d :: r => D.res hs d :: D.ress hs r
def D.resk (hs : List (Addr × Cn)) : List (Key × D) → List (Key × D)
  | [] => []
  | (k, d) :: r => (k, D.res hs d) :: D.resk hs r
def D.reso (hs : List (Addr × Cn)) : List (Str × D) → List (Str × D)
  | [] => []
  | (k, d) :: r => (k, D.res hs d) :: D.reso hs r
end
def Rv.dat : Rv → D
  | .v d => d
  | .fr c => c.dat
  | .pt d hs => d.res hs
structure Cd where
  b : Nat → Option Addr
  L : Addr → Prop
  H0 : Hp
  F0 : Hp
section
variable {K : PySem.W.Frag} {F F' H H' : Hp} {p : Addr} {c : Cn}
theorem Has.mono (e : Same F F') (h : Has K F H p c) : Has K F' H p c := by
  cases c with
  | l ds => obtain ⟨xs, a, b⟩ := h; exact ⟨xs, a, b.mono e⟩
  | d kvs => obtain ⟨xs, a, b⟩ := h; exact ⟨xs, a, b.mono e⟩
  | o C fs => obtain ⟨dx, gs, a, b⟩ := h; exact ⟨dx, gs, a, b.mono e⟩
  | k ob ks kvs => exact ⟨h.1, h.2.mono e⟩
theorem Has.at (h : Has K F H p c) (e : H' p = H p) : Has K F H' p c := by
  cases c with
  | l ds => obtain ⟨xs, a, b⟩ := h; exact ⟨xs, e.trans a, b⟩
  | d kvs => obtain ⟨xs, a, b⟩ := h; exact ⟨xs, e.trans a, b⟩
  | o C fs => obtain ⟨dx, gs, a, b⟩ := h; exact ⟨dx, gs, e.trans a, b⟩
  | k ob ks kvs => exact ⟨e.trans h.1, h.2⟩
theorem Has.ex (h : Has K F H p c) : ∃ o, H p = some o := by
  cases c with
  | l ds => obtain ⟨xs, a, b⟩ := h; exact ⟨_, a⟩
  | d kvs => obtain ⟨xs, a, b⟩ := h; exact ⟨_, a⟩
  | o C fs => obtain ⟨dx, gs, a, b⟩ := h; exact ⟨_, a⟩
  | k ob ks kvs => exact ⟨_, h.1⟩
/-- what nobody changes any more -/
theorem Has.den (h : Has K F H p c) (e : Same F F') {o : HO} (hp : H p = some o) (hf : F' p = some o) : Den K F' (.ref p) c.dat := by
  cases c with
  | l ds => obtain ⟨xs, a, b⟩ := h; rw [a] at hp; cases hp; exact .lst hf (b.mono e)
  | d kvs => obtain ⟨xs, a, b⟩ := h; rw [a] at hp; cases hp; exact .dct hf (b.mono e)
  | o C fs => obtain ⟨dx, gs, a, b⟩ := h; rw [a] at hp; cases hp; exact .obj hf (b.mono e)
  | k ob ks kvs => exact .unk _
mutual
theorem Den.res {hs : List (Addr × Cn)} (hh : ∀ p c, hs.lookup p = some c → Den K F (.ref p) c.dat) : ∀ {d : D} {v : V}, Den K F v d → Den K F v (d.res hs)
  | .non, _, h => by rw [D.res]; exact h; all_goals (intros; contradiction)
  | .bl b, _, h => by rw [D.res]; exact h; all_goals (intros; contradiction)
  | .int i, _, h => by rw [D.res]; exact h; all_goals (intros; contradiction)
  | .str x, _, h => by rw [D.res]; exact h; all_goals (intros; contradiction)
  | .scr ns, _, h => by rw [D.res]; exact h; all_goals (intros; contradiction)
  | .rep d, _, h => by rw [D.res]; exact h; all_goals (intros; contradiction)
  | .lst ds, _, h => by rw [D.res]; cases h with | lst a b => exact .lst a (DenL.res hh b)
  | .tup ds, _, h => by rw [D.res]; cases h with | tup a b => exact .tup a (DenL.res hh b)
  | .dct ds, _, h => by rw [D.res]; cases h with | dct a b => exact .dct a (DenK.res hh b)
  | .obj C fs, _, h => by rw [D.res]; cases h with | obj a b => exact .obj a (DenO.res hh b)
  | .at p, _, h => by
    rw [D.res]
    cases h
    split
    · rename_i c e; exact hh p c e
    · exact .at p
  | .exc _ _ _ _ _, _, h => by rw [D.res]; exact h; all_goals (intros; contradiction)
  | .unk, _, h => .unk _
theorem DenL.res {hs : List (Addr × Cn)} (hh : ∀ p c, hs.lookup p = some c → Den K F (.ref p) c.dat) : ∀ {ds : List D} {vs : List V}, DenL K F vs ds → DenL K F vs (D.ress hs ds)
  | [], _, h => by rw [D.ress]; exact h
  | d :: ds, _, h => by rw [D.ress]; cases h with | cons a b => exact .cons (Den.res hh a) (DenL.res hh b)
theorem DenK.res {hs : List (Addr × Cn)} (hh : ∀ p c, hs.lookup p = some c → Den K F (.ref p) c.dat) : ∀ {ds : List (Key × D)} {vs : List (Key × V)}, DenK K F vs ds → DenK K F vs (D.resk hs ds)
  | [], _, h => by rw [D.resk]; exact h
  | (k, d) :: ds, _, h => by rw [D.resk]; cases h with | cons a o b => exact .cons (Den.res hh a) o (DenK.res hh b)
theorem DenO.res {hs : List (Addr × Cn)} (hh : ∀ p c, hs.lookup p = some c → Den K F (.ref p) c.dat) : ∀ {ds : List (Str × D)} {vs : List (Str × V)}, DenO K F vs ds → DenO K F vs (D.reso hs ds)
  | [], _, h => by rw [D.reso]; exact h
  | (k, d) :: ds, _, h => by rw [D.reso]; cases h with | cons a b => exact .cons (Den.res hh a) (DenO.res hh b)
end
theorem lookup_mem {hs : List (Addr × Cn)} {p : Addr} {c : Cn} (h : hs.lookup p = some c) : (p, c) ∈ hs := by
  induction hs with
  | nil => cases h
  | cons x r ih =>
    obtain ⟨q, d⟩ := x
    rw [List.lookup_cons] at h
    by_cases e : p = q
    · subst e
      rw [beq_self_eq_true] at h
      cases h
      exact List.mem_cons_self
    · rw [beq_false_of_ne e] at h
      exact List.mem_cons_of_mem _ (ih h)
theorem same_new {o : HO} (h : F p = none) : Same F (upd F p o) := fun b x e => by
  rw [upd_ne (ne_of_none e h)]
  exact e
end

/-- no slot and no pile holds it -/
def Lone (σ : St) (ρ : SL) (p : Addr) : Prop := (∀ (i : Nat) (s : Sl) (c' : Cn), ρ[i]? = some s → s.cn = some c' → σ[i]? ≠ some (some (.ref p))) ∧ ∀ (i : Nat) (hs : List (Addr × Cn)) (c : Cn), ρ[i]? = some (.pl hs) → (p, c) ∉ hs
/-- what the piles hold -/
structure Piles (K : PySem.W.Frag) (G : Cd) (σ : St) (H F : Hp) (ρ : SL) : Prop where
  one : ∀ (i : Nat) (hs : List (Addr × Cn)), ρ[i]? = some (.pl hs) → (hs.map (·.1)).Nodup
  has : ∀ (i : Nat) (hs : List (Addr × Cn)) (p : Addr) (c : Cn), ρ[i]? = some (.pl hs) → (p, c) ∈ hs → Has K F H p c ∧ F p = none ∧ (G.H0 p = none ∨ G.L p)
  own : ∀ (i : Nat) (hs : List (Addr × Cn)) (p : Addr) (c : Cn), ρ[i]? = some (.pl hs) → (p, c) ∈ hs → ∀ (j : Nat) (s : Sl) (c' : Cn), ρ[j]? = some s → s.cn = some c' → σ[j]? ≠ some (some (.ref p))
  two : ∀ (i j : Nat) (hs hs' : List (Addr × Cn)) (p : Addr) (c c' : Cn), ρ[i]? = some (.pl hs) → ρ[j]? = some (.pl hs') → (p, c) ∈ hs → (p, c') ∈ hs' → i = j
theorem Piles.to {K : PySem.W.Frag} {G G' : Cd} {σ σ' : St} {H F H' F' : Hp} {ρ ρ' : SL} (P : Piles K G σ H F ρ) (hpl : ∀ (i : Nat) (hs : List (Addr × Cn)), ρ'[i]? = some (.pl hs) → ρ[i]? = some (.pl hs))
    (hown : ∀ (j : Nat) (s : Sl) (c' : Cn) (p : Addr), ρ'[j]? = some s → s.cn = some c' → σ'[j]? = some (some (.ref p)) → (∃ s0 c0, ρ[j]? = some s0 ∧ s0.cn = some c0 ∧ σ[j]? = some (some (.ref p))) ∨ ∀ (i : Nat) (hs : List (Addr × Cn)) (c : Cn), ρ[i]? = some (.pl hs) → (p, c) ∉ hs)
    (hmem : ∀ (i : Nat) (hs : List (Addr × Cn)) (p : Addr) (c : Cn), ρ'[i]? = some (.pl hs) → (p, c) ∈ hs → Has K F H p c → F p = none → (G.H0 p = none ∨ G.L p) → Has K F' H' p c ∧ F' p = none ∧ (G'.H0 p = none ∨ G'.L p)) : Piles K G' σ' H' F' ρ' where
  one := fun i hs e => P.one i hs (hpl i hs e)
  has := fun i hs p c e m => by
    obtain ⟨a, b, d⟩ := P.has i hs p c (hpl i hs e) m
    exact hmem i hs p c e m a b d
  own := fun i hs p c e m j s c' e1 e2 e3 => by
    rcases hown j s c' p e1 e2 e3 with ⟨s0, c0, z1, z2, z3⟩ | z
    · exact P.own i hs p c (hpl i hs e) m j s0 c0 z1 z2 z3
    · exact z i hs c (hpl i hs e) m
  two := fun i j hs hs' p c c' e1 e2 m1 m2 => P.two i j hs hs' p c c' (hpl i hs e1) (hpl j hs' e2) m1 m2
/-- what the slots and the heap hold -/
structure Rep (K : PySem.W.Frag) (G : Cd) (σ : St) (H F : Hp) (ρ : SL) : Prop where
  len : ρ.length = σ.length
  ext : Same F H
  sh : ∀ (i : Nat) (d : D), ρ[i]? = some (.sh d) → ∃ v, σ[i]? = some (some v) ∧ Den K F v d
  ow : ∀ (i : Nat) (c : Cn), ρ[i]? = some (.ow c) → ∃ p, σ[i]? = some (some (.ref p)) ∧ Has K F H p c ∧ F p = none ∧ (G.H0 p = none ∨ G.L p)
  bw : ∀ (i j : Nat) (c : Cn), ρ[i]? = some (.bw j c) → ∃ p, σ[i]? = some (some (.ref p)) ∧ Has K F H p c ∧ F p = none ∧ G.b j = some p
  sep : ∀ (i j : Nat) (s t : Sl) (c c' : Cn) (p : Addr), ρ[i]? = some s → ρ[j]? = some t → s.cn = some c → t.cn = some c' → σ[i]? = some (some (.ref p)) → σ[j]? = some (some (.ref p)) → i = j
  fr0 : Same G.F0 F
  new : ∀ a o, F a = some o → G.F0 a = some o ∨ G.H0 a = none ∨ G.L a
  keep : ∀ a o, G.H0 a = some o → ¬ G.L a → (∀ j, G.b j ≠ some a) → H a = some o
  dom : ∀ a o, G.H0 a = some o → ∃ o', H a = some o'
  bd : ∀ j p, G.b j = some p → ∃ o, G.H0 p = some o
  lb : ∀ j p, G.L p → G.b j ≠ some p
  pl : Piles K G σ H F ρ
/-- what a value is -/
def RDen (K : PySem.W.Frag) (G : Cd) (σ : St) (ρ : SL) (H F : Hp) (v : V) : Rv → Prop
  | .v d => Den K F v d
  | .fr c => ∃ p, v = .ref p ∧ Has K F H p c ∧ F p = none ∧ (G.H0 p = none ∨ G.L p) ∧ Lone σ ρ p
  | .pt d hs => Den K F v d ∧ (hs.map (·.1)).Nodup ∧ ∀ p c, (p, c) ∈ hs → Has K F H p c ∧ F p = none ∧ (G.H0 p = none ∨ G.L p) ∧ Lone σ ρ p
section
variable {K : PySem.W.Frag} {G : Cd} {σ : St} {H F : Hp} {ρ : SL} {v : V} {d : D} {c : Cn} {i : Nat} {p : Addr}
theorem Rep.owned (R : Rep K G σ H F ρ) {s : Sl} (h : ρ[i]? = some s) (hc : s.cn = some c) : ∃ p, σ[i]? = some (some (.ref p)) ∧ Has K F H p c ∧ F p = none := by
  cases s with
  | un => cases hc
  | sh d => cases hc
  | pl hs => cases hc
  | ow c' => cases hc; obtain ⟨p, a, b, e, _⟩ := R.ow i _ h; exact ⟨p, a, b, e⟩
  | bw j c' => cases hc; obtain ⟨p, a, b, e, _⟩ := R.bw i j _ h; exact ⟨p, a, b, e⟩
theorem Rep.fresh (R : Rep K G σ H F ρ) (h : H p = none) : F p = none ∧ G.H0 p = none := by
  refine ⟨?_, ?_⟩
  · cases e : F p with
    | none => rfl
    | some o => rw [R.ext p o e] at h; cases h
  · cases e : G.H0 p with
    | none => rfl
    | some o => obtain ⟨o', q⟩ := R.dom p o e; rw [q] at h; cases h
theorem set_get {α : Type} {l : List α} {i j : Nat} {x y : α} (h : (l.set i x)[j]? = some y) : (j = i ∧ y = x) ∨ (j ≠ i ∧ l[j]? = some y) := by
  by_cases e : j = i
  · subst e
    left
    rw [List.getElem?_set_self'] at h
    cases q : l[j]? with
    | none => rw [q] at h; simp at h
    | some z => rw [q] at h; simp at h; exact ⟨rfl, h.symm⟩
  · rw [List.getElem?_set_ne (Ne.symm e)] at h
    exact .inr ⟨e, h⟩
theorem set_at {α β : Type} {l : List α} {m : List β} (hl : l.length = m.length) {i : Nat} {x y : α} {z : β} (h : (l.set i x)[i]? = some y) : (m.set i z)[i]? = some z := by
  have hi : i < (l.set i x).length := (List.getElem?_eq_some_iff.mp h).1
  rw [List.length_set, hl] at hi
  rw [List.getElem?_set_self hi]
/-- a slot is set to a datum -/
theorem Rep.setSh (R : Rep K G σ H F ρ) (h : Den K F v d) (i : Nat) : Rep K G (σ.set i (some v)) H F (ρ.set i (.sh d)) where
  len := by rw [List.length_set, List.length_set]; exact R.len
  ext := R.ext
  sh := fun j d' e => by
    rcases set_get e with ⟨rfl, q⟩ | ⟨ne, q⟩
    · cases q; exact ⟨v, set_at R.len e, h⟩
    · rw [List.getElem?_set_ne (Ne.symm ne)]; exact R.sh j d' q
  ow := fun j c' e => by
    rcases set_get e with ⟨rfl, q⟩ | ⟨ne, q⟩
    · cases q
    · rw [List.getElem?_set_ne (Ne.symm ne)]; exact R.ow j c' q
  bw := fun j k c' e => by
    rcases set_get e with ⟨rfl, q⟩ | ⟨ne, q⟩
    · cases q
    · rw [List.getElem?_set_ne (Ne.symm ne)]; exact R.bw j k c' q
  sep := fun j k s t c1 c2 p e1 e2 h1 h2 h3 h4 => by
    rcases set_get e1 with ⟨rfl, q⟩ | ⟨ne, q⟩
    · subst q; cases h1
    · rcases set_get e2 with ⟨rfl, q2⟩ | ⟨ne2, q2⟩
      · subst q2; cases h2
      · rw [List.getElem?_set_ne (Ne.symm ne)] at h3
        rw [List.getElem?_set_ne (Ne.symm ne2)] at h4
        exact R.sep j k s t c1 c2 p q q2 h1 h2 h3 h4
  fr0 := R.fr0
  new := R.new
  keep := R.keep
  dom := R.dom
  bd := R.bd
  lb := R.lb
  pl := R.pl.to (fun j hs e => by
    rcases set_get e with ⟨rfl, q⟩ | ⟨ne, q⟩
    · cases q
    · exact q) (fun j s c' p e1 e2 e3 => by
    rcases set_get e1 with ⟨rfl, q⟩ | ⟨ne, q⟩
    · subst q; cases e2
    · rw [List.getElem?_set_ne (Ne.symm ne)] at e3
      exact .inl ⟨s, c', q, e2, e3⟩) fun _ _ _ _ _ _ a b d => ⟨a, b, d⟩
/-- nothing more is known of a slot -/
theorem Rep.setUn (R : Rep K G σ H F ρ) (i : Nat) (x : Option V) : Rep K G (σ.set i x) H F (ρ.set i .un) where
  len := by rw [List.length_set, List.length_set]; exact R.len
  ext := R.ext
  sh := fun j d' e => by
    rcases set_get e with ⟨rfl, q⟩ | ⟨ne, q⟩
    · cases q
    · rw [List.getElem?_set_ne (Ne.symm ne)]; exact R.sh j d' q
  ow := fun j c' e => by
    rcases set_get e with ⟨rfl, q⟩ | ⟨ne, q⟩
    · cases q
    · rw [List.getElem?_set_ne (Ne.symm ne)]; exact R.ow j c' q
  bw := fun j k c' e => by
    rcases set_get e with ⟨rfl, q⟩ | ⟨ne, q⟩
    · cases q
    · rw [List.getElem?_set_ne (Ne.symm ne)]; exact R.bw j k c' q
  sep := fun j k s t c1 c2 p e1 e2 h1 h2 h3 h4 => by
    rcases set_get e1 with ⟨rfl, q⟩ | ⟨ne, q⟩
    · subst q; cases h1
    · rcases set_get e2 with ⟨rfl, q2⟩ | ⟨ne2, q2⟩
      · subst q2; cases h2
      · rw [List.getElem?_set_ne (Ne.symm ne)] at h3
        rw [List.getElem?_set_ne (Ne.symm ne2)] at h4
        exact R.sep j k s t c1 c2 p q q2 h1 h2 h3 h4
  fr0 := R.fr0
  new := R.new
  keep := R.keep
  dom := R.dom
  bd := R.bd
  lb := R.lb
  pl := R.pl.to (fun j hs e => by
    rcases set_get e with ⟨rfl, q⟩ | ⟨ne, q⟩
    · cases q
    · exact q) (fun j s c' p e1 e2 e3 => by
    rcases set_get e1 with ⟨rfl, q⟩ | ⟨ne, q⟩
    · subst q; cases e2
    · rw [List.getElem?_set_ne (Ne.symm ne)] at e3
      exact .inl ⟨s, c', q, e2, e3⟩) fun _ _ _ _ _ _ a b d => ⟨a, b, d⟩
theorem Rep.setOw (R : Rep K G σ H F ρ) (h : RDen K G σ ρ H F v (.fr c)) (i : Nat) : Rep K G (σ.set i (some v)) H F (ρ.set i (.ow c)) := by
  obtain ⟨p0, rfl, hh, hF, hL, hn⟩ := h
  exact {
    len := by rw [List.length_set, List.length_set]; exact R.len
    ext := R.ext
    sh := fun j d' e => by
      rcases set_get e with ⟨rfl, q⟩ | ⟨ne, q⟩
      · cases q
      · rw [List.getElem?_set_ne (Ne.symm ne)]; exact R.sh j d' q
    ow := fun j c' e => by
      rcases set_get e with ⟨rfl, q⟩ | ⟨ne, q⟩
      · cases q; exact ⟨p0, set_at R.len e, hh, hF, hL⟩
      · rw [List.getElem?_set_ne (Ne.symm ne)]; exact R.ow j c' q
    bw := fun j k c' e => by
      rcases set_get e with ⟨rfl, q⟩ | ⟨ne, q⟩
      · cases q
      · rw [List.getElem?_set_ne (Ne.symm ne)]; exact R.bw j k c' q
    sep := fun j k s t c1 c2 p e1 e2 h1 h2 h3 h4 => by
      rcases set_get e1 with ⟨rfl, q⟩ | ⟨ne, q⟩
      · rcases set_get e2 with ⟨rfl, q2⟩ | ⟨ne2, q2⟩
        · rfl
        · rw [set_at R.len e1] at h3; cases h3
          rw [List.getElem?_set_ne (Ne.symm ne2)] at h4
          exact absurd h4 (hn.1 k t c2 q2 h2)
      · rw [List.getElem?_set_ne (Ne.symm ne)] at h3
        rcases set_get e2 with ⟨rfl, q2⟩ | ⟨ne2, q2⟩
        · rw [set_at R.len e2] at h4; cases h4
          exact absurd h3 (hn.1 j s c1 q h1)
        · rw [List.getElem?_set_ne (Ne.symm ne2)] at h4
          exact R.sep j k s t c1 c2 p q q2 h1 h2 h3 h4
    fr0 := R.fr0
    new := R.new
    keep := R.keep
    dom := R.dom
    bd := R.bd
    lb := R.lb
    pl := R.pl.to (fun j hs e => by
      rcases set_get e with ⟨rfl, q⟩ | ⟨ne, q⟩
      · cases q
      · exact q) (fun j s c' p e1 e2 e3 => by
      rcases set_get e1 with ⟨rfl, q⟩ | ⟨ne, q⟩
      · rw [set_at R.len e1] at e3; cases e3
        exact .inr fun i hs c e => hn.2 i hs c e
      · rw [List.getElem?_set_ne (Ne.symm ne)] at e3
        exact .inl ⟨s, c', q, e2, e3⟩) fun _ _ _ _ _ _ a b d => ⟨a, b, d⟩ }
/-- a new thing is laid that will stay -/
theorem Rep.alloc (R : Rep K G σ H F ρ) {o : HO} (h : H p = none) : Same F (upd F p o) ∧ Rep K G σ (upd H p o) (upd F p o) ρ := by
  obtain ⟨hF, h0⟩ := R.fresh h
  have sF : Same F (upd F p o) := same_new hF
  have ne : ∀ q o', H q = some o' → q ≠ p := fun q o' e z => by subst z; rw [h] at e; cases e
  refine ⟨sF, R.len, fun a x e => ?_, fun i d e => ?_, fun i c e => ?_, fun i j c e => ?_, R.sep, fun a x e => sF a x (R.fr0 a x e), fun a x e => ?_, fun a x e nl nb => ?_, fun a x e => ?_, R.bd, R.lb, R.pl.to (fun _ _ e => e) (fun j s c' q e1 e2 e3 => .inl ⟨s, c', e1, e2, e3⟩) fun i hs q c _ _ a b d => ?_⟩
  · by_cases q : a = p
    · subst q; rw [upd_same] at e ⊢; exact e
    · rw [upd_ne q] at e ⊢; exact R.ext a x e
  · obtain ⟨v, a, b⟩ := R.sh i d e; exact ⟨v, a, b.mono sF⟩
  · obtain ⟨q, a, b, e2, e3⟩ := R.ow i c e
    obtain ⟨o', ho⟩ := b.ex
    exact ⟨q, a, (b.mono sF).at (upd_ne (ne q o' ho)), by rw [upd_ne (ne q o' ho)]; exact e2, e3⟩
  · obtain ⟨q, a, b, e2, e3⟩ := R.bw i j c e
    obtain ⟨o', ho⟩ := b.ex
    exact ⟨q, a, (b.mono sF).at (upd_ne (ne q o' ho)), by rw [upd_ne (ne q o' ho)]; exact e2, e3⟩
  · by_cases q : a = p
    · subst q; exact .inr (.inl h0)
    · rw [upd_ne q] at e; exact R.new a x e
  · have k := R.keep a x e nl nb
    rw [upd_ne (ne a x k)]; exact k
  · obtain ⟨o', k⟩ := R.dom a x e
    exact ⟨o', by rw [upd_ne (ne a o' k)]; exact k⟩
  · obtain ⟨o', ho⟩ := a.ex
    exact ⟨(a.mono sF).at (upd_ne (ne q o' ho)), by rw [upd_ne (ne q o' ho)]; exact b, d⟩
/-- .. or that nobody holds yet -/
theorem Rep.allocFr (R : Rep K G σ H F ρ) {o : HO} (h : H p = none) (hc : Has K F (upd H p o) p c) : Rep K G σ (upd H p o) F ρ ∧ RDen K G σ ρ (upd H p o) F (.ref p) (.fr c) := by
  obtain ⟨hF, h0⟩ := R.fresh h
  have ne : ∀ q o', H q = some o' → q ≠ p := fun q o' e z => by subst z; rw [h] at e; cases e
  refine ⟨⟨R.len, fun a x e => ?_, R.sh, fun i c e => ?_, fun i j c e => ?_, R.sep, R.fr0, R.new, fun a x e nl nb => ?_, fun a x e => ?_, R.bd, R.lb, R.pl.to (fun _ _ e => e) (fun j s c' q e1 e2 e3 => .inl ⟨s, c', e1, e2, e3⟩) fun i hs q c _ _ a b d => ?_⟩, p, rfl, hc, hF, .inl h0, fun i s c' e hs z => ?_, fun i hs c e m => ?_⟩
  · have k := R.ext a x e
    rw [upd_ne (ne a x k)]; exact k
  · obtain ⟨q, a, b, e2, e3⟩ := R.ow i c e
    obtain ⟨o', ho⟩ := b.ex
    exact ⟨q, a, b.at (upd_ne (ne q o' ho)), e2, e3⟩
  · obtain ⟨q, a, b, e2, e3⟩ := R.bw i j c e
    obtain ⟨o', ho⟩ := b.ex
    exact ⟨q, a, b.at (upd_ne (ne q o' ho)), e2, e3⟩
  · have k := R.keep a x e nl nb
    rw [upd_ne (ne a x k)]; exact k
  · obtain ⟨o', k⟩ := R.dom a x e
    exact ⟨o', by rw [upd_ne (ne a o' k)]; exact k⟩
  · obtain ⟨o', ho⟩ := a.ex
    exact ⟨a.at (upd_ne (ne q o' ho)), b, d⟩
  · obtain ⟨q, a, b, _⟩ := R.owned e hs
    rw [a] at z
    obtain ⟨o', ho⟩ := b.ex
    exact ne q o' ho (V.ref.inj (Option.some.inj (Option.some.inj z)))
  · obtain ⟨a, _⟩ := R.pl.has i hs p c e m
    obtain ⟨o', ho⟩ := a.ex
    exact ne p o' ho rfl
/-- an object that F does not know yet, and no slot owns, stays from now on -/
theorem Rep.stay (R : Rep K G σ H F ρ) {o : HO} (h : H p = some o) (hF : F p = none) (h0 : G.H0 p = none ∨ G.L p) (hn : Lone σ ρ p) :
    Same F (upd F p o) ∧ Rep K G σ H (upd F p o) ρ := by
  have sF : Same F (upd F p o) := same_new hF
  refine ⟨sF, R.len, fun a x e => ?_, fun i d e => ?_, fun i c e => ?_, fun i j c e => ?_, R.sep, fun a x e => sF a x (R.fr0 a x e), fun a x e => ?_, R.keep, R.dom, R.bd, R.lb, R.pl.to (fun _ _ e => e) (fun j s c' q e1 e2 e3 => .inl ⟨s, c', e1, e2, e3⟩) fun i hs q c e1 e2 a b d => ?_⟩
  · by_cases q : a = p
    · subst q; rw [upd_same] at e; rw [h]; exact e
    · rw [upd_ne q] at e; exact R.ext a x e
  · obtain ⟨v, a, b⟩ := R.sh i d e; exact ⟨v, a, b.mono sF⟩
  · obtain ⟨q, a, b, e2, e3⟩ := R.ow i c e
    have ne : q ≠ p := fun z => hn.1 i _ _ e rfl (by rw [← z]; exact a)
    exact ⟨q, a, b.mono sF, by rw [upd_ne ne]; exact e2, e3⟩
  · obtain ⟨q, a, b, e2, e3⟩ := R.bw i j c e
    have ne : q ≠ p := fun z => hn.1 i _ _ e rfl (by rw [← z]; exact a)
    exact ⟨q, a, b.mono sF, by rw [upd_ne ne]; exact e2, e3⟩
  · by_cases q : a = p
    · subst q
      rcases h0 with z | z
      · exact .inr (.inl z)
      · exact .inr (.inr z)
    · rw [upd_ne q] at e; exact R.new a x e
  · have ne : q ≠ p := fun z => by subst z; exact hn.2 i hs c e1 e2
    exact ⟨a.mono sF, by rw [upd_ne ne]; exact b, d⟩
/-- all of a pile stays from now on -/
theorem Rep.stays : ∀ {hs : List (Addr × Cn)} {F : Hp}, Rep K G σ H F ρ → (hs.map (·.1)).Nodup → (∀ p c, (p, c) ∈ hs → Has K F H p c ∧ F p = none ∧ (G.H0 p = none ∨ G.L p) ∧ Lone σ ρ p) →
    ∃ F', Same F F' ∧ Rep K G σ H F' ρ ∧ (∀ p c, (p, c) ∈ hs → Den K F' (.ref p) c.dat) ∧ ∀ p, F p = none → p ∉ hs.map (·.1) → F' p = none
  | [], F, R, _, _ => ⟨F, Same.refl F, R, fun _ _ m => (List.not_mem_nil m).elim, fun _ h _ => h⟩
  | (p, c) :: hs, F, R, hn, hh => by
    obtain ⟨a, b, d, e⟩ := hh p c List.mem_cons_self
    obtain ⟨o, ho⟩ := a.ex
    obtain ⟨s1, R1⟩ := R.stay ho b d e
    rw [List.map_cons, List.nodup_cons] at hn
    obtain ⟨F2, s2, R2, h2, g2⟩ := Rep.stays (hs := hs) R1 hn.2 fun q c' m => by
      obtain ⟨a1, b1, d1, e1⟩ := hh q c' (List.mem_cons_of_mem _ m)
      have ne : q ≠ p := fun z => by subst z; exact hn.1 (List.mem_map.mpr ⟨_, m, rfl⟩)
      exact ⟨a1.mono s1, by rw [upd_ne ne]; exact b1, d1, e1⟩
    refine ⟨F2, s1.trans s2, R2, fun q c' m => ?_, fun q hq hm => ?_⟩
    · rcases List.mem_cons.mp m with z | z
      · cases z
        exact (a.den s1 ho upd_same).mono s2
      · exact h2 q c' z
    · rw [List.map_cons, List.mem_cons, not_or] at hm
      exact g2 q (by rw [upd_ne hm.1]; exact hq) hm.2
/-- a value handed on as a datum -/
theorem Rep.share (R : Rep K G σ H F ρ) {r : Rv} (h : RDen K G σ ρ H F v r) : ∃ F', Same F F' ∧ Rep K G σ H F' ρ ∧ Den K F' v r.dat := by
  cases r with
  | v d => exact ⟨F, Same.refl F, R, h⟩
  | pt d hs =>
    obtain ⟨h1, h2, h3⟩ := h
    obtain ⟨F2, s2, R2, h4, _⟩ := R.stays h2 h3
    exact ⟨F2, s2, R2, (h1.mono s2).res fun p c e => h4 p c (lookup_mem e)⟩
  | fr c =>
    obtain ⟨p, rfl, hh, hF, h0, hn⟩ := h
    obtain ⟨o, ho⟩ := hh.ex
    obtain ⟨s1, R1⟩ := R.stay ho hF h0 hn
    exact ⟨_, s1, R1, hh.den s1 ho upd_same⟩
theorem Rep.unSlot (R : Rep K G σ H F ρ) (i : Nat) : Rep K G σ H F (ρ.set i .un) := by
  have := R.setUn i (σ.getD i none)
  have e : σ.set i (σ.getD i none) = σ := by
    by_cases h : i < σ.length
    · apply List.ext_getElem?
      intro j
      by_cases q : j = i
      · subst q
        rw [List.getElem?_set_self h, List.getD_eq_getElem?_getD, List.getElem?_eq_getElem h]
        rfl
      · rw [List.getElem?_set_ne (Ne.symm q)]
    · rw [List.set_eq_of_length_le (Nat.le_of_not_lt h)]
  rw [e] at this
  exact this
theorem un_own {s : Sl} {c' : Cn} {j : Nat} (e : (ρ.set i .un)[j]? = some s) (hs : s.cn = some c') : j ≠ i ∧ ρ[j]? = some s := by
  rcases set_get e with ⟨_, q⟩ | q
  · subst q; cases hs
  · exact q
/-- one's own thing taken out of its slot -/
theorem Rep.take (R : Rep K G σ H F ρ) (h : ρ[i]? = some (.ow c)) (hv : σ[i]? = some (some v)) : Rep K G σ H F (ρ.set i .un) ∧ RDen K G σ (ρ.set i .un) H F v (.fr c) := by
  obtain ⟨p, a, b, e, z⟩ := R.ow i c h
  rw [a] at hv; cases hv
  refine ⟨R.unSlot i, p, rfl, b, e, z, fun j s c' q hs w => ?_, fun j hs c' q m => ?_⟩
  · obtain ⟨ne, q⟩ := un_own q hs
    exact ne (R.sep j i s _ c' c p q h hs rfl w a)
  · rcases set_get q with ⟨_, z⟩ | ⟨_, z⟩
    · cases z
    · exact R.pl.own j hs p c' z m i _ c h rfl a
/-- one's own thing is changed no more -/
theorem Rep.freeze (R : Rep K G σ H F ρ) (h : ρ[i]? = some (.ow c)) : ∃ F' v, Same F F' ∧ σ[i]? = some (some v) ∧ Den K F' v c.dat ∧ Rep K G σ H F' (ρ.set i (.sh c.dat)) := by
  obtain ⟨p, a, b, e, z⟩ := R.ow i c h
  obtain ⟨R1, hd⟩ := R.take h a
  obtain ⟨F', s1, R2, d2⟩ := R1.share hd
  refine ⟨F', _, s1, a, d2, ?_⟩
  have R3 := R2.setSh d2 i
  have hi : i < σ.length := (List.getElem?_eq_some_iff.mp a).1
  rw [List.set_set] at R3
  have e1 : σ.set i (some (.ref p)) = σ := by
    apply List.ext_getElem?
    intro j
    by_cases q : j = i
    · subst q
      rw [List.getElem?_set_self hi, a]
    · rw [List.getElem?_set_ne (Ne.symm q)]
  rw [e1] at R3
  exact R3
theorem Sl.with_cn {s : Sl} {c c' : Cn} (h : s.cn = some c) : (s.with c').cn = some c' := by
  cases s with
  | un => cases h
  | pl hs => cases h
  | sh d => cases h
  | ow c => rfl
  | bw j c => rfl
/-- an owned (or lent) thing is changed -/
theorem Rep.write (R : Rep K G σ H F ρ) {s : Sl} {c' : Cn} {o : HO} (h : ρ[i]? = some s) (hs : s.cn = some c) (hp : σ[i]? = some (some (.ref p))) (hn : Has K F (upd H p o) p c') : Rep K G σ (upd H p o) F (ρ.set i (s.with c')) := by
  obtain ⟨p', a, b, e⟩ := R.owned h hs
  rw [hp] at a; cases a
  have oth : ∀ (j : Nat) (t : Sl) (c1 : Cn), ρ[j]? = some t → t.cn = some c1 → j ≠ i → ∀ q, σ[j]? = some (some (.ref q)) → q ≠ p := fun j t c1 e1 e2 ne q e3 z => by
    subst z; exact ne (R.sep j i t s c1 c q e1 h e2 hs e3 hp)
  have nG : ∀ a o1, G.H0 a = some o1 → ¬ G.L a → (∀ j, G.b j ≠ some a) → a ≠ p := fun a o1 e1 nl nb z => by
    subst z
    cases s with
    | un => cases hs
    | pl _ => cases hs
    | sh d => cases hs
    | ow c1 =>
      obtain ⟨q, a1, _, _, a4⟩ := R.ow i c1 h
      rw [hp] at a1; cases a1
      rcases a4 with a4 | a4
      · rw [e1] at a4; cases a4
      · exact nl a4
    | bw k c1 =>
      obtain ⟨q, a1, _, _, a4⟩ := R.bw i k c1 h
      rw [hp] at a1; cases a1
      exact nb k a4
  refine ⟨by rw [List.length_set]; exact R.len, fun a x e1 => ?_, fun j d e1 => ?_, fun j c1 e1 => ?_, fun j k c1 e1 => ?_, fun j k t u c1 c2 q e1 e2 h1 h2 h3 h4 => ?_, R.fr0, R.new, fun a x e1 nl nb => ?_, fun a x e1 => ?_, R.bd, R.lb, R.pl.to (fun j hs' e1 => ?_) (fun j t c1 q e1 e2 e3 => ?_) fun j hs' q c1 e1 m a1 b1 d1 => ?_⟩
  · rw [upd_ne (show a ≠ p from fun z => by subst z; rw [e] at e1; cases e1)]; exact R.ext a x e1
  · rcases set_get e1 with ⟨_, q⟩ | ⟨_, q⟩
    · have q2 := congrArg Sl.cn q
      rw [Sl.with_cn hs] at q2; cases q2
    · exact R.sh j d q
  · rcases set_get e1 with ⟨rfl, q⟩ | ⟨ne, q⟩
    · cases s with
      | un => cases hs
      | pl _ => cases hs
      | sh d => cases hs
      | ow c2 =>
        have q : Sl.ow c1 = Sl.ow c' := q
        cases q
        obtain ⟨q, a1, _, a3, a4⟩ := R.ow j c2 h
        rw [hp] at a1; cases a1
        exact ⟨p, hp, hn, a3, a4⟩
      | bw k c2 => exact nomatch (show Sl.ow c1 = Sl.bw k c' from q)
    · obtain ⟨q', a1, a2, a3, a4⟩ := R.ow j c1 q
      exact ⟨q', a1, a2.at (upd_ne (oth j _ _ q rfl ne q' a1)), a3, a4⟩
  · rcases set_get e1 with ⟨rfl, q⟩ | ⟨ne, q⟩
    · cases s with
      | un => cases hs
      | pl _ => cases hs
      | sh d => cases hs
      | ow c2 => exact nomatch (show Sl.bw k c1 = Sl.ow c' from q)
      | bw k2 c2 =>
        have q : Sl.bw k c1 = Sl.bw k2 c' := q
        cases q
        obtain ⟨q, a1, _, a3, a4⟩ := R.bw j k c2 h
        rw [hp] at a1; cases a1
        exact ⟨p, hp, hn, a3, a4⟩
    · obtain ⟨q', a1, a2, a3, a4⟩ := R.bw j k c1 q
      exact ⟨q', a1, a2.at (upd_ne (oth j _ _ q rfl ne q' a1)), a3, a4⟩
  · rcases set_get e1 with ⟨rfl, q1⟩ | ⟨ne, q1⟩
    · rcases set_get e2 with ⟨rfl, q2⟩ | ⟨ne2, q2⟩
      · rfl
      · exact R.sep j k s u c c2 q h q2 hs h2 h3 h4
    · rcases set_get e2 with ⟨rfl, q2⟩ | ⟨ne2, q2⟩
      · exact R.sep j k t s c1 c q q1 h h1 hs h3 h4
      · exact R.sep j k t u c1 c2 q q1 q2 h1 h2 h3 h4
  · rw [upd_ne (nG a x e1 nl nb)]; exact R.keep a x e1 nl nb
  · obtain ⟨o', k⟩ := R.dom a x e1
    by_cases z : a = p
    · subst z; exact ⟨o, upd_same⟩
    · exact ⟨o', by rw [upd_ne z]; exact k⟩
  · rcases set_get e1 with ⟨_, q⟩ | ⟨_, q⟩
    · have q2 := congrArg Sl.cn q
      rw [Sl.with_cn hs] at q2; cases q2
    · exact q
  · rcases set_get e1 with ⟨rfl, q1⟩ | ⟨ne, q1⟩
    · exact .inl ⟨s, c, h, hs, e3⟩
    · exact .inl ⟨t, c1, q1, e2, e3⟩
  · have ne : q ≠ p := fun z => by
      subst z
      rcases set_get e1 with ⟨_, q⟩ | ⟨_, q⟩
      · have q2 := congrArg Sl.cn q
        rw [Sl.with_cn hs] at q2; cases q2
      · exact R.pl.own j hs' _ c1 q m i s c h hs hp
    exact ⟨a1.at (upd_ne ne), b1, d1⟩
/-! ### the frame -/
def Cd.now (G : Cd) (σ : St) (ρ : SL) (H F : Hp) : Cd where
  b := G.b
  L := fun p => (∃ (i : Nat) (c : Cn), ρ[i]? = some (.ow c) ∧ σ[i]? = some (some (.ref p))) ∨ ∃ (i : Nat) (hs : List (Addr × Cn)) (c : Cn), ρ[i]? = some (.pl hs) ∧ (p, c) ∈ hs
  H0 := H
  F0 := F
theorem Rep.now (R : Rep K G σ H F ρ) : Rep K (G.now σ ρ H F) σ H F ρ where
  len := R.len
  ext := R.ext
  sh := R.sh
  ow := fun i c e => by
    obtain ⟨p, a, b, e2, _⟩ := R.ow i c e
    exact ⟨p, a, b, e2, .inr (.inl ⟨i, c, e, a⟩)⟩
  bw := R.bw
  sep := R.sep
  fr0 := Same.refl F
  new := fun a o e => .inl e
  keep := fun a o e _ _ => e
  dom := fun a o e => ⟨o, e⟩
  bd := fun j p e => by
    obtain ⟨o, h⟩ := R.bd j p e
    exact R.dom p o h
  lb := fun j p g w => by
    have a4 : G.H0 p = none ∨ G.L p := by
      rcases g with ⟨i, c, e, z⟩ | ⟨i, hs, c, e, m⟩
      · obtain ⟨q, a1, _, _, a4⟩ := R.ow i c e
        rw [z] at a1; cases a1
        exact a4
      · exact (R.pl.has i hs p c e m).2.2
    rcases a4 with a4 | a4
    · obtain ⟨o, h⟩ := R.bd j p w
      rw [a4] at h; cases h
    · exact R.lb j p a4 w
  pl := R.pl.to (fun _ _ e => e) (fun j s c' q e1 e2 e3 => .inl ⟨s, c', e1, e2, e3⟩) fun i hs q c e m a b d => ⟨a, b, .inr (.inr ⟨i, hs, c, e, m⟩)⟩
/-- what was new or one's own within a stretch is so in the whole -/
theorem Rep.outL (R : Rep K G σ H F ρ) (z : (G.now σ ρ H F).H0 p = none ∨ (G.now σ ρ H F).L p) : G.H0 p = none ∨ G.L p := by
  rcases z with z | ⟨k, c', e3, z⟩ | ⟨k, hs, c', e3, z⟩
  · exact .inl (R.fresh z).2
  · obtain ⟨q, a1, _, _, a4⟩ := R.ow k c' e3
    rw [z] at a1; cases a1
    exact a4
  · exact (R.pl.has k hs p c' e3 z).2.2
theorem Rep.back {σ' : L2.St} {H' F' : Hp} {ρ' : SL} (R : Rep K G σ H F ρ) (R' : Rep K (G.now σ ρ H F) σ' H' F' ρ') : Rep K G σ' H' F' ρ' where
  len := R'.len
  ext := R'.ext
  sh := R'.sh
  ow := fun i c e => by
    obtain ⟨p, a, b, e2, z⟩ := R'.ow i c e
    exact ⟨p, a, b, e2, R.outL z⟩
  bw := R'.bw
  sep := R'.sep
  fr0 := R.fr0.trans R'.fr0
  new := fun a o e => by
    rcases R'.new a o e with z | z
    · exact R.new a o z
    · exact .inr (R.outL z)
  keep := fun a o e nl nb => by
    refine R'.keep a o (R.keep a o e nl nb) (fun z => ?_) nb
    rcases R.outL (.inr z) with a4 | a4
    · rw [e] at a4; cases a4
    · exact nl a4
  dom := fun a o e => by
    obtain ⟨o', k⟩ := R.dom a o e
    exact R'.dom a o' k
  bd := R.bd
  lb := R.lb
  pl := R'.pl.to (fun _ _ e => e) (fun j s c' q e1 e2 e3 => .inl ⟨s, c', e1, e2, e3⟩) fun i hs q c e m a b d => ⟨a, b, R.outL d⟩
/-- what is held aside through a stretch -/
theorem Rep.held {σ' : L2.St} {H' F' : Hp} {ρ' : SL} {o : HO} (R : Rep K G σ H F ρ) (R' : Rep K (G.now σ ρ H F) σ' H' F' ρ') (h : H p = some o) (hF : F p = none)
    (hn : Lone σ ρ p) (hb : ∀ j, G.b j ≠ some p) :
    H' p = some o ∧ F' p = none ∧ Lone σ' ρ' p := by
  have nL : ¬ (G.now σ ρ H F).L p := fun g => by
    rcases g with ⟨i, c, e, z⟩ | ⟨i, hs, c, e, m⟩
    · exact hn.1 i _ c e rfl z
    · exact hn.2 i hs c e m
  refine ⟨R'.keep p o h nL hb, ?_, fun i s c' e hs z => ?_, fun i hs c e m => ?_⟩
  · cases q : F' p with
    | none => rfl
    | some u =>
      rcases R'.new p u q with w | w | w
      · have w' : F p = some u := w
        rw [hF] at w'; cases w'
      · have w' : H p = none := w
        rw [h] at w'; cases w'
      · exact (nL w).elim
  · cases s with
    | un => cases hs
    | pl _ => cases hs
    | sh d => cases hs
    | ow c =>
      obtain ⟨q, a1, _, _, a4⟩ := R'.ow i c e
      rw [z] at a1; cases a1
      rcases a4 with w | w
      · have w' : H p = none := w
        rw [h] at w'; cases w'
      · exact nL w
    | bw j c =>
      obtain ⟨q, a1, _, _, a4⟩ := R'.bw i j c e
      rw [z] at a1; cases a1
      exact hb j a4
  · obtain ⟨_, _, w | w⟩ := R'.pl.has i hs p c e m
    · have w' : H p = none := w
      rw [h] at w'; cases w'
    · exact nL w
theorem Rep.freshB (R : Rep K G σ H F ρ) (h : H p = none) : ∀ j, G.b j ≠ some p := fun j e => by
  obtain ⟨o, q⟩ := R.bd j p e
  obtain ⟨o', q'⟩ := R.dom p o q
  rw [h] at q'; cases q'
/-- a new thing that nobody looks at -/
theorem Rep.junk (R : Rep K G σ H F ρ) {o : HO} (h : H p = none) : Rep K G σ (upd H p o) F ρ := by
  have ne : ∀ q o', H q = some o' → q ≠ p := fun q o' e z => by subst z; rw [h] at e; cases e
  refine ⟨R.len, fun a x e => ?_, R.sh, fun i c e => ?_, fun i j c e => ?_, R.sep, R.fr0, R.new, fun a x e nl nb => ?_, fun a x e => ?_, R.bd, R.lb, R.pl.to (fun _ _ e => e) (fun j s c' q e1 e2 e3 => .inl ⟨s, c', e1, e2, e3⟩) fun i hs q c _ _ a b d => ?_⟩
  · have k := R.ext a x e
    rw [upd_ne (ne a x k)]; exact k
  · obtain ⟨q, a, b, e2, e3⟩ := R.ow i c e
    obtain ⟨o', ho⟩ := b.ex
    exact ⟨q, a, b.at (upd_ne (ne q o' ho)), e2, e3⟩
  · obtain ⟨q, a, b, e2, e3⟩ := R.bw i j c e
    obtain ⟨o', ho⟩ := b.ex
    exact ⟨q, a, b.at (upd_ne (ne q o' ho)), e2, e3⟩
  · have k := R.keep a x e nl nb
    rw [upd_ne (ne a x k)]; exact k
  · obtain ⟨o', k⟩ := R.dom a x e
    exact ⟨o', by rw [upd_ne (ne a o' k)]; exact k⟩
  · obtain ⟨o', ho⟩ := a.ex
    exact ⟨a.at (upd_ne (ne q o' ho)), b, d⟩
theorem Rep.nb (R : Rep K G σ H F ρ) (h0 : G.H0 p = none ∨ G.L p) : ∀ j, G.b j ≠ some p := fun j e => by
  rcases h0 with h0 | h0
  · obtain ⟨o, q⟩ := R.bd j p e
    rw [h0] at q; cases q
  · exact R.lb j p h0 e
def Cd.at (G : Cd) (F : Hp) : Cd := { G with F0 := F }
theorem Rep.rebase (R : Rep K G σ H F ρ) : Rep K (G.at F) σ H F ρ :=
  ⟨R.len, R.ext, R.sh, R.ow, R.bw, R.sep, Same.refl F, fun a o e => .inl e, R.keep, R.dom, R.bd, R.lb, R.pl.to (fun _ _ e => e) (fun j s c' q e1 e2 e3 => .inl ⟨s, c', e1, e2, e3⟩) fun i hs q c _ _ a b d => ⟨a, b, d⟩⟩
theorem Rep.unbase {σ' : L2.St} {H' F' : Hp} {ρ' : SL} (R : Rep K G σ H F ρ) (R' : Rep K (G.at F) σ' H' F' ρ') : Rep K G σ' H' F' ρ' :=
  ⟨R'.len, R'.ext, R'.sh, R'.ow, R'.bw, R'.sep, R.fr0.trans R'.fr0, fun a o e => by
    rcases R'.new a o e with z | z
    · exact R.new a o z
    · exact .inr z, R'.keep, R'.dom, R'.bd, R'.lb, R'.pl.to (fun _ _ e => e) (fun j s c' q e1 e2 e3 => .inl ⟨s, c', e1, e2, e3⟩) fun i hs q c _ _ a b d => ⟨a, b, d⟩⟩
theorem RDen.back {σ' : St} {H' F' : Hp} {ρ' : SL} {r : Rv} (R : Rep K G σ H F ρ) (h : RDen K (G.now σ ρ H F) σ' ρ' H' F' v r) : RDen K G σ' ρ' H' F' v r := by
  cases r with
  | v d => exact h
  | fr c =>
    obtain ⟨p, e, a, b, z, n⟩ := h
    exact ⟨p, e, a, b, R.outL z, n⟩
  | pt d hs =>
    obtain ⟨h1, h2, h3⟩ := h
    refine ⟨h1, h2, fun p c m => ?_⟩
    obtain ⟨a, b, z, n⟩ := h3 p c m
    exact ⟨a, b, R.outL z, n⟩
/-! ### several values at once -/
/-- a value handed on is held while something else goes on -/
theorem RDen.hold {σ' : L2.St} {H' F' : Hp} {ρ' : SL} {r : Rv} (R : Rep K G σ H F ρ) (h : RDen K G σ ρ H F v r) (R' : Rep K (G.now σ ρ H F) σ' H' F' ρ') : RDen K G σ' ρ' H' F' v r := by
  cases r with
  | v d => exact Den.mono R'.fr0 h
  | fr c =>
    obtain ⟨p, e, a, b, z, n⟩ := h
    obtain ⟨o, ho⟩ := a.ex
    obtain ⟨h1, h2, h3⟩ := R.held R' ho b n (R.nb z)
    exact ⟨p, e, (a.mono R'.fr0).at (h1.trans ho.symm), h2, z, h3⟩
  | pt d hs =>
    obtain ⟨g1, g2, g3⟩ := h
    refine ⟨g1.mono R'.fr0, g2, fun p c m => ?_⟩
    obtain ⟨a, b, z, n⟩ := g3 p c m
    obtain ⟨o, ho⟩ := a.ex
    obtain ⟨h1, h2, h3⟩ := R.held R' ho b n (R.nb z)
    exact ⟨(a.mono R'.fr0).at (h1.trans ho.symm), h2, z, h3⟩
/-- fewer slots are known, the others are as they were -/
theorem Rep.slots {σ' : L2.St} {ρ' : SL} (R : Rep K G σ H F ρ) (hl : ρ'.length = σ'.length) (h : ∀ (i : Nat) (s : Sl), ρ'[i]? = some s → s = .un ∨ (ρ[i]? = some s ∧ σ'[i]? = σ[i]?)) : Rep K G σ' H F ρ' where
  len := hl
  ext := R.ext
  sh := fun i d e => by
    rcases h i _ e with z | ⟨z, w⟩
    · cases z
    · rw [w]; exact R.sh i d z
  ow := fun i c e => by
    rcases h i _ e with z | ⟨z, w⟩
    · cases z
    · rw [w]; exact R.ow i c z
  bw := fun i j c e => by
    rcases h i _ e with z | ⟨z, w⟩
    · cases z
    · rw [w]; exact R.bw i j c z
  sep := fun i j s t c c' p e1 e2 h1 h2 h3 h4 => by
    rcases h i _ e1 with z | ⟨z, w⟩
    · subst z; cases h1
    · rcases h j _ e2 with z2 | ⟨z2, w2⟩
      · subst z2; cases h2
      · rw [w] at h3
        rw [w2] at h4
        exact R.sep i j s t c c' p z z2 h1 h2 h3 h4
  fr0 := R.fr0
  new := R.new
  keep := R.keep
  dom := R.dom
  bd := R.bd
  lb := R.lb
  pl := R.pl.to (fun i hs e => by
    rcases h i _ e with z | ⟨z, w⟩
    · cases z
    · exact z) (fun j s c' q e1 e2 e3 => by
    rcases h j _ e1 with z | ⟨z, w⟩
    · subst z; cases e2
    · rw [w] at e3; exact .inl ⟨s, c', z, e2, e3⟩) fun i hs q c _ _ a b d => ⟨a, b, d⟩
theorem Lone.slots {σ' : L2.St} {ρ' : SL} (n : Lone σ ρ p) (h : ∀ (i : Nat) (s : Sl), ρ'[i]? = some s → s = .un ∨ (ρ[i]? = some s ∧ σ'[i]? = σ[i]?)) : Lone σ' ρ' p := by
  refine ⟨fun i s c' e1 e2 e3 => ?_, fun i hs c e m => ?_⟩
  · rcases h i _ e1 with z | ⟨z, w⟩
    · subst z; cases e2
    · rw [w] at e3
      exact n.1 i s c' z e2 e3
  · rcases h i _ e with z | ⟨z, w⟩
    · cases z
    · exact n.2 i hs c z m
theorem RDen.slots {σ' : L2.St} {ρ' : SL} {r : Rv} (a : RDen K G σ ρ H F v r) (h : ∀ (i : Nat) (s : Sl), ρ'[i]? = some s → s = .un ∨ (ρ[i]? = some s ∧ σ'[i]? = σ[i]?)) : RDen K G σ' ρ' H F v r := by
  cases r with
  | v d => exact a
  | fr c =>
    obtain ⟨p, e, a1, a2, a3, n⟩ := a
    exact ⟨p, e, a1, a2, a3, n.slots h⟩
  | pt d hs =>
    obtain ⟨h1, h2, h3⟩ := a
    refine ⟨h1, h2, fun p c m => ?_⟩
    obtain ⟨a1, a2, a3, n⟩ := h3 p c m
    exact ⟨a1, a2, a3, n.slots h⟩
/-- a held thing is changed -/
theorem Rep.writeFr (R : Rep K G σ H F ρ) {o : HO} {c' : Cn} (h : RDen K G σ ρ H F (.ref p) (.fr c)) (hn : Has K F (upd H p o) p c') :
    Rep K G σ (upd H p o) F ρ ∧ RDen K G σ ρ (upd H p o) F (.ref p) (.fr c') := by
  obtain ⟨p', e, a1, a2, a3, n⟩ := h
  cases e
  have nG : ∀ a o1, G.H0 a = some o1 → ¬ G.L a → a ≠ p := fun a o1 e1 nl z => by
    subst z
    rcases a3 with z | z
    · rw [e1] at z; cases z
    · exact nl z
  refine ⟨⟨R.len, fun a x e => ?_, R.sh, fun i c e => ?_, fun i j c e => ?_, R.sep, R.fr0, R.new, fun a x e nl nb => ?_, fun a x e => ?_, R.bd, R.lb, R.pl.to (fun _ _ e => e) (fun j s c' q e1 e2 e3 => .inl ⟨s, c', e1, e2, e3⟩) fun i hs q c e m a b d => ?_⟩, p, rfl, hn, a2, a3, n⟩
  · rw [upd_ne (fun z => by subst z; rw [a2] at e; cases e)]; exact R.ext a x e
  · obtain ⟨q', a, b, e2, e3⟩ := R.ow i c e
    exact ⟨q', a, b.at (upd_ne fun z => n.1 i _ c e rfl (by rw [← z]; exact a)), e2, e3⟩
  · obtain ⟨q', a, b, e2, e3⟩ := R.bw i j c e
    exact ⟨q', a, b.at (upd_ne fun z => n.1 i _ c e rfl (by rw [← z]; exact a)), e2, e3⟩
  · rw [upd_ne (nG a x e nl)]; exact R.keep a x e nl nb
  · obtain ⟨o', kk⟩ := R.dom a x e
    by_cases z : a = p
    · subst z; exact ⟨_, upd_same⟩
    · exact ⟨o', by rw [upd_ne z]; exact kk⟩
  · exact ⟨a.at (upd_ne fun z => by subst z; exact n.2 i hs c e m), b, d⟩
/-- no pile comes with it -/
def Rv.np : Rv → Prop
  | .pt _ _ => False
  | _ => True
inductive RDs (K : PySem.W.Frag) (G : Cd) (σ : L2.St) (ρ : SL) (H F : Hp) : List V → List Rv → Prop
  | nil : RDs K G σ ρ H F [] []
  | cons {v : V} {vs : List V} {r : Rv} {rs : List Rv} : RDen K G σ ρ H F v r → RDs K G σ ρ H F vs rs →
      (∀ (p : Addr) (c : Cn), r = .fr c → v = .ref p → ∀ (j : Nat) (c' : Cn), rs[j]? = some (.fr c') → vs[j]? ≠ some (.ref p)) → r.np → RDs K G σ ρ H F (v :: vs) (r :: rs)
theorem RDs.back {H' F' : Hp} {ρ' : SL} {vs : List V} {rs : List Rv} (R : Rep K G σ H F ρ) (h : RDs K (G.now σ ρ H F) σ ρ' H' F' vs rs) : RDs K G σ ρ' H' F' vs rs := by
  induction h with
  | nil => exact .nil
  | cons a _ c np ih => exact .cons (RDen.back R a) ih c np
theorem RDs.frAt {vs : List V} {rs : List Rv} (h : RDs K G σ ρ H F vs rs) : ∀ (j : Nat) (c : Cn), rs[j]? = some (.fr c) → ∃ p, vs[j]? = some (.ref p) ∧ (G.H0 p = none ∨ G.L p) := by
  induction h with
  | nil => intro j c e; simp at e
  | cons a _ _ _ ih =>
    intro j c e
    cases j with
    | zero =>
      have e' := Option.some.inj e
      subst e'
      obtain ⟨p, e, _, _, z, _⟩ := a
      exact ⟨p, by rw [e]; rfl, z⟩
    | succ j => exact ih j c e
theorem RDs.apart {H' F' : Hp} {ρ' : SL} {r : Rv} {vs : List V} {rs : List Rv} (R : Rep K G σ H F ρ) (a : RDen K G σ ρ H F v r) (h : RDs K (G.now σ ρ H F) σ ρ' H' F' vs rs) :
    ∀ (p : Addr) (c : Cn), r = .fr c → v = .ref p → ∀ (j : Nat) (c' : Cn), rs[j]? = some (.fr c') → vs[j]? ≠ some (.ref p) := by
  rintro p c rfl rfl j c' e z
  obtain ⟨q, e1, e2⟩ := h.frAt j c' e
  rw [z] at e1; cases e1
  obtain ⟨p', e3, hh, _, _, n⟩ := a
  cases e3
  rcases e2 with e2 | ⟨i, c2, e4, e5⟩ | ⟨i, hs, c2, e4, m⟩
  · obtain ⟨o, ho⟩ := hh.ex
    have e2' : H p = none := e2
    rw [ho] at e2'; cases e2'
  · exact n.1 i _ c2 e4 rfl e5
  · exact n.2 i hs c2 e4 m
def put (ρ : SL) (i : Nat) : Rv → SL
  | .v d => ρ.set i (.sh d)
  | .fr c => ρ.set i (.ow c)
  | .pt d hs => ρ.set i (.sh (d.res hs))
theorem Rep.put (R : Rep K G σ H F ρ) {r : Rv} (h : RDen K G σ ρ H F v r) (np : r.np) (i : Nat) : Rep K G (σ.set i (some v)) H F (put ρ i r) := by
  cases r with
  | v d => exact R.setSh h i
  | fr c => exact R.setOw h i
  | pt d hs => exact np.elim
theorem Rep.putF (R : Rep K G σ H F ρ) {r : Rv} (h : RDen K G σ ρ H F v r) (i : Nat) : ∃ F', Same F F' ∧ Rep K G (σ.set i (some v)) H F' (DL.put ρ i r) := by
  cases r with
  | v d => exact ⟨F, Same.refl F, R.setSh h i⟩
  | fr c => exact ⟨F, Same.refl F, R.setOw h i⟩
  | pt d hs =>
    obtain ⟨F', s1, R1, d1⟩ := R.share h
    exact ⟨F', s1, R1.setSh d1 i⟩
theorem put_owned {r : Rv} {s : Sl} {c : Cn} {j : Nat} (hl : ρ.length = σ.length) (h : (DL.put ρ i r)[j]? = some s) (hs : s.cn = some c) (hp : (σ.set i (some v))[j]? = some (some (.ref p))) :
    (j = i ∧ v = .ref p ∧ ∃ c', r = .fr c') ∨ (ρ[j]? = some s ∧ σ[j]? = some (some (.ref p))) := by
  cases r with
  | v d =>
    rcases set_get h with ⟨rfl, q⟩ | ⟨ne, q⟩
    · subst q; cases hs
    · rw [List.getElem?_set_ne (Ne.symm ne)] at hp
      exact .inr ⟨q, hp⟩
  | fr c' =>
    rcases set_get h with ⟨rfl, q⟩ | ⟨ne, q⟩
    · rw [set_at hl h] at hp
      exact .inl ⟨rfl, Option.some.inj (Option.some.inj hp), c', rfl⟩
    · rw [List.getElem?_set_ne (Ne.symm ne)] at hp
      exact .inr ⟨q, hp⟩
  | pt d hs2 =>
    rcases set_get h with ⟨rfl, q⟩ | ⟨ne, q⟩
    · subst q; cases hs
    · rw [List.getElem?_set_ne (Ne.symm ne)] at hp
      exact .inr ⟨q, hp⟩
theorem put_pl {r : Rv} {hs : List (Addr × Cn)} {j : Nat} (h : (DL.put ρ i r)[j]? = some (.pl hs)) : ρ[j]? = some (.pl hs) := by
  cases r <;> (rcases set_get h with ⟨_, q⟩ | ⟨_, q⟩ <;> first | exact q | cases q)
theorem RDs.put {r : Rv} {vs : List V} {rs : List Rv} (hl : ρ.length = σ.length) (i : Nat) (h : RDs K G σ ρ H F vs rs)
    (hc : ∀ (p : Addr) (c : Cn), r = .fr c → v = .ref p → ∀ (j : Nat) (c' : Cn), rs[j]? = some (.fr c') → vs[j]? ≠ some (.ref p)) : RDs K G (σ.set i (some v)) (DL.put ρ i r) H F vs rs := by
  induction h with
  | nil => exact .nil
  | @cons v' vs' r' rs' a b c np ih =>
    refine .cons ?_ (ih fun p c1 e1 e2 j c' e => hc p c1 e1 e2 (j + 1) c' e) c np
    cases r' with
    | v d => exact a
    | pt d hs => exact np.elim
    | fr c1 =>
      obtain ⟨p, e, a1, a2, a3, n⟩ := a
      refine ⟨p, e, a1, a2, a3, fun k s c2 e1 e2 e3 => ?_, fun k hs c2 e1 => n.2 k hs c2 (put_pl e1)⟩
      rcases put_owned hl e1 e2 e3 with ⟨_, e4, c3, e5⟩ | ⟨e4, e5⟩
      · exact hc p c3 e5 e4 0 c1 rfl (by rw [e]; rfl)
      · exact n.1 k s c2 e4 e2 e5
theorem put_length (ρ : SL) (i : Nat) (r : Rv) : (DL.put ρ i r).length = ρ.length := by
  cases r <;> exact List.length_set ..
theorem RDs.junk {o : HO} {vs : List V} {rs : List Rv} (h : RDs K G σ ρ H F vs rs) (hp : H p = none) : RDs K G σ ρ (upd H p o) F vs rs := by
  induction h with
  | nil => exact .nil
  | @cons v' vs' r' rs' a b c np ih =>
    refine .cons ?_ ih c np
    cases r' with
    | v d => exact a
    | pt d hs => exact np.elim
    | fr c1 =>
      obtain ⟨q, e, a1, a2, a3, n⟩ := a
      obtain ⟨o', ho⟩ := a1.ex
      exact ⟨q, e, a1.at (upd_ne fun z => by subst z; rw [hp] at ho; cases ho), a2, a3, n⟩
theorem RDs.length {vs : List V} {rs : List Rv} (h : RDs K G σ ρ H F vs rs) : vs.length = rs.length := by
  induction h with
  | nil => rfl
  | cons _ _ _ _ ih => rw [List.length_cons, List.length_cons, ih]
end
end DL
namespace DL
open PySem L2

/-! ### what is looked at -/
/-- a value looked at: its parts stay -/
def Pk (K : PySem.W.Frag) (F H : Hp) (v : V) (d : D) : Prop := Den K F v d ∨ ∃ p c, v = .ref p ∧ d = c.dat ∧ Has K F H p c
inductive Op where
  | now (d : D)
  | at (i : Nat)
  | pl (g : Nat) (p : Addr)
def Op.get (ρ : SL) : Op → Option D
  | .now d => some d
  | .at i => match ρ[i]? with
    | some s => s.dat
    | none => none
  | .pl g p => match ρ[g]? with
    | some (.pl hs) => (hs.lookup p).map Cn.dat
    | _ => none
def OpDen (K : PySem.W.Frag) (F : Hp) (σ : L2.St) (v : V) : Op → Prop
  | .now d => Den K F v d
  | .at i => σ[i]? = some (some v)
  | .pl _ p => v = .ref p
section
variable {K : PySem.W.Frag} {G : Cd} {σ : L2.St} {H F F' H' : Hp} {ρ : SL} {v : V} {d : D} {o : Op}
theorem OpDen.mono (h : OpDen K F σ v o) (e : Same F F') : OpDen K F' σ v o := by
  cases o with
  | now d => exact Den.mono e h
  | «at» i => exact h
  | pl g p => exact h
theorem OpDen.pk (h : OpDen K F σ v o) (R : Rep K G σ H F ρ) (hd : o.get ρ = some d) : Pk K F H v d := by
  cases o with
  | now d' =>
    cases hd
    exact .inl h
  | pl g p =>
    have hv : v = .ref p := h
    subst hv
    cases e : ρ[g]? with
    | none => simp only [Op.get, e] at hd; cases hd
    | some s =>
      cases s with
      | pl hs =>
        simp only [Op.get, e] at hd
        cases q : hs.lookup p with
        | none => rw [q] at hd; cases hd
        | some c =>
          rw [q] at hd
          cases hd
          exact .inr ⟨p, c, rfl, rfl, (R.pl.has g hs p c e (lookup_mem q)).1⟩
      | _ => simp only [Op.get, e] at hd; cases hd
  | «at» i =>
    have hv : σ[i]? = some (some v) := h
    cases q : ρ[i]? with
    | none => simp only [Op.get, q] at hd; cases hd
    | some s =>
      simp only [Op.get, q] at hd
      cases s with
      | un => cases hd
      | pl _ => cases hd
      | sh d' =>
        cases hd
        obtain ⟨w, a, b⟩ := R.sh i _ q
        rw [hv] at a; cases a
        exact .inl b
      | ow c =>
        cases hd
        obtain ⟨p, a, b, _⟩ := R.ow i _ q
        rw [hv] at a; cases a
        exact .inr ⟨p, c, rfl, rfl, b⟩
      | bw j c =>
        cases hd
        obtain ⟨p, a, b, _⟩ := R.bw i j _ q
        rw [hv] at a; cases a
        exact .inr ⟨p, c, rfl, rfl, b⟩
theorem Pk.int {i : Int} (h : Pk K F H v (.int i)) : v = .int i := by
  rcases h with h | ⟨p, c, rfl, e, _⟩
  · cases h; rfl
  · cases c <;> cases e
theorem Pk.bl {i : Bool} (h : Pk K F H v (.bl i)) : v = .bl i := by
  rcases h with h | ⟨p, c, rfl, e, _⟩
  · cases h; rfl
  · cases c <;> cases e
theorem Pk.str {i : Str} (h : Pk K F H v (.str i)) : v = .str i := by
  rcases h with h | ⟨p, c, rfl, e, _⟩
  · cases h; rfl
  · cases c <;> cases e
theorem Pk.strOk {i : Str} (h : Pk K F H v (.str i)) : PyData.strOk i = true := by
  rcases h with h | ⟨p, c, rfl, e, _⟩
  · cases h with | str _ a => exact a
  · cases c <;> cases e
theorem Pk.non (h : Pk K F H v .non) : v = .non := by
  rcases h with h | ⟨p, c, rfl, e, _⟩
  · cases h; rfl
  · cases c <;> cases e
theorem Pk.lst {ds : List D} (e : Same F H) (h : Pk K F H v (.lst ds)) : ∃ p xs, v = .ref p ∧ H p = some (.lst xs) ∧ DenL K F xs ds := by
  rcases h with h | ⟨p, c, rfl, e2, h⟩
  · cases h with
    | lst a b => exact ⟨_, _, rfl, e _ _ a, b⟩
  · cases c with
    | l ds' => cases e2; obtain ⟨xs, a, b⟩ := h; exact ⟨p, xs, rfl, a, b⟩
    | d _ => cases e2
    | o _ _ => cases e2
    | k _ _ _ => cases e2
theorem Pk.tup {ds : List D} (h : Pk K F H v (.tup ds)) : ∃ p xs, v = .ref p ∧ F p = some (.tup xs) ∧ DenL K F xs ds := by
  rcases h with h | ⟨p, c, rfl, e2, h⟩
  · cases h with
    | tup a b => exact ⟨_, _, rfl, a, b⟩
  · cases c <;> cases e2
theorem Pk.scr {ns : List Int} (e : Same F H) (h : Pk K F H v (.scr ns)) : ∃ p, v = .ref p ∧ SqL K H p (ns.map V.int) := by
  rcases h with h | ⟨p, c, rfl, e2, h⟩
  · cases h with
    | scr a => exact ⟨_, rfl, e.seq a⟩
  · cases c <;> cases e2
theorem Pk.dct {ds : List (Key × D)} (e : Same F H) (h : Pk K F H v (.dct ds)) : ∃ p ks, v = .ref p ∧ H p = some (.dK ks) ∧ DenK K F ks ds := by
  rcases h with h | ⟨p, c, rfl, e2, h⟩
  · cases h with
    | dct a b => exact ⟨_, _, rfl, e _ _ a, b⟩
  · cases c with
    | d ds' => cases e2; obtain ⟨xs, a, b⟩ := h; exact ⟨p, xs, rfl, a, b⟩
    | l _ => cases e2
    | o _ _ => cases e2
    | k _ _ _ => cases e2
theorem Pk.obj {C : Addr} {fs : List (Str × D)} (e : Same F H) (h : Pk K F H v (.obj C fs)) : ∃ p dx gs, v = .ref p ∧ H p = some (.ins C dx gs) ∧ DenO K F gs fs := by
  rcases h with h | ⟨p, c, rfl, e2, h⟩
  · cases h with
    | obj a b => exact ⟨_, _, _, rfl, e _ _ a, b⟩
  · cases c with
    | o _ _ => cases e2; obtain ⟨dx, gs, a, b⟩ := h; exact ⟨p, dx, gs, rfl, a, b⟩
    | l _ => cases e2
    | d _ => cases e2
    | k _ _ _ => cases e2
theorem Pk.den {H : Hp} (e : Same F H) (h : Pk K F H v d) : Den K H v d := by
  rcases h with h | ⟨p, c, rfl, rfl, h⟩
  · exact h.mono e
  · obtain ⟨o, ho⟩ := h.ex
    exact h.den e ho ho
end

/-! ### the judgements over data -/
abbrev TD := SL → (Rv → SL → Prop) → Prop
abbrev TQ := SL → (Op → SL → Prop) → Prop
abbrev TB := SL → (Bool → SL → Prop) → Prop
abbrev TAs := SL → (List Op → SL → Prop) → Prop
/-- what is wanted of an error: its class, its one field (or none), the slots -/
abbrev WXD := Addr → Option (Str × D) → SL → Prop
/-- the weakest wish that the context takes -/
def wOf (X : Cx) : WX := fun cls d σ H => ∀ (u : Value) (s' : Shared), XE X (fun cls' d' σ' H' => cls' = cls ∧ d' = d ∧ σ' = σ ∧ H' = H) u s' → X.xe u s'
theorem takes_wOf (X : Cx) : Takes X (wOf X) := fun u s' ⟨a, B, sI, pins, σ, H, cls, d, e, I, nb, up, sky, na, os, ag, w⟩ =>
  w u s' ⟨a, B, sI, pins, σ, H, cls, d, e, I, nb, up, sky, na, os, ag, rfl, rfl, rfl, rfl⟩
theorem wOf_of {X : Cx} {W : WX} (tk : Takes X W) {cls : Value} {d : Option Addr} {σ : L2.St} {H : Hp} (h : W cls d σ H) : wOf X cls d σ H := fun u s' ⟨a, B, sI, pins, σ', H', cls', d', e, I, nb, up, sky, na, os, ag, e1, e2, e3, e4⟩ => by
  subst e1 e2 e3 e4
  exact tk u s' ⟨a, B, sI, pins, _, _, _, _, e, I, nb, up, sky, na, os, ag, h⟩
/-- an error's own dict -/
def XDen (K : PySem.W.Frag) (F : Hp) (o : Option (Str × D)) (dd : Option Addr) : Prop := match o with
  | none => dd = none
  | some (f, d) => ∃ a v, dd = some a ∧ F a = some (.xd [(f, v)]) ∧ Den K F v d
theorem XDen.mono {K : PySem.W.Frag} {F F' : Hp} {o : Option (Str × D)} {dd : Option Addr} (h : XDen K F o dd) (e : Same F F') : XDen K F' o dd := by
  cases o with
  | none => exact h
  | some x =>
    obtain ⟨a, v, h1, h2, h3⟩ := h
    exact ⟨a, v, h1, e _ _ h2, h3.mono e⟩
structure EndsD where
  nx : SL → Prop
  rt : Rv → SL → Prop
  bk : SL → Prop := fun _ => False
  ct : SL → Prop := fun _ => False
  xc : WXD := fun _ _ _ => False
abbrev TSD := EndsD → SL → Prop
inductive OpDens (K : PySem.W.Frag) (F : Hp) (σ : L2.St) : List V → List Op → Prop
  | nil : OpDens K F σ [] []
  | cons {v : V} {vs : List V} {o : Op} {os : List Op} : OpDen K F σ v o → OpDens K F σ vs os → OpDens K F σ (v :: vs) (o :: os)
theorem OpDens.mono {K : PySem.W.Frag} {F F' : Hp} {σ : L2.St} {vs : List V} {os : List Op} (h : OpDens K F σ vs os) (e : Same F F') : OpDens K F' σ vs os := by
  induction h with
  | nil => exact .nil
  | cons a _ ih => exact .cons (a.mono e) ih

structure DE (X : Cx) (e : Expr) (te : TE) (t : TD) : Prop where
  pe : PE X e te
  sem : ∀ {G : Cd} {σ : L2.St} {H F : Hp} {ρ : SL} {Q : VK} {Qd : Rv → SL → Prop}, Rep X.K G σ H F ρ → t ρ Qd →
    (∀ r ρ' v H' F', Qd r ρ' → Same F F' → Rep X.K G σ H' F' ρ' → RDen X.K G σ ρ' H' F' v r → Q v H') → te σ H Q
structure DO (X : Cx) (e : Expr) (te : TE) (t : TQ) : Prop where
  pe : PE X e te
  sem : ∀ {G : Cd} {σ : L2.St} {H F : Hp} {ρ : SL} {Q : VK} {Qd : Op → SL → Prop}, Rep X.K G σ H F ρ → t ρ Qd →
    (∀ o ρ' v H' F', Qd o ρ' → Same F F' → Rep X.K G σ H' F' ρ' → OpDen X.K F' σ v o → Q v H') → te σ H Q
structure DT (X : Cx) (e : Expr) (te : TT) (t : TB) : Prop where
  pe : PT X e te
  sem : ∀ {G : Cd} {σ : L2.St} {H F : Hp} {ρ : SL} {Q : Bool → Hp → Prop} {Qd : Bool → SL → Prop}, Rep X.K G σ H F ρ → t ρ Qd →
    (∀ b ρ' H' F', Qd b ρ' → Same F F' → Rep X.K G σ H' F' ρ' → Q b H') → te σ H Q
/-- a test within and, or -/
structure DW (X : Cx) (e : Expr) (te : TT) (t : TB) : Prop where
  pe : PW X e te
  sem : ∀ {G : Cd} {σ : L2.St} {H F : Hp} {ρ : SL} {Q : Bool → Hp → Prop} {Qd : Bool → SL → Prop}, Rep X.K G σ H F ρ → t ρ Qd →
    (∀ b ρ' H' F', Qd b ρ' → Same F F' → Rep X.K G σ H' F' ρ' → Q b H') → te σ H Q
structure DA (X : Cx) (es : List Expr) (ta : TA) (t : TAs) : Prop where
  pe : PA X es ta
  sem : ∀ {G : Cd} {σ : L2.St} {H F : Hp} {ρ : SL} {Q : List V → Hp → Prop} {Qd : List Op → SL → Prop}, Rep X.K G σ H F ρ → t ρ Qd →
    (∀ os ρ' vs H' F', Qd os ρ' → Same F F' → Rep X.K G σ H' F' ρ' → OpDens X.K F' σ vs os → Q vs H') → ta σ H Q
/-- what is wanted behind a statement, told over data -/
structure Link (X : Cx) (G : Cd) (D : Ends) (E : EndsD) : Prop where
  nx : ∀ σ H F ρ, E.nx ρ → Rep X.K G σ H F ρ → D.nx σ H
  rt : ∀ σ H F ρ r v, E.rt r ρ → Rep X.K G σ H F ρ → RDen X.K G σ ρ H F v r → D.rt v H
  bk : ∀ σ H F ρ, E.bk ρ → Rep X.K G σ H F ρ → D.bk σ H
  ct : ∀ σ H F ρ, E.ct ρ → Rep X.K G σ H F ρ → D.ct σ H
  xc : ∀ σ H F ρ C o dd, E.xc C o ρ → Rep X.K G σ H F ρ → XDen X.K F o dd → wOf X (.ref C) dd σ H
structure DS (X : Cx) (st : Stmt) (ts : TS) (t : TSD) : Prop where
  pe : PS X st ts
  sem : ∀ {G : Cd} {σ : L2.St} {H F : Hp} {ρ : SL} {D : Ends} {E : EndsD}, Rep X.K G σ H F ρ → t E ρ → Link X G D E → ts D σ H
structure DSs (X : Cx) (st : List Stmt) (ts : TS) (t : TSD) : Prop where
  pe : PSs X st ts
  sem : ∀ {G : Cd} {σ : L2.St} {H F : Hp} {ρ : SL} {D : Ends} {E : EndsD}, Rep X.K G σ H F ρ → t E ρ → Link X G D E → ts D σ H

section
variable {X : Cx}
/-! ### constants, names -/
def dC (d : D) : TD := fun ρ Q => Q (.v d) ρ
theorem de_int {i j pos} : DE X (.Constant (.int i) j pos) (tC (.int i)) (dC (.int i)) := ⟨pe_int, fun R h k => k _ _ _ _ _ h (Same.refl _) R (.int i)⟩
theorem de_bl {i j pos} : DE X (.Constant (.bool i) j pos) (tC (.bl i)) (dC (.bl i)) := ⟨pe_bl, fun R h k => k _ _ _ _ _ h (Same.refl _) R (.bl i)⟩
theorem de_non {j pos} : DE X (.Constant .none j pos) (tC .non) (dC .non) := ⟨pe_non, fun R h k => k _ _ _ _ _ h (Same.refl _) R .non⟩
theorem de_str {i j pos} (hi : PyData.strOk i = true := by decide +kernel) : DE X (.Constant (.str i) j pos) (tC (.str i)) (dC (.str i)) := ⟨pe_str, fun R h k => k _ _ _ _ _ h (Same.refl _) R (.str i hi)⟩
def dVar (i : Nat) : TD := fun ρ Q => match ρ[i]? with
  | some (.sh d) => Q (.v d) ρ
  | some (.ow c) => Q (.v c.dat) (ρ.set i (.sh c.dat))
  | _ => False
def dTake (i : Nat) : TD := fun ρ Q => match ρ[i]? with
  | some (.sh d) => Q (.v d) ρ
  | some (.ow c) => Q (.fr c) (ρ.set i .un)
  | _ => False
def qVar (i : Nat) : TQ := fun ρ Q => match (Op.at i).get ρ with
  | some _ => Q (.at i) ρ
  | none => False
theorem de_var {i : Nat} {x : Str} {pos : Pos} (h : PE X (.Name x pos) (tVar i)) : DE X (.Name x pos) (tVar i) (dVar i) := by
  refine ⟨h, fun {G σ H F ρ Q Qd} R h k => ?_⟩
  unfold dVar at h
  cases q : ρ[i]? with
  | none => rw [q] at h; exact h.elim
  | some s =>
    rw [q] at h
    cases s with
    | un => exact h.elim
    | pl _ => exact h.elim
    | sh d =>
      obtain ⟨v, a, b⟩ := R.sh i d q
      exact ⟨v, a, k _ _ _ _ _ h (Same.refl _) R b⟩
    | ow c =>
      obtain ⟨F', v, s1, a, b, R1⟩ := R.freeze q
      exact ⟨v, a, k _ _ _ _ _ h s1 R1 b⟩
    | bw j c => exact h.elim
theorem de_take {i : Nat} {x : Str} {pos : Pos} (h : PE X (.Name x pos) (tVar i)) : DE X (.Name x pos) (tVar i) (dTake i) := by
  refine ⟨h, fun {G σ H F ρ Q Qd} R h k => ?_⟩
  unfold dTake at h
  cases q : ρ[i]? with
  | none => rw [q] at h; exact h.elim
  | some s =>
    rw [q] at h
    cases s with
    | un => exact h.elim
    | pl _ => exact h.elim
    | sh d =>
      obtain ⟨v, a, b⟩ := R.sh i d q
      exact ⟨v, a, k _ _ _ _ _ h (Same.refl _) R b⟩
    | ow c =>
      obtain ⟨p, a, _⟩ := R.ow i c q
      obtain ⟨R1, hd⟩ := R.take q a
      exact ⟨_, a, k _ _ _ _ _ h (Same.refl _) R1 hd⟩
    | bw j c => exact h.elim
theorem do_var {i : Nat} {x : Str} {pos : Pos} (h : PE X (.Name x pos) (tVar i)) : DO X (.Name x pos) (tVar i) (qVar i) := by
  refine ⟨h, fun {G σ H F ρ Q Qd} R h k => ?_⟩
  cases q : ρ[i]? with
  | none => simp only [qVar, Op.get, q] at h
  | some s =>
    simp only [qVar, Op.get, q] at h
    cases s with
    | un => exact h.elim
    | pl _ => exact h.elim
    | sh d =>
      obtain ⟨v, a, b⟩ := R.sh i d q
      exact ⟨v, a, k _ _ _ _ _ h (Same.refl _) R a⟩
    | ow c =>
      obtain ⟨v, a, b⟩ := R.ow i c q
      exact ⟨_, a, k _ _ _ _ _ h (Same.refl _) R a⟩
    | bw j c =>
      obtain ⟨v, a, b⟩ := R.bw i j c q
      exact ⟨_, a, k _ _ _ _ _ h (Same.refl _) R a⟩
/-- an expression as an operand -/
def qE (t : TD) : TQ := fun ρ Q => t ρ fun r ρ' => Q (.now r.dat) ρ'
theorem do_e {e : Expr} {te : TE} {t : TD} (h : DE X e te t) : DO X e te (qE t) :=
  ⟨h.pe, fun R q k => h.sem R q fun r ρ' v H' F' qd s1 R1 rd => by
    obtain ⟨F2, s2, R2, d2⟩ := R1.share rd
    exact k _ _ _ _ _ qd (s1.trans s2) R2 d2⟩
/-! ### arguments -/
def aNil : TAs := fun ρ Q => Q [] ρ
def aCons (t : TQ) (u : TAs) : TAs := fun ρ Q => t ρ fun o ρ1 => u ρ1 fun os ρ2 => Q (o :: os) ρ2
theorem da_nil : DA X [] tNil aNil := ⟨pa_nil, fun R h k => k _ _ _ _ _ h (Same.refl _) R .nil⟩
theorem da_cons {e : Expr} {es : List Expr} {te : TE} {ta : TA} {t : TQ} {u : TAs} (h : DO X e te t) (r : DA X es ta u) (hs : starEach (e :: es) X.env = (false, eval e X.env) :: starEach es X.env := by rfl) :
    DA X (e :: es) (tCons te ta) (aCons t u) :=
  ⟨pa_cons h.pe r.pe hs, fun R q k => h.sem R q fun o ρ1 v H1 F1 q1 s1 R1 d1 => r.sem R1 q1 fun os ρ2 vs H2 F2 q2 s2 R2 d2 =>
    k _ _ _ _ _ q2 (s1.trans s2) R2 (.cons (d1.mono s2) d2)⟩
/-- all arguments as data, at the end -/
def gets (ρ : SL) : List Op → Option (List D)
  | [] => some []
  | o :: os => match o.get ρ, gets ρ os with
    | some d, some ds => some (d :: ds)
    | _, _ => none
inductive Pks (K : PySem.W.Frag) (F H : Hp) : List V → List D → Prop
  | nil : Pks K F H [] []
  | cons {v : V} {vs : List V} {d : D} {ds : List D} : Pk K F H v d → Pks K F H vs ds → Pks K F H (v :: vs) (d :: ds)
theorem OpDens.pks {K : PySem.W.Frag} {G : Cd} {σ : L2.St} {H F : Hp} {ρ : SL} (R : Rep K G σ H F ρ) : ∀ {vs : List V} {os : List Op} {ds : List D}, OpDens K F σ vs os → gets ρ os = some ds → Pks K F H vs ds
  | _, _, _, .nil, e => by cases e; exact .nil
  | _, _, ds, .cons (o := o) (os := os) a b, e => by
    unfold gets at e
    cases q : o.get ρ with
    | none => rw [q] at e; cases e
    | some d =>
      rw [q] at e
      cases q2 : gets ρ os with
      | none => rw [q2] at e; cases e
      | some ds' =>
        rw [q2] at e
        cases e
        exact .cons (a.pk R q) (b.pks R q2)
/-! ### operations on values -/
def SemOp (K : PySem.W.Frag) (r : R2) (g : D → D → (Rv → Prop) → Prop) : Prop :=
  ∀ {G : Cd} {σ : L2.St} {H F : Hp} {ρ : SL} {x y : V} {a b : D} {Q : VK} {Qd : Rv → Prop}, Rep K G σ H F ρ → Pk K F H x a → Pk K F H y b → g a b Qd →
    (∀ rv z H' F', Qd rv → Same F F' → Rep K G σ H' F' ρ → RDen K G σ ρ H' F' z rv → Q z H') → r x y H Q
def SemUn (K : PySem.W.Frag) (r : V → Hp → VK → Prop) (g : D → (Rv → Prop) → Prop) : Prop :=
  ∀ {G : Cd} {σ : L2.St} {H F : Hp} {ρ : SL} {x : V} {a : D} {Q : VK} {Qd : Rv → Prop}, Rep K G σ H F ρ → Pk K F H x a → g a Qd →
    (∀ rv z H' F', Qd rv → Same F F' → Rep K G σ H' F' ρ → RDen K G σ ρ H' F' z rv → Q z H') → r x H Q
def SemCall (K : PySem.W.Frag) (r : List V → Hp → VK → Prop) (g : List D → (Rv → Prop) → Prop) : Prop :=
  ∀ {G : Cd} {σ : L2.St} {H F : Hp} {ρ : SL} {xs : List V} {as : List D} {Q : VK} {Qd : Rv → Prop}, Rep K G σ H F ρ → Pks K F H xs as → g as Qd →
    (∀ rv z H' F', Qd rv → Same F F' → Rep K G σ H' F' ρ → RDen K G σ ρ H' F' z rv → Q z H') → r xs H Q
def dOp (g : D → D → (Rv → Prop) → Prop) (ta tb : TQ) : TD := fun ρ Q => ta ρ fun oa ρ1 => tb ρ1 fun ob ρ2 => match oa.get ρ2, ob.get ρ2 with
  | some a, some b => g a b fun r => Q r ρ2
  | _, _ => False
def dUn (g : D → (Rv → Prop) → Prop) (ta : TQ) : TD := fun ρ Q => ta ρ fun oa ρ1 => match oa.get ρ1 with
  | some a => g a fun r => Q r ρ1
  | _ => False
def dCallB (g : List D → (Rv → Prop) → Prop) (ta : TAs) : TD := fun ρ Q => ta ρ fun os ρ1 => match gets ρ1 os with
  | some as => g as fun r => Q r ρ1
  | _ => False
theorem sem_op {r : R2} {g : D → D → (Rv → Prop) → Prop} {ta tb : TE} {a b : Expr} {da db : TQ} (hg : SemOp X.K r g) (ha : DO X a ta da) (hb : DO X b tb db)
    {G : Cd} {σ : L2.St} {H F : Hp} {ρ : SL} {Q : VK} {Qd : Rv → SL → Prop} (R : Rep X.K G σ H F ρ) (q : dOp g da db ρ Qd)
    (k : ∀ r ρ' v H' F', Qd r ρ' → Same F F' → Rep X.K G σ H' F' ρ' → RDen X.K G σ ρ' H' F' v r → Q v H') : tOp r ta tb σ H Q := by
  refine ha.sem R q fun oa ρ1 v H1 F1 q1 s1 R1 d1 => ?_
  refine hb.sem R1 q1 fun ob ρ2 u H2 F2 q2 s2 R2 d2 => ?_
  cases ea : oa.get ρ2 with
  | none => rw [ea] at q2; exact q2.elim
  | some x =>
    cases eb : ob.get ρ2 with
    | none => rw [ea, eb] at q2; exact q2.elim
    | some y =>
      rw [ea, eb] at q2
      exact hg R2 ((d1.mono s2).pk R2 ea) (d2.pk R2 eb) q2 fun rv z H' F' qd s3 R3 rd => k _ _ _ _ _ qd (s1.trans (s2.trans s3)) R3 rd
theorem de_op {op : Operator} {r : R2} {g : D → D → (Rv → Prop) → Prop} {ta tb : TE} {a b : Expr} {da db : TQ} {pos : Pos} (ho : OpR X (binaryOp op) r) (hg : SemOp X.K r g) (ha : DO X a ta da) (hb : DO X b tb db) :
    DE X (.BinOp a op b pos) (tOp r ta tb) (dOp g da db) := ⟨pe_op ho ha.pe hb.pe, fun R q k => sem_op hg ha hb R q k⟩
theorem de_cmp {op : CmpOp} {r : R2} {g : D → D → (Rv → Prop) → Prop} {ta tb : TE} {a b : Expr} {da db : TQ} {pos : Pos} (ho : OpR X (compareOp op) r) (hg : SemOp X.K r g) (ha : DO X a ta da) (hb : DO X b tb db)
    (hm : behindInMarks op b = false) : DE X (.Compare a [op] [b] pos) (tOp r ta tb) (dOp g da db) := ⟨pe_cmpR ho ha.pe hb.pe hm, fun R q k => sem_op hg ha hb R q k⟩
theorem de_un {op : UnaryOp} {r : V → Hp → VK → Prop} {g : D → (Rv → Prop) → Prop} {ta : TE} {a : Expr} {da : TQ} {pos : Pos} (ho : UnR X (unaryOp op) r) (hg : SemUn X.K r g) (ha : DO X a ta da) :
    DE X (.UnaryOp op a pos) (tUn r ta) (dUn g da) := by
  refine ⟨pe_un ho ha.pe, fun R q k => ?_⟩
  refine ha.sem R q fun oa ρ1 v H1 F1 q1 s1 R1 d1 => ?_
  cases ea : oa.get ρ1 with
  | none => rw [ea] at q1; exact q1.elim
  | some x =>
    rw [ea] at q1
    exact hg R1 (d1.pk R1 ea) q1 fun rv z H' F' qd s3 R3 rd => k _ _ _ _ _ qd (s1.trans s3) R3 rd
theorem sem_callB {r : List V → Hp → VK → Prop} {g : List D → (Rv → Prop) → Prop} {ta : TA} {es : List Expr} {da : TAs} (hg : SemCall X.K r g) (ha : DA X es ta da)
    {G : Cd} {σ : L2.St} {H F : Hp} {ρ : SL} {Q : VK} {Qd : Rv → SL → Prop} (R : Rep X.K G σ H F ρ) (q : dCallB g da ρ Qd)
    (k : ∀ r ρ' v H' F', Qd r ρ' → Same F F' → Rep X.K G σ H' F' ρ' → RDen X.K G σ ρ' H' F' v r → Q v H') : tCB r ta σ H Q := by
  refine ha.sem R q fun os ρ1 vs H1 F1 q1 s1 R1 d1 => ?_
  cases ea : gets ρ1 os with
  | none => rw [ea] at q1; exact q1.elim
  | some as =>
    rw [ea] at q1
    exact hg R1 (d1.pks R1 ea) q1 fun rv z H' F' qd s3 R3 rd => k _ _ _ _ _ qd (s1.trans s3) R3 rd
theorem de_callB {id : String} {x : Str} {p pos : Pos} {r : List V → Hp → VK → Prop} {g : List D → (Rv → Prop) → Prop} {ta : TA} {e : Expr} {es : List Expr} {da : TAs} (hc : CallR X (.builtin id) r) (hG : SemCall X.K r g)
    (hg : Gl X x) (hm : X.mg x = none) (hv : bootBuiltins x = some (.builtin id)) (ha : DA X (e :: es) ta da) (hn : x ≠ "__name__" := by decide) (hdb : (x == ("__debug__" : Str)) = false := by decide)
    (he : starEach (e :: es) X.env = (false, eval e X.env) :: starEach es X.env := by rfl) (hpl : (backTo pos (starEach es X.env)).any (·.1) = false := by rfl) : DE X (.Call (.Name x p) (e :: es) [] pos) (tCB r ta) (dCallB g da) :=
  ⟨pe_callB hc hg hm hv ha.pe hn hdb he hpl, fun R q k => sem_callB hG ha R q k⟩
theorem de_callTy {T : String} {x : Str} {p pos : Pos} {r : List V → Hp → VK → Prop} {g : List D → (Rv → Prop) → Prop} {ta : TA} {e : Expr} {es : List Expr} {da : TAs} (hc : CallR X (.type T) r) (hG : SemCall X.K r g)
    (hg : Gl X x) (hm : X.mg x = none) (hv : bootBuiltins x = some (.type T)) (ha : DA X (e :: es) ta da) (hn : x ≠ "__name__" := by decide) (hdb : (x == ("__debug__" : Str)) = false := by decide)
    (he : starEach (e :: es) X.env = (false, eval e X.env) :: starEach es X.env := by rfl) (hpl : (backTo pos (starEach es X.env)).any (·.1) = false := by rfl) : DE X (.Call (.Name x p) (e :: es) [] pos) (tCB r ta) (dCallB g da) :=
  ⟨pe_callTy hc hg hm hv ha.pe hn hdb he hpl, fun R q k => sem_callB hG ha R q k⟩
end
end DL
namespace DL
open PySem L2
section
variable {X : Cx}
/-! ### operators -/
theorem strOk_iff {x : Str} : PyData.strOk x = true ↔ ∀ c ∈ x.cps.toList, c < 0x110000 := by
  unfold PyData.strOk
  rw [← Array.all_toList, List.all_eq_true]
  constructor
  · intro h c hc
    exact of_decide_eq_true (h c hc)
  · intro h c hc
    exact decide_eq_true (h c hc)
theorem Str.append_list (x y : Str) : (x ++ y).cps.toList = x.cps.toList ++ y.cps.toList := by
  show (Str.append x y).cps.toList = _
  simp [Str.append]
theorem strOk_append {x y : Str} (h1 : PyData.strOk x = true) (h2 : PyData.strOk y = true) : PyData.strOk (x ++ y) = true := by
  rw [strOk_iff] at *
  intro c hc
  rw [Str.append_list] at hc
  rcases List.mem_append.mp hc with h | h
  · exact h1 c h
  · exact h2 c h
/-- text * int -/
def Str.reps (x : Str) (n : Nat) : Str := ⟨(List.replicate n x.cps.toList).flatten.toArray⟩
theorem strOk_reps {x : Str} (h1 : PyData.strOk x = true) (n : Nat) : PyData.strOk (Str.reps x n) = true := by
  rw [strOk_iff] at *
  intro c hc
  have hc' : c ∈ (List.replicate n x.cps.toList).flatten := by simpa [Str.reps] using hc
  obtain ⟨l, hl, hc2⟩ := List.mem_flatten.mp hc'
  rw [List.eq_of_mem_replicate hl] at hc2
  exact h1 c hc2
def gAdd : D → D → (Rv → Prop) → Prop
  | .int i, .int j => fun Q => Q (.v (.int (i + j)))
  | .str x, .str y => fun Q => x.length + y.length ≤ sizeLine ∧ Q (.v (.str (x ++ y)))
  | .lst xs, .lst ys => fun Q => xs.length + ys.length ≤ sizeLine ∧ Q (.fr (.l (xs ++ ys)))
  | _, _ => fun _ => False
def rAddA : R2 := fun x y H Q => rI0 (fun i j => .int (i + j)) x y H Q ∨ ((∃ i j, x = .str i ∧ y = .str j ∧ i.length + j.length ≤ sizeLine ∧ Q (.str (i ++ j)) H) ∨ rCat x y H Q)
theorem op_addA : OpR X (binaryOp .Add) rAddA := op_add.or (op_add_str.or op_cat)
theorem sem_addA : SemOp X.K rAddA gAdd := by
  intro G σ H F ρ x y a b Q Qd R ha hb h k
  unfold gAdd at h
  split at h
  · cases ha.int; cases hb.int
    exact .inl ⟨_, _, rfl, rfl, k _ _ _ _ h (Same.refl _) R (.int _)⟩
  · have o1 := ha.strOk
    have o2 := hb.strOk
    cases ha.str; cases hb.str
    exact .inr (.inl ⟨_, _, rfl, rfl, h.1, k _ _ _ _ h.2 (Same.refl _) R (.str _ (strOk_append o1 o2))⟩)
  · obtain ⟨p, xs, rfl, h1, d1⟩ := ha.lst R.ext
    obtain ⟨q, ys, rfl, h2, d2⟩ := hb.lst R.ext
    refine .inr (.inr ⟨p, q, xs, ys, rfl, rfl, h1, h2, by rw [d1.length, d2.length]; exact h.1, fun a ha => ?_⟩)
    obtain ⟨R1, rd⟩ := R.allocFr ha (c := .l _) ⟨_, upd_same, d1.append d2⟩
    exact k _ _ _ _ h.2 (Same.refl _) R1 rd
  · exact h.elim
def gSubI : D → D → (Rv → Prop) → Prop
  | .int i, .int j => fun Q => Q (.v (.int (i - j)))
  | _, _ => fun _ => False
theorem sem_sub : SemOp X.K (rI0 fun i j => .int (i - j)) gSubI := by
  intro G σ H F ρ x y a b Q Qd R ha hb h k
  unfold gSubI at h
  split at h
  · cases ha.int; cases hb.int
    exact ⟨_, _, rfl, rfl, k _ _ _ _ h (Same.refl _) R (.int _)⟩
  · exact h.elim
def rRepS : R2 := fun x y H Q => ∃ (z : Str) (n : Int), x = .str z ∧ y = .int n ∧ -(2 ^ 63) ≤ n ∧ z.length * n.toNat ≤ sizeLine ∧ n ≤ sizeLine ∧ Q (.str (Str.reps z n.toNat)) H
theorem foldl_arr (x : Array Nat) : ∀ (n : Nat) (acc : Array Nat), ((List.replicate n x).foldl (· ++ ·) acc) = acc ++ (List.replicate n x.toList).flatten.toArray
  | 0, acc => by simp
  | n + 1, acc => by
    rw [List.replicate_succ, List.foldl_cons, foldl_arr x n, List.replicate_succ, List.flatten_cons, ← List.append_toArray, ← Array.append_assoc]
theorem op_repS : OpR X (binaryOp .Mult) rRepS := by
  intro pins s σ H x y v u Q I rx ry h
  obtain ⟨z, n, rfl, rfl, hlo, hz, hn, q⟩ := h
  obtain ⟨t, rfl⟩ := rx
  obtain ⟨t', rfl⟩ := ry
  have hs : (sizeLine : Int) < 2 ^ 63 := by rw [sizeLine_eq]; decide
  refine PySem.P.mul_str (by rw [decide_eq_false (by omega), decide_eq_false (by omega)]; rfl) (fun h1 _ => ?_) (fun h1 _ => ?_) ?_
  · have hp : (0 : Int) < n := by omega
    intro hc
    have h3 : (z.length : Int) * n ≤ sizeLine := by
      have : (z.length : Int) * n = ((z.length * n.toNat : Nat) : Int) := by
        rw [Int.natCast_mul, Int.toNat_of_nonneg (by omega)]
      rw [this]; exact_mod_cast hz
    have h4 : (2 ^ 63 - 1) / n * n ≤ 2 ^ 63 - 1 := Int.ediv_mul_le _ (by omega)
    have h5 : ((2 ^ 63 - 1) / n + 1) * n ≤ (z.length : Int) * n := Int.mul_le_mul_of_nonneg_right (by omega) (by omega)
    have h6 : 2 ^ 63 - 1 < ((2 ^ 63 - 1) / n + 1) * n := Int.lt_ediv_add_one_mul_self _ hp
    omega
  · unfold Builtin.Str.tooLong
    exact decide_eq_false (by omega)
  · by_cases h1 : n < 1
    · rw [if_pos h1]
      have e : n.toNat = 0 := by omega
      rw [e] at q
      exact ⟨by decide, .str _, H, I.tok _, ⟨_, rfl⟩, q⟩
    · rw [if_neg h1]
      by_cases h2 : (n == 1 || z.length == 0) = true
      · rw [if_pos h2]
        have e : Str.reps z n.toNat = z := by
          unfold Str.reps
          rcases Bool.or_eq_true_iff.mp h2 with h3 | h3
          · have : n = 1 := by simpa using h3
            subst this
            simp
          · have h4 : z.cps.size = 0 := by simpa [Str.length] using h3
            have h5 : z.cps = #[] := Array.eq_empty_of_size_eq_zero h4
            obtain ⟨c⟩ := z
            have h6 : c = #[] := h5
            subst h6
            simp
        rw [e] at q
        exact ⟨.str _, H, I, ⟨_, rfl⟩, q⟩
      · rw [if_neg h2]
        refine ⟨?_, .str _, H, I.tok _, ⟨_, rfl⟩, ?_⟩
        · show Str.length _ ≤ sizeLine
          rw [foldl_arr]
          simp only [Str.length]
          simp
          rw [Nat.mul_comm]
          exact hz
        · rw [foldl_arr]
          simpa [Str.reps] using q
def gMul : D → D → (Rv → Prop) → Prop
  | .int i, .int j => fun Q => CMulW i j ∧ Q (.v (.int (i * j)))
  | .str x, .int j => fun Q => -(2 ^ 63) ≤ j ∧ x.length * j.toNat ≤ sizeLine ∧ j ≤ sizeLine ∧ Q (.v (.str (Str.reps x j.toNat)))
  | .lst xs, .int j => fun Q => -(2 ^ 63) ≤ j ∧ j < 2 ^ 63 ∧ xs.length * j.toNat ≤ sizeLine ∧ Q (.fr (.l (List.replicate j.toNat xs).flatten))
  | _, _ => fun _ => False
def rMulA : R2 := fun x y H Q => rI CMulW (fun i j => .int (i * j)) x y H Q ∨ (rRepS x y H Q ∨ rRep x y H Q)
theorem op_mulA : OpR X (binaryOp .Mult) rMulA := op_mulW.or (op_repS.or op_rep)
theorem sem_mulA : SemOp X.K rMulA gMul := by
  intro G σ H F ρ x y a b Q Qd R ha hb h k
  unfold gMul at h
  split at h
  · cases ha.int; cases hb.int
    exact .inl ⟨_, _, rfl, rfl, h.1, k _ _ _ _ h.2 (Same.refl _) R (.int _)⟩
  · have o1 := ha.strOk
    cases ha.str; cases hb.int
    exact .inr (.inl ⟨_, _, rfl, rfl, h.1, h.2.1, h.2.2.1, k _ _ _ _ h.2.2.2 (Same.refl _) R (.str _ (strOk_reps o1 _))⟩)
  · obtain ⟨p, xs, rfl, h1, d1⟩ := ha.lst R.ext
    cases hb.int
    refine .inr (.inr ⟨p, _, xs, rfl, rfl, h1, h.1, h.2.1, by rw [d1.length]; exact h.2.2.1, fun a ha => ?_⟩)
    obtain ⟨R1, rd⟩ := R.allocFr ha (c := .l _) ⟨_, upd_same, d1.repl _⟩
    exact k _ _ _ _ h.2.2.2 (Same.refl _) R1 rd
  · exact h.elim
def gDiv : D → D → (Rv → Prop) → Prop
  | .int i, .int j => fun Q => CDivW i j ∧ Q (.v (.int (i / j)))
  | _, _ => fun _ => False
theorem sem_div : SemOp X.K (rI CDivW fun i j => .int (i / j)) gDiv := by
  intro G σ H F ρ x y a b Q Qd R ha hb h k
  unfold gDiv at h
  split at h
  · cases ha.int; cases hb.int
    exact ⟨_, _, rfl, rfl, h.1, k _ _ _ _ h.2 (Same.refl _) R (.int _)⟩
  · exact h.elim
def gMod : D → D → (Rv → Prop) → Prop
  | .int i, .int j => fun Q => 0 < j ∧ Q (.v (.int (i % j)))
  | _, _ => fun _ => False
theorem sem_mod : SemOp X.K (rI (fun _ j => 0 < j) fun i j => .int (i % j)) gMod := by
  intro G σ H F ρ x y a b Q Qd R ha hb h k
  unfold gMod at h
  split at h
  · cases ha.int; cases hb.int
    exact ⟨_, _, rfl, rfl, h.1, k _ _ _ _ h.2 (Same.refl _) R (.int _)⟩
  · exact h.elim
def gPow : D → D → (Rv → Prop) → Prop
  | .int i, .int j => fun Q => CPow i j ∧ Q (.v (.int (i ^ j.toNat)))
  | _, _ => fun _ => False
theorem sem_pow : SemOp X.K (rI CPow fun i j => .int (i ^ j.toNat)) gPow := by
  intro G σ H F ρ x y a b Q Qd R ha hb h k
  unfold gPow at h
  split at h
  · cases ha.int; cases hb.int
    exact ⟨_, _, rfl, rfl, h.1, k _ _ _ _ h.2 (Same.refl _) R (.int _)⟩
  · exact h.elim
def gNeg : D → (Rv → Prop) → Prop
  | .int i => fun Q => Q (.v (.int (-i)))
  | _ => fun _ => False
theorem sem_neg : SemUn X.K (rU fun i => .int (-i)) gNeg := by
  intro G σ H F ρ x a Q Qd R ha h k
  unfold gNeg at h
  split at h
  · cases ha.int
    exact ⟨_, rfl, k _ _ _ _ h (Same.refl _) R (.int _)⟩
  · exact h.elim
/-! ### comparisons of ints -/
def gCmpI (p : Int → Int → Bool) : D → D → (Rv → Prop) → Prop
  | .int i, .int j => fun Q => Q (.v (.bl (p i j)))
  | _, _ => fun _ => False
theorem sem_cmpI {p : Int → Int → Bool} : SemOp X.K (rI0 fun i j => .bl (p i j)) (gCmpI p) := by
  intro G σ H F ρ x y a b Q Qd R ha hb h k
  unfold gCmpI at h
  split at h
  · cases ha.int; cases hb.int
    exact ⟨_, _, rfl, rfl, k _ _ _ _ h (Same.refl _) R (.bl _)⟩
  · exact h.elim
end
/-! ### equality -/
mutual
/-- plain data, of nesting at most n -/
def D.fit : Nat → D → Bool
  | _, .non => true
  | _, .bl _ => true
  | _, .int _ => true
  | _, .str _ => true
  | 0, .lst _ => false
  | 0, .tup _ => false
  | n + 1, .lst l => D.fits n l
  | n + 1, .tup l => D.fits n l
  | _, .dct _ => false
  | _, .obj _ _ => false
  | _, .scr _ => false
  | _, .rep _ => false
  | _, .at _ => false
  | _, .exc _ _ _ _ _ => false
  | _, .unk => false
def D.fits : Nat → List D → Bool
  | _, [] => true
  | n, d :: r => D.fit n d && D.fits n r
end
theorem pys_map : ∀ l : List D, D.pys l = l.map D.py
  | [] => by rw [D.pys]; rfl
  | d :: r => by rw [D.pys, pys_map r]; rfl
theorem fits_all {n : Nat} : ∀ l : List D, D.fits n l = l.all (D.fit n)
  | [] => by simp [D.fits]
  | d :: r => by rw [D.fits, fits_all r]; rfl
section
variable {K : PySem.W.Frag} {H : Hp}
mutual
theorem fit_lay : ∀ (n : Nat) (d : D) (v : V), Den K H v d → D.fit n d = true → d.py.canLay0 = true ∧ d.py.depth ≤ n
  | n, .non, _, _, _ => by simp [D.py, PyData.canLay0, PyData.depth]
  | n, .bl _, _, _, _ => by simp [D.py, PyData.canLay0, PyData.depth]
  | n, .int _, _, _, _ => by simp [D.py, PyData.canLay0, PyData.depth]
  | n, .str x, _, hd, h => by
    have h' : PyData.strOk x = true := by cases hd with | str _ a => exact a
    simp [D.py, PyData.canLay0, PyData.depth, h']
  | 0, .lst _, _, _, h => by simp [D.fit] at h
  | 0, .tup _, _, _, h => by simp [D.fit] at h
  | n + 1, .lst l, _, hd, h => by
    rw [D.fit] at h
    cases hd with
    | lst _ b =>
      obtain ⟨h1, h2⟩ := fits_lay n l _ b h
      rw [D.py, PyData.canLay0, PyData.depth]
      exact ⟨h1, by omega⟩
  | n + 1, .tup l, _, hd, h => by
    rw [D.fit] at h
    cases hd with
    | tup _ b =>
      obtain ⟨h1, h2⟩ := fits_lay n l _ b h
      rw [D.py, PyData.canLay0, PyData.depth]
      exact ⟨h1, by omega⟩
  | n, .dct _, _, _, h => by simp [D.fit] at h
  | n, .obj _ _, _, _, h => by simp [D.fit] at h
  | n, .scr _, _, _, h => by simp [D.fit] at h
  | n, .rep _, _, _, h => by simp [D.fit] at h
  | n, .at _, _, _, h => by simp [D.fit] at h
  | n, .exc _ _ _ _ _, _, _, h => by simp [D.fit] at h
  | n, .unk, _, _, h => by simp [D.fit] at h
theorem fits_lay : ∀ (n : Nat) (l : List D) (vs : List V), DenL K H vs l → D.fits n l = true → PyData.canLayAll0 (D.pys l) = true ∧ PyData.depthAll (D.pys l) ≤ n
  | n, [], _, _, _ => by simp [D.pys, PyData.canLayAll0, PyData.depthAll]
  | n, d :: r, _, hd, h => by
    rw [D.fits, Bool.and_eq_true] at h
    cases hd with
    | cons a b =>
      obtain ⟨h1, h2⟩ := fit_lay n d _ a h.1
      obtain ⟨h3, h4⟩ := fits_lay n r _ b h.2
      rw [D.pys, PyData.canLayAll0, PyData.depthAll, h1, h3]
      exact ⟨rfl, by omega⟩
end
theorem shaped_of {d : D} {v : V} (hd : Den K H v d) (h : D.fit 60 d = true) : SeqAt.shaped d.py = true := by
  obtain ⟨h1, h2⟩ := fit_lay 60 d v hd h
  unfold SeqAt.shaped
  rw [h1, decide_eq_true (by omega)]
  rfl
end
section
variable {K : PySem.W.Frag} {H : Hp}
mutual
theorem Den.dp : ∀ {n : Nat} {d : D} {v : V}, Den K H v d → D.fit n d = true → Dp K H v d.py
  | _, .non, _, h, _ => by cases h; rw [D.py]; exact .non
  | _, .bl b, _, h, _ => by cases h; rw [D.py]; exact .bl _
  | _, .int i, _, h, _ => by cases h; rw [D.py]; exact .int _
  | _, .str x, _, h, _ => by cases h; rw [D.py]; exact .str _
  | 0, .lst ds, _, h, e => by simp [D.fit] at e
  | 0, .tup ds, _, h, e => by simp [D.fit] at e
  | n + 1, .lst ds, _, h, e => by
    rw [D.fit] at e
    cases h with
    | lst a b => rw [D.py]; exact .lst (.inl (.inl a)) (DenL.dp b e)
  | n + 1, .tup ds, _, h, e => by
    rw [D.fit] at e
    cases h with
    | tup a b => rw [D.py]; exact .tup (.inl (.inl a)) (DenL.dp b e)
  | _, .dct ds, _, h, e => by simp [D.fit] at e
  | _, .obj C fs, _, h, e => by simp [D.fit] at e
  | _, .scr ns, _, h, e => by simp [D.fit] at e
  | _, .rep ns, _, h, e => by simp [D.fit] at e
  | _, .at ns, _, h, e => by simp [D.fit] at e
  | _, .exc _ _ _ _ _, _, h, e => by simp [D.fit] at e
  | _, .unk, _, h, e => by simp [D.fit] at e
theorem DenL.dp : ∀ {n : Nat} {ds : List D} {vs : List V}, DenL K H vs ds → D.fits n ds = true → DpAll K H vs (D.pys ds)
  | _, [], _, h, _ => by cases h; rw [D.pys]; exact .nil
  | n, d :: ds, _, h, e => by
    rw [D.fits, Bool.and_eq_true] at e
    cases h with
    | cons a b => rw [D.pys]; exact .cons (Den.dp a e.1) (DenL.dp b e.2)
end
end
mutual
def D.eqv : D → D → Bool
  | .non, .non => true
  | .bl a, .bl b => a == b
  | .bl a, .int j => (if a then 1 else 0) == j
  | .int i, .bl b => i == (if b then 1 else 0)
  | .int i, .int j => i == j
  | .str x, .str y => x == y
  | .lst xs, .lst ys => D.eqvs xs ys
  | .tup xs, .tup ys => D.eqvs xs ys
  | _, _ => false
def D.eqvs : List D → List D → Bool
  | [], [] => true
  | x :: xs, y :: ys => D.eqv x y && D.eqvs xs ys
  | _, _ => false
end
mutual
theorem eqv_py : ∀ (a b : D) (n m : Nat), D.fit n a = true → D.fit m b = true → PyData.eqv a.py b.py = D.eqv a b := by
  intro a b n m ha hb
  cases a with
  | non => cases b <;> first | (simp [D.py, D.eqv, PyData.eqv]; done) | (simp [D.fit] at hb; done) | (cases m <;> simp [D.fit] at hb <;> simp [D.py, D.eqv, PyData.eqv])
  | bl x => cases b <;> first | (simp [D.py, D.eqv, PyData.eqv]; done) | (simp [D.fit] at hb; done) | (cases m <;> simp [D.fit] at hb <;> simp [D.py, D.eqv, PyData.eqv])
  | int x => cases b <;> first | (simp [D.py, D.eqv, PyData.eqv]; done) | (simp [D.fit] at hb; done) | (cases m <;> simp [D.fit] at hb <;> simp [D.py, D.eqv, PyData.eqv])
  | str x => cases b <;> first | (simp [D.py, D.eqv, PyData.eqv]; done) | (simp [D.fit] at hb; done) | (cases m <;> simp [D.fit] at hb <;> simp [D.py, D.eqv, PyData.eqv])
  | lst l =>
    cases n with
    | zero => simp [D.fit] at ha
    | succ n =>
      cases b with
      | lst l2 =>
        cases m with
        | zero => simp [D.fit] at hb
        | succ m =>
          rw [D.fit] at ha hb
          rw [D.py, D.py, PyData.eqv, D.eqv]
          exact eqvs_py l l2 n m ha hb
      | dct _ => simp [D.fit] at hb
      | obj _ _ => simp [D.fit] at hb
      | scr _ => simp [D.fit] at hb
      | rep _ => simp [D.fit] at hb
      | «at» _ => simp [D.fit] at hb
      | exc _ _ _ _ _ => simp [D.fit] at hb
      | unk => simp [D.fit] at hb
      | _ => simp [D.py, D.eqv, PyData.eqv]
  | tup l =>
    cases n with
    | zero => simp [D.fit] at ha
    | succ n =>
      cases b with
      | tup l2 =>
        cases m with
        | zero => simp [D.fit] at hb
        | succ m =>
          rw [D.fit] at ha hb
          rw [D.py, D.py, PyData.eqv, D.eqv]
          exact eqvs_py l l2 n m ha hb
      | dct _ => simp [D.fit] at hb
      | obj _ _ => simp [D.fit] at hb
      | scr _ => simp [D.fit] at hb
      | rep _ => simp [D.fit] at hb
      | «at» _ => simp [D.fit] at hb
      | exc _ _ _ _ _ => simp [D.fit] at hb
      | unk => simp [D.fit] at hb
      | _ => simp [D.py, D.eqv, PyData.eqv]
  | dct _ => simp [D.fit] at ha
  | obj _ _ => simp [D.fit] at ha
  | scr _ => simp [D.fit] at ha
  | rep _ => simp [D.fit] at ha
  | «at» _ => simp [D.fit] at ha
  | exc _ _ _ _ _ => simp [D.fit] at ha
  | unk => simp [D.fit] at ha
theorem eqvs_py : ∀ (as bs : List D) (n m : Nat), D.fits n as = true → D.fits m bs = true → PyData.eqvAll (D.pys as) (D.pys bs) = D.eqvs as bs
  | [], [], _, _, _, _ => by simp [D.pys, D.eqvs, PyData.eqvAll]
  | [], _ :: _, _, _, _, _ => by simp [D.pys, D.eqvs, PyData.eqvAll]
  | _ :: _, [], _, _, _, _ => by simp [D.pys, D.eqvs, PyData.eqvAll]
  | a :: as, b :: bs, n, m, ha, hb => by
    rw [D.fits, Bool.and_eq_true] at ha hb
    rw [D.pys, D.pys, D.eqvs, PyData.eqvAll, eqv_py a b n m ha.1 hb.1, eqvs_py as bs n m ha.2 hb.2]
end
section
variable {X : Cx}
def gEqD (f : Bool → Bool) (a b : D) (Q : Rv → Prop) : Prop := D.fit 60 a = true ∧ D.fit 60 b = true ∧ Q (.v (.bl (f (D.eqv a b))))
theorem sem_eqD : SemOp X.K (rEqD X.K) (gEqD id) := by
  intro G σ H F ρ x y a b Q Qd R ha hb h k
  obtain ⟨h1, h2, h⟩ := h
  refine ⟨a.py, b.py, Den.dp (ha.den R.ext) h1, Den.dp (hb.den R.ext) h2, shaped_of (ha.den R.ext) h1, shaped_of (hb.den R.ext) h2, ?_⟩
  rw [eqv_py a b 60 60 h1 h2]
  exact k _ _ _ _ h (Same.refl _) R (.bl _)
theorem sem_neD : SemOp X.K (rNeD X.K) (gEqD not) := by
  intro G σ H F ρ x y a b Q Qd R ha hb h k
  obtain ⟨h1, h2, h⟩ := h
  refine ⟨a.py, b.py, Den.dp (ha.den R.ext) h1, Den.dp (hb.den R.ext) h2, shaped_of (ha.den R.ext) h1, shaped_of (hb.den R.ext) h2, ?_⟩
  rw [eqv_py a b 60 60 h1 h2]
  exact k _ _ _ _ h (Same.refl _) R (.bl _)
theorem Pk.rep {K : PySem.W.Frag} {F H : Hp} {v : V} {d : D} (h : Pk K F H v (.rep d)) : v = .str d.py.shown := by
  rcases h with h | ⟨p, c, rfl, e, _⟩
  · cases h; rfl
  · cases c <;> cases e
/-- == and !=: plain data, or two texts that repr gave -/
def gEq (f : Bool → Bool) : D → D → (Rv → Prop) → Prop
  | .rep a, .rep b => fun Q => Q (.v (.bl (f (decide (a.py.shown = b.py.shown)))))
  | a, b => gEqD f a b
def rEqA (K : PySem.W.Frag) : R2 := fun x y H Q => rEqD K x y H Q ∨ rEq x y H Q
def rNeA (K : PySem.W.Frag) : R2 := fun x y H Q => rNeD K x y H Q ∨ rNe x y H Q
theorem op_eqA (hu : X.A.units + 64 < cLine) : OpR X (compareOp .Eq) (rEqA X.K) := (op_eqD hu).or op_eq
theorem op_neA (hu : X.A.units + 64 < cLine) : OpR X (compareOp .NotEq) (rNeA X.K) := (op_neD hu).or op_ne
theorem dec_strV {x y : Str} : decide (V.str x = V.str y) = decide (x = y) := by
  by_cases h : x = y
  · subst h; simp
  · rw [decide_eq_false h, decide_eq_false fun e => h (V.str.inj e)]
theorem sem_eq : SemOp X.K (rEqA X.K) (gEq id) := by
  intro G σ H F ρ x y a b Q Qd R ha hb h k
  unfold gEq at h
  split at h
  · cases ha.rep; cases hb.rep
    exact .inr ⟨rfl, by rw [dec_strV]; exact k _ _ _ _ h (Same.refl _) R (.bl _)⟩
  · exact .inl (sem_eqD R ha hb h k)
theorem sem_ne : SemOp X.K (rNeA X.K) (gEq not) := by
  intro G σ H F ρ x y a b Q Qd R ha hb h k
  unfold gEq at h
  split at h
  · cases ha.rep; cases hb.rep
    exact .inr ⟨rfl, by rw [dec_strV]; exact k _ _ _ _ h (Same.refl _) R (.bl _)⟩
  · exact .inl (sem_neD R ha hb h k)
end
end DL
namespace DL
open PySem L2
section
variable {K : PySem.W.Frag} {F H : Hp}
theorem atI_len {α β : Type} {xs : List α} {ys : List β} (h : xs.length = ys.length) (i : Int) : ixN xs.length i = ixN ys.length i := by rw [h]
theorem DenL.atI {vs : List V} {ds : List D} {i : Int} {d : D} (h : DenL K F vs ds) (e : L2.atI ds i = some d) : ∃ v, L2.atI vs i = some v ∧ Den K F v d := by
  unfold L2.atI at e ⊢
  rw [h.length]
  cases q : ixN ds.length i with
  | none => rw [q] at e; cases e
  | some j =>
    rw [q] at e
    exact h.get (i := j) e
/-- the items of xs[lo:hi] -/
def cut {α : Type} (xs : List α) (lo hi : Option Int) : List α := (xs.drop (HT.sIx xs.length 0 lo)).take (HT.sIx xs.length xs.length hi - HT.sIx xs.length 0 lo)
theorem DenL.cut {vs : List V} {ds : List D} (h : DenL K F vs ds) (lo hi : Option Int) : DenL K F (cutV vs lo hi) (DL.cut ds lo hi) := by
  unfold cutV DL.cut
  rw [h.length]
  exact (h.drop _).take _
/-! ### dicts -/
def kGet {α : Type} (kvs : List (Key × α)) (k : Key) : Option α := (kvs.find? fun kv => decide (kv.1 = k)).map (·.2)
def kPut {α : Type} (kvs : List (Key × α)) (k : Key) (v : α) : List (Key × α) :=
  if (kvs.any fun kv => decide (kv.1 = k)) = true then kvs.map (fun kv => if kv.1 = k then (kv.1, v) else kv) else kvs ++ [(k, v)]
def kMerge {α : Type} (kvs more : List (Key × α)) : List (Key × α) := more.foldl (fun acc kv => kPut acc kv.1 kv.2) kvs
theorem kGet_cons {α : Type} (a : Key) (x : α) (r : List (Key × α)) (k : Key) : kGet ((a, x) :: r) k = if a = k then some x else kGet r k := by
  unfold kGet
  rw [List.find?_cons]
  by_cases h : a = k
  · simp [h]
  · simp [h]
theorem valV_cons (a : Key) (x : V) (r : List (Key × V)) (k : Key) : valV ((a, x) :: r) k = if a = k then some x else valV r k := by
  unfold valV
  rw [List.find?_cons]
  by_cases h : a = k
  · simp [h]
  · simp [h]
theorem DenK.get : ∀ {vs : List (Key × V)} {ds : List (Key × D)} {k : Key} {d : D}, DenK K F vs ds → kGet ds k = some d → ∃ v, valV vs k = some v ∧ Den K F v d
  | _, _, _, _, .nil, e => by simp [kGet] at e
  | _, _, k, d, .cons (k := a) r _ t, e => by
    rw [kGet_cons] at e
    by_cases q : a = k
    · rw [if_pos q] at e
      cases e
      exact ⟨_, by rw [valV_cons, if_pos q], r⟩
    · rw [if_neg q] at e
      obtain ⟨v, h1, h2⟩ := DenK.get t e
      exact ⟨v, by rw [valV_cons, if_neg q]; exact h1, h2⟩
theorem DenK.isSome : ∀ {vs : List (Key × V)} {ds : List (Key × D)} {k : Key}, DenK K F vs ds → (valV vs k).isSome = (kGet ds k).isSome
  | _, _, _, .nil => rfl
  | _, _, k, .cons (k := a) r _ t => by
    rw [kGet_cons, valV_cons]
    by_cases q : a = k
    · rw [if_pos q, if_pos q]; rfl
    · rw [if_neg q, if_neg q]; exact DenK.isSome t
theorem DenK.any : ∀ {vs : List (Key × V)} {ds : List (Key × D)} {k : Key}, DenK K F vs ds → (vs.any fun kv => decide (kv.1 = k)) = ds.any fun kv => decide (kv.1 = k)
  | _, _, _, .nil => rfl
  | _, _, k, .cons (k := a) r _ t => by rw [List.any_cons, List.any_cons, DenK.any t]
theorem DenK.app : ∀ {vs us : List (Key × V)} {ds es : List (Key × D)}, DenK K F vs ds → DenK K F us es → DenK K F (vs ++ us) (ds ++ es)
  | _, _, _, _, .nil, h => h
  | _, _, _, _, .cons a o t, h => .cons a o (t.app h)
theorem DenK.mapPut {x : V} {d : D} (r : Den K F x d) (k : Key) : ∀ {vs : List (Key × V)} {ds : List (Key × D)}, DenK K F vs ds →
    DenK K F (vs.map fun kv => if kv.1 = k then (kv.1, x) else kv) (ds.map fun kv => if kv.1 = k then (kv.1, d) else kv)
  | _, _, .nil => .nil
  | _, _, .cons (k := a) q o t => by
    rw [List.map_cons, List.map_cons]
    by_cases e : a = k
    · rw [if_pos e, if_pos e]; exact .cons r o (DenK.mapPut r k t)
    · rw [if_neg e, if_neg e]; exact .cons q o (DenK.mapPut r k t)
theorem DenK.put {vs : List (Key × V)} {ds : List (Key × D)} {x : V} {d : D} (h : DenK K F vs ds) (r : Den K F x d) (k : Key) (o : keyOk k) : DenK K F (putK vs k x) (kPut ds k d) := by
  unfold putK kPut
  rw [h.any]
  by_cases e : (ds.any fun kv => decide (kv.1 = k)) = true
  · rw [if_pos e, if_pos e]; exact DenK.mapPut r k h
  · rw [if_neg e, if_neg e]; exact h.app (.cons r o .nil)
theorem DenK.merge : ∀ {us : List (Key × V)} {es : List (Key × D)} {vs : List (Key × V)} {ds : List (Key × D)}, DenK K F us es → DenK K F vs ds → DenK K F (mergeK vs us) (kMerge ds es)
  | [], _, _, _, h0, h => by cases h0; exact h
  | (k, x) :: us, _, vs, ds, h0, h => by
    cases h0 with
    | cons a o t =>
      have := DenK.merge t (h.put a k o)
      simpa [mergeK, kMerge] using this
def D.key : D → Option Key
  | .int i => some (.inl i)
  | .str x => some (.inr x)
  | _ => none
theorem Pk.keyOk {v : V} {d : D} {k : Key} (h : Pk K F H v d) (e : d.key = some k) : DL.keyOk k := by
  cases d with
  | int i => cases e; exact True.intro
  | str x => cases e; exact h.strOk
  | _ => cases e
theorem DenK.oks : ∀ {vs : List (Key × V)} {ds : List (Key × D)}, DenK K F vs ds → ∀ kv ∈ ds, DL.keyOk kv.1
  | _, _, .nil => fun _ m => (List.not_mem_nil m).elim
  | _, _, .cons _ o t => fun kv m => by
    rcases List.mem_cons.mp m with rfl | m
    · exact o
    · exact t.oks kv m
theorem Pk.key {v : V} {d : D} {k : Key} (h : Pk K F H v d) (e : d.key = some k) : v = kV k := by
  cases d with
  | int i => cases e; exact h.int
  | str x => cases e; exact h.str
  | _ => cases e
end
section
variable {X : Cx}
def rDIn : R2 := fun x y H Q => ∃ a o, y = .ref a ∧ DGet H a x o ∧ Q (.bl o.isSome) H
def rDNotIn : R2 := fun x y H Q => ∃ a o, y = .ref a ∧ DGet H a x o ∧ Q (.bl (!o.isSome)) H
theorem op_in_dict (hu : X.A.units + 1 < cLine) : OpR X (compareOp .In) rDIn := by
  intro pins s σ H x y v u Q I rx ry h
  obtain ⟨a, o, rfl, g, q⟩ := h
  cases ry
  exact d_in hu I g rx fun s3 I3 => ⟨.bl o.isSome, H, I3, rfl, q⟩
theorem op_notin_dict (hu : X.A.units + 1 < cLine) : OpR X (compareOp .NotIn) rDNotIn := by
  intro pins s σ H x y v u Q I rx ry h
  obtain ⟨a, o, rfl, g, q⟩ := h
  cases ry
  exact d_notIn hu I g rx fun s3 I3 => ⟨.bl (!o.isSome), H, I3, rfl, q⟩
def rIxD : R2 := fun x y H Q => ∃ a v, x = .ref a ∧ DGet H a y (some v) ∧ Q v H
theorem ix_dict (hu : X.A.units + 1 < cLine) : IxR X rIxD := by
  intro value slice pins s σ H x y v u Q I rx ry h hs
  obtain ⟨a, w, rfl, g, q⟩ := h
  cases rx
  exact PyProof.Rows.tail_any (dict_typeIs I g) PySem.F.slot_dict_getitem.lookup (d_getItem hu I g ry fun w' s3 I3 rw' => ⟨w, H, I3, rw', q⟩) hs
def rIxA (K : PySem.W.Frag) : R2 := fun x y H Q => rIx K x y H Q ∨ rIxD x y H Q
theorem ix_any (hu : X.A.units + 1 < cLine) : IxR X (rIxA X.K) := ix_seq.or (ix_dict hu)
def gIx : D → D → (Rv → Prop) → Prop
  | .lst l, .int i => fun Q => ∃ d, atI l i = some d ∧ Q (.v d)
  | .tup l, .int i => fun Q => ∃ d, atI l i = some d ∧ Q (.v d)
  | .str s, .int i => fun Q => s.length ≤ sizeLine ∧ ∃ c, atI s.cps.toList i = some c ∧ Q (.v (.str ⟨#[c]⟩))
  | .dct kvs, y => fun Q => ∃ k d, y.key = some k ∧ kGet kvs k = some d ∧ Q (.v d)
  | _, _ => fun _ => False
theorem atI_mem {α : Type} {l : List α} {i : Int} {c : α} (h : atI l i = some c) : c ∈ l := by
  unfold atI at h
  cases q : ixN l.length i with
  | none => rw [q] at h; cases h
  | some j => rw [q] at h; exact List.mem_of_getElem? h
theorem strOk_one {x : Str} {c : Nat} (h : PyData.strOk x = true) (hc : c ∈ x.cps.toList) : PyData.strOk ⟨#[c]⟩ = true := by
  rw [strOk_iff] at *
  intro d hd
  have : d = c := by simpa using hd
  subst this
  exact h d hc
theorem sem_ix : SemOp X.K (rIxA X.K) gIx := by
  intro G σ H F ρ x y a b Q Qd R ha hb h k
  unfold gIx at h
  split at h
  · obtain ⟨d, e, h⟩ := h
    obtain ⟨p, xs, rfl, h1, d1⟩ := ha.lst R.ext
    cases hb.int
    obtain ⟨v, e2, dv⟩ := d1.atI e
    exact .inl (.inl ⟨p, xs, _, v, rfl, rfl, .inl (.inl h1), e2, k _ _ _ _ h (Same.refl _) R dv⟩)
  · obtain ⟨d, e, h⟩ := h
    obtain ⟨p, xs, rfl, h1, d1⟩ := ha.tup
    cases hb.int
    obtain ⟨v, e2, dv⟩ := d1.atI e
    exact .inl (.inr (.inl ⟨p, xs, _, v, rfl, rfl, .inl (.inl (R.ext _ _ h1)), e2, k _ _ _ _ h (Same.refl _) R dv⟩))
  · obtain ⟨hz, c, e, h⟩ := h
    have o1 := ha.strOk
    cases ha.str
    cases hb.int
    exact .inl (.inr (.inr ⟨_, _, c, rfl, rfl, hz, e, k _ _ _ _ h (Same.refl _) R (.str _ (strOk_one o1 (atI_mem e)))⟩))
  · obtain ⟨k1, d, ek, e, h⟩ := h
    obtain ⟨p, ks, rfl, h1, d1⟩ := ha.dct R.ext
    obtain ⟨v, e2, dv⟩ := d1.get e
    have ey := hb.key ek
    refine .inr ⟨p, v, rfl, ?_, k _ _ _ _ h (Same.refl _) R dv⟩
    rw [ey, ← e2]
    exact DGet.k h1
  · exact h.elim
theorem de_ix {a b : Expr} {pos : Pos} {ta tb : TE} {da db : TQ} (hu : X.A.units + 1 < cLine) (ha : DO X a ta da) (hb : DO X b tb db) (hs : PlainIx b := by exact fun _ _ => rfl) : DE X (.Subscript a b pos) (tOp (rIxA X.K) ta tb) (dOp gIx da db) :=
  ⟨pe_ix (ix_any hu) ha.pe hb.pe hs, fun R q k => sem_op sem_ix ha hb R q k⟩
/-! ### slices -/
abbrev TOd := SL → (Option Int → SL → Prop) → Prop
structure DOp (X : Cx) (e : Option Expr) (te : TO) (t : TOd) : Prop where
  pe : PO X e te
  sem : ∀ {G : Cd} {σ : L2.St} {H F : Hp} {ρ : SL} {Q : Option Int → Hp → Prop} {Qd : Option Int → SL → Prop}, Rep X.K G σ H F ρ → t ρ Qd →
    (∀ o ρ' H' F', Qd o ρ' → Same F F' → Rep X.K G σ H' F' ρ' → Q o H') → te σ H Q
def oNo : TOd := fun ρ Q => Q none ρ
def oE (t : TD) : TOd := fun ρ Q => t ρ fun r ρ' => match r with
  | .v (.int i) => Q (some i) ρ'
  | _ => False
theorem dop_none : DOp X none tNoPart oNo := ⟨po_none, fun R q k => k _ _ _ _ q (Same.refl _) R⟩
theorem dop_some {e : Expr} {te : TE} {t : TD} (h : DE X e te t) : DOp X (some e) (tPart te) (oE t) :=
  ⟨po_some h.pe, fun R q k => h.sem R q fun r ρ' v H' F' qd s1 R1 rd => by
    cases r with
    | fr c => exact qd.elim
    | pt _ _ => exact qd.elim
    | v d =>
      cases d with
      | int i =>
        cases rd
        exact ⟨i, rfl, k _ _ _ _ qd s1 R1⟩
      | _ => exact qd.elim⟩
def gSl : D → Option Int → Option Int → (Rv → Prop) → Prop
  | .lst l, lo, hi => fun Q => Q (.fr (.l (cut l lo hi)))
  | .str s, lo, hi => fun Q => s.length ≤ sizeLine ∧ Q (.v (.str (cutS s lo hi)))
  | .tup l, lo, hi => fun Q => Q (.v (.tup (cut l lo hi)))
  | .scr ns, lo, hi => fun Q => Q (.fr (.l ((cut ns lo hi).map D.int)))
  | _, _, _ => fun _ => False
def rSlAny (K : PySem.W.Frag) : V → Option Int → Option Int → Hp → VK → Prop := fun x lo hi H Q => rSlL K x lo hi H Q ∨ (rSlS x lo hi H Q ∨ rSlA K x lo hi H Q)
theorem sl_any : SlR X (rSlAny X.K) := sl_list.or (sl_str.or sl_tupA)
theorem strOk_cut {x : Str} (h : PyData.strOk x = true) (lo hi : Option Int) : PyData.strOk (cutS x lo hi) = true := by
  rw [strOk_iff] at *
  intro c hc
  refine h c ?_
  have hc' : c ∈ (x.cps.toList.drop (HT.sIx x.length 0 lo)).take (HT.sIx x.length x.length hi - HT.sIx x.length 0 lo) := by simpa [cutS] using hc
  exact List.mem_of_mem_drop (List.mem_of_mem_take hc')
theorem cutV_ints (ns : List Int) (lo hi : Option Int) : cutV (ns.map V.int) lo hi = (cut ns lo hi).map V.int := by
  unfold cutV cut
  rw [List.length_map, List.map_take, List.map_drop]
theorem cut_whole {α : Type} {l : List α} {lo hi : Option Int} (h1 : HT.sIx l.length 0 lo = 0) (h2 : HT.sIx l.length l.length hi = l.length) : cut l lo hi = l := by
  unfold cut
  rw [h1, h2, List.drop_zero, Nat.sub_zero, List.take_length]
def dSl (te : TQ) (tl th : TOd) : TD := fun ρ Q => te ρ fun o ρ1 => tl ρ1 fun lo ρ2 => th ρ2 fun hi ρ3 => match o.get ρ3 with
  | some d => gSl d lo hi fun r => Q r ρ3
  | none => False
theorem de_slice {e : Expr} {lo hi : Option Expr} {pos p2 : Pos} {te : TE} {tl th : TO} {d : TQ} {dl dh : TOd} (he : DO X e te d) (hl : DOp X lo tl dl) (hh : DOp X hi th dh) :
    DE X (.Subscript e (.Slice lo hi none p2) pos) (tSl (rSlAny X.K) te tl th) (dSl d dl dh) := by
  refine ⟨pe_slice sl_any he.pe hl.pe hh.pe, fun R q k => ?_⟩
  refine he.sem R q fun o ρ1 v H1 F1 q1 s1 R1 d1 => ?_
  refine hl.sem R1 q1 fun l ρ2 H2 F2 q2 s2 R2 => ?_
  refine hh.sem R2 q2 fun u ρ3 H3 F3 q3 s3 R3 => ?_
  have s13 := s1.trans (s2.trans s3)
  cases ea : o.get ρ3 with
  | none => simp only [ea] at q3
  | some x =>
    simp only [ea] at q3
    have pk := (d1.mono (s2.trans s3)).pk R3 ea
    unfold gSl at q3
    split at q3
    · obtain ⟨p, xs, rfl, h1, d1⟩ := pk.lst R3.ext
      refine .inl ⟨p, xs, rfl, .inl (.inl h1), fun a ha => ?_⟩
      obtain ⟨R4, rd⟩ := R3.allocFr ha (c := .l _) ⟨_, upd_same, d1.cut l u⟩
      exact k _ _ _ _ _ q3 s13 R4 rd
    · have o1 := pk.strOk
      cases pk.str
      exact .inr (.inl ⟨_, rfl, q3.1, k _ _ _ _ _ q3.2 s13 R3 (.str _ (strOk_cut o1 l u))⟩)
    · obtain ⟨p, xs, rfl, h1, d1⟩ := pk.tup
      refine .inr (.inr ⟨p, xs, rfl, .inl (.inl (R3.ext _ _ h1)), fun hw => ?_, fun _ a ha => ?_⟩)
      · have hl := d1.length
        rw [hl] at hw
        rw [cut_whole hw.1 hw.2] at q3
        exact k _ _ _ _ _ q3 s13 R3 (.tup h1 d1)
      · obtain ⟨s4, R4⟩ := R3.alloc (o := .tup (cutV xs l u)) ha
        exact k _ _ _ _ _ q3 (s13.trans s4) R4 (.tup upd_same ((d1.cut l u).mono s4))
    · obtain ⟨p, rfl, h1⟩ := pk.scr R3.ext
      refine .inl ⟨p, _, rfl, h1, fun a ha => ?_⟩
      have hx := cutV_ints ‹List Int› l u
      obtain ⟨R4, rd⟩ := R3.allocFr (o := .lst (cutV (List.map V.int ‹List Int›) l u)) ha (c := .l ((cut ‹List Int› l u).map D.int)) ⟨_, upd_same, by rw [hx]; exact DenL.ints⟩
      exact k _ _ _ _ _ q3 s13 R4 rd
    · exact q3.elim
/-! ### in -/
def rInA (K : PySem.W.Frag) : R2 := fun x y H Q => rInD K x y H Q ∨ ((∃ (c : Nat) (z : Str), x = .str ⟨#[c]⟩ ∧ y = .str z ∧ Q (.bl (decide (c ∈ z.cps.toList))) H) ∨ rDIn x y H Q)
def rNotInA (K : PySem.W.Frag) : R2 := fun x y H Q => rNotInD K x y H Q ∨ ((∃ (c : Nat) (z : Str), x = .str ⟨#[c]⟩ ∧ y = .str z ∧ Q (.bl (!decide (c ∈ z.cps.toList))) H) ∨ rDNotIn x y H Q)
theorem op_inA (hu : X.A.units + 65 < cLine) : OpR X (compareOp .In) (rInA X.K) := (op_inD hu).or (op_in_sign.or (op_in_dict (by omega)))
theorem op_notInA (hu : X.A.units + 65 < cLine) : OpR X (compareOp .NotIn) (rNotInA X.K) := (op_notInD hu).or (op_notIn_sign.or (op_notin_dict (by omega)))
def gIn (f : Bool → Bool) : D → D → (Rv → Prop) → Prop
  | x, .lst ds => fun Q => D.fit 60 x = true ∧ D.fits 59 ds = true ∧ Q (.v (.bl (f (ds.any fun z => D.eqv z x))))
  | .str x, .str y => fun Q => ∃ c, x = ⟨#[c]⟩ ∧ Q (.v (.bl (f (decide (c ∈ y.cps.toList)))))
  | x, .dct kvs => fun Q => ∃ k, x.key = some k ∧ Q (.v (.bl (f (kGet kvs k).isSome)))
  | _, _ => fun _ => False
theorem any_py {x : D} (hx : D.fit 60 x = true) : ∀ ds : List D, D.fits 59 ds = true → ((D.pys ds).any fun z => PyData.eqv z x.py) = ds.any fun z => D.eqv z x
  | [], _ => by simp [D.pys]
  | d :: r, h => by
    rw [D.fits, Bool.and_eq_true] at h
    rw [D.pys, List.any_cons, List.any_cons, any_py hx r h.2, eqv_py d x 59 60 h.1 hx]
theorem sem_in : SemOp X.K (rInA X.K) (gIn id) := by
  intro G σ H F ρ x y a b Q Qd R ha hb h k
  unfold gIn at h
  split at h
  · rename_i ds
    obtain ⟨h1, h2, h⟩ := h
    have h2' : D.fit 60 (.lst ds) = true := by rw [D.fit]; exact h2
    have db := hb.den R.ext
    refine .inl ⟨_, D.pys ds, Den.dp (ha.den R.ext) h1, by have := Den.dp db h2'; rw [D.py] at this; exact this, shaped_of (ha.den R.ext) h1, by have := shaped_of db h2'; rw [D.py] at this; exact this, ?_⟩
    rw [any_py h1 ds h2]
    exact k _ _ _ _ h (Same.refl _) R (.bl _)
  · obtain ⟨c, rfl, h⟩ := h
    cases ha.str
    cases hb.str
    exact .inr (.inl ⟨c, _, rfl, rfl, k _ _ _ _ h (Same.refl _) R (.bl _)⟩)
  · obtain ⟨k1, e, h⟩ := h
    obtain ⟨p, ks, rfl, h1, d1⟩ := hb.dct R.ext
    have ey := ha.key e
    refine .inr (.inr ⟨p, valV ks k1, rfl, by rw [ey]; exact DGet.k h1, ?_⟩)
    rw [d1.isSome]
    exact k _ _ _ _ h (Same.refl _) R (.bl _)
  · exact h.elim
theorem sem_notIn : SemOp X.K (rNotInA X.K) (gIn not) := by
  intro G σ H F ρ x y a b Q Qd R ha hb h k
  unfold gIn at h
  split at h
  · rename_i ds
    obtain ⟨h1, h2, h⟩ := h
    have h2' : D.fit 60 (.lst ds) = true := by rw [D.fit]; exact h2
    have db := hb.den R.ext
    refine .inl ⟨_, D.pys ds, Den.dp (ha.den R.ext) h1, by have := Den.dp db h2'; rw [D.py] at this; exact this, shaped_of (ha.den R.ext) h1, by have := shaped_of db h2'; rw [D.py] at this; exact this, ?_⟩
    rw [any_py h1 ds h2]
    exact k _ _ _ _ h (Same.refl _) R (.bl _)
  · obtain ⟨c, rfl, h⟩ := h
    cases ha.str
    cases hb.str
    exact .inr (.inl ⟨c, _, rfl, rfl, k _ _ _ _ h (Same.refl _) R (.bl _)⟩)
  · obtain ⟨k1, e, h⟩ := h
    obtain ⟨p, ks, rfl, h1, d1⟩ := hb.dct R.ext
    have ey := ha.key e
    refine .inr (.inr ⟨p, valV ks k1, rfl, by rw [ey]; exact DGet.k h1, ?_⟩)
    rw [d1.isSome]
    exact k _ _ _ _ h (Same.refl _) R (.bl _)
  · exact h.elim
/-! ### is None -/
def gIsN (f : Bool → Bool) : D → D → (Rv → Prop) → Prop
  | .unk, _ => fun _ => False
  | .non, .non => fun Q => Q (.v (.bl (f true)))
  | _, .non => fun Q => Q (.v (.bl (f false)))
  | _, _ => fun _ => False
theorem Pk.notNon {K : PySem.W.Frag} {F H : Hp} {v : V} {d : D} (h : Pk K F H v d) (hd : d ≠ .non) (hu : d ≠ .unk) : decide (v = .non) = false := by
  refine decide_eq_false fun e => ?_
  subst e
  rcases h with h | ⟨p, c, e, _⟩
  · cases h
    · exact hd rfl
    · exact hu rfl
  · cases e
theorem sem_isN {f : Bool → Bool} {r : R2} (hr : ∀ x y H Q, (y = .non ∧ Q (.bl (f (decide (x = .non)))) H) → r x y H Q) : SemOp X.K r (gIsN f) := by
  intro G σ H F ρ x y a b Q Qd R ha hb h k
  unfold gIsN at h
  split at h
  · exact h.elim
  · cases ha.non; cases hb.non
    exact hr _ _ _ _ ⟨rfl, by rw [decide_eq_true rfl]; exact k _ _ _ _ h (Same.refl _) R (.bl _)⟩
  · rename_i hu hn
    cases hb.non
    exact hr _ _ _ _ ⟨rfl, by rw [ha.notNon (fun e => hn (by rw [e])) (fun e => hu (by rw [e]))]; exact k _ _ _ _ h (Same.refl _) R (.bl _)⟩
  · exact h.elim
theorem sem_is : SemOp X.K (fun x y H Q => y = .non ∧ Q (.bl (decide (x = .non))) H) (gIsN id) := sem_isN fun _ _ _ _ h => h
theorem sem_isnt : SemOp X.K (fun x y H Q => y = .non ∧ Q (.bl (!decide (x = .non))) H) (gIsN not) := sem_isN fun _ _ _ _ h => h
/-! ### tests -/
def asB (r : Rv) (Q : Bool → Prop) : Prop := match r with
  | .v (.bl b) => Q b
  | _ => False
theorem asB_den {K : PySem.W.Frag} {G : Cd} {σ : L2.St} {ρ : SL} {H F : Hp} {v : V} {r : Rv} {Q : Bool → Prop} (h : asB r Q) (rd : RDen K G σ ρ H F v r) : ∃ b, v = .bl b ∧ Q b := by
  cases r with
  | fr c => exact h.elim
  | pt _ _ => exact h.elim
  | v d =>
    cases d with
    | bl b => cases rd; exact ⟨b, rfl, h⟩
    | _ => exact h.elim
def bOf (t : TD) : TB := fun ρ Q => t ρ fun r ρ' => asB r fun b => Q b ρ'
theorem sem_bOf {te : TE} {t : TD} (hs : ∀ {G : Cd} {σ : L2.St} {H F : Hp} {ρ : SL} {Q : VK} {Qd : Rv → SL → Prop}, Rep X.K G σ H F ρ → t ρ Qd →
    (∀ r ρ' v H' F', Qd r ρ' → Same F F' → Rep X.K G σ H' F' ρ' → RDen X.K G σ ρ' H' F' v r → Q v H') → te σ H Q)
    {G : Cd} {σ : L2.St} {H F : Hp} {ρ : SL} {Q : Bool → Hp → Prop} {Qd : Bool → SL → Prop} (R : Rep X.K G σ H F ρ) (q : bOf t ρ Qd)
    (k : ∀ b ρ' H' F', Qd b ρ' → Same F F' → Rep X.K G σ H' F' ρ' → Q b H') : tTest te σ H Q :=
  hs R q fun r ρ' v H' F' qd s1 R1 rd => by
    obtain ⟨b, rfl, qb⟩ := asB_den qd rd
    exact ⟨b, rfl, k _ _ _ _ qb s1 R1⟩
theorem dt_cmp {op : CmpOp} {r : R2} {g : D → D → (Rv → Prop) → Prop} {ta tb : TE} {a b : Expr} {da db : TQ} {pos : Pos} (ho : OpR X (compareOp op) r) (hg : SemOp X.K r g) (ha : DO X a ta da) (hb : DO X b tb db)
    (hm : behindInMarks op b = false) : DT X (.Compare a [op] [b] pos) (tTest (tOp r ta tb)) (bOf (dOp g da db)) :=
  ⟨pt_cmpR ho ha.pe hb.pe hm, fun R q k => sem_bOf (fun R q k => sem_op hg ha hb R q k) R q k⟩
def dChain (g g' : D → D → (Rv → Prop) → Prop) (ta tb tc : TQ) : TD := fun ρ Q => ta ρ fun oa ρ1 => tb ρ1 fun ob ρ2 => match oa.get ρ2, ob.get ρ2 with
  | some a, some b => g a b fun r => asB r fun z => if z = true then tc ρ2 fun oc ρ3 => (match ob.get ρ3, oc.get ρ3 with
      | some b', some c => g' b' c fun r' => Q r' ρ3
      | _, _ => False) else Q (.v (.bl false)) ρ2
  | _, _ => False
theorem sem_chain {r r' : R2} {g g' : D → D → (Rv → Prop) → Prop} {ta tb tc : TE} {a b c : Expr} {da db dc : TQ} (hg : SemOp X.K r g) (hg' : SemOp X.K r' g') (ha : DO X a ta da) (hb : DO X b tb db) (hc : DO X c tc dc)
    {G : Cd} {σ : L2.St} {H F : Hp} {ρ : SL} {Q : VK} {Qd : Rv → SL → Prop} (R : Rep X.K G σ H F ρ) (q : dChain g g' da db dc ρ Qd)
    (k : ∀ r ρ' v H' F', Qd r ρ' → Same F F' → Rep X.K G σ H' F' ρ' → RDen X.K G σ ρ' H' F' v r → Q v H') : tChain r r' ta tb tc σ H Q := by
  refine ha.sem R q fun oa ρ1 v H1 F1 q1 s1 R1 d1 => ?_
  refine hb.sem R1 q1 fun ob ρ2 u H2 F2 q2 s2 R2 d2 => ?_
  cases ea : oa.get ρ2 with
  | none => rw [ea] at q2; exact q2.elim
  | some x =>
    cases eb : ob.get ρ2 with
    | none => rw [ea, eb] at q2; exact q2.elim
    | some y =>
      rw [ea, eb] at q2
      refine hg R2 ((d1.mono s2).pk R2 ea) (d2.pk R2 eb) q2 fun rv z H3 F3 qd s3 R3 rd => ?_
      obtain ⟨b', rfl, qb⟩ := asB_den qd rd
      refine ⟨b', rfl, ?_⟩
      cases b' with
      | false =>
        rw [if_neg Bool.false_ne_true] at qb ⊢
        exact k _ _ _ _ _ qb (s1.trans (s2.trans s3)) R3 (.bl _)
      | true =>
        rw [if_pos rfl] at qb ⊢
        refine hc.sem R3 qb fun oc ρ4 w H4 F4 q4 s4 R4 d4 => ?_
        cases eb2 : ob.get ρ4 with
        | none => rw [eb2] at q4; exact q4.elim
        | some y2 =>
          cases ec : oc.get ρ4 with
          | none => rw [eb2, ec] at q4; exact q4.elim
          | some z2 =>
            rw [eb2, ec] at q4
            exact hg' R4 ((d2.mono (s3.trans s4)).pk R4 eb2) (d4.pk R4 ec) q4 fun rv z H' F' qd s5 R5 rd => k _ _ _ _ _ qd (s1.trans (s2.trans (s3.trans (s4.trans s5)))) R5 rd
theorem de_chain {op op' : CmpOp} {r r' : R2} {g g' : D → D → (Rv → Prop) → Prop} {ta tb tc : TE} {a b c : Expr} {da db dc : TQ} {pos : Pos} (ho : OpR X (compareOp op) r) (ho' : OpR X (compareOp op') r') (hg : SemOp X.K r g) (hg' : SemOp X.K r' g') (ha : DO X a ta da) (hb : DO X b tb db) (hc : DO X c tc dc)
    (hm : lastMarks [op, op'] [b, c] = false := by with_unfolding_all rfl) : DE X (.Compare a [op, op'] [b, c] pos) (tChain r r' ta tb tc) (dChain g g' da db dc) :=
  ⟨pe_chain ho ho' ha.pe hb.pe hc.pe hm, fun R q k => sem_chain hg hg' ha hb hc R q k⟩
theorem dt_chain {op op' : CmpOp} {r r' : R2} {g g' : D → D → (Rv → Prop) → Prop} {ta tb tc : TE} {a b c : Expr} {da db dc : TQ} {pos : Pos} (ho : OpR X (compareOp op) r) (ho' : OpR X (compareOp op') r') (hg : SemOp X.K r g) (hg' : SemOp X.K r' g') (ha : DO X a ta da) (hb : DO X b tb db) (hc : DO X c tc dc)
    (hm : lastMarks [op, op'] [b, c] = false := by with_unfolding_all rfl) : DT X (.Compare a [op, op'] [b, c] pos) (tTest (tChain r r' ta tb tc)) (bOf (dChain g g' da db dc)) :=
  ⟨pt_chain ho ho' ha.pe hb.pe hc.pe hm, fun R q k => sem_bOf (fun R q k => sem_chain hg hg' ha hb hc R q k) R q k⟩
def gTruth : D → (Bool → Prop) → Prop
  | .non => fun Q => Q false
  | .bl b => fun Q => Q b
  | .int i => fun Q => Q (i != 0)
  | .str y => fun Q => y.length ≤ sizeLine ∧ Q ((y.length : Int) != 0)
  | .lst l => fun Q => Q (!l.isEmpty)
  | .tup l => fun Q => Q (!l.isEmpty)
  | .dct l => fun Q => Q (!l.isEmpty)
  | _ => fun _ => False
theorem DenL.isEmpty {K : PySem.W.Frag} {F : Hp} {vs : List V} {ds : List D} (h : DenL K F vs ds) : vs.isEmpty = ds.isEmpty := by cases h <;> rfl
theorem DenK.isEmpty {K : PySem.W.Frag} {F : Hp} {vs : List (Key × V)} {ds : List (Key × D)} (h : DenK K F vs ds) : vs.isEmpty = ds.isEmpty := by cases h <;> rfl
theorem Pk.truth {K : PySem.W.Frag} {F H : Hp} {v : V} {d : D} {Q : Bool → Prop} (e : Same F H) (h : Pk K F H v d) (q : gTruth d Q) : ∃ b, TruV K v H b ∧ Q b := by
  cases d with
  | non => cases h.non; exact ⟨false, rfl, q⟩
  | bl b => cases h.bl; exact ⟨b, rfl, q⟩
  | int i => cases h.int; exact ⟨_, rfl, q⟩
  | str y => cases h.str; exact ⟨_, ⟨q.1, rfl⟩, q.2⟩
  | lst l => obtain ⟨p, xs, rfl, a, b⟩ := h.lst e; exact ⟨_, .inl ⟨xs, .inl (.inl a), rfl⟩, by rw [b.isEmpty]; exact q⟩
  | tup l => obtain ⟨p, xs, rfl, a, b⟩ := h.tup; exact ⟨_, .inr (.inl ⟨xs, .inl (.inl (e _ _ a)), rfl⟩), by rw [b.isEmpty]; exact q⟩
  | dct l => obtain ⟨p, xs, rfl, a, b⟩ := h.dct e; exact ⟨_, .inr (.inr ⟨xs, a, rfl⟩), by rw [b.isEmpty]; exact q⟩
  | obj _ _ => exact q.elim
  | scr _ => exact q.elim
  | rep _ => exact q.elim
  | «at» _ => exact q.elim
  | exc _ _ _ _ _ => exact q.elim
  | unk => exact q.elim
def bTr (t : TQ) : TB := fun ρ Q => t ρ fun o ρ' => match o.get ρ' with
  | some d => gTruth d fun b => Q b ρ'
  | none => False
theorem dt_tr {e : Expr} {te : TE} {t : TQ} (h : DO X e te t) (he : ∀ whole, isTrue e X.env whole = (do let v ← whole; standAt e.pos; holding [v] (truthy v)) := by intro _; rfl) :
    DT X e (fun σ H Q => te σ H fun x H' => ∃ k, TruV X.K x H' k ∧ Q k H') (bTr t) :=
  ⟨pt_truth h.pe he, fun R q k => h.sem R q fun o ρ' v H' F' qd s1 R1 d1 => by
    cases ea : o.get ρ' with
    | none => rw [ea] at qd; exact qd.elim
    | some x =>
      rw [ea] at qd
      obtain ⟨b, t, q⟩ := (d1.pk R1 ea).truth R1.ext qd
      exact ⟨b, t, k _ _ _ _ q s1 R1⟩⟩
def bAnd (t u : TB) : TB := fun ρ Q => t ρ fun b ρ1 => if b = true then u ρ1 Q else Q false ρ1
def bOr (t u : TB) : TB := fun ρ Q => t ρ fun b ρ1 => if b = true then Q true ρ1 else u ρ1 Q
def bNot (t : TB) : TB := fun ρ Q => t ρ fun b ρ1 => Q (!b) ρ1
theorem dw_pt {e : Expr} {te : TT} {t : TB} (h : DW X e te t) : DT X e te t := ⟨h.pe.pt, h.sem⟩
theorem dw_and1 {a : Expr} {pos : Pos} {te : TT} {t : TB} (h : DT X a te t) : DW X (.BoolOp .And [a] pos) te t := ⟨pw_and1 h.pe, h.sem⟩
theorem dw_or1 {a : Expr} {pos : Pos} {te : TT} {t : TB} (h : DT X a te t) : DW X (.BoolOp .Or [a] pos) te t := ⟨pw_or1 h.pe, h.sem⟩
theorem dw_and {a b : Expr} {rest : List Expr} {pos : Pos} {te tf : TT} {t u : TB} (h : DT X a te t) (h2 : DW X (.BoolOp .And (b :: rest) pos) tf u) : DW X (.BoolOp .And (a :: b :: rest) pos) (tAnd te tf) (bAnd t u) :=
  ⟨pw_and h.pe h2.pe, fun R q k => h.sem R q fun z ρ1 H1 F1 q1 s1 R1 => by
    cases z with
    | true => rw [if_pos rfl] at q1 ⊢; exact h2.sem R1 q1 fun b ρ' H' F' qd s2 R2 => k _ _ _ _ qd (s1.trans s2) R2
    | false => rw [if_neg Bool.false_ne_true] at q1 ⊢; exact k _ _ _ _ q1 s1 R1⟩
theorem dw_or {a b : Expr} {rest : List Expr} {pos : Pos} {te tf : TT} {t u : TB} (h : DT X a te t) (h2 : DW X (.BoolOp .Or (b :: rest) pos) tf u) : DW X (.BoolOp .Or (a :: b :: rest) pos) (tOr te tf) (bOr t u) :=
  ⟨pw_or h.pe h2.pe, fun R q k => h.sem R q fun z ρ1 H1 F1 q1 s1 R1 => by
    cases z with
    | false => rw [if_neg Bool.false_ne_true] at q1 ⊢; exact h2.sem R1 q1 fun b ρ' H' F' qd s2 R2 => k _ _ _ _ qd (s1.trans s2) R2
    | true => rw [if_pos rfl] at q1 ⊢; exact k _ _ _ _ q1 s1 R1⟩
theorem dt_not {a : Expr} {pos : Pos} {te : TT} {t : TB} (h : DT X a te t) : DT X (.UnaryOp .Not a pos) (tNot te) (bNot t) :=
  ⟨pt_not h.pe, fun R q k => h.sem R q fun b ρ1 H1 F1 q1 s1 R1 => k _ _ _ _ q1 s1 R1⟩
/-- and, or, not as values: all True or False -/
def dAnd (t u : TD) : TD := fun ρ Q => t ρ fun r ρ1 => asB r fun b => if b = true then u ρ1 Q else Q (.v (.bl false)) ρ1
def dOr (t u : TD) : TD := fun ρ Q => t ρ fun r ρ1 => asB r fun b => if b = true then Q (.v (.bl true)) ρ1 else u ρ1 Q
def dNot (t : TD) : TD := fun ρ Q => t ρ fun r ρ1 => asB r fun b => Q (.v (.bl (!b))) ρ1
theorem de_one {op} {a : Expr} {pos : Pos} {te : TE} {t : TD} (h : DE X a te t) : DE X (.BoolOp op [a] pos) te t := ⟨pe_one h.pe, h.sem⟩
theorem de_and {a b : Expr} {rest : List Expr} {pos : Pos} {te tf : TE} {t u : TD} (h : DE X a te t) (h2 : DE X (.BoolOp .And (b :: rest) pos) tf u) : DE X (.BoolOp .And (a :: b :: rest) pos) (tAndV te tf) (dAnd t u) :=
  ⟨pe_and h.pe h2.pe, fun R q k => h.sem R q fun r ρ1 v H1 F1 q1 s1 R1 rd => by
    obtain ⟨z, rfl, qb⟩ := asB_den q1 rd
    refine ⟨z, rfl, ?_⟩
    cases z with
    | true => rw [if_pos rfl] at qb ⊢; exact h2.sem R1 qb fun b ρ' v H' F' qd s2 R2 rd => k _ _ _ _ _ qd (s1.trans s2) R2 rd
    | false => rw [if_neg Bool.false_ne_true] at qb ⊢; exact k _ _ _ _ _ qb s1 R1 (.bl _)⟩
theorem de_or {a b : Expr} {rest : List Expr} {pos : Pos} {te tf : TE} {t u : TD} (h : DE X a te t) (h2 : DE X (.BoolOp .Or (b :: rest) pos) tf u) : DE X (.BoolOp .Or (a :: b :: rest) pos) (tOrV te tf) (dOr t u) :=
  ⟨pe_or h.pe h2.pe, fun R q k => h.sem R q fun r ρ1 v H1 F1 q1 s1 R1 rd => by
    obtain ⟨z, rfl, qb⟩ := asB_den q1 rd
    refine ⟨z, rfl, ?_⟩
    cases z with
    | false => rw [if_neg Bool.false_ne_true] at qb ⊢; exact h2.sem R1 qb fun b ρ' v H' F' qd s2 R2 rd => k _ _ _ _ _ qd (s1.trans s2) R2 rd
    | true => rw [if_pos rfl] at qb ⊢; exact k _ _ _ _ _ qb s1 R1 (.bl _)⟩
theorem de_not {a : Expr} {pos : Pos} {te : TE} {t : TD} (h : DE X a te t) : DE X (.UnaryOp .Not a pos) (tNotV te) (dNot t) :=
  ⟨pe_not h.pe, fun R q k => h.sem R q fun r ρ1 v H1 F1 q1 s1 R1 rd => by
    obtain ⟨z, rfl, qb⟩ := asB_den q1 rd
    exact ⟨z, rfl, k _ _ _ _ _ qb s1 R1 (.bl _)⟩⟩
def dIf (t : TB) (u w : TD) : TD := fun ρ Q => t ρ fun b ρ1 => if b = true then u ρ1 Q else w ρ1 Q
theorem de_if {c a b : Expr} {pos : Pos} {tc : TT} {ta tb : TE} {t : TB} {u w : TD} (hc : DT X c tc t) (ha : DE X a ta u) (hb : DE X b tb w) : DE X (.IfExp c a b pos) (tIf tc ta tb) (dIf t u w) :=
  ⟨pe_ifExp hc.pe ha.pe hb.pe, fun R q k => hc.sem R q fun z ρ1 H1 F1 q1 s1 R1 => by
    cases z with
    | true => rw [if_pos rfl] at q1 ⊢; exact ha.sem R1 q1 fun b ρ' v H' F' qd s2 R2 rd => k _ _ _ _ _ qd (s1.trans s2) R2 rd
    | false => rw [if_neg Bool.false_ne_true] at q1 ⊢; exact hb.sem R1 q1 fun b ρ' v H' F' qd s2 R2 rd => k _ _ _ _ _ qd (s1.trans s2) R2 rd⟩
end
end DL
namespace DL
open PySem L2
abbrev TVs := SL → (List D → SL → Prop) → Prop
structure DV (X : Cx) (es : List Expr) (ta : TA) (t : TVs) : Prop where
  pe : PA X es ta
  sem : ∀ {G : Cd} {σ : L2.St} {H F : Hp} {ρ : SL} {Q : List V → Hp → Prop} {Qd : List D → SL → Prop}, Rep X.K G σ H F ρ → t ρ Qd →
    (∀ ds ρ' vs H' F', Qd ds ρ' → Same F F' → Rep X.K G σ H' F' ρ' → DenL X.K F' vs ds → Q vs H') → ta σ H Q
section
variable {X : Cx}
def vNil : TVs := fun ρ Q => Q [] ρ
def vCons (t : TD) (u : TVs) : TVs := fun ρ Q => t ρ fun r ρ1 => u ρ1 fun ds ρ2 => Q (r.dat :: ds) ρ2
theorem dv_nil : DV X [] tNil vNil := ⟨pa_nil, fun R h k => k _ _ _ _ _ h (Same.refl _) R .nil⟩
theorem dv_cons {e : Expr} {es : List Expr} {te : TE} {ta : TA} {t : TD} {u : TVs} (h : DE X e te t) (r : DV X es ta u) (hs : starEach (e :: es) X.env = (false, eval e X.env) :: starEach es X.env := by rfl) :
    DV X (e :: es) (tCons te ta) (vCons t u) :=
  ⟨pa_cons h.pe r.pe hs, fun R q k => h.sem R q fun o ρ1 v H1 F1 q1 s1 R1 d1 => by
    obtain ⟨F1', s1', R1', d1'⟩ := R1.share d1
    exact r.sem R1' q1 fun os ρ2 vs H2 F2 q2 s2 R2 d2 => k _ _ _ _ _ q2 (s1.trans (s1'.trans s2)) R2 (.cons (d1'.mono s2) d2)⟩
def dTup (t : TVs) : TD := fun ρ Q => t ρ fun ds ρ' => ds.length ≤ sizeLine ∧ Q (.v (.tup ds)) ρ'
def dLst (t : TVs) : TD := fun ρ Q => t ρ fun ds ρ' => ds.length ≤ sizeLine ∧ Q (.fr (.l ds)) ρ'
theorem de_tup {es : List Expr} {x1 pos} {ta : TA} {t : TVs} (h : DV X es ta t) : DE X (.Tuple es x1 pos) (tTup ta) (dTup t) :=
  ⟨pe_tup h.pe, fun R q k => h.sem R q fun ds ρ' vs H' F' qd s1 R1 d1 => ⟨by rw [d1.length]; exact qd.1, fun p hp => by
    obtain ⟨s2, R2⟩ := R1.alloc (o := .tup vs) hp
    exact k _ _ _ _ _ qd.2 (s1.trans s2) R2 (.tup upd_same (d1.mono s2))⟩⟩
theorem de_lst {es : List Expr} {pos} {ta : TA} {t : TVs} (h : DV X es ta t) : DE X (.List es pos) (tLst ta) (dLst t) :=
  ⟨pe_lst h.pe, fun R q k => h.sem R q fun ds ρ' vs H' F' qd s1 R1 d1 => ⟨by rw [d1.length]; exact qd.1, fun p hp => by
    obtain ⟨R2, rd⟩ := R1.allocFr hp (c := .l ds) ⟨_, upd_same, d1⟩
    exact k _ _ _ _ _ qd.2 s1 R2 rd⟩⟩
/-! ### dict displays -/
abbrev TPs := SL → (List (D × D) → SL → Prop) → Prop
inductive DenPs (K : PySem.W.Frag) (F : Hp) : List (V × V) → List (D × D) → Prop
  | nil : DenPs K F [] []
  | cons {v w : V} {vs : List (V × V)} {d e : D} {ds : List (D × D)} : Den K F v d → Den K F w e → DenPs K F vs ds → DenPs K F ((v, w) :: vs) ((d, e) :: ds)
structure DPs (X : Cx) (pos : Pos) (keys : List (Option Expr)) (values : List Expr) (trs : List (TE × TE)) (t : TPs) : Prop where
  pe : PPs X pos keys values trs
  sem : ∀ {G : Cd} {σ : L2.St} {H F : Hp} {ρ : SL} {Q : List (V × V) → Hp → Prop} {Qd : List (D × D) → SL → Prop}, Rep X.K G σ H F ρ → t ρ Qd →
    (∀ ds ρ' vs H' F', Qd ds ρ' → Same F F' → Rep X.K G σ H' F' ρ' → DenPs X.K F' vs ds → Q vs H') → tPairs trs σ H Q
def psNil : TPs := fun ρ Q => Q [] ρ
def psCons (tk tv : TD) (u : TPs) : TPs := fun ρ Q => tk ρ fun rk ρ1 => tv ρ1 fun rv ρ2 => u ρ2 fun ds ρ3 => Q ((rk.dat, rv.dat) :: ds) ρ3
theorem dps_nil {pos : Pos} : DPs X pos [] [] [] psNil := ⟨pps_nil, fun R h k => k _ _ _ _ _ h (Same.refl _) R .nil⟩
theorem dps_cons {pos : Pos} {k v : Expr} {ks : List (Option Expr)} {vs : List Expr} {tk tv : TE} {trs : List (TE × TE)} {dk dv : TD} {u : TPs} (hk : DE X k tk dk) (hv : DE X v tv dv) (hr : DPs X pos ks vs trs u) :
    DPs X pos (some k :: ks) (v :: vs) ((tk, tv) :: trs) (psCons dk dv u) :=
  ⟨pps_cons hk.pe hv.pe hr.pe, fun R q kk => hk.sem R q fun r1 ρ1 v1 H1 F1 q1 s1 R1 d1 => by
    obtain ⟨F1', s1', R1', d1'⟩ := R1.share d1
    refine hv.sem R1' q1 fun r2 ρ2 v2 H2 F2 q2 s2 R2 d2 => ?_
    obtain ⟨F2', s2', R2', d2'⟩ := R2.share d2
    exact hr.sem R2' q2 fun ds ρ3 ws H3 F3 q3 s3 R3 d3 => kk _ _ _ _ _ q3 (s1.trans (s1'.trans (s2.trans (s2'.trans s3)))) R3 (.cons (d1'.mono (s2.trans (s2'.trans s3))) (d2'.mono s3) d3)⟩
def keyed : List (D × D) → Option (List (Key × D))
  | [] => some []
  | (k, d) :: r => match k.key, keyed r with
    | some k, some r => some ((k, d) :: r)
    | _, _ => none
theorem DenPs.keyed {K : PySem.W.Frag} {F : Hp} : ∀ {ds : List (D × D)} {vs : List (V × V)} {kvs : List (Key × D)}, DenPs K F vs ds → DL.keyed ds = some kvs → ∃ ks : List (Key × V), vs = ks.map (fun kv => (kV kv.1, kv.2)) ∧ DenK K F ks kvs
  | [], _, _, h, e => by cases h; cases e; exact ⟨[], rfl, .nil⟩
  | (k, d) :: r, _, kvs, h, e => by
    cases h with
    | cons a b t =>
      unfold DL.keyed at e
      cases q : k.key with
      | none => rw [q] at e; cases e
      | some k' =>
        rw [q] at e
        cases q2 : DL.keyed r with
        | none => rw [q2] at e; cases e
        | some r' =>
          rw [q2] at e
          cases e
          obtain ⟨ks, e1, e2⟩ := DenPs.keyed t q2
          have := Pk.key (H := F) (.inl a) q
          subst this
          exact ⟨(k', _) :: ks, by rw [e1]; rfl, .cons b (Pk.keyOk (H := F) (.inl a) q) e2⟩
def dDisp (t : TPs) : TD := fun ρ Q => t ρ fun ds ρ' => match keyed ds with
  | some kvs => kvs.length ≤ 15 ∧ Q (.fr (.d (kMerge [] kvs))) ρ'
  | none => False
theorem de_disp {pos : Pos} {keys : List (Option Expr)} {values : List Expr} {trs : List (TE × TE)} {t : TPs} (h : DPs X pos keys values trs t) (hall : keys.all (·.isSome) = true) (hl : keys.length = values.length) (h0 : keys ≠ [])
    (h15 : keys.length ≤ 15) : DE X (.Dict keys values pos) (tDisp trs) (dDisp t) := by
  refine ⟨pe_disp h.pe hall hl h0 h15, fun {G σ H F ρ Q Qd} R q k p hp => ?_⟩
  obtain ⟨R1, rd⟩ := R.allocFr (o := .dK []) hp (c := .d []) ⟨_, upd_same, .nil⟩
  obtain ⟨p', e, _, hF, _, hn⟩ := rd
  cases e
  refine h.sem R1.now q fun ds ρ' vs H' F' qd s1 R2 d2 => ?_
  obtain ⟨h1, h2, h3⟩ := R1.held R2 upd_same hF hn (R.freshB hp)
  have R3 := R1.back R2
  cases ek : keyed ds with
  | none => simp only [ek] at qd
  | some kvs =>
    simp only [ek] at qd
    obtain ⟨ks, e1, dk⟩ := d2.keyed ek
    refine ⟨h1, ks, e1, by rw [dk.length]; exact qd.1, ?_⟩
    -- the dict is written: it is nobody's
    have rd3 : RDen X.K G σ ρ' H' F' (.ref p) (.fr (.d [])) := ⟨p, rfl, ⟨[], h1, .nil⟩, h2, .inl (R.fresh hp).2, h3⟩
    obtain ⟨R4, rd4⟩ := R3.writeFr (o := .dK (mergeK [] ks)) (c' := .d (kMerge [] kvs)) rd3 ⟨_, upd_same, dk.merge .nil⟩
    exact k _ _ _ _ _ qd.2 s1 R4 rd4
/-! ### statements -/
def sSeq (t u : TSD) : TSD := fun E ρ => t { E with nx := fun ρ' => u E ρ' } ρ
def sNext : TSD := fun E ρ => E.nx ρ
theorem dss_nil : DSs X [] tNext sNext := ⟨pss_nil, fun R q L => L.nx _ _ _ _ q R⟩
theorem dss_cons {st : Stmt} {rest : List Stmt} {t u : TS} {dt du : TSD} (h : DS X st t dt) (h2 : DSs X rest u du) : DSs X (st :: rest) (tSeq t u) (sSeq dt du) :=
  ⟨pss_cons h.pe h2.pe, fun R q L => h.sem R q ⟨fun σ H F ρ e R1 => h2.sem R1 e L, L.rt, L.bk, L.ct, L.xc⟩⟩
theorem dss_one {st : Stmt} {t : TS} {dt : TSD} (h : DS X st t dt) : DSs X [st] t dt := ⟨pss_one h.pe, h.sem⟩
def sSet (i : Nat) (t : TD) : TSD := fun E ρ => t ρ fun r ρ1 => E.nx (put ρ1 i r)
theorem ds_set {i : Nat} {x : Str} {e : Expr} {te : TE} {t : TD} {pos pos' : Pos} (hN : X.N.Nodup) (hi : X.N[i]? = some x) (hx : Loc X.env.scope x) (he : DE X e te t) (hs : swapsWith e (some (.Name x pos')) pos.line X.env = pure false := by rfl)
    (hf : X.fn x = true ∨ X.env.scope.names.lookup x = some .local := by first | exact .inl rfl | exact .inr rfl | assumption) : DS X (.Assign [.Name x pos'] e pos) (tAsg te (gName i)) (sSet i t) :=
  ⟨ps_set hN hi hx he.pe hs hf, fun R q L => he.sem R q fun r ρ' v H' F' qd s1 R1 rd => by
    obtain ⟨F2, _, R2⟩ := R1.putF rd i
    exact L.nx _ _ _ _ qd R2⟩
/-! targets -/
abbrev TGd := D → SL → (SL → Prop) → Prop
abbrev TGds := List D → SL → (SL → Prop) → Prop
theorem wipe_comm1 (σ : L2.St) (i : Nat) : ∀ vs : List Nat, wipe (σ.set i none) vs = (wipe σ vs).set i none
  | [] => rfl
  | v :: vs => by
    show (wipe (σ.set i none) vs).set v none = ((wipe σ vs).set v none).set i none
    rw [wipe_comm1 σ i vs]
    by_cases e : i = v
    · subst e; rfl
    · rw [List.set_comm _ _ e]
theorem wipe_append (σ : L2.St) : ∀ a b : List Nat, wipe σ (a ++ b) = wipe (wipe σ b) a
  | [], b => rfl
  | v :: a, b => by
    show (wipe σ (a ++ b)).set v none = (wipe (wipe σ b) a).set v none
    rw [wipe_append σ a b]
theorem wipe_comm (σ : L2.St) : ∀ a b : List Nat, wipe (wipe σ a) b = wipe (wipe σ b) a
  | [], b => rfl
  | v :: a, b => by
    show wipe ((wipe σ a).set v none) b = (wipe (wipe σ b) a).set v none
    rw [wipe_comm1, wipe_comm σ a b]
structure DG (X : Cx) (tg : Expr) (ws : List Nat) (g : TG) (t : TGd) : Prop where
  pe : PG X tg g
  sem : ∀ {G : Cd} {σ : L2.St} {H F : Hp} {ρ : SL} {v : V} {d : D} {Q : L2.St → Hp → Prop} {Qd : SL → Prop}, Rep X.K G σ H F ρ → Den X.K F v d → t d ρ Qd →
    (∀ ρ' σ' , Qd ρ' → Rep X.K G σ' H F ρ' → wipe σ' ws = wipe σ ws → Q σ' H) → g v σ H Q
structure DGs (X : Cx) (ts : List Expr) (ws : List Nat) (g : TGs) (t : TGds) : Prop where
  pe : PGs X ts g
  sem : ∀ {G : Cd} {σ : L2.St} {H F : Hp} {ρ : SL} {vs : List V} {ds : List D} {Q : L2.St → Hp → Prop} {Qd : SL → Prop}, Rep X.K G σ H F ρ → DenL X.K F vs ds → t ds ρ Qd →
    (∀ ρ' σ' , Qd ρ' → Rep X.K G σ' H F ρ' → wipe σ' ws = wipe σ ws → Q σ' H) → g vs σ H Q
def gN (i : Nat) : TGd := fun d ρ Q => Q (ρ.set i (.sh d))
def gsNil : TGds := fun ds ρ Q => match ds with
  | [] => Q ρ
  | _ => False
def gsCons (t : TGd) (u : TGds) : TGds := fun ds ρ Q => match ds with
  | d :: r => t d ρ fun ρ' => u r ρ' Q
  | _ => False
def gT (n : Nat) (u : TGds) : TGd := fun d ρ Q => match d with
  | .tup ds => ds.length = n ∧ u ds ρ Q
  | _ => False
theorem dg_name {i : Nat} {x : Str} {pos : Pos} (hN : X.N.Nodup) (hi : X.N[i]? = some x) (hx : Loc X.env.scope x) (hf : X.fn x = true ∨ X.env.scope.names.lookup x = some .local := by first | exact .inl rfl | exact .inr rfl | assumption) :
    DG X (.Name x pos) [i] (gName i) (gN i) := ⟨pg_name hN hi hx hf, fun R d q k => k _ _ q (R.setSh d i) (by show (List.set _ i _).set i none = List.set _ i none; rw [List.set_set]; rfl)⟩
theorem dgs_nil : DGs X [] [] gNil gsNil := ⟨pgs_nil, fun {G σ H F ρ vs ds Q Qd} R d q k => by
  cases ds with
  | nil => cases d; exact ⟨rfl, k _ _ q R rfl⟩
  | cons _ _ => exact q.elim⟩
theorem dgs_cons {e : Expr} {es : List Expr} {ws us : List Nat} {g : TG} {gs : TGs} {t : TGd} {u : TGds} (h1 : DG X e ws g t) (h2 : DGs X es us gs u)
    (hs : (assignEach (e :: es) X.env).map (·.2) = assign e X.env :: (assignEach es X.env).map (·.2) := by rfl) : DGs X (e :: es) (ws ++ us) (gCons g gs) (gsCons t u) :=
  ⟨pgs_cons h1.pe h2.pe hs, fun {G σ H F ρ vs ds Q Qd} R d q k => by
    cases ds with
    | nil => exact q.elim
    | cons a r =>
      cases d with
      | cons da dr => exact ⟨_, _, rfl, h1.sem R da q fun ρ' σ' q' R' w1 => h2.sem R' dr q' fun ρ2 σ2 q2 R2 w2 => k ρ2 σ2 q2 R2 (by
          rw [wipe_append, wipe_append, w2, wipe_comm, w1, wipe_comm])⟩⟩
theorem dg_tup {es : List Expr} {ws : List Nat} {kk : Nat} {pos : Pos} {g : TGs} {u : TGds} {n : Nat} (hc : X.calm = true) (h : DGs X es ws g u)
    (hn : (assignEach es X.env).length = n := by rfl) (hst : (assignEach es X.env).findIdx? (·.1) = none := by rfl) : DG X (.Tuple es kk pos) ws (gTup X.K n g) (gT n u) :=
  ⟨pg_tup hc h.pe hn hst, fun {G σ H F ρ v d Q Qd} R dd q k => by
    cases d with
    | tup ds =>
      cases dd with
      | tup a b => exact ⟨_, _, rfl, .inl (.inl (R.ext _ _ a)), by rw [b.length]; exact q.1, h.sem R b q.2 k⟩
    | _ => exact q.elim⟩
/-- a, b = e -/
def sAsg (t : TD) (g : TGd) : TSD := fun E ρ => t ρ fun r ρ1 => g r.dat ρ1 E.nx
theorem ds_asg {tg e : Expr} {ws : List Nat} {te : TE} {g : TG} {t : TD} {gd : TGd} {pos : Pos} (he : DE X e te t) (hg : DG X tg ws g gd) (hs : swapsWithSole [tg] e pos.line X.env = pure false := by rfl) (hw : swappedStores [tg] e X.env = pure none := by rfl)
    (h1 : (assignEach [tg] X.env).map (·.2) = [assign tg X.env] := by rfl) : DS X (.Assign [tg] e pos) (tAsg te g) (sAsg t gd) :=
  ⟨ps_asg he.pe hg.pe hs hw h1, fun R q L => he.sem R q fun r ρ' v H' F' qd s1 R1 rd => by
    obtain ⟨F2, s2, R2, d2⟩ := R1.share rd
    exact hg.sem R2 d2 qd fun ρ2 σ2 q2 R3 _ => L.nx _ _ _ _ q2 R3⟩
/-! several values at once, new things still new -/
abbrev TRs := SL → (List Rv → SL → Prop) → Prop
structure DR (X : Cx) (es : List Expr) (ta : TA) (t : TRs) : Prop where
  pe : PA X es ta
  sem : ∀ {G : Cd} {σ : L2.St} {H F : Hp} {ρ : SL} {Q : List V → Hp → Prop} {Qd : List Rv → SL → Prop}, Rep X.K G σ H F ρ → t ρ Qd →
    (∀ rs ρ' vs H' F', Qd rs ρ' → Same F F' → Rep X.K G σ H' F' ρ' → RDs X.K G σ ρ' H' F' vs rs → Q vs H') → ta σ H Q
def Rv.fl : Rv → Rv
  | .v d => .v d
  | .fr c => .fr c
  | .pt d hs => .v (d.res hs)
theorem Rep.flat {K : PySem.W.Frag} {G : Cd} {σ : L2.St} {H F : Hp} {ρ : SL} {v : V} {r : Rv} (R : Rep K G σ H F ρ) (h : RDen K G σ ρ H F v r) : ∃ F', Same F F' ∧ Rep K G σ H F' ρ ∧ RDen K G σ ρ H F' v r.fl ∧ r.fl.np := by
  cases r with
  | v d => exact ⟨F, Same.refl F, R, h, True.intro⟩
  | fr c => exact ⟨F, Same.refl F, R, h, True.intro⟩
  | pt d hs =>
    obtain ⟨F', s1, R1, d1⟩ := R.share h
    exact ⟨F', s1, R1, d1, True.intro⟩
def rNil : TRs := fun ρ Q => Q [] ρ
def rCons (t : TD) (u : TRs) : TRs := fun ρ Q => t ρ fun r ρ1 => u ρ1 fun rs ρ2 => Q (r.fl :: rs) ρ2
theorem dr_nil : DR X [] tNil rNil := ⟨pa_nil, fun R h k => k _ _ _ _ _ h (Same.refl _) R .nil⟩
theorem dr_cons {e : Expr} {es : List Expr} {te : TE} {ta : TA} {t : TD} {u : TRs} (h : DE X e te t) (r : DR X es ta u) (hs : starEach (e :: es) X.env = (false, eval e X.env) :: starEach es X.env := by rfl) :
    DR X (e :: es) (tCons te ta) (rCons t u) :=
  ⟨pa_cons h.pe r.pe hs, fun R q k => h.sem R q fun r1 ρ1 v H1 F1 q1 s1 R1 d1 => by
    obtain ⟨F1', s1', R1', d1', np⟩ := R1.flat d1
    exact r.sem R1'.now q1 fun rs ρ2 vs H2 F2 q2 s2 R2 d2 => k _ _ _ _ _ q2 (s1.trans (s1'.trans s2)) (R1'.back R2) (.cons (d1'.hold R1' R2) (d2.back R1') (d2.apart R1' d1') np)⟩
def puts (ρ : SL) : List Nat → List Rv → SL
  | i :: is, r :: rs => puts (put ρ i r) is rs
  | _, _ => ρ
/-- a, b = e1, e2 (two or three local names) -/
def sPar (is : List Nat) (t : TRs) : TSD := fun E ρ => t ρ fun rs ρ' => rs.length = is.length ∧ E.nx (puts ρ' is rs)
theorem ds_par {i j : Nat} {x y : Str} {a b : Expr} {ta : TA} {t : TRs} {px py pt pos : Pos} {kt k2 pt2} (hc : X.calm = true) (hN : X.N.Nodup) (hi : X.N[i]? = some x) (hj : X.N[j]? = some y) (hij : i ≠ j)
    (hx : X.env.scope.names.lookup x = some .local) (hy : X.env.scope.names.lookup y = some .local) (ha : DR X [a, b] ta t)
    (hw : swappedStores [.Tuple [.Name x px, .Name y py] kt pt] (.Tuple [a, b] k2 pt2) X.env = pure (some [x, y]))
    (hs : swapsWithSole [.Tuple [.Name x px, .Name y py] kt pt] (.Tuple [a, b] k2 pt2) pos.line X.env = pure false := by rfl) :
    DS X (.Assign [.Tuple [.Name x px, .Name y py] kt pt] (.Tuple [a, b] k2 pt2) pos) (tPar i j ta) (sPar [i, j] t) := by
  refine ⟨ps_par hc hN hi hj hij hx hy ha.pe hw hs, fun R q L => ha.sem R q fun rs ρ' vs H' F' qd s1 R1 d1 => ?_⟩
  obtain ⟨hl, qd⟩ := qd
  cases d1 with
  | nil => cases hl
  | cons a1 t1 c1 np1 =>
    cases t1 with
    | nil => cases hl
    | cons a2 t2 c2 np2 =>
      cases t2 with
      | cons _ _ _ => cases hl
      | nil =>
        have R2 := R1.put a1 np1 i
        have t3 := (RDs.cons a2 .nil c2 np2).put R1.len i c1
        cases t3 with
        | cons a3 _ _ _ => exact ⟨_, _, rfl, L.nx _ _ _ _ qd (R2.put a3 np2 j)⟩
theorem ds_par3 {i j l : Nat} {x y z : Str} {a b c : Expr} {ta : TA} {t : TRs} {px py pz pt pos : Pos} {kt k2 pt2} (hc : X.calm = true) (hN : X.N.Nodup) (hi : X.N[i]? = some x) (hj : X.N[j]? = some y) (hl : X.N[l]? = some z) (hij : i ≠ j) (hil : i ≠ l) (hjl : j ≠ l)
    (hx : X.env.scope.names.lookup x = some .local) (hy : X.env.scope.names.lookup y = some .local) (hz : X.env.scope.names.lookup z = some .local) (ha : DR X [a, b, c] ta t)
    (hw : swappedStores [.Tuple [.Name x px, .Name y py, .Name z pz] kt pt] (.Tuple [a, b, c] k2 pt2) X.env = pure (some [x, y, z]))
    (hs : swapsWithSole [.Tuple [.Name x px, .Name y py, .Name z pz] kt pt] (.Tuple [a, b, c] k2 pt2) pos.line X.env = pure false := by rfl) :
    DS X (.Assign [.Tuple [.Name x px, .Name y py, .Name z pz] kt pt] (.Tuple [a, b, c] k2 pt2) pos) (tPar3 i j l ta) (sPar [i, j, l] t) := by
  refine ⟨ps_par3 hc hN hi hj hl hij hil hjl hx hy hz ha.pe hw hs, fun R q L => ha.sem R q fun rs ρ' vs H' F' qd s1 R1 d1 => ?_⟩
  obtain ⟨hl, qd⟩ := qd
  cases d1 with
  | nil => cases hl
  | cons a1 t1 c1 np1 =>
    cases t1 with
    | nil => cases hl
    | cons a2 t2 c2 np2 =>
      cases t2 with
      | nil => cases hl
      | cons a3 t3 c3 np3 =>
        cases t3 with
        | cons _ _ _ => cases hl
        | nil =>
          have R2 := R1.put a1 np1 i
          have u1 := (RDs.cons a2 (.cons a3 .nil c3 np3) c2 np2).put R1.len i c1
          cases u1 with
          | cons b1 u2 e1 _ =>
            have R3 := R2.put b1 np2 j
            have u3 := u2.put R2.len j e1
            cases u3 with
            | cons b2 _ _ _ => exact ⟨_, _, _, rfl, L.nx _ _ _ _ qd (R3.put b2 np3 l)⟩
/-- a, b = e1, e2 by way of a tuple that nobody sees again: all targets names -/
inductive Names (X : Cx) : List Expr → List Nat → TGs → Prop
  | nil : Names X [] [] gNil
  | cons {i : Nat} {is : List Nat} {e : Expr} {es : List Expr} {gs : TGs} : PG X e (gName i) → PGs X es gs → Names X es is gs → (assignEach (e :: es) X.env).map (·.2) = assign e X.env :: (assignEach es X.env).map (·.2) → Names X (e :: es) (i :: is) (gCons (gName i) gs)
theorem Names.pgs {es : List Expr} {is : List Nat} {gs : TGs} (h : Names X es is gs) : PGs X es gs := by
  cases h with
  | nil => exact pgs_nil
  | cons a b c d => exact pgs_cons a b d
theorem nm_nil : Names X [] [] gNil := .nil
theorem nm_cons {i : Nat} {is : List Nat} {x : Str} {es : List Expr} {gs : TGs} {pos : Pos} (hN : X.N.Nodup) (hi : X.N[i]? = some x) (hx : Loc X.env.scope x) (h : Names X es is gs)
    (hf : X.fn x = true ∨ X.env.scope.names.lookup x = some .local := by first | exact .inl rfl | exact .inr rfl | assumption)
    (hs : (assignEach (.Name x pos :: es) X.env).map (·.2) = assign (.Name x pos) X.env :: (assignEach es X.env).map (·.2) := by rfl) : Names X (.Name x pos :: es) (i :: is) (gCons (gName i) gs) :=
  .cons (pg_name hN hi hx hf) h.pgs h hs
theorem Names.run {G : Cd} {H F : Hp} {D : Ends} {E : EndsD} (L : Link X G D E) {es : List Expr} {is : List Nat} {gs : TGs} (h : Names X es is gs) : ∀ {σ : L2.St} {ρ : SL} {vs : List V} {rs : List Rv}, Rep X.K G σ H F ρ → RDs X.K G σ ρ H F vs rs → rs.length = is.length → E.nx (puts ρ is rs) → gs vs σ H D.nx := by
  induction h with
  | nil =>
    intro σ ρ vs rs R d hl q
    cases d with
    | nil => exact ⟨rfl, L.nx _ _ _ _ q R⟩
    | cons _ _ _ => cases hl
  | @cons i is e es gs a b c d ih =>
    intro σ ρ vs rs R dd hl q
    cases dd with
    | nil => cases hl
    | cons a1 t1 c1 np => exact ⟨_, _, rfl, ih (R.put a1 np i) (t1.put R.len i c1) (Nat.succ.inj hl) q⟩
theorem ds_parT {ts es : List Expr} {is : List Nat} {gs : TGs} {ta : TA} {t : TRs} {pt pos pt2 : Pos} {kt k2 : Nat} (hc : X.calm = true) (hg : Names X ts is gs) (ha : DR X es ta t)
    (hs : swapsWithSole [.Tuple ts kt pt] (.Tuple es k2 pt2) pos.line X.env = pure false := by rfl) (hw : swappedStores [.Tuple ts kt pt] (.Tuple es k2 pt2) X.env = pure none := by rfl)
    (h1 : (assignEach [.Tuple ts kt pt] X.env).map (·.2) = [assign (.Tuple ts kt pt) X.env] := by rfl) (hn : (assignEach ts X.env).length = is.length := by rfl) (hst : (assignEach ts X.env).findIdx? (·.1) = none := by rfl) (hnz : is.length ≤ 1000 := by decide) :
    DS X (.Assign [.Tuple ts kt pt] (.Tuple es k2 pt2) pos) (tAsg (tTup ta) (gTup X.K is.length gs)) (sPar is t) := by
  refine ⟨ps_asg (pe_tup ha.pe) (pg_tup hc hg.pgs hn hst) hs hw h1, fun R q L => ha.sem R q fun rs ρ' vs H' F' qd s1 R1 d1 => ?_⟩
  obtain ⟨hl, qd⟩ := qd
  have hz : vs.length = is.length := by rw [d1.length, hl]
  refine ⟨by rw [hz, sizeLine_eq]; omega, fun p hp => ⟨p, vs, rfl, .inl (.inl upd_same), hz, ?_⟩⟩
  exact hg.run L (R1.junk hp) (d1.junk hp) hl qd
/-! ### expressions as statements, return -/
def sDrop (t : TD) : TSD := fun E ρ => t ρ fun _ ρ' => E.nx ρ'
theorem ds_expr {e : Expr} {te : TE} {t : TD} {pos : Pos} (h : DE X e te t) (hs : swapsWith e none pos.line X.env = pure false := by rfl) : DS X (.Expr e pos) (tDrop te) (sDrop t) :=
  ⟨ps_expr h.pe hs, fun R q L => h.sem R q fun r ρ' v H' F' qd s1 R1 rd => L.nx _ _ _ _ qd R1⟩
def sRet (t : TD) : TSD := fun E ρ => t ρ E.rt
theorem ds_ret {e : Expr} {te : TE} {t : TD} {pos : Pos} (h : DE X e te t) : DS X (.Return (some e) pos) (tRet te) (sRet t) :=
  ⟨ps_ret h.pe, fun R q L => h.sem R q fun r ρ' v H' F' qd s1 R1 rd => L.rt _ _ _ _ _ _ qd R1 rd⟩
def sIf (t : TB) (u w : TSD) : TSD := fun E ρ => t ρ fun b ρ1 => if b = true then u E ρ1 else w E ρ1
theorem ds_if {c : Expr} {a b : List Stmt} {pos : Pos} {tc : TT} {t1 t2 : TS} {t : TB} {u w : TSD} (hc : DT X c tc t) (ha : DSs X a t1 u) (hb : DSs X b t2 w) : DS X (.If c a b pos) (tIfS tc t1 t2) (sIf t u w) :=
  ⟨ps_if hc.pe ha.pe hb.pe, fun R q L => hc.sem R q fun z ρ1 H1 F1 q1 s1 R1 => by
    cases z with
    | true => rw [if_pos rfl] at q1 ⊢; exact ha.sem R1 q1 L
    | false => rw [if_neg Bool.false_ne_true] at q1 ⊢; exact hb.sem R1 q1 L⟩
def sBrk : TSD := fun E ρ => E.bk ρ
def sCnt : TSD := fun E ρ => E.ct ρ
theorem ds_brk {pos : Pos} : DS X (.Break pos) tBreak sBrk := ⟨ps_break, fun R q L => L.bk _ _ _ _ q R⟩
theorem ds_cnt {pos : Pos} : DS X (.Continue pos) tCont sCnt := ⟨ps_continue, fun R q L => L.ct _ _ _ _ q R⟩
theorem ds_pass {pos : Pos} : DS X (.Pass pos) tNext sNext := ⟨ps_pass, fun R q L => L.nx _ _ _ _ q R⟩
/-! ### while -/
def sWhile (t : TB) (b : TSD) : TSD := fun E ρ => ∃ W : Nat → SL → Prop, (∃ m, W m ρ) ∧ ∀ m ρ, W m ρ →
  t ρ fun z ρ1 => if z = true then b { E with nx := fun ρ' => ∃ m', m' < m ∧ W m' ρ', ct := fun ρ' => ∃ m', m' < m ∧ W m' ρ', bk := E.nx } ρ1 else E.nx ρ1
theorem ds_while {c : Expr} {body : List Stmt} {pos : Pos} {tc : TT} {tb : TS} {t : TB} {b : TSD} (hp : PassesOwn (model X.prog X.w) X.A X.env X.xe) (hc : DT X c tc t) (hb : DSs X body tb b) : DS X (.While c body [] pos) (tWhile tc tb) (sWhile t b) := by
  refine ⟨ps_while hp hc.pe hb.pe, fun {G σ H F ρ D E} R q L => ?_⟩
  obtain ⟨W, ⟨m0, w0⟩, hW⟩ := q
  refine ⟨fun m σ H => ∃ F ρ, Rep X.K G σ H F ρ ∧ W m ρ, ⟨m0, F, ρ, R, w0⟩, ?_⟩
  rintro m σ1 H1 ⟨F1, ρ1, R1, w1⟩
  refine hc.sem R1 (hW m ρ1 w1) fun z ρ2 H2 F2 q2 s2 R2 => ?_
  cases z with
  | true =>
    rw [if_pos rfl] at q2 ⊢
    refine ⟨fun σ' H' => ∃ m' F ρ, m' < m ∧ Rep X.K G σ' H' F ρ ∧ W m' ρ, fun σ' H' ⟨m', F, ρ, h1, h2, h3⟩ => ⟨m', h1, F, ρ, h2, h3⟩, ?_⟩
    exact hb.sem R2 q2 ⟨fun σ H F ρ ⟨m', h1, h2⟩ R3 => ⟨m', F, ρ, h1, R3, h2⟩, L.rt, L.nx, fun σ H F ρ ⟨m', h1, h2⟩ R3 => ⟨m', F, ρ, h1, R3, h2⟩, L.xc⟩
  | false =>
    rw [if_neg Bool.false_ne_true] at q2 ⊢
    exact L.nx _ _ _ _ q2 R2
end
end DL
namespace DL
open PySem L2
/-! ### what is walked -/
/-- an iterator hands out these data, whatever else goes on -/
structure ItD (K : PySem.W.Frag) (G : Cd) (J : It) (its : List D) : Prop where
  stop : ∀ {σ : L2.St} {H F : Hp} {ρ : SL}, Rep K G σ H F ρ → J.stop its.length H
  go : ∀ {σ : L2.St} {H F : Hp} {ρ : SL} (i : Nat), i < its.length → Rep K G σ H F ρ → J.go i H
  yld : ∀ {σ : L2.St} {H F : Hp} {ρ : SL} (i : Nat) (d : D) (x : V) (H' : Hp), its[i]? = some d → Rep K G σ H F ρ → J.yld i H x H' → (H' = H ∧ Den K F x d) ∨ ∃ T xs, H T = none ∧ H' = upd H T (.tup xs) ∧ Den K (upd F T (.tup xs)) x d
theorem ItD.step {K : PySem.W.Frag} {G : Cd} {J : It} {its : List D} (IT : ItD K G J its) {σ : L2.St} {H F : Hp} {ρ : SL} {i : Nat} {d : D} {x : V} {H' : Hp} (hi : its[i]? = some d) (R : Rep K G σ H F ρ) (y : J.yld i H x H') :
    ∃ F3, Same F F3 ∧ Rep K G σ H' F3 ρ ∧ Den K F3 x d ∧ ∀ v c, RDen K G σ ρ H F v (.fr c) → RDen K G σ ρ H' F3 v (.fr c) := by
  rcases IT.yld i d x H' hi R y with ⟨rfl, dd⟩ | ⟨T, xs, hT, rfl, dd⟩
  · exact ⟨F, Same.refl _, R, dd, fun _ _ h => h⟩
  · obtain ⟨s1, R1⟩ := R.alloc (o := .tup xs) hT
    refine ⟨_, s1, R1, dd, fun v c h => ?_⟩
    obtain ⟨q, e, a1, a2, a3, n⟩ := h
    obtain ⟨o', ho⟩ := a1.ex
    have ne : q ≠ T := fun z => by subst z; rw [hT] at ho; cases ho
    exact ⟨q, e, (a1.mono s1).at (upd_ne ne), by rw [upd_ne ne]; exact a2, a3, n⟩
abbrev TSrc := SL → (List D → SL → Prop) → Prop
structure DI (X : Cx) (tg iter : Expr) (wi : TI) (t : TSrc) : Prop where
  pe : PI X tg iter wi
  sem : ∀ {G : Cd} {σ : L2.St} {H F : Hp} {ρ : SL} {Q : It → Hp → Prop} {Qd : List D → SL → Prop}, Rep X.K G σ H F ρ → t ρ Qd →
    (∀ its ρ' J H' F', Qd its ρ' → Same F F' → Rep X.K G σ H' F' ρ' → (∀ G' : Cd, G'.F0 = F' → ItD X.K G' J its) → Q J H') → wi σ H Q
def chars (x : Str) : List D := x.cps.toList.map fun c => .str ⟨#[c]⟩
def itsOf : D → Option (List D)
  | .lst l => some l
  | .tup l => some l
  | .str x => some (chars x)
  | _ => none
section
variable {K : PySem.W.Frag}
theorem itd_list {G : Cd} {a : Addr} {xs : List V} {ds : List D} (hH : ∀ {σ : L2.St} {H F : Hp} {ρ : SL}, Rep K G σ H F ρ → H a = some (.lst xs) ∧ DenL K F xs ds) : ItD K G (Itl K a) ds where
  stop := fun R => ⟨xs, .inl (.inl (hH R).1), by rw [(hH R).2.length]; exact Nat.le_refl _⟩
  go := fun i hi R => by
    obtain ⟨h1, h2⟩ := hH R
    rw [← h2.length] at hi
    exact ⟨xs, xs[i], .inl (.inl h1), List.getElem?_eq_getElem hi⟩
  yld := fun {σ H F ρ} i d x H' hi R y => by
    obtain ⟨rfl, y⟩ := y
    obtain ⟨h1, h2⟩ := hH R
    have hx := y xs (.inl (.inl h1))
    obtain ⟨d', e, dd⟩ := h2.get' hx
    rw [hi] at e; cases e
    exact .inl ⟨rfl, dd⟩
theorem itd_tup {G : Cd} {a : Addr} {xs : List V} {ds : List D} (h : G.F0 a = some (.tup xs)) (hd : DenL K G.F0 xs ds) : ItD K G (Itt K a) ds where
  stop := fun R => ⟨xs, .inl (.inl (R.ext _ _ (R.fr0 _ _ h))), by rw [hd.length]; exact Nat.le_refl _⟩
  go := fun i hi R => by
    rw [← hd.length] at hi
    exact ⟨xs, xs[i], .inl (.inl (R.ext _ _ (R.fr0 _ _ h))), List.getElem?_eq_getElem hi⟩
  yld := fun {σ H F ρ} i d x H' hi R y => by
    obtain ⟨rfl, y⟩ := y
    have hx := y xs (.inl (.inl (R.ext _ _ (R.fr0 _ _ h))))
    obtain ⟨d', e, dd⟩ := hd.get' hx
    rw [hi] at e; cases e
    exact .inl ⟨rfl, dd.mono R.fr0⟩
theorem itd_str {G : Cd} {z : Str} (hz : PyData.strOk z = true) : ItD K G (Its z) (chars z) where
  stop := fun R => by
    show z.cps.size ≤ (chars z).length
    unfold chars
    rw [List.length_map, Array.length_toList]
    exact Nat.le_refl _
  go := fun i hi R => by
    unfold chars at hi
    rw [List.length_map, Array.length_toList] at hi
    exact hi
  yld := fun {σ H F ρ} i d x H' hi R y => by
    obtain ⟨rfl, c, hc, rfl⟩ := y
    unfold chars at hi
    rw [List.getElem?_map, Array.getElem?_toList, hc] at hi
    cases hi
    exact .inl ⟨rfl, .str _ (strOk_one hz (by
      have : z.cps.toList[i]? = some c := by rw [Array.getElem?_toList]; exact hc
      exact List.mem_of_getElem? this))⟩
def rangeC (lo c : Int) (n : Nat) : List D := (List.range n).map fun (i : Nat) => D.int (lo + (i : Int) * c)
theorem rangeC_at {lo c : Int} {n i : Nat} {d : D} (h : (rangeC lo c n)[i]? = some d) : i < n ∧ d = .int (lo + (i : Int) * c) := by
  unfold rangeC at h
  rw [List.getElem?_map] at h
  by_cases q : i < n
  · rw [List.getElem?_range q] at h
    cases h
    exact ⟨q, rfl⟩
  · rw [List.getElem?_eq_none (by rw [List.length_range]; omega)] at h
    cases h
theorem rangeC_length (lo c : Int) (n : Nat) : (rangeC lo c n).length = n := by
  unfold rangeC
  rw [List.length_map, List.length_range]
theorem itd_rng {G : Cd} {lo : Int} {n : Nat} : ItD K G (Itr lo n) (rangeC lo 1 n) where
  stop := fun R => by rw [rangeC_length]; exact Nat.le_refl _
  go := fun i hi R => by rw [rangeC_length] at hi; exact hi
  yld := fun {σ H F ρ} i d x H' hi R y => by
    obtain ⟨rfl, rfl⟩ := y
    obtain ⟨_, rfl⟩ := rangeC_at hi
    rw [Int.mul_one]
    exact .inl ⟨rfl, .int _⟩
theorem itd_rngC {G : Cd} {lo c : Int} {n : Nat} : ItD K G (Itc lo c n) (rangeC lo c n) where
  stop := fun R => by rw [rangeC_length]; exact Nat.le_refl _
  go := fun i hi R => by rw [rangeC_length] at hi; exact hi
  yld := fun {σ H F ρ} i d x H' hi R y => by
    obtain ⟨rfl, rfl⟩ := y
    obtain ⟨_, rfl⟩ := rangeC_at hi
    exact .inl ⟨rfl, .int _⟩
def enumD (ds : List D) : List D := ds.mapIdx fun i d => .tup [.int (i : Nat), d]
theorem itd_enum {G : Cd} {a : Addr} {xs : List V} {ds : List D} (hH : ∀ {σ : L2.St} {H F : Hp} {ρ : SL}, Rep K G σ H F ρ → H a = some (.lst xs) ∧ DenL K F xs ds) : ItD K G (Ite K a) (enumD ds) where
  stop := fun R => ⟨xs, .inl (.inl (hH R).1), by rw [(hH R).2.length]; unfold enumD; rw [List.length_mapIdx]; exact Nat.le_refl _⟩
  go := fun i hi R => by
    obtain ⟨h1, h2⟩ := hH R
    unfold enumD at hi
    rw [List.length_mapIdx, ← h2.length] at hi
    exact ⟨xs, xs[i], .inl (.inl h1), List.getElem?_eq_getElem hi⟩
  yld := fun {σ H F ρ} i d x H' hi R y => by
    obtain ⟨T, z, rfl, nT, rfl, y⟩ := y
    obtain ⟨h1, h2⟩ := hH R
    have hx := y xs (.inl (.inl h1))
    obtain ⟨d', e, dd⟩ := h2.get' hx
    unfold enumD at hi
    rw [List.getElem?_mapIdx, e] at hi
    cases hi
    obtain ⟨s1, R1⟩ := R.alloc (o := .tup [.int (i : Nat), z]) nT
    exact .inr ⟨T, _, nT, rfl, .tup upd_same (.cons (.int _) (.cons (dd.mono s1) .nil))⟩
def zipD (as bs : List D) : List D := List.zipWith (fun a b => D.tup [a, b]) as bs
theorem itd_zip {G : Cd} {a b : Addr} {xs ys : List V} {ds es : List D} (hH : ∀ {σ : L2.St} {H F : Hp} {ρ : SL}, Rep K G σ H F ρ → (H a = some (.lst xs) ∧ DenL K F xs ds) ∧ H b = some (.lst ys) ∧ DenL K F ys es) : ItD K G (Itz K a b) (zipD ds es) where
  stop := fun R => ⟨xs, ys, .inl (.inl (hH R).1.1), .inl (.inl (hH R).2.1), by
    rw [(hH R).1.2.length, (hH R).2.2.length]; unfold zipD; rw [List.length_zipWith]; omega⟩
  go := fun i hi R => by
    obtain ⟨⟨h1, h2⟩, h3, h4⟩ := hH R
    unfold zipD at hi
    rw [List.length_zipWith, ← h2.length, ← h4.length] at hi
    exact ⟨xs, ys, xs[i]'(by omega), ys[i]'(by omega), .inl (.inl h1), .inl (.inl h3), List.getElem?_eq_getElem _, List.getElem?_eq_getElem _⟩
  yld := fun {σ H F ρ} i d x H' hi R y => by
    obtain ⟨T, z, w, rfl, nT, rfl, y1, y2⟩ := y
    obtain ⟨⟨h1, h2⟩, h3, h4⟩ := hH R
    obtain ⟨d1, e1, dd1⟩ := h2.get' (y1 xs (.inl (.inl h1)))
    obtain ⟨d2, e2, dd2⟩ := h4.get' (y2 ys (.inl (.inl h3)))
    unfold zipD at hi
    rw [List.getElem?_zipWith, e1, e2] at hi
    cases hi
    obtain ⟨s1, R1⟩ := R.alloc (o := .tup [z, w]) nT
    exact .inr ⟨T, _, nT, rfl, .tup upd_same (.cons (dd1.mono s1) (.cons (dd2.mono s1) .nil))⟩
end
section
variable {X : Cx} {tg : Expr}
def iAny (K : PySem.W.Frag) (tl : TE) : TI := fun σ H R => tl σ H fun x H1 => (∃ a, x = .ref a ∧ (∃ xs, SqL K H1 a xs) ∧ R (Itl K a) H1) ∨ ((∃ a, x = .ref a ∧ (∃ xs, SqT K H1 a xs) ∧ R (Itt K a) H1) ∨ ∃ z, x = .str z ∧ R (Its z) H1)
theorem pi_any {l : Expr} {tl : TE} (hl : PE X l tl) : PI X tg l (iAny X.K tl) := by
  refine ⟨fun pins s σ H R I h => ?_⟩
  refine thn (hl.run pins s σ H _ I h) fun v s1 ⟨x, H1, I1, r1, q1⟩ => ?_
  rcases q1 with ⟨a, e, ⟨xs, hq⟩, q⟩ | ⟨a, e, ⟨xs, hq⟩, q⟩ | ⟨z, e, q⟩
  · subst e
    cases r1
    obtain ⟨its, rv, p, hz⟩ := I1.list hq
    refine wpAny_pyIter_list p.isList ?_
    refine ⟨s1.heap.objs.size, [s1.heap.objs.size], _, _, H1, rfl, I1.kept (t' := s1.toks) fun b o e => Heap.get?_push_of_some _ e, turn_list a _, ⟨_, Heap.get?_push_size _ rfl, rfl, rfl⟩, fun b hb => ?_, q⟩
    have e : b = s1.heap.objs.size := by simpa using hb
    subst e
    exact I1.fpOk (Nat.le_refl _) (I1.hok.fresh (Nat.le_refl _))
  · subst e
    cases r1
    obtain ⟨its, rv, p, hz⟩ := I1.tuple hq
    refine wpAny_pyIter_tuple (show s1.heap.IsTuple a its.toArray from p) ?_
    refine ⟨s1.heap.objs.size, [s1.heap.objs.size], _, _, H1, rfl, I1.kept (t' := s1.toks) fun b o e => Heap.get?_push_of_some _ e, turn_tuple a _, ⟨_, Heap.get?_push_size _ rfl, rfl, rfl⟩, fun b hb => ?_, q⟩
    have e : b = s1.heap.objs.size := by simpa using hb
    subst e
    exact I1.fpOk (Nat.le_refl _) (I1.hok.fresh (Nat.le_refl _))
  · subst e
    obtain ⟨t, rfl⟩ := r1
    cases ha : z.cps.all (· < 128)
    · exact PySem.wpAny_pyIter_wide ha (pi_one (tk := s1.toks) I1 _ (turn_str _ z t "str_iterator" (.inr rfl)) ⟨_, Heap.get?_push_size _ rfl, rfl, rfl⟩ q)
    · exact PySem.wpAny_pyIter_ascii ha (pi_one (tk := s1.toks) I1 _ (turn_str _ z t "str_ascii_iterator" (.inl rfl)) ⟨_, Heap.get?_push_size _ rfl, rfl, rfl⟩ q)
def srcE (t : TD) : TSrc := fun ρ Q => t ρ fun r ρ' => match itsOf r.dat with
  | some l => Q l ρ'
  | none => False
theorem di_e {e : Expr} {te : TE} {t : TD} (h : DE X e te t) : DI X tg e (iAny X.K te) (srcE t) :=
  ⟨pi_any h.pe, fun {G σ H F ρ Q Qd} R q k => h.sem R q fun r ρ' v H' F' qd s1 R1 rd => by
    obtain ⟨F2, s2, R2, d2⟩ := R1.share rd
    cases hd : r.dat with
    | lst l =>
      rw [hd] at d2 qd
      cases d2 with
      | lst a b => exact .inl ⟨_, rfl, ⟨_, .inl (.inl (R2.ext _ _ a))⟩, k l _ _ _ _ qd (s1.trans s2) R2 fun G' e => itd_list fun R3 => by subst e; exact ⟨R3.ext _ _ (R3.fr0 _ _ a), b.mono R3.fr0⟩⟩
    | tup l =>
      rw [hd] at d2 qd
      cases d2 with
      | tup a b => exact .inr (.inl ⟨_, rfl, ⟨_, .inl (.inl (R2.ext _ _ a))⟩, k l _ _ _ _ qd (s1.trans s2) R2 fun G' e => by subst e; exact itd_tup a b⟩)
    | str z =>
      rw [hd] at d2 qd
      cases d2 with
      | str _ a => exact .inr (.inr ⟨z, rfl, k _ _ _ _ _ qd (s1.trans s2) R2 fun G' e => itd_str a⟩)
    | _ => rw [hd] at qd; exact qd.elim⟩
/-- range(n), range(a, b), range(a, b, -1) -/
def big : Int := 4611686018427387904
def srcR1 (t : TVs) : TSrc := fun ρ Q => t ρ fun ds ρ' => match ds with
  | [.int j] => -big ≤ j ∧ j < big ∧ Q (rangeC 0 1 j.toNat) ρ'
  | _ => False
def srcR2 (t : TVs) : TSrc := fun ρ Q => t ρ fun ds ρ' => match ds with
  | [.int i, .int j] => (-big ≤ i ∧ i < big ∧ -big ≤ j ∧ j < big) ∧ Q (rangeC i 1 (j - i).toNat) ρ'
  | _ => False
def srcR3 (t : TVs) : TSrc := fun ρ Q => t ρ fun ds ρ' => match ds with
  | [.int i, .int j, .int c] => c = -1 ∧ (-big ≤ i ∧ i < big ∧ -big ≤ j ∧ j < big) ∧ Q (rangeC i (-1) (i - j).toNat) ρ'
  | _ => False
theorem di_r1 {a : Expr} {ta : TA} {t : TVs} {p pos : Pos} (hg : Gl X "range") (hm : X.mg "range" = none) (ha : DV X [a] ta t) (hs : starEach [a] X.env = [(false, eval a X.env)] := by rfl) : DI X tg (.Call (.Name "range" p) [a] [] pos) (iRng1 ta) (srcR1 t) := by
  refine ⟨pi_range1 hg hm ha.pe hs, fun {G σ H F ρ Q Qd} R q k => ha.sem R q fun ds ρ' vs H' F' qd s1 R1 d1 => ?_⟩
  split at qd
  · cases d1 with
    | cons a b =>
      cases a; cases b
      exact ⟨_, rfl, qd.1, qd.2.1, k _ _ _ _ _ qd.2.2 s1 R1 fun G' _ => itd_rng⟩
  · exact qd.elim
theorem di_r2 {a b : Expr} {ta : TA} {t : TVs} {p pos : Pos} (hg : Gl X "range") (hm : X.mg "range" = none) (ha : DV X [a, b] ta t) (hs : starEach [a, b] X.env = [(false, eval a X.env), (false, eval b X.env)] := by rfl) (hs2 : starEach [b] X.env = [(false, eval b X.env)] := by rfl) :
    DI X tg (.Call (.Name "range" p) [a, b] [] pos) (iRng2 ta) (srcR2 t) := by
  refine ⟨pi_range2 hg hm ha.pe hs hs2, fun {G σ H F ρ Q Qd} R q k => ha.sem R q fun ds ρ' vs H' F' qd s1 R1 d1 => ?_⟩
  split at qd
  · cases d1 with
    | cons a b =>
      cases b with
      | cons b c =>
        cases a; cases b; cases c
        exact ⟨_, _, rfl, qd.1, k _ _ _ _ _ qd.2 s1 R1 fun G' _ => itd_rng⟩
  · exact qd.elim
theorem di_r3 {a b c : Expr} {ta : TA} {t : TVs} {p pos : Pos} (hg : Gl X "range") (hm : X.mg "range" = none) (ha : DV X [a, b, c] ta t) (hs : starEach [a, b, c] X.env = (false, eval a X.env) :: starEach [b, c] X.env := by rfl) (hpl : (backTo pos (starEach [b, c] X.env)).any (·.1) = false := by rfl) :
    DI X tg (.Call (.Name "range" p) [a, b, c] [] pos) (iRng3 ta) (srcR3 t) := by
  refine ⟨pi_range3 hg hm ha.pe hs hpl, fun {G σ H F ρ Q Qd} R q k => ha.sem R q fun ds ρ' vs H' F' qd s1 R1 d1 => ?_⟩
  split at qd
  · cases d1 with
    | cons a b =>
      cases b with
      | cons b c =>
        cases c with
        | cons c d =>
          cases a; cases b; cases c; cases d
          obtain ⟨rfl, ⟨h1, h2, h3, h4⟩, qd⟩ := qd
          exact ⟨_, _, _, _, rfl, RgC.neg h1 h2 h3 h4, k _ _ _ _ _ qd s1 R1 fun G' _ => itd_rngC⟩
  · exact qd.elim
def srcEnum (t : TVs) : TSrc := fun ρ Q => t ρ fun ds ρ' => match ds with
  | [.lst l] => Q (enumD l) ρ'
  | _ => False
theorem di_enum {e : Expr} {ta : TA} {t : TVs} {p pos tpos : Pos} {elts : List Expr} {kk : Nat} (hg : Gl X "enumerate") (hm : X.mg "enumerate" = none) (ha : DV X [e] ta t) (hs : starEach [e] X.env = [(false, eval e X.env)] := by rfl) :
    DI X (.Tuple elts kk tpos) (.Call (.Name "enumerate" p) [e] [] pos) (iEnum X.K ta) (srcEnum t) := by
  refine ⟨pi_enum hg hm ha.pe hs, fun {G σ H F ρ Q Qd} R q k => ha.sem R q fun ds ρ' vs H' F' qd s1 R1 d1 => ?_⟩
  split at qd
  · cases d1 with
    | cons a b =>
      cases b
      cases a with
      | lst a b => exact ⟨_, _, rfl, .inl (.inl (R1.ext _ _ a)), k _ _ _ _ _ qd s1 R1 fun G' e => itd_enum fun R3 => by subst e; exact ⟨R3.ext _ _ (R3.fr0 _ _ a), b.mono R3.fr0⟩⟩
  · exact qd.elim
def srcZip (t : TVs) : TSrc := fun ρ Q => t ρ fun ds ρ' => match ds with
  | [.lst l, .lst m] => Q (zipD l m) ρ'
  | _ => False
theorem di_zip {e e2 : Expr} {ta : TA} {t : TVs} {p pos tpos : Pos} {elts : List Expr} {kk : Nat} (hg : Gl X "zip") (hm : X.mg "zip" = none) (ha : DV X [e, e2] ta t)
    (hs : starEach [e, e2] X.env = (false, eval e X.env) :: starEach [e2] X.env := by rfl) (hpl : (backTo pos (starEach [e2] X.env)).any (·.1) = false := by rfl) :
    DI X (.Tuple elts kk tpos) (.Call (.Name "zip" p) [e, e2] [] pos) (iZip X.K ta) (srcZip t) := by
  refine ⟨pi_zip hg hm ha.pe hs hpl, fun {G σ H F ρ Q Qd} R q k => ha.sem R q fun ds ρ' vs H' F' qd s1 R1 d1 => ?_⟩
  split at qd
  · cases d1 with
    | cons a b =>
      cases b with
      | cons b c =>
        cases c
        cases a with
        | lst a1 a2 =>
          cases b with
          | lst b1 b2 => exact ⟨_, _, _, _, rfl, .inl (.inl (R1.ext _ _ a1)), .inl (.inl (R1.ext _ _ b1)), k _ _ _ _ _ qd s1 R1 fun G' e => itd_zip fun R3 => by subst e; exact ⟨⟨R3.ext _ _ (R3.fr0 _ _ a1), a2.mono R3.fr0⟩, R3.ext _ _ (R3.fr0 _ _ b1), b2.mono R3.fr0⟩⟩
  · exact qd.elim
/-! ### for -/
def forL (g : TGd) (b : TSD) (E : EndsD) : List D → SL → Prop
  | [], ρ => E.nx ρ
  | d :: r, ρ => g d ρ fun ρ1 => b { nx := forL g b E r, rt := E.rt, bk := E.nx, ct := forL g b E r, xc := E.xc } ρ1
def sFor (t : TSrc) (g : TGd) (b : TSD) : TSD := fun E ρ => t ρ fun its ρ' => forL g b E its ρ'
theorem Link.at {X : Cx} {G : Cd} {D : Ends} {E : EndsD} {σ : L2.St} {H F : Hp} {ρ : SL} (L : Link X G D E) (R : Rep X.K G σ H F ρ) : Link X (G.at F) D E :=
  ⟨fun _ _ _ _ q R' => L.nx _ _ _ _ q (R.unbase R'), fun _ _ _ _ r _ q R' rd => L.rt _ _ _ _ _ _ q (R.unbase R') (by cases r <;> exact rd), fun _ _ _ _ q R' => L.bk _ _ _ _ q (R.unbase R'), fun _ _ _ _ q R' => L.ct _ _ _ _ q (R.unbase R'), fun _ _ _ _ _ _ _ q R' xd => L.xc _ _ _ _ _ _ _ q (R.unbase R') xd⟩
theorem drop_get {α : Type} {l : List α} {i : Nat} {d : α} (h : l[i]? = some d) : l.drop i = d :: l.drop (i + 1) := by
  obtain ⟨hi, e⟩ := List.getElem?_eq_some_iff.mp h
  rw [← e]
  exact List.drop_eq_getElem_cons hi
theorem ds_for {iter : Expr} {body : List Stmt} {ws : List Nat} {wi : TI} {g : TG} {tb : TS} {t : TSrc} {gd : TGd} {b : TSD} {pos : Pos} (hp : PassesOwn (model X.prog X.w) X.A X.env X.xe) (hc : X.calm = true) (hi : DI X tg iter wi t) (hg : DG X tg ws g gd) (hb : DSs X body tb b)
    (hs : ∀ x, foldedSetIterable iter X.env x = pure x := by intro _; rfl) : DS X (.For tg iter body [] pos) (tFor wi g tb) (sFor t gd b) := by
  refine ⟨ps_for hp hc hi.pe hg.pe hb.pe hs, fun {G σ H F ρ D E} R q L => hi.sem R q fun its ρ' J H1 F1 qd s1 R1 hJ => ?_⟩
  have IT := hJ (G.at F1) rfl
  have L' := L.at R1
  refine ⟨fun i m σ H => m = its.length - i ∧ i ≤ its.length ∧ ∃ F ρ, Rep X.K (G.at F1) σ H F ρ ∧ forL gd b E (its.drop i) ρ, ⟨_, rfl, Nat.zero_le _, F1, ρ', R1.rebase, qd⟩, ?_⟩
  rintro i m σ2 H2 ⟨rfl, hi, F2, ρ2, R2, q2⟩
  by_cases hlt : i < its.length
  · refine .inr ⟨IT.go i hlt R2, fun σ H => ∃ F ρ, Rep X.K (G.at F1) σ H F ρ ∧ forL gd b E (its.drop (i + 1)) ρ, fun σ' H' ⟨F, ρ, h1, h2⟩ => ⟨its.length - (i + 1), by omega, rfl, hlt, F, ρ, h1, h2⟩, fun x H' y => ?_⟩
    have hd := List.getElem?_eq_getElem hlt
    rw [drop_get hd] at q2
    obtain ⟨F3, s3, R3, d3, _⟩ := IT.step hd R2 y
    refine hg.sem R3 d3 q2 fun ρ4 σ4 q4 R4 _ => ?_
    exact hb.sem R4 q4 ⟨fun σ H F ρ q R => ⟨F, ρ, R, q⟩, L'.rt, fun σ H F ρ q R => L'.nx σ H F ρ q R, fun σ H F ρ q R => ⟨F, ρ, R, q⟩, L'.xc⟩
  · have e : i = its.length := by omega
    subst e
    rw [List.drop_length] at q2
    exact .inl ⟨IT.stop R2, L'.nx _ _ _ _ q2 R2⟩
/-! ### list comprehensions -/
def wipeD (ρ : SL) : List Nat → SL
  | [] => ρ
  | v :: vs => (wipeD ρ vs).set v .un
theorem wipeD_length (ρ : SL) : ∀ vs : List Nat, (wipeD ρ vs).length = ρ.length
  | [] => rfl
  | v :: vs => by unfold wipeD; rw [List.length_set, wipeD_length ρ vs]
theorem wipeD_get {ρ : SL} {i : Nat} {s : Sl} : ∀ {vs : List Nat}, (wipeD ρ vs)[i]? = some s → s = .un ∨ (ρ[i]? = some s ∧ i ∉ vs)
  | [], h => .inr ⟨h, by simp⟩
  | v :: vs, h => by
    rcases set_get h with ⟨_, q⟩ | ⟨ne, q⟩
    · exact .inl q
    · rcases wipeD_get q with z | ⟨z, w⟩
      · exact .inl z
      · exact .inr ⟨z, by simp [w]; exact ne⟩
theorem wipe_get (σ : L2.St) {i : Nat} : ∀ {vs : List Nat}, i ∉ vs → (wipe σ vs)[i]? = σ[i]?
  | [], _ => rfl
  | v :: vs, h => by
    simp only [List.mem_cons, not_or] at h
    unfold wipe
    rw [List.getElem?_set_ne (Ne.symm h.1), wipe_get σ h.2]
theorem Rep.wipe {K : PySem.W.Frag} {G : Cd} {σ : L2.St} {H F : Hp} {ρ : SL} (R : Rep K G σ H F ρ) (vs : List Nat) : Rep K G (L2.wipe σ vs) H F (wipeD ρ vs) :=
  R.slots (by rw [wipeD_length, wipe_length]; exact R.len) fun i s e => by
    rcases wipeD_get e with z | ⟨z, w⟩
    · exact .inl z
    · exact .inr ⟨z, wipe_get σ w⟩
theorem Rep.unwipe {K : PySem.W.Frag} {G : Cd} {σ : L2.St} {H F : Hp} {ρ : SL} {vs : List Nat} (R : Rep K G (L2.wipe σ vs) H F ρ) : Rep K G σ H F (wipeD ρ vs) :=
  R.slots (by rw [wipeD_length]; exact R.len.trans (wipe_length σ vs)) fun i s e => by
    rcases wipeD_get e with z | ⟨z, w⟩
    · exact .inl z
    · exact .inr ⟨z, (wipe_get σ w).symm⟩
theorem RDen.wipe {K : PySem.W.Frag} {G : Cd} {σ : L2.St} {H F : Hp} {ρ : SL} {v : V} {r : Rv} (a : RDen K G σ ρ H F v r) (vs : List Nat) : RDen K G (L2.wipe σ vs) (wipeD ρ vs) H F v r :=
  a.slots fun i s e => by
    rcases wipeD_get e with z | ⟨z, w⟩
    · exact .inl z
    · exact .inr ⟨z, wipe_get σ w⟩
theorem RDen.unwipe {K : PySem.W.Frag} {G : Cd} {σ : L2.St} {H F : Hp} {ρ : SL} {v : V} {r : Rv} {vs : List Nat} (a : RDen K G (L2.wipe σ vs) ρ H F v r) : RDen K G σ (wipeD ρ vs) H F v r :=
  a.slots fun i s e => by
    rcases wipeD_get e with z | ⟨z, w⟩
    · exact .inl z
    · exact .inr ⟨z, (wipe_get σ w).symm⟩
theorem wipe_idem1 (σ : L2.St) {i : Nat} : ∀ {vs : List Nat}, i ∈ vs → (L2.wipe σ vs).set i none = L2.wipe σ vs
  | [], h => by simp at h
  | v :: vs, h => by
    unfold L2.wipe
    by_cases e : i = v
    · subst e; rw [List.set_set]
    · rw [List.set_comm _ _ (Ne.symm e), wipe_idem1 σ (by simpa [e] using h)]
theorem wipe_twice (σ : L2.St) (vs : List Nat) : L2.wipe (L2.wipe σ vs) vs = L2.wipe σ vs := by
  have : ∀ us : List Nat, (∀ i ∈ us, i ∈ vs) → L2.wipe (L2.wipe σ vs) us = L2.wipe σ vs := by
    intro us
    induction us with
    | nil => intro _; rfl
    | cons u us ih =>
      intro h
      show (L2.wipe (L2.wipe σ vs) us).set u none = _
      rw [ih fun i hi => h i (List.mem_cons_of_mem _ hi), wipe_idem1 σ (h u List.mem_cons_self)]
  exact this vs fun _ h => h
/-- acc: what is made so far -/
def lcL (g : TGd) (tt : TB) (te : TD) (vs : List Nat) (Q : List D → SL → Prop) : List D → List D → SL → Prop
  | [], acc, ρ => Q acc ρ
  | d :: r, acc, ρ => g d ρ fun ρ1 => tt ρ1 fun b ρ2 => if b = true then te ρ2 fun rv ρ3 => acc.length < sizeLine ∧ lcL g tt te vs Q r (acc ++ [rv.dat]) (wipeD ρ3 vs) else lcL g tt te vs Q r acc (wipeD ρ2 vs)
/-- a comprehension's source: an expression, or one's own list by its name (back: it is one's own again) -/
abbrev TSrcC := SL → (List D → (SL → SL) → SL → Prop) → Prop
structure DIc (X : Cx) (tg iter : Expr) (wi : TI) (t : TSrcC) : Prop where
  pe : PI X tg iter wi
  sem : ∀ {G : Cd} {σ : L2.St} {H F : Hp} {ρ : SL} {Q : It → Hp → Prop} {Qd : List D → (SL → SL) → SL → Prop}, Rep X.K G σ H F ρ → t ρ Qd →
    (∀ its back ρ' J H' F', Qd its back ρ' → Same F F' → Rep X.K G σ H' F' ρ' → ItD X.K (G.now σ ρ' H' F') J its →
      (∀ H2 F2 ρ2 v r, Rep X.K (G.now σ ρ' H' F') σ H2 F2 ρ2 → RDen X.K (G.now σ ρ' H' F') σ ρ2 H2 F2 v r → Rep X.K G σ H2 F2 (back ρ2) ∧ RDen X.K G σ (back ρ2) H2 F2 v r) → Q J H') → wi σ H Q
def srcC (t : TSrc) : TSrcC := fun ρ Q => t ρ fun its ρ' => Q its id ρ'
theorem dic_of {iter : Expr} {wi : TI} {t : TSrc} (h : DI X tg iter wi t) : DIc X tg iter wi (srcC t) :=
  ⟨h.pe, fun R q k => h.sem R q fun its ρ' J H' F' qd s1 R1 hJ => k its id ρ' J H' F' qd s1 R1 (hJ _ rfl) fun H2 F2 ρ2 v r R2 rd => ⟨R1.back R2, rd.back R1⟩⟩
def srcV (i : Nat) : TSrcC := fun ρ Q => match ρ[i]? with
  | some (.sh d) => match itsOf d with
    | some l => Q l id ρ
    | none => False
  | some (.ow (.l ds)) => Q ds (fun ρ' => ρ'.set i (.ow (.l ds))) (ρ.set i .un)
  | _ => False
/-- a thing lent out through a stretch comes back -/
theorem Rep.lent {K : PySem.W.Frag} {G : Cd} {σ : L2.St} {H F H2 F2 : Hp} {ρ ρ2 : SL} {i : Nat} {s : Sl} {c : Cn} (R : Rep K G σ H F ρ) (hs : ρ[i]? = some s) (hc : s.cn = some c) (hj : ∀ j, s ≠ .bw j c) (R2 : Rep K (G.now σ (ρ.set i .un) H F) σ H2 F2 ρ2) :
    Rep K G σ H2 F2 (ρ2.set i s) ∧ ∀ v r, RDen K (G.now σ (ρ.set i .un) H F) σ ρ2 H2 F2 v r → RDen K G σ (ρ2.set i s) H2 F2 v r := by
  cases s with
  | un => cases hc
  | pl _ => cases hc
  | sh d => cases hc
  | bw j c' => cases hc; exact (hj j rfl).elim
  | ow c' =>
    cases hc
    obtain ⟨p, a1, a2, a3, a4⟩ := R.ow i c hs
    obtain ⟨R0, rd0⟩ := R.take hs a1
    have h0 := rd0.hold R0 R2
    have RB := R0.back R2
    have e : σ.set i (some (.ref p)) = σ := by
      apply List.ext_getElem?
      intro j
      by_cases q : j = i
      · subst q
        rw [List.getElem?_set_self (List.getElem?_eq_some_iff.mp a1).1, a1]
      · rw [List.getElem?_set_ne (Ne.symm q)]
    have R3 := RB.setOw h0 i
    rw [e] at R3
    refine ⟨R3, fun v r rd => ?_⟩
    have lone : ∀ p2, ((G.now σ (ρ.set i .un) H F).H0 p2 = none ∨ (G.now σ (ρ.set i .un) H F).L p2) → Lone σ ρ2 p2 → Lone σ (ρ2.set i (.ow c)) p2 := fun p2 z b4 => by
      refine ⟨fun k s c' k1 k2 k3 => ?_, fun k hs c' k1 m => ?_⟩
      · rcases set_get k1 with ⟨rfl, q⟩ | ⟨ne, q⟩
        · rw [a1] at k3
          cases k3
          rcases z with z | ⟨i2, c3, e4, e5⟩ | ⟨i2, hs, c3, e4, m⟩
          · obtain ⟨o, ho⟩ := a2.ex
            have z' : H p = none := z
            rw [ho] at z'; cases z'
          · obtain ⟨_, _, _, _, _, n⟩ := rd0
            rename_i hx _ _ _
            cases hx
            exact n.1 i2 _ c3 e4 rfl e5
          · obtain ⟨_, hx, _, _, _, n⟩ := rd0
            cases hx
            exact n.2 i2 hs c3 e4 m
        · exact b4.1 k s c' q k2 k3
      · rcases set_get k1 with ⟨rfl, q⟩ | ⟨ne, q⟩
        · cases q
        · exact b4.2 k hs c' q m
    cases r with
    | v d => exact rd
    | fr c2 =>
      obtain ⟨p2, e2, b1, b2, b3, b4⟩ := id rd
      obtain ⟨p3, e3, _, _, g3, _⟩ := rd.back R0
      cases e2; cases e3
      exact ⟨p2, rfl, b1, b2, g3, lone p2 b3 b4⟩
    | pt d hs =>
      obtain ⟨g1, g2, g3⟩ := id rd
      obtain ⟨_, _, k3⟩ := rd.back R0
      refine ⟨g1, g2, fun p2 c2 m => ?_⟩
      obtain ⟨b1, b2, b3, b4⟩ := g3 p2 c2 m
      obtain ⟨_, _, l3, _⟩ := k3 p2 c2 m
      exact ⟨b1, b2, l3, lone p2 b3 b4⟩
theorem dic_var {i : Nat} {x : Str} {pos : Pos} (h : PE X (.Name x pos) (tVar i)) : DIc X tg (.Name x pos) (iAny X.K (tVar i)) (srcV i) := by
  refine ⟨pi_any h, fun {G σ H F ρ Q Qd} R q k => ?_⟩
  unfold srcV at q
  split at q
  · rename_i d hd
    obtain ⟨v, a, b⟩ := R.sh i d hd
    refine ⟨v, a, ?_⟩
    have bk : ∀ H2 F2 ρ2 v r, Rep X.K (G.now σ ρ H F) σ H2 F2 ρ2 → RDen X.K (G.now σ ρ H F) σ ρ2 H2 F2 v r → Rep X.K G σ H2 F2 (id ρ2) ∧ RDen X.K G σ (id ρ2) H2 F2 v r := fun H2 F2 ρ2 v r R2 rd => ⟨R.back R2, rd.back R⟩
    cases hd2 : d with
    | lst l =>
      subst hd2
      cases b with
      | lst c b => exact .inl ⟨_, rfl, ⟨_, .inl (.inl (R.ext _ _ c))⟩, k l _ _ _ _ _ q (Same.refl _) R (itd_list fun R3 => ⟨R3.ext _ _ (R3.fr0 _ _ c), b.mono R3.fr0⟩) bk⟩
    | tup l =>
      subst hd2
      cases b with
      | tup c b => exact .inr (.inl ⟨_, rfl, ⟨_, .inl (.inl (R.ext _ _ c))⟩, k l _ _ _ _ _ q (Same.refl _) R (itd_tup c b) bk⟩)
    | str z =>
      subst hd2
      cases b with
      | str _ c => exact .inr (.inr ⟨z, rfl, k _ _ _ _ _ _ q (Same.refl _) R (itd_str c) bk⟩)
    | _ => subst hd2; exact q.elim
  · rename_i ds hd
    obtain ⟨p, a, ⟨xs, h1, h2⟩, h3, h4⟩ := R.ow i _ hd
    refine ⟨_, a, .inl ⟨p, rfl, ⟨xs, .inl (.inl h1)⟩, ?_⟩⟩
    obtain ⟨R0, rd0⟩ := R.take hd a
    refine k ds _ _ _ _ _ q (Same.refl _) R0 (itd_list (xs := xs) fun {σ3 H3 F3 ρ3} R3 => ?_) fun H2 F2 ρ2 v r R2 rd => ?_
    · obtain ⟨p', e', b1, b2, b3, b4⟩ := rd0
      cases e'
      obtain ⟨z1, z2, z3⟩ := R0.held R3 h1 h3 b4 (R.nb h4)
      exact ⟨z1, h2.mono R3.fr0⟩
    · obtain ⟨z1, z2⟩ := R.lent hd rfl (by simp) R2
      exact ⟨z1, z2 _ _ rd⟩
  · exact q.elim

structure DTs (X : Cx) (ifs : List Expr) (te : TT) (t : TB) : Prop where
  pe : PTs X ifs te
  sem : ∀ {G : Cd} {σ : L2.St} {H F : Hp} {ρ : SL} {Q : Bool → Hp → Prop} {Qd : Bool → SL → Prop}, Rep X.K G σ H F ρ → t ρ Qd →
    (∀ b ρ' H' F', Qd b ρ' → Same F F' → Rep X.K G σ H' F' ρ' → Q b H') → te σ H Q
def bYes : TB := fun ρ Q => Q true ρ
theorem dts_nil : DTs X [] tYes bYes := ⟨pts_nil, fun R q k => k _ _ _ _ q (Same.refl _) R⟩
theorem dts_one {c : Expr} {te : TT} {t : TB} (h : DT X c te t) : DTs X [c] te t := ⟨pts_one h.pe, h.sem⟩
def dLc (t : TSrcC) (g : TGd) (tt : TB) (te : TD) (vs : List Nat) : TD := fun ρ Q => t ρ fun its back ρ' => lcL g tt te vs (fun acc ρ2 => Q (.fr (.l acc)) (back (wipeD ρ2 vs))) its [] (wipeD ρ' vs)
theorem sem_lc {elt iter : Expr} {ifs : List Expr} {scope : Scope} {ws : List Nat} {wi : TI} {g : TG} {tt : TT} {te : TE} {t : TSrcC} {gd : TGd} {dt : TB} {de : TD}
    (hi : DIc X tg iter wi t)
    (hg : ∀ (s : Shared) (H : Hp) (C : Addr) (cl : List (Str × Addr)) (fp : List Addr), DG (X.blk s H scope (compEnvC scope cl C X.env) fp) tg ws g gd) (ht : ∀ (s : Shared) (H : Hp) (C : Addr) (cl : List (Str × Addr)) (fp : List Addr), DTs (X.blk s H scope (compEnvC scope cl C X.env) fp) ifs tt dt)
    (he : ∀ (s : Shared) (H : Hp) (C : Addr) (cl : List (Str × Addr)) (fp : List Addr), DE (X.blk s H scope (compEnvC scope cl C X.env) fp) elt te de) (s0 : Shared)
    {G : Cd} {σ : L2.St} {H F : Hp} {ρ : SL} {Q : VK} {Qd : Rv → SL → Prop} (R : Rep X.K G σ H F ρ) (q : dLc t gd dt de ws ρ Qd)
    (k : ∀ r ρ' v H' F', Qd r ρ' → Same F F' → Rep X.K G σ H' F' ρ' → RDen X.K G σ ρ' H' F' v r → Q v H') : tLc wi g tt te ws σ H Q := by
  refine hi.sem R q fun its back ρ' J H1 F1 qd s1 R1 IT bk D hD => ?_
  have hG := hg s0 H 0 [] []
  have hT := ht s0 H 0 [] []
  have hE := he s0 H 0 [] []
  obtain ⟨RD, rd0⟩ := R1.now.allocFr hD (o := .lst []) (c := .l []) ⟨_, upd_same, .nil⟩
  refine ⟨fun i m H => m = its.length - i ∧ i ≤ its.length ∧ ∃ F ρ acc, Rep X.K (G.now σ ρ' H1 F1) (L2.wipe σ ws) H F ρ ∧ RDen X.K (G.now σ ρ' H1 F1) (L2.wipe σ ws) ρ H F (.ref D) (.fr (.l acc)) ∧
    lcL gd dt de ws (fun acc ρ2 => Qd (.fr (.l acc)) (back (wipeD ρ2 ws))) (its.drop i) acc ρ, ⟨_, rfl, Nat.zero_le _, F1, wipeD ρ' ws, [], RD.wipe ws, rd0.wipe ws, qd⟩, ?_⟩
  rintro i m H2 ⟨rfl, hle, F2, ρ2, acc, R2, rd2, q2⟩
  by_cases hlt : i < its.length
  · refine .inr ⟨IT.go i hlt R2, fun H => ∃ F ρ acc, Rep X.K (G.now σ ρ' H1 F1) (L2.wipe σ ws) H F ρ ∧ RDen X.K (G.now σ ρ' H1 F1) (L2.wipe σ ws) ρ H F (.ref D) (.fr (.l acc)) ∧
      lcL gd dt de ws (fun acc ρ2 => Qd (.fr (.l acc)) (back (wipeD ρ2 ws))) (its.drop (i + 1)) acc ρ, fun H' h => ⟨its.length - (i + 1), by omega, rfl, hlt, h⟩, fun x H3 y => ?_⟩
    have hd := List.getElem?_eq_getElem hlt
    rw [drop_get hd] at q2
    obtain ⟨F3, s3, R3, d3, hr⟩ := IT.step hd R2 y
    have rd3 := hr _ _ rd2
    -- the list made so far is held aside
    refine hG.sem R3.now d3 q2 fun ρ4 σ4 q4 R4 w4 => ⟨w4.trans (wipe_twice σ ws), ?_⟩
    refine hT.sem R4 q4 fun b ρ5 H5 F5 q5 s5 R5 => ?_
    cases b with
    | false =>
      rw [if_neg Bool.false_ne_true] at q5 ⊢
      have R6 := R3.back R5
      have rd6 := rd3.hold R3 R5
      refine ⟨F5, wipeD ρ5 ws, acc, ?_, ?_, q5⟩
      · have := R6.wipe ws; rw [w4, wipe_twice] at this; exact this
      · have := rd6.wipe ws; rw [w4, wipe_twice] at this; exact this
    | true =>
      rw [if_pos rfl] at q5 ⊢
      refine hE.sem R5 q5 fun r ρ6 v H6 F6 q6 s6 R6 rd6 => ?_
      obtain ⟨F7, s7, R7, d7⟩ := R6.share rd6
      have R8 := R3.back R7
      have rd8 := rd3.hold R3 R7
      obtain ⟨p, e, ⟨xs, e1, e2⟩, a2, a3, a4⟩ := id rd8
      cases e
      obtain ⟨R9, rd9⟩ := R8.writeFr (o := .lst (xs ++ [v])) (c' := .l (acc ++ [r.dat])) rd8 ⟨_, upd_same, e2.append (.cons d7 .nil)⟩
      refine ⟨xs, e1, by rw [e2.length]; exact q6.1, F7, wipeD ρ6 ws, acc ++ [r.dat], ?_, ?_, q6.2⟩
      · have := R9.wipe ws; rw [w4, wipe_twice] at this; exact this
      · have := rd9.wipe ws; rw [w4, wipe_twice] at this; exact this
  · have e : i = its.length := by omega
    subst e
    rw [List.drop_length] at q2
    have R4 := R2.unwipe
    have rd4 := rd2.unwipe
    obtain ⟨R5, rd5⟩ := bk _ _ _ _ _ R4 rd4
    exact .inl ⟨IT.stop R2, k _ _ _ _ _ q2 (s1.trans R2.fr0) R5 rd5⟩
end
end DL
namespace DL
open PySem L2
section
variable {X : Cx} {tg : Expr}
theorem de_lc {elt iter : Expr} {ifs : List Expr} {scope : Scope} {own : List (Str × Nat)} {pos : Pos} {wi : TI} {g : TG} {tt : TT} {te : TE} {t : TSrcC} {gd : TGd} {dt : TB} {de : TD} (hc : X.calm = true) (hN : X.N.Nodup)
    (hi : DIc X tg iter wi t) (ok : BlkOk X.N X.env.scope scope own)
    (hg : ∀ (s : Shared) (H : Hp) (C : Addr) (cl : List (Str × Addr)) (fp : List Addr), DG (X.blk s H scope (compEnvC scope cl C X.env) fp) tg (own.map (·.2)) g gd)
    (ht : ∀ (s : Shared) (H : Hp) (C : Addr) (cl : List (Str × Addr)) (fp : List Addr), DTs (X.blk s H scope (compEnvC scope cl C X.env) fp) ifs tt dt)
    (he : ∀ (s : Shared) (H : Hp) (C : Addr) (cl : List (Str × Addr)) (fp : List Addr), DE (X.blk s H scope (compEnvC scope cl C X.env) fp) elt te de) (hs : ∀ x, foldedSetIterable iter X.env x = pure x := by intro _; rfl) :
    DE X (.ListComp elt [⟨tg, iter, ifs, 0⟩] scope pos) (tLc wi g tt te (own.map (·.2))) (dLc t gd dt de (own.map (·.2))) :=
  ⟨pe_lc hc hN hi.pe ok (fun s H C cl fp => (hg s H C cl fp).pe) (fun s H C cl fp => (ht s H C cl fp).pe) (fun s H C cl fp => (he s H C cl fp).pe) hs, fun R q k => sem_lc hi hg ht he X.s_0 R q k⟩
theorem ds_setLc {i : Nat} {y : Str} {py : Pos} {elt iter : Expr} {ifs : List Expr} {scope : Scope} {own : List (Str × Nat)} {pos spos : Pos} {wi : TI} {g : TG} {tt : TT} {te : TE} {t : TSrcC} {gd : TGd} {dt : TB} {de : TD} (hc : X.calm = true) (hN : X.N.Nodup)
    (hy : X.N[i]? = some y) (hyl : X.env.scope.names.lookup y = some .local)
    (hsw : swapsWith (.ListComp elt [⟨tg, iter, ifs, 0⟩] scope pos) (some (.Name y py)) spos.line X.env = pure true) (hi : DIc X tg iter wi t) (ok : BlkOk X.N X.env.scope scope own)
    (hg : ∀ (s : Shared) (H : Hp) (C : Addr) (cl : List (Str × Addr)) (fp : List Addr), DG (X.blk s H scope (compEnvC scope cl C X.env) fp) tg (own.map (·.2)) g gd)
    (ht : ∀ (s : Shared) (H : Hp) (C : Addr) (cl : List (Str × Addr)) (fp : List Addr), DTs (X.blk s H scope (compEnvC scope cl C X.env) fp) ifs tt dt)
    (he : ∀ (s : Shared) (H : Hp) (C : Addr) (cl : List (Str × Addr)) (fp : List Addr), DE (X.blk s H scope (compEnvC scope cl C X.env) fp) elt te de) (hs : ∀ x, foldedSetIterable iter X.env x = pure x := by intro _; rfl) :
    DS X (.Assign [.Name y py] (.ListComp elt [⟨tg, iter, ifs, 0⟩] scope pos) spos) (tAsg (tLc wi g tt te (own.map (·.2))) (gName i)) (sSet i (dLc t gd dt de (own.map (·.2)))) :=
  ⟨ps_setLc hc hN hy hyl hsw hi.pe ok (fun s H C cl fp => (hg s H C cl fp).pe) (fun s H C cl fp => (ht s H C cl fp).pe) (fun s H C cl fp => (he s H C cl fp).pe) hs, fun R q L =>
    sem_lc hi hg ht he X.s_0 R q fun r ρ' v H' F' qd s1 R1 rd => by
      obtain ⟨F2, _, R2⟩ := R1.putF rd i
      exact L.nx _ _ _ _ qd R2⟩
/-! ### calls of own defs -/
inductive AOp where
  | val (d : D)
  | bor (i : Nat)
def ADen (K : PySem.W.Frag) (F : Hp) (σ : L2.St) (v : V) : AOp → Prop
  | .val d => Den K F v d
  | .bor i => σ[i]? = some (some v)
inductive ADens (K : PySem.W.Frag) (F : Hp) (σ : L2.St) : List V → List AOp → Prop
  | nil : ADens K F σ [] []
  | cons {v : V} {vs : List V} {o : AOp} {os : List AOp} : ADen K F σ v o → ADens K F σ vs os → ADens K F σ (v :: vs) (o :: os)
abbrev TAg := SL → (List AOp → SL → Prop) → Prop
structure DAg (X : Cx) (es : List Expr) (ta : TA) (t : TAg) : Prop where
  pe : PA X es ta
  sem : ∀ {G : Cd} {σ : L2.St} {H F : Hp} {ρ : SL} {Q : List V → Hp → Prop} {Qd : List AOp → SL → Prop}, Rep X.K G σ H F ρ → t ρ Qd →
    (∀ os ρ' vs H' F', Qd os ρ' → Same F F' → Rep X.K G σ H' F' ρ' → ADens X.K F' σ vs os → Q vs H') → ta σ H Q
def agNil : TAg := fun ρ Q => Q [] ρ
def agVal (t : TD) (u : TAg) : TAg := fun ρ Q => t ρ fun r ρ1 => u ρ1 fun os ρ2 => Q (.val r.dat :: os) ρ2
def agBor (i : Nat) (u : TAg) : TAg := fun ρ Q => (match ρ[i]? with | some s => s.cn.isSome = true | none => False) ∧ u ρ fun os ρ2 => Q (.bor i :: os) ρ2
theorem dag_nil : DAg X [] tNil agNil := ⟨pa_nil, fun R h k => k _ _ _ _ _ h (Same.refl _) R .nil⟩
theorem dag_val {e : Expr} {es : List Expr} {te : TE} {ta : TA} {t : TD} {u : TAg} (h : DE X e te t) (r : DAg X es ta u) (hs : starEach (e :: es) X.env = (false, eval e X.env) :: starEach es X.env := by rfl) :
    DAg X (e :: es) (tCons te ta) (agVal t u) :=
  ⟨pa_cons h.pe r.pe hs, fun R q k => h.sem R q fun o ρ1 v H1 F1 q1 s1 R1 d1 => by
    obtain ⟨F1', s1', R1', d1'⟩ := R1.share d1
    exact r.sem R1' q1 fun os ρ2 vs H2 F2 q2 s2 R2 d2 => k _ _ _ _ _ q2 (s1.trans (s1'.trans s2)) R2 (.cons (d1'.mono s2) d2)⟩
theorem dag_bor {i : Nat} {x : Str} {pos : Pos} {es : List Expr} {ta : TA} {u : TAg} (h : PE X (.Name x pos) (tVar i)) (r : DAg X es ta u) (hs : starEach (.Name x pos :: es) X.env = (false, eval (.Name x pos) X.env) :: starEach es X.env := by rfl) :
    DAg X (.Name x pos :: es) (tCons (tVar i) ta) (agBor i u) :=
  ⟨pa_cons h r.pe hs, fun {G σ H F ρ Q Qd} R q k => by
    obtain ⟨q1, q2⟩ := q
    cases e : ρ[i]? with
    | none => rw [e] at q1; exact q1.elim
    | some s =>
      rw [e] at q1
      cases ec : s.cn with
      | none => simp [ec] at q1
      | some c =>
        obtain ⟨p, a, _⟩ := R.owned e ec
        exact ⟨.ref p, a, r.sem R q2 fun os ρ2 vs H2 F2 q3 s2 R2 d2 => k _ _ _ _ _ q3 s2 R2 (.cons a d2)⟩⟩
/-- the callee's slots: j is the first argument's place -/
def mkArgs (ρ : SL) : Nat → List AOp → Option SL
  | _, [] => some []
  | j, .val d :: r => (mkArgs ρ (j + 1) r).map fun l => .sh d :: l
  | j, .bor i :: r => match ρ[i]? with
    | some s => match s.cn with
      | some c => (mkArgs ρ (j + 1) r).map fun l => .bw j c :: l
      | none => none
    | none => none
def bors : List AOp → List Nat
  | [] => []
  | .val _ :: r => bors r
  | .bor i :: r => i :: bors r
/-- behind the call: what was lent comes back -/
def giveB (ρ0 : SL) : Nat → SL → List AOp → SL → Option SL
  | _, ρ, [], _ => some ρ
  | j, ρ, .val _ :: as, _ :: outs => giveB ρ0 (j + 1) ρ as outs
  | j, ρ, .bor i :: as, .bw k c :: outs => if k = j then match ρ0[i]? with
      | some s => giveB ρ0 (j + 1) (ρ.set i (s.with c)) as outs
      | none => none
    else none
  | _, _, _, _ => none
abbrev SpD := SL → (Rv → SL → Prop) → Prop
/-- a promise over data, as one over the heap -/
def lift (K : PySem.W.Frag) (sp : SpD) : Sp := fun vs H Q _ => ∃ (b : Nat → Option Addr) (F : Hp) (as : SL) (Qd : Rv → SL → Prop), Rep K ⟨b, fun _ => False, H, F⟩ (vs.map some) H F as ∧ sp as Qd ∧
  ∀ r outs σ' v H' F', Qd r outs → Rep K ⟨b, fun _ => False, H, F⟩ σ' H' F' outs → RDen K ⟨b, fun _ => False, H, F⟩ σ' outs H' F' v r → Q v H'
def dCall (sp : SpD) (t : TAg) : TD := fun ρ Q => t ρ fun os ρ1 => ∃ sl, mkArgs ρ1 0 os = some sl ∧ (bors os).Nodup ∧ sp sl fun r outs => ∃ ρ2, giveB ρ1 0 (wipeD ρ1 (bors os)) os outs = some ρ2 ∧ Q r ρ2
end
section
variable {K : PySem.W.Frag} {G : Cd} {σ : L2.St} {H F : Hp} {ρ : SL}
/-- where the arguments that are lent stand -/
def bOf' (σ : L2.St) (os : List AOp) (j : Nat) : Option Addr := match os[j]? with
  | some (.bor i) => match σ[i]? with
    | some (some (.ref p)) => some p
    | _ => none
  | _ => none
theorem mkArgs_get : ∀ {os : List AOp} {j : Nat} {sl : SL}, mkArgs ρ j os = some sl → sl.length = os.length ∧ ∀ (k : Nat) (s : Sl), sl[k]? = some s →
    (∃ d, os[k]? = some (.val d) ∧ s = .sh d) ∨ ∃ i s' c, os[k]? = some (.bor i) ∧ ρ[i]? = some s' ∧ s'.cn = some c ∧ s = .bw (j + k) c
  | [], j, sl, h => by
    cases h
    exact ⟨rfl, fun k s e => by simp at e⟩
  | .val d :: r, j, sl, h => by
    unfold mkArgs at h
    cases q : mkArgs ρ (j + 1) r with
    | none => rw [q] at h; cases h
    | some l =>
      rw [q] at h
      cases h
      obtain ⟨h1, h2⟩ := mkArgs_get q
      refine ⟨by rw [List.length_cons, List.length_cons, h1], fun k s e => ?_⟩
      cases k with
      | zero => cases e; exact .inl ⟨d, rfl, rfl⟩
      | succ k =>
        rcases h2 k s e with z | ⟨i, s', c, z1, z2, z3, z4⟩
        · exact .inl z
        · exact .inr ⟨i, s', c, z1, z2, z3, by rw [z4]; congr 1; omega⟩
  | .bor i :: r, j, sl, h => by
    unfold mkArgs at h
    cases q0 : ρ[i]? with
    | none => rw [q0] at h; cases h
    | some s' =>
      rw [q0] at h
      cases q1 : s'.cn with
      | none => simp only [q1] at h; cases h
      | some c =>
        simp only [q1] at h
        cases q : mkArgs ρ (j + 1) r with
        | none => rw [q] at h; cases h
        | some l =>
          rw [q] at h
          cases h
          obtain ⟨h1, h2⟩ := mkArgs_get q
          refine ⟨by rw [List.length_cons, List.length_cons, h1], fun k s e => ?_⟩
          cases k with
          | zero => cases e; exact .inr ⟨i, s', c, rfl, q0, q1, rfl⟩
          | succ k =>
            rcases h2 k s e with z | ⟨i2, s2, c2, z1, z2, z3, z4⟩
            · exact .inl z
            · exact .inr ⟨i2, s2, c2, z1, z2, z3, by rw [z4]; congr 1; omega⟩
theorem ADens.get {vs : List V} {os : List AOp} (h : ADens K F σ vs os) : vs.length = os.length ∧ ∀ (k : Nat) (o : AOp), os[k]? = some o → ∃ v, vs[k]? = some v ∧ ADen K F σ v o := by
  induction h with
  | nil => exact ⟨rfl, fun k o e => by simp at e⟩
  | @cons v vs o os a b ih =>
    refine ⟨by rw [List.length_cons, List.length_cons, ih.1], fun k o' e => ?_⟩
    cases k with
    | zero => cases e; exact ⟨v, rfl, a⟩
    | succ k => exact ih.2 k o' e
theorem mem_bors : ∀ {os : List AOp} {k i : Nat}, os[k]? = some (.bor i) → i ∈ bors os
  | [], k, i, h => by simp at h
  | .val d :: r, 0, i, h => by cases h
  | .val d :: r, k + 1, i, h => mem_bors (os := r) h
  | .bor j :: r, 0, i, h => by cases h; exact List.mem_cons_self
  | .bor j :: r, k + 1, i, h => List.mem_cons_of_mem _ (mem_bors (os := r) h)
theorem bors_get : ∀ {os : List AOp} {i : Nat}, i ∈ bors os → ∃ k : Nat, os[k]? = some (.bor i)
  | [], i, h => by simp [bors] at h
  | .val d :: r, i, h => by
    obtain ⟨k, e⟩ := bors_get (os := r) h
    exact ⟨k + 1, e⟩
  | .bor j :: r, i, h => by
    rcases List.mem_cons.mp h with rfl | h
    · exact ⟨0, rfl⟩
    · obtain ⟨k, e⟩ := bors_get (os := r) h
      exact ⟨k + 1, e⟩
theorem bors_inj : ∀ {os : List AOp} {k l i : Nat}, (bors os).Nodup → os[k]? = some (.bor i) → os[l]? = some (.bor i) → k = l
  | [], k, l, i, _, h, _ => by simp at h
  | .val d :: r, k, l, i, hn, h1, h2 => by
    cases k with
    | zero => cases h1
    | succ k =>
      cases l with
      | zero => cases h2
      | succ l => rw [bors_inj (os := r) hn h1 h2]
  | .bor j :: r, k, l, i, hn, h1, h2 => by
    have hn' := List.nodup_cons.mp hn
    cases k with
    | zero =>
      cases h1
      cases l with
      | zero => rfl
      | succ l => exact (hn'.1 (mem_bors (os := r) h2)).elim
    | succ k =>
      cases l with
      | zero => cases h2; exact (hn'.1 (mem_bors (os := r) h1)).elim
      | succ l => rw [bors_inj (os := r) hn'.2 h1 h2]
theorem Rep.toCall (R : Rep K G σ H F ρ) {vs : List V} {os : List AOp} {sl : SL} (h : ADens K F σ vs os) (hm : mkArgs ρ 0 os = some sl) (hn : (bors os).Nodup) :
    Rep K ⟨bOf' σ os, fun _ => False, H, F⟩ (vs.map some) H F sl := by
  obtain ⟨l1, g1⟩ := mkArgs_get hm
  obtain ⟨l2, g2⟩ := h.get
  have bw : ∀ (k j : Nat) (c : Cn), sl[k]? = some (.bw j c) → ∃ i s' p, j = k ∧ os[k]? = some (.bor i) ∧ ρ[i]? = some s' ∧ s'.cn = some c ∧ σ[i]? = some (some (.ref p)) ∧ (vs.map some)[k]? = some (some (.ref p)) ∧ Has K F H p c ∧ F p = none ∧ bOf' σ os k = some p := by
    intro k j c e
    rcases g1 k _ e with ⟨d, _, z⟩ | ⟨i, s', c', z1, z2, z3, z4⟩
    · cases z
    · cases z4
      obtain ⟨p, a1, a2, a3⟩ := R.owned z2 z3
      obtain ⟨v, e1, e2⟩ := g2 k _ z1
      have e2' : σ[i]? = some (some v) := e2
      rw [a1] at e2'; cases e2'
      refine ⟨i, s', p, by omega, z1, z2, z3, a1, by rw [List.getElem?_map, e1]; rfl, a2, a3, ?_⟩
      simp only [bOf', z1, a1]
  refine ⟨by rw [List.length_map, l1, l2], R.ext, fun k d e => ?_, fun k c e => ?_, fun k j c e => ?_, fun k l s t c c' p e1 e2 h1 h2 h3 h4 => ?_, Same.refl F, fun a o e => .inl e, fun a o e _ _ => e, fun a o e => ⟨o, e⟩, fun j p e => ?_, fun _ _ z => z.elim, ?_⟩
  · rcases g1 k _ e with ⟨d', z1, z⟩ | ⟨i, s', c', z1, z2, z3, z4⟩
    · cases z
      obtain ⟨v, e1, e2⟩ := g2 k _ z1
      exact ⟨v, by rw [List.getElem?_map, e1]; rfl, e2⟩
    · cases z4
  · rcases g1 k _ e with ⟨d', z1, z⟩ | ⟨i, s', c', z1, z2, z3, z4⟩
    · cases z
    · cases z4
  · obtain ⟨i, s', p, rfl, _, _, _, _, e1, e2, e3, e4⟩ := bw k j c e
    exact ⟨p, e1, e2, e3, e4⟩
  · have own : ∀ (k : Nat) (s : Sl) (c : Cn), sl[k]? = some s → s.cn = some c → ∃ j, s = .bw j c := fun k s c e h => by
      rcases g1 k _ e with ⟨d', z1, z⟩ | ⟨i, s', c', z1, z2, z3, z4⟩
      · subst z; cases h
      · subst z4; cases h; exact ⟨_, rfl⟩
    obtain ⟨j1, rfl⟩ := own k s c e1 h1
    obtain ⟨j2, rfl⟩ := own l t c' e2 h2
    obtain ⟨i1, s1, p1, _, o1, r1, c1, σ1, v1, _⟩ := bw k j1 c e1
    obtain ⟨i2, s2, p2, _, o2, r2, c2, σ2, v2, _⟩ := bw l j2 c' e2
    rw [h3] at v1; cases v1
    rw [h4] at v2; cases v2
    have := R.sep i1 i2 s1 s2 c c' p r1 r2 c1 c2 σ1 σ2
    subst this
    exact bors_inj hn o1 o2
  · have e' : bOf' σ os j = some p := e
    unfold bOf' at e'
    split at e'
    · rename_i i hi
      split at e'
      · rename_i q hq
        cases e'
        -- the slot is owned
        have hj : j < os.length := (List.getElem?_eq_some_iff.mp hi).1
        rw [← l1] at hj
        rcases g1 j _ (List.getElem?_eq_getElem hj) with ⟨d', z1, z⟩ | ⟨i', s', c', z1, z2, z3, z4⟩
        · rw [hi] at z1; cases z1
        · rw [hi] at z1; cases z1
          obtain ⟨p', a1, a2, a3⟩ := R.owned z2 z3
          rw [hq] at a1; cases a1
          exact a2.ex
      · cases e'
    · cases e'
  · have no : ∀ (i : Nat) (hs : List (Addr × Cn)), sl[i]? ≠ some (.pl hs) := fun i hs e => by
      rcases g1 i _ e with ⟨d', z1, z⟩ | ⟨i', s', c', z1, z2, z3, z4⟩
      · cases z
      · cases z4
    exact ⟨fun i hs e => (no i hs e).elim, fun i hs p c e => (no i hs e).elim, fun i hs p c e => (no i hs e).elim, fun i j hs hs' p c c' e => (no i hs e).elim⟩
/-- behind the call, what was not lent -/
theorem Rep.behind (R : Rep K G σ H F ρ) {vs : List V} {os : List AOp} {σ' : L2.St} {H' F' : Hp} {sl outs : SL} (hd : ADens K F σ vs os) (hm : mkArgs ρ 0 os = some sl) (R' : Rep K ⟨bOf' σ os, fun _ => False, H, F⟩ σ' H' F' outs) : Rep K G σ H' F' (wipeD ρ (bors os)) := by
  have lt : ∀ (j : Nat) (p : Addr), bOf' σ os j = some p → ∃ i s c, i ∈ bors os ∧ ρ[i]? = some s ∧ s.cn = some c ∧ σ[i]? = some (some (.ref p)) := by
    intro j p e
    unfold bOf' at e
    split at e
    · rename_i i hi
      split at e
      · rename_i q hq
        cases e
        obtain ⟨l1, g1⟩ := mkArgs_get hm
        have hj : j < os.length := (List.getElem?_eq_some_iff.mp hi).1
        rw [← l1] at hj
        rcases g1 j _ (List.getElem?_eq_getElem hj) with ⟨d', z1, z⟩ | ⟨i', s', c', z1, z2, z3, z4⟩
        · rw [hi] at z1; cases z1
        · rw [hi] at z1; cases z1
          exact ⟨i, s', c', mem_bors hi, z2, z3, hq⟩
      · cases e
    · cases e
  have nb : ∀ (i : Nat) (s : Sl) (c : Cn) (p : Addr), ρ[i]? = some s → s.cn = some c → σ[i]? = some (some (.ref p)) → i ∉ bors os → ∀ j, bOf' σ os j ≠ some p := by
    intro i s c p e1 e2 e3 hi j e
    obtain ⟨i2, s2, c2, m, a1, a2, a3⟩ := lt j p e
    have := R.sep i i2 s s2 c c2 p e1 a1 e2 a2 e3 a3
    subst this
    exact hi m
  have kp : ∀ (i : Nat) (s : Sl) (c : Cn) (p : Addr), ρ[i]? = some s → s.cn = some c → σ[i]? = some (some (.ref p)) → i ∉ bors os → Has K F H p c → F p = none → Has K F' H' p c ∧ F' p = none := by
    intro i s c p e1 e2 e3 hi hh hF
    obtain ⟨o, ho⟩ := hh.ex
    have k1 := R'.keep p o ho (fun z => z) (nb i s c p e1 e2 e3 hi)
    refine ⟨(hh.mono R'.fr0).at (k1.trans ho.symm), ?_⟩
    cases q : F' p with
    | none => rfl
    | some u =>
      rcases R'.new p u q with z | z | z
      · have z' : F p = some u := z
        rw [hF] at z'; cases z'
      · have z' : H p = none := z
        rw [ho] at z'; cases z'
      · exact (show False from z).elim
  refine ⟨by rw [wipeD_length]; exact R.len, R'.ext, fun i d e => ?_, fun i c e => ?_, fun i j c e => ?_, fun i j s t c c' p e1 e2 h1 h2 h3 h4 => ?_, R.fr0.trans R'.fr0, fun a o e => ?_, fun a o e nl nb2 => ?_, fun a o e => ?_, R.bd, R.lb, R.pl.to (fun i hs e => ?_) (fun j s c' q e1 e2 e3 => ?_) fun i hs p c e m a b d => ?_⟩
  · rcases wipeD_get e with z | ⟨z, w⟩
    · cases z
    · obtain ⟨v, a, b⟩ := R.sh i d z; exact ⟨v, a, b.mono R'.fr0⟩
  · rcases wipeD_get e with z | ⟨z, w⟩
    · cases z
    · obtain ⟨p, a, b, e2, e3⟩ := R.ow i c z
      obtain ⟨k1, k2⟩ := kp i _ c p z rfl a w b e2
      exact ⟨p, a, k1, k2, e3⟩
  · rcases wipeD_get e with z | ⟨z, w⟩
    · cases z
    · obtain ⟨p, a, b, e2, e3⟩ := R.bw i j c z
      obtain ⟨k1, k2⟩ := kp i _ c p z rfl a w b e2
      exact ⟨p, a, k1, k2, e3⟩
  · rcases wipeD_get e1 with z | ⟨z, _⟩
    · subst z; cases h1
    · rcases wipeD_get e2 with z2 | ⟨z2, _⟩
      · subst z2; cases h2
      · exact R.sep i j s t c c' p z z2 h1 h2 h3 h4
  · rcases R'.new a o e with z | z | z
    · exact R.new a o z
    · exact .inr (.inl (R.fresh z).2)
    · exact (show False from z).elim
  · refine R'.keep a o (R.keep a o e nl nb2) (fun z => z) fun j z => ?_
    obtain ⟨i2, s2, c2, m, a1, a2, a3⟩ := lt j a z
    cases s2 with
    | un => cases a2
    | pl _ => cases a2
    | sh d => cases a2
    | ow c3 =>
      obtain ⟨q, b1, _, _, b4⟩ := R.ow i2 c3 a1
      rw [a3] at b1; cases b1
      rcases b4 with b4 | b4
      · rw [e] at b4; cases b4
      · exact nl b4
    | bw k c3 =>
      obtain ⟨q, b1, _, _, b4⟩ := R.bw i2 k c3 a1
      rw [a3] at b1; cases b1
      exact nb2 k b4
  · obtain ⟨o', k1⟩ := R.dom a o e
    exact R'.dom a o' k1
  · rcases wipeD_get e with z | ⟨z, _⟩
    · cases z
    · exact z
  · rcases wipeD_get e1 with z | ⟨z, _⟩
    · subst z; cases e2
    · exact .inl ⟨s, c', z, e2, e3⟩
  · have e' : ρ[i]? = some (.pl hs) := by
      rcases wipeD_get e with z | ⟨z, _⟩
      · cases z
      · exact z
    obtain ⟨o, ho⟩ := a.ex
    have k1 := R'.keep p o ho (fun z => z) fun j z => by
      obtain ⟨i2, s2, c2, _, a1, a2, a3⟩ := lt j p z
      exact R.pl.own i hs p c e' m i2 s2 c2 a1 a2 a3
    refine ⟨(a.mono R'.fr0).at (k1.trans ho.symm), ?_, d⟩
    cases q : F' p with
    | none => rfl
    | some u =>
      rcases R'.new p u q with z | z | z
      · have z' : F p = some u := z
        rw [b] at z'; cases z'
      · have z' : H p = none := z
        rw [ho] at z'; cases z'
      · exact (show False from z).elim
theorem Rep.give {H' F' : Hp} {ρ' : SL} {i : Nat} {s : Sl} {c0 c : Cn} {p : Addr} (R : Rep K G σ H F ρ) (R' : Rep K G σ H' F' ρ') (hs : ρ[i]? = some s) (hc : s.cn = some c0) (hp : σ[i]? = some (some (.ref p))) (hh : Has K F' H' p c) (hF : F' p = none)
    (hn : Lone σ ρ' p) : Rep K G σ H' F' (ρ'.set i (s.with c)) where
  len := by rw [List.length_set]; exact R'.len
  ext := R'.ext
  sh := fun j d e => by
    rcases set_get e with ⟨_, q⟩ | ⟨_, q⟩
    · have q2 := congrArg Sl.cn q
      rw [Sl.with_cn hc] at q2; cases q2
    · exact R'.sh j d q
  ow := fun j c1 e => by
    rcases set_get e with ⟨rfl, q⟩ | ⟨_, q⟩
    · cases s with
      | un => cases hc
      | pl _ => cases hc
      | sh d => cases hc
      | bw k c2 => exact nomatch (show Sl.ow c1 = Sl.bw k c from q)
      | ow c2 =>
        have q : Sl.ow c1 = Sl.ow c := q
        cases q
        obtain ⟨q, a1, _, _, a4⟩ := R.ow j c2 hs
        rw [hp] at a1; cases a1
        exact ⟨p, hp, hh, hF, a4⟩
    · exact R'.ow j c1 q
  bw := fun j k c1 e => by
    rcases set_get e with ⟨rfl, q⟩ | ⟨_, q⟩
    · cases s with
      | un => cases hc
      | pl _ => cases hc
      | sh d => cases hc
      | ow c2 => exact nomatch (show Sl.bw k c1 = Sl.ow c from q)
      | bw k2 c2 =>
        have q : Sl.bw k c1 = Sl.bw k2 c := q
        cases q
        obtain ⟨q, a1, _, _, a4⟩ := R.bw j k c2 hs
        rw [hp] at a1; cases a1
        exact ⟨p, hp, hh, hF, a4⟩
    · exact R'.bw j k c1 q
  sep := fun j k t u c1 c2 q e1 e2 h1 h2 h3 h4 => by
    rcases set_get e1 with ⟨rfl, q1⟩ | ⟨ne, q1⟩
    · rcases set_get e2 with ⟨rfl, q2⟩ | ⟨ne2, q2⟩
      · rfl
      · rw [hp] at h3; cases h3
        exact absurd h4 (hn.1 k u c2 q2 h2)
    · rcases set_get e2 with ⟨rfl, q2⟩ | ⟨ne2, q2⟩
      · rw [hp] at h4; cases h4
        exact absurd h3 (hn.1 j t c1 q1 h1)
      · exact R'.sep j k t u c1 c2 q q1 q2 h1 h2 h3 h4
  fr0 := R'.fr0
  new := R'.new
  keep := R'.keep
  dom := R'.dom
  bd := R'.bd
  lb := R'.lb
  pl := R'.pl.to (fun j hs e => by
    rcases set_get e with ⟨_, q⟩ | ⟨_, q⟩
    · have q2 := congrArg Sl.cn q
      rw [Sl.with_cn hc] at q2; cases q2
    · exact q) (fun j t c' q e1 e2 e3 => by
    rcases set_get e1 with ⟨rfl, q1⟩ | ⟨ne, q1⟩
    · rw [hp] at e3; cases e3
      exact .inr fun i2 hs c2 e4 => hn.2 i2 hs c2 e4
    · exact .inl ⟨t, c', q1, e2, e3⟩) fun i hs q c e m a b d => ⟨a, b, d⟩
theorem Rep.gives (R : Rep K G σ H F ρ) {H' F' : Hp} {σ' : L2.St} {oouts : SL} {b : Nat → Option Addr} (RC : Rep K ⟨b, fun _ => False, H, F⟩ σ' H' F' oouts) :
    ∀ {os : List AOp} {outs : SL} {j : Nat} {ρ' ρ2 : SL}, giveB ρ j ρ' os outs = some ρ2 → (∀ (k : Nat) (s : Sl), outs[k]? = some s → oouts[j + k]? = some s) → (∀ (k i : Nat) (p : Addr), os[k]? = some (.bor i) → b (j + k) = some p → σ[i]? = some (some (.ref p))) →
      (∀ (k i : Nat), os[k]? = some (.bor i) → ∃ s c, ρ[i]? = some s ∧ s.cn = some c) → (bors os).Nodup → Rep K G σ H' F' ρ' → (∀ (k : Nat) (s : Sl) (c : Cn), ρ'[k]? = some s → s.cn = some c → k ∉ bors os ∧ ∃ s0 c0, ρ[k]? = some s0 ∧ s0.cn = some c0) → (∀ (k : Nat) (hs : List (Addr × Cn)), ρ'[k]? = some (.pl hs) → ρ[k]? = some (.pl hs)) →
      Rep K G σ H' F' ρ2
  | [], outs, j, ρ', ρ2, h, _, _, _, _, R', _, _ => by
    unfold giveB at h
    cases h; exact R'
  | .val d :: os, [], j, ρ', ρ2, h, _, _, _, _, _, _, _ => by simp [giveB] at h
  | .val d :: os, o :: outs, j, ρ', ρ2, h, ho, hb, hs, hn, R', hk, hq => by
    unfold giveB at h
    refine Rep.gives R RC (j := j + 1) h (fun k s e => by have := ho (k + 1) s e; rw [show j + (k + 1) = j + 1 + k by omega] at this; exact this) (fun k i p e1 e2 => hb (k + 1) i p e1 (by rw [show j + (k + 1) = j + 1 + k by omega]; exact e2)) (fun k i e => hs (k + 1) i e) hn R' hk hq
  | .bor i :: os, [], j, ρ', ρ2, h, _, _, _, _, _, _, _ => by simp [giveB] at h
  | .bor i :: os, .un :: outs, j, ρ', ρ2, h, _, _, _, _, _, _, _ => by simp [giveB] at h
  | .bor i :: os, .sh _ :: outs, j, ρ', ρ2, h, _, _, _, _, _, _, _ => by simp [giveB] at h
  | .bor i :: os, .ow _ :: outs, j, ρ', ρ2, h, _, _, _, _, _, _, _ => by simp [giveB] at h
  | .bor i :: os, .pl _ :: outs, j, ρ', ρ2, h, _, _, _, _, _, _, _ => by simp [giveB] at h
  | .bor i :: os, .bw k c :: outs, j, ρ', ρ2, h, ho, hb, hs, hn, R', hk, hq => by
    unfold giveB at h
    by_cases hkj : k = j
    · subst hkj
      rw [if_pos rfl] at h
      obtain ⟨s, c0, e1, e2⟩ := hs 0 i rfl
      rw [e1] at h
      have eo := ho 0 _ rfl
      obtain ⟨p, a1, a2, a3, a4⟩ := RC.bw (k + 0) k c eo
      have a4' : b (k + 0) = some p := a4
      have hp := hb 0 i p rfl a4'
      have hn' := List.nodup_cons.mp hn
      have R2 := R.give (c := c) R' e1 e2 hp a2 a3 ⟨fun l t c1 e3 e4 e5 => by
        obtain ⟨m1, s0, c2, e6, e7⟩ := hk l t c1 e3 e4
        have := R.sep l i s0 s c2 c0 p e6 e1 e7 e2 e5 hp
        subst this
        exact m1 List.mem_cons_self, fun l hs2 c2 e3 m => R.pl.own l hs2 p c2 (hq l hs2 e3) m i s c0 e1 e2 hp⟩
      refine Rep.gives R RC (j := k + 1) h (fun l s e => by have := ho (l + 1) s e; rw [show k + (l + 1) = k + 1 + l by omega] at this; exact this) (fun l i p e1 e2 => hb (l + 1) i p e1 (by rw [show k + (l + 1) = k + 1 + l by omega]; exact e2)) (fun l i e => hs (l + 1) i e) hn'.2 R2 (fun l t c1 e3 e4 => ?_) fun l hs2 e3 => ?_
      · rcases set_get e3 with ⟨rfl, q⟩ | ⟨ne, q⟩
        · exact ⟨hn'.1, s, c0, e1, e2⟩
        · obtain ⟨m1, m2⟩ := hk l t c1 q e4
          exact ⟨fun z => m1 (List.mem_cons_of_mem _ z), m2⟩
      · rcases set_get e3 with ⟨_, q⟩ | ⟨_, q⟩
        · have q2 := congrArg Sl.cn q
          rw [Sl.with_cn e2] at q2; cases q2
        · exact hq l hs2 q
    · rw [if_neg hkj] at h; cases h
theorem giveB_owned : ∀ {os : List AOp} {outs : SL} {j : Nat} {ρ' ρ2 : SL}, giveB ρ j ρ' os outs = some ρ2 → ∀ (k : Nat) (s : Sl) (c : Cn), ρ2[k]? = some s → s.cn = some c → (∃ c', ρ'[k]? = some s ∨ (∃ s0, ρ[k]? = some s0 ∧ s = s0.with c')) 
  | [], outs, j, ρ', ρ2, h, k, s, c, e, hc => by
    unfold giveB at h
    cases h; exact ⟨c, .inl e⟩
  | .val d :: os, [], j, ρ', ρ2, h, _, _, _, _, _ => by simp [giveB] at h
  | .val d :: os, o :: outs, j, ρ', ρ2, h, k, s, c, e, hc => by
    unfold giveB at h
    exact giveB_owned h k s c e hc
  | .bor i :: os, [], j, ρ', ρ2, h, _, _, _, _, _ => by simp [giveB] at h
  | .bor i :: os, .un :: outs, j, ρ', ρ2, h, _, _, _, _, _ => by simp [giveB] at h
  | .bor i :: os, .sh _ :: outs, j, ρ', ρ2, h, _, _, _, _, _ => by simp [giveB] at h
  | .bor i :: os, .ow _ :: outs, j, ρ', ρ2, h, _, _, _, _, _ => by simp [giveB] at h
  | .bor i :: os, .pl _ :: outs, j, ρ', ρ2, h, _, _, _, _, _ => by simp [giveB] at h
  | .bor i :: os, .bw l c1 :: outs, j, ρ', ρ2, h, k, s, c, e, hc => by
    unfold giveB at h
    by_cases hkj : l = j
    · rw [if_pos hkj] at h
      cases q : ρ[i]? with
      | none => rw [q] at h; cases h
      | some s0 =>
        rw [q] at h
        obtain ⟨c', z | z⟩ := giveB_owned h k s c e hc
        · rcases set_get z with ⟨rfl, w⟩ | ⟨ne, w⟩
          · exact ⟨c1, .inr ⟨s0, q, w⟩⟩
          · exact ⟨c, .inl w⟩
        · exact ⟨c', .inr z⟩
    · rw [if_neg hkj] at h; cases h
theorem giveB_pl : ∀ {os : List AOp} {outs : SL} {j : Nat} {ρ' ρ2 : SL}, giveB ρ j ρ' os outs = some ρ2 → (∀ i, i ∈ bors os → ∃ s c, ρ[i]? = some s ∧ s.cn = some c) → ∀ (k : Nat) (hs : List (Addr × Cn)), ρ2[k]? = some (.pl hs) → ρ'[k]? = some (.pl hs)
  | [], outs, j, ρ', ρ2, h, _, k, hs, e => by
    unfold giveB at h
    cases h; exact e
  | .val d :: os, [], j, ρ', ρ2, h, _, _, _, _ => by simp [giveB] at h
  | .val d :: os, o :: outs, j, ρ', ρ2, h, hb, k, hs, e => by
    unfold giveB at h
    exact giveB_pl (os := os) h hb k hs e
  | .bor i :: os, [], j, ρ', ρ2, h, _, _, _, _ => by simp [giveB] at h
  | .bor i :: os, .un :: outs, j, ρ', ρ2, h, _, _, _, _ => by simp [giveB] at h
  | .bor i :: os, .sh _ :: outs, j, ρ', ρ2, h, _, _, _, _ => by simp [giveB] at h
  | .bor i :: os, .ow _ :: outs, j, ρ', ρ2, h, _, _, _, _ => by simp [giveB] at h
  | .bor i :: os, .pl _ :: outs, j, ρ', ρ2, h, _, _, _, _ => by simp [giveB] at h
  | .bor i :: os, .bw l c1 :: outs, j, ρ', ρ2, h, hb, k, hs, e => by
    unfold giveB at h
    by_cases hkj : l = j
    · rw [if_pos hkj] at h
      obtain ⟨s0, c0, q, hc⟩ := hb i List.mem_cons_self
      rw [q] at h
      have := giveB_pl (os := os) h (fun i2 m => hb i2 (List.mem_cons_of_mem _ m)) k hs e
      rcases set_get this with ⟨_, w⟩ | ⟨_, w⟩
      · have q2 := congrArg Sl.cn w
        rw [Sl.with_cn hc] at q2; cases q2
      · exact w
    · rw [if_neg hkj] at h; cases h
theorem Sl.cn_with {s : Sl} {c c' : Cn} (h : (s.with c').cn = some c) : ∃ c0, s.cn = some c0 := by
  cases s with
  | un => cases h
  | pl _ => cases h
  | sh d => cases h
  | ow c => exact ⟨_, rfl⟩
  | bw j c => exact ⟨_, rfl⟩
end
section
variable {X : Cx}
/-- a call's reading, whatever calls -/
theorem sem_args {sp : SpD} {vs : List V} {os : List AOp} {G : Cd} {σ : L2.St} {H F : Hp} {ρ : SL} {Q : VK} {E : XK} {Qd : Rv → SL → Prop} (R : Rep X.K G σ H F ρ) (d : ADens X.K F σ vs os)
    (q : ∃ sl, mkArgs ρ 0 os = some sl ∧ (bors os).Nodup ∧ sp sl fun r outs => ∃ ρ2, giveB ρ 0 (wipeD ρ (bors os)) os outs = some ρ2 ∧ Qd r ρ2)
    (k : ∀ r ρ' v H' F', Qd r ρ' → Same F F' → Rep X.K G σ H' F' ρ' → RDen X.K G σ ρ' H' F' v r → Q v H') : lift X.K sp vs H Q E := by
  obtain ⟨sl, hm, hn, q⟩ := q
  refine ⟨bOf' σ os, F, sl, _, R.toCall d hm hn, q, fun r outs σ' v H' F' ⟨ρ2, hb, qd⟩ R' rd => ?_⟩
  have RB := R.behind d hm R'
  have own : ∀ (k i : Nat), os[k]? = some (.bor i) → ∃ s c, ρ[i]? = some s ∧ s.cn = some c := fun k i e => by
    obtain ⟨l1, g1⟩ := mkArgs_get hm
    have hj : k < os.length := (List.getElem?_eq_some_iff.mp e).1
    rw [← l1] at hj
    rcases g1 k _ (List.getElem?_eq_getElem hj) with ⟨d', z1, z⟩ | ⟨i', s', c', z1, z2, z3, z4⟩
    · rw [e] at z1; cases z1
    · rw [e] at z1; cases z1
      exact ⟨s', c', z2, z3⟩
  have R2 := R.gives R' (j := 0) hb (fun k s e => by rw [Nat.zero_add]; exact e) (fun k i p e1 e2 => by
    rw [Nat.zero_add] at e2
    unfold bOf' at e2
    rw [e1] at e2
    simp only at e2
    split at e2
    · rename_i q hq
      cases e2; exact hq
    · cases e2) own hn RB (fun k s c e hc => by
      rcases wipeD_get e with z | ⟨z, w⟩
      · subst z; cases hc
      · exact ⟨w, s, c, z, hc⟩) fun k hs e => by
      rcases wipeD_get e with z | ⟨z, _⟩
      · cases z
      · exact z
  refine k r ρ2 v H' F' qd R'.fr0 R2 ?_
  have lone : ∀ p, H p = none → Lone σ ρ2 p := fun p hpn => by
    refine ⟨fun i s c' e1 e2 e3 => ?_, fun i hs c' e1 m => ?_⟩
    · obtain ⟨c2, z⟩ := giveB_owned hb i s c' e1 e2
      have : ∃ s0 c0, ρ[i]? = some s0 ∧ s0.cn = some c0 := by
        rcases z with z | ⟨s0, z1, z2⟩
        · rcases wipeD_get z with w | ⟨w, _⟩
          · subst w; cases e2
          · exact ⟨s, c', w, e2⟩
        · subst z2
          obtain ⟨c0, h0⟩ := Sl.cn_with e2
          exact ⟨s0, c0, z1, h0⟩
      obtain ⟨s0, c0, z1, z2⟩ := this
      obtain ⟨p', b1, b2, _⟩ := R.owned z1 z2
      rw [e3] at b1; cases b1
      obtain ⟨o, ho⟩ := b2.ex
      rw [hpn] at ho; cases ho
    · have e2 := giveB_pl hb (fun i2 m2 => by
        obtain ⟨k2, ek⟩ := bors_get m2
        exact own k2 i2 ek) i hs e1
      rcases wipeD_get e2 with z | ⟨z, _⟩
      · cases z
      · obtain ⟨a, _⟩ := R.pl.has i hs p c' z m
        obtain ⟨o, ho⟩ := a.ex
        rw [hpn] at ho; cases ho
  have fresh : ∀ p, (H p = none ∨ False) → H p = none := fun p z => z.elim id False.elim
  cases r with
  | v d => exact rd
  | fr c =>
    obtain ⟨p, e, a1, a2, a3, a4⟩ := rd
    have hpn := fresh p a3
    exact ⟨p, e, a1, a2, .inl (R.fresh hpn).2, lone p hpn⟩
  | pt d hs =>
    obtain ⟨g1, g2, g3⟩ := rd
    refine ⟨g1, g2, fun p c m => ?_⟩
    obtain ⟨a1, a2, a3, _⟩ := g3 p c m
    have hpn := fresh p a3
    exact ⟨a1, a2, .inl (R.fresh hpn).2, lone p hpn⟩
/-- a def's promise, kept where no repr is under way -/
structure FnG (P : Program) (w : World) (K : PySem.W.Frag) (mg : Str → Option Value) (base : Heap) (CX : CXT) (k : Nat) (f : Addr) (fd : FuncData) (ps : List Str) (sp : Sp) : Prop where
  len : ∀ vs H Q E, sp vs H Q E → vs.length = ps.length
  run : ∀ (A : Around) (outer : List Env) (s : Shared) (H : Hp) (args : Args) (us : List Value) (vs : List V) (Q : VK) (E : XK), A.guards = some [] → Room k A → Env0 P w K mg base A outer s H → BindsTo s fd args (ps.zip us) →
    Vals vs us → sp vs H Q E → codeAny (model P w) A (.call (.ref f) args) (CR CX outer P w H s Q E) s
theorem FnG.mono {P : Program} {w : World} {K : PySem.W.Frag} {mg : Str → Option Value} {base : Heap} {CX : CXT} {j k : Nat} {f : Addr} {fd : FuncData} {ps : List Str} {sp : Sp} (h : FnG P w K mg base CX j f fd ps sp) (hjk : j ≤ k) :
    FnG P w K mg base CX k f fd ps sp := ⟨h.len, fun A o s H a us vs Q E hg hr => h.run A o s H a us vs Q E hg (hr.mono hjk)⟩
theorem FnG.call {CX : CXT} {k : Nat} {f : Addr} {fd : FuncData} {ps : List Str} {sp : Sp} {E : XK} {pins : List (Addr × Obj)} {σ : L2.St} {H : Hp} {s : Shared} {Q : VK} {us : List Value} {vs : List V}
    (h : FnG X.prog X.w X.K X.mg X.base CX k f fd ps sp) (hgd : X.A.guards = some []) (hr : Room k X.A) (hb : Binds X.K fd ps []) (hx : Passes CX X E) (I : Inv X pins σ H s) (r : Vals vs us) (q : sp vs H Q E) :
    wpAny (model X.prog X.w) X.A (PySem.call (.ref f) us) (EP X pins σ Q) X.xe s := by
  have hl : (us ++ []).length = ps.length := by rw [List.append_nil, ← r.length]; exact h.len _ _ _ _ q
  have bt := hb s us I.kIn hl
  rw [List.append_nil] at bt
  have c := h.run X.A X.stack s H ⟨us, []⟩ us vs Q E hgd hr I.env0 bt r q
  refine wpAny_call (codeAny_mono c fun res s' hq => ?_)
  match res, hq with
  | .error e, hq => exact hx pins σ H s e s' I hq
  | .ok (.ret u), hq => exact I.after hq
  | .ok .next, hq => exact False.elim hq
  | .ok .brk, hq => exact False.elim hq
  | .ok .cont, hq => exact False.elim hq
theorem pe_callG {CX : CXT} {k : Nat} {f : Addr} {fd : FuncData} {ps : List Str} {sp : Sp} {x : Str} {p pos : Pos} {e : Expr} {es : List Expr} {ta : TA} {E : XK} (h : FnG X.prog X.w X.K X.mg X.base CX k f fd ps sp) (hgd : X.A.guards = some []) (hr : Room k X.A)
    (hg : Gl X x) (hm : X.mg x = some (.ref f)) (hk : PySem.W.keepIn X.K (.ref f) = true) (hb : Binds X.K fd ps []) (hx : Passes CX X E) (ha : PA X (e :: es) ta) (hdb : (x == ("__debug__" : Str)) = false := by decide)
    (he : starEach (e :: es) X.env = (false, eval e X.env) :: starEach es X.env := by rfl) (hpl : (backTo pos (starEach es X.env)).any (·.1) = false := by rfl) : PE X (.Call (.Name x p) (e :: es) [] pos) (tCall sp [] E ta) :=
  ⟨fun pins s σ H Q I q => wpAny_Call_Name_kw (ld_glob I hg hm (PySem.W.callWith_K (h₀ := X.base) I.ok.mod.kin hk (thn (ha.run pos pins s σ H _ I q) fun us s1 ⟨vs, H1, I1, r, q1⟩ =>
    ⟨I1.kIn, h.call hgd hr hb hx I1 r (by have q2 : sp (vs ++ []) H1 Q E := q1; rw [List.append_nil] at q2; exact q2)⟩) he hpl) hdb)⟩
theorem de_call {CX : CXT} {k : Nat} {f : Addr} {fd : FuncData} {ps : List Str} {sp : SpD} {x : Str} {p pos : Pos} {e : Expr} {es : List Expr} {ta : TA} {t : TAg} {E : XK} (Fk : FnG X.prog X.w X.K X.mg X.base CX k f fd ps (lift X.K sp)) (hgd : X.A.guards = some []) (hr : Room k X.A)
    (hg : Gl X x) (hm : X.mg x = some (.ref f)) (hk : PySem.W.keepIn X.K (.ref f) = true) (hb : Binds X.K fd ps []) (hx : Passes CX X E) (ha : DAg X (e :: es) ta t) (hdb : (x == ("__debug__" : Str)) = false := by decide)
    (he : starEach (e :: es) X.env = (false, eval e X.env) :: starEach es X.env := by rfl) (hpl : (backTo pos (starEach es X.env)).any (·.1) = false := by rfl) : DE X (.Call (.Name x p) (e :: es) [] pos) (tCall (lift X.K sp) [] E ta) (dCall sp t) :=
  ⟨pe_callG Fk hgd hr hg hm hk hb hx ha.pe hdb he hpl, fun R q kk => ha.sem R q fun os ρ1 vs H1 F1 q1 s1 R1 d1 => by
    rw [List.append_nil]
    exact sem_args R1 d1 q1 fun r ρ' v H' F' qd s2 R2 rd => kk _ _ _ _ _ qd (s1.trans s2) R2 rd⟩
end
/-! ### a def's body keeps its promise -/
def clean : SL → SL := List.map fun s => match s with
  | .bw j c => .bw j c
  | _ => .un
theorem clean_get {ρ : SL} {i : Nat} {s : Sl} (h : (clean ρ)[i]? = some s) : s = .un ∨ ρ[i]? = some s := by
  unfold clean at h
  rw [List.getElem?_map] at h
  cases q : ρ[i]? with
  | none => rw [q] at h; cases h
  | some t =>
    rw [q] at h
    cases t with
    | bw j c => cases h; exact .inr rfl
    | pl _ => cases h; exact .inl rfl
    | un => cases h; exact .inl rfl
    | sh d => cases h; exact .inl rfl
    | ow c => cases h; exact .inl rfl
open PySem.Spec PyProof.Rows in
theorem fnG_of {P : Program} {w : World} {K : PySem.W.Frag} {mg : Str → Option Value} {base : Heap} {x qual : Str} {st : Stmt} {f : Addr} {fd : FuncData} {N ps : List Str} {k : Nat} {sp : Sp} {CX : CXT} (Fn : Fun K x qual st f fd) (S : FnScope N ps (defScope st))
    (len : ∀ vs H Q E, sp vs H Q E → vs.length = ps.length)
    (hbody : ∀ (cdv : Value) (A : Around) (outer : List Env) (s : Shared) (H : Hp) (vs : List V) (Q : VK) (E : XK), (A.deeper (PyProof.Rows.envOfC qual (defScope st) s.heap.objs.size f cdv)).guards = some [] → Room k (A.deeper (PyProof.Rows.envOfC qual (defScope st) s.heap.objs.size f cdv)) → sp vs H Q E →
      ∃ t, PSs (cxOf CX P w K mg base N qual (defScope st) f cdv A outer s H E) (defBody st) t ∧ t { nx := fun _ H' => Q .non H', rt := Q } (L2.start N vs) H) : FnG P w K mg base CX (k + 1) f fd ps sp := by
  obtain ⟨oc, od, kV, doc, pm, an, cdv, ct, osl, rfl, lk, hcd⟩ := Fn.ex
  refine ⟨len, fun A outer s H args us vs Q E hgd hr e0 hb r hsp => ?_⟩
  have old : ∀ b o, base.get? b = some o → s.heap.get? b = some o := fun b o e => (e0.bs b o e).1
  have KX := e0.mod.kin.keeps old
  refine codeAny_call_function hr.depth (KX _ _ lk) rfl S.co S.gen rfl (PySem.W.codeRec_of KX hcd) (hb _ _ _ _ (wpAny_newFunctionEnv_cells S.kind (fun y hy => ?_) fun env he s1 y => ?_))
  · rcases S.par y.1 (List.of_mem_zip hy).1 with q | q
    · exact Or.inl q
    · exact Or.inr ⟨q, PySem.W.cellsFrom_some _ _ _ (Or.inl q)⟩
  · subst he
    have J0 : Inv (cxOf CX P w K mg base N qual (defScope st) f cdv A outer s H E) [] (L2.start N vs) H s1 := inv_start S hr.hd e0 (len _ _ _ _ hsp) r y
    obtain ⟨t, ht, hq⟩ := hbody cdv A outer s H vs Q E hgd (hr.deeper _) hsp
    refine ⟨(e0.mod.nolimit.keeps old).keeps y.toInCall.keep, codeAny_func (wpAny_mono (ht.run [] s1 _ H _ J0 hq) (fun fl s' z => ?_) fun _ _ z => z)⟩
    match fl, z with
    | .ret u, ⟨v, _, H', J, rv, q⟩ => exact ⟨v, H', J.os, J.bare, J.base, J.hok, rv, q⟩
    | .next, ⟨_, H', J, q⟩ => exact ⟨.non, H', J.os, J.bare, J.base, J.hok, rfl, q⟩
    | .brk, ⟨_, _, _, q⟩ => exact False.elim q
    | .cont, ⟨_, _, _, q⟩ => exact False.elim q
theorem fnD {P : Program} {w : World} {K : PySem.W.Frag} {mg : Str → Option Value} {base : Heap} {x qual : Str} {st : Stmt} {f : Addr} {fd : FuncData} {N ps : List Str} {k : Nat} {sp : SpD} (Fn : Fun K x qual st f fd) (S : FnScope N ps (defScope st))
    (len : ∀ as Q, sp as Q → as.length = ps.length)
    (hbody : ∀ (cdv : Value) (A : Around) (outer : List Env) (s : Shared) (H : Hp), (A.deeper (PyProof.Rows.envOfC qual (defScope st) s.heap.objs.size f cdv)).guards = some [] → Room k (A.deeper (PyProof.Rows.envOfC qual (defScope st) s.heap.objs.size f cdv)) →
      ∃ ts t, DSs (cxOf CX0 P w K mg base N qual (defScope st) f cdv A outer s H E0).nox (defBody st) ts t ∧
        ∀ as Q, sp as Q → t { nx := fun ρ' => Q (.v .non) (clean (ρ'.take as.length)), rt := fun r ρ' => Q r (clean (ρ'.take as.length)) } (as ++ List.replicate (N.length - as.length) .un)) : FnG P w K mg base CX0 (k + 1) f fd ps (lift K sp) := by
  have lenV : ∀ vs H Q E, lift K sp vs H Q E → vs.length = ps.length := fun vs H Q E ⟨b, F, as, Qd, R, h, _⟩ => by
    have := R.len
    rw [List.length_map] at this
    rw [← this, len as _ h]
  refine fnG_of Fn S lenV fun cdv A outer s H vs Q E hgd hr h => ?_
  obtain ⟨ts, t, hD, hd⟩ := hbody cdv A outer s H hgd hr
  refine ⟨ts, hD.pe.nox, ?_⟩
  obtain ⟨b, F, as, Qd, R, q, kk⟩ := h
  have hl : as.length = vs.length := by have := R.len; rw [List.length_map] at this; exact this
  have R0 : Rep K ⟨b, fun _ => False, H, F⟩ (L2.start N vs) H F (as ++ List.replicate (N.length - as.length) .un) := by
    have R1 : Rep K ⟨b, fun _ => False, H, F⟩ (L2.start N vs) H F (as ++ List.replicate (N.length - as.length) .un) := by
      have gl : ∀ (i : Nat) (s : Sl), (as ++ List.replicate (N.length - as.length) .un)[i]? = some s → s = .un ∨ (as[i]? = some s ∧ (L2.start N vs)[i]? = (vs.map some)[i]?) := fun i s e => by
        by_cases hi : i < as.length
        · rw [List.getElem?_append_left hi] at e
          refine .inr ⟨e, ?_⟩
          unfold L2.start
          rw [List.getElem?_append_left (by rw [List.length_map, ← hl]; exact hi)]
        · rw [List.getElem?_append_right (Nat.le_of_not_lt hi)] at e
          exact .inl (List.eq_of_mem_replicate (List.mem_of_getElem? e))
      exact R.slots (by unfold L2.start; simp [hl]) gl
    exact R1
  have cl : ∀ {σ' : L2.St} {H' F' : Hp} {ρ' : SL}, Rep K ⟨b, fun _ => False, H, F⟩ σ' H' F' ρ' → Rep K ⟨b, fun _ => False, H, F⟩ (σ'.take as.length) H' F' (clean (ρ'.take as.length)) ∧
      ∀ v r, RDen K ⟨b, fun _ => False, H, F⟩ σ' ρ' H' F' v r → RDen K ⟨b, fun _ => False, H, F⟩ (σ'.take as.length) (clean (ρ'.take as.length)) H' F' v r := fun {σ' H' F' ρ'} R' => by
    have gl : ∀ (i : Nat) (s : Sl), (clean (ρ'.take as.length))[i]? = some s → s = .un ∨ (ρ'[i]? = some s ∧ (σ'.take as.length)[i]? = σ'[i]?) := fun i s e => by
      rcases clean_get e with z | z
      · exact .inl z
      · by_cases hi : i < as.length
        · rw [List.getElem?_take_of_lt hi] at z
          exact .inr ⟨z, List.getElem?_take_of_lt hi⟩
        · rw [List.getElem?_take_eq_none (Nat.le_of_not_lt hi)] at z
          cases z
    exact ⟨R'.slots (by unfold clean; rw [List.length_map, List.length_take, List.length_take, R'.len]) gl, fun v r rd => rd.slots gl⟩
  refine hD.sem R0 (hd as Qd q) ⟨fun σ' H' F' ρ' e R' => ?_, fun σ' H' F' ρ' r v e R' rd => ?_, fun _ _ _ _ e _ => e.elim, fun _ _ _ _ e _ => e.elim, fun _ _ _ _ _ _ _ e _ _ => e.elim⟩
  · exact kk _ _ _ _ _ _ e (cl R').1 .non
  · exact kk _ _ _ _ _ _ e (cl R').1 ((cl R').2 _ _ rd)
end DL
namespace DL
open PySem L2
section
variable {X : Cx}
/-! ### methods that change one's own list -/
def SemMut (K : PySem.W.Frag) (r : V → List V → Hp → VK → Prop) (g : List D → List D → (List D → D → Prop) → Prop) : Prop :=
  ∀ {F H : Hp} {p : Addr} {xs : List V} {l : List D} {vs : List V} {ds : List D} {Q : VK} {Qd : List D → D → Prop}, Same F H → H p = some (.lst xs) → DenL K F xs l → DenL K F vs ds → g l ds Qd →
    (∀ l' d xs' z, Qd l' d → DenL K F xs' l' → Den K F z d → Q z (upd H p (.lst xs'))) → r (.ref p) vs H Q
def slL (ρ : SL) (i : Nat) : Option (Sl × List D) := match ρ[i]? with
  | some s => match s.cn with
    | some (.l xs) => some (s, xs)
    | _ => none
  | none => none
theorem slL_some {ρ : SL} {i : Nat} {s : Sl} {l : List D} (h : slL ρ i = some (s, l)) : ρ[i]? = some s ∧ s.cn = some (.l l) := by
  unfold slL at h
  cases q : ρ[i]? with
  | none => rw [q] at h; cases h
  | some t =>
    rw [q] at h
    cases q2 : t.cn with
    | none => simp only [q2] at h; cases h
    | some c =>
      cases c with
      | l xs => simp only [q2] at h; cases h; exact ⟨rfl, q2⟩
      | d _ => simp only [q2] at h; cases h
      | o _ _ => simp only [q2] at h; cases h
      | k _ _ _ => simp only [q2] at h; cases h
def dMut (i : Nat) (g : List D → List D → (List D → D → Prop) → Prop) (t : TVs) : TD := fun ρ Q => (slL ρ i).isSome = true ∧ t ρ fun ds ρ1 => match slL ρ1 i with
  | some (s, l) => g l ds fun l' d => Q (.v d) (ρ1.set i (s.with (.l l')))
  | none => False
theorem sem_mut {r : V → List V → Hp → VK → Prop} {g : List D → List D → (List D → D → Prop) → Prop} {i : Nat} {ta : TA} {t : TVs} {T : String} (hT : T = "list") (hg : SemMut X.K r g)
    (ha : ∀ {G : Cd} {σ : L2.St} {H F : Hp} {ρ : SL} {Q : List V → Hp → Prop} {Qd : List D → SL → Prop}, Rep X.K G σ H F ρ → t ρ Qd →
      (∀ ds ρ' vs H' F', Qd ds ρ' → Same F F' → Rep X.K G σ H' F' ρ' → DenL X.K F' vs ds → Q vs H') → ta σ H Q)
    {G : Cd} {σ : L2.St} {H F : Hp} {ρ : SL} {Q : VK} {Qd : Rv → SL → Prop} (R : Rep X.K G σ H F ρ) (q : dMut i g t ρ Qd)
    (k : ∀ r ρ' v H' F', Qd r ρ' → Same F F' → Rep X.K G σ H' F' ρ' → RDen X.K G σ ρ' H' F' v r → Q v H') : tBM X.K T r (tVar i) ta σ H Q := by
  obtain ⟨q0, q1⟩ := q
  obtain ⟨⟨s0, l0⟩, e0⟩ := Option.isSome_iff_exists.mp q0
  obtain ⟨a0, b0⟩ := slL_some e0
  obtain ⟨p, hp, ⟨xs0, hx0, _⟩, _⟩ := R.owned a0 b0
  refine ⟨.ref p, hp, .inl ⟨hT, xs0, .inl (.inl hx0)⟩, ha R q1 fun ds ρ1 vs H1 F1 q2 s1 R1 d1 => ?_⟩
  cases e1 : slL ρ1 i with
  | none => simp only [e1] at q2
  | some sl =>
    obtain ⟨s, l⟩ := sl
    simp only [e1] at q2
    obtain ⟨a1, b1⟩ := slL_some e1
    obtain ⟨p', hp', ⟨xs, hx, dx⟩, _⟩ := R1.owned a1 b1
    rw [hp] at hp'; cases hp'
    refine hg R1.ext hx dx d1 q2 fun l' d xs' z qd d2 dz => ?_
    exact k _ _ _ _ _ qd s1 (R1.write a1 b1 hp ⟨xs', upd_same, d2⟩) dz
theorem de_mut {i : Nat} {x : Str} {px : Pos} {e : Expr} {es : List Expr} {name : Str} {apos cpos : Pos} {id : String} {r : V → List V → Hp → VK → Prop} {g : List D → List D → (List D → D → Prop) → Prop} {ta : TA} {t : TVs}
    (slot : Slot "list" name id) (hty : typeOf (.builtin id) = pure (.type "method_descriptor")) (hm : MtR X id r) (hg : SemMut X.K r g) (ho : PE X (.Name x px) (tVar i)) (ha : DV X (e :: es) ta t)
    (hbase : attributeBase (.Name x px) name X.env (eval (.Name x px) X.env) = eval (.Name x px) X.env := by rfl)
    (hfew : ((backTo cpos (starEach (e :: es) X.env)).all (fun x => !x.1) && (backToKw cpos (keywordEach [] X.env)).all (fun x => x.1.isSome)
      && decide ((e :: es).length + ([] : List Keyword).length + (if ([] : List Keyword).isEmpty then 0 else 1) < 30)) = true := by rfl)
    (hline : (apos.endLine == cpos.line) = true := by rfl) (hs : starEach (e :: es) X.env = (false, eval e X.env) :: starEach es X.env := by rfl) (hplain : (backTo cpos (starEach es X.env)).any (·.1) = false := by rfl) :
    DE X (.Call (.Attribute (.Name x px) name apos) (e :: es) [] cpos) (tBM X.K "list" r (tVar i) ta) (dMut i g t) :=
  ⟨pe_bm PySem.F.plainAttrs_list slot hty hm ho ha.pe hbase hfew hline hs hplain, fun R q k => sem_mut rfl hg ha.sem R q k⟩
def mAppend (l : List D) (ds : List D) (Q : List D → D → Prop) : Prop := match ds with
  | [d] => l.length < sizeLine ∧ Q (l ++ [d]) .non
  | _ => False
theorem sem_append : SemMut X.K rAppend mAppend := by
  intro F H p xs l vs ds Q Qd e hp dl dv h k
  unfold mAppend at h
  split at h
  · cases dv with
    | cons a b =>
      cases b
      exact ⟨p, xs, _, rfl, rfl, hp, by rw [dl.length]; exact h.1, k _ _ _ _ h.2 (dl.append (.cons a .nil)) .non⟩
  · exact h.elim
theorem de_append {i : Nat} {x : Str} {px : Pos} {e : Expr} {apos cpos : Pos} {ta : TA} {t : TVs} (ho : PE X (.Name x px) (tVar i)) (ha : DV X [e] ta t)
    (hbase : attributeBase (.Name x px) "append" X.env (eval (.Name x px) X.env) = eval (.Name x px) X.env := by rfl)
    (hfew : ((backTo cpos (starEach [e] X.env)).all (fun x => !x.1) && (backToKw cpos (keywordEach [] X.env)).all (fun x => x.1.isSome)
      && decide (([e] : List Expr).length + ([] : List Keyword).length + (if ([] : List Keyword).isEmpty then 0 else 1) < 30)) = true := by rfl)
    (hline : (apos.endLine == cpos.line) = true := by rfl) (hs : starEach [e] X.env = (false, eval e X.env) :: starEach [] X.env := by rfl) (hplain : (backTo cpos (starEach [] X.env)).any (·.1) = false := by rfl) :
    DE X (.Call (.Attribute (.Name x px) "append" apos) [e] [] cpos) (tBM X.K "list" rAppend (tVar i) ta) (dMut i mAppend t) :=
  de_mut PySem.F.slot_list_append PySem.F.type_list_append (fun pins s σ H x xs v us Q => mt_append pins s σ H x xs v us Q) sem_append ho ha hbase hfew hline hs hplain
def mInsert (l : List D) (ds : List D) (Q : List D → D → Prop) : Prop := match ds with
  | [.int i, d] => l.length < sizeLine ∧ 0 ≤ i ∧ i < 2 ^ 63 ∧ Q (l.take i.toNat ++ [d] ++ l.drop i.toNat) .non
  | _ => False
def rInsert : V → List V → Hp → VK → Prop := fun x vs H Q => ∃ (l : Addr) (xs : List V) (i : Int) (y : V), x = .ref l ∧ vs = [.int i, y] ∧ H l = some (.lst xs) ∧ xs.length < sizeLine ∧ 0 ≤ i ∧ i < 2 ^ 63 ∧
    Q .non (upd H l (.lst (xs.take i.toNat ++ [y] ++ xs.drop i.toNat)))
theorem sem_insert : SemMut X.K rInsert mInsert := by
  intro F H p xs l vs ds Q Qd e hp dl dv h k
  unfold mInsert at h
  split at h
  · cases dv with
    | cons a b =>
      cases b with
      | cons b c =>
        cases c; cases a
        exact ⟨p, xs, _, _, rfl, rfl, hp, by rw [dl.length]; exact h.1, h.2.1, h.2.2.1, k _ _ _ _ h.2.2.2 (((dl.take _).append (.cons b .nil)).append (dl.drop _)) .non⟩
  · exact h.elim
theorem de_insert {i : Nat} {x : Str} {px : Pos} {a e : Expr} {apos cpos : Pos} {ta : TA} {t : TVs} (ho : PE X (.Name x px) (tVar i)) (ha : DV X [a, e] ta t)
    (hbase : attributeBase (.Name x px) "insert" X.env (eval (.Name x px) X.env) = eval (.Name x px) X.env := by rfl)
    (hfew : ((backTo cpos (starEach [a, e] X.env)).all (fun x => !x.1) && (backToKw cpos (keywordEach [] X.env)).all (fun x => x.1.isSome)
      && decide (([a, e] : List Expr).length + ([] : List Keyword).length + (if ([] : List Keyword).isEmpty then 0 else 1) < 30)) = true := by rfl)
    (hline : (apos.endLine == cpos.line) = true := by rfl) (hs : starEach [a, e] X.env = (false, eval a X.env) :: starEach [e] X.env := by rfl) (hplain : (backTo cpos (starEach [e] X.env)).any (·.1) = false := by rfl) :
    DE X (.Call (.Attribute (.Name x px) "insert" apos) [a, e] [] cpos) (tBM X.K "list" rInsert (tVar i) ta) (dMut i mInsert t) :=
  de_mut PySem.F.slot_list_insert PySem.F.type_list_insert (r := rInsert) mt_insert sem_insert ho ha hbase hfew hline hs hplain
/-! ### stores: x[i] = e, x[i] op= e, x one's own list or dict -/
def rSetD : V → V → V → Hp → (Hp → Prop) → Prop := fun o i v H Q => ∃ a H4, o = .ref a ∧ DPut H a i v H4 ∧ Q H4
theorem set_dict (hu : X.A.units + 1 < cLine) : PSet X rSetD := by
  intro pins s σ H o i v ov iv u Q I ro ri rv h
  obtain ⟨a, H4, rfl, g, q⟩ := h
  cases ro
  exact d_setItem hu I g ri rv fun s4 I4 => ⟨H4, I4, q⟩
def rSetA : V → V → V → Hp → (Hp → Prop) → Prop := fun o i v H Q => rSetL o i v H Q ∨ rSetD o i v H Q
theorem set_any (hu : X.A.units + 1 < cLine) : PSet X rSetA := by
  intro pins s σ H o i v ov iv u Q I ro ri rv h
  rcases h with h | h
  · exact set_list pins s σ H o i v ov iv u Q I ro ri rv h
  · exact set_dict hu pins s σ H o i v ov iv u Q I ro ri rv h
/-- the content behind the store -/
def cnSet (c : Cn) (i : D) (d : D) (Q : Cn → Prop) : Prop := match c, i with
  | .l l, .int k => ∃ j, ixN l.length k = some j ∧ Q (.l (l.set j d))
  | .d kvs, y => ∃ k, y.key = some k ∧ kvs.length < sizeLine ∧ Q (.d (kPut kvs k d))
  | _, _ => False
theorem sem_store {K : PySem.W.Frag} {G : Cd} {σ : L2.St} {H F : Hp} {ρ : SL} {i : Nat} {s : Sl} {c : Cn} {p : Addr} {x v : V} {a d : D} {Q : Hp → Prop} {Qd : Cn → Prop} (R : Rep K G σ H F ρ) (h : ρ[i]? = some s) (hc : s.cn = some c) (hp : σ[i]? = some (some (.ref p)))
    (hx : Pk K F H x a) (hv : Den K F v d) (q : cnSet c a d Qd) (k : ∀ c' o, Qd c' → Rep K G σ (upd H p o) F (ρ.set i (s.with c')) → Q (upd H p o)) : rSetA (.ref p) x v H Q := by
  obtain ⟨p', hp', hh, _⟩ := R.owned h hc
  rw [hp] at hp'; cases hp'
  unfold cnSet at q
  split at q
  · obtain ⟨j, e, q⟩ := q
    cases hx.int
    obtain ⟨xs, a1, a2⟩ := hh
    exact .inl ⟨p, xs, _, j, rfl, rfl, a1, by rw [a2.length]; exact e, k _ _ q (R.write h hc hp ⟨_, upd_same, DenL.set hv j a2⟩)⟩
  · obtain ⟨k1, e, hz, q⟩ := q
    obtain ⟨ks, a1, a2⟩ := hh
    have ko := hx.keyOk e
    have := hx.key e
    subst this
    exact .inr ⟨p, _, rfl, DPut.k a1 (by rw [a2.length]; exact hz), k _ _ q (R.write h hc hp ⟨_, upd_same, a2.put hv k1 ko⟩)⟩
  · exact q.elim
def slC (ρ : SL) (i : Nat) : Option (Sl × Cn) := match ρ[i]? with
  | some s => match s.cn with
    | some c => some (s, c)
    | none => none
  | none => none
theorem slC_some {ρ : SL} {i : Nat} {s : Sl} {c : Cn} (h : slC ρ i = some (s, c)) : ρ[i]? = some s ∧ s.cn = some c := by
  unfold slC at h
  cases q : ρ[i]? with
  | none => rw [q] at h; cases h
  | some t =>
    rw [q] at h
    cases q2 : t.cn with
    | none => simp only [q2] at h; cases h
    | some c => simp only [q2] at h; cases h; exact ⟨rfl, q2⟩
def sStore (i : Nat) (te : TD) (ti : TQ) : TSD := fun E ρ => te ρ fun r ρ1 => (slC ρ1 i).isSome = true ∧ ti ρ1 fun o ρ2 => match slC ρ2 i, o.get ρ2 with
  | some (s, c), some a => cnSet c a r.dat fun c' => E.nx (ρ2.set i (s.with c'))
  | _, _ => False
theorem ds_store {i : Nat} {x : Str} {px tpos pos : Pos} {ix e : Expr} {te ti : TE} {t : TD} {u : TQ} (hu : X.A.units + 1 < cLine) (ho : PE X (.Name x px) (tVar i)) (hi : DO X ix ti u) (he : DE X e te t)
    (hpg : PG X (.Subscript (.Name x px) ix tpos) (gSub (tVar i) ti rSetA))
    (hs : swapsWithSole [.Subscript (.Name x px) ix tpos] e pos.line X.env = pure false := by rfl) (hw : swappedStores [.Subscript (.Name x px) ix tpos] e X.env = pure none := by rfl)
    (h1 : (assignEach [.Subscript (.Name x px) ix tpos] X.env).map (·.2) = [assign (.Subscript (.Name x px) ix tpos) X.env] := by rfl) :
    DS X (.Assign [.Subscript (.Name x px) ix tpos] e pos) (tAsg te (gSub (tVar i) ti rSetA)) (sStore i t u) := by
  refine ⟨ps_asg he.pe hpg hs hw h1, fun R q L => he.sem R q fun r ρ1 v H1 F1 q1 s1 R1 rd => ?_⟩
  obtain ⟨F1', s1', R1', d1⟩ := R1.share rd
  obtain ⟨q0, q1⟩ := q1
  obtain ⟨⟨s0, c0⟩, e0⟩ := Option.isSome_iff_exists.mp q0
  obtain ⟨a0, b0⟩ := slC_some e0
  obtain ⟨p, hp, _⟩ := R1'.owned a0 b0
  refine ⟨.ref p, hp, hi.sem R1' q1 fun o ρ2 y H2 F2 q2 s2 R2 d2 => ?_⟩
  cases e1 : slC ρ2 i with
  | none => simp only [e1] at q2
  | some sc =>
    obtain ⟨s, c⟩ := sc
    obtain ⟨a1, b1⟩ := slC_some e1
    cases e2 : o.get ρ2 with
    | none => simp only [e1, e2] at q2
    | some a =>
      simp only [e1, e2] at q2
      exact sem_store R2 a1 b1 hp (d2.pk R2 e2) (d1.mono s2) q2 fun c' o' qd R3 => L.nx _ _ _ _ qd R3
/-- x[i] read, for x[i] op= e -/
theorem get_list : PGet X (rIxL X.K) := by
  intro pins s σ H o i ov iv Q I rx ry h
  obtain ⟨p, xs, i, z, rfl, rfl, hq, he, q⟩ := h
  cases rx
  obtain ⟨t, rfl⟩ := ry
  obtain ⟨its, r, pl, hz⟩ := I.list hq
  obtain ⟨j, h1, h2, h3, h4, h5⟩ := atI_get he
  obtain ⟨w, ew, rw'⟩ := r.get h2
  have hl := r.length
  have hn := line63
  have fin : EP X pins σ Q w s := ⟨z, H, I, rw', q⟩
  by_cases h0 : 0 ≤ i
  · have hj : i.toNat = j := by
      rw [seqIndex_of h0 h5] at h1
      exact Option.some.inj h1
    exact wpAny_getItem_list pl.isList h0 (by omega) (by rw [hj]; simpa using ew) fin
  · have hj : (i + (its.toArray.size : Int)).toNat = j := by
      rw [seqIndex_neg (by omega) h4] at h1
      rw [List.size_toArray, ← hl]
      exact Option.some.inj h1
    exact wpAny_getItem_list_neg pl.isList (by omega) (by rw [List.size_toArray] <;> omega) (by omega) (by rw [hj]; simpa using ew) fin
theorem get_dict (hu : X.A.units + 1 < cLine) : PGet X rIxD := by
  intro pins s σ H o i ov iv Q I rx ry h
  obtain ⟨a, v, rfl, g, q⟩ := h
  cases rx
  exact d_getItem hu I g ry fun w' s3 I3 rw' => ⟨v, H, I3, rw', q⟩
def rGetA (K : PySem.W.Frag) : R2 := fun x y H Q => rIxL K x y H Q ∨ rIxD x y H Q
theorem get_any (hu : X.A.units + 1 < cLine) : PGet X (rGetA X.K) := by
  intro pins s σ H o i ov iv Q I rx ry h
  rcases h with h | h
  · exact get_list pins s σ H o i ov iv Q I rx ry h
  · exact get_dict hu pins s σ H o i ov iv Q I rx ry h
theorem gIx_dct {kvs : List (Key × D)} {y : D} {Q : Rv → Prop} : gIx (.dct kvs) y Q = ∃ k d, y.key = some k ∧ kGet kvs k = some d ∧ Q (.v d) := by cases y <;> rfl
def sAugI (i : Nat) (f : Int → Int → Int) (ti : TQ) (te : TD) : TSD := fun E ρ => (slC ρ i).isSome = true ∧ ti ρ fun o ρ1 => match slC ρ1 i, o.get ρ1 with
  | some (_, c), some a => gIx c.dat a fun old => te ρ1 fun r ρ2 => match old, r, slC ρ2 i, o.get ρ2 with
    | .v (.int m), .v (.int n), some (s, c2), some a2 => cnSet c2 a2 (.int (f m n)) fun c' => E.nx (ρ2.set i (s.with c'))
    | _, _, _, _ => False
  | _, _ => False
theorem ds_augI {i : Nat} {f : Int → Int → Int} {op : Operator} {x : Str} {px tpos pos : Pos} {ix e : Expr} {te ti : TE} {t : TD} {u : TQ} (hu : X.A.units + 1 < cLine) (ho : PE X (.Name x px) (tVar i)) (hi : DO X ix ti u) (he : DE X e te t) (hp : PIp X op (ipI f))
    (ha : ∀ ov iv new, augStore ix ov iv new = (do holding [new, ov, iv] (setItem ov iv new); release [new, ov, iv] []; pure .next) := by intros; rfl) :
    DS X (.AugAssign (.Subscript (.Name x px) ix tpos) op e pos) (tAugS (tVar i) ti te (rGetA X.K) (ipI f) rSetA) (sAugI i f u t) := by
  refine ⟨ps_augS ho hi.pe (get_any hu) he.pe hp (set_any hu) ha, fun {G σ H F ρ D E} R q L => ?_⟩
  obtain ⟨q0, q1⟩ := q
  obtain ⟨⟨s0, c0⟩, e0⟩ := Option.isSome_iff_exists.mp q0
  obtain ⟨a0, b0⟩ := slC_some e0
  obtain ⟨p, hp, _⟩ := R.owned a0 b0
  refine ⟨.ref p, hp, hi.sem R q1 fun o ρ1 y H1 F1 q1 s1 R1 d1 => ?_⟩
  cases e1 : slC ρ1 i with
  | none => simp only [e1] at q1
  | some sc =>
    obtain ⟨s1', c1⟩ := sc
    obtain ⟨a1, b1⟩ := slC_some e1
    cases e2 : o.get ρ1 with
    | none => simp only [e1, e2] at q1
    | some a =>
      simp only [e1, e2] at q1
      obtain ⟨p', hp', hh, _⟩ := R1.owned a1 b1
      rw [hp] at hp'; cases hp'
      have pk1 : Pk X.K F1 H1 (.ref p) c1.dat := .inr ⟨p, c1, rfl, rfl, hh⟩
      have rest : ∀ (old : Rv) (z : V), (te σ H1 fun y2 H3 => ipI f z y2 H3 fun z' H5 => rSetA (.ref p) y z' H5 fun H6 => D.nx σ H6) → rGetA X.K (.ref p) y H1 (fun x3 H3 => x3 = z ∧ H3 = H1) → rGetA X.K (.ref p) y H1 (fun x3 H3 => te σ H3 fun y2 H3 => ipI f x3 y2 H3 fun z' H5 => rSetA (.ref p) y z' H5 fun H6 => D.nx σ H6) := by
        intro old z hz hg
        rcases hg with ⟨p2, xs, k, v, h1, h2, h3, h4, rfl, _⟩ | ⟨a2, v, h1, h2, rfl, _⟩
        · exact .inl ⟨p2, xs, k, v, h1, h2, h3, h4, hz⟩
        · exact .inr ⟨a2, v, h1, h2, hz⟩
      have fin : ∀ (old : Rv) (z : V), RDen X.K G σ ρ1 H1 F1 z old → (t ρ1 fun r ρ2 => match old, r, slC ρ2 i, o.get ρ2 with
          | .v (.int m), .v (.int n), some (s, c2), some a2 => cnSet c2 a2 (.int (f m n)) fun c' => E.nx (ρ2.set i (s.with c'))
          | _, _, _, _ => False) → te σ H1 fun y2 H3 => ipI f z y2 H3 fun z' H5 => rSetA (.ref p) y z' H5 fun H6 => D.nx σ H6 := by
        intro old z rdz q2
        refine he.sem R1 q2 fun r ρ2 y2 H3 F3 q3 s3 R3 rd3 => ?_
        split at q3
        · rename_i m n s2 c2 a2 e4 e5
          cases rdz; cases rd3
          obtain ⟨a5, b5⟩ := slC_some e4
          exact ⟨m, n, rfl, rfl, sem_store R3 a5 b5 hp ((d1.mono s3).pk R3 e5) (.int _) q3 fun c' o' qd R4 => L.nx _ _ _ _ qd R4⟩
        · exact q3.elim
      -- what stands there
      cases c1 with
      | l l =>
        cases a with
        | int kk =>
          obtain ⟨d, e3, q2⟩ := q1
          obtain ⟨p3, xs, ep, h1, dd⟩ := pk1.lst R1.ext
          cases ep
          cases (d1.pk R1 e2).int
          obtain ⟨v, e4, dv⟩ := dd.atI e3
          exact rest (.v d) v (fin (.v d) v dv q2) (.inl ⟨p, xs, _, v, rfl, rfl, .inl (.inl h1), e4, rfl, rfl⟩)
        | _ => exact q1.elim
      | d kvs =>
        have q1' := q1
        rw [show Cn.dat (.d kvs) = .dct kvs from rfl, gIx_dct] at q1'
        obtain ⟨k1, d, ek, e3, q2⟩ := q1'
        obtain ⟨p3, ks, ep, h1, dd⟩ := pk1.dct R1.ext
        cases ep
        obtain ⟨v, e4, dv⟩ := dd.get e3
        have ey := (d1.pk R1 e2).key ek
        subst ey
        exact rest (.v d) v (fin (.v d) v dv q2) (.inr ⟨p, v, rfl, by rw [← e4]; exact DGet.k h1, rfl, rfl⟩)
      | o _ _ => cases a <;> exact q1.elim
      | k _ _ _ => cases a <;> exact q1.elim
/-! ### x op= e, x a name that holds an int -/
def sAug (i : Nat) (f : Int → Int → Int) (t : TD) : TSD := fun E ρ => match ρ[i]? with
  | some (.sh (.int m)) => t ρ fun r ρ1 => match r with
    | .v (.int n) => E.nx (ρ1.set i (.sh (.int (f m n))))
    | _ => False
  | _ => False
theorem ds_aug {i : Nat} {f : Int → Int → Int} {x : Str} {e : Expr} {te : TE} {t : TD} {op : Operator} {pos pos' : Pos} (hN : X.N.Nodup) (hi : X.N[i]? = some x) (hx : Loc X.env.scope x) (he : DE X e te t) (ho : PIp X op (ipI f))
    (hf : X.fn x = true ∨ X.env.scope.names.lookup x = some .local := by first | exact .inl rfl | exact .inr rfl | assumption) : DS X (.AugAssign (.Name x pos') op e pos) (tAug i te (ipI f)) (sAug i f t) := by
  refine ⟨ps_aug hN hi hx he.pe ho hf, fun {G σ H F ρ D E} R q L => ?_⟩
  unfold sAug at q
  split at q
  · rename_i m hm
    obtain ⟨v, a, b⟩ := R.sh i _ hm
    cases b
    refine ⟨_, a, he.sem R q fun r ρ1 y H1 F1 q1 s1 R1 rd => ?_⟩
    split at q1
    · cases rd
      exact ⟨_, _, rfl, rfl, L.nx _ _ _ _ q1 (R1.setSh (.int _) i)⟩
    · exact q1.elim
  · exact q.elim
end
end DL
namespace DL
open PySem L2
section
variable {K : PySem.W.Frag} {F H : Hp}
theorem pks1 {xs : List V} {d : D} (h : Pks K F H xs [d]) : ∃ x, xs = [x] ∧ Pk K F H x d := by
  cases h with
  | cons a b => cases b; exact ⟨_, rfl, a⟩
theorem pks2 {xs : List V} {d e : D} (h : Pks K F H xs [d, e]) : ∃ x y, xs = [x, y] ∧ Pk K F H x d ∧ Pk K F H y e := by
  cases h with
  | cons a b =>
    obtain ⟨y, rfl, h⟩ := pks1 b
    exact ⟨_, y, rfl, a, h⟩
theorem pks3 {xs : List V} {d e f : D} (h : Pks K F H xs [d, e, f]) : ∃ x y z, xs = [x, y, z] ∧ Pk K F H x d ∧ Pk K F H y e ∧ Pk K F H z f := by
  cases h with
  | cons a b =>
    obtain ⟨y, z, rfl, h⟩ := pks2 b
    exact ⟨_, y, z, rfl, a, h⟩
theorem DenL.bls : ∀ {vs : List V} {bs : List Bool}, DenL K F vs (bs.map D.bl) → vs = bs.map V.bl
  | _, [], h => by cases h; rfl
  | _, b :: bs, h => by
    cases h with
    | cons a t => cases a; rw [DenL.bls t]; rfl
theorem DenL.nums : ∀ {vs : List V} {bs : List Int}, DenL K F vs (bs.map D.int) → vs = bs.map V.int
  | _, [], h => by cases h; rfl
  | _, b :: bs, h => by
    cases h with
    | cons a t => cases a; rw [DenL.nums t]; rfl
theorem DenL.txts : ∀ {vs : List V} {bs : List Str}, DenL K F vs (bs.map D.str) → vs = bs.map V.str ∧ ∀ b ∈ bs, PyData.strOk b = true
  | _, [], h => by cases h; exact ⟨rfl, fun _ h => by simp at h⟩
  | _, b :: bs, h => by
    cases h with
    | cons a t =>
      cases a with
      | str _ o =>
        obtain ⟨e, h2⟩ := DenL.txts t
        refine ⟨by rw [e]; rfl, fun c hc => ?_⟩
        rcases List.mem_cons.mp hc with rfl | hc
        · exact o
        · exact h2 c hc
end
section
variable {X : Cx}
def gAbs : List D → (Rv → Prop) → Prop
  | [.int i] => fun Q => Q (.v (.int (if i < 0 then -i else i)))
  | _ => fun _ => False
theorem sem_abs : SemCall X.K (fun xs H Q => ∃ i, xs = [.int i] ∧ Q (.int (if i < 0 then -i else i)) H) gAbs := by
  intro G σ H F ρ xs as Q Qd R ha h k
  unfold gAbs at h
  split at h
  · obtain ⟨x, rfl, p⟩ := pks1 ha
    cases p.int
    exact ⟨_, rfl, k _ _ _ _ h (Same.refl _) R (.int _)⟩
  · exact h.elim
def gLen : List D → (Rv → Prop) → Prop
  | [.lst l] => fun Q => Q (.v (.int l.length))
  | [.tup l] => fun Q => Q (.v (.int l.length))
  | [.str x] => fun Q => x.length ≤ sizeLine ∧ Q (.v (.int x.length))
  | [.dct l] => fun Q => Q (.v (.int l.length))
  | [.scr l] => fun Q => Q (.v (.int l.length))
  | _ => fun _ => False
def rLenA (K : PySem.W.Frag) : List V → Hp → VK → Prop := fun xs H Q => (∃ x n, xs = [x] ∧ LenV K x H n ∧ Q (.int n) H) ∨ ∃ a kvs, xs = [V.ref a] ∧ H a = some (.dK kvs) ∧ Q (.int kvs.length) H
theorem call_lenA : CallR X (.builtin "len") (rLenA X.K) := call_len.or call_lenD
theorem sem_len : SemCall X.K (rLenA X.K) gLen := by
  intro G σ H F ρ xs as Q Qd R ha h k
  unfold gLen at h
  split at h
  · obtain ⟨x, rfl, p⟩ := pks1 ha
    obtain ⟨a, ys, rfl, h1, h2⟩ := p.lst R.ext
    exact .inl ⟨_, ys.length, rfl, .inl ⟨ys, .inl (.inl h1), rfl⟩, by rw [h2.length]; exact k _ _ _ _ h (Same.refl _) R (.int _)⟩
  · obtain ⟨x, rfl, p⟩ := pks1 ha
    obtain ⟨a, ys, rfl, h1, h2⟩ := p.tup
    exact .inl ⟨_, ys.length, rfl, .inr ⟨ys, .inl (.inl (R.ext _ _ h1)), rfl⟩, by rw [h2.length]; exact k _ _ _ _ h (Same.refl _) R (.int _)⟩
  · obtain ⟨x, rfl, p⟩ := pks1 ha
    cases p.str
    exact .inl ⟨_, _, rfl, ⟨h.1, rfl⟩, k _ _ _ _ h.2 (Same.refl _) R (.int _)⟩
  · obtain ⟨x, rfl, p⟩ := pks1 ha
    obtain ⟨a, ys, rfl, h1, h2⟩ := p.dct R.ext
    exact .inr ⟨a, ys, rfl, h1, by rw [h2.length]; exact k _ _ _ _ h (Same.refl _) R (.int _)⟩
  · rename_i l
    obtain ⟨x, rfl, p⟩ := pks1 ha
    obtain ⟨a, rfl, h1⟩ := p.scr R.ext
    exact .inl ⟨_, _, rfl, .inl ⟨_, h1, rfl⟩, by rw [List.length_map]; exact k _ _ _ _ h (Same.refl _) R (.int _)⟩
  · exact h.elim
def gMin : List D → (Rv → Prop) → Prop
  | [.int i, .int j] => fun Q => Q (.v (.int (min i j)))
  | [.lst l] => fun Q => ∃ ns : List Int, l = ns.map D.int ∧ 0 < ns.length ∧ ∀ m, m ∈ ns → (∀ y ∈ ns, m ≤ y) → Q (.v (.int m))
  | _ => fun _ => False
def gMax : List D → (Rv → Prop) → Prop
  | [.int i, .int j] => fun Q => Q (.v (.int (max i j)))
  | [.int i, .int j, .int k] => fun Q => Q (.v (.int (max (max i j) k)))
  | [.lst l] => fun Q => ∃ ns : List Int, l = ns.map D.int ∧ 0 < ns.length ∧ ∀ m, m ∈ ns → (∀ y ∈ ns, y ≤ m) → Q (.v (.int m))
  | _ => fun _ => False
def rMinA (K : PySem.W.Frag) : List V → Hp → VK → Prop := fun xs H Q => (∃ i j, xs = [.int i, .int j] ∧ Q (.int (if j < i then j else i)) H) ∨ rMin K xs H Q
def rMaxA (K : PySem.W.Frag) : List V → Hp → VK → Prop := fun xs H Q => (∃ i j, xs = [.int i, .int j] ∧ Q (.int (if j > i then j else i)) H) ∨ (rMax K xs H Q ∨ rNuC3 nuMax3 xs H Q)
theorem call_minA (hc : X.calm = true) : CallR X (.builtin "min") (rMinA X.K) := (call_min2 hc).or (cr_min hc)
theorem call_maxA (hc : X.calm = true) : CallR X (.builtin "max") (rMaxA X.K) := (call_max2 hc).or ((cr_max hc).or (call_max3Nu hc))
theorem sem_min : SemCall X.K (rMinA X.K) gMin := by
  intro G σ H F ρ xs as Q Qd R ha h k
  unfold gMin at h
  split at h
  · rename_i i j
    obtain ⟨x, y, rfl, p, q⟩ := pks2 ha
    cases p.int; cases q.int
    refine .inl ⟨_, _, rfl, ?_⟩
    have e : (if j < i then j else i) = min i j := by rw [Int.min_def]; split <;> split <;> omega
    rw [e]
    exact k _ _ _ _ h (Same.refl _) R (.int _)
  · obtain ⟨ns, rfl, h1, h2⟩ := h
    obtain ⟨x, rfl, p⟩ := pks1 ha
    obtain ⟨a, ys, rfl, h3, h4⟩ := p.lst R.ext
    refine .inr ⟨a, ns, rfl, by rw [← h4.nums]; exact .inl (.inl h3), h1, fun m hm hle => k _ _ _ _ (h2 m hm hle) (Same.refl _) R (.int _)⟩
  · exact h.elim
theorem nuMax_int (i j : Int) : nuMax2 (.int i) (.int j) = some (.int (max i j)) := by
  have : nuLt (.int i) (.int j) = some (decide (i < j)) := rfl
  unfold nuMax2
  rw [this]
  show some (if decide (i < j) = true then V.int j else V.int i) = _
  by_cases h : i < j
  · rw [decide_eq_true h, if_pos rfl, Int.max_eq_right (by omega)]
  · rw [decide_eq_false h, if_neg Bool.false_ne_true, Int.max_eq_left (by omega)]
theorem sem_max : SemCall X.K (rMaxA X.K) gMax := by
  intro G σ H F ρ xs as Q Qd R ha h k
  unfold gMax at h
  split at h
  · rename_i i j
    obtain ⟨x, y, rfl, p, q⟩ := pks2 ha
    cases p.int; cases q.int
    refine .inl ⟨_, _, rfl, ?_⟩
    have e : (if j > i then j else i) = max i j := by rw [Int.max_def]; split <;> split <;> omega
    rw [e]
    exact k _ _ _ _ h (Same.refl _) R (.int _)
  · rename_i i j l
    obtain ⟨x, y, z, rfl, p, q, r⟩ := pks3 ha
    cases p.int; cases q.int; cases r.int
    refine .inr (.inr ⟨_, _, _, .int (max (max i j) l), rfl, ?_, k _ _ _ _ h (Same.refl _) R (.int _)⟩)
    unfold nuMax3
    rw [nuMax_int]
    exact nuMax_int _ _
  · obtain ⟨ns, rfl, h1, h2⟩ := h
    obtain ⟨x, rfl, p⟩ := pks1 ha
    obtain ⟨a, ys, rfl, h3, h4⟩ := p.lst R.ext
    refine .inr (.inl ⟨a, ns, rfl, by rw [← h4.nums]; exact .inl (.inl h3), h1, fun m hm hle => k _ _ _ _ (h2 m hm hle) (Same.refl _) R (.int _)⟩)
  · exact h.elim
def gInt : List D → (Rv → Prop) → Prop
  | [.int i] => fun Q => Q (.v (.int i))
  | [.bl b] => fun Q => Q (.v (.int (if b then 1 else 0)))
  | _ => fun _ => False
theorem sem_int : SemCall X.K (fun xs H Q => (∃ i, xs = [.int i] ∧ Q (.int i) H) ∨ ∃ k, xs = [.bl k] ∧ Q (.int (if k then 1 else 0)) H) gInt := by
  intro G σ H F ρ xs as Q Qd R ha h k
  unfold gInt at h
  split at h
  · obtain ⟨x, rfl, p⟩ := pks1 ha
    cases p.int
    exact .inl ⟨_, rfl, k _ _ _ _ h (Same.refl _) R (.int _)⟩
  · obtain ⟨x, rfl, p⟩ := pks1 ha
    cases p.bl
    exact .inr ⟨_, rfl, k _ _ _ _ h (Same.refl _) R (.int _)⟩
  · exact h.elim
def gAny (f : List Bool → Bool) : List D → (Rv → Prop) → Prop
  | [.lst l] => fun Q => ∃ bs : List Bool, l = bs.map D.bl ∧ Q (.v (.bl (f bs)))
  | _ => fun _ => False
theorem sem_any : SemCall X.K (rAny X.K) (gAny fun bs => bs.any id) := by
  intro G σ H F ρ xs as Q Qd R ha h k
  unfold gAny at h
  split at h
  · obtain ⟨bs, rfl, h⟩ := h
    obtain ⟨x, rfl, p⟩ := pks1 ha
    obtain ⟨a, ys, rfl, h3, h4⟩ := p.lst R.ext
    exact ⟨a, bs, rfl, by rw [← h4.bls]; exact .inl (.inl h3), k _ _ _ _ h (Same.refl _) R (.bl _)⟩
  · exact h.elim
theorem sem_all : SemCall X.K (rAll X.K) (gAny fun bs => bs.all id) := by
  intro G σ H F ρ xs as Q Qd R ha h k
  unfold gAny at h
  split at h
  · obtain ⟨bs, rfl, h⟩ := h
    obtain ⟨x, rfl, p⟩ := pks1 ha
    obtain ⟨a, ys, rfl, h3, h4⟩ := p.lst R.ext
    exact ⟨a, bs, rfl, by rw [← h4.bls]; exact .inl (.inl h3), k _ _ _ _ h (Same.refl _) R (.bl _)⟩
  · exact h.elim
def gSum : List D → (Rv → Prop) → Prop
  | [.lst l] => fun Q => ∃ ns : List Int, l = ns.map D.int ∧ Q (.v (.int ns.sum))
  | _ => fun _ => False
theorem sem_sum : SemCall X.K (fun vs H Q => ∃ (a : Addr) (ns : List Int), vs = [V.ref a] ∧ SqL X.K H a (ns.map V.int) ∧ Q (.int ns.sum) H) gSum := by
  intro G σ H F ρ xs as Q Qd R ha h k
  unfold gSum at h
  split at h
  · obtain ⟨ns, rfl, h⟩ := h
    obtain ⟨x, rfl, p⟩ := pks1 ha
    obtain ⟨a, ys, rfl, h3, h4⟩ := p.lst R.ext
    exact ⟨a, ns, rfl, by rw [← h4.nums]; exact .inl (.inl h3), k _ _ _ _ h (Same.refl _) R (.int _)⟩
  · exact h.elim
def gList : List D → (Rv → Prop) → Prop
  | [.lst l] => fun Q => Q (.fr (.l l))
  | [.tup l] => fun Q => Q (.fr (.l l))
  | _ => fun _ => False
theorem sem_list : SemCall X.K (fun xs H Q => ∃ p ys, xs = [.ref p] ∧ (SqL X.K H p ys ∨ SqT X.K H p ys) ∧ ∀ l, H l = none → Q (.ref l) (upd H l (.lst ys))) gList := by
  intro G σ H F ρ xs as Q Qd R ha h k
  unfold gList at h
  split at h
  · obtain ⟨x, rfl, p⟩ := pks1 ha
    obtain ⟨a, ys, rfl, h1, h2⟩ := p.lst R.ext
    refine ⟨a, ys, rfl, .inl (.inl (.inl h1)), fun b hb => ?_⟩
    obtain ⟨R1, rd⟩ := R.allocFr hb (o := .lst ys) (c := .l _) ⟨_, upd_same, h2⟩
    exact k _ _ _ _ h (Same.refl _) R1 rd
  · obtain ⟨x, rfl, p⟩ := pks1 ha
    obtain ⟨a, ys, rfl, h1, h2⟩ := p.tup
    refine ⟨a, ys, rfl, .inr (.inl (.inl (R.ext _ _ h1))), fun b hb => ?_⟩
    obtain ⟨R1, rd⟩ := R.allocFr hb (o := .lst ys) (c := .l _) ⟨_, upd_same, h2⟩
    exact k _ _ _ _ h (Same.refl _) R1 rd
  · exact h.elim
/-! ### text.join(list) -/
theorem strOk_fold (sep : Str) (hs : PyData.strOk sep = true) : ∀ (l : List Str) (a : Str), PyData.strOk a = true → (∀ b ∈ l, PyData.strOk b = true) → PyData.strOk (⟨l.foldl (fun acc p => acc ++ sep.cps ++ p.cps) a.cps⟩ : Str) = true
  | [], a, ha, _ => ha
  | b :: l, a, ha, h => by
    rw [List.foldl_cons]
    refine strOk_fold sep hs l ⟨a.cps ++ sep.cps ++ b.cps⟩ ?_ fun c hc => h c (List.mem_cons_of_mem _ hc)
    have hb := h b List.mem_cons_self
    rw [strOk_iff] at *
    intro c hc
    have hc' : c ∈ a.cps.toList ∨ c ∈ sep.cps.toList ∨ c ∈ b.cps.toList := by
      have : c ∈ a.cps.toList ++ sep.cps.toList ++ b.cps.toList := by simpa using hc
      simpa [or_assoc] using this
    rcases hc' with z | z | z
    · exact ha c z
    · exact hs c z
    · exact hb c z
theorem strOk_join {a : Str} {ys : List Str} (ha : PyData.strOk a = true) (h : ∀ b ∈ ys, PyData.strOk b = true) : PyData.strOk (Txt.join a ys) = true := by
  cases ys with
  | nil =>
    show PyData.strOk (Builtin.Str.glued a []) = true
    simp [Builtin.Str.glued, PyData.strOk, Str.empty]
  | cons b l => exact strOk_fold a ha l b (h b List.mem_cons_self) fun c hc => h c (List.mem_cons_of_mem _ hc)
def dJoin (a : Str) (te : TQ) : TD := fun ρ Q => te ρ fun o2 ρ2 => match o2.get ρ2 with
  | some (.lst l) => ∃ ys : List Str, l = ys.map D.str ∧ (ys.map (·.length)).sum + ys.length * a.length ≤ 16777216 ∧ Q (.v (.str (Txt.join a ys))) ρ2
  | _ => False
theorem de_join {a : Str} {j : Nat} {e : Expr} {apos pos cp : Pos} {te : TE} {u : TQ} (he : DO X e te u) (ho : PyData.strOk a = true := by decide +kernel) (hs : starEach [e] X.env = [(false, eval e X.env)] := by rfl)
    (hbase : attributeBase (.Constant (.str a) j cp) "join" X.env (eval (.Constant (.str a) j cp) X.env) = eval (.Constant (.str a) j cp) X.env := by rfl) (hline : (apos.endLine == pos.line) = true := by rfl) :
    DE X (.Call (.Attribute (.Constant (.str a) j cp) "join" apos) [e] [] pos) (tM1 (fun x xs H Q => ∃ a p, ∃ ys : List Str, x = .str a ∧ xs = [.ref p] ∧ (SqL X.K H p (ys.map V.str) ∨ SqT X.K H p (ys.map V.str)) ∧
      (ys.map (·.length)).sum + ys.length * a.length ≤ 16777216 ∧ Q (.str (Txt.join a ys)) H) (tC (.str a)) te) (dJoin a u) := by
  refine ⟨pe_join pe_str he.pe hs hbase hline, fun {G σ H F ρ Q Qd} R q k => ⟨⟨a, rfl⟩, he.sem R q fun o ρ1 v H1 F1 q1 s1 R1 d1 => ?_⟩⟩
  split at q1
  · rename_i l e1
    obtain ⟨ys, rfl, hz, q1⟩ := q1
    obtain ⟨p, xs, rfl, h1, h2⟩ := (d1.pk R1 e1).lst R1.ext
    obtain ⟨rfl, h3⟩ := h2.txts
    exact ⟨a, p, ys, rfl, rfl, .inl (.inl (.inl h1)), hz, k _ _ _ _ _ q1 s1 R1 (.str _ (strOk_join ho h3))⟩
  · exact q1.elim
/-! ### x[::-1] of a list -/
def dRev (te : TQ) : TD := fun ρ Q => te ρ fun o ρ1 => match o.get ρ1 with
  | some (.lst l) => Q (.fr (.l l.reverse)) ρ1
  | _ => False
theorem de_rev {e : Expr} {te : TE} {u : TQ} {k : Nat} {p1 p2 p3 pos : Pos} (he : DO X e te u) : DE X (.Subscript e (.Slice none none (some (.UnaryOp .USub (.Constant (.int 1) k p1) p2)) p3) pos) (tRevL X.K te) (dRev u) := by
  refine ⟨pe_revL he.pe, fun {G σ H F ρ Q Qd} R q k => he.sem R q fun o ρ1 v H1 F1 q1 s1 R1 d1 => ?_⟩
  split at q1
  · rename_i l e1
    obtain ⟨p, xs, rfl, h1, h2⟩ := (d1.pk R1 e1).lst R1.ext
    refine ⟨p, xs, rfl, .inl (.inl h1), fun b hb => ?_⟩
    obtain ⟨R2, rd⟩ := R1.allocFr hb (o := .lst xs.reverse) (c := .l l.reverse) ⟨_, upd_same, h2.rev⟩
    exact k _ _ _ _ _ q1 s1 R2 rd
  · exact q1.elim
/-! ### repr of plain data -/
def rRepr (K : PySem.W.Frag) : List V → Hp → VK → Prop := fun xs H Q => ∃ x d, xs = [x] ∧ Dp K H x d ∧ d.showable = true ∧ d.hasDict = false ∧ d.depth ≤ 60 ∧ d.shown.length ≤ sizeLine ∧ Q (.str d.shown) H
theorem call_repr (hg : X.A.guards = some []) (hu : X.A.units + 64 < cLine) : CallR X (.builtin "repr") (rRepr X.K) := by
  intro pins s σ H xs us Q I r h
  obtain ⟨x, d, rfl, dp, h1, h2, h3, h4, q⟩ := h
  obtain ⟨u, rfl, r1⟩ := vals1 r
  obtain ⟨as, hr⟩ := Dp.reads I d x u dp r1
  cases dp with
  | non =>
    cases r1
    exact PySem.P.repr_of_none ⟨.str _, H, I.tok _, ⟨_, rfl⟩, by rw [PyData.shown_none] at q; exact q⟩
  | bl b =>
    cases r1
    exact PySem.P.repr_of_bool ⟨.str _, H, I.tok _, ⟨_, rfl⟩, by rw [PyData.shown_bool] at q; exact q⟩
  | int i =>
    obtain ⟨t, rfl⟩ := r1
    have h5 : i.natAbs.log2 < 1920 := by simpa [PyData.showable] using h1
    exact PySem.P.repr_of_int h5 ⟨.str _, H, I.tok _, ⟨_, rfl⟩, by rw [PyData.shown_int] at q; exact q⟩
  | str y =>
    obtain ⟨t, rfl⟩ := r1
    rw [PyData.shown_str] at q h4
    exact PySem.P.repr_of_str ⟨.str _, H, I.tok _, ⟨_, rfl⟩, q⟩ h4
  | lst a b =>
    cases r1
    exact repr_of_reads' hr h1 (fun z => by rw [h2] at z; cases z) hg (by omega) (fun _ _ e => e) (fun h' u tk hk => ⟨.str _, H, I.kept (t' := tk) hk, ⟨u, rfl⟩, q⟩) h4
  | tup a b =>
    cases r1
    exact repr_of_reads' hr h1 (fun z => by rw [h2] at z; cases z) hg (by omega) (fun _ _ e => e) (fun h' u tk hk => ⟨.str _, H, I.kept (t' := tk) hk, ⟨u, rfl⟩, q⟩) h4
mutual
/-- what may be shown: ints below 2 ^ 240 -/
def D.small : D → Bool
  | .int i => decide (i.natAbs < 2 ^ 240)
  | .lst l => D.smalls l
  | .tup l => D.smalls l
  | .dct l => D.smallk l
  | _ => true
def D.smalls : List D → Bool
  | [] => true
  | d :: r => D.small d && D.smalls r
def D.smallk : List (Key × D) → Bool
  | [] => true
  | (.inl i, d) :: r => decide (i.natAbs < 2 ^ 240) && D.small d && D.smallk r
  | (.inr _, d) :: r => D.small d && D.smallk r
end
@[simp] theorem smallk_nil : D.smallk [] = true := by rw [D.smallk]
mutual
theorem small_show : ∀ (n : Nat) (d : D), D.fit n d = true → D.small d = true → d.py.showable = true ∧ d.py.hasDict = false
  | n, .non, _, _ => by simp [D.py, PyData.showable, PyData.hasDict]
  | n, .bl _, _, _ => by simp [D.py, PyData.showable, PyData.hasDict]
  | n, .str _, _, _ => by simp [D.py, PyData.showable, PyData.hasDict]
  | n, .int i, _, h => by
    have h1 : i.natAbs < 2 ^ 240 := by simpa [D.small] using h
    have h2 : i.natAbs.log2 < 1920 := by
      by_cases h0 : i.natAbs = 0
      · rw [h0]; decide
      · exact Nat.lt_of_lt_of_le ((Nat.log2_lt h0).mpr h1) (by decide)
    simp [D.py, PyData.showable, PyData.hasDict, h2]
  | 0, .lst _, e, h => by simp [D.fit] at e
  | 0, .tup _, e, h => by simp [D.fit] at e
  | n + 1, .lst l, e, h => by
    rw [D.fit] at e
    rw [D.small] at h
    rw [D.py, PyData.showable, PyData.hasDict]
    exact smalls_show n l e h
  | n + 1, .tup l, e, h => by
    rw [D.fit] at e
    rw [D.small] at h
    rw [D.py, PyData.showable, PyData.hasDict]
    exact smalls_show n l e h
  | n, .dct _, e, _ => by simp [D.fit] at e
  | n, .obj _ _, e, _ => by simp [D.fit] at e
  | n, .scr _, e, _ => by simp [D.fit] at e
  | n, .rep _, e, _ => by simp [D.fit] at e
theorem smalls_show : ∀ (n : Nat) (l : List D), D.fits n l = true → D.smalls l = true → PyData.showableAll (D.pys l) = true ∧ PyData.hasDictAll (D.pys l) = false
  | n, [], _, _ => by simp [D.pys, PyData.showableAll, PyData.hasDictAll]
  | n, d :: r, e, h => by
    rw [D.fits, Bool.and_eq_true] at e
    rw [D.smalls, Bool.and_eq_true] at h
    obtain ⟨h1, h2⟩ := small_show n d e.1 h.1
    obtain ⟨h3, h4⟩ := smalls_show n r e.2 h.2
    rw [D.pys, PyData.showableAll, PyData.hasDictAll, h1, h2, h3, h4]
    exact ⟨rfl, rfl⟩
end
def gRepr : List D → (Rv → Prop) → Prop
  | [d] => fun Q => D.fit 60 d = true ∧ D.small d = true ∧ d.py.shown.length ≤ sizeLine ∧ Q (.v (.rep d))
  | _ => fun _ => False
theorem sem_repr : SemCall X.K (rRepr X.K) gRepr := by
  intro G σ H F ρ xs as Q Qd R ha h k
  unfold gRepr at h
  split at h
  · rename_i d
    obtain ⟨h1, h2, h3, h⟩ := h
    obtain ⟨x, rfl, p⟩ := pks1 ha
    have dd := p.den R.ext
    obtain ⟨h4, h5⟩ := small_show 60 d h1 h2
    exact ⟨x, d.py, rfl, dd.dp h1, h4, h5, (fit_lay 60 d x dd h1).2, h3, k _ _ _ _ h (Same.refl _) R (.rep d)⟩
  · exact h.elim
end
end DL
namespace DL
open PySem PySem.Spec PyProof.Rows L2
/-- the heap at the law's call: the script alone may be told -/
def scriptH (a : Addr) (o : Obj) (xs : List V) (told : Bool) : Hp := fun b => if told = true ∧ b = a then some (.frz o (.lst xs)) else none
theorem runG {P : Program} {w : World} {K : PySem.W.Frag} {mg mb : Str → Option Value} {k : Nat} {fa a : Addr} {fd : FuncData} {x : Str} {sp : Sp} {s1 : Shared} {vs : List Value} {ns : List Int}
    (KX : K.In s1.heap) (hns : s1.heap.Ns mainGlobals mg) (hb : s1.heap.Ns builtinsNs mb) (hbb : ∀ x : Str, x ≠ "__name__" → mb x = bootBuiltins x) (hlim : s1.heap.NoLimit) (hg : s1.gens = #[])
    (ha : s1.heap.get? a = some { cls := .type "list", data := .seq vs.toArray }) (hi : IntsAre vs ns) (hl : ns.length ≤ sizeLine) (hr : Room k callerA)
    (Fn : ∀ base : Heap, K.In base → base.Ns mainGlobals mg → FnG P w K mg base CX0 k fa fd [x] sp) (hbind : ∀ (s : Shared) (u : Value), BindsTo s fd ⟨[u], []⟩ [(x, u)])
    (hsp : ∀ H : Hp, SqL K H a (ns.map V.int) → sp [.ref a] H (fun v _ => v = .bl true) fun _ _ _ => False) :
    codeAny (model P w) callerA (.call (.ref fa) ⟨[.ref a], []⟩) (fun r s' => r = .ok (.ret (.bool true)) ∧ OldK s1.heap s'.heap ∧ s'.os = s1.os ∧ AllBare s'.gens) s1 := by
  have told : ∃ t : Bool, SqL K (scriptH a { cls := .type "list", data := .seq vs.toArray } (ns.map V.int) t) a (ns.map V.int) ∧ (t = true → K.lookup a = none) := by
    cases hk : K.lookup a with
    | none => exact ⟨true, .inl (.inr ⟨_, if_pos ⟨rfl, rfl⟩⟩), fun _ => rfl⟩
    | some o =>
      have e := KX a o hk
      rw [ha] at e
      cases e
      exact ⟨false, .inr ⟨_, vs.toArray, _, hk, rfl, rfl, rfl, by rw [List.size_toArray, hi.length]; exact hl, vals_ints hi⟩, fun z => by cases z⟩
  obtain ⟨t, hS, hK⟩ := told
  have only : ∀ b u, scriptH a { cls := .type "list", data := .seq vs.toArray } (ns.map V.int) t b = some u → b = a ∧ t = true ∧ u = .frz { cls := .type "list", data := .seq vs.toArray } (.lst (ns.map V.int)) := fun b u e => by
    unfold scriptH at e
    by_cases q : t = true ∧ b = a
    · rw [if_pos q] at e
      cases e
      exact ⟨q.2, q.1, rfl⟩
    · rw [if_neg q] at e; cases e
  generalize scriptH a { cls := .type "list", data := .seq vs.toArray } (ns.map V.int) t = H at hS only
  have free : ∀ {b : Addr} {o : Obj} {es : Array DictEntry} {ep : Nat}, s1.heap.get? b = some o → o.data = .dict es ep → H b = none := fun {b o es ep} e d => by
    cases q : H b with
    | none => rfl
    | some u =>
      obtain ⟨rfl, _, _⟩ := only b u q
      rw [ha] at e; cases e
      cases (show Data.seq vs.toArray _ = Data.dict es ep from d)
  have nsH : ∀ {b : Addr} {m : Str → Option Value}, s1.heap.Ns b m → (hidT s1.heap H).Ns b m := fun {b m} ⟨o, es, ep, e, d, r⟩ => ⟨o, es, ep, hidT_get e (free e d), d, r⟩
  have hKb : K.In (hidT s1.heap H) := fun b o e => hidT_get (KX b o e) (by
    cases q : H b with
    | none => rfl
    | some u =>
      obtain ⟨rfl, z, _⟩ := only b u q
      rw [hK z] at e; cases e)
  obtain ⟨mc, lim1, lim2⟩ := hlim
  have ok : HOk P w H s1.heap := fun b u e => by
    obtain ⟨rfl, _, rfl⟩ := only b u e
    exact ⟨ha, by rw [List.length_map]; exact hl, vs, 0, vals_ints hi, ha⟩
  have e0 : Env0 P w K mg (hidT s1.heap H) callerA [] s1 H := ⟨rfl, ⟨hKb, nsH hns, ⟨mb, nsH hb, hbb⟩, mc, nsH lim1, lim2⟩, fun b o e => of_hidT e, Nat.le_of_eq (hidT_size _ _), trivial, (fun b hb => nomatch hb), ok, .of_eq hg⟩
  refine codeAny_mono ((Fn _ hKb (nsH hns)).run callerA [] s1 H ⟨[.ref a], []⟩ [.ref a] [.ref a] _ _ rfl hr e0 (hbind s1 (.ref a)) (.cons rfl .nil) (hsp H hS)) fun r s' h => ?_
  match r, h with
  | .error e, h => exact False.elim h
  | .ok .next, h => exact False.elim h
  | .ok .brk, h => exact False.elim h
  | .ok .cont, h => exact False.elim h
  | .ok (.ret u), ⟨v, H', os, bare, un, hok', r', q⟩ =>
    obtain rfl : v = .bl true := q
    obtain rfl : u = Value.bool true := r'
    refine ⟨rfl, OldK.of_keep fun b o e => ?_, os, bare⟩
    cases q : H b with
    | none => exact un.keep b o e q (fun z => nomatch z) (fun z => nomatch z)
    | some u =>
      obtain ⟨rfl, _, rfl⟩ := only b u q
      rw [ha] at e; cases e
      exact (hok' _ _ (un.frzs _ _ _ q)).1
/-- the goal that k_head leaves, from the law's promise over data -/
theorem walkG {l : PySem.W.OpenLaw} {n k : Nat} {q : Program} {loose : List Str} {XP : (Str → Option Value) → Heap → Prop} {YP : World → Heap → Prop} {d : DefRec} {K : Params → PySem.W.Frag} {x : Str}
    (hn : l.most = some n) (hn2 : n ≤ sizeLine) (hdf : d.params.defaults = []) (hr : Room k callerA)
    (hY : ∀ (w : World) (h : Heap), YP w h → (K w.params).In h)
    (Fn : ∀ (w : World) (mg : Str → Option Value) (fa : Addr) (h : Heap), (K w.params).In h → h.Ns mainGlobals mg → mg d.name = some (.ref fa) →
      ∃ fd : FuncData, (∀ (s : Shared) (u : Value), BindsTo s fd ⟨[u], []⟩ [(x, u)]) ∧
        ∀ base : Heap, (K w.params).In base → base.Ns mainGlobals mg → FnG l.prog w (K w.params) mg base CX0 k fa fd [x] (lift (K w.params) fun as Q => ∃ ns : List Int, as = [.sh (.scr ns)] ∧ ns.length ≤ n ∧ ∀ o, Q (.v (.bl true)) o)) :
    PySem.W.WalkO q loose XP YP l.row.toRowW d [] (fun f vs => PySem.call f vs) := by
  refine Att.attach_call hn hdf fun w s0 s1 mg mb fa o pm cd doc a vs ns G Y ho hd hcd hmg hobj hints hlen hg => ?_
  have KX := hY w _ Y
  obtain ⟨fd, hb, hF⟩ := Fn w mg fa _ KX G.T.g hmg
  refine runG KX G.T.g G.T.b G.T.builtins G.T.nolimit hg hobj hints (Nat.le_trans hlen hn2) hr hF hb fun H hS => ?_
  have R0 : Rep (K w.params) ⟨fun _ => none, fun _ => False, H, H⟩ [some (V.ref a)] H H [.sh (.scr ns)] := by
    refine { len := rfl, ext := Same.refl H, sh := fun i dd e => ?_, ow := fun i c e => ?_, bw := fun i j c e => ?_, sep := fun i j s t c c' p e1 e2 h1 h2 h3 h4 => ?_, fr0 := Same.refl H, new := fun _ _ e => .inl e, keep := fun _ _ e _ _ => e, dom := fun a o e => ⟨o, e⟩, bd := fun _ _ e => ?_, lb := fun _ _ z => ?_, pl := ?_ }
    · cases i with
      | zero =>
        cases e
        exact ⟨.ref a, rfl, .scr hS⟩
      | succ i => cases e
    · cases i with
      | zero => cases e
      | succ i => cases e
    · cases i with
      | zero => cases e
      | succ i => cases e
    · cases i with
      | zero => cases e1; cases h1
      | succ i => cases e1
    · cases e
    · exact (show False from z).elim
    · have no : ∀ (i : Nat) (hs : List (Addr × Cn)), ([.sh (.scr ns)] : SL)[i]? ≠ some (.pl hs) := fun i hs e => by
        cases i with
        | zero => cases e
        | succ i => cases e
      exact ⟨fun i hs e => (no i hs e).elim, fun i hs p c e => (no i hs e).elim, fun i hs p c e => (no i hs e).elim, fun i j hs hs' p c c' e => (no i hs e).elim⟩
  refine ⟨fun _ => none, H, [.sh (.scr ns)], fun r _ => r = .v (.bl true), R0, ⟨ns, rfl, hlen, fun _ => rfl⟩, fun r outs σ' v H' F' hq R rd => ?_⟩
  cases hq
  cases rd
  rfl
end DL
namespace DL
open PySem L2
/-! ### short words for the printed terms -/
structure Cal (P : Program) (w : World) (K : PySem.W.Frag) (mg : Str → Option Value) (base : Heap) (k : Nat) (x : Str) (f : Addr) (fd : FuncData) (ps : List Str) (sp : SpD) : Prop where
  g : mg x = some (.ref f)
  kp : PySem.W.keepIn K (.ref f) = true
  b : Binds K fd ps []
  ok : FnG P w K mg base CX0 k f fd ps (lift K sp)
theorem hu1 {A : Around} {k : Nat} (hr : Room k A) : A.units + 1 < cLine := by have := hr.un; omega
theorem hu64 {A : Around} {k : Nat} (hr : Room k A) : A.units + 64 < cLine := by have := hr.un; omega
theorem hu65 {A : Around} {k : Nat} (hr : Room k A) : A.units + 65 < cLine := by have := hr.un; omega
section
variable {X : Cx}
theorem sem_lt : SemOp X.K (rI0 fun i j => .bl (decide (i < j))) (gCmpI fun i j => decide (i < j)) := sem_cmpI
theorem sem_le : SemOp X.K (rI0 fun i j => .bl (decide (i ≤ j))) (gCmpI fun i j => decide (i ≤ j)) := sem_cmpI
theorem sem_gt : SemOp X.K (rI0 fun i j => .bl (decide (j < i))) (gCmpI fun i j => decide (j < i)) := sem_cmpI
theorem sem_ge : SemOp X.K (rI0 fun i j => .bl (decide (j ≤ i))) (gCmpI fun i j => decide (j ≤ i)) := sem_cmpI
theorem call_intA : CallR X (.type "int") (fun xs H Q => (∃ i, xs = [.int i] ∧ Q (.int i) H) ∨ ∃ k, xs = [.bl k] ∧ Q (.int (if k then 1 else 0)) H) := call_int1
theorem sem_intA : SemCall X.K (fun xs H Q => (∃ i, xs = [.int i] ∧ Q (.int i) H) ∨ ∃ k, xs = [.bl k] ∧ Q (.int (if k then 1 else 0)) H) gInt := sem_int
def sRetN : TSD := fun E ρ => E.rt (.v .non) ρ
theorem ds_retN {pos : Pos} : DS X (.Return none pos) tRetN sRetN := ⟨ps_retN, fun R q L => L.rt _ _ _ _ _ _ q R .non⟩
theorem de_globI {x : Str} {i : Int} {t : Tok} {pos : Pos} (hg : Gl X x) (hm : X.mg x = some (.int i t)) (hd : (x == ("__debug__" : Str)) = false := by decide) : DE X (.Name x pos) (tC (.int i)) (dC (.int i)) :=
  ⟨pe_glob hg hm ⟨t, rfl⟩ hd, fun R h k => k _ _ _ _ _ h (Same.refl _) R (.int i)⟩
theorem de_globS {x : Str} {i : Str} {t : Tok} {pos : Pos} (hg : Gl X x) (hm : X.mg x = some (.str i t)) (hi : PyData.strOk i = true := by decide +kernel) (hd : (x == ("__debug__" : Str)) = false := by decide) : DE X (.Name x pos) (tC (.str i)) (dC (.str i)) :=
  ⟨pe_glob hg hm ⟨t, rfl⟩ hd, fun R h k => k _ _ _ _ _ h (Same.refl _) R (.str i hi)⟩
abbrev Bk (α : Type) := Shared → Hp → Addr → List (Str × Addr) → List Addr → α
/-- a comprehension whose parts are told within its block -/
theorem de_lcF {elt iter : Expr} {ifs : List Expr} {scope : Scope} {own : List (Str × Nat)} {pos : Pos} {wi : TI} {g : Bk TG} {tt : Bk TT} {te : Bk TE} {t : TSrcC} {gd : TGd} {dt : TB} {de : TD} (hc : X.calm = true) (hN : X.N.Nodup)
    (hi : DIc X tg iter wi t) (ok : BlkOk X.N X.env.scope scope own)
    (hg : ∀ (s : Shared) (H : Hp) (C : Addr) (cl : List (Str × Addr)) (fp : List Addr), DG (X.blk s H scope (compEnvC scope cl C X.env) fp) tg (own.map (·.2)) (g s H C cl fp) gd)
    (ht : ∀ (s : Shared) (H : Hp) (C : Addr) (cl : List (Str × Addr)) (fp : List Addr), DTs (X.blk s H scope (compEnvC scope cl C X.env) fp) ifs (tt s H C cl fp) dt)
    (he : ∀ (s : Shared) (H : Hp) (C : Addr) (cl : List (Str × Addr)) (fp : List Addr), DE (X.blk s H scope (compEnvC scope cl C X.env) fp) elt (te s H C cl fp) de)
    (eg : ∀ s H C cl fp, g s H C cl fp = g X.s_0 H 0 [] [] := by intros; rfl) (et : ∀ s H C cl fp, tt s H C cl fp = tt X.s_0 H 0 [] [] := by intros; rfl) (ee : ∀ s H C cl fp, te s H C cl fp = te X.s_0 H 0 [] [] := by intros; rfl)
    (eg' : ∀ H, g X.s_0 H 0 [] [] = g X.s_0 (fun _ => none) 0 [] [] := by intros; rfl) (et' : ∀ H, tt X.s_0 H 0 [] [] = tt X.s_0 (fun _ => none) 0 [] [] := by intros; rfl) (ee' : ∀ H, te X.s_0 H 0 [] [] = te X.s_0 (fun _ => none) 0 [] [] := by intros; rfl)
    (hs : ∀ x, foldedSetIterable iter X.env x = pure x := by intro _; rfl) :
    DE X (.ListComp elt [⟨tg, iter, ifs, 0⟩] scope pos) (tLc wi (g X.s_0 (fun _ => none) 0 [] []) (tt X.s_0 (fun _ => none) 0 [] []) (te X.s_0 (fun _ => none) 0 [] []) (own.map (·.2))) (dLc t gd dt de (own.map (·.2))) :=
  de_lc hc hN hi ok (fun s H C cl fp => by rw [← eg' H, ← eg s H C cl fp]; exact hg s H C cl fp) (fun s H C cl fp => by rw [← et' H, ← et s H C cl fp]; exact ht s H C cl fp) (fun s H C cl fp => by rw [← ee' H, ← ee s H C cl fp]; exact he s H C cl fp) hs
theorem ds_setLcF {i : Nat} {y : Str} {py : Pos} {elt iter : Expr} {ifs : List Expr} {scope : Scope} {own : List (Str × Nat)} {pos spos : Pos} {wi : TI} {g : Bk TG} {tt : Bk TT} {te : Bk TE} {t : TSrcC} {gd : TGd} {dt : TB} {de : TD} (hc : X.calm = true) (hN : X.N.Nodup)
    (hy : X.N[i]? = some y) (hyl : X.env.scope.names.lookup y = some .local)
    (hsw : swapsWith (.ListComp elt [⟨tg, iter, ifs, 0⟩] scope pos) (some (.Name y py)) spos.line X.env = pure true) (hi : DIc X tg iter wi t) (ok : BlkOk X.N X.env.scope scope own)
    (hg : ∀ (s : Shared) (H : Hp) (C : Addr) (cl : List (Str × Addr)) (fp : List Addr), DG (X.blk s H scope (compEnvC scope cl C X.env) fp) tg (own.map (·.2)) (g s H C cl fp) gd)
    (ht : ∀ (s : Shared) (H : Hp) (C : Addr) (cl : List (Str × Addr)) (fp : List Addr), DTs (X.blk s H scope (compEnvC scope cl C X.env) fp) ifs (tt s H C cl fp) dt)
    (he : ∀ (s : Shared) (H : Hp) (C : Addr) (cl : List (Str × Addr)) (fp : List Addr), DE (X.blk s H scope (compEnvC scope cl C X.env) fp) elt (te s H C cl fp) de)
    (eg : ∀ s H C cl fp, g s H C cl fp = g X.s_0 H 0 [] [] := by intros; rfl) (et : ∀ s H C cl fp, tt s H C cl fp = tt X.s_0 H 0 [] [] := by intros; rfl) (ee : ∀ s H C cl fp, te s H C cl fp = te X.s_0 H 0 [] [] := by intros; rfl)
    (eg' : ∀ H, g X.s_0 H 0 [] [] = g X.s_0 (fun _ => none) 0 [] [] := by intros; rfl) (et' : ∀ H, tt X.s_0 H 0 [] [] = tt X.s_0 (fun _ => none) 0 [] [] := by intros; rfl) (ee' : ∀ H, te X.s_0 H 0 [] [] = te X.s_0 (fun _ => none) 0 [] [] := by intros; rfl)
    (hs : ∀ x, foldedSetIterable iter X.env x = pure x := by intro _; rfl) :
    DS X (.Assign [.Name y py] (.ListComp elt [⟨tg, iter, ifs, 0⟩] scope pos) spos) (tAsg (tLc wi (g X.s_0 (fun _ => none) 0 [] []) (tt X.s_0 (fun _ => none) 0 [] []) (te X.s_0 (fun _ => none) 0 [] []) (own.map (·.2))) (gName i)) (sSet i (dLc t gd dt de (own.map (·.2)))) :=
  ds_setLc hc hN hy hyl hsw hi ok (fun s H C cl fp => by rw [← eg' H, ← eg s H C cl fp]; exact hg s H C cl fp) (fun s H C cl fp => by rw [← et' H, ← et s H C cl fp]; exact ht s H C cl fp) (fun s H C cl fp => by rw [← ee' H, ← ee s H C cl fp]; exact he s H C cl fp) hs
end
end DL
namespace DL
open PySem L2
theorem le_size {n : Nat} (h : n ≤ 16777216) : n ≤ sizeLine := by rw [sizeLine_eq]; omega
theorem lt_size {n : Nat} (h : n < 16777216) : n < sizeLine := by rw [sizeLine_eq]; omega
/-! ### loops, by what holds before each round -/
theorem forL_on {α : Type} (f : α → D) {g : TGd} {b : TSD} {E : EndsD} (I : List α → List α → SL → Prop) {l : List α} {ρ : SL} (hI : I [] l ρ) (h0 : ∀ ρ, I l [] ρ → E.nx ρ)
    (h1 : ∀ (p : List α) (x : α) (r : List α) (ρ : SL) (N : SL → Prop), l = p ++ x :: r → (∀ ρ', I (p ++ [x]) r ρ' → N ρ') → I p (x :: r) ρ → g (f x) ρ fun ρ1 => b { nx := N, rt := E.rt, bk := E.nx, ct := N, xc := E.xc } ρ1) : forL g b E (l.map f) ρ := by
  have key : ∀ (r p : List α) (ρ : SL), l = p ++ r → I p r ρ → forL g b E (r.map f) ρ := by
    intro r
    induction r with
    | nil => intro p ρ e h; rw [List.append_nil] at e; subst e; exact h0 _ h
    | cons x r ih => intro p ρ e h; exact h1 p x r ρ _ e (fun ρ' h' => ih (p ++ [x]) ρ' (by rw [e]; simp) h') h
  exact key l [] ρ rfl hI
theorem forL_rng {g : TGd} {b : TSD} {E : EndsD} {lo c : Int} {n : Nat} (I : Nat → SL → Prop) {ρ : SL} (hI : I 0 ρ) (h0 : ∀ ρ, I n ρ → E.nx ρ)
    (h1 : ∀ (i : Nat) (ρ : SL) (N : SL → Prop), i < n → (∀ ρ', I (i + 1) ρ' → N ρ') → I i ρ → g (.int (lo + (i : Int) * c)) ρ fun ρ1 => b { nx := N, rt := E.rt, bk := E.nx, ct := N, xc := E.xc } ρ1) : forL g b E (rangeC lo c n) ρ := by
  unfold rangeC
  refine forL_on _ (fun p r ρ => I p.length ρ) hI (fun ρ h => h0 ρ (by rw [List.length_range] at h; exact h)) fun p x r ρ N e hN h => ?_
  have hp : x = p.length := by
    have := congrArg (fun l => l[p.length]?) e
    simp only [List.getElem?_append_right (Nat.le_refl _), Nat.sub_self, List.getElem?_cons_zero] at this
    by_cases q : p.length < n
    · rw [List.getElem?_range q] at this; cases this; rfl
    · rw [List.getElem?_eq_none (by rw [List.length_range]; omega)] at this; cases this
  have hl : p.length < n := by
    have := congrArg List.length e
    rw [List.length_range, List.length_append, List.length_cons] at this
    omega
  subst hp
  exact h1 p.length ρ N hl (fun ρ' h' => hN ρ' (by rw [List.length_append]; exact h')) h
theorem lcL_on {α : Type} (f : α → D) {g : TGd} {tt : TB} {te : TD} {vs : List Nat} {Q : List D → SL → Prop} (I : List α → List α → List D → SL → Prop) {l : List α} {ρ : SL} (hI : I [] l [] ρ) (h0 : ∀ acc ρ, I l [] acc ρ → Q acc ρ)
    (h1 : ∀ (p : List α) (x : α) (r : List α) (acc : List D) (ρ : SL) (N : List D → SL → Prop), l = p ++ x :: r → (∀ acc' ρ', I (p ++ [x]) r acc' ρ' → N acc' ρ') → I p (x :: r) acc ρ →
      g (f x) ρ fun ρ1 => tt ρ1 fun b ρ2 => if b = true then te ρ2 fun rv ρ3 => acc.length < sizeLine ∧ N (acc ++ [rv.dat]) (wipeD ρ3 vs) else N acc (wipeD ρ2 vs)) : lcL g tt te vs Q (l.map f) [] ρ := by
  have key : ∀ (r p : List α) (acc : List D) (ρ : SL), l = p ++ r → I p r acc ρ → lcL g tt te vs Q (r.map f) acc ρ := by
    intro r
    induction r with
    | nil => intro p acc ρ e h; rw [List.append_nil] at e; subst e; exact h0 _ _ h
    | cons x r ih =>
      intro p acc ρ e h
      exact h1 p x r acc ρ (fun acc ρ => lcL g tt te vs Q (r.map f) acc ρ) e (fun acc' ρ' h' => ih (p ++ [x]) acc' ρ' (by rw [e]; simp) h') h
  exact key l [] [] ρ rfl hI
theorem lcL_rng {g : TGd} {tt : TB} {te : TD} {vs : List Nat} {Q : List D → SL → Prop} {lo c : Int} {n : Nat} (I : Nat → List D → SL → Prop) {ρ : SL} (hI : I 0 [] ρ) (h0 : ∀ acc ρ, I n acc ρ → Q acc ρ)
    (h1 : ∀ (i : Nat) (acc : List D) (ρ : SL) (N : List D → SL → Prop), i < n → (∀ acc' ρ', I (i + 1) acc' ρ' → N acc' ρ') → I i acc ρ →
      g (.int (lo + (i : Int) * c)) ρ fun ρ1 => tt ρ1 fun b ρ2 => if b = true then te ρ2 fun rv ρ3 => acc.length < sizeLine ∧ N (acc ++ [rv.dat]) (wipeD ρ3 vs) else N acc (wipeD ρ2 vs)) : lcL g tt te vs Q (rangeC lo c n) [] ρ := by
  unfold rangeC
  refine lcL_on _ (fun p r acc ρ => I p.length acc ρ) hI (fun acc ρ h => h0 acc ρ (by rw [List.length_range] at h; exact h)) fun p x r acc ρ N e hN h => ?_
  have hp : x = p.length := by
    have := congrArg (fun l => l[p.length]?) e
    simp only [List.getElem?_append_right (Nat.le_refl _), Nat.sub_self, List.getElem?_cons_zero] at this
    by_cases q : p.length < n
    · rw [List.getElem?_range q] at this; cases this; rfl
    · rw [List.getElem?_eq_none (by rw [List.length_range]; omega)] at this; cases this
  have hl : p.length < n := by
    have := congrArg List.length e
    rw [List.length_range, List.length_append, List.length_cons] at this
    omega
  subst hp
  exact h1 p.length acc ρ N hl (fun acc' ρ' h' => hN acc' ρ' (by rw [List.length_append]; exact h')) h
/-! ### places -/
theorem ixN_ok {n : Nat} {k : Nat} (h : k < n) : ixN n (k : Int) = some k := by
  unfold ixN
  rw [if_pos (by omega), if_pos (by omega)]
  rfl
theorem ixN_int {n : Nat} {k : Int} (h0 : 0 ≤ k) (h : k < n) : ixN n k = some k.toNat := by
  unfold ixN
  rw [if_pos h0, if_pos h]
theorem atI_int {α : Type} {l : List α} {k : Int} {x : α} (h0 : 0 ≤ k) (h : l[k.toNat]? = some x) : atI l k = some x := by
  unfold atI
  have := (List.getElem?_eq_some_iff.mp h).1
  rw [ixN_int h0 (by omega)]
  exact h
theorem atI_last {α : Type} {l : List α} {x : α} (h : l.getLast? = some x) : atI l (-1) = some x := by
  have hl : 0 < l.length := by
    cases l with
    | nil => cases h
    | cons a r => simp
  unfold atI ixN
  rw [if_neg (by omega), if_pos (by omega)]
  have e : ((-1 : Int) + l.length).toNat = l.length - 1 := by omega
  show l[((-1 : Int) + l.length).toNat]? = some x
  rw [e, ← List.getLast?_eq_getElem?]
  exact h
/-! ### cuts -/
theorem cut_to {α : Type} (l : List α) (k : Nat) : cut l none (some (k : Int)) = l.take k := by
  unfold cut
  rw [HT.sIx_none, HT.sIx_nat]
  simp
theorem cut_from {α : Type} (l : List α) (k : Nat) : cut l (some (k : Int)) none = l.drop k := by
  unfold cut
  rw [HT.sIx_none, HT.sIx_nat]
  by_cases h : k ≤ l.length
  · rw [Nat.min_eq_left h]
    exact List.take_of_length_le (by rw [List.length_drop]; omega)
  · rw [Nat.min_eq_right (by omega), List.drop_eq_nil_of_le (Nat.le_refl _), List.drop_eq_nil_of_le (by omega), List.take_nil]
theorem cut_le {α : Type} (l : List α) (lo hi : Option Int) : (cut l lo hi).length ≤ l.length := by
  unfold cut
  rw [List.length_take, List.length_drop]
  omega
theorem cut_mem {α : Type} {l : List α} {lo hi : Option Int} {x : α} (h : x ∈ cut l lo hi) : x ∈ l := by
  unfold cut at h
  exact List.mem_of_mem_drop (List.mem_of_mem_take h)
theorem cut_map {α β : Type} (f : α → β) (l : List α) (lo hi : Option Int) : cut (l.map f) lo hi = (cut l lo hi).map f := by
  unfold cut
  rw [List.length_map, List.map_take, List.map_drop]
/-! ### cuts between statements -/
theorem sSeq_cut {t u : TSD} {E : EndsD} {ρ : SL} (M : SL → Prop) (h1 : ∀ N : SL → Prop, (∀ ρ', M ρ' → N ρ') → t { E with nx := N } ρ) (h2 : ∀ ρ', M ρ' → u E ρ') : sSeq t u E ρ := h1 _ h2
theorem sSeq_go {t u : TSD} {E : EndsD} {ρ : SL} (h1 : ∀ N : SL → Prop, (∀ ρ', u E ρ' → N ρ') → t { E with nx := N } ρ) : sSeq t u E ρ := h1 _ fun _ h => h
theorem sIf_go {t : TB} {u w : TSD} {E : EndsD} {ρ : SL} (h : ∀ N : Bool → SL → Prop, (∀ ρ', u E ρ' → N true ρ') → (∀ ρ', w E ρ' → N false ρ') → t ρ N) : sIf t u w E ρ :=
  h _ (fun ρ' h => by rw [if_pos rfl]; exact h) (fun ρ' h => by rw [if_neg Bool.false_ne_true]; exact h)
/-- a test whose answer is known -/
theorem sIf_at {t : TB} {u w : TSD} {E : EndsD} {ρ : SL} (h : ∀ N : Bool → SL → Prop, (∀ b ρ', (if b = true then u E ρ' else w E ρ') → N b ρ') → t ρ N) : sIf t u w E ρ := h _ fun _ _ h => h
theorem gEq_int {f : Bool → Bool} {i j : Int} {Q : Rv → Prop} : gEq f (.int i) (.int j) Q = Q (.v (.bl (f (decide (i = j))))) := by
  show gEqD f (.int i) (.int j) Q = _
  unfold gEqD
  rw [D.fit, D.fit, D.eqv]
  simp only [true_and]
  congr
theorem Str.beq_dec (x y : Str) : (x == y) = decide (x = y) := by
  by_cases h : x = y
  · subst h; simp
  · rw [decide_eq_false h]; exact beq_false_of_ne h
theorem gEq_str {f : Bool → Bool} {i j : Str} {Q : Rv → Prop} : gEq f (.str i) (.str j) Q = Q (.v (.bl (f (decide (i = j))))) := by
  show gEqD f (.str i) (.str j) Q = _
  unfold gEqD
  rw [D.fit, D.fit, D.eqv, Str.beq_dec]
  simp only [true_and]
theorem gAdd_int {i j : Int} {Q : Rv → Prop} : gAdd (.int i) (.int j) Q = Q (.v (.int (i + j))) := rfl
theorem atI_0 {α : Type} {x : α} {l : List α} : atI (x :: l) 0 = some x := atI_int (by decide) rfl
theorem atI_1 {α : Type} {x y : α} {l : List α} : atI (x :: y :: l) 1 = some y := atI_int (by decide) rfl
theorem atI_2 {α : Type} {x y z : α} {l : List α} : atI (x :: y :: z :: l) 2 = some z := atI_int (by decide) rfl
theorem atI_3 {α : Type} {x y z u : α} {l : List α} : atI (x :: y :: z :: u :: l) 3 = some u := atI_int (by decide) rfl
theorem atI_4 {α : Type} {x y z u v : α} {l : List α} : atI (x :: y :: z :: u :: v :: l) 4 = some v := atI_int (by decide) rfl
theorem atI_5 {α : Type} {x y z u v w : α} {l : List α} : atI (x :: y :: z :: u :: v :: w :: l) 5 = some w := atI_int (by decide) rfl
theorem ixN_40 : ixN 4 0 = some 0 := by decide
theorem ixN_41 : ixN 4 1 = some 1 := by decide
theorem ixN_42 : ixN 4 2 = some 2 := by decide
theorem ixN_43 : ixN 4 3 = some 3 := by decide
theorem gMul_int {i j : Int} {Q : Rv → Prop} (a b : Nat) (ha : i.natAbs < 2 ^ a) (hb : j.natAbs < 2 ^ b) (h0 : 0 < a) (h1 : 0 < b) (h : a + b ≤ 1000000) : gMul (.int i) (.int j) Q = Q (.v (.int (i * j))) := by
  show (CMulW i j ∧ _) = _
  simp only [wide_mul ha hb h0 h1 h, true_and]
theorem cMul_of {i j : Int} (ha : i.natAbs < 2 ^ 250) (hb : j.natAbs < 2 ^ 250) : CMulW i j := wide_mul ha hb (by decide) (by decide) (by decide)
theorem cDiv_of {i j : Int} (h : 0 < j) (hb : j.natAbs < 2 ^ 250) : CDivW i j := wide_div h hb (by decide) (by decide)
theorem natAbs_lt {i : Int} {n : Nat} (h0 : 0 ≤ i) (h : i < 2 ^ n) : i.natAbs < 2 ^ n := by
  have : (i.natAbs : Int) = i := Int.natAbs_of_nonneg h0
  have h2 : (i.natAbs : Int) < ((2 ^ n : Nat) : Int) := by rw [this, Int.natCast_pow]; exact h
  exact_mod_cast h2
theorem nodup1 {i : Nat} : [i].Nodup ↔ True := by simp
theorem gMin2 {i j : Int} {Q : Rv → Prop} : gMin [.int i, .int j] Q = Q (.v (.int (min i j))) := rfl
theorem gMax2 {i j : Int} {Q : Rv → Prop} : gMax [.int i, .int j] Q = Q (.v (.int (max i j))) := rfl
theorem gMax3 {i j k : Int} {Q : Rv → Prop} : gMax [.int i, .int j, .int k] Q = Q (.v (.int (max (max i j) k))) := rfl
/-- what repr can show -/
def Fine (d : D) : Prop := D.fit 60 d = true ∧ D.small d = true ∧ d.py.shown.length ≤ sizeLine
theorem fine_int {i : Int} (h : i.natAbs < 2 ^ 240) : Fine (.int i) := by
  refine ⟨by simp [D.fit], by simpa [D.small] using h, ?_⟩
  rw [D.py, PyData.shown_int]
  refine int_text_fits ?_
  by_cases h0 : i.natAbs = 0
  · rw [h0]; decide
  · exact Nat.lt_of_lt_of_le ((Nat.log2_lt h0).mpr h) (by decide)
mutual
theorem eqv_self : ∀ d : D, (∃ n, D.fit n d = true) → D.eqv d d = true
  | .non, _ => by simp [D.eqv]
  | .bl _, _ => by simp [D.eqv]
  | .int _, _ => by simp [D.eqv]
  | .str _, _ => by simp [D.eqv]
  | .lst l, ⟨n, h⟩ => by
    cases n with
    | zero => simp [D.fit] at h
    | succ n => rw [D.fit] at h; rw [D.eqv]; exact eqvs_self l ⟨n, h⟩
  | .tup l, ⟨n, h⟩ => by
    cases n with
    | zero => simp [D.fit] at h
    | succ n => rw [D.fit] at h; rw [D.eqv]; exact eqvs_self l ⟨n, h⟩
  | .dct _, ⟨_, h⟩ => by simp [D.fit] at h
  | .obj _ _, ⟨_, h⟩ => by simp [D.fit] at h
  | .scr _, ⟨_, h⟩ => by simp [D.fit] at h
  | .rep _, ⟨_, h⟩ => by simp [D.fit] at h
theorem eqvs_self : ∀ l : List D, (∃ n, D.fits n l = true) → D.eqvs l l = true
  | [], _ => by simp [D.eqvs]
  | d :: r, ⟨n, h⟩ => by
    rw [D.fits, Bool.and_eq_true] at h
    rw [D.eqvs, eqv_self d ⟨n, h.1⟩, eqvs_self r ⟨n, h.2⟩]
    rfl
end
theorem gEq_self {f : Bool → Bool} {d : D} {Q : Rv → Prop} (h : D.fit 60 d = true) (q : Q (.v (.bl (f true)))) : gEq f d d Q := by
  have e := eqv_self d ⟨60, h⟩
  cases d with
  | rep d => simp [D.fit] at h
  | _ => exact ⟨h, h, by rw [e]; exact q⟩
theorem gRepr_of {d : D} {Q : Rv → Prop} (h : Fine d) (q : Q (.v (.rep d))) : gRepr [d] Q := ⟨h.1, h.2.1, h.2.2, q⟩
theorem gEq_rep {f : Bool → Bool} {d : D} {Q : Rv → Prop} (q : Q (.v (.bl (f true)))) : gEq f (.rep d) (.rep d) Q := by
  show Q (.v (.bl (f (decide (d.py.shown = d.py.shown)))))
  rw [decide_eq_true rfl]
  exact q
theorem dat_sh {d : D} : (Sl.sh d).dat = some d := rfl
theorem dat_ow {c : Cn} : (Sl.ow c).dat = some c.dat := rfl
theorem dat_bw {j : Nat} {c : Cn} : (Sl.bw j c).dat = some c.dat := rfl
theorem dat_un : Sl.un.dat = none := rfl
theorem gEq_bl {f : Bool → Bool} {i j : Bool} {Q : Rv → Prop} : gEq f (.bl i) (.bl j) Q = Q (.v (.bl (f (i == j)))) := by
  show gEqD f (.bl i) (.bl j) Q = _
  unfold gEqD
  rw [D.fit, D.fit, D.eqv]
  simp only [true_and]
theorem fits_strs : ∀ (n : Nat) (l : List Str), D.fits n (l.map D.str) = true
  | n, [] => by simp [D.fits]
  | n, x :: r => by rw [List.map_cons, D.fits, fits_strs n r]; cases n <;> simp [D.fit]
theorem fit_strs (l : List Str) : D.fit 60 (.lst (l.map D.str)) = true := by rw [D.fit]; exact fits_strs 59 l
theorem eqvs_strs : ∀ a b : List Str, D.eqvs (a.map D.str) (b.map D.str) = decide (a = b)
  | [], [] => by simp [D.eqvs]
  | [], _ :: _ => by simp [D.eqvs]
  | _ :: _, [] => by simp [D.eqvs]
  | x :: a, y :: b => by
    rw [List.map_cons, List.map_cons, D.eqvs, eqvs_strs a b, D.eqv, Str.beq_dec]
    simp only [List.cons.injEq, Bool.decide_and]
theorem gEq_strs {f : Bool → Bool} {a b : List Str} {Q : Rv → Prop} : gEq f (.lst (a.map D.str)) (.lst (b.map D.str)) Q = Q (.v (.bl (f (decide (a = b))))) := by
  show gEqD f _ _ Q = _
  unfold gEqD
  rw [fit_strs, fit_strs, D.eqv, eqvs_strs]
  simp only [true_and]
theorem get_str {l : List Str} {k : Int} (j : Nat) (e : k = j) (h : j < l.length) : atI (l.map D.str) k = some (.str l[j]) := by
  subst e
  exact atI_int (by omega) (by rw [Int.toNat_natCast, List.getElem?_map, List.getElem?_eq_getElem h]; rfl)
end DL
namespace DL
open PySem L2
/-! ### how long a shown text may be -/
theorem digs16 {c k : Nat} (hk : 0 < k) (h : c < 16 ^ k) : (Nat.toDigits 16 c).length ≤ k := (Nat.length_toDigits_le_iff (by decide) hk).mpr h
theorem reprChar_len {q c : Nat} (h : c < 0x110000) : (Builtin.Str.reprChar q c).length ≤ 10 := by
  have hx : ∀ k, 0 < k → c < 16 ^ k → (List.replicate (k - ((Nat.toDigits 16 c).map Char.toNat).length) 48 ++ (Nat.toDigits 16 c).map Char.toNat).length ≤ k := fun k hk hc => by
    have := digs16 hk hc
    rw [List.length_append, List.length_replicate, List.length_map]
    omega
  unfold Builtin.Str.reprChar
  simp only
  split
  · simp
  · split
    · simp
    · split
      · simp
      · split
        · simp
        · split
          · simp
          · split
            · rename_i h1
              have := hx 2 (by decide) (Nat.lt_of_lt_of_le h1 (by decide))
              rw [List.length_append]
              simp only [List.length_cons, List.length_nil]
              omega
            · split
              · rename_i h1
                have := hx 4 (by decide) (Nat.lt_of_lt_of_le h1 (by decide))
                rw [List.length_append]
                simp only [List.length_cons, List.length_nil]
                omega
              · have := hx 8 (by decide) (Nat.lt_of_lt_of_le h (by decide))
                rw [List.length_append]
                simp only [List.length_cons, List.length_nil]
                omega
theorem fold_repr_len (q : Nat) : ∀ (l : List Nat) (acc : Array Nat), (∀ c ∈ l, c < 0x110000) → (l.foldl (fun out c => out ++ (Builtin.Str.reprChar q c).toArray) acc).size ≤ acc.size + 10 * l.length
  | [], acc, _ => by simp
  | c :: r, acc, h => by
    rw [List.foldl_cons]
    refine Nat.le_trans (fold_repr_len q r _ fun x hx => h x (List.mem_cons_of_mem _ hx)) ?_
    have := reprChar_len (q := q) (h c List.mem_cons_self)
    have e : (Builtin.Str.reprChar q c).toArray.size = (Builtin.Str.reprChar q c).length := List.size_toArray ..
    rw [Array.size_append, e, List.length_cons]
    omega
theorem reprText_len {x : Str} (h : PyData.strOk x = true) : (reprText x).length ≤ 10 * x.length + 2 := by
  rw [strOk_iff] at h
  unfold reprText
  show (Array.push _ _).size ≤ _
  rw [Array.size_push, ← Array.foldl_toList]
  have := fold_repr_len (reprQuote x) x.cps.toList #[reprQuote x] h
  rw [Array.length_toList] at this
  show _ ≤ 10 * x.cps.size + 2
  have e : #[reprQuote x].size = 1 := rfl
  omega
mutual
def D.wt : D → Nat
  | .int _ => 250
  | .str x => 10 * x.length + 2
  | .lst l => 4 + D.wts l
  | .tup l => 4 + D.wts l
  | .non => 10
  | .bl _ => 10
  | .dct kvs => 10 + D.wtk kvs
  | .obj _ _ => 10
  | .scr _ => 10
  | .rep _ => 10
  | .at _ => 10
  | .exc _ _ _ _ _ => 10
  | .unk => 10
def D.wts : List D → Nat
  | [] => 0
  | d :: r => D.wt d + 2 + D.wts r
def D.wtk : List (Key × D) → Nat
  | [] => 0
  | (.inl _, d) :: r => 256 + D.wt d + D.wtk r
  | (.inr x, d) :: r => 10 * x.length + 8 + D.wt d + D.wtk r
end
@[simp] theorem wtk_nil : D.wtk [] = 0 := by rw [D.wtk]
theorem join_le (ts : List Str) : (Str.join ", " ts).length ≤ (ts.map fun t => t.length + 2).sum := by
  cases ts with
  | nil => exact Nat.zero_le _
  | cons a r =>
    have := join_length_add (a :: r) (by simp)
    unfold piled at this
    omega
mutual
theorem shown_wt {K : PySem.W.Frag} {F : Hp} : ∀ (n : Nat) (d : D) (v : V), Den K F v d → D.fit n d = true → D.small d = true → d.py.shown.length ≤ D.wt d
  | _, .non, _, _, _, _ => by rw [D.py, PyData.shown_none, D.wt]; decide +kernel
  | _, .bl b, _, _, _, _ => by rw [D.py, PyData.shown_bool, D.wt]; cases b <;> decide +kernel
  | _, .int i, _, _, _, h => by
    have h1 : i.natAbs < 2 ^ 240 := by simpa [D.small] using h
    rw [D.py, PyData.shown_int, D.wt, ofString_length]
    have := int_text_length_le (a := i) (k := 240) (by decide) (by
      by_cases h0 : i.natAbs = 0
      · rw [h0]; decide
      · exact (Nat.log2_lt h0).mpr h1)
    omega
  | _, .str x, _, d, _, _ => by
    cases d with
    | str _ a => rw [D.py, PyData.shown_str, D.wt]; exact reprText_len a
  | 0, .lst _, _, _, e, _ => by simp [D.fit] at e
  | 0, .tup _, _, _, e, _ => by simp [D.fit] at e
  | n + 1, .lst l, _, d, e, h => by
    rw [D.fit] at e
    rw [D.small] at h
    cases d with
    | lst a b =>
      have h1 := showns_wt n l _ b e h
      have h2 := join_le (PyData.shownAll (D.pys l))
      rw [D.py, PyData.shown_list, D.wt, strLen_append, strLen_append]
      have e1 : (Str.ofString "[").length = 1 := rfl
      have e2 : (Str.ofString "]").length = 1 := rfl
      omega
  | n + 1, .tup l, _, d, e, h => by
    rw [D.fit] at e
    rw [D.small] at h
    cases d with
    | tup a b =>
      have h1 := showns_wt n l _ b e h
      have h2 := join_le (PyData.shownAll (D.pys l))
      rw [D.py, PyData.shown_tuple, D.wt, strLen_append, strLen_append]
      have e1 : (Str.ofString "(").length = 1 := rfl
      have e2 : (Str.ofString (if ((D.pys l).length == 1) = true then ",)" else ")")).length ≤ 2 := by split <;> decide
      omega
  | _, .dct _, _, _, e, _ => by simp [D.fit] at e
  | _, .obj _ _, _, _, e, _ => by simp [D.fit] at e
  | _, .scr _, _, _, e, _ => by simp [D.fit] at e
  | _, .rep _, _, _, e, _ => by simp [D.fit] at e
  | _, .at _, _, _, e, _ => by simp [D.fit] at e
  | _, .exc _ _ _ _ _, _, _, e, _ => by simp [D.fit] at e
  | _, .unk, _, _, e, _ => by simp [D.fit] at e
theorem showns_wt {K : PySem.W.Frag} {F : Hp} : ∀ (n : Nat) (l : List D) (vs : List V), DenL K F vs l → D.fits n l = true → D.smalls l = true → ((PyData.shownAll (D.pys l)).map fun t => t.length + 2).sum ≤ D.wts l
  | _, [], _, _, _, _ => by rw [D.pys, PyData.shownAll_nil, D.wts]; exact Nat.le_refl _
  | n, d :: r, _, h, e, s => by
    rw [D.fits, Bool.and_eq_true] at e
    rw [D.smalls, Bool.and_eq_true] at s
    cases h with
    | cons a b =>
      have h1 := shown_wt n d _ a e.1 s.1
      have h2 := showns_wt n r _ b e.2 s.2
      rw [D.pys, PyData.shownAll_cons, D.wts, List.map_cons, List.sum_cons]
      omega
end
/-- what repr shows: by its weight -/
def gReprW : List D → (Rv → Prop) → Prop
  | [d] => fun Q => D.fit 60 d = true ∧ D.small d = true ∧ D.wt d ≤ 16777216 ∧ Q (.v (.rep d))
  | _ => fun _ => False
section
variable {X : Cx}
theorem sem_reprW : SemCall X.K (rRepr X.K) gReprW := by
  intro G σ H F ρ xs as Q Qd R ha h k
  unfold gReprW at h
  split at h
  · rename_i d
    obtain ⟨h1, h2, h3, h⟩ := h
    obtain ⟨x, rfl, p⟩ := pks1 ha
    have dd := p.den R.ext
    obtain ⟨h4, h5⟩ := small_show 60 d h1 h2
    exact ⟨x, d.py, rfl, dd.dp h1, h4, h5, (fit_lay 60 d x dd h1).2, le_size (Nat.le_trans (shown_wt 60 d x dd h1 h2) h3), k _ _ _ _ h (Same.refl _) R (.rep d)⟩
  · exact h.elim
/-! ### isinstance, one built-in type -/
def D.ty : D → Option String
  | .non => some "NoneType"
  | .bl _ => some "bool"
  | .int _ => some "int"
  | .str _ => some "str"
  | .lst _ => some "list"
  | .tup _ => some "tuple"
  | .dct _ => some "dict"
  | _ => none
def isTy (t T : String) : Bool := t == T || (t == "bool" && T == "int")
def tyNames : List String := ["NoneType", "bool", "int", "str", "list", "tuple", "dict"]
theorem kit_isTy (K : PySem.W.Frag) : ∀ t ∈ tyNames, ∀ T ∈ tyNames, PySem.W.kitOne K (.type t) (.type T) = some (isTy t T) := by
  intro t ht T hT
  simp only [tyNames, List.mem_cons, List.not_mem_nil, or_false] at ht hT
  rcases ht with rfl | rfl | rfl | rfl | rfl | rfl | rfl <;> rcases hT with rfl | rfl | rfl | rfl | rfl | rfl | rfl <;> kernel_rfl
theorem D.ty_mem {d : D} {t : String} (h : d.ty = some t) : t ∈ tyNames := by
  cases d <;> cases h <;> decide
theorem Pk.ty {K : PySem.W.Frag} {F H : Hp} {v : V} {d : D} {t : String} (e : Same F H) (h : Pk K F H v d) (q : d.ty = some t) : TyX K H v (.type t) := by
  cases d with
  | non => cases q; cases h.non; exact .base .non
  | bl b => cases q; cases h.bl; exact .base (.bl _)
  | int i => cases q; cases h.int; exact .base (.int _)
  | str x => cases q; cases h.str; exact .base (.str _)
  | lst l => cases q; obtain ⟨p, xs, rfl, a, b⟩ := h.lst e; exact .base (.lst a)
  | tup l => cases q; obtain ⟨p, xs, rfl, a, b⟩ := h.tup; exact .base (.tup (e _ _ a))
  | dct l => cases q; obtain ⟨p, xs, rfl, a, b⟩ := h.dct e; exact .base (.dK a)
  | _ => cases q
def gIsi (T : String) : D → (Rv → Prop) → Prop := fun d Q => ∃ t, d.ty = some t ∧ Q (.v (.bl (isTy t T)))
theorem de_isi {T : String} {y : Str} {e : Expr} {te : TE} {t : TQ} {p p2 pos : Pos} (hg : Gl X "isinstance") (hm : X.mg "isinstance" = none) (he : DO X e te t) (hgT : Gl X y) (hmT : X.mg y = none) (hv : bootBuiltins y = some (.type T)) (hT : T ∈ tyNames) (hy : y ≠ "__name__" := by decide) (hdy : (y == ("__debug__" : Str)) = false := by decide)
    (hs2 : starEach [.Name y p2] X.env = (false, eval (.Name y p2) X.env) :: starEach [] X.env := by rfl)
    (hs : starEach [e, .Name y p2] X.env = (false, eval e X.env) :: starEach [.Name y p2] X.env := by rfl) (hpl : (backTo pos (starEach [.Name y p2] X.env)).any (·.1) = false := by rfl) :
    DE X (.Call (.Name "isinstance" p) [e, .Name y p2] [] pos) (tCB (rIsi X.K) (tCons te (tCons (tC (.ty T)) tNil))) (dUn (gIsi T) t) := by
  refine ⟨pe_callB call_isi hg hm PyProof.Rows.boot_isinstance (pa_cons he.pe (pa_cons (pe_bltn hgT hmT hv rfl hy hdy) pa_nil hs2) hs) (by decide) (by decide) hs hpl, fun {G σ H F ρ Q Qd} R q k => ?_⟩
  refine he.sem R q fun o ρ1 v H1 F1 q1 s1 R1 d1 => ?_
  cases ea : o.get ρ1 with
  | none => simp only [ea] at q1
  | some d =>
    simp only [ea] at q1
    obtain ⟨t1, h1, h2⟩ := q1
    exact ⟨v, .ty T, .type t1, .type T, isTy t1 T, rfl, .ty T, (d1.pk R1 ea).ty R1.ext h1, kit_isTy X.K t1 (D.ty_mem h1) T hT, k _ _ _ _ _ h2 s1 R1 (.bl _)⟩
theorem gIsi_non {T : String} {Q : Rv → Prop} : gIsi T .non Q = Q (.v (.bl (isTy "NoneType" T))) := by unfold gIsi; simp [D.ty]
theorem gIsi_bl {T : String} {b : Bool} {Q : Rv → Prop} : gIsi T (.bl b) Q = Q (.v (.bl (isTy "bool" T))) := by unfold gIsi; simp [D.ty]
theorem gIsi_int {T : String} {b : Int} {Q : Rv → Prop} : gIsi T (.int b) Q = Q (.v (.bl (isTy "int" T))) := by unfold gIsi; simp [D.ty]
theorem gIsi_str {T : String} {b : Str} {Q : Rv → Prop} : gIsi T (.str b) Q = Q (.v (.bl (isTy "str" T))) := by unfold gIsi; simp [D.ty]
theorem gIsi_lst {T : String} {b : List D} {Q : Rv → Prop} : gIsi T (.lst b) Q = Q (.v (.bl (isTy "list" T))) := by unfold gIsi; simp [D.ty]
theorem gIsi_tup {T : String} {b : List D} {Q : Rv → Prop} : gIsi T (.tup b) Q = Q (.v (.bl (isTy "tuple" T))) := by unfold gIsi; simp [D.ty]
theorem gIsi_dct {T : String} {b : List (Key × D)} {Q : Rv → Prop} : gIsi T (.dct b) Q = Q (.v (.bl (isTy "dict" T))) := by unfold gIsi; simp [D.ty]
/-! ### x is None, x is True -/
def rIsC (f : Bool → Bool) : R2 := fun x y H Q => (y = .non ∨ ∃ b, y = .bl b) ∧ ((x = y ∧ Q (.bl (f true)) H) ∨ (x ≠ y ∧ Q (.bl (f false)) H))
theorem plain_nb {x : V} {u w : Value} (hu : RelV x u) (hw : w = .none ∨ ∃ b, w = .bool b) : plainIs u w = true := by
  rcases hw with rfl | ⟨b, rfl⟩
  · cases x <;> first | (cases hu; rfl) | (obtain ⟨t, rfl⟩ := hu; rfl)
  · cases x <;> first | (cases hu; rfl) | (obtain ⟨t, rfl⟩ := hu; rfl)
theorem rel_nb {y : V} {w : Value} (h : y = .non ∨ ∃ b, y = .bl b) (r : RelV y w) : w = .none ∨ ∃ b, w = .bool b := by
  rcases h with rfl | ⟨b, rfl⟩
  · cases r; exact .inl rfl
  · cases r; exact .inr ⟨b, rfl⟩
theorem beq_nb {x y : V} {u w : Value} (hu : RelV x u) (h : y = .non ∨ ∃ b, y = .bl b) (r : RelV y w) : (u == w) = decide (x = y) := by
  rcases h with rfl | ⟨b, rfl⟩
  · cases r
    cases x <;> first | (cases hu; rfl) | (obtain ⟨t, rfl⟩ := hu; rfl)
  · cases r
    cases x with
    | bl c => cases hu; cases b <;> cases c <;> rfl
    | _ => first | (cases hu; rfl) | (obtain ⟨t, rfl⟩ := hu; rfl)
theorem op_isA : OpR X (compareOp .Is) (rIsC id) := by
  intro pins s σ H x y v u Q I rx ry h
  obtain ⟨hy, h⟩ := h
  refine wpAny_is_plain (plain_nb rx (rel_nb hy ry)) ?_
  rw [beq_nb rx hy ry]
  rcases h with ⟨rfl, q⟩ | ⟨ne, q⟩
  · exact fin_bl I q (by simp)
  · exact fin_bl I q (by simp [ne])
theorem op_isntA : OpR X (compareOp .IsNot) (rIsC not) := by
  intro pins s σ H x y v u Q I rx ry h
  obtain ⟨hy, h⟩ := h
  refine wpAny_isNot_plain (plain_nb rx (rel_nb hy ry)) ?_
  rw [beq_nb rx hy ry]
  rcases h with ⟨rfl, q⟩ | ⟨ne, q⟩
  · exact fin_bl I q (by simp)
  · exact fin_bl I q (by simp [ne])
def gIsC (f : Bool → Bool) : D → D → (Rv → Prop) → Prop
  | .unk, _ => fun _ => False
  | .non, .non => fun Q => Q (.v (.bl (f true)))
  | _, .non => fun Q => Q (.v (.bl (f false)))
  | .bl a, .bl b => fun Q => Q (.v (.bl (f (a == b))))
  | _, .bl _ => fun Q => Q (.v (.bl (f false)))
  | _, _ => fun _ => False
theorem Pk.notBl {K : PySem.W.Frag} {F H : Hp} {v : V} {d : D} {b : Bool} (h : Pk K F H v d) (hd : ∀ c, d ≠ .bl c) (hu : d ≠ .unk) : v ≠ .bl b := by
  intro e
  subst e
  rcases h with h | ⟨p, c, e, _⟩
  · cases h
    · exact hd _ rfl
    · exact hu rfl
  · cases e
theorem sem_isC {f : Bool → Bool} : SemOp X.K (rIsC f) (gIsC f) := by
  intro G σ H F ρ x y a b Q Qd R ha hb h k
  unfold gIsC at h
  split at h
  · exact h.elim
  · cases ha.non; cases hb.non
    exact ⟨.inl rfl, .inl ⟨rfl, k _ _ _ _ h (Same.refl _) R (.bl _)⟩⟩
  · rename_i hu hn
    cases hb.non
    exact ⟨.inl rfl, .inr ⟨of_decide_eq_false (ha.notNon (fun e => hn (by rw [e])) fun e => hu (by rw [e])), k _ _ _ _ h (Same.refl _) R (.bl _)⟩⟩
  · cases ha.bl; cases hb.bl
    rename_i a b
    refine ⟨.inr ⟨_, rfl⟩, ?_⟩
    by_cases e : a = b
    · subst e
      rw [beq_self_eq_true] at h
      exact .inl ⟨rfl, k _ _ _ _ h (Same.refl _) R (.bl _)⟩
    · rw [beq_false_of_ne e] at h
      exact .inr ⟨fun z => e (by cases z; rfl), k _ _ _ _ h (Same.refl _) R (.bl _)⟩
  · rename_i hu hn
    cases hb.bl
    exact ⟨.inr ⟨_, rfl⟩, .inr ⟨ha.notBl (fun c e => hn c e) (fun e => hu e), k _ _ _ _ h (Same.refl _) R (.bl _)⟩⟩
  · exact h.elim
theorem sem_isA : SemOp X.K (rIsC id) (gIsC id) := sem_isC
theorem sem_isntA : SemOp X.K (rIsC not) (gIsC not) := sem_isC
/-! ### more of one's own list -/
def dMut0 (i : Nat) (g : List D → (List D → D → Prop) → Prop) : TD := fun ρ Q => match slL ρ i with
  | some (s, l) => g l fun l' d => Q (.v d) (ρ.set i (s.with (.l l')))
  | none => False
def SemMut0 (K : PySem.W.Frag) (r : V → List V → Hp → VK → Prop) (g : List D → (List D → D → Prop) → Prop) : Prop :=
  ∀ {F H : Hp} {p : Addr} {xs : List V} {l : List D} {Q : VK} {Qd : List D → D → Prop}, Same F H → H p = some (.lst xs) → DenL K F xs l → g l Qd →
    (∀ l' d xs' z, Qd l' d → DenL K F xs' l' → Den K F z d → Q z (upd H p (.lst xs'))) → r (.ref p) [] H Q
theorem de_mut0 {i : Nat} {x : Str} {px : Pos} {name : Str} {apos cpos : Pos} {id : String} {r : V → List V → Hp → VK → Prop} {g : List D → (List D → D → Prop) → Prop}
    (slot : Slot "list" name id) (hty : typeOf (.builtin id) = pure (.type "method_descriptor")) (hm : MtR X id r) (hg : SemMut0 X.K r g) (ho : PE X (.Name x px) (tVar i))
    (hbase : attributeBase (.Name x px) name X.env (eval (.Name x px) X.env) = eval (.Name x px) X.env := by rfl) (hline : (apos.endLine == cpos.line) = true := by rfl) :
    DE X (.Call (.Attribute (.Name x px) name apos) [] [] cpos) (tBM0 X.K "list" r (tVar i)) (dMut0 i g) := by
  refine ⟨pe_bm0 PySem.F.plainAttrs_list slot hty hm ho hbase hline, fun {G σ H F ρ Q Qd} R q k => ?_⟩
  unfold dMut0 at q
  cases e1 : slL ρ i with
  | none => simp only [e1] at q
  | some sl =>
    obtain ⟨s, l⟩ := sl
    simp only [e1] at q
    obtain ⟨a1, b1⟩ := slL_some e1
    obtain ⟨p, hp, ⟨xs, hx, dx⟩, _⟩ := R.owned a1 b1
    refine ⟨.ref p, hp, .inl ⟨rfl, xs, .inl (.inl hx)⟩, hg R.ext hx dx q fun l' d xs' z qd d2 dz => ?_⟩
    exact k _ _ _ _ _ qd (Same.refl _) (R.write a1 b1 hp ⟨xs', upd_same, d2⟩) dz
def mReverse (l : List D) (Q : List D → D → Prop) : Prop := Q l.reverse .non
theorem sem_reverse : SemMut0 X.K rReverse mReverse := by
  intro F H p xs l Q Qd e hp dl h k
  exact ⟨p, xs, rfl, rfl, hp, k _ _ _ _ h dl.rev .non⟩
theorem de_reverse0 {i : Nat} {x : Str} {px : Pos} {apos cpos : Pos} (ho : PE X (.Name x px) (tVar i))
    (hbase : attributeBase (.Name x px) "reverse" X.env (eval (.Name x px) X.env) = eval (.Name x px) X.env := by rfl) (hline : (apos.endLine == cpos.line) = true := by rfl) :
    DE X (.Call (.Attribute (.Name x px) "reverse" apos) [] [] cpos) (tBM0 X.K "list" rReverse (tVar i)) (dMut0 i mReverse) :=
  de_mut0 PySem.F.slot_list_reverse PySem.F.type_list_reverse (fun pins s σ H x xs v us Q => mt_reverse pins s σ H x xs v us Q) sem_reverse ho hbase hline
def mPopAt (l : List D) (ds : List D) (Q : List D → D → Prop) : Prop := match ds with
  | [.int i] => 0 ≤ i ∧ i < 2 ^ 63 ∧ ∃ d, l[i.toNat]? = some d ∧ Q (l.eraseIdx i.toNat) d
  | _ => False
theorem sem_popAt : SemMut X.K rPopAt mPopAt := by
  intro F H p xs l vs ds Q Qd e hp dl dv h k
  unfold mPopAt at h
  split at h
  · cases dv with
    | cons a b =>
      cases b
      cases a
      obtain ⟨h0, h1, d, h2, h⟩ := h
      obtain ⟨v, hv, dd⟩ := dl.get h2
      have hl := (List.getElem?_eq_some_iff.mp hv).1
      exact ⟨p, xs, _, _, v, rfl, rfl, hp, by omega, h1, seqIndex_of h0 (by omega), hv, k _ _ _ _ h (dl.eraseIdx _) dd⟩
  · exact h.elim
theorem de_pop {i : Nat} {x : Str} {px : Pos} {e : Expr} {apos cpos : Pos} {ta : TA} {t : TVs} (ho : PE X (.Name x px) (tVar i)) (ha : DV X [e] ta t)
    (hbase : attributeBase (.Name x px) "pop" X.env (eval (.Name x px) X.env) = eval (.Name x px) X.env := by rfl)
    (hfew : ((backTo cpos (starEach [e] X.env)).all (fun x => !x.1) && (backToKw cpos (keywordEach [] X.env)).all (fun x => x.1.isSome)
      && decide (([e] : List Expr).length + ([] : List Keyword).length + (if ([] : List Keyword).isEmpty then 0 else 1) < 30)) = true := by rfl)
    (hline : (apos.endLine == cpos.line) = true := by rfl) (hs : starEach [e] X.env = (false, eval e X.env) :: starEach [] X.env := by rfl) (hplain : (backTo cpos (starEach [] X.env)).any (·.1) = false := by rfl) :
    DE X (.Call (.Attribute (.Name x px) "pop" apos) [e] [] cpos) (tBM X.K "list" rPopAt (tVar i) ta) (dMut i mPopAt t) :=
  de_mut PySem.F.slot_list_pop PySem.F.type_list_pop (fun pins s σ H x xs v us Q => mt_popAt pins s σ H x xs v us Q) sem_popAt ho ha hbase hfew hline hs hplain
theorem ty0 : isTy "NoneType" "bool" = false := rfl
theorem ty1 : isTy "NoneType" "int" = false := rfl
theorem ty2 : isTy "NoneType" "str" = false := rfl
theorem ty3 : isTy "NoneType" "list" = false := rfl
theorem ty4 : isTy "NoneType" "tuple" = false := rfl
theorem ty5 : isTy "NoneType" "dict" = false := rfl
theorem ty6 : isTy "bool" "bool" = true := rfl
theorem ty7 : isTy "bool" "int" = true := rfl
theorem ty8 : isTy "bool" "str" = false := rfl
theorem ty9 : isTy "bool" "list" = false := rfl
theorem ty10 : isTy "bool" "tuple" = false := rfl
theorem ty11 : isTy "bool" "dict" = false := rfl
theorem ty12 : isTy "int" "bool" = false := rfl
theorem ty13 : isTy "int" "int" = true := rfl
theorem ty14 : isTy "int" "str" = false := rfl
theorem ty15 : isTy "int" "list" = false := rfl
theorem ty16 : isTy "int" "tuple" = false := rfl
theorem ty17 : isTy "int" "dict" = false := rfl
theorem ty18 : isTy "str" "bool" = false := rfl
theorem ty19 : isTy "str" "int" = false := rfl
theorem ty20 : isTy "str" "str" = true := rfl
theorem ty21 : isTy "str" "list" = false := rfl
theorem ty22 : isTy "str" "tuple" = false := rfl
theorem ty23 : isTy "str" "dict" = false := rfl
theorem ty24 : isTy "list" "bool" = false := rfl
theorem ty25 : isTy "list" "int" = false := rfl
theorem ty26 : isTy "list" "str" = false := rfl
theorem ty27 : isTy "list" "list" = true := rfl
theorem ty28 : isTy "list" "tuple" = false := rfl
theorem ty29 : isTy "list" "dict" = false := rfl
theorem ty30 : isTy "tuple" "bool" = false := rfl
theorem ty31 : isTy "tuple" "int" = false := rfl
theorem ty32 : isTy "tuple" "str" = false := rfl
theorem ty33 : isTy "tuple" "list" = false := rfl
theorem ty34 : isTy "tuple" "tuple" = true := rfl
theorem ty35 : isTy "tuple" "dict" = false := rfl
theorem ty36 : isTy "dict" "bool" = false := rfl
theorem ty37 : isTy "dict" "int" = false := rfl
theorem ty38 : isTy "dict" "str" = false := rfl
theorem ty39 : isTy "dict" "list" = false := rfl
theorem ty40 : isTy "dict" "tuple" = false := rfl
theorem ty41 : isTy "dict" "dict" = true := rfl
end
section
variable {X : Cx}
theorem mid_get {α : Type} {l p r : List α} {x : α} (e : l = p ++ x :: r) : l[p.length]? = some x := by subst e; simp
theorem forL_ix {g : TGd} {b : TSD} {E : EndsD} (I : Nat → SL → Prop) {l : List D} {ρ : SL} (hI : I 0 ρ) (h0 : ∀ ρ, I l.length ρ → E.nx ρ)
    (h1 : ∀ (i : Nat) (x : D) (ρ : SL) (N : SL → Prop), l[i]? = some x → (∀ ρ', I (i + 1) ρ' → N ρ') → I i ρ → g x ρ fun ρ1 => b { nx := N, rt := E.rt, bk := E.nx, ct := N, xc := E.xc } ρ1) : forL g b E l ρ := by
  have := forL_on (fun x : D => x) (g := g) (b := b) (E := E) (fun p r ρ => I p.length ρ) (l := l) hI (fun ρ h => h0 ρ h) fun p x r ρ N e hN h => h1 p.length x ρ N (mid_get e) (fun ρ' h' => hN ρ' (by rw [List.length_append]; exact h')) h
  rwa [List.map_id'] at this
theorem lcL_ix {g : TGd} {tt : TB} {te : TD} {vs : List Nat} {Q : List D → SL → Prop} (I : Nat → List D → SL → Prop) {l : List D} {ρ : SL} (hI : I 0 [] ρ) (h0 : ∀ acc ρ, I l.length acc ρ → Q acc ρ)
    (h1 : ∀ (i : Nat) (x : D) (acc : List D) (ρ : SL) (N : List D → SL → Prop), l[i]? = some x → (∀ acc' ρ', I (i + 1) acc' ρ' → N acc' ρ') → I i acc ρ →
      g x ρ fun ρ1 => tt ρ1 fun b ρ2 => if b = true then te ρ2 fun rv ρ3 => acc.length < sizeLine ∧ N (acc ++ [rv.dat]) (wipeD ρ3 vs) else N acc (wipeD ρ2 vs)) : lcL g tt te vs Q l [] ρ := by
  have := lcL_on (fun x : D => x) (g := g) (tt := tt) (te := te) (vs := vs) (Q := Q) (fun p r acc ρ => I p.length acc ρ) (l := l) hI (fun acc ρ h => h0 acc ρ h) fun p x r acc ρ N e hN h => h1 p.length x acc ρ N (mid_get e) (fun acc' ρ' h' => hN acc' ρ' (by rw [List.length_append]; exact h')) h
  rwa [List.map_id'] at this
theorem sWhile_on {t : TB} {b : TSD} {E : EndsD} (W : Nat → SL → Prop) {m0 : Nat} {ρ : SL} (hw : W m0 ρ)
    (h : ∀ (m : Nat) (ρ : SL) (N : SL → Prop), (∀ m' ρ', m' < m → W m' ρ' → N ρ') → W m ρ → t ρ fun z ρ1 => if z = true then b { nx := N, rt := E.rt, bk := E.nx, ct := N, xc := E.xc } ρ1 else E.nx ρ1) : sWhile t b E ρ :=
  ⟨W, ⟨m0, hw⟩, fun m ρ w => h m ρ _ (fun m' ρ' hm w' => ⟨m', hm, w'⟩) w⟩
end
end DL
namespace DL
open PySem PySem.Spec L2 PyProof.Rows
/-! ### what is never run -/
theorem ds_dead {X : Cx} {st : Stmt} : DS X st (fun _ _ _ => False) (fun _ _ => False) := ⟨⟨fun pins s σ H D I h => h.elim⟩, fun R q L => q.elim⟩
theorem dss_dead {X : Cx} {st : List Stmt} : DSs X st (fun _ _ _ => False) (fun _ _ => False) := ⟨⟨fun pins s σ H D I h => h.elim⟩, fun R q L => q.elim⟩
/-! ### fields -/
section
variable {K : PySem.W.Frag} {F F' : Hp}
theorem DenO.lookup : ∀ {gs : List (Str × V)} {fs : List (Str × D)} {f : Str} {d : D}, DenO K F gs fs → fs.lookup f = some d → ∃ v, gs.lookup f = some v ∧ Den K F v d
  | _, _, f, d, .nil, e => by cases e
  | _, _, f, d, .cons (k := k) a t, e => by
    rw [List.lookup_cons] at e ⊢
    split at e
    · cases e; exact ⟨_, rfl, a⟩
    · exact DenO.lookup t e
theorem DenO.lookup_none : ∀ {gs : List (Str × V)} {fs : List (Str × D)} {f : Str}, DenO K F gs fs → fs.lookup f = none → gs.lookup f = none
  | _, _, f, .nil, e => rfl
  | _, _, f, .cons (k := k) a t, e => by
    rw [List.lookup_cons] at e ⊢
    split at e
    · cases e
    · exact DenO.lookup_none t e
def putFD (f : Str) (v : D) : List (Str × D) → List (Str × D)
  | [] => [(f, v)]
  | (g, x) :: r => if g = f then (g, v) :: r else (g, x) :: putFD f v r
theorem DenO.put {f : Str} {v : V} {d : D} (h : Den K F v d) : ∀ {gs : List (Str × V)} {fs : List (Str × D)}, DenO K F gs fs → DenO K F (putF f v gs) (putFD f d fs)
  | _, _, .nil => .cons h .nil
  | _, _, .cons (k := k) a t => by
    unfold putF putFD
    by_cases e : k = f
    · rw [if_pos e, if_pos e]; exact .cons h t
    · rw [if_neg e, if_neg e]; exact .cons a (DenO.put h t)
theorem DenO.length : ∀ {gs : List (Str × V)} {fs : List (Str × D)}, DenO K F gs fs → gs.length = fs.length
  | _, _, .nil => rfl
  | _, _, .cons _ t => by rw [List.length_cons, List.length_cons, t.length]
end
section
variable {X : Cx}
def gAttr (C : Addr) (f : Str) : D → (Rv → Prop) → Prop := fun d Q => match d with
  | .obj C' fs => C' = C ∧ ∃ x, fs.lookup f = some x ∧ Q (.v x)
  | _ => False
theorem de_attr {C : Addr} {f : Str} {e : Expr} {te : TE} {t : TQ} {pos : Pos} (c : Cls X.K C) (n : NoAttr X.K C f) (he : DO X e te t) (hb : attributeBase e f X.env (eval e X.env) = eval e X.env := by rfl) :
    DE X (.Attribute e f pos) (tFld X.K te f) (dUn (gAttr C f) t) := by
  refine ⟨pe_fld he.pe hb, fun {G σ H F ρ Q Qd} R q k => he.sem R q fun o ρ1 v H1 F1 q1 s1 R1 d1 => ?_⟩
  cases ea : o.get ρ1 with
  | none => simp only [ea] at q1
  | some d =>
    simp only [ea] at q1
    cases d with
    | obj C' fs =>
      obtain ⟨rfl, x, l, q1⟩ := q1
      obtain ⟨p, dx, gs, rfl, h1, h2⟩ := (d1.pk R1 ea).obj R1.ext
      obtain ⟨w, l2, dw⟩ := h2.lookup l
      -- the field's content stays
      rcases d1.pk R1 ea with z | ⟨p', c', e1, e2, hh⟩
      · cases z with
        | obj a b =>
          have e := R1.ext _ _ a
          rw [h1] at e; cases e
          obtain ⟨w', l3, dw'⟩ := b.lookup l
          exact ⟨_, _, dx, gs, w', rfl, h1, c, n, l3, k _ _ _ _ _ q1 s1 R1 dw'⟩
      · cases e1
        cases c' with
        | o C2 fs2 =>
          cases e2
          obtain ⟨dx', gs', a, b⟩ := hh
          rw [h1] at a; cases a
          obtain ⟨w', l3, dw'⟩ := b.lookup l
          exact ⟨_, _, dx, gs, w', rfl, h1, c, n, l3, k _ _ _ _ _ q1 s1 R1 dw'⟩
        | l _ => cases e2
        | d _ => cases e2
        | k _ _ _ => cases e2
    | _ => exact q1.elim
/-- o.f = e, o one's own object -/
def sSetF (C : Addr) (i : Nat) (f : Str) (t : TD) : TSD := fun E ρ => t ρ fun r ρ1 => match slC ρ1 i with
  | some (s, .o C' fs) => C' = C ∧ fs.length < 1000 ∧ E.nx (ρ1.set i (s.with (.o C (putFD f r.dat fs))))
  | _ => False
theorem ds_setF {C : Addr} {i : Nat} {f : Str} {x : Str} {px pos pos' : Pos} {e : Expr} {te : TE} {t : TD} (c : Cls X.K C) (n : NoAttr X.K C f) (ho : PE X (.Name x px) (tVar i)) (he : DE X e te t) (hs : swapsWith e (some (.Attribute (.Name x px) f pos')) pos.line X.env = pure false := by rfl) :
    DS X (.Assign [.Attribute (.Name x px) f pos'] e pos) (sFld X.K (tVar i) te f) (sSetF C i f t) := by
  refine ⟨ps_fld ho he.pe hs, fun {G σ H F ρ D E} R q L => he.sem R q fun r ρ1 v H1 F1 q1 s1 R1 rd => ?_⟩
  obtain ⟨F2, s2, R2, d2⟩ := R1.share rd
  cases e1 : slC ρ1 i with
  | none => simp only [e1] at q1
  | some sc =>
    obtain ⟨s, cn⟩ := sc
    cases cn with
    | l _ => simp only [e1] at q1
    | d _ => simp only [e1] at q1
    | k _ _ _ => simp only [e1] at q1
    | o C' fs =>
      simp only [e1] at q1
      obtain ⟨rfl, hl, q1⟩ := q1
      obtain ⟨a1, b1⟩ := slC_some e1
      obtain ⟨p, hp, ⟨dx, gs, h1, h2⟩, _⟩ := R2.owned a1 b1
      exact ⟨_, hp, p, _, dx, gs, rfl, h1, c, n, by rw [h2.length]; exact hl, L.nx _ _ _ _ q1 (R2.write a1 b1 hp ⟨dx, _, upd_same, DenO.put d2 h2⟩)⟩
/-! ### methods -/
theorem pe_methG {CX : CXT} {k : Nat} {C f : Addr} {fd : FuncData} {ps : List Str} {sp : Sp} {E : XK} {m : Str} {pos apos : Pos} {e o : Expr} {es : List Expr} {ta : TE} {t : TA} {pl : Sem Bool} (he : PE X o ta) (c : Cls X.K C) (hm : Meth X.K C m f)
    (Fk : FnG X.prog X.w X.K X.mg X.base CX k f fd ps sp) (hgd : X.A.guards = some []) (hr : Room k X.A) (hb : Binds X.K fd ps []) (hx : Passes CX X E) (ha : PA X (e :: es) t)
    (hst : starEach (e :: es) X.env = (false, eval e X.env) :: starEach es X.env := by rfl) (hpl : (backTo pos (starEach es X.env)).any (·.1) = false := by rfl)
    (ht : eval (.Call (.Attribute o m apos) (e :: es) [] pos) X.env = (do
      let ov ← eval o X.env
      standAt apos.atName
      let (f, first) ← holding [ov] (getMethod ov m pl)
      callWith pos f first (backTo pos (starEach (e :: es) X.env)) (backToKw pos (keywordEach [] X.env))) := by rfl) :
    PE X (.Call (.Attribute o m apos) (e :: es) [] pos) (tMethR C m sp E ta t) := by
  refine ⟨fun pins s σ H Q I h => ?_⟩
  refine PySem.W.methodCall_KW (pl := pl) (thn (he.run pins s σ H _ I h) fun u s1 ⟨x, H1, I1, rx, a, dx, fs, ex, ea, l, q⟩ => ?_) ht
  subst ex
  obtain rfl : u = Value.ref a := rx
  refine getmeth_ok I1 ea c hm l ?_
  refine PySem.W.callWith_K (first := [.ref a]) (h₀ := X.base) I.ok.mod.kin hm.kp (thn (ha.run pos pins s1 σ H1 _ I1 q) fun us s2 ⟨vs, H2, I2, r, q2⟩ => ⟨I2.kIn, ?_⟩) hst hpl
  exact Fk.call (us := .ref a :: us) (vs := .ref a :: vs) hgd hr hb hx I2 (.cons rfl r) q2
theorem pe_methG0 {CX : CXT} {k : Nat} {C f : Addr} {fd : FuncData} {ps : List Str} {sp : Sp} {E : XK} {m : Str} {pos apos : Pos} {o : Expr} {ta : TE} {pl : Sem Bool} (he : PE X o ta) (c : Cls X.K C) (hm : Meth X.K C m f)
    (Fk : FnG X.prog X.w X.K X.mg X.base CX k f fd ps sp) (hgd : X.A.guards = some []) (hr : Room k X.A) (hb : Binds X.K fd ps []) (hx : Passes CX X E)
    (ht : eval (.Call (.Attribute o m apos) [] [] pos) X.env = (do
      let ov ← eval o X.env
      standAt apos.atName
      let (f, first) ← holding [ov] (getMethod ov m pl)
      callWith pos f first (backTo pos (starEach [] X.env)) (backToKw pos (keywordEach [] X.env))) := by rfl) :
    PE X (.Call (.Attribute o m apos) [] [] pos) (tMethR C m sp E ta tNil) := by
  refine ⟨fun pins s σ H Q I h => ?_⟩
  refine PySem.W.methodCall_KW (pl := pl) (thn (he.run pins s σ H _ I h) fun u s1 ⟨x, H1, I1, rx, a, dx, fs, ex, ea, l, q⟩ => ?_) ht
  subst ex
  obtain rfl : u = Value.ref a := rx
  refine getmeth_ok I1 ea c hm l ?_
  exact PySem.W.callWith_K0 (first := [.ref a]) I1.kIn hm.kp (Fk.call (us := [.ref a]) (vs := [.ref a]) hgd hr hb hx I1 (.cons rfl .nil) q)
/-- what an object is, looked at as self -/
def isObjD (C : Addr) (m : Str) : D → Prop
  | .obj C' fs => C' = C ∧ fs.lookup m = none
  | _ => False
theorem objD_at {K : PySem.W.Frag} {F H : Hp} {v : V} {d : D} {C : Addr} {m : Str} (e : Same F H) (h : Pk K F H v d) (q : isObjD C m d) : ∃ a dx gs, v = .ref a ∧ H a = some (.ins C dx gs) ∧ gs.lookup m = none := by
  cases d with
  | obj C' fs =>
    obtain ⟨rfl, l⟩ := q
    obtain ⟨p, dx, gs, rfl, h1, h2⟩ := h.obj e
    exact ⟨p, dx, gs, rfl, h1, h2.lookup_none l⟩
  | _ => exact q.elim
/-- o.m(..), o a thing that stays -/
def dMethV (C : Addr) (m : Str) (sp : SpD) (t : TD) (u : TAg) : TD := fun ρ Q => t ρ fun r ρ1 => isObjD C m r.dat ∧ dCall sp (fun ρ' K => u ρ' fun os ρ2 => K (.val r.dat :: os) ρ2) ρ1 Q
theorem sem_methV {C f : Addr} {m : Str} {sp : SpD} {o : Expr} {ta : TE} {tb : TA} {t : TD} {u : TAg} {E : XK} (he : DE X o ta t)
    (hu : ∀ {G : Cd} {σ : L2.St} {H F : Hp} {ρ : SL} {Q : List V → Hp → Prop} {Qd : List AOp → SL → Prop}, Rep X.K G σ H F ρ → u ρ Qd → (∀ os ρ' vs H' F', Qd os ρ' → Same F F' → Rep X.K G σ H' F' ρ' → ADens X.K F' σ vs os → Q vs H') → tb σ H Q)
    {G : Cd} {σ : L2.St} {H F : Hp} {ρ : SL} {Q : VK} {Qd : Rv → SL → Prop} (R : Rep X.K G σ H F ρ) (q : dMethV C m sp t u ρ Qd)
    (k : ∀ r ρ' v H' F', Qd r ρ' → Same F F' → Rep X.K G σ H' F' ρ' → RDen X.K G σ ρ' H' F' v r → Q v H') : tMethR C m (lift X.K sp) E ta tb σ H Q := by
  refine he.sem R q fun r ρ1 v H1 F1 q1 s1 R1 rd => ?_
  obtain ⟨F1', s1', R1', d1⟩ := R1.share rd
  obtain ⟨q0, q1⟩ := q1
  obtain ⟨a, dx, gs, rfl, h1, l1⟩ := objD_at R1'.ext (.inl d1) q0
  refine ⟨a, dx, gs, rfl, h1, l1, hu R1' q1 fun os ρ2 vs H2 F2 q2 s2 R2 d2 => ?_⟩
  exact sem_args R2 (.cons (o := .val r.dat) (d1.mono s2) d2) q2 fun r ρ' v H' F' qd s3 R3 rd3 => k _ _ _ _ _ qd (s1.trans (s1'.trans (s2.trans s3))) R3 rd3
theorem de_methV {k : Nat} {C f : Addr} {fd : FuncData} {ps : List Str} {sp : SpD} {E : XK} {CX : CXT} {m : Str} {pos apos : Pos} {e o : Expr} {es : List Expr} {ta : TE} {tb : TA} {t : TD} {u : TAg} {pl : Sem Bool} (he : DE X o ta t) (c : Cls X.K C) (hm : Meth X.K C m f)
    (Fk : FnG X.prog X.w X.K X.mg X.base CX k f fd ps (lift X.K sp)) (hgd : X.A.guards = some []) (hr : Room k X.A) (hb : Binds X.K fd ps []) (hx : Passes CX X E) (ha : DAg X (e :: es) tb u)
    (hst : starEach (e :: es) X.env = (false, eval e X.env) :: starEach es X.env := by rfl) (hpl : (backTo pos (starEach es X.env)).any (·.1) = false := by rfl)
    (ht : eval (.Call (.Attribute o m apos) (e :: es) [] pos) X.env = (do
      let ov ← eval o X.env
      standAt apos.atName
      let (f, first) ← holding [ov] (getMethod ov m pl)
      callWith pos f first (backTo pos (starEach (e :: es) X.env)) (backToKw pos (keywordEach [] X.env))) := by rfl) :
    DE X (.Call (.Attribute o m apos) (e :: es) [] pos) (tMethR C m (lift X.K sp) E ta tb) (dMethV C m sp t u) :=
  ⟨pe_methG he.pe c hm Fk hgd hr hb hx ha.pe hst hpl ht, fun R q kk => sem_methV (f := f) he ha.sem R q kk⟩
theorem de_methV0 {k : Nat} {C f : Addr} {fd : FuncData} {ps : List Str} {sp : SpD} {E : XK} {CX : CXT} {m : Str} {pos apos : Pos} {o : Expr} {ta : TE} {t : TD} {pl : Sem Bool} (he : DE X o ta t) (c : Cls X.K C) (hm : Meth X.K C m f)
    (Fk : FnG X.prog X.w X.K X.mg X.base CX k f fd ps (lift X.K sp)) (hgd : X.A.guards = some []) (hr : Room k X.A) (hb : Binds X.K fd ps []) (hx : Passes CX X E)
    (ht : eval (.Call (.Attribute o m apos) [] [] pos) X.env = (do
      let ov ← eval o X.env
      standAt apos.atName
      let (f, first) ← holding [ov] (getMethod ov m pl)
      callWith pos f first (backTo pos (starEach [] X.env)) (backToKw pos (keywordEach [] X.env))) := by rfl) :
    DE X (.Call (.Attribute o m apos) [] [] pos) (tMethR C m (lift X.K sp) E ta tNil) (dMethV C m sp t agNil) :=
  ⟨pe_methG0 he.pe c hm Fk hgd hr hb hx ht, fun R q kk => sem_methV (f := f) he (dag_nil (X := X)).sem R q kk⟩
/-- o.m(..), o one's own -/
def dMethB (C : Addr) (m : Str) (i : Nat) (sp : SpD) (u : TAg) : TD := fun ρ Q => (match slC ρ i with | some (_, .o C' fs) => C' = C ∧ fs.lookup m = none | _ => False) ∧ dCall sp (fun ρ' K => u ρ' fun os ρ2 => K (.bor i :: os) ρ2) ρ Q
theorem de_methB {i : Nat} {x : Str} {px : Pos} {k : Nat} {C f : Addr} {fd : FuncData} {ps : List Str} {sp : SpD} {E : XK} {CX : CXT} {m : Str} {pos apos : Pos} {e : Expr} {es : List Expr} {tb : TA} {u : TAg} {pl : Sem Bool} (he : PE X (.Name x px) (tVar i)) (c : Cls X.K C) (hm : Meth X.K C m f)
    (Fk : FnG X.prog X.w X.K X.mg X.base CX k f fd ps (lift X.K sp)) (hgd : X.A.guards = some []) (hr : Room k X.A) (hb : Binds X.K fd ps []) (hx : Passes CX X E) (ha : DAg X (e :: es) tb u)
    (hst : starEach (e :: es) X.env = (false, eval e X.env) :: starEach es X.env := by rfl) (hpl : (backTo pos (starEach es X.env)).any (·.1) = false := by rfl)
    (ht : eval (.Call (.Attribute (.Name x px) m apos) (e :: es) [] pos) X.env = (do
      let ov ← eval (.Name x px) X.env
      standAt apos.atName
      let (f, first) ← holding [ov] (getMethod ov m pl)
      callWith pos f first (backTo pos (starEach (e :: es) X.env)) (backToKw pos (keywordEach [] X.env))) := by rfl) :
    DE X (.Call (.Attribute (.Name x px) m apos) (e :: es) [] pos) (tMethR C m (lift X.K sp) E (tVar i) tb) (dMethB C m i sp u) := by
  refine ⟨pe_methG he c hm Fk hgd hr hb hx ha.pe hst hpl ht, fun {G σ H F ρ Q Qd} R q kk => ?_⟩
  obtain ⟨q0, q1⟩ := q
  cases e1 : slC ρ i with
  | none => simp only [e1] at q0
  | some sc =>
    obtain ⟨s, cn⟩ := sc
    cases cn with
    | l _ => simp only [e1] at q0
    | d _ => simp only [e1] at q0
    | k _ _ _ => simp only [e1] at q0
    | o C' fs =>
      simp only [e1] at q0
      obtain ⟨rfl, l0⟩ := q0
      obtain ⟨a1, b1⟩ := slC_some e1
      obtain ⟨p, hp, ⟨dx, gs, h1, h2⟩, _⟩ := R.owned a1 b1
      refine ⟨_, hp, p, dx, gs, rfl, h1, h2.lookup_none l0, ha.sem R q1 fun os ρ2 vs H2 F2 q2 s2 R2 d2 => ?_⟩
      exact sem_args R2 (.cons (o := .bor i) hp d2) q2 fun r ρ' v H' F' qd s3 R3 rd3 => kk _ _ _ _ _ qd (s2.trans s3) R3 rd3
end
end DL
namespace DL
open PySem PySem.Spec L2 PyProof.Rows
section
variable {X : Cx}
/-! ### C(..) -/
theorem run_makeG {CX : CXT} {k : Nat} {C f : Addr} {fd : FuncData} {ps : List Str} {sp : Sp} {E : XK} {pins : List (Addr × Obj)} {σ : L2.St} {H : Hp} {s : Shared} {Q : VK} {us : List Value} {vs : List V} (M : Mk X.K C f) (Fk : FnG X.prog X.w X.K X.mg X.base CX k f fd ps sp)
    (hgd : X.A.guards = some []) (hr : Room (k + 1) X.A) (hb : Binds X.K fd ps []) (hx : Passes CX X E) (I : Inv X pins σ H s) (r : Vals vs us)
    (h : ∀ x dx, H x = none → H dx = none → dx ≠ x → sp (.ref x :: vs) (upd (upd H dx (.own x)) x (.ins C dx [])) (fun v H2 => v = .non ∧ Q (.ref x) H2) E) :
    wpAny (model X.prog X.w) X.A (PySem.call (.ref C) us) (EP X pins σ Q) X.xe s := by
  have hq := h (s.heap.objs.size + 1) s.heap.objs.size (I.hok.fresh (Nat.le_succ _)) (I.hok.fresh (Nat.le_refl _)) (Nat.ne_of_lt (Nat.lt_succ_self _))
  have I2 := Inv.made (C := C) I
  have r2 : Vals (V.ref (s.heap.objs.size + 1) :: vs) (Value.ref (s.heap.objs.size + 1) :: us) := .cons rfl r
  have hl : (Value.ref (s.heap.objs.size + 1) :: us ++ []).length = ps.length := by
    have e := r2.length
    rw [Fk.len _ _ _ _ hq] at e
    rw [List.append_nil]
    exact e.symm
  have bt := hb _ (Value.ref (s.heap.objs.size + 1) :: us) I2.kIn hl
  rw [List.append_nil] at bt
  refine wpAny_call (make_map (f := f) I.kIn M.makes M.init (beq_iff_eq.mp M.fn) (codeAny_mono (Fk.run _ X.stack _ _ ⟨Value.ref (s.heap.objs.size + 1) :: us, []⟩ (Value.ref (s.heap.objs.size + 1) :: us) _ _ E (by show X.A.guards = some []; exact hgd) (hr.make C us [])
    (I2.env0.make C us []) bt r2 hq) fun r s' hq' => ?_))
  cases r with
  | error e => exact hx pins σ _ _ e s' I2 hq'
  | ok fl =>
    cases fl with
    | ret u =>
      obtain ⟨v, H', I3, rv, ev, q3⟩ := I2.after hq'
      subst ev
      exact ⟨rv, ⟨V.ref (s.heap.objs.size + 1), H', I3, rfl, q3⟩⟩
    | next => exact False.elim hq'
    | brk => exact False.elim hq'
    | cont => exact False.elim hq'
theorem pe_makeG {CX : CXT} {k : Nat} {C f : Addr} {fd : FuncData} {ps : List Str} {sp : Sp} {E : XK} {x : Str} {p pos : Pos} {e : Expr} {es : List Expr} {t : TA} (M : Mk X.K C f) (Fk : FnG X.prog X.w X.K X.mg X.base CX k f fd ps sp) (hgd : X.A.guards = some []) (hr : Room (k + 1) X.A)
    (hg : Gl X x) (hm : X.mg x = some (.ref C)) (hb : Binds X.K fd ps []) (hx : Passes CX X E)
    (ha : PA X (e :: es) t) (hdb : (x == ("__debug__" : Str)) = false := by decide) (he : starEach (e :: es) X.env = (false, eval e X.env) :: starEach es X.env := by rfl) (hpl : (backTo pos (starEach es X.env)).any (·.1) = false := by rfl) :
    PE X (.Call (.Name x p) (e :: es) [] pos) (tMake C sp [] E t) := by
  refine ⟨fun pins s σ H Q I h => ?_⟩
  refine wpAny_Call_Name_kw (ld_glob I hg hm ?_ hdb)
  refine PySem.W.callWith_K (h₀ := X.base) I.ok.mod.kin M.kp (thn (ha.run pos pins s σ H _ I h) fun us s1 ⟨vs, H1, I1, r, q⟩ => ⟨I1.kIn, ?_⟩) he hpl
  exact run_makeG M Fk hgd hr hb hx I1 r fun x dx h1 h2 h3 => by have := q x dx h1 h2 h3; rwa [List.append_nil] at this
def dMake (C : Addr) (sp : SpD) (u : TAg) : TD := fun ρ Q => u ρ fun os ρ1 => dCall sp (fun ρ' K => K (.bor ρ1.length :: os) ρ') (ρ1 ++ [.ow (.o C [])]) fun r ρ2 => r = .v .non ∧ ρ2.length = ρ1.length + 1 ∧ match ρ2[ρ1.length]? with
  | some (.ow c) => Q (.fr c) (ρ2.take ρ1.length)
  | _ => False
theorem ADens.grow {K : PySem.W.Frag} {F : Hp} {σ : L2.St} {w : Option V} : ∀ {vs : List V} {os : List AOp}, ADens K F σ vs os → ADens K F (σ ++ [w]) vs os
  | _, _, .nil => .nil
  | _, _, .cons (o := o) a t => by
    refine .cons ?_ (ADens.grow t)
    cases o with
    | val d => exact a
    | bor i =>
      have a' : σ[i]? = some (some _) := a
      have hi := (List.getElem?_eq_some_iff.mp a').1
      show (σ ++ [w])[i]? = _
      rw [List.getElem?_append_left hi]
      exact a'
theorem de_make {CX : CXT} {k : Nat} {C f : Addr} {fd : FuncData} {ps : List Str} {sp : SpD} {E : XK} {x : Str} {p pos : Pos} {e : Expr} {es : List Expr} {ta : TA} {u : TAg} (M : Mk X.K C f) (Fk : FnG X.prog X.w X.K X.mg X.base CX k f fd ps (lift X.K sp)) (hgd : X.A.guards = some []) (hr : Room (k + 1) X.A)
    (hg : Gl X x) (hm : X.mg x = some (.ref C)) (hb : Binds X.K fd ps []) (hx : Passes CX X E) (ha : DAg X (e :: es) ta u)
    (hdb : (x == ("__debug__" : Str)) = false := by decide) (he : starEach (e :: es) X.env = (false, eval e X.env) :: starEach es X.env := by rfl) (hpl : (backTo pos (starEach es X.env)).any (·.1) = false := by rfl) :
    DE X (.Call (.Name x p) (e :: es) [] pos) (tMake C (lift X.K sp) [] E ta) (dMake C sp u) := by
  refine ⟨pe_makeG M Fk hgd hr hg hm hb hx ha.pe hdb he hpl, fun {G σ H F ρ Q Qd} R q kk => ha.sem R q fun os ρ1 vs H1 F1 q1 s1 R1 d1 => fun a dx ha0 hdx ne => ?_⟩
  rw [List.append_nil]
  -- the dict of the fields is nobody's
  have R2 := R1.junk (o := .own a) hdx
  have ha1 : (upd H1 dx (.own a)) a = none := by rw [upd_ne (Ne.symm ne)]; exact ha0
  obtain ⟨R3, rd3⟩ := R2.allocFr (o := .ins C dx []) ha1 (c := .o C []) ⟨dx, [], upd_same, .nil⟩
  -- a slot for the new object
  have gl : ∀ (i : Nat) (s : Sl), (ρ1 ++ [Sl.un])[i]? = some s → s = .un ∨ (ρ1[i]? = some s ∧ (σ ++ [none])[i]? = σ[i]?) := fun i s e => by
    by_cases hi : i < ρ1.length
    · rw [List.getElem?_append_left hi] at e
      exact .inr ⟨e, List.getElem?_append_left (by rw [← R1.len]; exact hi)⟩
    · rw [List.getElem?_append_right (by omega)] at e
      have := List.mem_of_getElem? e
      simp only [List.mem_singleton] at this
      exact .inl this
  have R4 := R3.slots (σ' := σ ++ [none]) (ρ' := ρ1 ++ [Sl.un]) (by rw [List.length_append, List.length_append, R1.len]; rfl) gl
  have rd4 := rd3.slots (σ' := σ ++ [none]) (ρ' := ρ1 ++ [Sl.un]) gl
  have R5 := R4.setOw rd4 ρ1.length
  have e1 : (σ ++ [none]).set ρ1.length (some (V.ref a)) = σ ++ [some (V.ref a)] := by
    rw [R1.len, List.set_append_right _ _ (Nat.le_refl _), Nat.sub_self]
    rfl
  have e2 : (ρ1 ++ [Sl.un]).set ρ1.length (.ow (.o C [])) = ρ1 ++ [.ow (.o C [])] := by
    rw [List.set_append_right _ _ (Nat.le_refl _), Nat.sub_self]
    rfl
  rw [e1, e2] at R5
  have hget : (σ ++ [some (V.ref a)])[ρ1.length]? = some (some (V.ref a)) := by
    rw [R1.len, List.getElem?_append_right (Nat.le_refl _), Nat.sub_self]
    rfl
  refine sem_args R5 (.cons (o := .bor ρ1.length) hget (ADens.grow d1)) q1 fun r ρ2 v H' F' qd s3 R6 rd6 => ?_
  obtain ⟨rfl, hlen, qd⟩ := qd
  cases rd6
  refine ⟨rfl, ?_⟩
  split at qd
  · rename_i c hc
    obtain ⟨R7, rd7⟩ := R6.take hc hget
    have gl2 : ∀ (i : Nat) (s : Sl), (ρ2.take ρ1.length)[i]? = some s → s = .un ∨ ((ρ2.set ρ1.length .un)[i]? = some s ∧ σ[i]? = (σ ++ [some (V.ref a)])[i]?) := fun i s e => by
      have hi : i < ρ1.length := by
        have := (List.getElem?_eq_some_iff.mp e).1
        rw [List.length_take] at this
        omega
      rw [List.getElem?_take_of_lt hi] at e
      refine .inr ⟨?_, (List.getElem?_append_left (by rw [← R1.len]; exact hi)).symm⟩
      rw [List.getElem?_set_ne (by omega)]
      exact e
    have R8 := R7.slots (σ' := σ) (ρ' := ρ2.take ρ1.length) (by rw [List.length_take, hlen, ← R1.len]; omega) gl2
    exact kk _ _ _ _ _ qd (s1.trans s3) R8 (rd7.slots gl2)
  · exact qd.elim
/-! ### properties -/
theorem pe_propG {CX : CXT} {k : Nat} {C p g : Addr} {f : Str} {fd : FuncData} {ps : List Str} {sp : Sp} {E : XK} {e : Expr} {pos : Pos} {ta : TE} (he : PE X e ta) (c : Cls X.K C) (hp : PropOf X.K C f p g) (Fk : FnG X.prog X.w X.K X.mg X.base CX k g fd ps sp) (hgd : X.A.guards = some []) (hr : Room (k + 1) X.A)
    (hb : Binds X.K fd ps []) (hx : Passes CX X.nox E) (hab : attributeBase e f X.env (eval e X.env) = eval e X.env) : PE X (.Attribute e f pos) (tProp C sp [] E ta) := by
  refine ⟨fun pins s σ H Q I h => ?_⟩
  refine attr_of hab (thn (he.run pins s σ H _ I h) fun u s1 ⟨x, H1, I1, rx, a, dx, fs, ex, ea, q⟩ => ?_)
  subst ex
  obtain rfl : u = Value.ref a := rx
  obtain ⟨mA, O, _, _, _, _⟩ := ins_get I1.hok ea
  obtain ⟨od, J, _⟩ := O.look
  obtain ⟨rest, hrec⟩ := hp.rec_
  have I2 := I1.tok (s1.toks + 1)
  have hl : ([Value.ref a] ++ []).length = ps.length := by
    rw [← Fk.len _ _ _ _ q]
    rfl
  have hc : (PySem.W.clsIn X.K C).isSome = true := by
    obtain ⟨cd, hc, _⟩ := PySem.W.any_some c.hd
    rw [hc]
    rfl
  have bt := hb _ [.ref a] I2.kIn hl
  rw [List.append_nil] at bt
  refine PySem.W.get_bind I1.kIn J (PySem.W.plainGet_of (c.get f)).1 (PySem.W.findObj_data hc hp.at_ hp.get hp.tak) (PySem.W.plainGet_of (c.get f)).2 (wpAny_call (PySem.W.prop_get (s := { s1 with toks := s1.toks + 1 }) I1.kIn hrec ?_))
  refine codeAny_mono (Fk.run X.A.in1 X.stack { s1 with toks := s1.toks + 1 } H1 ⟨[.ref a], []⟩ [.ref a] [.ref a] Q E hgd hr.in1 I2.env0.in1 bt (.cons rfl .nil) q) fun r s' hq => ?_
  cases r with
  | error er => exact False.elim (hx pins σ H1 { s1 with toks := s1.toks + 1 } er s' (I2.wish _) hq)
  | ok fl =>
    cases fl with
    | ret u =>
      obtain ⟨v, H', I3, rv, q3⟩ := I2.after hq
      show wpAny _ _ (handedOut u) _ _ _
      rw [PySem.W.handedOut_of (handed_of rv)]
      exact wpAny_pure ⟨v, H', I3, rv, q3⟩
    | next => exact False.elim hq
    | brk => exact False.elim hq
    | cont => exact False.elim hq
def dProp (C : Addr) (sp : SpD) (t : TD) : TD := fun ρ Q => t ρ fun r ρ1 => (match r.dat with | .obj C' _ => C' = C | _ => False) ∧ dCall sp (fun ρ' K => K [.val r.dat] ρ') ρ1 Q
theorem de_prop {CX : CXT} {k : Nat} {C p g : Addr} {f : Str} {fd : FuncData} {ps : List Str} {sp : SpD} {E : XK} {e : Expr} {pos : Pos} {ta : TE} {t : TD} (c : Cls X.K C) (hp : PropOf X.K C f p g) (Fk : FnG X.prog X.w X.K X.mg X.base CX k g fd ps (lift X.K sp)) (hgd : X.A.guards = some []) (hr : Room (k + 1) X.A)
    (hb : Binds X.K fd ps []) (hx : Passes CX X.nox E) (he : DE X e ta t) (hab : attributeBase e f X.env (eval e X.env) = eval e X.env := by rfl) : DE X (.Attribute e f pos) (tProp C (lift X.K sp) [] E ta) (dProp C sp t) := by
  refine ⟨pe_propG he.pe c hp Fk hgd hr hb hx hab, fun {G σ H F ρ Q Qd} R q kk => he.sem R q fun r ρ1 v H1 F1 q1 s1 R1 rd => ?_⟩
  obtain ⟨F1', s1', R1', d1⟩ := R1.share rd
  obtain ⟨q0, q1⟩ := q1
  cases hd : r.dat with
  | obj C' fs =>
    rw [hd] at q0 q1 d1
    have q0 : C' = C := q0
    subst q0
    obtain ⟨a, dx, gs, rfl, h1, h2⟩ := Pk.obj R1'.ext (.inl d1)
    refine ⟨a, dx, gs, rfl, h1, ?_⟩
    exact sem_args (vs := [.ref a]) R1' (.cons (o := .val (.obj C' fs)) d1 .nil) q1 fun r ρ' v H' F' qd s3 R3 rd3 => kk _ _ _ _ _ qd (s1.trans (s1'.trans s3)) R3 rd3
  | _ => rw [hd] at q0; exact q0.elim
/-! ### an instance called -/
theorem pe_callOG {CX : CXT} {k : Nat} {C g : Addr} {fd : FuncData} {ps : List Str} {sp : Sp} {E : XK} {fe e : Expr} {es : List Expr} {pos : Pos} {tf : TE} {t : TA} (hf : PE X fe tf) (c : StX.CallO X.K C g) (Fk : FnG X.prog X.w X.K X.mg X.base CX k g fd ps sp) (hgd : X.A.guards = some []) (hr : Room k X.A)
    (hb : Binds X.K fd ps []) (hx : Passes CX X E) (ha : PA X (e :: es) t)
    (ht : eval (.Call fe (e :: es) [] pos) X.env = (do callWith pos (← eval fe X.env) [] (backTo pos (starEach (e :: es) X.env)) (backToKw pos (keywordEach [] X.env))) := by rfl)
    (he : starEach (e :: es) X.env = (false, eval e X.env) :: starEach es X.env := by rfl) (hpl : (backTo pos (starEach es X.env)).any (·.1) = false := by rfl) : PE X (.Call fe (e :: es) [] pos) (StX.tCallO X C sp E tf t) := by
  refine ⟨fun pins s σ H Q I h => ?_⟩
  refine Call_ (thn (hf.run pins s σ H _ I h) fun u s1 ⟨y, H1, I1, ry, a, ey, q⟩ => ?_) ht
  subst ey
  obtain rfl : u = Value.ref a := ry
  refine StX.callO_with (thn (ha.run pos pins s1 σ H1 _ I1 q) fun us s2 ⟨vs, H2, I2, r, hi, q2⟩ => ?_) he hpl
  obtain ⟨ox, od, J, hd⟩ := StX.insC_at I2 hi
  refine ⟨⟨C, ox, od, J, hd⟩, ?_⟩
  have hl : (Value.ref a :: us ++ []).length = ps.length := by
    rw [List.append_nil, ← Fk.len _ _ _ _ q2]
    show us.length + 1 = vs.length + 1
    rw [r.length]
  have bt := hb s2 (Value.ref a :: us) I2.kIn hl
  rw [List.append_nil] at bt
  refine wpAny_call (PySem.W.kco_code I2.kIn J hd c.at_ c.fn c.fi (codeAny_mono (Fk.run X.A X.stack s2 H2 ⟨.ref a :: us, []⟩ (.ref a :: us) (.ref a :: vs) Q E hgd hr I2.env0 bt (.cons rfl r) q2) fun r s' hq => ?_))
  match r, hq with
  | .error e, hq => exact hx pins σ H2 s2 e s' I2 hq
  | .ok (.ret u), hq => exact I2.after hq
  | .ok .next, hq => exact False.elim hq
  | .ok .brk, hq => exact False.elim hq
  | .ok .cont, hq => exact False.elim hq
def dCallO (C : Addr) (sp : SpD) (t : TD) (u : TAg) : TD := fun ρ Q => t ρ fun r ρ1 => (match r.dat with | .obj C' _ => C' = C | _ => False) ∧ dCall sp (fun ρ' K => u ρ' fun os ρ2 => K (.val r.dat :: os) ρ2) ρ1 Q
theorem de_callO {CX : CXT} {k : Nat} {C g : Addr} {fd : FuncData} {ps : List Str} {sp : SpD} {E : XK} {fe e : Expr} {es : List Expr} {pos : Pos} {tf : TE} {ta : TA} {t : TD} {u : TAg} (hf : DE X fe tf t) (c : StX.CallO X.K C g) (Fk : FnG X.prog X.w X.K X.mg X.base CX k g fd ps (lift X.K sp)) (hgd : X.A.guards = some []) (hr : Room k X.A)
    (hb : Binds X.K fd ps []) (hx : Passes CX X E) (ha : DAg X (e :: es) ta u)
    (ht : eval (.Call fe (e :: es) [] pos) X.env = (do callWith pos (← eval fe X.env) [] (backTo pos (starEach (e :: es) X.env)) (backToKw pos (keywordEach [] X.env))) := by rfl)
    (he : starEach (e :: es) X.env = (false, eval e X.env) :: starEach es X.env := by rfl) (hpl : (backTo pos (starEach es X.env)).any (·.1) = false := by rfl) : DE X (.Call fe (e :: es) [] pos) (StX.tCallO X C (lift X.K sp) E tf ta) (dCallO C sp t u) := by
  refine ⟨pe_callOG hf.pe c Fk hgd hr hb hx ha.pe ht he hpl, fun {G σ H F ρ Q Qd} R q kk => hf.sem R q fun r ρ1 v H1 F1 q1 s1 R1 rd => ?_⟩
  obtain ⟨F1', s1', R1', d1⟩ := R1.share rd
  obtain ⟨q0, q1⟩ := q1
  cases hd : r.dat with
  | obj C' fs =>
    rw [hd] at q0 q1 d1
    have q0 : C' = C := q0
    subst q0
    obtain ⟨a, dx, gs, rfl, h1, h2⟩ := Pk.obj R1'.ext (.inl d1)
    refine ⟨a, rfl, ha.sem R1' q1 fun os ρ2 vs H2 F2 q2 s2 R2 d2 => ⟨.inr ?_, ?_⟩⟩
    · obtain ⟨a', dx', gs', e, h3, _⟩ := Pk.obj R2.ext (.inl (d1.mono s2))
      cases e
      exact ⟨dx', gs', h3⟩
    · exact sem_args (vs := .ref a :: vs) R2 (.cons (o := .val (.obj C' fs)) (d1.mono s2) d2) q2 fun r ρ' v H' F' qd s3 R3 rd3 => kk _ _ _ _ _ qd (s1.trans (s1'.trans (s2.trans s3))) R3 rd3
  | _ => rw [hd] at q0; exact q0.elim
end
end DL
namespace DL
open PySem L2
/-! ### repr of data with empty dicts among them -/
/-! ### repr of data with dicts of plain values among them -/
/-- entries: values that are no containers -/
inductive AtV : V → PyData → Prop
  | non : AtV .non .none
  | bl (b : Bool) : AtV (.bl b) (.bool b)
  | int (i : Int) : AtV (.int i) (.int i)
  | str (x : Str) : AtV (.str x) (.str x)
inductive DrK : List (Key × V) → List (PyData × PyData) → Prop
  | nil : DrK [] []
  | cons {k : Key} {v : V} {d : PyData} {ks : List (Key × V)} {kvs : List (PyData × PyData)} : AtV v d → DrK ks kvs → DrK ((k, v) :: ks) ((keyPy k, d) :: kvs)
mutual
inductive Dr (H : Hp) : V → PyData → Prop
  | non : Dr H .non .none
  | bl (b : Bool) : Dr H (.bl b) (.bool b)
  | int (i : Int) : Dr H (.int i) (.int i)
  | str (x : Str) : Dr H (.str x) (.str x)
  | lst {a : Addr} {xs : List V} {ds : List PyData} : H a = some (.lst xs) → DrAll H xs ds → Dr H (.ref a) (.list ds)
  | tup {a : Addr} {xs : List V} {ds : List PyData} : H a = some (.tup xs) → DrAll H xs ds → Dr H (.ref a) (.tuple ds)
  | dct {a : Addr} {ks : List (Key × V)} {kvs : List (PyData × PyData)} : H a = some (.dK ks) → DrK ks kvs → Dr H (.ref a) (.dict kvs)
inductive DrAll (H : Hp) : List V → List PyData → Prop
  | nil : DrAll H [] []
  | cons {v : V} {vs : List V} {d : PyData} {ds : List PyData} : Dr H v d → DrAll H vs ds → DrAll H (v :: vs) (d :: ds)
end
section
variable {X : Cx} {pins : List (Addr × Obj)} {σ : L2.St} {H : Hp} {s : Shared}
theorem sysOf (I : Inv X pins σ H s) {a : Addr} {ks : List (Key × V)} (h : H a = some (.dK ks)) : (a == sysModules) = false := (show ObjOk X.prog X.w H s.heap a (.dK ks) from I.hok a _ h).2.1
theorem entriesAt (I : Inv X pins σ H s) {a : Addr} {ks : List (Key × V)} (h : H a = some (.dK ks)) : ∃ o es ep vs, s.heap.get? a = some o ∧ o.cls = .type "dict" ∧ o.data = .dict es ep ∧ KV ks vs ∧ Pairs (mixKind X.prog X.w) es.toList vs := by
  obtain ⟨_, _, vs, kv, o, es, ep, h1, h2, h3, _, h5, _⟩ := (show ObjOk X.prog X.w H s.heap a (.dK ks) from I.hok a _ h)
  exact ⟨o, es, ep, vs, h1, h2.1, h3, kv, h5⟩
theorem atReads {h : Heap} {v : V} {d : PyData} {u : Value} (a : AtV v d) (r : RelV v u) : Reads h u d [] := by
  cases a with
  | non => cases r; exact Reads.none
  | bl b => cases r; exact Reads.bool b
  | int i => obtain ⟨t, rfl⟩ := r; exact Reads.int i t
  | str x => obtain ⟨t, rfl⟩ := r; exact Reads.str x t
theorem keyReads {h : Heap} {k : Key} {u : Value} (e : keyIs k u = true) : Reads h u (keyPy k) [] := by
  rcases keyIs_shape e with ⟨i, t, rfl, rfl⟩ | ⟨x, t, rfl, rfl⟩
  · exact Reads.int i t
  · exact Reads.str x t
theorem entsRead {P : Program} {w : World} {h : Heap} : ∀ {ks : List (Key × V)} {kvs : List (PyData × PyData)} {vs : List (Key × Value)} {es : List DictEntry}, DrK ks kvs → KV ks vs → Pairs (mixKind P w) es vs →
    ReadsAll h (es.map (·.key)) (kvs.map (·.1)) [] ∧ ReadsAll h (es.map (·.val)) (kvs.map (·.2)) []
  | _, _, _, _, .nil, k, p => by
    cases k; cases p
    exact ⟨ReadsAll.nil, ReadsAll.nil⟩
  | _, _, _, _, .cons a r, k, p => by
    cases k with
    | cons k1 k2 =>
      cases p with
      | cons p1 p2 p3 =>
        obtain ⟨g1, g2⟩ := entsRead (h := h) r k2 p3
        have e1 := k1.1
        simp only at e1
        have p1' : keyIs _ _ = true := p1
        rw [← e1] at p1'
        refine ⟨ReadsAll.cons (as := []) (bs := []) (keyReads p1') g1, ReadsAll.cons (as := []) (bs := []) (atReads a ?_) g2⟩
        show RelV _ (DictEntry.val _)
        rw [p2]
        exact k1.2
theorem atIs {P : Program} {w : World} {v : V} {d : PyData} {u : Value} (a : AtV v d) (r : RelV v u) (hs : d.showable = true) (hz : d.shown.length ≤ sizeLine) : ReprIs P w u d.shown := by
  cases a with
  | non => cases r; rw [PyData.shown_none]; exact ReprIs.none
  | bl b => cases r; rw [PyData.shown_bool]; exact ReprIs.bool b
  | int i => obtain ⟨t, rfl⟩ := r; rw [PyData.shown_int]; exact ReprIs.int t (by simpa [PyData.showable] using hs)
  | str x => obtain ⟨t, rfl⟩ := r; rw [PyData.shown_str] at hz ⊢; exact ReprIs.str x t hz
theorem keyReprIs {P : Program} {w : World} {k : Key} {u : Value} (e : keyIs k u = true) (hs : (keyPy k).showable = true) (hz : (keyPy k).shown.length ≤ sizeLine) : ReprIs P w u (keyPy k).shown := by
  rcases keyIs_shape e with ⟨i, t, rfl, rfl⟩ | ⟨x, t, rfl, rfl⟩
  · rw [show keyPy (.inl i) = .int i from rfl, PyData.shown_int]
    exact ReprIs.int t (by simpa [PyData.showable, keyPy] using hs)
  · rw [show keyPy (.inr x) = .str x from rfl, PyData.shown_str] at hz ⊢
    exact ReprIs.str x t hz
theorem shownKv_cons (k v : PyData) (r : List (PyData × PyData)) : PyData.shownKv ((k, v) :: r) = (k.shown ++ ": " ++ v.shown) :: PyData.shownKv r := by simp only [PyData.shownKv]
theorem entsRepr {P : Program} {w : World} {h : Heap} : ∀ {ks : List (Key × V)} {kvs : List (PyData × PyData)} {vs : List (Key × Value)} {es : List DictEntry}, DrK ks kvs → KV ks vs → Pairs (mixKind P w) es vs → PyData.showableKv kvs = true → (∀ t ∈ PyData.shownKv kvs, t.length ≤ sizeLine) →
    ReprEntriesK P w [] h 0 es (PyData.shownKv kvs)
  | _, _, _, _, .nil, k, p, _, _ => by
    cases k; cases p
    simp only [PyData.shownKv]
    exact .nil
  | _, _, _, _, .cons (d := d) a r, k, p, hs, hz => by
    cases k with
    | cons k1 k2 =>
      cases p with
      | cons p1 p2 p3 =>
        rw [PyData.showableKv, Bool.and_eq_true, Bool.and_eq_true] at hs
        rw [shownKv_cons] at hz ⊢
        have e1 := k1.1
        simp only at e1
        have p1' : keyIs _ _ = true := p1
        rw [← e1] at p1'
        have h0 := hz _ List.mem_cons_self
        rw [strLen_append, strLen_append] at h0
        refine .cons (.of_is (keyReprIs p1' hs.1.1 (by omega)) _ _ _) (.of_is (atIs a ?_ hs.1.2 (by omega)) _ _ _) (entsRepr r k2 p3 hs.2 fun t ht => hz t (List.mem_cons_of_mem _ ht))
        rw [p2]
        exact k1.2
theorem drK_depth : ∀ {ks : List (Key × V)} {kvs : List (PyData × PyData)}, DrK ks kvs → PyData.depthKv kvs = 0
  | _, _, .nil => by simp [PyData.depthKv]
  | _, _, .cons (k := k) a r => by
    rw [PyData.depthKv, drK_depth r]
    have h1 : PyData.depth (keyPy k) = 0 := by cases k <;> simp [keyPy, PyData.depth]
    rw [h1]
    cases a <;> simp [PyData.depth]
theorem shown_dictText (kvs : List (PyData × PyData)) : (PyData.dict kvs).shown = dictText (PyData.shownKv kvs) := by simp only [PyData.shown]
mutual
theorem Dr.reads (I : Inv X pins σ H s) : ∀ (d : PyData) (v : V) (u : Value), Dr H v d → RelV v u → ∃ as, Reads s.heap u d as
  | .none, _, _, h, r => by
    cases h; cases r
    exact ⟨_, Reads.none⟩
  | .bool b, _, _, h, r => by
    cases h; cases r
    exact ⟨_, Reads.bool b⟩
  | .int i, _, _, h, r => by
    cases h
    obtain ⟨t, rfl⟩ := r
    exact ⟨_, Reads.int i t⟩
  | .str x, _, _, h, r => by
    cases h
    obtain ⟨t, rfl⟩ := r
    exact ⟨_, Reads.str x t⟩
  | .list ds, _, _, h, r => by
    cases h with
    | lst hs ha =>
      cases r
      obtain ⟨its, rv, ⟨o, n, ho, hc, _, hd⟩, _⟩ := I.list (.inl (.inl hs))
      obtain ⟨as, hr⟩ := Dr.readsAll I ds _ its ha rv
      exact ⟨_, Reads.list ho hc hd hr⟩
  | .tuple ds, _, _, h, r => by
    cases h with
    | tup hs ha =>
      cases r
      obtain ⟨its, rv, ⟨o, ho, hc, n, hd⟩, _⟩ := I.tuple (.inl (.inl hs))
      obtain ⟨as, hr⟩ := Dr.readsAll I ds _ its ha rv
      exact ⟨_, Reads.tuple ho hc hd hr⟩
  | .dict ds, _, _, h, r => by
    cases h with
    | dct hs hk =>
      cases r
      obtain ⟨o, es, ep, vs, h1, h2, h3, kv, hp⟩ := entriesAt I hs
      obtain ⟨g1, g2⟩ := entsRead (h := s.heap) hk kv hp
      exact ⟨_, Reads.dict (as := []) (bs := []) h1 h2 h3 g1 g2⟩
theorem Dr.readsAll (I : Inv X pins σ H s) : ∀ (ds : List PyData) (vs : List V) (us : List Value), DrAll H vs ds → Vals vs us → ∃ as, ReadsAll s.heap us ds as
  | [], _, _, h, r => by
    cases h; cases r
    exact ⟨_, ReadsAll.nil⟩
  | d :: ds, _, _, h, r => by
    cases h with
    | cons h1 h2 =>
      cases r with
      | cons r1 r2 =>
        obtain ⟨as, q1⟩ := Dr.reads I d _ _ h1 r1
        obtain ⟨bs, q2⟩ := Dr.readsAll I ds _ _ h2 r2
        exact ⟨_, ReadsAll.cons q1 q2⟩
end
theorem shown_listText (xs : List PyData) : (PyData.list xs).shown = listText (PyData.shownAll xs) := by simp only [PyData.shown]
theorem shown_tupleText (xs : List PyData) : (PyData.tuple xs).shown = tupleText (PyData.shownAll xs) := by simp only [PyData.shown]
mutual
theorem Dr.show (I : Inv X pins σ H s) : ∀ (d : PyData) (v : V) (u : Value), Dr H v d → RelV v u → d.showable = true → d.shown.length ≤ sizeLine → ∃ bs, ReadAtMost s.heap d.depth bs ∧ ReprK X.prog X.w bs s.heap d.depth u d.shown
  | .none, v, u, h, r, hs, hz => by
    obtain ⟨as, q⟩ := Dr.reads I _ v u h r
    exact ReprK.of_reads q hs (fun z => by simp [PyData.hasDict] at z) hz
  | .bool b, v, u, h, r, hs, hz => by
    obtain ⟨as, q⟩ := Dr.reads I _ v u h r
    exact ReprK.of_reads q hs (fun z => by simp [PyData.hasDict] at z) hz
  | .int i, v, u, h, r, hs, hz => by
    obtain ⟨as, q⟩ := Dr.reads I _ v u h r
    exact ReprK.of_reads q hs (fun z => by simp [PyData.hasDict] at z) hz
  | .str x, v, u, h, r, hs, hz => by
    obtain ⟨as, q⟩ := Dr.reads I _ v u h r
    exact ReprK.of_reads q hs (fun z => by simp [PyData.hasDict] at z) hz
  | .list ds, v, u, h, r, hs, hz => by
    cases h with
    | lst hl ha =>
      cases r
      obtain ⟨its, rv, ⟨o, n, ho, hc, _, hd⟩, _⟩ := I.list (.inl (.inl hl))
      obtain ⟨as, hr⟩ := Dr.readsAll I ds _ its ha rv
      rw [shown_listText] at hz ⊢
      obtain ⟨bs, hb, hk⟩ := Dr.showAll I ds _ its ha rv (by rw [PyData.showable] at hs; exact hs) fun t ht => Nat.le_trans (listText_mem_le ht) hz
      have rr := Reads.list ho hc hd hr
      have hna := not_mem_of_deeper rr (by rw [PyData.depth]; exact Nat.lt_succ_self _) hb
      refine ⟨_ :: bs, ReadAtMost.cons rr (Nat.le_refl _) fun b m => ?_, ?_⟩
      · obtain ⟨d', as', r', hd'⟩ := hb b m
        exact ⟨d', as', r', by rw [PyData.depth]; exact Nat.le_succ_of_le hd'⟩
      · rw [PyData.depth]
        cases its with
        | nil =>
          cases rv
          cases ha
          exact ReprK.listEmpty ho hc hd
        | cons x l => exact ReprK.list ho hc hd hna hk.length_eq fun i y e => hk.item i y (by rwa [List.getElem?_toArray] at e)
  | .tuple ds, v, u, h, r, hs, hz => by
    cases h with
    | tup hl ha =>
      cases r
      obtain ⟨its, rv, ⟨o, ho, hc, n, hd⟩, _⟩ := I.tuple (.inl (.inl hl))
      obtain ⟨as, hr⟩ := Dr.readsAll I ds _ its ha rv
      rw [shown_tupleText] at hz ⊢
      obtain ⟨bs, hb, hk⟩ := Dr.showAll I ds _ its ha rv (by rw [PyData.showable] at hs; exact hs) fun t ht => Nat.le_trans (tupleText_mem_le ht) hz
      have rr := Reads.tuple ho hc hd hr
      have hna := not_mem_of_deeper rr (by rw [PyData.depth]; exact Nat.lt_succ_self _) hb
      refine ⟨_ :: bs, ReadAtMost.cons rr (Nat.le_refl _) fun b m => ?_, ?_⟩
      · obtain ⟨d', as', r', hd'⟩ := hb b m
        exact ⟨d', as', r', by rw [PyData.depth]; exact Nat.le_succ_of_le hd'⟩
      · rw [PyData.depth]
        exact ReprK.tuple ho hc hd hna hk
  | .dict kvs, v, u, h, r, hs, hz => by
    obtain ⟨as, q⟩ := Dr.reads I _ v u h r
    cases h with
    | dct hl hk =>
      cases r
      obtain ⟨o, es, ep, vs, h1, h2, h3, kv, hp⟩ := entriesAt I hl
      rw [shown_dictText] at hz ⊢
      have k := ReprK.dict (prog := X.prog) (w := X.w) (as := []) (d := 0) (ps := PyData.shownKv kvs) h1 h2 h3 (sysOf I hl) (by simp) (entsRepr hk kv hp (by rw [PyData.showable] at hs; exact hs) fun t ht => Nat.le_trans (dictText_mem_le ht) hz)
      refine ⟨[_], ReadAtMost.cons q (Nat.le_refl _) fun b m => (by cases m), ?_⟩
      have e2 : (PyData.dict kvs).depth = 0 + 1 := by rw [PyData.depth, drK_depth hk]
      rw [e2]
      exact k
theorem Dr.showAll (I : Inv X pins σ H s) : ∀ (ds : List PyData) (vs : List V) (us : List Value), DrAll H vs ds → Vals vs us → PyData.showableAll ds = true → (∀ t ∈ PyData.shownAll ds, t.length ≤ sizeLine) →
    ∃ bs, ReadAtMost s.heap (PyData.depthAll ds) bs ∧ ReprAllK X.prog X.w bs s.heap (PyData.depthAll ds) us (PyData.shownAll ds)
  | [], _, _, h, r, _, _ => by
    cases h; cases r
    exact ⟨[], fun b m => (by cases m), by rw [PyData.shownAll_nil]; exact .nil⟩
  | d :: ds, _, _, h, r, hs, hz => by
    cases h with
    | cons h1 h2 =>
      cases r with
      | cons r1 r2 =>
        rw [PyData.showableAll, Bool.and_eq_true] at hs
        rw [PyData.shownAll_cons] at hz ⊢
        obtain ⟨b1, m1, k1⟩ := Dr.show I d _ _ h1 r1 hs.1 (hz _ List.mem_cons_self)
        obtain ⟨b2, m2, k2⟩ := Dr.showAll I ds _ _ h2 r2 hs.2 fun t ht => hz t (List.mem_cons_of_mem _ ht)
        refine ⟨b1 ++ b2, fun b m => ?_, ?_⟩
        · rcases List.mem_append.mp m with m | m
          · obtain ⟨d', as', r', hd'⟩ := m1 b m
            exact ⟨d', as', r', by rw [PyData.depthAll]; omega⟩
          · obtain ⟨d', as', r', hd'⟩ := m2 b m
            exact ⟨d', as', r', by rw [PyData.depthAll]; omega⟩
        · refine .cons ((k1.more fun b m => List.mem_append_left _ m).level_le (by rw [PyData.depthAll]; omega)) ?_
          exact k2.more_le (fun b m => List.mem_append_right _ m) (by rw [PyData.depthAll]; omega)
end
/-- repr of such a thing -/
theorem repr_dr (I : Inv X pins σ H s) (hg : X.A.guards = some []) (hu : X.A.units + 64 < cLine) {a : Addr} {d : PyData} (h : Dr H (.ref a) d) (hs : d.showable = true) (hz : d.shown.length ≤ sizeLine) (hdp : d.depth ≤ 60) {Q : Value → Shared → Prop}
    (q : ∀ h' u tk, (∀ b o, s.heap.get? b = some o → h'.get? b = some o) → Q (.str d.shown u) { s with heap := h', toks := tk }) : wpAny (model X.prog X.w) X.A (PySem.call (.builtin "repr") [.ref a]) Q X.xe s := by
  have hg1 : X.A.in1.guards = some [] := hg
  have old : ∀ b o, s.heap.get? b = some o → s.heap.get? b = some o := fun _ _ e => e
  cases d with
  | list ds =>
    cases h with
    | lst hl ha =>
      obtain ⟨its, rv, ⟨o, n, ho, hc, _, hd⟩, _⟩ := I.list (.inl (.inl hl))
      obtain ⟨as, hr⟩ := Dr.readsAll I ds _ its ha rv
      rw [shown_listText] at hz q
      obtain ⟨bs, hb, hk⟩ := Dr.showAll I ds _ its ha rv (by rw [PyData.showable] at hs; exact hs) fun t ht => Nat.le_trans (listText_mem_le ht) hz
      have hna := not_mem_of_deeper (Reads.list ho hc hd hr) (by rw [PyData.depth]; exact Nat.lt_succ_self _) hb
      rw [PyData.depth] at hdp
      refine call_repr_slot (by omega) ⟨o, ho, hc⟩ F.slot_list_repr.toG ?_
      cases its with
      | nil =>
        cases rv
        cases ha
        exact call_list_repr_empty ⟨o, ho, hc⟩ ho hd ⟨_, _, rfl, q s.heap _ _ old⟩
      | cons x l =>
        exact call_list_reprK ho hc hd hna hk.length_eq (fun i y e => hk.item i y (by rwa [List.getElem?_toArray] at e)) hg1 (fun b _ => Clear.nil b) (by show X.A.units + 1 + _ < cLine; omega) old (fun h' u tk hh => ⟨_, _, rfl, q h' u tk hh⟩) hz
  | tuple ds =>
    cases h with
    | tup hl ha =>
      obtain ⟨its, rv, ⟨o, ho, hc, n, hd⟩, _⟩ := I.tuple (.inl (.inl hl))
      obtain ⟨as, hr⟩ := Dr.readsAll I ds _ its ha rv
      rw [shown_tupleText] at hz q
      obtain ⟨bs, hb, hk⟩ := Dr.showAll I ds _ its ha rv (by rw [PyData.showable] at hs; exact hs) fun t ht => Nat.le_trans (tupleText_mem_le ht) hz
      have hna := not_mem_of_deeper (Reads.tuple ho hc hd hr) (by rw [PyData.depth]; exact Nat.lt_succ_self _) hb
      rw [PyData.depth] at hdp
      refine call_repr_slot (by omega) ⟨o, ho, hc⟩ F.slot_tuple_repr ?_
      exact call_tuple_reprK ho hc hd hna hk hg1 (fun b _ => Clear.nil b) (by show X.A.units + 1 + _ < cLine; omega) old (fun h' u tk hh => ⟨_, _, rfl, q h' u tk hh⟩) hz
  | dict kvs =>
    cases h with
    | dct hl hk =>
      obtain ⟨o, es, ep, vs, h1, h2, h3, kv, hp⟩ := entriesAt I hl
      rw [shown_dictText] at hz q
      refine call_repr_slot (by omega) ⟨o, h1, h2⟩ F.slot_dict_repr ?_
      exact call_dict_reprK (as := []) (d := 0) (ps := PyData.shownKv kvs) h1 h2 h3 (sysOf I hl) (by simp) (entsRepr hk kv hp (by rw [PyData.showable] at hs; exact hs) fun t ht => Nat.le_trans (dictText_mem_le ht) hz) hg1 (fun b _ => Clear.nil b) (by show X.A.units + 1 + _ < cLine; omega) old (fun h' u tk hh => ⟨_, _, rfl, q h' u tk hh⟩) hz
  | none => cases h
  | bool _ => cases h
  | int _ => cases h
  | str _ => cases h
end
def D.atm : D → Bool
  | .non => true
  | .bl _ => true
  | .int _ => true
  | .str _ => true
  | _ => false
mutual
def D.fitR : Nat → D → Bool
  | _, .non => true
  | _, .bl _ => true
  | _, .int _ => true
  | _, .str _ => true
  | 0, .lst _ => false
  | 0, .tup _ => false
  | n + 1, .lst l => D.fitRs n l
  | n + 1, .tup l => D.fitRs n l
  | 0, .dct _ => false
  | _ + 1, .dct kvs => kvs.all fun kv => kv.2.atm
  | _, .obj _ _ => false
  | _, .scr _ => false
  | _, .rep _ => false
  | _, .at _ => false
  | _, .exc _ _ _ _ _ => false
  | _, .unk => false
def D.fitRs : Nat → List D → Bool
  | _, [] => true
  | n, d :: r => D.fitR n d && D.fitRs n r
end
section
variable {K : PySem.W.Frag} {F : Hp}
theorem den_at {d : D} {v : V} (h : Den K F v d) (ha : d.atm = true) (hs : D.small d = true) : AtV v d.py ∧ d.py.showable = true ∧ d.py.shown.length ≤ D.wt d := by
  have hf : D.fit 60 d = true := by cases d <;> first | rfl | simp [D.atm] at ha | simp [D.fit]
  have z1 := shown_wt (K := K) (F := F) 60 d v h hf hs
  have z2 := small_show 60 d hf hs
  refine ⟨?_, z2.1, z1⟩
  cases d with
  | non => cases h; exact .non
  | bl b => cases h; exact .bl b
  | int i => cases h; exact .int i
  | str x => cases h; exact .str x
  | _ => simp [D.atm] at ha
theorem denK_dr : ∀ {kvs : List (Key × D)} {ks : List (Key × V)}, DenK K F ks kvs → (kvs.all fun kv => kv.2.atm) = true → D.smallk kvs = true → DrK ks (D.pyk kvs) ∧ PyData.showableKv (D.pyk kvs) = true ∧ ((PyData.shownKv (D.pyk kvs)).map fun t => t.length + 2).sum ≤ D.wtk kvs
  | [], _, h, _, _ => by
    cases h
    rw [D.pyk, D.wtk]
    exact ⟨.nil, by simp [PyData.showableKv], by simp [PyData.shownKv]⟩
  | (k, d) :: r, _, h, ha, hs => by
    rw [List.all_cons, Bool.and_eq_true] at ha
    cases h with
    | cons h1 h2 h3 =>
      rw [D.pyk, PyData.showableKv, shownKv_cons, List.map_cons, List.sum_cons, strLen_append, strLen_append]
      have e2 : (Str.ofString ": ").length = 2 := rfl
      cases k with
      | inl i =>
        rw [D.smallk, Bool.and_eq_true, Bool.and_eq_true] at hs
        obtain ⟨g1, g2, g3⟩ := denK_dr h3 ha.2 hs.2
        obtain ⟨a1, a2, a3⟩ := den_at h1 ha.1 hs.1.2
        obtain ⟨_, b2, b3⟩ := den_at (K := K) (F := F) (.int i) rfl (by rw [D.small]; exact hs.1.1)
        rw [D.py] at b2 b3
        rw [D.wt] at b3
        refine ⟨.cons a1 g1, by rw [show keyPy (.inl i) = .int i from rfl, b2, a2, g2]; rfl, ?_⟩
        rw [D.wtk, show keyPy (.inl i) = .int i from rfl]
        omega
      | inr x =>
        rw [D.smallk, Bool.and_eq_true] at hs
        obtain ⟨g1, g2, g3⟩ := denK_dr h3 ha.2 hs.2
        obtain ⟨a1, a2, a3⟩ := den_at h1 ha.1 hs.1
        obtain ⟨_, b2, b3⟩ := den_at (K := K) (F := F) (.str x h2) rfl (by simp [D.small])
        rw [D.py] at b2 b3
        rw [D.wt] at b3
        refine ⟨.cons a1 g1, by rw [show keyPy (.inr x) = .str x from rfl, b2, a2, g2]; rfl, ?_⟩
        rw [D.wtk, show keyPy (.inr x) = .str x from rfl]
        omega
mutual
theorem den_dr : ∀ (n : Nat) (d : D) (v : V), Den K F v d → D.fitR n d = true → D.small d = true → Dr F v d.py ∧ d.py.showable = true ∧ d.py.depth ≤ n ∧ d.py.shown.length ≤ D.wt d
  | n, .non, v, h, _, _ => by
    cases h
    refine ⟨.non, by simp [D.py, PyData.showable], by simp [D.py, PyData.depth], ?_⟩
    rw [D.py, PyData.shown_none, D.wt]; decide +kernel
  | n, .bl b, v, h, _, _ => by
    cases h
    refine ⟨.bl _, by simp [D.py, PyData.showable], by simp [D.py, PyData.depth], ?_⟩
    rw [D.py, PyData.shown_bool, D.wt]; cases b <;> decide +kernel
  | n, .int i, v, h, hf, hs => by
    have z1 := shown_wt (K := K) (F := F) 60 (.int i) v h (by simp [D.fit]) hs
    have z2 := small_show 60 (.int i) (by simp [D.fit]) hs
    cases h
    exact ⟨.int _, z2.1, by simp [D.py, PyData.depth], z1⟩
  | n, .str x, v, h, hf, hs => by
    have z1 := shown_wt (K := K) (F := F) 60 (.str x) v h (by simp [D.fit]) hs
    cases h with
    | str _ a => exact ⟨.str _, by simp [D.py, PyData.showable], by simp [D.py, PyData.depth], z1⟩
  | 0, .lst l, v, h, hf, hs => by simp [D.fitR] at hf
  | 0, .tup l, v, h, hf, hs => by simp [D.fitR] at hf
  | n + 1, .lst l, v, h, hf, hs => by
    rw [D.fitR] at hf
    rw [D.small] at hs
    cases h with
    | lst a b =>
      obtain ⟨h1, h2, h3, h4⟩ := dens_dr n l _ b hf hs
      rw [D.py]
      refine ⟨.lst a h1, by rw [PyData.showable]; exact h2, by rw [PyData.depth]; omega, ?_⟩
      have h5 := join_le (PyData.shownAll (D.pys l))
      rw [PyData.shown_list, D.wt, strLen_append, strLen_append]
      have e1 : (Str.ofString "[").length = 1 := rfl
      have e2 : (Str.ofString "]").length = 1 := rfl
      omega
  | n + 1, .tup l, v, h, hf, hs => by
    rw [D.fitR] at hf
    rw [D.small] at hs
    cases h with
    | tup a b =>
      obtain ⟨h1, h2, h3, h4⟩ := dens_dr n l _ b hf hs
      rw [D.py]
      refine ⟨.tup a h1, by rw [PyData.showable]; exact h2, by rw [PyData.depth]; omega, ?_⟩
      have h5 := join_le (PyData.shownAll (D.pys l))
      rw [PyData.shown_tuple, D.wt, strLen_append, strLen_append]
      have e1 : (Str.ofString "(").length = 1 := rfl
      have e2 : (Str.ofString (if ((D.pys l).length == 1) = true then ",)" else ")")).length ≤ 2 := by split <;> decide
      omega
  | 0, .dct _, _, _, e, _ => by simp [D.fitR] at e
  | n + 1, .dct kvs, v, h, hf, hs => by
    rw [D.fitR] at hf
    rw [D.small] at hs
    cases h with
    | dct a b =>
      obtain ⟨h1, h2, h3⟩ := denK_dr b hf hs
      rw [D.py]
      refine ⟨.dct a h1, by rw [PyData.showable]; exact h2, by rw [PyData.depth, drK_depth h1]; omega, ?_⟩
      have h5 := join_le (PyData.shownKv (D.pyk kvs))
      rw [PyData.shown_dict, D.wt, strLen_append, strLen_append]
      have e1 : (Str.ofString "{").length = 1 := rfl
      have e2 : (Str.ofString "}").length = 1 := rfl
      omega
  | _, .obj _ _, _, _, e, _ => by simp [D.fitR] at e
  | _, .scr _, _, _, e, _ => by simp [D.fitR] at e
  | _, .rep _, _, _, e, _ => by simp [D.fitR] at e
  | _, .at _, _, _, e, _ => by simp [D.fitR] at e
  | _, .exc _ _ _ _ _, _, _, e, _ => by simp [D.fitR] at e
  | _, .unk, _, _, e, _ => by simp [D.fitR] at e
theorem dens_dr : ∀ (n : Nat) (l : List D) (vs : List V), DenL K F vs l → D.fitRs n l = true → D.smalls l = true → DrAll F vs (D.pys l) ∧ PyData.showableAll (D.pys l) = true ∧ PyData.depthAll (D.pys l) ≤ n ∧ ((PyData.shownAll (D.pys l)).map fun t => t.length + 2).sum ≤ D.wts l
  | n, [], _, h, _, _ => by
    cases h
    refine ⟨by rw [D.pys]; exact .nil, by simp [D.pys, PyData.showableAll], by simp [D.pys, PyData.depthAll], ?_⟩
    rw [D.pys, PyData.shownAll_nil, D.wts]; exact Nat.le_refl _
  | n, d :: r, _, h, e, s => by
    rw [D.fitRs, Bool.and_eq_true] at e
    rw [D.smalls, Bool.and_eq_true] at s
    cases h with
    | cons a b =>
      obtain ⟨h1, h2, h3, h4⟩ := den_dr n d _ a e.1 s.1
      obtain ⟨g1, g2, g3, g4⟩ := dens_dr n r _ b e.2 s.2
      rw [D.pys]
      refine ⟨.cons h1 g1, by rw [PyData.showableAll, h2, g2]; rfl, by rw [PyData.depthAll]; omega, ?_⟩
      rw [PyData.shownAll_cons, D.wts, List.map_cons, List.sum_cons]
      omega
end
mutual
theorem Dr.mono {F F' : Hp} (e : Same F F') : ∀ {d : PyData} {v : V}, Dr F v d → Dr F' v d
  | .none, _, h => by cases h; exact .non
  | .bool _, _, h => by cases h; exact .bl _
  | .int _, _, h => by cases h; exact .int _
  | .str _, _, h => by cases h; exact .str _
  | .list _, _, h => by cases h with | lst a b => exact .lst (e _ _ a) (DrAll.mono e b)
  | .tuple _, _, h => by cases h with | tup a b => exact .tup (e _ _ a) (DrAll.mono e b)
  | .dict _, _, h => by cases h with | dct a b => exact .dct (e _ _ a) b
theorem DrAll.mono {F F' : Hp} (e : Same F F') : ∀ {ds : List PyData} {vs : List V}, DrAll F vs ds → DrAll F' vs ds
  | [], _, h => by cases h; exact .nil
  | _ :: _, _, h => by cases h with | cons a b => exact .cons (Dr.mono e a) (DrAll.mono e b)
end
end
section
variable {X : Cx}
def rReprE : List V → Hp → VK → Prop := fun xs H Q => ∃ x d, xs = [x] ∧ Dr H x d ∧ d.showable = true ∧ d.depth ≤ 60 ∧ d.shown.length ≤ sizeLine ∧ Q (.str d.shown) H
theorem call_reprE (hg : X.A.guards = some []) (hu : X.A.units + 64 < cLine) : CallR X (.builtin "repr") rReprE := by
  intro pins s σ H xs us Q I r h
  obtain ⟨x, d, rfl, dp, h1, h3, h4, q⟩ := h
  obtain ⟨u, rfl, r1⟩ := vals1 r
  have dp' := dp
  cases dp with
  | non =>
    cases r1
    exact PySem.P.repr_of_none ⟨.str _, H, I.tok _, ⟨_, rfl⟩, by rw [PyData.shown_none] at q; exact q⟩
  | bl b =>
    cases r1
    exact PySem.P.repr_of_bool ⟨.str _, H, I.tok _, ⟨_, rfl⟩, by rw [PyData.shown_bool] at q; exact q⟩
  | int i =>
    obtain ⟨t, rfl⟩ := r1
    have h5 : i.natAbs.log2 < 1920 := by simpa [PyData.showable] using h1
    exact PySem.P.repr_of_int h5 ⟨.str _, H, I.tok _, ⟨_, rfl⟩, by rw [PyData.shown_int] at q; exact q⟩
  | str y =>
    obtain ⟨t, rfl⟩ := r1
    rw [PyData.shown_str] at q h4
    exact PySem.P.repr_of_str ⟨.str _, H, I.tok _, ⟨_, rfl⟩, q⟩ h4
  | lst a b =>
    cases r1
    exact repr_dr I hg hu dp' h1 h4 h3 (fun h' u tk hk => ⟨.str _, H, I.kept (t' := tk) hk, ⟨u, rfl⟩, q⟩)
  | tup a b =>
    cases r1
    exact repr_dr I hg hu dp' h1 h4 h3 (fun h' u tk hk => ⟨.str _, H, I.kept (t' := tk) hk, ⟨u, rfl⟩, q⟩)
  | dct a b =>
    cases r1
    exact repr_dr I hg hu dp' h1 h4 h3 (fun h' u tk hk => ⟨.str _, H, I.kept (t' := tk) hk, ⟨u, rfl⟩, q⟩)
def gReprE : List D → (Rv → Prop) → Prop
  | [d] => fun Q => D.fitR 60 d = true ∧ D.small d = true ∧ D.wt d ≤ 16777216 ∧ Q (.v (.rep d))
  | _ => fun _ => False
theorem sem_reprE : SemCall X.K rReprE gReprE := by
  intro G σ H F ρ xs as Q Qd R ha h k
  unfold gReprE at h
  split at h
  · rename_i d
    obtain ⟨h1, h2, h3, h⟩ := h
    obtain ⟨x, rfl, p⟩ := pks1 ha
    have dd := p.den R.ext
    obtain ⟨z1, z2, z3, z4⟩ := den_dr 60 d x dd h1 h2
    exact ⟨x, d.py, rfl, z1, z2, z3, le_size (Nat.le_trans z4 h3), k _ _ _ _ h (Same.refl _) R (.rep d)⟩
  · exact h.elim
end
theorem tb_go {t : TB} {ρ : SL} {A B : SL → Prop} (h : ∀ N : Bool → SL → Prop, (∀ ρ', A ρ' → N true ρ') → (∀ ρ', B ρ' → N false ρ') → t ρ N) : t ρ fun z ρ1 => if z = true then A ρ1 else B ρ1 :=
  h _ (fun _ q => by rw [if_pos rfl]; exact q) (fun _ q => by rw [if_neg Bool.false_ne_true]; exact q)
end DL
namespace DL
open PySem L2
section
variable {X : Cx}
/-! ### truths among numbers -/
def nOf : D → Option Int
  | .int i => some i
  | .bl b => some (if b = true then 1 else 0)
  | _ => none
def rAddBI : R2 := fun x y H Q => ∃ b j, x = .bl b ∧ y = .int j ∧ Q (.int ((if b = true then 1 else 0) + j)) H
theorem op_add_bi : OpR X (binaryOp .Add) rAddBI := by
  intro pins s σ H x y v u Q I rx ry h
  obtain ⟨b, j, rfl, rfl, q⟩ := h
  cases rx
  obtain ⟨t, rfl⟩ := ry
  exact PySem.IntBool.add_bool_int ⟨.int _, H, I.tok _, ⟨_, rfl⟩, q⟩
def rSubBI : R2 := fun x y H Q => ∃ b j, x = .bl b ∧ y = .int j ∧ Q (.int ((if b = true then 1 else 0) - j)) H
theorem op_sub_bi : OpR X (binaryOp .Sub) rSubBI := by
  intro pins s σ H x y v u Q I rx ry h
  obtain ⟨b, j, rfl, rfl, q⟩ := h
  cases rx
  obtain ⟨t, rfl⟩ := ry
  exact PySem.IntBool.sub_bool_int ⟨.int _, H, I.tok _, ⟨_, rfl⟩, q⟩
def rSubIB : R2 := fun x y H Q => ∃ i b, x = .int i ∧ y = .bl b ∧ Q (.int (i - (if b = true then 1 else 0))) H
theorem op_sub_ib : OpR X (binaryOp .Sub) rSubIB := by
  intro pins s σ H x y v u Q I rx ry h
  obtain ⟨i, b, rfl, rfl, q⟩ := h
  obtain ⟨t, rfl⟩ := rx
  cases ry
  exact PySem.IntBool.sub_int_bool ⟨.int _, H, I.tok _, ⟨_, rfl⟩, q⟩
/-- a number or a truth, and a number -/
def gAddN : D → D → (Rv → Prop) → Prop := fun a b Q => match a with
  | .bl k => (match b with | .int j => Q (.v (.int ((if k = true then 1 else 0) + j))) | _ => False)
  | _ => gAdd a b Q
theorem op_addN : OpR X (binaryOp .Add) (fun x y H Q => rAddA x y H Q ∨ rAddBI x y H Q) := op_addA.or op_add_bi
theorem sem_addN : SemOp X.K (fun x y H Q => rAddA x y H Q ∨ rAddBI x y H Q) gAddN := by
  intro G σ H F ρ x y a b Q Qd R ha hb h k
  cases a with
  | bl c =>
    cases b with
    | int j =>
      cases ha.bl; cases hb.int
      exact .inr ⟨_, _, rfl, rfl, k _ _ _ _ h (Same.refl _) R (.int _)⟩
    | _ => exact (show False from h).elim
  | _ => exact .inl (sem_addA R ha hb h k)
def gSubN : D → D → (Rv → Prop) → Prop := fun a b Q => match a, b with
  | .int i, .int j => Q (.v (.int (i - j)))
  | .bl k, .int j => Q (.v (.int ((if k = true then 1 else 0) - j)))
  | .int i, .bl k => Q (.v (.int (i - (if k = true then 1 else 0))))
  | _, _ => False
theorem op_subN : OpR X (binaryOp .Sub) (fun x y H Q => rI0 (fun i j => .int (i - j)) x y H Q ∨ (rSubBI x y H Q ∨ rSubIB x y H Q)) := op_sub.or (op_sub_bi.or op_sub_ib)
theorem sem_subN : SemOp X.K (fun x y H Q => rI0 (fun i j => .int (i - j)) x y H Q ∨ (rSubBI x y H Q ∨ rSubIB x y H Q)) gSubN := by
  intro G σ H F ρ x y a b Q Qd R ha hb h k
  unfold gSubN at h
  split at h
  · cases ha.int; cases hb.int
    exact .inl ⟨_, _, rfl, rfl, k _ _ _ _ h (Same.refl _) R (.int _)⟩
  · cases ha.bl; cases hb.int
    exact .inr (.inl ⟨_, _, rfl, rfl, k _ _ _ _ h (Same.refl _) R (.int _)⟩)
  · cases ha.int; cases hb.bl
    exact .inr (.inr ⟨_, _, rfl, rfl, k _ _ _ _ h (Same.refl _) R (.int _)⟩)
  · exact h.elim
/-! ### str(number), tuple(list) -/
theorem strOk_ofString (s : String) : PyData.strOk (Str.ofString s) = true := by
  rw [strOk_iff, PyProof.Rows.signs_ofString]
  intro c hc
  obtain ⟨a, _, rfl⟩ := List.mem_map.mp hc
  have h := a.valid
  rcases h with h | ⟨_, h⟩
  · show a.val.toNat < _
    have : a.val.toNat < 0xd800 := h
    omega
  · exact h
def rStrN : List V → Hp → VK → Prop := fun xs H Q => (∃ i, xs = [.int i] ∧ i.natAbs.log2 < 1920 ∧ Q (.str (toString i)) H) ∨ ∃ b, xs = [.bl b] ∧ Q (.str (if b = true then "True" else "False" : String)) H
theorem call_str_bl : CallR X (.type "str") (fun xs H Q => ∃ b, xs = [.bl b] ∧ Q (.str (if b = true then "True" else "False" : String)) H) := by
  intro pins s σ H xs us Q I r h
  obtain ⟨b, rfl, q⟩ := h
  obtain ⟨u, rfl, r1⟩ := vals1 r
  cases r1
  refine PySem.P.str_of_bool ⟨.str _, H, I.tok _, ⟨_, rfl⟩, ?_⟩
  cases b <;> exact q
theorem call_strA : CallR X (.type "str") rStrN := call_str_int.or call_str_bl
def gStr : List D → (Rv → Prop) → Prop
  | [.int i] => fun Q => i.natAbs < 2 ^ 240 ∧ Q (.v (.str (Str.ofString (toString i))))
  | [.bl b] => fun Q => Q (.v (.str (Str.ofString (if b = true then "True" else "False"))))
  | _ => fun _ => False
theorem sem_strA : SemCall X.K rStrN gStr := by
  intro G σ H F ρ xs as Q Qd R ha h k
  unfold gStr at h
  split at h
  · rename_i i
    obtain ⟨x, rfl, p⟩ := pks1 ha
    cases p.int
    refine .inl ⟨_, rfl, ?_, k _ _ _ _ h.2 (Same.refl _) R (.str _ (strOk_ofString _))⟩
    by_cases h0 : i.natAbs = 0
    · rw [h0]; decide
    · exact Nat.lt_of_lt_of_le ((Nat.log2_lt h0).mpr h.1) (by decide)
  · obtain ⟨x, rfl, p⟩ := pks1 ha
    cases p.bl
    exact .inr ⟨_, rfl, k _ _ _ _ h (Same.refl _) R (.str _ (strOk_ofString _))⟩
  · exact h.elim
def gTupOf : List D → (Rv → Prop) → Prop
  | [.lst l] => fun Q => Q (.v (.tup l))
  | [.tup l] => fun Q => Q (.v (.tup l))
  | _ => fun _ => False
theorem call_tupA : CallR X (.type "tuple") (fun xs H Q => ∃ p ys, xs = [.ref p] ∧ ((SqL X.K H p ys ∧ ∀ l, H l = none → Q (.ref l) (upd H l (.tup ys))) ∨ (SqT X.K H p ys ∧ Q (.ref p) H))) := call_tuple_of
theorem sem_tup : SemCall X.K (fun xs H Q => ∃ p ys, xs = [.ref p] ∧ ((SqL X.K H p ys ∧ ∀ l, H l = none → Q (.ref l) (upd H l (.tup ys))) ∨ (SqT X.K H p ys ∧ Q (.ref p) H))) gTupOf := by
  intro G σ H F ρ xs as Q Qd R ha h k
  unfold gTupOf at h
  split at h
  · rename_i l
    obtain ⟨x, rfl, p⟩ := pks1 ha
    obtain ⟨a, ys, rfl, h1, h2⟩ := p.lst R.ext
    have dd := p.den R.ext
    refine ⟨a, ys, rfl, .inl ⟨.inl (.inl h1), fun q hq => ?_⟩⟩
    -- the items stay
    have d2 : DenL X.K F ys l := h2
    obtain ⟨s1, R1⟩ := R.alloc (o := .tup ys) hq
    exact k _ _ _ _ h s1 R1 (.tup upd_same (d2.mono s1))
  · rename_i l
    obtain ⟨x, rfl, p⟩ := pks1 ha
    obtain ⟨a, ys, rfl, h1, h2⟩ := p.tup
    exact ⟨a, ys, rfl, .inr ⟨.inl (.inl (R.ext _ _ h1)), k _ _ _ _ h (Same.refl _) R (.tup h1 h2)⟩⟩
  · exact h.elim
end
/-! ### what repr shows -/
mutual
theorem fitR_of : ∀ (n : Nat) (d : D), D.fit n d = true → D.fitR n d = true
  | _, .non, _ => by simp [D.fitR]
  | _, .bl _, _ => by simp [D.fitR]
  | _, .int _, _ => by simp [D.fitR]
  | _, .str _, _ => by simp [D.fitR]
  | 0, .lst _, h => by simp [D.fit] at h
  | 0, .tup _, h => by simp [D.fit] at h
  | n + 1, .lst l, h => by rw [D.fit] at h; rw [D.fitR]; exact fitRs_of n l h
  | n + 1, .tup l, h => by rw [D.fit] at h; rw [D.fitR]; exact fitRs_of n l h
  | _, .dct _, h => by simp [D.fit] at h
  | _, .obj _ _, h => by simp [D.fit] at h
  | _, .scr _, h => by simp [D.fit] at h
  | _, .rep _, h => by simp [D.fit] at h
  | _, .at _, h => by simp [D.fit] at h
  | _, .exc _ _ _ _ _, h => by simp [D.fit] at h
  | _, .unk, h => by simp [D.fit] at h
theorem fitRs_of : ∀ (n : Nat) (l : List D), D.fits n l = true → D.fitRs n l = true
  | _, [], _ => by simp [D.fitRs]
  | n, d :: r, h => by
    rw [D.fits, Bool.and_eq_true] at h
    rw [D.fitRs, fitR_of n d h.1, fitRs_of n r h.2]
    rfl
end
/-- what is compared and shown -/
def FineE (d : D) : Prop := D.fit 60 d = true ∧ D.small d = true ∧ D.wt d ≤ 16777216
theorem gReprE_of {d : D} {Q : Rv → Prop} (h : FineE d) (q : Q (.v (.rep d))) : gReprE [d] Q := ⟨fitR_of 60 d h.1, h.2.1, h.2.2, q⟩
theorem fineE_int {i : Int} (h : i.natAbs < 2 ^ 240) : FineE (.int i) := ⟨by simp [D.fit], by simpa [D.small] using h, by simp [D.wt]⟩
theorem fineE_bl {b : Bool} : FineE (.bl b) := ⟨by simp [D.fit], by simp [D.small], by simp [D.wt]⟩
section
def dNew : TD := fun ρ Q => Q (.fr (.d [])) ρ
theorem de_dnew {pos : Pos} : DE X (.Dict [] [] pos) tDNewK dNew := by
  refine ⟨pe_dnewK, fun {G σ H F ρ Q Qd} R q k p hp => ?_⟩
  obtain ⟨R1, rd⟩ := R.allocFr (o := .dK []) hp (c := .d []) ⟨_, upd_same, .nil⟩
  exact k _ _ _ _ _ q (Same.refl _) R1 rd
end
end DL
/-! Piles: things of one's own that only other things hold. -/
namespace DL
open PySem L2
abbrev Pile := List (Addr × Cn)
def plOf (ρ : SL) (g : Nat) : Option Pile := match ρ[g]? with
  | some (.pl hs) => some hs
  | some .un => some []
  | _ => none
def plSet (hs : Pile) (p : Addr) (c : Cn) : Pile := hs.map fun x => if x.1 = p then (p, c) else x
theorem plSet_fst (hs : Pile) (p : Addr) (c : Cn) : (plSet hs p c).map (·.1) = hs.map (·.1) := by
  unfold plSet
  rw [List.map_map]
  apply List.map_congr_left
  intro x _
  by_cases e : x.1 = p
  · simp [e]
  · simp [e]
theorem plSet_mem {hs : Pile} {p q : Addr} {c d : Cn} (h : (q, d) ∈ plSet hs p c) : (q = p ∧ d = c ∧ ∃ c0, (p, c0) ∈ hs) ∨ (q ≠ p ∧ (q, d) ∈ hs) := by
  unfold plSet at h
  obtain ⟨⟨a, b⟩, h1, h2⟩ := List.mem_map.mp h
  by_cases e : a = p
  · subst e
    simp at h2
    obtain ⟨rfl, rfl⟩ := h2
    exact .inl ⟨rfl, rfl, b, h1⟩
  · simp [e] at h2
    obtain ⟨rfl, rfl⟩ := h2
    exact .inr ⟨e, h1⟩
theorem mem_fst {hs : Pile} {p : Addr} {c : Cn} (h : (p, c) ∈ hs) : p ∈ hs.map (·.1) := List.mem_map.mpr ⟨_, h, rfl⟩
section
variable {K : PySem.W.Frag} {G : Cd} {σ : St} {H F : Hp} {ρ : SL} {v : V} {c : Cn} {g : Nat} {p : Addr} {hs : Pile}
theorem plOf_set {hs' : Pile} (h : plOf ρ g = some hs') : plOf (ρ.set g (.pl hs)) g = some hs := by
  unfold plOf at h ⊢
  have hl : g < ρ.length := by
    cases q : ρ[g]? with
    | none => rw [q] at h; cases h
    | some s => exact (List.getElem?_eq_some_iff.mp q).1
  rw [List.getElem?_set_self hl]
/-- a slot of which nothing is known may hold an empty pile; a pile may be made smaller -/
theorem Rep.plSub {hs' : Pile} (R : Rep K G σ H F ρ) (h : plOf ρ g = some hs) (hsub : hs'.Sublist hs) : Rep K G σ H F (ρ.set g (.pl hs')) := by
  have nos : ∀ (j : Nat) (s : Sl), (ρ.set g (.pl hs'))[j]? = some s → (j = g ∧ s = .pl hs') ∨ (j ≠ g ∧ ρ[j]? = some s) := fun j s e => set_get e
  have P := R.pl
  have cas : ρ[g]? = some (.pl hs) ∨ hs = [] := by
    unfold plOf at h
    split at h
    · rename_i q; cases h; exact .inl q
    · cases h; exact .inr rfl
    · cases h
  refine ⟨by rw [List.length_set]; exact R.len, R.ext, fun i d e => ?_, fun i c e => ?_, fun i j c e => ?_, fun i j s t c c' p e1 e2 h1 h2 h3 h4 => ?_, R.fr0, R.new, R.keep, R.dom, R.bd, R.lb, ?_⟩
  · rcases nos i _ e with ⟨_, z⟩ | ⟨_, z⟩
    · cases z
    · exact R.sh i d z
  · rcases nos i _ e with ⟨_, z⟩ | ⟨_, z⟩
    · cases z
    · exact R.ow i c z
  · rcases nos i _ e with ⟨_, z⟩ | ⟨_, z⟩
    · cases z
    · exact R.bw i j c z
  · rcases nos i _ e1 with ⟨_, z⟩ | ⟨_, z⟩
    · subst z; cases h1
    · rcases nos j _ e2 with ⟨_, z2⟩ | ⟨_, z2⟩
      · subst z2; cases h2
      · exact R.sep i j s t c c' p z z2 h1 h2 h3 h4
  · have old : ∀ (i : Nat) (hs2 : Pile) (p : Addr) (c : Cn), (ρ.set g (.pl hs'))[i]? = some (.pl hs2) → (p, c) ∈ hs2 → ∃ hs3, ρ[i]? = some (.pl hs3) ∧ (p, c) ∈ hs3 := fun i hs2 p c e m => by
      rcases nos i _ e with ⟨rfl, z⟩ | ⟨_, z⟩
      · cases z
        have m2 := hsub.mem m
        rcases cas with k | k
        · exact ⟨hs, k, m2⟩
        · subst k; exact (List.not_mem_nil m2).elim
      · exact ⟨hs2, z, m⟩
    refine ⟨fun i hs2 e => ?_, fun i hs2 p c e m => ?_, fun i hs2 p c e m j s c' e1 e2 => ?_, fun i j h1 h2 p c c' e1 e2 m1 m2 => ?_⟩
    · rcases nos i _ e with ⟨rfl, z⟩ | ⟨_, z⟩
      · cases z
        rcases cas with k | k
        · exact (P.one _ _ k).sublist (hsub.map _)
        · subst k
          rw [List.sublist_nil.mp hsub]
          exact List.nodup_nil
      · exact P.one i hs2 z
    · obtain ⟨hs3, z, m2⟩ := old i hs2 p c e m
      exact P.has i hs3 p c z m2
    · obtain ⟨hs3, z, m2⟩ := old i hs2 p c e m
      rcases nos j _ e1 with ⟨_, z1⟩ | ⟨_, z1⟩
      · subst z1; cases e2
      · exact P.own i hs3 p c z m2 j s c' z1 e2
    · obtain ⟨h3, z1, n1⟩ := old i h1 p c e1 m1
      obtain ⟨h4, z2, n2⟩ := old j h2 p c' e2 m2
      exact P.two i j h3 h4 p c c' z1 z2 n1 n2
theorem Rep.plHave (R : Rep K G σ H F ρ) (h : plOf ρ g = some hs) : Rep K G σ H F (ρ.set g (.pl hs)) := R.plSub h (List.Sublist.refl _)
theorem plOf_lt (h : plOf ρ g = some hs) : g < ρ.length := by
  unfold plOf at h
  cases q : ρ[g]? with
  | none => rw [q] at h; cases h
  | some s => exact (List.getElem?_eq_some_iff.mp q).1
/-- what a pile holds -/
theorem Rep.plHas (R : Rep K G σ H F ρ) (h : plOf ρ g = some hs) (m : hs.lookup p = some c) : Has K F H p c ∧ F p = none ∧ (G.H0 p = none ∨ G.L p) := by
  have R1 := R.plHave h
  exact R1.pl.has g hs p c (List.getElem?_set_self (plOf_lt h)) (lookup_mem m)
/-- new things are put on a pile -/
theorem Rep.plAdd {hs2 : Pile} (R : Rep K G σ H F ρ) (h : plOf ρ g = some hs) (hn : (hs2.map (·.1)).Nodup) (hh : ∀ p c, (p, c) ∈ hs2 → Has K F H p c ∧ F p = none ∧ (G.H0 p = none ∨ G.L p) ∧ Lone σ ρ p) :
    (∀ p, p ∈ hs2.map (·.1) → p ∉ hs.map (·.1)) ∧ Rep K G σ H F (ρ.set g (.pl (hs2 ++ hs))) := by
  have R1 := R.plHave h
  have hg := plOf_lt h
  have cas : ρ[g]? = some (.pl hs) ∨ hs = [] := by
    unfold plOf at h
    split at h
    · rename_i q; cases h; exact .inl q
    · cases h; exact .inr rfl
    · cases h
  have dis : ∀ p, p ∈ hs2.map (·.1) → p ∉ hs.map (·.1) := fun p m1 m2 => by
    obtain ⟨⟨_, c⟩, k1, rfl⟩ := List.mem_map.mp m1
    obtain ⟨⟨q, c2⟩, k2, e⟩ := List.mem_map.mp m2
    rcases cas with k | k
    · obtain ⟨_, _, _, l⟩ := hh _ _ k1
      exact l.2 g hs c2 k (by cases e; exact k2)
    · subst k; exact (List.not_mem_nil k2).elim
  have P := R1.pl
  have nos : ∀ (j : Nat) (s : Sl), (ρ.set g (.pl (hs2 ++ hs)))[j]? = some s → (j = g ∧ s = .pl (hs2 ++ hs)) ∨ (j ≠ g ∧ ρ[j]? = some s) := fun j s e => set_get e
  have same : ∀ j, j ≠ g → (ρ.set g (.pl hs))[j]? = ρ[j]? := fun j ne => List.getElem?_set_ne (Ne.symm ne)
  have at_ : (ρ.set g (.pl hs))[g]? = some (.pl hs) := List.getElem?_set_self hg
  refine ⟨dis, ?_⟩
  refine ⟨by rw [List.length_set]; exact R.len, R.ext, fun i d e => ?_, fun i c e => ?_, fun i j c e => ?_, fun i j s t c c' p e1 e2 h1 h2 h3 h4 => ?_, R.fr0, R.new, R.keep, R.dom, R.bd, R.lb, ?_⟩
  · rcases nos i _ e with ⟨_, z⟩ | ⟨_, z⟩
    · cases z
    · exact R.sh i d z
  · rcases nos i _ e with ⟨_, z⟩ | ⟨_, z⟩
    · cases z
    · exact R.ow i c z
  · rcases nos i _ e with ⟨_, z⟩ | ⟨_, z⟩
    · cases z
    · exact R.bw i j c z
  · rcases nos i _ e1 with ⟨_, z⟩ | ⟨_, z⟩
    · subst z; cases h1
    · rcases nos j _ e2 with ⟨_, z2⟩ | ⟨_, z2⟩
      · subst z2; cases h2
      · exact R.sep i j s t c c' p z z2 h1 h2 h3 h4
  · -- where an item of a pile comes from
    have old : ∀ (i : Nat) (h3 : Pile) (p : Addr) (c : Cn), (ρ.set g (.pl (hs2 ++ hs)))[i]? = some (.pl h3) → (p, c) ∈ h3 → (i = g ∧ (p, c) ∈ hs2) ∨ ∃ h4, (ρ.set g (.pl hs))[i]? = some (.pl h4) ∧ (p, c) ∈ h4 := fun i h3 p c e m => by
      rcases nos i _ e with ⟨rfl, z⟩ | ⟨ne, z⟩
      · cases z
        rcases List.mem_append.mp m with m | m
        · exact .inl ⟨rfl, m⟩
        · exact .inr ⟨hs, at_, m⟩
      · exact .inr ⟨h3, by rw [same i ne]; exact z, m⟩
    have cross : ∀ (p : Addr) (c c' : Cn) (i : Nat) (h4 : Pile), (p, c) ∈ hs2 → (ρ.set g (.pl hs))[i]? = some (.pl h4) → (p, c') ∈ h4 → i = g → False := fun p c c' i h4 m1 e m2 hi => by
      subst hi
      rw [at_] at e; cases e
      exact dis p (mem_fst m1) (mem_fst m2)
    refine ⟨fun i h3 e => ?_, fun i h3 p c e m => ?_, fun i h3 p c e m j s c' e1 e2 => ?_, fun i j h1 h2 p c c' e1 e2 m1 m2 => ?_⟩
    · rcases nos i _ e with ⟨rfl, z⟩ | ⟨ne, z⟩
      · cases z
        rw [List.map_append]
        exact List.nodup_append.mpr ⟨hn, P.one _ _ at_, fun a ha b hb e => by subst e; exact dis a ha hb⟩
      · exact P.one i h3 (by rw [same i ne]; exact z)
    · rcases old i h3 p c e m with ⟨_, m2⟩ | ⟨h4, z, m2⟩
      · obtain ⟨a, b, d, _⟩ := hh p c m2; exact ⟨a, b, d⟩
      · exact P.has i h4 p c z m2
    · rcases nos j _ e1 with ⟨_, z1⟩ | ⟨ne1, z1⟩
      · subst z1; cases e2
      · rcases old i h3 p c e m with ⟨_, m2⟩ | ⟨h4, z, m2⟩
        · obtain ⟨_, _, _, l⟩ := hh p c m2
          exact l.1 j s c' z1 e2
        · exact P.own i h4 p c z m2 j s c' (by rw [same j ne1]; exact z1) e2
    · rcases old i h1 p c e1 m1 with ⟨i1, n1⟩ | ⟨h3, z1, n1⟩
      · rcases old j h2 p c' e2 m2 with ⟨i2, n2⟩ | ⟨h4, z2, n2⟩
        · rw [i1, i2]
        · by_cases hj : j = g
          · exact (cross p c c' j h4 n1 z2 n2 hj).elim
          · rw [same j hj] at z2
            obtain ⟨_, _, _, l⟩ := hh p c n1
            exact (l.2 j h4 c' z2 n2).elim
      · rcases old j h2 p c' e2 m2 with ⟨i2, n2⟩ | ⟨h4, z2, n2⟩
        · by_cases hi : i = g
          · exact (cross p c' c i h3 n2 z1 n1 hi).elim
          · rw [same i hi] at z1
            obtain ⟨_, _, _, l⟩ := hh p c' n2
            exact (l.2 i h3 c z1 n1).elim
        · exact P.two i j h3 h4 p c c' z1 z2 n1 n2
/-- a thing of a pile is changed -/
theorem Rep.plWrite {c' : Cn} {o : HO} (R : Rep K G σ H F ρ) (h : plOf ρ g = some hs) (m : hs.lookup p = some c) (hn : Has K F (upd H p o) p c') : Rep K G σ (upd H p o) F (ρ.set g (.pl (plSet hs p c'))) := by
  have R1 := R.plHave h
  have hg := plOf_lt h
  have P := R1.pl
  have at_ : (ρ.set g (.pl hs))[g]? = some (.pl hs) := List.getElem?_set_self hg
  obtain ⟨a1, b1, d1⟩ := P.has g hs p c at_ (lookup_mem m)
  have nos : ∀ (j : Nat) (s : Sl), (ρ.set g (.pl (plSet hs p c')))[j]? = some s → (j = g ∧ s = .pl (plSet hs p c')) ∨ (j ≠ g ∧ (ρ.set g (.pl hs))[j]? = some s) := fun j s e => by
    rcases set_get e with ⟨a, b⟩ | ⟨a, b⟩
    · exact .inl ⟨a, b⟩
    · exact .inr ⟨a, by rw [List.getElem?_set_ne (Ne.symm a)]; exact b⟩
  have oth : ∀ (j : Nat) (s : Sl) (c2 : Cn) (q : Addr), (ρ.set g (.pl hs))[j]? = some s → s.cn = some c2 → σ[j]? = some (some (.ref q)) → q ≠ p := fun j s c2 q e1 e2 e3 z => by
    subst z; exact P.own g hs q c at_ (lookup_mem m) j s c2 e1 e2 e3
  refine ⟨by rw [List.length_set]; exact R.len, fun a x e => ?_, fun i d e => ?_, fun i c2 e => ?_, fun i j c2 e => ?_, fun i j s t c2 c3 q e1 e2 h1 h2 h3 h4 => ?_, R.fr0, R.new, fun a x e nl nb => ?_, fun a x e => ?_, R.bd, R.lb, ?_⟩
  · rw [upd_ne (fun z => by subst z; rw [b1] at e; cases e)]; exact R.ext a x e
  · rcases nos i _ e with ⟨_, z⟩ | ⟨_, z⟩
    · cases z
    · exact R1.sh i d z
  · rcases nos i _ e with ⟨_, z⟩ | ⟨_, z⟩
    · cases z
    · obtain ⟨q, a, b, e2, e3⟩ := R1.ow i c2 z
      exact ⟨q, a, b.at (upd_ne (oth i _ _ q z rfl a)), e2, e3⟩
  · rcases nos i _ e with ⟨_, z⟩ | ⟨_, z⟩
    · cases z
    · obtain ⟨q, a, b, e2, e3⟩ := R1.bw i j c2 z
      exact ⟨q, a, b.at (upd_ne (oth i _ _ q z rfl a)), e2, e3⟩
  · rcases nos i _ e1 with ⟨_, z⟩ | ⟨_, z⟩
    · subst z; cases h1
    · rcases nos j _ e2 with ⟨_, z2⟩ | ⟨_, z2⟩
      · subst z2; cases h2
      · exact R1.sep i j s t c2 c3 q z z2 h1 h2 h3 h4
  · rw [upd_ne (fun z => by
      subst z
      rcases d1 with d1 | d1
      · rw [e] at d1; cases d1
      · exact nl d1)]
    exact R.keep a x e nl nb
  · obtain ⟨o', kk⟩ := R.dom a x e
    by_cases z : a = p
    · subst z; exact ⟨_, upd_same⟩
    · exact ⟨o', by rw [upd_ne z]; exact kk⟩
  · have old : ∀ (i : Nat) (h3 : Pile) (q : Addr) (c2 : Cn), (ρ.set g (.pl (plSet hs p c')))[i]? = some (.pl h3) → (q, c2) ∈ h3 → (i = g ∧ q = p ∧ c2 = c') ∨ (q ≠ p ∧ ∃ h4, (ρ.set g (.pl hs))[i]? = some (.pl h4) ∧ (q, c2) ∈ h4) := fun i h3 q c2 e m2 => by
      rcases nos i _ e with ⟨rfl, z⟩ | ⟨ne, z⟩
      · cases z
        rcases plSet_mem m2 with ⟨z1, z2, _⟩ | ⟨z1, z2⟩
        · exact .inl ⟨rfl, z1, z2⟩
        · exact .inr ⟨z1, hs, at_, z2⟩
      · refine .inr ⟨fun z2 => ?_, h3, z, m2⟩
        subst z2
        exact ne (P.two i g h3 hs q c2 c z at_ m2 (lookup_mem m))
    have any : ∀ (i : Nat) (h3 : Pile) (q : Addr) (c2 : Cn), (ρ.set g (.pl (plSet hs p c')))[i]? = some (.pl h3) → (q, c2) ∈ h3 → ∃ h4 c4, (ρ.set g (.pl hs))[i]? = some (.pl h4) ∧ (q, c4) ∈ h4 := fun i h3 q c2 e m2 => by
      rcases old i h3 q c2 e m2 with ⟨rfl, rfl, rfl⟩ | ⟨_, h4, z1, z2⟩
      · exact ⟨hs, c, at_, lookup_mem m⟩
      · exact ⟨h4, c2, z1, z2⟩
    refine ⟨fun i h3 e => ?_, fun i h3 q c2 e m2 => ?_, fun i h3 q c2 e m2 j s c3 e1 e2 => ?_, fun i j h1 h2 q c2 c3 e1 e2 m1 m2 => ?_⟩
    · rcases nos i _ e with ⟨rfl, z⟩ | ⟨ne, z⟩
      · cases z
        rw [plSet_fst]
        exact P.one _ _ at_
      · exact P.one i h3 z
    · rcases old i h3 q c2 e m2 with ⟨rfl, rfl, rfl⟩ | ⟨ne, h4, z1, z2⟩
      · exact ⟨hn, b1, d1⟩
      · obtain ⟨a, b, d⟩ := P.has i h4 q c2 z1 z2
        exact ⟨a.at (upd_ne ne), b, d⟩
    · obtain ⟨h4, c4, z1, z2⟩ := any i h3 q c2 e m2
      rcases nos j _ e1 with ⟨_, z⟩ | ⟨_, z⟩
      · subst z; cases e2
      · exact P.own i h4 q c4 z1 z2 j s c3 z e2
    · obtain ⟨h4, c4, z1, z2⟩ := any i h1 q c2 e1 m1
      obtain ⟨h5, c5, z3, z4⟩ := any j h2 q c3 e2 m2
      exact P.two i j h4 h5 q c4 c5 z1 z3 z2 z4
end
end DL
/-! Piles in expressions; calls that only look; things lent by name. -/
namespace DL
open PySem PySem.Spec L2 PyProof.Rows
section
variable {X : Cx}
/-- a new thing put on the pile g: its place is handed on (older things may be left) -/
def dKeep (g : Nat) (t : TD) : TD := fun ρ Q => t ρ fun r ρ1 => match r with
  | .v d => Q (.v d) ρ1
  | .fr c => ∃ hs hs', plOf ρ1 g = some hs ∧ hs'.Sublist hs ∧ ∀ p, p ∉ hs'.map (·.1) → Q (.v (.at p)) (ρ1.set g (.pl ((p, c) :: hs')))
  | .pt d hs2 => ∃ hs hs', plOf ρ1 g = some hs ∧ hs'.Sublist hs ∧ ((∀ p, p ∈ hs2.map (·.1) → p ∉ hs'.map (·.1)) → (hs2.map (·.1)).Nodup → Q (.v d) (ρ1.set g (.pl (hs2 ++ hs'))))
theorem de_keep (g : Nat) {e : Expr} {te : TE} {t : TD} (h : DE X e te t) : DE X e te (dKeep g t) :=
  ⟨h.pe, fun {G σ H F ρ Q Qd} R q k => h.sem R q fun r ρ1 v H1 F1 q1 s1 R1 rd => by
    cases r with
    | v d => exact k _ _ _ _ _ q1 s1 R1 rd
    | fr c =>
      obtain ⟨hs, hs', e1, e2, q1⟩ := q1
      obtain ⟨p, rfl, a, b, d, l⟩ := rd
      have R2 := R1.plSub e1 e2
      have e3 := plOf_set (hs := hs') e1
      have l2 : Lone σ (ρ1.set g (.pl hs')) p := by
        refine ⟨fun i s c' z1 z2 z3 => ?_, fun i h3 c' z1 m => ?_⟩
        · rcases set_get z1 with ⟨_, w⟩ | ⟨_, w⟩
          · subst w; cases z2
          · exact l.1 i s c' w z2 z3
        · rcases set_get z1 with ⟨rfl, w⟩ | ⟨_, w⟩
          · cases w
            have m2 := e2.mem m
            unfold plOf at e1
            split at e1
            · rename_i w2; cases e1; exact l.2 _ _ c' w2 m2
            · cases e1; exact (List.not_mem_nil m2).elim
            · cases e1
          · exact l.2 i h3 c' w m
      obtain ⟨dis, R3⟩ := R2.plAdd (hs2 := [(p, c)]) e3 (by simp) fun p' c' m => by
        cases List.mem_singleton.mp m
        exact ⟨a, b, d, l2⟩
      rw [List.set_set] at R3
      exact k _ _ _ _ _ (q1 p (dis p (by simp))) s1 R3 (.at p)
    | pt d hs2 =>
      obtain ⟨hs, hs', e1, e2, q1⟩ := q1
      obtain ⟨g1, g2, g3⟩ := rd
      have R2 := R1.plSub e1 e2
      have e3 := plOf_set (hs := hs') e1
      obtain ⟨dis, R3⟩ := R2.plAdd (hs2 := hs2) e3 g2 fun p c m => by
        obtain ⟨a, b, d, l⟩ := g3 p c m
        refine ⟨a, b, d, fun i s c' z1 z2 z3 => ?_, fun i h3 c' z1 m => ?_⟩
        · rcases set_get z1 with ⟨_, w⟩ | ⟨_, w⟩
          · subst w; cases z2
          · exact l.1 i s c' w z2 z3
        · rcases set_get z1 with ⟨rfl, w⟩ | ⟨_, w⟩
          · cases w
            have m2 := e2.mem m
            unfold plOf at e1
            split at e1
            · rename_i w2; cases e1; exact l.2 _ _ c' w2 m2
            · cases e1; exact (List.not_mem_nil m2).elim
            · cases e1
          · exact l.2 i h3 c' w m
      rw [List.set_set] at R3
      exact k _ _ _ _ _ (q1 dis g2) s1 R3 g1⟩
/-- new things handed on together with what holds them (a tuple of new lists, say) -/
def dPack (g : Nat) (t : TD) : TD := fun ρ Q => t ρ fun r ρ1 => ∃ hs, ρ1[g]? = some (.pl hs) ∧ Q (.pt r.dat hs) (ρ1.set g .un)
theorem de_pack (g : Nat) {e : Expr} {te : TE} {t : TD} (h : DE X e te t) : DE X e te (dPack g t) :=
  ⟨h.pe, fun {G σ H F ρ Q Qd} R q k => h.sem R q fun r ρ1 v H1 F1 q1 s1 R1 rd => by
    obtain ⟨hs, e1, q1⟩ := q1
    obtain ⟨F2, s2, R2, d2⟩ := R1.share rd
    have P := R2.pl
    refine k _ _ _ _ _ q1 (s1.trans s2) (R2.unSlot g) ⟨d2, P.one g hs e1, fun p c m => ?_⟩
    obtain ⟨a, b, d⟩ := P.has g hs p c e1 m
    refine ⟨a, b, d, fun i s c' z1 z2 z3 => ?_, fun i h3 c' z1 m2 => ?_⟩
    · obtain ⟨_, w⟩ := un_own z1 z2
      exact P.own g hs p c e1 m i s c' w z2 z3
    · rcases set_get z1 with ⟨_, w⟩ | ⟨ne, w⟩
      · cases w
      · exact ne (P.two i g h3 hs p c' c w e1 m2 m)⟩
/-- a value as an operand, where piles are about -/
def opG (g : Nat) : D → Op
  | .at p => .pl g p
  | d => .now d
def qPl (g : Nat) (t : TD) : TQ := fun ρ Q => t ρ fun r ρ1 => Q (opG g r.dat) ρ1
theorem opG_den {K : PySem.W.Frag} {F : Hp} {σ : L2.St} {v : V} {d : D} (g : Nat) (h : Den K F v d) : OpDen K F σ v (opG g d) := by
  cases d with
  | «at» p => cases h; rfl
  | _ => exact h
theorem do_pl (g : Nat) {e : Expr} {te : TE} {t : TD} (h : DE X e te t) : DO X e te (qPl g t) :=
  ⟨h.pe, fun R q k => h.sem R q fun r ρ' v H' F' qd s1 R1 rd => by
    obtain ⟨F2, s2, R2, d2⟩ := R1.share rd
    exact k _ _ _ _ _ qd (s1.trans s2) R2 (opG_den g d2)⟩
def qVarP (g i : Nat) : TQ := fun ρ Q => match ρ[i]? with
  | some (.sh d) => Q (match d with | .at p => .pl g p | _ => .at i) ρ
  | some (.ow _) => Q (.at i) ρ
  | some (.bw _ _) => Q (.at i) ρ
  | _ => False
theorem do_varP (g : Nat) {i : Nat} {x : Str} {pos : Pos} (h : PE X (.Name x pos) (tVar i)) : DO X (.Name x pos) (tVar i) (qVarP g i) := by
  refine ⟨h, fun {G σ H F ρ Q Qd} R q k => ?_⟩
  unfold qVarP at q
  split at q
  · rename_i d e
    obtain ⟨v, a, b⟩ := R.sh i d e
    refine ⟨v, a, ?_⟩
    cases d with
    | «at» p => cases b; exact k (.pl g p) _ _ _ _ q (Same.refl _) R rfl
    | _ => exact k (.at i) _ _ _ _ q (Same.refl _) R a
  · rename_i c e
    obtain ⟨p, a, _⟩ := R.ow i _ e
    exact ⟨_, a, k (.at i) _ _ _ _ q (Same.refl _) R a⟩
  · rename_i j c e
    obtain ⟨p, a, _⟩ := R.bw i _ _ e
    exact ⟨_, a, k (.at i) _ _ _ _ q (Same.refl _) R a⟩
  · exact q.elim
/-! ### e.append(..), e[i] = .., e an expression whose value a pile holds -/
def dMutE (g : Nat) (t0 : TD) (m : List D → List D → (List D → D → Prop) → Prop) (t : TVs) : TD := fun ρ Q => t0 ρ fun r ρ0 => ∃ p, r.dat = .at p ∧ (∃ hs l, plOf ρ0 g = some hs ∧ hs.lookup p = some (.l l)) ∧
  t ρ0 fun ds ρ1 => ∃ hs l, plOf ρ1 g = some hs ∧ hs.lookup p = some (.l l) ∧ m l ds fun l' d => Q (.v d) (ρ1.set g (.pl (plSet hs p (.l l'))))
theorem de_mutE (g : Nat) {o : Expr} {to : TE} {t0 : TD} {e : Expr} {es : List Expr} {name : Str} {apos cpos : Pos} {id : String} {r : V → List V → Hp → VK → Prop} {m : List D → List D → (List D → D → Prop) → Prop} {ta : TA} {t : TVs}
    (slot : Slot "list" name id) (hty : typeOf (.builtin id) = pure (.type "method_descriptor")) (hm : MtR X id r) (hg : SemMut X.K r m) (ho : DE X o to t0) (ha : DV X (e :: es) ta t)
    (hbase : attributeBase o name X.env (eval o X.env) = eval o X.env := by rfl)
    (hfew : ((backTo cpos (starEach (e :: es) X.env)).all (fun x => !x.1) && (backToKw cpos (keywordEach [] X.env)).all (fun x => x.1.isSome)
      && decide ((e :: es).length + ([] : List Keyword).length + (if ([] : List Keyword).isEmpty then 0 else 1) < 30)) = true := by rfl)
    (hline : (apos.endLine == cpos.line) = true := by rfl) (hs : starEach (e :: es) X.env = (false, eval e X.env) :: starEach es X.env := by rfl) (hplain : (backTo cpos (starEach es X.env)).any (·.1) = false := by rfl) :
    DE X (.Call (.Attribute o name apos) (e :: es) [] cpos) (tBM X.K "list" r to ta) (dMutE g t0 m t) := by
  refine ⟨pe_bm PySem.F.plainAttrs_list slot hty hm ho.pe ha.pe hbase hfew hline hs hplain, fun {G σ H F ρ Q Qd} R q k => ?_⟩
  refine ho.sem R q fun r ρ0 v H0 F0 q0 s0 R0 rd => ?_
  obtain ⟨p, ed, ⟨hs0, l0, e1, e2⟩, q0⟩ := q0
  obtain ⟨F0', s0', R0', d0⟩ := R0.share rd
  rw [ed] at d0
  cases d0
  obtain ⟨⟨xs0, hx0, _⟩, _⟩ := R0'.plHas e1 e2
  refine .inl ⟨rfl, xs0, .inl (.inl hx0)⟩ |> fun z => ⟨z, ha.sem R0' q0 fun ds ρ1 vs H1 F1 q1 s1 R1 d1 => ?_⟩
  obtain ⟨hs1, l, f1, f2, q1⟩ := q1
  obtain ⟨⟨xs, hx, dx⟩, _⟩ := R1.plHas f1 f2
  exact hg R1.ext hx dx d1 q1 fun l' d xs' z qd d2 dz => k _ _ _ _ _ qd (s0.trans (s0'.trans s1)) (R1.plWrite f1 f2 ⟨xs', upd_same, d2⟩) dz
def dMutE0 (g : Nat) (t0 : TD) (m : List D → (List D → D → Prop) → Prop) : TD := fun ρ Q => t0 ρ fun r ρ0 => ∃ p hs l, r.dat = .at p ∧ plOf ρ0 g = some hs ∧ hs.lookup p = some (.l l) ∧ m l fun l' d => Q (.v d) (ρ0.set g (.pl (plSet hs p (.l l'))))
theorem de_mutE0 (g : Nat) {o : Expr} {to : TE} {t0 : TD} {name : Str} {apos cpos : Pos} {id : String} {r : V → List V → Hp → VK → Prop} {m : List D → (List D → D → Prop) → Prop}
    (slot : Slot "list" name id) (hty : typeOf (.builtin id) = pure (.type "method_descriptor")) (hm : MtR X id r) (hg : SemMut0 X.K r m) (ho : DE X o to t0)
    (hbase : attributeBase o name X.env (eval o X.env) = eval o X.env := by rfl) (hline : (apos.endLine == cpos.line) = true := by rfl) :
    DE X (.Call (.Attribute o name apos) [] [] cpos) (tBM0 X.K "list" r to) (dMutE0 g t0 m) := by
  refine ⟨pe_bm0 PySem.F.plainAttrs_list slot hty hm ho.pe hbase hline, fun {G σ H F ρ Q Qd} R q k => ?_⟩
  refine ho.sem R q fun r ρ0 v H0 F0 q0 s0 R0 rd => ?_
  obtain ⟨p, hs, l, ed, e1, e2, q0⟩ := q0
  obtain ⟨F0', s0', R0', d0⟩ := R0.share rd
  rw [ed] at d0
  cases d0
  obtain ⟨⟨xs, hx, dx⟩, _⟩ := R0'.plHas e1 e2
  refine ⟨.inl ⟨rfl, xs, .inl (.inl hx)⟩, hg R0'.ext hx dx q0 fun l' d xs' z qd d2 dz => ?_⟩
  exact k _ _ _ _ _ qd (s0.trans s0') (R0'.plWrite e1 e2 ⟨xs', upd_same, d2⟩) dz
end
end DL
/-! Calls that only look at what is handed in; things lent by their names. -/
namespace DL
open PySem PySem.Spec L2 PyProof.Rows
def D.atom : D → Bool
  | .non => true
  | .bl _ => true
  | .int _ => true
  | .str _ => true
  | .rep _ => true
  | _ => false
theorem atom_den {K : PySem.W.Frag} {F F' : Hp} {v : V} {d : D} (ha : d.atom = true) (h : Den K F v d) : Den K F' v d := by
  cases d with
  | non => cases h; exact .non
  | bl b => cases h; exact .bl _
  | int i => cases h; exact .int _
  | str x => cases h with | str _ a => exact .str _ a
  | rep d => cases h; exact .rep d
  | _ => cases ha
theorem Rep.grow {K : PySem.W.Frag} {G : Cd} {σ : L2.St} {H H' F : Hp} {ρ : SL} (R : Rep K G σ H F ρ) (e : Same H H') : Rep K G σ H' F ρ := by
  have hh : ∀ p c, Has K F H p c → Has K F H' p c := fun p c h => by
    obtain ⟨o, ho⟩ := h.ex
    exact h.at ((e p o ho).trans ho.symm)
  exact ⟨R.len, R.ext.trans e, R.sh, fun i c z => let ⟨p, a, b, d⟩ := R.ow i c z; ⟨p, a, hh p c b, d⟩, fun i j c z => let ⟨p, a, b, d⟩ := R.bw i j c z; ⟨p, a, hh p c b, d⟩, R.sep, R.fr0, R.new,
    fun a o z nl nb => e a o (R.keep a o z nl nb), fun a o z => let ⟨o', k⟩ := R.dom a o z; ⟨o', e a o' k⟩, R.bd, R.lb,
    R.pl.to (fun _ _ z => z) (fun j s c' q e1 e2 e3 => .inl ⟨s, c', e1, e2, e3⟩) fun i hs q c _ _ a b d => ⟨hh q c a, b, d⟩⟩
theorem denL_at {K : PySem.W.Frag} {F : Hp} : ∀ {vs : List V} {ds : List D} {i : Nat} {d : D}, DenL K F vs ds → ds[i]? = some d → ∃ v, vs[i]? = some v ∧ Den K F v d := fun h e => h.get e
/-- arguments that are looked at alone -/
theorem sem_pure {K : PySem.W.Frag} {sp : SpD} {vs : List V} {ds : List D} {G : Cd} {σ : L2.St} {H F : Hp} {ρ : SL} {Q : VK} {E : XK} {Qd : Rv → SL → Prop} (R : Rep K G σ H F ρ) (d : DenL K H vs ds)
    (q : sp (ds.map Sl.sh) fun r _ => ∃ a, r = .v a ∧ D.atom a = true ∧ Qd (.v a) ρ)
    (k : ∀ r ρ' v H' F', Qd r ρ' → Same F F' → Rep K G σ H' F' ρ' → RDen K G σ ρ' H' F' v r → Q v H') : lift K sp vs H Q E := by
  have sl : ∀ (i : Nat) (s : Sl), (ds.map Sl.sh)[i]? = some s → ∃ d, ds[i]? = some d ∧ s = .sh d := fun i s e => by
    rw [List.getElem?_map] at e
    cases q : ds[i]? with
    | none => rw [q] at e; cases e
    | some d => rw [q] at e; cases e; exact ⟨d, rfl, rfl⟩
  refine ⟨fun _ => none, H, ds.map Sl.sh, _, ?_, q, fun r outs σ' v H' F' ⟨a, e, ha, qd⟩ RC rd => ?_⟩
  · refine ⟨by rw [List.length_map, List.length_map, d.length], Same.refl H, fun i d' e => ?_, fun i c e => ?_, fun i j c e => ?_, fun i j s t c c' p e1 e2 h1 h2 h3 h4 => ?_, Same.refl H, fun a o e => .inl e, fun a o e _ _ => e, fun a o e => ⟨o, e⟩, fun j p e => (nomatch e), fun _ _ z => z.elim, ?_⟩
    · obtain ⟨d2, e2, z⟩ := sl i _ e
      cases z
      obtain ⟨v, e3, e4⟩ := d.get e2
      exact ⟨v, by rw [List.getElem?_map, e3]; rfl, e4⟩
    · obtain ⟨d2, e2, z⟩ := sl i _ e; cases z
    · obtain ⟨d2, e2, z⟩ := sl i _ e; cases z
    · obtain ⟨d2, e2, z⟩ := sl i _ e1; subst z; cases h1
    · have no : ∀ (i : Nat) (hs : List (Addr × Cn)), (ds.map Sl.sh)[i]? ≠ some (.pl hs) := fun i hs e => by
        obtain ⟨d2, e2, z⟩ := sl i _ e; cases z
      exact ⟨fun i hs e => (no i hs e).elim, fun i hs p c e => (no i hs e).elim, fun i hs p c e => (no i hs e).elim, fun i j hs hs' p c c' e => (no i hs e).elim⟩
  · subst e
    have e : Same H H' := fun a o z => RC.keep a o z (fun z => z) (fun j z => nomatch z)
    exact k _ _ _ _ _ qd (Same.refl F) (R.grow e) (show Den K F v a from atom_den ha rd)
theorem OpDens.dens {K : PySem.W.Frag} {G : Cd} {σ : L2.St} {H F : Hp} {ρ : SL} (R : Rep K G σ H F ρ) {vs : List V} {os : List Op} {ds : List D} (h : OpDens K F σ vs os) (e : gets ρ os = some ds) : DenL K H vs ds := by
  have p := OpDens.pks R h e
  clear h e
  induction p with
  | nil => exact .nil
  | cons a _ ih => exact .cons (a.den R.ext) ih
/-! with what the pile holds put in -/
def pileOf (ρ : SL) (g : Nat) : Pile := match ρ[g]? with
  | some (.pl hs) => hs
  | _ => []
theorem pileOf_mem {ρ : SL} {g : Nat} {p : Addr} {c : Cn} (h : (p, c) ∈ pileOf ρ g) : ∃ (i : Nat) (hs : Pile), ρ[i]? = some (.pl hs) ∧ (p, c) ∈ hs := by
  unfold pileOf at h
  split at h
  · rename_i hs e
    exact ⟨g, hs, e, h⟩
  · exact (List.not_mem_nil h).elim
def Op.view (ρ : SL) (g : Nat) (o : Op) : Option D := (o.get ρ).map (D.res (pileOf ρ g))
def getsV (ρ : SL) (g : Nat) : List Op → Option (List D)
  | [] => some []
  | o :: os => match o.view ρ g, getsV ρ g os with
    | some d, some ds => some (d :: ds)
    | _, _ => none
theorem OpDens.densV {K : PySem.W.Frag} {G : Cd} {σ : L2.St} {H F : Hp} {ρ : SL} (R : Rep K G σ H F ρ) {g : Nat} : ∀ {vs : List V} {os : List Op} {ds : List D}, OpDens K F σ vs os → getsV ρ g os = some ds → DenL K H vs ds
  | _, _, _, .nil, e => by cases e; exact .nil
  | _, _, ds, .cons (o := o) (os := os) a b, e => by
    unfold getsV at e
    cases q : o.view ρ g with
    | none => rw [q] at e; cases e
    | some d =>
      rw [q] at e
      cases q2 : getsV ρ g os with
      | none => rw [q2] at e; cases e
      | some ds' =>
        rw [q2] at e
        cases e
        unfold Op.view at q
        cases q3 : o.get ρ with
        | none => rw [q3] at q; cases q
        | some d0 =>
          rw [q3] at q
          cases q
          refine .cons (Den.res (fun p c e => ?_) ((a.pk R q3).den R.ext)) (b.densV R q2)
          obtain ⟨i, hs, z1, z2⟩ := pileOf_mem (lookup_mem e)
          obtain ⟨hh, _⟩ := R.pl.has i hs p c z1 z2
          obtain ⟨o', ho⟩ := hh.ex
          exact hh.den R.ext ho ho
section
variable {X : Cx}
def dCallP (sp : SpD) (t : TAs) : TD := fun ρ Q => t ρ fun os ρ1 => match gets ρ1 os with
  | some ds => sp (ds.map Sl.sh) fun r _ => ∃ a, r = .v a ∧ D.atom a = true ∧ Q (.v a) ρ1
  | none => False
def dCallV (g : Nat) (sp : SpD) (t : TAs) : TD := fun ρ Q => t ρ fun os ρ1 => match getsV ρ1 g os with
  | some ds => sp (ds.map Sl.sh) fun r _ => ∃ a, r = .v a ∧ D.atom a = true ∧ Q (.v a) ρ1
  | none => False
theorem sem_callP {sp : SpD} {t : TAs} {es : List Expr} {ta : TA} {E : XK} (ha : DA X es ta t) {G : Cd} {σ : L2.St} {H F : Hp} {ρ : SL} {Q : VK} {Qd : Rv → SL → Prop} (R : Rep X.K G σ H F ρ) (q : dCallP sp t ρ Qd)
    (k : ∀ r ρ' v H' F', Qd r ρ' → Same F F' → Rep X.K G σ H' F' ρ' → RDen X.K G σ ρ' H' F' v r → Q v H') : ta σ H fun vs H1 => lift X.K sp vs H1 Q E := by
  refine ha.sem R q fun os ρ1 vs H1 F1 q1 s1 R1 d1 => ?_
  cases ea : gets ρ1 os with
  | none => rw [ea] at q1; exact q1.elim
  | some ds =>
    rw [ea] at q1
    exact sem_pure R1 (d1.dens R1 ea) q1 fun r ρ' v H' F' qd s2 R2 rd => k _ _ _ _ _ qd (s1.trans s2) R2 rd
theorem sem_callV {g : Nat} {sp : SpD} {t : TAs} {es : List Expr} {ta : TA} {E : XK} (ha : DA X es ta t) {G : Cd} {σ : L2.St} {H F : Hp} {ρ : SL} {Q : VK} {Qd : Rv → SL → Prop} (R : Rep X.K G σ H F ρ) (q : dCallV g sp t ρ Qd)
    (k : ∀ r ρ' v H' F', Qd r ρ' → Same F F' → Rep X.K G σ H' F' ρ' → RDen X.K G σ ρ' H' F' v r → Q v H') : ta σ H fun vs H1 => lift X.K sp vs H1 Q E := by
  refine ha.sem R q fun os ρ1 vs H1 F1 q1 s1 R1 d1 => ?_
  cases ea : getsV ρ1 g os with
  | none => rw [ea] at q1; exact q1.elim
  | some ds =>
    rw [ea] at q1
    exact sem_pure R1 (d1.densV R1 ea) q1 fun r ρ' v H' F' qd s2 R2 rd => k _ _ _ _ _ qd (s1.trans s2) R2 rd
theorem de_callP {CX : CXT} {k : Nat} {f : Addr} {fd : FuncData} {ps : List Str} {sp : SpD} {x : Str} {p pos : Pos} {e : Expr} {es : List Expr} {ta : TA} {t : TAs} {E : XK} (Fk : FnG X.prog X.w X.K X.mg X.base CX k f fd ps (lift X.K sp)) (hgd : X.A.guards = some []) (hr : Room k X.A)
    (hg : Gl X x) (hm : X.mg x = some (.ref f)) (hk : PySem.W.keepIn X.K (.ref f) = true) (hb : Binds X.K fd ps []) (hx : Passes CX X E) (ha : DA X (e :: es) ta t) (hdb : (x == ("__debug__" : Str)) = false := by decide)
    (he : starEach (e :: es) X.env = (false, eval e X.env) :: starEach es X.env := by rfl) (hpl : (backTo pos (starEach es X.env)).any (·.1) = false := by rfl) : DE X (.Call (.Name x p) (e :: es) [] pos) (tCall (lift X.K sp) [] E ta) (dCallP sp t) :=
  ⟨pe_callG Fk hgd hr hg hm hk hb hx ha.pe hdb he hpl, fun {G σ H F ρ Q Qd} R q kk => by
    have z : ta σ H (fun vs H1 => lift X.K sp vs H1 Q E) := sem_callP ha R q kk
    show ta σ H (fun vs H1 => lift X.K sp (vs ++ []) H1 Q E)
    simpa only [List.append_nil] using z⟩
theorem de_callV (g : Nat) {CX : CXT} {k : Nat} {f : Addr} {fd : FuncData} {ps : List Str} {sp : SpD} {x : Str} {p pos : Pos} {e : Expr} {es : List Expr} {ta : TA} {t : TAs} {E : XK} (Fk : FnG X.prog X.w X.K X.mg X.base CX k f fd ps (lift X.K sp)) (hgd : X.A.guards = some []) (hr : Room k X.A)
    (hg : Gl X x) (hm : X.mg x = some (.ref f)) (hk : PySem.W.keepIn X.K (.ref f) = true) (hb : Binds X.K fd ps []) (hx : Passes CX X E) (ha : DA X (e :: es) ta t) (hdb : (x == ("__debug__" : Str)) = false := by decide)
    (he : starEach (e :: es) X.env = (false, eval e X.env) :: starEach es X.env := by rfl) (hpl : (backTo pos (starEach es X.env)).any (·.1) = false := by rfl) : DE X (.Call (.Name x p) (e :: es) [] pos) (tCall (lift X.K sp) [] E ta) (dCallV g sp t) :=
  ⟨pe_callG Fk hgd hr hg hm hk hb hx ha.pe hdb he hpl, fun {G σ H F ρ Q Qd} R q kk => by
    have z : ta σ H (fun vs H1 => lift X.K sp vs H1 Q E) := sem_callV ha R q kk
    show ta σ H (fun vs H1 => lift X.K sp (vs ++ []) H1 Q E)
    simpa only [List.append_nil] using z⟩
/-! ### o.m(..) and o(..) that only look, o by its name or told -/
/-- what is looked at, the object in front -/
def isOfC (C : Addr) : D → Prop
  | .obj C' _ => C' = C
  | _ => False
theorem obj_at {K : PySem.W.Frag} {F H : Hp} {v : V} {d : D} {C : Addr} (e : Same F H) (h : Pk K F H v d) (q : isOfC C d) : ∃ a dx gs, v = .ref a ∧ H a = some (.ins C dx gs) := by
  cases d with
  | obj C' fs =>
    have q : C' = C := q
    subst q
    obtain ⟨p, dx, gs, rfl, h1, h2⟩ := h.obj e
    exact ⟨p, dx, gs, rfl, h1⟩
  | _ => exact q.elim
def dMethP (C : Addr) (m : Str) (sp : SpD) (t0 : TQ) (t : TAs) : TD := fun ρ Q => t0 ρ fun o ρ1 => (∃ d, o.get ρ1 = some d ∧ isObjD C m d) ∧ t ρ1 fun os ρ2 => match gets ρ2 (o :: os) with
  | some ds => sp (ds.map Sl.sh) fun r _ => ∃ a, r = .v a ∧ D.atom a = true ∧ Q (.v a) ρ2
  | none => False
theorem sem_methP {C : Addr} {m : Str} {sp : SpD} {o : Expr} {ta : TE} {t0 : TQ} {tb : TA} {t : TAs} {E : XK} (he : DO X o ta t0)
    (hu : ∀ {G : Cd} {σ : L2.St} {H F : Hp} {ρ : SL} {Q : List V → Hp → Prop} {Qd : List Op → SL → Prop}, Rep X.K G σ H F ρ → t ρ Qd → (∀ os ρ' vs H' F', Qd os ρ' → Same F F' → Rep X.K G σ H' F' ρ' → OpDens X.K F' σ vs os → Q vs H') → tb σ H Q)
    {G : Cd} {σ : L2.St} {H F : Hp} {ρ : SL} {Q : VK} {Qd : Rv → SL → Prop} (R : Rep X.K G σ H F ρ) (q : dMethP C m sp t0 t ρ Qd)
    (k : ∀ r ρ' v H' F', Qd r ρ' → Same F F' → Rep X.K G σ H' F' ρ' → RDen X.K G σ ρ' H' F' v r → Q v H') : tMethR C m (lift X.K sp) E ta tb σ H Q := by
  refine he.sem R q fun o1 ρ1 v H1 F1 q1 s1 R1 d1 => ?_
  obtain ⟨⟨d0, e0, q0⟩, q1⟩ := q1
  obtain ⟨a, dx, gs, rfl, h1, l1⟩ := objD_at R1.ext (d1.pk R1 e0) q0
  refine ⟨a, dx, gs, rfl, h1, l1, hu R1 q1 fun os ρ2 vs H2 F2 q2 s2 R2 d2 => ?_⟩
  cases ea : gets ρ2 (o1 :: os) with
  | none => rw [ea] at q2; exact q2.elim
  | some ds =>
    rw [ea] at q2
    exact sem_pure R2 (OpDens.dens R2 (.cons (d1.mono s2) d2) ea) q2 fun r ρ' v H' F' qd s3 R3 rd => k _ _ _ _ _ qd (s1.trans (s2.trans s3)) R3 rd
theorem de_methP {k : Nat} {C f : Addr} {fd : FuncData} {ps : List Str} {sp : SpD} {E : XK} {CX : CXT} {m : Str} {pos apos : Pos} {e o : Expr} {es : List Expr} {ta : TE} {tb : TA} {t0 : TQ} {t : TAs} {pl : Sem Bool} (he : DO X o ta t0) (c : Cls X.K C) (hm : Meth X.K C m f)
    (Fk : FnG X.prog X.w X.K X.mg X.base CX k f fd ps (lift X.K sp)) (hgd : X.A.guards = some []) (hr : Room k X.A) (hb : Binds X.K fd ps []) (hx : Passes CX X E) (ha : DA X (e :: es) tb t)
    (hst : starEach (e :: es) X.env = (false, eval e X.env) :: starEach es X.env := by rfl) (hpl : (backTo pos (starEach es X.env)).any (·.1) = false := by rfl)
    (ht : eval (.Call (.Attribute o m apos) (e :: es) [] pos) X.env = (do
      let ov ← eval o X.env
      standAt apos.atName
      let (f, first) ← holding [ov] (getMethod ov m pl)
      callWith pos f first (backTo pos (starEach (e :: es) X.env)) (backToKw pos (keywordEach [] X.env))) := by rfl) :
    DE X (.Call (.Attribute o m apos) (e :: es) [] pos) (tMethR C m (lift X.K sp) E ta tb) (dMethP C m sp t0 t) :=
  ⟨pe_methG he.pe c hm Fk hgd hr hb hx ha.pe hst hpl ht, fun R q kk => sem_methP he ha.sem R q kk⟩
theorem de_methP0 {k : Nat} {C f : Addr} {fd : FuncData} {ps : List Str} {sp : SpD} {E : XK} {CX : CXT} {m : Str} {pos apos : Pos} {o : Expr} {ta : TE} {t0 : TQ} {pl : Sem Bool} (he : DO X o ta t0) (c : Cls X.K C) (hm : Meth X.K C m f)
    (Fk : FnG X.prog X.w X.K X.mg X.base CX k f fd ps (lift X.K sp)) (hgd : X.A.guards = some []) (hr : Room k X.A) (hb : Binds X.K fd ps []) (hx : Passes CX X E)
    (ht : eval (.Call (.Attribute o m apos) [] [] pos) X.env = (do
      let ov ← eval o X.env
      standAt apos.atName
      let (f, first) ← holding [ov] (getMethod ov m pl)
      callWith pos f first (backTo pos (starEach [] X.env)) (backToKw pos (keywordEach [] X.env))) := by rfl) :
    DE X (.Call (.Attribute o m apos) [] [] pos) (tMethR C m (lift X.K sp) E ta tNil) (dMethP C m sp t0 aNil) :=
  ⟨pe_methG0 he.pe c hm Fk hgd hr hb hx ht, fun R q kk => sem_methP he (da_nil (X := X)).sem R q kk⟩
def dCallOP (C : Addr) (sp : SpD) (t0 : TQ) (t : TAs) : TD := fun ρ Q => t0 ρ fun o ρ1 => (∃ d, o.get ρ1 = some d ∧ isOfC C d) ∧ t ρ1 fun os ρ2 => match gets ρ2 (o :: os) with
  | some (.obj C' fs :: ds) => C' = C ∧ sp ((.obj C' fs :: ds).map Sl.sh) fun r _ => ∃ a, r = .v a ∧ D.atom a = true ∧ Q (.v a) ρ2
  | _ => False
theorem de_callOP {CX : CXT} {k : Nat} {C g : Addr} {fd : FuncData} {ps : List Str} {sp : SpD} {E : XK} {fe e : Expr} {es : List Expr} {pos : Pos} {tf : TE} {ta : TA} {t0 : TQ} {t : TAs} (hf : DO X fe tf t0) (c : StX.CallO X.K C g) (Fk : FnG X.prog X.w X.K X.mg X.base CX k g fd ps (lift X.K sp)) (hgd : X.A.guards = some []) (hr : Room k X.A)
    (hb : Binds X.K fd ps []) (hx : Passes CX X E) (ha : DA X (e :: es) ta t)
    (ht : eval (.Call fe (e :: es) [] pos) X.env = (do callWith pos (← eval fe X.env) [] (backTo pos (starEach (e :: es) X.env)) (backToKw pos (keywordEach [] X.env))) := by rfl)
    (he : starEach (e :: es) X.env = (false, eval e X.env) :: starEach es X.env := by rfl) (hpl : (backTo pos (starEach es X.env)).any (·.1) = false := by rfl) : DE X (.Call fe (e :: es) [] pos) (StX.tCallO X C (lift X.K sp) E tf ta) (dCallOP C sp t0 t) := by
  refine ⟨pe_callOG hf.pe c Fk hgd hr hb hx ha.pe ht he hpl, fun {G σ H F ρ Q Qd} R q kk => hf.sem R q fun o1 ρ1 v H1 F1 q1 s1 R1 d1 => ?_⟩
  obtain ⟨⟨d0, e0, q0⟩, q1⟩ := q1
  obtain ⟨a, dx, gs, rfl, h1⟩ := obj_at R1.ext (d1.pk R1 e0) q0
  refine ⟨a, rfl, ha.sem R1 q1 fun os ρ2 vs H2 F2 q2 s2 R2 d2 => ?_⟩
  cases ea : gets ρ2 (o1 :: os) with
  | none => rw [ea] at q2; exact q2.elim
  | some ds =>
    rw [ea] at q2
    have dd := OpDens.dens R2 (.cons (d1.mono s2) d2) ea
    cases dd with
    | @cons _ _ d ds a1 b1 =>
      cases d with
      | obj C' fs =>
        obtain ⟨rfl, q2⟩ := q2
        refine ⟨.inr ?_, sem_pure R2 (.cons a1 b1) q2 fun r ρ' v H' F' qd s3 R3 rd => kk _ _ _ _ _ qd (s1.trans (s2.trans s3)) R3 rd⟩
        cases a1 with
        | obj z _ => exact ⟨_, _, z⟩
      | _ => exact q2.elim
/-! ### an argument lent if it is one's own -/
def agAuto (i : Nat) (u : TAg) : TAg := fun ρ Q => match ρ[i]? with
  | some (.sh d) => u ρ fun os ρ2 => Q (.val d :: os) ρ2
  | some s => s.cn.isSome = true ∧ u ρ fun os ρ2 => Q (.bor i :: os) ρ2
  | none => False
theorem dag_auto {i : Nat} {x : Str} {pos : Pos} {es : List Expr} {ta : TA} {u : TAg} (h : PE X (.Name x pos) (tVar i)) (r : DAg X es ta u) (hs : starEach (.Name x pos :: es) X.env = (false, eval (.Name x pos) X.env) :: starEach es X.env := by rfl) :
    DAg X (.Name x pos :: es) (tCons (tVar i) ta) (agAuto i u) :=
  ⟨pa_cons h r.pe hs, fun {G σ H F ρ Q Qd} R q k => by
    unfold agAuto at q
    split at q
    · rename_i d e
      obtain ⟨v, a, b⟩ := R.sh i d e
      exact ⟨v, a, r.sem R q fun os ρ2 vs H2 F2 q2 s2 R2 d2 => k _ _ _ _ _ q2 s2 R2 (.cons (o := .val d) (b.mono s2) d2)⟩
    · rename_i s _ e
      obtain ⟨q0, q1⟩ := q
      obtain ⟨c, hc⟩ := Option.isSome_iff_exists.mp q0
      obtain ⟨p, a, _⟩ := R.owned e hc
      exact ⟨_, a, r.sem R q1 fun os ρ2 vs H2 F2 q2 s2 R2 d2 => k _ _ _ _ _ q2 s2 R2 (.cons (o := .bor i) a d2)⟩
    · exact q.elim⟩
end
end DL
/-! len(set(texts)). -/
namespace DL
open PySem PySem.Spec L2 PyProof.Rows
/-- the texts met so far, each once -/
def met : List Str → List Str
  | [] => []
  | x :: r => if (met r).any (· == x) = true then met r else x :: met r
def metT (xs : List Str) (i : Nat) : List Str := met (xs.take i).reverse
theorem met_le : ∀ l : List Str, (met l).length ≤ l.length
  | [] => Nat.le_refl _
  | x :: r => by
    rw [met]
    have := met_le r
    split
    · rw [List.length_cons]; omega
    · rw [List.length_cons, List.length_cons]; omega
theorem met_mem : ∀ {l : List Str} {x : Str}, x ∈ met l ↔ x ∈ l
  | [], x => by simp [met]
  | y :: r, x => by
    have ih := @met_mem r x
    have ihy := @met_mem r y
    rw [met]
    split
    · rename_i h
      have hy : y ∈ met r := by simpa using h
      rw [List.mem_cons, ih]
      constructor
      · exact .inr
      · rintro (rfl | h)
        · exact ihy.mp hy
        · exact h
    · rw [List.mem_cons, List.mem_cons, ih]
theorem met_full : ∀ l : List Str, (met l).length = l.length ↔ l.Nodup
  | [] => by simp [met]
  | x :: r => by
    have ih := met_full r
    have hle := met_le r
    have hm := @met_mem r x
    rw [met, List.nodup_cons]
    split
    · rename_i h
      have hx : x ∈ met r := by simpa using h
      rw [List.length_cons]
      constructor
      · intro e; omega
      · intro e; exact (e.1 (hm.mp hx)).elim
    · rename_i h
      have hx : x ∉ met r := by simpa using h
      rw [List.length_cons, List.length_cons, Nat.add_right_cancel_iff, ih]
      constructor
      · intro e; exact ⟨fun z => hx (hm.mpr z), e⟩
      · exact And.right
theorem metT_succ {xs : List Str} {i : Nat} (h : i < xs.length) : metT xs (i + 1) = if (metT xs i).any (· == xs[i]) = true then metT xs i else xs[i] :: metT xs i := by
  unfold metT
  rw [List.take_succ_eq_append_getElem h, List.reverse_append, List.reverse_singleton, List.singleton_append, met]
theorem metT_any {xs : List Str} {i : Nat} (h : i < xs.length) (k : Str) : ((metT xs i).any (· == k) || decide (k = xs[i])) = (metT xs (i + 1)).any (· == k) := by
  rw [metT_succ h]
  by_cases e : k = xs[i]
  · subst e
    split
    · rename_i hq; rw [hq]; rfl
    · simp
  · have hb : (xs[i] == k) = false := beq_eq_false_iff_ne.mpr (Ne.symm e)
    split
    · simp [e]
    · rw [List.any_cons, hb]; simp [e]
theorem metT_len {xs : List Str} {i : Nat} (h : i < xs.length) : (if (metT xs i).any (· == xs[i]) = true then (metT xs i).length else (metT xs i).length + 1) = (metT xs (i + 1)).length := by
  rw [metT_succ h]
  split <;> rfl
theorem metT_le (xs : List Str) (i : Nat) : (metT xs i).length ≤ i := by
  have := met_le (xs.take i).reverse
  rw [List.length_reverse, List.length_take] at this
  unfold metT
  omega
theorem metT_all (xs : List Str) : (metT xs xs.length).length = xs.length ↔ xs.Nodup := by
  unfold metT
  rw [List.take_length]
  have := met_full xs.reverse
  rw [List.length_reverse, (List.reverse_perm xs).nodup_iff] at this
  exact this
section
variable {prog : Program} {w : World} {A : Around}
/-- what a set of texts holds when i items of the list went in -/
abbrev SetAt (prog : Program) (w : World) (xs : List Str) (i : Nat) (h : Heap) (S : Addr) : Prop := h.SetOf (PySem.strKind prog w) S (fun k => (metT xs i).any (· == k)) (metT xs i).length
theorem set_loop {R : Result → Shared → Prop} {I : Addr} {fp wr : List Addr} {G : Array GenState → Array GenState → Prop} {P : Nat → Value → Prop} {St : Nat → Shared → Prop} {xs : List Str} (W : WalksS prog w A.in1 I fp wr G xs.length P St)
    (S : Addr) (hS0 : S ∉ fp) (few : xs.length + 1 < scanBound) (hP : ∀ i v, P i v → ∃ t, v = .str (xs.getD i Str.empty) t) :
    ∀ (left i : Nat) (s : Shared), i + left = xs.length → St i s → SetAt prog w xs i s.heap S →
      (∀ s', Moved (S :: wr) G s s' → SetAt prog w xs xs.length s'.heap S → R (.ok (.ret .none)) s') → codeAny (model prog w) A (.builtin "set.update.loop" ⟨[.ref S, .ref I], []⟩) R s := by
  have nw : S ∉ wr := fun z => hS0 (W.sub _ z)
  have up : ∀ b ∈ wr, b ∈ S :: wr := fun b hb => List.mem_cons_of_mem _ hb
  intro left
  induction left with
  | zero =>
    intro i s hi st hs k
    have e : i = xs.length := hi
    subst e
    refine codeAny_builtin PyProof.Rows.F.entry_set_update_loop ?_
    rw [Around.under_plainId PyProof.Rows.F.plain_set_update_loop _]
    refine wpAny_bind (m := pyNext (.ref I)) (W.done s _ _ st fun s' mv => wpAny_pure (k s' (mv.mono up) ?_))
    obtain ⟨o, es, ep, t, ho, more⟩ := hs
    exact ⟨o, es, ep, t, mv.heap S _ nw ho, more⟩
  | succ left ih =>
    intro i s hi st hs k
    have lt : i < xs.length := by omega
    refine codeAny_builtin PyProof.Rows.F.entry_set_update_loop ?_
    rw [Around.under_plainId PyProof.Rows.F.plain_set_update_loop _]
    refine wpAny_bind (m := pyNext (.ref I)) (W.item i s _ _ lt st fun v s' hv st' mv => ?_)
    obtain ⟨t, rfl⟩ := hP i v hv
    have eg : xs.getD i Str.empty = xs[i] := by rw [List.getD_eq_getElem?_getD, List.getElem?_eq_getElem lt]; rfl
    rw [eg]
    have hs' : SetAt prog w xs i s'.heap S := by
      obtain ⟨o, es, ep, tb, ho, more⟩ := hs
      exact ⟨o, es, ep, tb, mv.heap S _ nw ho, more⟩
    refine wpAny_bind (m := holding [Value.str xs[i] t] (setAdd S (.str xs[i] t))) (wpAny_holding ?_)
    unfold setAdd
    refine wpAny_holding (wpAny_bind ((PySem.strKind prog w).pyHash (k := xs[i]) (strKind_is _ _ _ _) ?_))
    have room : (metT xs i).length + 1 < scanBound := by have := metT_le xs i; omega
    refine wpAny_setAddHashed_of (knd := PySem.strKind prog w) (s := { s' with toks := s'.toks + 1 }) (strKind_is _ _ _ _) rfl hs' room fun h' same hs2 => ?_
    have hs3 : SetAt prog w xs (i + 1) h' S := SetOf_congr hs2 (fun k' => metT_any lt k') (metT_len lt)
    refine wpAny_pure ⟨plainId_quiet PyProof.Rows.F.plain_set_update_loop _, ih (i + 1) _ (by omega) (W.frame _ s' _ _ st' (Nat.le_succ _) fun b hb o e => ?_) hs3 fun s2 mv2 hs4 => ?_⟩
    · rw [same.2 b (fun z => hS0 (by rw [← z]; exact hb))]; exact e
    · refine k s2 (Moved.trans W.gtrans ((mv.mono up).then_heap (Nat.le_succ _) fun b o hb e => ?_) mv2) hs4
      rw [same.2 b (fun z => hb (by rw [z]; exact List.mem_cons_self))]; exact e
def fresh (led : Bool) : Obj := { cls := .type "set", dict := none, data := .set #[] 0 (.fresh 0 0 led) }
/-- the set of a list's texts -/
theorem set_of_texts {E : Value → Shared → Prop} {s : Shared} {l : Addr} {its : Array Value} {xs : List Str} {Q : Value → Shared → Prop} (calm : A.handled = none) (il : s.heap.IsList l its) (ix : StrsAre its.toList xs) (few : xs.length + 1 < scanBound)
    (h : ∀ (h' : Heap) (tk : Nat), SetAt prog w xs xs.length h' s.heap.objs.size → (∀ b o, b < s.heap.objs.size → s.heap.get? b = some o → h'.get? b = some o) → Q (.ref s.heap.objs.size) { s with heap := h', toks := tk }) :
    wpAny (model prog w) A (PySem.call (.type "set") [.ref l]) Q E s := by
  have hz : xs.length = its.size := by rw [← StrsAre.len_eq ix, Array.length_toList]
  generalize hS : s.heap.objs.size = S at h ⊢
  obtain ⟨mc, ml, mm⟩ := PySem.F.called_set.mro
  have g1 := PySem.F.called_set.made
  have g2 := PySem.F.called_set.sub
  refine wpAny_call (codeAny_of_tree ?_)
  change wpAny _ _ (callAny (.type "set") _) _ _ _
  refine wpAny_pure ⟨Code.quiet_builtin _ (by decide +kernel), codeAny_builtin PySem.F.entry_type_call ?_⟩
  rw [Around.under_plain (weight_type_call_type "set" [.ref l] []) rfl]
  have g3 := PySem.F.called_set.notType
  have g4 := PySem.F.called_set.canCreate
  have g5 := PySem.F.typeCall_set_1 (.ref l)
  repeat (any_goals (first | assumption | wp_step))
  refine codeAny_mono (code_set_new_1 (.ref l) (E := E) (Q₁ := fun r s1 => ∃ led : Bool, r = .ref S ∧ s1 = { s with heap := s.heap.push (fresh led) }) fun led => ⟨led, by rw [hS], rfl⟩) fun res s1 hres => ?_
  match res, hres with
  | .error e, z => exact z
  | .ok .next, z => exact z.elim
  | .ok .brk, z => exact z.elim
  | .ok .cont, z => exact z.elim
  | .ok (.ret r), ⟨led, e1, e2⟩ =>
    subst e1
    subst e2
    have hN : (s.heap.push (fresh led)).get? S = some (fresh led) := by rw [← hS]; exact Heap.get?_push_size _ rfl
    have hT : Shared.TypeIs { s with heap := s.heap.push (fresh led) } (.ref S) "set" := ⟨_, hN, rfl⟩
    have g6 := PySem.F.called_set.init.lookup
    have g7 := PySem.F.called_set.init.bind (.ref S)
    repeat (any_goals (first | assumption | wp_step))
    refine codeAny_mono (codeAny_call_builtin (R := wants (fun r s2 => r = .none ∧ ∃ h' tk, s2 = { s with heap := h', toks := tk } ∧ SetAt prog w xs xs.length h' S ∧ (∀ b o, b < S → s.heap.get? b = some o → h'.get? b = some o)) E)
      PySem.F.called_set.init.plain PySem.F.entry_set_init (check_set_init_1 hT ?_)) fun r2 s2 hr2 => ?_
    · obtain ⟨ol, hol, hcl, nl, hdl⟩ := il
      obtain ⟨ocls, odict, odata, oslots⟩ := ol
      simp only at hcl hdl
      subst hcl; subst hdl
      have hol2 : (s.heap.push (fresh led)).get? l = some { cls := .type "list", dict := odict, data := .seq its nl, slots := oslots } := Heap.get?_push_of_some _ hol
      have g8 := PySem.F.sub_list_set
      have g9 := PySem.F.sub_list_frozenset
      have ga : (Value.type "list" == Value.type "dict") = false := by decide
      have il2 : (s.heap.push (fresh led)).IsList l its := ⟨_, hol2, rfl, nl, rfl⟩
      unfold Builtin.«set.__init__» noKeywords Builtin.Frozenset.updateFrom
      generalize hPI : pyIter = PI
      wp_walk
      subst hPI
      refine wpAny_pyIter_list il2 (wpAny_bind (wpAny_runValue ?_))
      have lS : l < S := by rw [← hS]; exact Heap.lt_size hol
      have pS : (s.heap.push (fresh led)).objs.size = S + 1 := by rw [Heap.size_push, hS]
      have neI : l ≠ (s.heap.push (fresh led)).objs.size := by rw [pS]; exact Nat.ne_of_lt (Nat.lt_succ_of_lt lS)
      have outS : S ∉ [(s.heap.push (fresh led)).objs.size, l] := by
        rw [pS]
        simp only [List.mem_cons, List.not_mem_nil, or_false, not_or]
        exact ⟨Nat.ne_of_lt (Nat.lt_succ_self _), Nat.ne_of_gt lS⟩
      have c3 : A.in1.in1.in1.handled = none := by simp [calm]
      have W := (Walks.list (prog := prog) (w := w) c3 (s.heap.push (fresh led)).objs.size l neI its).toS
      rw [← hz] at W
      refine set_loop W S outS few (fun i v hv => SS.strs_at ix i v (by rw [Array.getElem?_toList]; exact hv)) xs.length 0 _ (Nat.zero_add _) ⟨⟨_, Heap.get?_push_size _ rfl, rfl, rfl⟩, (il2.push _)⟩ ?_ ?_
      · have hg : ((s.heap.push (fresh led)).push { cls := .type "list_iterator", data := .fields #[.ref l, .int 0 0] }).get? S = some (fresh led) := Heap.get?_push_of_some _ hN
        exact SetOf_congr ((setObjOf_fresh (knd := PySem.strKind prog w) led).setOf hg (by unfold scanBound; omega)) (fun _ => by simp [metT, met]) (by simp [metT, met])
      · intro s' mv hs'
        obtain ⟨h', g', d', tk', os'⟩ := s'
        have e1 : g' = s.gens := mv.gens
        have e2 : d' = s.drawn := mv.drawn
        have e3 : os' = s.os := mv.os
        subst e1; subst e2; subst e3
        change wpAny _ _ _ _ _ _
        refine wpAny_pure ?_
        change wpAny _ _ (ret Value.none) _ _ _
        refine wpAny_pure ⟨rfl, h', tk', rfl, hs', fun b o hb e => ?_⟩
        refine mv.heap b o ?_ (Heap.get?_push_of_some _ (Heap.get?_push_of_some _ e))
        rw [pS]
        simp only [List.mem_cons, List.not_mem_nil, or_false, not_or]
        exact ⟨Nat.ne_of_lt hb, Nat.ne_of_lt (Nat.lt_succ_of_lt hb)⟩
    · match r2, hr2 with
      | .error e, z => exact z
      | .ok .next, z => exact z.elim
      | .ok .brk, z => exact z.elim
      | .ok .cont, z => exact z.elim
      | .ok (.ret r), ⟨e1, h', tk, e2, hs', kp⟩ =>
        subst e1
        subst e2
        repeat (any_goals (first | assumption | wp_step))
        exact h _ _ hs' kp
end
end DL
/-! len(set(texts)), sorted(data), texts compared, stars in displays, dict comprehensions. -/
namespace DL
open PySem PySem.Spec L2 PyProof.Rows
section
variable {X : Cx}
/-! ### len(set(xs)) -/
def tLenSetN (K : PySem.W.Frag) (ta : TE) : TE := fun σ H Q => ta σ H fun x H1 => ∃ (l : Addr) (xs : List Str), x = .ref l ∧ SqL K H1 l (xs.map V.str) ∧ xs.length ≤ 4000 ∧ Q (.int ((metT xs xs.length).length : Nat)) H1
theorem strsAre_vals : ∀ {ys : List Str} {us : List Value}, Vals (ys.map V.str) us → StrsAre us ys
  | [], _, .nil => .nil
  | y :: ys, _, .cons r t => by
    obtain ⟨k, rfl⟩ := r
    exact .cons y k (strsAre_vals t)
theorem pe_lenSetN {a : Expr} {ta : TE} {p p2 q pos : Pos} (hc : X.calm = true) (hg : Gl X "len") (hm : X.mg "len" = none) (hg2 : Gl X "set") (hm2 : X.mg "set" = none) (ha : PE X a ta)
    (na : starEach [a] X.env = (false, eval a X.env) :: starEach [] X.env := by rfl) : PE X (.Call (.Name "len" p) [.Call (.Name "set" p2) [a] [] q] [] pos) (tLenSetN X.K ta) := by
  refine ⟨fun pins s σ H Q I h => ?_⟩
  refine Call_ (ld_blt I hg hm boot_len (callWith_builtin1 (args_cons ?_ rfl) rfl rfl))
  refine Call_ (ld_blt I hg2 hm2 boot_set (callWith_type1 (args_cons (thn (ha.run pins s σ H _ I h) fun v s1 ⟨x, H1, I1, r1, q1⟩ => args_nil ?_) na) na rfl))
  obtain ⟨l, xs, rfl, hq, few, q1⟩ := q1
  cases r1
  obtain ⟨its, r, pl, hz⟩ := I1.list hq
  refine set_of_texts (I1.ok.hd hc) pl.isList (by simpa using strsAre_vals r) (by unfold scanBound; omega) fun h' tk hS hk => args_nil ?_
  obtain ⟨o, es, ep, t, ho, hex, hd, _, _, _, hf, hn⟩ := hS
  have I2 : Inv X pins σ H1 { s1 with heap := h', toks := tk } := I1.kept fun b o e => hk b o (Heap.lt_size e) e
  have le := metT_le xs xs.length
  exact call_len_set ho hex hd hf (by rw [hn]; omega) ⟨.int ((metT xs xs.length).length : Nat), H1, I2.tok _, ⟨_, by rw [hn]⟩, q1⟩
def dLenSet (t : TQ) : TD := fun ρ Q => t ρ fun o ρ1 => ∃ xs : List Str, o.get ρ1 = some (.lst (xs.map D.str)) ∧ xs.length ≤ 4000 ∧ ∀ n : Int, (n = xs.length ↔ xs.Nodup) → 0 ≤ n → Q (.v (.int n)) ρ1
theorem de_lenSet {a : Expr} {ta : TE} {t : TQ} {p p2 q pos : Pos} (hc : X.calm = true) (hg : Gl X "len") (hm : X.mg "len" = none) (hg2 : Gl X "set") (hm2 : X.mg "set" = none) (ha : DO X a ta t)
    (na : starEach [a] X.env = (false, eval a X.env) :: starEach [] X.env := by rfl) : DE X (.Call (.Name "len" p) [.Call (.Name "set" p2) [a] [] q] [] pos) (tLenSetN X.K ta) (dLenSet t) :=
  ⟨pe_lenSetN hc hg hm hg2 hm2 ha.pe na, fun R q k => ha.sem R q fun o ρ1 v H1 F1 q1 s1 R1 d1 => by
    obtain ⟨xs, e, few, q1⟩ := q1
    obtain ⟨l, ys, rfl, h1, h2⟩ := (d1.pk R1 e).lst R1.ext
    obtain ⟨rfl, _⟩ := h2.txts
    refine ⟨l, xs, rfl, .inl (.inl h1), few, k _ _ _ _ _ (q1 _ ?_ (Int.natCast_nonneg _)) s1 R1 (.int _)⟩
    rw [Int.ofNat_inj]
    exact metT_all xs⟩
/-! ### sorted(xs), data of any kind -/
open PySem.W in
def rSortedD (K : PySem.W.Frag) : List V → Hp → VK → Prop := fun vs H Q => ∃ (a : Addr) (bs : List (V × PyData)), vs = [.ref a] ∧ SqL K H a (bs.map (·.1)) ∧ (∀ b ∈ bs, Dp K H b.1 b.2) ∧ AllAlike (bs.map (·.2)) ∧ Sortable (bs.map (·.2)) ∧ (∀ b ∈ bs, b.2.depth ≤ 40) ∧
  ∀ p, H p = none → Q (.ref p) (upd H p (.lst ((bs.mergeSort (dataLe false (·.2))).map (·.1))))
theorem each_vals {β : Type} (f : β → V) : ∀ {us : List Value} {bs : List β}, PySem.W.EachIs (fun u b => RelV (f b) u) us bs → Vals (bs.map f) us
  | _, _, .nil => .nil
  | _, _, .cons a t => .cons a (each_vals f t)
theorem vals_each {β : Type} (f : β → V) : ∀ {us : List Value} {bs : List β}, Vals (bs.map f) us → PySem.W.EachIs (fun u b => RelV (f b) u) us bs
  | us, [], h => by
    have h' : Vals [] us := h
    cases h'; exact .nil
  | us, b :: bs, h => by
    have h' : Vals (f b :: bs.map f) us := h
    cases h' with
    | cons a t => exact .cons a (vals_each f t)
theorem each_and {α β : Type} {R S : α → β → Prop} : ∀ {us : List α} {bs : List β}, PySem.W.EachIs R us bs → (∀ u b, b ∈ bs → R u b → S u b) → PySem.W.EachIs S us bs
  | _, _, .nil, _ => .nil
  | _, _, .cons a t, h => .cons (h _ _ List.mem_cons_self a) (each_and t fun u b m => h u b (List.mem_cons_of_mem _ m))
theorem call_sortedD (hu : X.A.units + 64 < cLine) : CallR X (.builtin "sorted") (rSortedD X.K) := by
  intro pins s σ H vs us Q I r h
  obtain ⟨a, bs, rfl, hs, hd, hal, hk, hdp, q⟩ := h
  obtain ⟨its, rv, hl, hz⟩ := I.list hs
  rw [Vals.ref1 r]
  have e : PySem.W.EachIs (fun u (b : V × PyData) => RelV b.1 u) its bs := vals_each (fun b : V × PyData => b.1) rv
  have er : PySem.W.EachIs (fun u (b : V × PyData) => ∃ as, Reads s.heap u b.2 as) its bs := each_and e fun u b m ru => Dp.reads I b.2 b.1 u (hd b m) ru
  have hlen : bs.length ≤ sizeLine := by rw [← e.length, ← rv.length]; exact hz
  refine PySem.W.sorted_data (enc := (·.2)) hl.isList e er hal hk hlen (fun b m => by have := hdp b m; omega) fun out hout eo => ?_
  obtain ⟨ep, he'⟩ := PyProof.Rows.sortedAll_at s.heap its out.toArray
  have vo := each_vals (fun b : V × PyData => b.1) eo
  refine ⟨.ref _, upd H (s.heap.objs.size + 1) (.lst ((bs.mergeSort (PySem.W.dataLe false (·.2))).map (·.1))), I.laid (t' := s.toks) (fun _ _ => PyProof.Rows.sortedAll_old) (Nat.le_succ _) ⟨?_, out, ep, vo, he'⟩, rfl, q _ (I.hok.fresh (Nat.le_succ _))⟩
  rw [List.length_map, List.length_mergeSort]
  exact hlen
/-- the order of data -/
def D.le (a b : D) : Bool := PySem.W.dataLe false D.py a b
def gSortedD : List D → (Rv → Prop) → Prop
  | [.lst l] => fun Q => D.fits 40 l = true ∧ PySem.W.AllAlike (l.map D.py) ∧ PySem.W.Sortable (l.map D.py) ∧ Q (.fr (.l (l.mergeSort D.le)))
  | _ => fun _ => False
theorem denL_zip {K : PySem.W.Frag} {F : Hp} : ∀ {vs : List V} {ds : List D}, DenL K F vs ds → (vs.zip ds).map (·.1) = vs ∧ (vs.zip ds).map (·.2) = ds ∧ ∀ b ∈ vs.zip ds, Den K F b.1 b.2
  | _, _, .nil => ⟨rfl, rfl, fun b m => (List.not_mem_nil m).elim⟩
  | _, _, .cons a t => by
    obtain ⟨h1, h2, h3⟩ := denL_zip t
    refine ⟨by rw [List.zip_cons_cons, List.map_cons, h1], by rw [List.zip_cons_cons, List.map_cons, h2], fun b m => ?_⟩
    rw [List.zip_cons_cons] at m
    rcases List.mem_cons.mp m with rfl | m
    · exact a
    · exact h3 b m
theorem den_zip {K : PySem.W.Frag} {F : Hp} : ∀ {bs : List (V × D)}, (∀ b ∈ bs, Den K F b.1 b.2) → DenL K F (bs.map (·.1)) (bs.map (·.2))
  | [], _ => .nil
  | b :: bs, h => .cons (h b List.mem_cons_self) (den_zip fun b' m => h b' (List.mem_cons_of_mem _ m))
theorem sem_sortedD : SemCall X.K (rSortedD X.K) gSortedD := by
  intro G σ H F ρ xs as Q Qd R ha h k
  unfold gSortedD at h
  split at h
  · rename_i l
    obtain ⟨hf, hal, hk, q⟩ := h
    obtain ⟨x, rfl, p⟩ := pks1 ha
    obtain ⟨a, ys, rfl, h1, h2⟩ := p.lst R.ext
    obtain ⟨z1, z2, z3⟩ := denL_zip h2
    have fit : ∀ d ∈ l, D.fit 40 d = true := fun d m => by
      rw [fits_all, List.all_eq_true] at hf
      exact hf d m
    have mem : ∀ b ∈ ys.zip l, b.2 ∈ l := fun b m => by
      have : b.2 ∈ (ys.zip l).map (fun b => b.2) := List.mem_map.mpr ⟨b, m, rfl⟩
      rw [z2] at this
      exact this
    refine ⟨a, (ys.zip l).map fun b => (b.1, b.2.py), rfl, by rw [List.map_map]; exact .inl (.inl (by rw [show ((fun b : V × PyData => b.1) ∘ fun b : V × D => (b.1, b.2.py)) = (fun b => b.1) from rfl, z1]; exact h1)), fun b m => ?_, ?_, ?_, fun b m => ?_, fun p hp => ?_⟩
    · obtain ⟨b0, m0, rfl⟩ := List.mem_map.mp m
      exact ((z3 b0 m0).mono R.ext).dp (fit _ (mem _ m0))
    · rw [List.map_map, show ((fun b : V × PyData => b.2) ∘ fun b : V × D => (b.1, b.2.py)) = (D.py ∘ fun b => b.2) from rfl, ← List.map_map, z2]
      exact hal
    · rw [List.map_map, show ((fun b : V × PyData => b.2) ∘ fun b : V × D => (b.1, b.2.py)) = (D.py ∘ fun b => b.2) from rfl, ← List.map_map, z2]
      exact hk
    · obtain ⟨b0, m0, rfl⟩ := List.mem_map.mp m
      exact (fit_lay 40 _ _ (z3 b0 m0) (fit _ (mem _ m0))).2
    · have e1 : (((ys.zip l).map fun b => (b.1, b.2.py)).mergeSort (PySem.W.dataLe false (·.2))).map (·.1) = ((ys.zip l).mergeSort (fun a b => D.le a.2 b.2)).map (·.1) := by
        rw [← List.map_mergeSort (r := fun a b => D.le a.2 b.2) (f := fun b : V × D => (b.1, b.2.py)) (hl := fun a _ b _ => rfl), List.map_map]
        rfl
      have e2 : l.mergeSort D.le = ((ys.zip l).mergeSort (fun a b => D.le a.2 b.2)).map (·.2) := by
        rw [List.map_mergeSort (s := D.le) (f := fun b : V × D => b.2) (hl := fun a _ b _ => rfl), z2]
      rw [e1]
      obtain ⟨R1, rd⟩ := R.allocFr hp (o := .lst (((ys.zip l).mergeSort (fun a b => D.le a.2 b.2)).map (·.1))) (c := .l (l.mergeSort D.le)) ⟨_, upd_same, by
        rw [e2]
        exact den_zip fun b m => z3 b (List.mem_mergeSort.mp m)⟩
      exact k _ _ _ _ q (Same.refl _) R1 rd
  · exact h.elim
end
end DL
/-! Dicts walked over, dict comprehensions, stars in displays, texts compared. -/
namespace DL
open PySem PySem.Spec L2 PyProof.Rows
section
variable {X : Cx} {tg : Expr}
/-! ### a dict of one's own is locked while an expression runs -/
theorem Lone.swap {σ : L2.St} {ρ : SL} {i : Nat} {s t : Sl} {c c' : Cn} {p : Addr} (l : Lone σ ρ p) (h : ρ[i]? = some s) (hs : s.cn = some c) (ht : t.cn = some c') : Lone σ (ρ.set i t) p := by
  refine ⟨fun k u c2 e1 e2 e3 => ?_, fun k hs2 c2 e1 m => ?_⟩
  · rcases set_get e1 with ⟨rfl, z⟩ | ⟨_, z⟩
    · exact l.1 k s c h hs e3
    · exact l.1 k u c2 z e2 e3
  · rcases set_get e1 with ⟨_, z⟩ | ⟨_, z⟩
    · subst z; cases ht
    · exact l.2 k hs2 c2 z m
theorem RDen.swap {K : PySem.W.Frag} {G : Cd} {σ : L2.St} {H F : Hp} {ρ : SL} {v : V} {r : Rv} {i : Nat} {s t : Sl} {c c' : Cn} {p : Addr} {o : HO} (rd : RDen K G σ ρ H F v r) (h : ρ[i]? = some s) (hs : s.cn = some c) (ht : t.cn = some c') (hp : σ[i]? = some (some (.ref p))) : RDen K G σ (ρ.set i t) (upd H p o) F v r := by
  cases r with
  | v d => exact rd
  | fr c2 =>
    obtain ⟨q, e, a, b, d, l⟩ := rd
    exact ⟨q, e, a.at (upd_ne fun z => by subst z; exact l.1 i s c h hs hp), b, d, l.swap h hs ht⟩
  | pt d2 hs2 =>
    obtain ⟨g1, g2, g3⟩ := rd
    refine ⟨g1, g2, fun q c2 m => ?_⟩
    obtain ⟨a, b, d, l⟩ := g3 q c2 m
    exact ⟨a.at (upd_ne fun z => by subst z; exact l.1 i s c h hs hp), b, d, l.swap h hs ht⟩
def dLock (i : Nat) (t : TD) : TD := fun ρ Q => match ρ[i]? with
  | some (.ow (.d kvs)) => ∀ ob ks, (∀ kv ∈ kvs, keyOk kv.1) → t (ρ.set i (.ow (.k ob ks kvs))) fun r ρ' => ρ'[i]? = some (.ow (.k ob ks kvs)) ∧ Q r (ρ'.set i (.ow (.d kvs)))
  | _ => False
theorem de_lock (i : Nat) {e : Expr} {te : TE} {t : TD} (h : DE X e te t) : DE X e (tLockE te) (dLock i t) := by
  refine ⟨pe_lock h.pe, fun {G σ H F ρ Q Qd} R q k => ?_⟩
  unfold dLock at q
  split at q
  · rename_i kvs e0
    obtain ⟨p, hp, ⟨ks, h1, h2⟩, _⟩ := R.ow i _ e0
    refine ⟨p, .dK ks, h1, True.intro, fun od => ?_⟩
    have R1 := R.write (s := .ow (.d kvs)) (c := .d kvs) (c' := .k od ks kvs) (o := .frz od (.dK ks)) e0 rfl hp ⟨upd_same, h2⟩
    refine h.sem R1 (q od ks h2.oks) fun r ρ' v H' F' ⟨e1, qd⟩ s1 R2 rd => ?_
    obtain ⟨p', hp', ⟨z1, z2⟩, _⟩ := R2.ow i _ e1
    rw [hp] at hp'; cases hp'
    have R3 := R2.write (s := .ow (.k od ks kvs)) (c := .k od ks kvs) (c' := .d kvs) (o := .dK ks) e1 rfl hp ⟨ks, upd_same, z2⟩
    exact ⟨z1, k _ _ _ _ _ qd s1 R3 (rd.swap e1 rfl rfl hp)⟩
  · exact q.elim
def keyD : Key → D
  | .inl n => .int n
  | .inr x => .str x
theorem keyD_den {K : PySem.W.Frag} {F : Hp} {k : Key} (h : keyOk k) : Den K F (kV k) (keyD k) := by
  cases k with
  | inl n => exact .int n
  | inr x => exact .str x h
theorem denK_keys {K : PySem.W.Frag} {F : Hp} : ∀ {ks : List (Key × V)} {kvs : List (Key × D)}, DenK K F ks kvs → ks.map (·.1) = kvs.map (·.1)
  | _, _, .nil => rfl
  | _, _, .cons _ _ t => by rw [List.map_cons, List.map_cons, denK_keys t]
def srcK (i : Nat) : TSrcC := fun ρ Q => match ρ[i]? with
  | some (.ow (.k ob ks kvs)) => Q (kvs.map fun kv => keyD kv.1) (fun ρ' => ρ'.set i (.ow (.k ob ks kvs))) (ρ.set i .un)
  | _ => False
theorem dic_keys {i : Nat} {x : Str} {pos : Pos} (h : PE X (.Name x pos) (tVar i)) : DIc X tg (.Name x pos) (iKeys (tVar i)) (srcK i) := by
  refine ⟨pi_keys h, fun {G σ H F ρ Q Qd} R q k => ?_⟩
  unfold srcK at q
  split at q
  · rename_i ob ks kvs hd
    obtain ⟨p, a, ⟨h1, h2⟩, h3, h4⟩ := R.ow i _ hd
    obtain ⟨R0, rd0⟩ := R.take hd a
    have kk := denK_keys h2
    have hlen := h2.length
    refine ⟨_, a, p, ob, rfl, .inl ⟨ks, h1, k _ _ _ _ _ _ q (Same.refl _) R0 ?_ fun H2 F2 ρ2 v r R2 rd => ?_⟩⟩
    · have here : ∀ {σ3 : L2.St} {H3 F3 : Hp} {ρ3 : SL}, Rep X.K (G.now σ (ρ.set i .un) H F) σ3 H3 F3 ρ3 → H3 p = some (.frz ob (.dK ks)) := fun R3 => by
        obtain ⟨p', e', b1, b2, b3, b4⟩ := rd0
        cases e'
        exact (R0.held R3 h1 h3 b4 (R.nb h4)).1
      refine ⟨fun R3 => ⟨here R3, by rw [List.length_map, hlen]; exact Nat.le_refl _⟩, fun j hj R3 => ⟨here R3, by rw [List.length_map] at hj; omega⟩, fun j d x H' hj R3 y => ?_⟩
      obtain ⟨rfl, k1, v1, e1, rfl⟩ := y
      rw [List.getElem?_map] at hj
      cases e2 : kvs[j]? with
      | none => rw [e2] at hj; cases hj
      | some kv =>
        rw [e2] at hj
        cases hj
        have : k1 = kv.1 := by
          have z1 : (ks.map (·.1))[j]? = some k1 := by rw [List.getElem?_map, e1]; rfl
          rw [kk, List.getElem?_map, e2] at z1
          cases z1; rfl
        subst this
        exact .inl ⟨rfl, keyD_den (h2.oks kv (List.mem_of_getElem? e2))⟩
    · obtain ⟨z1, z2⟩ := R.lent hd rfl (by simp) R2
      exact ⟨z1, z2 _ _ rd⟩
  · exact q.elim
/-! ### {k: v for target in .. if ..} -/
def dcL (g : TGd) (tt : TB) (tk te : TD) (vs : List Nat) (Q : List (Key × D) → SL → Prop) : List D → List (Key × D) → SL → Prop
  | [], acc, ρ => Q acc ρ
  | d :: r, acc, ρ => g d ρ fun ρ1 => tt ρ1 fun b ρ2 => if b = true then tk ρ2 fun rk ρ3 => te ρ3 fun rv ρ4 => ∃ k, rk.dat.key = some k ∧ acc.length < sizeLine ∧ dcL g tt tk te vs Q r (kPut acc k rv.dat) (wipeD ρ4 vs) else dcL g tt tk te vs Q r acc (wipeD ρ2 vs)
def dDc (t : TSrcC) (g : TGd) (tt : TB) (tk te : TD) (vs : List Nat) : TD := fun ρ Q => t ρ fun its back ρ' => dcL g tt tk te vs (fun acc ρ2 => Q (.fr (.d acc)) (back (wipeD ρ2 vs))) its [] (wipeD ρ' vs)
theorem sem_dc {kx vx iter : Expr} {ifs : List Expr} {scope : Scope} {ws : List Nat} {wi : TI} {g : TG} {tt : TT} {tk te : TE} {t : TSrcC} {gd : TGd} {dt : TB} {dk de : TD}
    (hi : DIc X tg iter wi t)
    (hg : ∀ (s : Shared) (H : Hp) (C : Addr) (cl : List (Str × Addr)) (fp : List Addr), DG (X.blk s H scope (compEnvC scope cl C X.env) fp) tg ws g gd) (ht : ∀ (s : Shared) (H : Hp) (C : Addr) (cl : List (Str × Addr)) (fp : List Addr), DTs (X.blk s H scope (compEnvC scope cl C X.env) fp) ifs tt dt)
    (hk : ∀ (s : Shared) (H : Hp) (C : Addr) (cl : List (Str × Addr)) (fp : List Addr), DE (X.blk s H scope (compEnvC scope cl C X.env) fp) kx tk dk)
    (he : ∀ (s : Shared) (H : Hp) (C : Addr) (cl : List (Str × Addr)) (fp : List Addr), DE (X.blk s H scope (compEnvC scope cl C X.env) fp) vx te de) (s0 : Shared)
    {G : Cd} {σ : L2.St} {H F : Hp} {ρ : SL} {Q : VK} {Qd : Rv → SL → Prop} (R : Rep X.K G σ H F ρ) (q : dDc t gd dt dk de ws ρ Qd)
    (k : ∀ r ρ' v H' F', Qd r ρ' → Same F F' → Rep X.K G σ H' F' ρ' → RDen X.K G σ ρ' H' F' v r → Q v H') : tDc wi g tt tk te ws σ H Q := by
  refine hi.sem R q fun its back ρ' J H1 F1 qd s1 R1 IT bk D hD => ?_
  have hG := hg s0 H 0 [] []
  have hT := ht s0 H 0 [] []
  have hK := hk s0 H 0 [] []
  have hE := he s0 H 0 [] []
  obtain ⟨RD, rd0⟩ := R1.now.allocFr hD (o := .dK []) (c := .d []) ⟨_, upd_same, .nil⟩
  refine ⟨fun i m H => m = its.length - i ∧ i ≤ its.length ∧ ∃ F ρ acc, Rep X.K (G.now σ ρ' H1 F1) (L2.wipe σ ws) H F ρ ∧ RDen X.K (G.now σ ρ' H1 F1) (L2.wipe σ ws) ρ H F (.ref D) (.fr (.d acc)) ∧
    dcL gd dt dk de ws (fun acc ρ2 => Qd (.fr (.d acc)) (back (wipeD ρ2 ws))) (its.drop i) acc ρ, ⟨_, rfl, Nat.zero_le _, F1, wipeD ρ' ws, [], RD.wipe ws, rd0.wipe ws, qd⟩, ?_⟩
  rintro i m H2 ⟨rfl, hle, F2, ρ2, acc, R2, rd2, q2⟩
  by_cases hlt : i < its.length
  · refine .inr ⟨IT.go i hlt R2, fun H => ∃ F ρ acc, Rep X.K (G.now σ ρ' H1 F1) (L2.wipe σ ws) H F ρ ∧ RDen X.K (G.now σ ρ' H1 F1) (L2.wipe σ ws) ρ H F (.ref D) (.fr (.d acc)) ∧
      dcL gd dt dk de ws (fun acc ρ2 => Qd (.fr (.d acc)) (back (wipeD ρ2 ws))) (its.drop (i + 1)) acc ρ, fun H' h => ⟨its.length - (i + 1), by omega, rfl, hlt, h⟩, fun x H3 y => ?_⟩
    have hd := List.getElem?_eq_getElem hlt
    rw [drop_get hd] at q2
    obtain ⟨F3, s3, R3, d3, hr⟩ := IT.step hd R2 y
    have rd3 := hr _ _ rd2
    refine hG.sem R3.now d3 q2 fun ρ4 σ4 q4 R4 w4 => ⟨w4.trans (wipe_twice σ ws), ?_⟩
    refine hT.sem R4 q4 fun b ρ5 H5 F5 q5 s5 R5 => ?_
    cases b with
    | false =>
      rw [if_neg Bool.false_ne_true] at q5 ⊢
      have R6 := R3.back R5
      have rd6 := rd3.hold R3 R5
      refine ⟨F5, wipeD ρ5 ws, acc, ?_, ?_, q5⟩
      · have := R6.wipe ws; rw [w4, wipe_twice] at this; exact this
      · have := rd6.wipe ws; rw [w4, wipe_twice] at this; exact this
    | true =>
      rw [if_pos rfl] at q5 ⊢
      refine hK.sem R5 q5 fun rk ρ6 u H6 F6 q6 s6 R6 rdk => ?_
      obtain ⟨F6', s6', R6', dk6⟩ := R6.share rdk
      refine hE.sem R6' q6 fun r ρ7 v H7 F7 q7 s7 R7 rd7 => ?_
      obtain ⟨F8, s8, R8, d8⟩ := R7.share rd7
      obtain ⟨kk, ek, hz, q7⟩ := q7
      have R9 := R3.back R8
      have rd9 := rd3.hold R3 R8
      obtain ⟨p, e, ⟨ks, e1, e2⟩, a2, a3, a4⟩ := id rd9
      cases e
      have pk : Pk X.K F6' H6 u rk.dat := .inl dk6
      obtain ⟨RA, rdA⟩ := R9.writeFr (o := .dK (putK ks kk v)) (c' := .d (kPut acc kk r.dat)) rd9 ⟨_, upd_same, e2.put d8 kk (pk.keyOk ek)⟩
      refine ⟨ks, kk, pk.key ek, e1, by rw [e2.length]; exact hz, F8, wipeD ρ7 ws, kPut acc kk r.dat, ?_, ?_, q7⟩
      · have := RA.wipe ws; rw [w4, wipe_twice] at this; exact this
      · have := rdA.wipe ws; rw [w4, wipe_twice] at this; exact this
  · have e : i = its.length := by omega
    subst e
    rw [List.drop_length] at q2
    have R4 := R2.unwipe
    have rd4 := rd2.unwipe
    obtain ⟨R5, rd5⟩ := bk _ _ _ _ _ R4 rd4
    exact .inl ⟨IT.stop R2, k _ _ _ _ _ q2 (s1.trans R2.fr0) R5 rd5⟩
theorem de_dc {kx vx iter : Expr} {ifs : List Expr} {scope : Scope} {own : List (Str × Nat)} {pos : Pos} {wi : TI} {g : TG} {tt : TT} {tk te : TE} {t : TSrcC} {gd : TGd} {dt : TB} {dk de : TD} (hc : X.calm = true) (hN : X.N.Nodup)
    (hi : DIc X tg iter wi t) (ok : BlkOk X.N X.env.scope scope own)
    (hg : ∀ (s : Shared) (H : Hp) (C : Addr) (cl : List (Str × Addr)) (fp : List Addr), DG (X.blk s H scope (compEnvC scope cl C X.env) fp) tg (own.map (·.2)) g gd)
    (ht : ∀ (s : Shared) (H : Hp) (C : Addr) (cl : List (Str × Addr)) (fp : List Addr), DTs (X.blk s H scope (compEnvC scope cl C X.env) fp) ifs tt dt)
    (hk : ∀ (s : Shared) (H : Hp) (C : Addr) (cl : List (Str × Addr)) (fp : List Addr), DE (X.blk s H scope (compEnvC scope cl C X.env) fp) kx tk dk)
    (he : ∀ (s : Shared) (H : Hp) (C : Addr) (cl : List (Str × Addr)) (fp : List Addr), DE (X.blk s H scope (compEnvC scope cl C X.env) fp) vx te de) (hs : ∀ x, foldedSetIterable iter X.env x = pure x := by intro _; rfl) :
    DE X (.DictComp kx vx [⟨tg, iter, ifs, 0⟩] scope pos) (tDc wi g tt tk te (own.map (·.2))) (dDc t gd dt dk de (own.map (·.2))) :=
  ⟨pe_dc hc hN hi.pe ok (fun s H C cl fp => (hg s H C cl fp).pe) (fun s H C cl fp => (ht s H C cl fp).pe) (fun s H C cl fp => (hk s H C cl fp).pe) (fun s H C cl fp => (he s H C cl fp).pe) hs, fun R q k => sem_dc hi hg ht hk he X.s_0 R q k⟩
theorem de_dcF {kx vx iter : Expr} {ifs : List Expr} {scope : Scope} {own : List (Str × Nat)} {pos : Pos} {wi : TI} {g : Bk TG} {tt : Bk TT} {tk te : Bk TE} {t : TSrcC} {gd : TGd} {dt : TB} {dk de : TD} (hc : X.calm = true) (hN : X.N.Nodup)
    (hi : DIc X tg iter wi t) (ok : BlkOk X.N X.env.scope scope own)
    (hg : ∀ (s : Shared) (H : Hp) (C : Addr) (cl : List (Str × Addr)) (fp : List Addr), DG (X.blk s H scope (compEnvC scope cl C X.env) fp) tg (own.map (·.2)) (g s H C cl fp) gd)
    (ht : ∀ (s : Shared) (H : Hp) (C : Addr) (cl : List (Str × Addr)) (fp : List Addr), DTs (X.blk s H scope (compEnvC scope cl C X.env) fp) ifs (tt s H C cl fp) dt)
    (hk : ∀ (s : Shared) (H : Hp) (C : Addr) (cl : List (Str × Addr)) (fp : List Addr), DE (X.blk s H scope (compEnvC scope cl C X.env) fp) kx (tk s H C cl fp) dk)
    (he : ∀ (s : Shared) (H : Hp) (C : Addr) (cl : List (Str × Addr)) (fp : List Addr), DE (X.blk s H scope (compEnvC scope cl C X.env) fp) vx (te s H C cl fp) de)
    (eg : ∀ s H C cl fp, g s H C cl fp = g X.s_0 (fun _ => none) 0 [] [] := by intros; rfl) (et : ∀ s H C cl fp, tt s H C cl fp = tt X.s_0 (fun _ => none) 0 [] [] := by intros; rfl)
    (ek : ∀ s H C cl fp, tk s H C cl fp = tk X.s_0 (fun _ => none) 0 [] [] := by intros; rfl) (ee : ∀ s H C cl fp, te s H C cl fp = te X.s_0 (fun _ => none) 0 [] [] := by intros; rfl)
    (hs : ∀ x, foldedSetIterable iter X.env x = pure x := by intro _; rfl) :
    DE X (.DictComp kx vx [⟨tg, iter, ifs, 0⟩] scope pos) (tDc wi (g X.s_0 (fun _ => none) 0 [] []) (tt X.s_0 (fun _ => none) 0 [] []) (tk X.s_0 (fun _ => none) 0 [] []) (te X.s_0 (fun _ => none) 0 [] []) (own.map (·.2))) (dDc t gd dt dk de (own.map (·.2))) :=
  de_dc hc hN hi ok (fun s H C cl fp => by rw [← eg s H C cl fp]; exact hg s H C cl fp) (fun s H C cl fp => by rw [← et s H C cl fp]; exact ht s H C cl fp) (fun s H C cl fp => by rw [← ek s H C cl fp]; exact hk s H C cl fp) (fun s H C cl fp => by rw [← ee s H C cl fp]; exact he s H C cl fp) hs
/-! ### [*xs, y] -/
def vStar (t : TQ) (u : TVs) : TVs := fun ρ Q => t ρ fun o ρ1 => match o.get ρ1 with
  | some (.lst l) => u ρ1 fun ds ρ2 => Q (l ++ ds) ρ2
  | some (.tup l) => u ρ1 fun ds ρ2 => Q (l ++ ds) ρ2
  | _ => False
theorem dv_star {e : Expr} {p : Pos} {es : List Expr} {te : TE} {ta : TA} {t : TQ} {u : TVs} (h : DO X e te t) (r : DV X es ta u) (hs : starEach (.Starred e p :: es) X.env = (true, eval e X.env) :: starEach es X.env := by rfl) :
    DV X (.Starred e p :: es) (StX.tStar X.K te ta) (vStar t u) :=
  ⟨StX.pa_star h.pe r.pe hs, fun R q k => h.sem R q fun o ρ1 v H1 F1 q1 s1 R1 d1 => by
    cases eo : o.get ρ1 with
    | none => rw [eo] at q1; exact q1.elim
    | some d =>
      rw [eo] at q1
      cases d with
      | lst l =>
        obtain ⟨a, xs, rfl, h1, h2⟩ := (d1.pk R1 eo).lst R1.ext
        exact ⟨a, xs, rfl, .inr (.inl (.inl h1)), r.sem R1 q1 fun os ρ2 vs H2 F2 q2 s2 R2 d2 => k _ _ _ _ _ q2 (s1.trans s2) R2 ((h2.mono s2).append d2)⟩
      | tup l =>
        obtain ⟨a, xs, rfl, h1, h2⟩ := (d1.pk R1 eo).tup
        exact ⟨a, xs, rfl, .inl (.inl (.inl (R1.ext _ _ h1))), r.sem R1 q1 fun os ρ2 vs H2 F2 q2 s2 R2 d2 => k _ _ _ _ _ q2 (s1.trans s2) R2 ((h2.mono s2).append d2)⟩
      | _ => exact q1.elim⟩
/-! ### <, <=, >, >= of ints and of texts -/
def gCmpA (p : Int → Int → Bool) (ps : Str → Str → Bool) : D → D → (Rv → Prop) → Prop
  | .int i, .int j => fun Q => Q (.v (.bl (p i j)))
  | .str x, .str y => fun Q => Q (.v (.bl (ps x y)))
  | _, _ => fun _ => False
def rCmpA (p : Int → Int → Bool) (ps : Str → Str → Bool) : R2 := fun x y H Q => rI0 (fun i j => .bl (p i j)) x y H Q ∨ ∃ i j, x = .str i ∧ y = .str j ∧ Q (.bl (ps i j)) H
theorem sem_cmpA {p : Int → Int → Bool} {ps : Str → Str → Bool} : SemOp X.K (rCmpA p ps) (gCmpA p ps) := by
  intro G σ H F ρ x y a b Q Qd R ha hb h k
  unfold gCmpA at h
  split at h
  · cases ha.int; cases hb.int
    exact .inl ⟨_, _, rfl, rfl, k _ _ _ _ h (Same.refl _) R (.bl _)⟩
  · cases ha.str; cases hb.str
    exact .inr ⟨_, _, rfl, rfl, k _ _ _ _ h (Same.refl _) R (.bl _)⟩
  · exact h.elim
def ltS (x y : Str) : Bool := decide (x.cps.toList < y.cps.toList)
theorem op_ltA : OpR X (compareOp .Lt) (rCmpA (fun i j => decide (i < j)) ltS) := op_lt.or op_lt_str
theorem op_leA : OpR X (compareOp .LtE) (rCmpA (fun i j => decide (i ≤ j)) fun x y => !ltS y x) := op_le.or op_le_str
theorem op_gtA : OpR X (compareOp .Gt) (rCmpA (fun i j => decide (j < i)) fun x y => ltS y x) := op_gt.or op_gt_str
theorem op_geA : OpR X (compareOp .GtE) (rCmpA (fun i j => decide (j ≤ i)) fun x y => !ltS x y) := op_ge.or op_ge_str
abbrev gLtA := gCmpA (fun i j => decide (i < j)) ltS
theorem sem_ltA : SemOp X.K (rCmpA (fun i j => decide (i < j)) ltS) (gCmpA (fun i j => decide (i < j)) ltS) := sem_cmpA
theorem sem_leA : SemOp X.K (rCmpA (fun i j => decide (i ≤ j)) fun x y => !ltS y x) (gCmpA (fun i j => decide (i ≤ j)) fun x y => !ltS y x) := sem_cmpA
theorem sem_gtA : SemOp X.K (rCmpA (fun i j => decide (j < i)) fun x y => ltS y x) (gCmpA (fun i j => decide (j < i)) fun x y => ltS y x) := sem_cmpA
theorem sem_geA : SemOp X.K (rCmpA (fun i j => decide (j ≤ i)) fun x y => !ltS x y) (gCmpA (fun i j => decide (j ≤ i)) fun x y => !ltS x y) := sem_cmpA
end
end DL
/-! Methods whose object is lent or told; methods of lists that piles hold; sorted texts and pairs. -/
namespace DL
open PySem PySem.Spec L2 PyProof.Rows
/-- a method as its callers know it -/
structure CalM (P : Program) (w : World) (K : PySem.W.Frag) (mg : Str → Option Value) (base : Heap) (k : Nat) (f : Addr) (fd : FuncData) (ps : List Str) (sp : SpD) : Prop where
  b : Binds K fd ps []
  ok : FnG P w K mg base CX0 k f fd ps (lift K sp)
section
variable {X : Cx}
def dMethA (C : Addr) (m : Str) (i : Nat) (sp : SpD) (u : TAg) : TD := fun ρ Q => match ρ[i]? with
  | some (.sh d) => isObjD C m d ∧ dCall sp (fun ρ' K => u ρ' fun os ρ2 => K (.val d :: os) ρ2) ρ Q
  | some s => (match s.cn with | some (.o C' fs) => C' = C ∧ fs.lookup m = none | _ => False) ∧ dCall sp (fun ρ' K => u ρ' fun os ρ2 => K (.bor i :: os) ρ2) ρ Q
  | none => False
theorem sem_methA {i : Nat} {x : Str} {px : Pos} {C f : Addr} {m : Str} {sp : SpD} {tb : TA} {u : TAg} {E : XK}
    (hu : ∀ {G : Cd} {σ : L2.St} {H F : Hp} {ρ : SL} {Q : List V → Hp → Prop} {Qd : List AOp → SL → Prop}, Rep X.K G σ H F ρ → u ρ Qd → (∀ os ρ' vs H' F', Qd os ρ' → Same F F' → Rep X.K G σ H' F' ρ' → ADens X.K F' σ vs os → Q vs H') → tb σ H Q)
    {G : Cd} {σ : L2.St} {H F : Hp} {ρ : SL} {Q : VK} {Qd : Rv → SL → Prop} (R : Rep X.K G σ H F ρ) (q : dMethA C m i sp u ρ Qd)
    (k : ∀ r ρ' v H' F', Qd r ρ' → Same F F' → Rep X.K G σ H' F' ρ' → RDen X.K G σ ρ' H' F' v r → Q v H') : tMethR C m (lift X.K sp) E (tVar i) tb σ H Q := by
  unfold dMethA at q
  split at q
  · rename_i d e
    obtain ⟨v, a, b⟩ := R.sh i d e
    obtain ⟨q0, q1⟩ := q
    obtain ⟨p, dx, gs, rfl, h1, l1⟩ := objD_at R.ext (.inl b) q0
    refine ⟨_, a, p, dx, gs, rfl, h1, l1, hu R q1 fun os ρ2 vs H2 F2 q2 s2 R2 d2 => ?_⟩
    exact sem_args R2 (.cons (o := .val d) (b.mono s2) d2) q2 fun r ρ' v H' F' qd s3 R3 rd3 => k _ _ _ _ _ qd (s2.trans s3) R3 rd3
  · rename_i s _ e
    obtain ⟨q0, q1⟩ := q
    cases hc : s.cn with
    | none => rw [hc] at q0; exact q0.elim
    | some c =>
      rw [hc] at q0
      cases c with
      | o C' fs =>
        obtain ⟨rfl, l0⟩ := q0
        obtain ⟨p, hp, ⟨dx, gs, h1, h2⟩, _⟩ := R.owned e hc
        refine ⟨_, hp, p, dx, gs, rfl, h1, h2.lookup_none l0, hu R q1 fun os ρ2 vs H2 F2 q2 s2 R2 d2 => ?_⟩
        exact sem_args R2 (.cons (o := .bor i) hp d2) q2 fun r ρ' v H' F' qd s3 R3 rd3 => k _ _ _ _ _ qd (s2.trans s3) R3 rd3
      | _ => exact q0.elim
  · exact q.elim
theorem de_methA {i : Nat} {x : Str} {px : Pos} {k : Nat} {C f : Addr} {fd : FuncData} {ps : List Str} {sp : SpD} {E : XK} {CX : CXT} {m : Str} {pos apos : Pos} {e : Expr} {es : List Expr} {tb : TA} {u : TAg} {pl : Sem Bool} (he : PE X (.Name x px) (tVar i)) (c : Cls X.K C) (hm : Meth X.K C m f)
    (Fk : FnG X.prog X.w X.K X.mg X.base CX k f fd ps (lift X.K sp)) (hgd : X.A.guards = some []) (hr : Room k X.A) (hb : Binds X.K fd ps []) (hx : Passes CX X E) (ha : DAg X (e :: es) tb u)
    (hst : starEach (e :: es) X.env = (false, eval e X.env) :: starEach es X.env := by rfl) (hpl : (backTo pos (starEach es X.env)).any (·.1) = false := by rfl)
    (ht : eval (.Call (.Attribute (.Name x px) m apos) (e :: es) [] pos) X.env = (do
      let ov ← eval (.Name x px) X.env
      standAt apos.atName
      let (f, first) ← holding [ov] (getMethod ov m pl)
      callWith pos f first (backTo pos (starEach (e :: es) X.env)) (backToKw pos (keywordEach [] X.env))) := by rfl) :
    DE X (.Call (.Attribute (.Name x px) m apos) (e :: es) [] pos) (tMethR C m (lift X.K sp) E (tVar i) tb) (dMethA C m i sp u) :=
  ⟨pe_methG he c hm Fk hgd hr hb hx ha.pe hst hpl ht, fun R q kk => sem_methA (x := x) (px := px) (f := f) ha.sem R q kk⟩
theorem de_methA0 {i : Nat} {x : Str} {px : Pos} {k : Nat} {C f : Addr} {fd : FuncData} {ps : List Str} {sp : SpD} {E : XK} {CX : CXT} {m : Str} {pos apos : Pos} {pl : Sem Bool} (he : PE X (.Name x px) (tVar i)) (c : Cls X.K C) (hm : Meth X.K C m f)
    (Fk : FnG X.prog X.w X.K X.mg X.base CX k f fd ps (lift X.K sp)) (hgd : X.A.guards = some []) (hr : Room k X.A) (hb : Binds X.K fd ps []) (hx : Passes CX X E)
    (ht : eval (.Call (.Attribute (.Name x px) m apos) [] [] pos) X.env = (do
      let ov ← eval (.Name x px) X.env
      standAt apos.atName
      let (f, first) ← holding [ov] (getMethod ov m pl)
      callWith pos f first (backTo pos (starEach [] X.env)) (backToKw pos (keywordEach [] X.env))) := by rfl) :
    DE X (.Call (.Attribute (.Name x px) m apos) [] [] pos) (tMethR C m (lift X.K sp) E (tVar i) tNil) (dMethA C m i sp agNil) :=
  ⟨pe_methG0 he c hm Fk hgd hr hb hx ht, fun R q kk => sem_methA (x := x) (px := px) (f := f) (dag_nil (X := X)).sem R q kk⟩
/-! ### lists that piles hold -/
theorem de_appendE (g : Nat) {o e : Expr} {to : TE} {t0 : TD} {apos cpos : Pos} {ta : TA} {t : TVs} (ho : DE X o to t0) (ha : DV X [e] ta t)
    (hbase : attributeBase o "append" X.env (eval o X.env) = eval o X.env := by rfl)
    (hfew : ((backTo cpos (starEach [e] X.env)).all (fun x => !x.1) && (backToKw cpos (keywordEach [] X.env)).all (fun x => x.1.isSome)
      && decide (([e] : List Expr).length + ([] : List Keyword).length + (if ([] : List Keyword).isEmpty then 0 else 1) < 30)) = true := by rfl)
    (hline : (apos.endLine == cpos.line) = true := by rfl) (hs : starEach [e] X.env = (false, eval e X.env) :: starEach [] X.env := by rfl) (hplain : (backTo cpos (starEach [] X.env)).any (·.1) = false := by rfl) :
    DE X (.Call (.Attribute o "append" apos) [e] [] cpos) (tBM X.K "list" rAppend to ta) (dMutE g t0 mAppend t) :=
  de_mutE g PySem.F.slot_list_append PySem.F.type_list_append (fun pins s σ H x xs v us Q => mt_append pins s σ H x xs v us Q) sem_append ho ha hbase hfew hline hs hplain
theorem de_popE (g : Nat) {o e : Expr} {to : TE} {t0 : TD} {apos cpos : Pos} {ta : TA} {t : TVs} (ho : DE X o to t0) (ha : DV X [e] ta t)
    (hbase : attributeBase o "pop" X.env (eval o X.env) = eval o X.env := by rfl)
    (hfew : ((backTo cpos (starEach [e] X.env)).all (fun x => !x.1) && (backToKw cpos (keywordEach [] X.env)).all (fun x => x.1.isSome)
      && decide (([e] : List Expr).length + ([] : List Keyword).length + (if ([] : List Keyword).isEmpty then 0 else 1) < 30)) = true := by rfl)
    (hline : (apos.endLine == cpos.line) = true := by rfl) (hs : starEach [e] X.env = (false, eval e X.env) :: starEach [] X.env := by rfl) (hplain : (backTo cpos (starEach [] X.env)).any (·.1) = false := by rfl) :
    DE X (.Call (.Attribute o "pop" apos) [e] [] cpos) (tBM X.K "list" rPopAt to ta) (dMutE g t0 mPopAt t) :=
  de_mutE g PySem.F.slot_list_pop PySem.F.type_list_pop (fun pins s σ H x xs v us Q => mt_popAt pins s σ H x xs v us Q) sem_popAt ho ha hbase hfew hline hs hplain
theorem de_reverseE0 (g : Nat) {o : Expr} {to : TE} {t0 : TD} {apos cpos : Pos} (ho : DE X o to t0)
    (hbase : attributeBase o "reverse" X.env (eval o X.env) = eval o X.env := by rfl) (hline : (apos.endLine == cpos.line) = true := by rfl) :
    DE X (.Call (.Attribute o "reverse" apos) [] [] cpos) (tBM0 X.K "list" rReverse to) (dMutE0 g t0 mReverse) :=
  de_mutE0 g PySem.F.slot_list_reverse PySem.F.type_list_reverse (fun pins s σ H x xs v us Q => mt_reverse pins s σ H x xs v us Q) sem_reverse ho hbase hline
end
/-! ### the order of texts -/
theorem ltS_irrefl (x : Str) : ltS x x = false := by unfold ltS; exact decide_eq_false (List.lt_irrefl _)
theorem ltS_trans {x y z : Str} (h1 : ltS x y = true) (h2 : ltS y z = true) : ltS x z = true := by
  unfold ltS at *
  rw [decide_eq_true_eq] at *
  exact List.lt_trans h1 h2
theorem Str.ext_toList {x y : Str} (h : x.cps.toList = y.cps.toList) : x = y := PySem.W.str_of_cps h
theorem ltS_tri (x y : Str) : ltS x y = true ∨ x = y ∨ ltS y x = true := by
  unfold ltS
  simp only [decide_eq_true_eq]
  by_cases h1 : x.cps.toList < y.cps.toList
  · exact .inl h1
  · by_cases h2 : y.cps.toList < x.cps.toList
    · exact .inr (.inr h2)
    · exact .inr (.inl (Str.ext_toList (List.le_antisymm (List.not_lt.mp h2) (List.not_lt.mp h1))))
theorem ltS_asymm {x y : Str} (h : ltS x y = true) : ltS y x = false := by
  cases e : ltS y x with
  | false => rfl
  | true => have := ltS_trans h e; rw [ltS_irrefl] at this; cases this
def leS (x y : Str) : Bool := !ltS y x
theorem leS_total (x y : Str) : (leS x y || leS y x) = true := by
  unfold leS
  rcases ltS_tri x y with h | h | h
  · rw [ltS_asymm h]; rfl
  · subst h; rw [ltS_irrefl]; rfl
  · rw [ltS_asymm h]; simp
theorem leS_trans (x y z : Str) (h1 : leS x y = true) (h2 : leS y z = true) : leS x z = true := by
  unfold leS at *
  rw [Bool.not_eq_true'] at *
  cases e : ltS z x with
  | false => rfl
  | true =>
    rcases ltS_tri x y with h | h | h
    · have := ltS_trans e h; rw [h2] at this; cases this
    · subst h; rw [h2] at e; cases e
    · rw [h1] at h; cases h
theorem leS_antisymm {x y : Str} (h1 : leS x y = true) (h2 : leS y x = true) : x = y := by
  unfold leS at *
  rw [Bool.not_eq_true'] at *
  rcases ltS_tri x y with h | h | h
  · rw [h2] at h; cases h
  · exact h
  · rw [h1] at h; cases h
def sortS (xs : List Str) : List Str := xs.mergeSort leS
theorem sortS_perm (xs : List Str) : (sortS xs).Perm xs := List.mergeSort_perm xs leS
theorem sortS_sorted (xs : List Str) : (sortS xs).Pairwise (fun x y => leS x y = true) := List.pairwise_mergeSort leS_trans leS_total xs
/-- lists of one order with the same items are one list -/
theorem sorted_one {α : Type} {le : α → α → Bool} (anti : ∀ x y, le x y = true → le y x = true → x = y) : ∀ {l m : List α}, l.Perm m → l.Pairwise (fun x y => le x y = true) → m.Pairwise (fun x y => le x y = true) → l = m :=
  fun h h1 h2 => h.eq_of_pairwise (fun a b _ _ z1 z2 => anti a b z1 z2) h1 h2
theorem sortS_congr {l m : List Str} (h : l.Perm m) : sortS l = sortS m :=
  sorted_one (le := leS) (fun _ _ => leS_antisymm) ((sortS_perm l).trans (h.trans (sortS_perm m).symm)) (sortS_sorted l) (sortS_sorted m)
/-- pairs of texts: by the first, then by the second -/
def leP (p q : Str × Str) : Bool := if p.1 = q.1 then leS p.2 q.2 else leS p.1 q.1
theorem D_le_str (x y : Str) : D.le (.str x) (.str y) = leS x y := by
  have h := PySem.W.dataLe_eq false D.py
  show PySem.W.dataLe false D.py (.str x) (.str y) = _
  rw [h]
  show (!PySem.W.dataLt (D.py (.str y)) (D.py (.str x))) = _
  rw [D.py, D.py]
  have e := congrFun (congrFun (PySem.W.dataLe_str (fun b : Str => b)) x) y
  rw [PySem.W.dataLe_eq] at e
  have e' : (!PySem.W.dataLt (.str y) (.str x)) = decide (x.cps.toList ≤ y.cps.toList) := e
  rw [e']
  unfold leS ltS
  rw [← decide_not]
  exact decide_eq_decide.mpr List.not_lt.symm
theorem mergeSort_strs (xs : List Str) : (xs.map D.str).mergeSort D.le = (sortS xs).map D.str := by
  unfold sortS
  rw [List.map_mergeSort (s := D.le) (f := D.str) (hl := fun a _ b _ => (D_le_str a b).symm)]
theorem gSorted_strs {xs : List Str} {Q : Rv → Prop} : gSortedD [.lst (xs.map D.str)] Q = Q (.fr (.l ((sortS xs).map D.str))) := by
  have h1 : D.fits 40 (xs.map D.str) = true := fits_strs 40 xs
  have hm : (xs.map D.str).map D.py = xs.map PyData.str := by rw [List.map_map]; apply List.map_congr_left; intro x _; show D.py (.str x) = _; rw [D.py]
  have h2 : PySem.W.AllAlike ((xs.map D.str).map D.py) := by rw [hm]; exact PySem.W.AllAlike.of fun b b' => by simp [PySem.W.alike]
  have h3 : PySem.W.Sortable ((xs.map D.str).map D.py) := by rw [hm]; exact PySem.W.Sortable.others fun b => ⟨by simp, by simp⟩
  show (D.fits 40 (xs.map D.str) = true ∧ PySem.W.AllAlike ((xs.map D.str).map D.py) ∧ PySem.W.Sortable ((xs.map D.str).map D.py) ∧ Q (.fr (.l ((xs.map D.str).mergeSort D.le)))) = _
  rw [mergeSort_strs]
  exact propext ⟨fun z => z.2.2.2, fun z => ⟨h1, h2, h3, z⟩⟩
/-- a pair of texts as a datum -/
def PairD (p : Str × Str) : D := .tup [.str p.1, .str p.2]
theorem dataLt_str (x y : Str) : PySem.W.dataLt (.str x) (.str y) = ltS x y := by
  have e := D_le_str y x
  unfold D.le leS at e
  rw [PySem.W.dataLe_eq] at e
  have e' : (!PySem.W.dataLt (D.py (.str x)) (D.py (.str y))) = !ltS x y := e
  rw [D.py, D.py] at e'
  exact Bool.not_inj e'
theorem D_le_pair (p q : Str × Str) : D.le (PairD p) (PairD q) = leP p q := by
  unfold D.le
  rw [PySem.W.dataLe_eq]
  show (!PySem.W.dataLt (D.py (PairD q)) (D.py (PairD p))) = _
  unfold PairD
  rw [D.py, D.pys, D.pys, D.pys, D.py, D.py, D.py, D.pys, D.pys, D.pys, D.py, D.py, PySem.W.dataLt_pair (by simp [PySem.W.alike]) (by simp [PySem.W.alike]), dataLt_str, dataLt_str]
  have ev : ∀ x y : Str, PyData.eqv (.str x) (.str y) = decide (x = y) := fun x y => by rw [PyData.eqv, Str.beq_dec]
  rw [ev, ev]
  unfold leP leS
  by_cases h : p.1 = q.1
  · rw [if_pos h, if_pos (decide_eq_true h.symm)]
    by_cases h2 : q.2 = p.2
    · rw [if_pos (decide_eq_true h2), h2, ltS_irrefl]
    · rw [if_neg (by simpa using h2)]
  · rw [if_neg h, if_neg (by simpa using fun z => h z.symm)]
theorem leP_total (p q : Str × Str) : (leP p q || leP q p) = true := by
  unfold leP
  by_cases h : p.1 = q.1
  · rw [if_pos h, if_pos h.symm]; exact leS_total _ _
  · rw [if_neg h, if_neg (Ne.symm h)]; exact leS_total _ _
theorem leP_trans (p q r : Str × Str) (h1 : leP p q = true) (h2 : leP q r = true) : leP p r = true := by
  unfold leP at *
  by_cases a : p.1 = q.1
  · rw [if_pos a] at h1
    by_cases b : q.1 = r.1
    · rw [if_pos b] at h2
      rw [if_pos (a.trans b)]
      exact leS_trans _ _ _ h1 h2
    · rw [if_neg b] at h2
      rw [if_neg (by rw [a]; exact b), a]
      exact h2
  · rw [if_neg a] at h1
    by_cases b : q.1 = r.1
    · rw [if_neg (by rw [← b]; exact a), ← b]
      exact h1
    · rw [if_neg b] at h2
      by_cases c : p.1 = r.1
      · rw [c] at h1
        exact (b (leS_antisymm h2 h1)).elim
      · rw [if_neg c]; exact leS_trans _ _ _ h1 h2
theorem leP_antisymm {p q : Str × Str} (h1 : leP p q = true) (h2 : leP q p = true) : p = q := by
  unfold leP at *
  by_cases a : p.1 = q.1
  · rw [if_pos a] at h1
    rw [if_pos a.symm] at h2
    exact Prod.ext a (leS_antisymm h1 h2)
  · rw [if_neg a] at h1
    rw [if_neg (Ne.symm a)] at h2
    exact (a (leS_antisymm h1 h2)).elim
def sortP (xs : List (Str × Str)) : List (Str × Str) := xs.mergeSort leP
theorem sortP_perm (xs : List (Str × Str)) : (sortP xs).Perm xs := List.mergeSort_perm xs leP
theorem sortP_sorted (xs : List (Str × Str)) : (sortP xs).Pairwise (fun x y => leP x y = true) := List.pairwise_mergeSort leP_trans leP_total xs
theorem sortP_congr {l m : List (Str × Str)} (h : l.Perm m) : sortP l = sortP m :=
  sorted_one (le := leP) (fun _ _ => leP_antisymm) ((sortP_perm l).trans (h.trans (sortP_perm m).symm)) (sortP_sorted l) (sortP_sorted m)
theorem pairs_fits : ∀ (n : Nat) (l : List (Str × Str)), 0 < n → D.fits n (l.map PairD) = true
  | n, [], _ => by simp [D.fits]
  | n + 1, p :: r, h => by
    rw [List.map_cons, D.fits, pairs_fits (n + 1) r h, PairD, D.fit, D.fits, D.fits, D.fits, D.fit, D.fit]
    rfl
theorem gSorted_pairs {xs : List (Str × Str)} {Q : Rv → Prop} : gSortedD [.lst (xs.map PairD)] Q = Q (.fr (.l ((sortP xs).map PairD))) := by
  have h1 : D.fits 40 (xs.map PairD) = true := pairs_fits 40 xs (by decide)
  have hp : ∀ p : Str × Str, D.py (PairD p) = .tuple [.str p.1, .str p.2] := fun p => by unfold PairD; rw [D.py, D.pys, D.pys, D.pys, D.py, D.py]
  have hm : (xs.map PairD).map D.py = xs.map fun p => PyData.tuple [.str p.1, .str p.2] := by rw [List.map_map]; apply List.map_congr_left; intro x _; exact hp x
  have h2 : PySem.W.AllAlike ((xs.map PairD).map D.py) := by rw [hm]; exact PySem.W.AllAlike.of fun b b' => by simp [PySem.W.alike, PySem.W.alikeAll]
  have h3 : PySem.W.Sortable ((xs.map PairD).map D.py) := by rw [hm]; exact PySem.W.Sortable.tuples fun b => ⟨_, _, rfl⟩
  have hs : (xs.map PairD).mergeSort D.le = (sortP xs).map PairD := by
    unfold sortP
    rw [List.map_mergeSort (s := D.le) (f := PairD) (hl := fun a _ b _ => (D_le_pair a b).symm)]
  show (D.fits 40 (xs.map PairD) = true ∧ PySem.W.AllAlike ((xs.map PairD).map D.py) ∧ PySem.W.Sortable ((xs.map PairD).map D.py) ∧ Q (.fr (.l ((xs.map PairD).mergeSort D.le)))) = _
  rw [hs]
  exact propext ⟨fun z => z.2.2.2, fun z => ⟨h1, h2, h3, z⟩⟩
/-! ### comparisons -/
theorem gCmpA_int {p : Int → Int → Bool} {ps : Str → Str → Bool} {i j : Int} {Q : Rv → Prop} : gCmpA p ps (.int i) (.int j) Q = Q (.v (.bl (p i j))) := rfl
theorem gCmpA_str {p : Int → Int → Bool} {ps : Str → Str → Bool} {i j : Str} {Q : Rv → Prop} : gCmpA p ps (.str i) (.str j) Q = Q (.v (.bl (ps i j))) := rfl
end DL
/-! Small facts for the readings. -/
namespace DL
open PySem PySem.Spec L2 PyProof.Rows
theorem slC_ow {ρ : SL} {i : Nat} {c : Cn} (h : ρ[i]? = some (.ow c)) : slC ρ i = some (.ow c, c) := by unfold slC; rw [h]; rfl
theorem slC_bw {ρ : SL} {i j : Nat} {c : Cn} (h : ρ[i]? = some (.bw j c)) : slC ρ i = some (.bw j c, c) := by unfold slC; rw [h]; rfl
section
variable {X : Cx}
def mClear (l : List D) (Q : List D → D → Prop) : Prop := Q [] .non
end
/-- a comprehension that changes nothing: what it makes -/
theorem lcL_pure {α : Type} (f e : α → D) (p : α → Bool) {g : TGd} {tt : TB} {te : TD} {vs : List Nat} {Q : List D → SL → Prop} {l : List α} {ρ : SL} (hlen : l.length ≤ 16777216)
    (hs : ∀ x ∈ l, ∀ (N : List D → SL → Prop) (acc : List D), acc.length < 16777216 → (p x = true → N (acc ++ [e x]) ρ) → (p x = false → N acc ρ) →
      g (f x) ρ fun ρ1 => tt ρ1 fun b ρ2 => if b = true then te ρ2 fun rv ρ3 => acc.length < sizeLine ∧ N (acc ++ [rv.dat]) (wipeD ρ3 vs) else N acc (wipeD ρ2 vs))
    (hQ : Q ((l.filter p).map e) ρ) : lcL g tt te vs Q (l.map f) [] ρ := by
  suffices h : ∀ (r pre : List α) (acc : List D), pre ++ r = l → acc = (pre.filter p).map e → lcL g tt te vs Q (r.map f) acc ρ from h l [] [] rfl rfl
  intro r
  induction r with
  | nil =>
    intro pre acc hp ha
    rw [List.append_nil] at hp
    subst hp; subst ha
    exact hQ
  | cons x r ih =>
    intro pre acc hp ha
    have hx : x ∈ l := by rw [← hp]; simp
    have hacc : acc.length < 16777216 := by
      subst ha
      rw [List.length_map]
      have h1 := List.length_filter_le p pre
      have h2 := congrArg List.length hp
      rw [List.length_append, List.length_cons] at h2
      omega
    refine hs x hx (fun acc ρ => lcL g tt te vs Q (r.map f) acc ρ) acc hacc (fun hpx => ?_) fun hpx => ?_
    · refine ih (pre ++ [x]) _ (by rw [List.append_assoc]; exact hp) ?_
      rw [ha, List.filter_append, List.map_append, List.filter_cons_of_pos (by exact hpx)]
      rfl
    · refine ih (pre ++ [x]) _ (by rw [List.append_assoc]; exact hp) ?_
      rw [ha, List.filter_append, List.map_append, List.filter_cons_of_neg (by rw [hpx]; decide)]
      simp
/-- the same for dicts: keys that are texts, none twice -/
theorem dcL_pure {α : Type} (f : α → D) (kf : α → Str) (e : α → D) {g : TGd} {tt : TB} {tk te : TD} {vs : List Nat} {Q : List (Key × D) → SL → Prop} {l : List α} {ρ : SL} (hlen : l.length ≤ 16777216) (hn : (l.map kf).Nodup)
    (hs : ∀ x ∈ l, ∀ (N : List (Key × D) → SL → Prop) (acc : List (Key × D)), acc.length < 16777216 → N (kPut acc (.inr (kf x)) (e x)) ρ →
      g (f x) ρ fun ρ1 => tt ρ1 fun b ρ2 => if b = true then tk ρ2 fun rk ρ3 => te ρ3 fun rv ρ4 => ∃ k, rk.dat.key = some k ∧ acc.length < sizeLine ∧ N (kPut acc k rv.dat) (wipeD ρ4 vs) else N acc (wipeD ρ2 vs))
    (hQ : Q (l.map fun x => (.inr (kf x), e x)) ρ) : dcL g tt tk te vs Q (l.map f) [] ρ := by
  suffices h : ∀ (r pre : List α) (acc : List (Key × D)), pre ++ r = l → acc = (pre.map fun x => (Sum.inr (kf x), e x)) → dcL g tt tk te vs Q (r.map f) acc ρ from h l [] [] rfl rfl
  intro r
  induction r with
  | nil =>
    intro pre acc hp ha
    rw [List.append_nil] at hp
    subst hp; subst ha
    exact hQ
  | cons x r ih =>
    intro pre acc hp ha
    have hx : x ∈ l := by rw [← hp]; simp
    have hacc : acc.length < 16777216 := by
      subst ha
      rw [List.length_map]
      have h2 := congrArg List.length hp
      rw [List.length_append, List.length_cons] at h2
      omega
    refine hs x hx (fun acc ρ => dcL g tt tk te vs Q (r.map f) acc ρ) acc hacc ?_
    refine ih (pre ++ [x]) _ (by rw [List.append_assoc]; exact hp) ?_
    have hnot : (acc.any fun kv => decide (kv.1 = (Sum.inr (kf x) : Key))) = false := by
      rw [List.any_eq_false]
      intro kv hk
      subst ha
      obtain ⟨y, hy, rfl⟩ := List.mem_map.mp hk
      simp only [decide_eq_true_eq]
      intro z
      have z' : kf y = kf x := Sum.inr.inj z
      rw [← hp, List.map_append, List.map_cons] at hn
      have := List.nodup_append.mp hn
      exact this.2.2 (kf y) (List.mem_map.mpr ⟨y, hy, rfl⟩) (kf x) List.mem_cons_self z'
    unfold kPut
    rw [hnot, ha, List.map_append]
    rfl
theorem kGet_map {α : Type} (kf : α → Str) (e : α → D) : ∀ {l : List α} {x : α}, x ∈ l → (l.map kf).Nodup → kGet (l.map fun x => ((.inr (kf x) : Key), e x)) (.inr (kf x)) = some (e x)
  | y :: l, x, hm, hn => by
    rw [List.map_cons, kGet_cons]
    rw [List.map_cons, List.nodup_cons] at hn
    rcases List.mem_cons.mp hm with rfl | hm
    · rw [if_pos rfl]
    · rw [if_neg (fun z => hn.1 (by rw [Sum.inr.inj z]; exact List.mem_map.mpr ⟨x, hm, rfl⟩))]
      exact kGet_map kf e hm hn.2
theorem kGet_map_none {α : Type} (kf : α → Str) (e : α → D) : ∀ {l : List α} {k : Str}, k ∉ l.map kf → kGet (l.map fun x => ((.inr (kf x) : Key), e x)) (.inr k) = none
  | [], k, _ => rfl
  | y :: l, k, hm => by
    rw [List.map_cons, List.mem_cons, not_or] at hm
    rw [List.map_cons, kGet_cons, if_neg (fun z => hm.1 (Sum.inr.inj z).symm)]
    exact kGet_map_none kf e hm.2
theorem str_any (l : List Str) (x : Str) : ((l.map D.str).any fun z => D.eqv z (.str x)) = decide (x ∈ l) := by
  induction l with
  | nil => simp
  | cons y r ih =>
    rw [List.map_cons, List.any_cons, ih, D.eqv, Str.beq_dec]
    simp only [List.mem_cons, Bool.decide_or]
    congr 1
    exact decide_eq_decide.mpr eq_comm
theorem gIn_strs {f : Bool → Bool} {l : List Str} {x : Str} {Q : Rv → Prop} (h : Q (.v (.bl (f (decide (x ∈ l)))))) : gIn f (.str x) (.lst (l.map D.str)) Q := by
  refine ⟨by simp [D.fit], fits_strs 59 l, ?_⟩
  rw [str_any]
  exact h
theorem pair_eqv (p : Str × Str) (x y : Str) : D.eqv (PairD p) (.tup [.str x, .str y]) = decide (p = (x, y)) := by
  rw [PairD, D.eqv, D.eqvs, D.eqvs, D.eqvs, D.eqv, D.eqv, Str.beq_dec, Str.beq_dec]
  obtain ⟨a, b⟩ := p
  simp only [Bool.and_true, Prod.mk.injEq, Bool.decide_and]
theorem pair_any (l : List (Str × Str)) (x y : Str) : ((l.map PairD).any fun z => D.eqv z (.tup [.str x, .str y])) = decide ((x, y) ∈ l) := by
  induction l with
  | nil => simp
  | cons p r ih =>
    rw [List.map_cons, List.any_cons, ih, pair_eqv]
    simp only [List.mem_cons, Bool.decide_or]
    congr 1
    exact decide_eq_decide.mpr eq_comm
theorem gIn_pair (f : Bool → Bool) (l : List (Str × Str)) (x y : Str) (Q : Rv → Prop) (h : Q (.v (.bl (f (decide ((x, y) ∈ l)))))) : gIn f (.tup [.str x, .str y]) (.lst (l.map PairD)) Q := by
  refine ⟨by simp [D.fit, D.fits], pairs_fits 59 l (by decide), ?_⟩
  rw [pair_any]
  exact h
theorem gIn_pairD {f : Bool → Bool} {l : List (Str × Str)} {p : Str × Str} {Q : Rv → Prop} (h : Q (.v (.bl (f (decide (p ∈ l)))))) : gIn f (PairD p) (.lst (l.map PairD)) Q := gIn_pair f l p.1 p.2 Q h
end DL
/-! Walks over lists that are lent: they must stand as they were at each turn. -/
namespace DL
open PySem PySem.Spec L2 PyProof.Rows
structure ItM (K : PySem.W.Frag) (G : Cd) (M : SL → Prop) (J : It) (its : List D) : Prop where
  stop : ∀ {σ : L2.St} {H F : Hp} {ρ : SL}, Rep K G σ H F ρ → M ρ → J.stop its.length H
  go : ∀ {σ : L2.St} {H F : Hp} {ρ : SL} (i : Nat), i < its.length → Rep K G σ H F ρ → M ρ → J.go i H
  yld : ∀ {σ : L2.St} {H F : Hp} {ρ : SL} (i : Nat) (d : D) (x : V) (H' : Hp), its[i]? = some d → Rep K G σ H F ρ → M ρ → J.yld i H x H' → (H' = H ∧ Den K F x d) ∨ ∃ T xs, H T = none ∧ H' = upd H T (.tup xs) ∧ Den K (upd F T (.tup xs)) x d
theorem ItM.step {K : PySem.W.Frag} {G : Cd} {M : SL → Prop} {J : It} {its : List D} (IT : ItM K G M J its) {σ : L2.St} {H F : Hp} {ρ : SL} {i : Nat} {d : D} {x : V} {H' : Hp} (hi : its[i]? = some d) (R : Rep K G σ H F ρ) (m : M ρ) (y : J.yld i H x H') :
    ∃ F3, Same F F3 ∧ Rep K G σ H' F3 ρ ∧ Den K F3 x d ∧ ∀ v c, RDen K G σ ρ H F v (.fr c) → RDen K G σ ρ H' F3 v (.fr c) := by
  rcases IT.yld i d x H' hi R m y with ⟨rfl, dd⟩ | ⟨T, xs, hT, rfl, dd⟩
  · exact ⟨F, Same.refl _, R, dd, fun _ _ h => h⟩
  · obtain ⟨s1, R1⟩ := R.alloc (o := .tup xs) hT
    refine ⟨_, s1, R1, dd, fun v c h => ?_⟩
    obtain ⟨q, e, a1, a2, a3, n⟩ := h
    obtain ⟨o', ho⟩ := a1.ex
    have ne : q ≠ T := fun z => by subst z; rw [hT] at ho; cases ho
    exact ⟨q, e, (a1.mono s1).at (upd_ne ne), by rw [upd_ne ne]; exact a2, a3, n⟩
theorem ItD.toM {K : PySem.W.Frag} {G : Cd} {M : SL → Prop} {J : It} {its : List D} (h : ItD K G J its) : ItM K G M J its :=
  ⟨fun R _ => h.stop R, fun i hi R _ => h.go i hi R, fun i d x H' hi R _ y => h.yld i d x H' hi R y⟩
abbrev TSrcM := SL → (List D → (SL → Prop) → SL → Prop) → Prop
structure DIm (X : Cx) (tg iter : Expr) (wi : TI) (t : TSrcM) : Prop where
  pe : PI X tg iter wi
  sem : ∀ {G : Cd} {σ : L2.St} {H F : Hp} {ρ : SL} {Q : It → Hp → Prop} {Qd : List D → (SL → Prop) → SL → Prop}, Rep X.K G σ H F ρ → t ρ Qd →
    (∀ its M ρ' J H' F', Qd its M ρ' → Same F F' → Rep X.K G σ H' F' ρ' → (∀ G' : Cd, G'.F0 = F' → G'.b = G.b → ItM X.K G' M J its) → Q J H') → wi σ H Q
/-- the j-th argument, lent, is the list ds -/
def Held (j : Nat) (ds : List D) (ρ : SL) : Prop := ∃ i : Nat, ρ[i]? = some (.bw j (.l ds))
section
variable {K : PySem.W.Frag}
theorem itm_list {G : Cd} {j : Nat} {p : Addr} {ds : List D} (hb : G.b j = some p) : ItM K G (Held j ds) (Itl K p) ds := by
  have hH : ∀ {σ : L2.St} {H F : Hp} {ρ : SL}, Rep K G σ H F ρ → Held j ds ρ → ∃ xs, H p = some (.lst xs) ∧ DenL K F xs ds := fun R ⟨i, e⟩ => by
    obtain ⟨q, _, ⟨xs, h1, h2⟩, _, e2⟩ := R.bw i j _ e
    rw [hb] at e2; cases e2
    exact ⟨xs, h1, h2⟩
  refine ⟨fun R m => ?_, fun i hi R m => ?_, fun i d x H' hi R m y => ?_⟩
  · obtain ⟨xs, h1, h2⟩ := hH R m
    exact ⟨xs, .inl (.inl h1), by rw [h2.length]; exact Nat.le_refl _⟩
  · obtain ⟨xs, h1, h2⟩ := hH R m
    rw [← h2.length] at hi
    exact ⟨xs, xs[i], .inl (.inl h1), List.getElem?_eq_getElem hi⟩
  · obtain ⟨xs, h1, h2⟩ := hH R m
    obtain ⟨rfl, y⟩ := y
    obtain ⟨d', e, dd⟩ := h2.get' (y xs (.inl (.inl h1)))
    rw [hi] at e; cases e
    exact .inl ⟨rfl, dd⟩
theorem itm_enum {G : Cd} {j : Nat} {p : Addr} {ds : List D} (hb : G.b j = some p) : ItM K G (Held j ds) (Ite K p) (enumD ds) := by
  have hH : ∀ {σ : L2.St} {H F : Hp} {ρ : SL}, Rep K G σ H F ρ → Held j ds ρ → ∃ xs, H p = some (.lst xs) ∧ DenL K F xs ds := fun R ⟨i, e⟩ => by
    obtain ⟨q, _, ⟨xs, h1, h2⟩, _, e2⟩ := R.bw i j _ e
    rw [hb] at e2; cases e2
    exact ⟨xs, h1, h2⟩
  refine ⟨fun R m => ?_, fun i hi R m => ?_, fun {σ H F ρ} i d x H' hi R m y => ?_⟩
  · obtain ⟨xs, h1, h2⟩ := hH R m
    exact ⟨xs, .inl (.inl h1), by rw [h2.length]; unfold enumD; rw [List.length_mapIdx]; exact Nat.le_refl _⟩
  · obtain ⟨xs, h1, h2⟩ := hH R m
    unfold enumD at hi
    rw [List.length_mapIdx, ← h2.length] at hi
    exact ⟨xs, xs[i], .inl (.inl h1), List.getElem?_eq_getElem hi⟩
  · obtain ⟨xs, h1, h2⟩ := hH R m
    obtain ⟨T, z, rfl, nT, rfl, y⟩ := y
    obtain ⟨d', e, dd⟩ := h2.get' (y xs (.inl (.inl h1)))
    unfold enumD at hi
    rw [List.getElem?_mapIdx, e] at hi
    cases hi
    obtain ⟨s1, R1⟩ := R.alloc (o := .tup [.int (i : Nat), z]) nT
    exact .inr ⟨T, _, nT, rfl, .tup upd_same (.cons (.int _) (.cons (dd.mono s1) .nil))⟩
end
section
variable {X : Cx} {tg : Expr}
def srcM (t : TSrc) : TSrcM := fun ρ Q => t ρ fun its ρ' => Q its (fun _ => True) ρ'
theorem dim_of {iter : Expr} {wi : TI} {t : TSrc} (h : DI X tg iter wi t) : DIm X tg iter wi (srcM t) :=
  ⟨h.pe, fun R q k => h.sem R q fun its ρ' J H' F' qd s1 R1 hJ => k _ _ _ _ _ _ qd s1 R1 fun G' e _ => (hJ G' e).toM⟩
def srcVM (i : Nat) : TSrcM := fun ρ Q => match ρ[i]? with
  | some (.sh d) => match itsOf d with
    | some l => Q l (fun _ => True) ρ
    | none => False
  | some (.bw j (.l ds)) => Q ds (Held j ds) ρ
  | some (.ow c) => match itsOf c.dat with
    | some l => Q l (fun _ => True) (ρ.set i (.sh c.dat))
    | none => False
  | _ => False
theorem dim_var {i : Nat} {x : Str} {pos : Pos} (h : PE X (.Name x pos) (tVar i)) : DIm X tg (.Name x pos) (iAny X.K (tVar i)) (srcVM i) := by
  refine ⟨pi_any h, fun {G σ H F ρ Q Qd} R q k => ?_⟩
  have shd : ∀ {F : Hp} {ρ : SL} (d : D) (v : V), Rep X.K G σ H F ρ → σ[i]? = some (some v) → Den X.K F v d → (match itsOf d with | some l => Qd l (fun _ => True) ρ | none => False) →
      (∀ its M ρ' J H' F', Qd its M ρ' → Same F F' → Rep X.K G σ H' F' ρ' → (∀ G' : Cd, G'.F0 = F' → G'.b = G.b → ItM X.K G' M J its) → Q J H') → iAny X.K (tVar i) σ H Q := fun {F ρ} d v R a b q k => by
    refine ⟨v, a, ?_⟩
    cases d with
    | lst l => cases b with
      | lst c b => exact .inl ⟨_, rfl, ⟨_, .inl (.inl (R.ext _ _ c))⟩, k l _ _ _ _ _ q (Same.refl _) R fun G' e _ => (itd_list fun R3 => by subst e; exact ⟨R3.ext _ _ (R3.fr0 _ _ c), b.mono R3.fr0⟩).toM⟩
    | tup l => cases b with
      | tup c b => exact .inr (.inl ⟨_, rfl, ⟨_, .inl (.inl (R.ext _ _ c))⟩, k l _ _ _ _ _ q (Same.refl _) R fun G' e _ => by subst e; exact (itd_tup c b).toM⟩)
    | str z => cases b with
      | str _ c => exact .inr (.inr ⟨z, rfl, k _ _ _ _ _ _ q (Same.refl _) R fun G' e _ => (itd_str c).toM⟩)
    | _ => exact q.elim
  unfold srcVM at q
  split at q
  · rename_i d hd
    obtain ⟨v, a, b⟩ := R.sh i d hd
    exact shd d v R a b q k
  · rename_i j ds hd
    obtain ⟨p, a, ⟨xs, h1, h2⟩, _, hb⟩ := R.bw i j _ hd
    exact ⟨_, a, .inl ⟨p, rfl, ⟨xs, .inl (.inl h1)⟩, k ds _ _ _ _ _ q (Same.refl _) R fun G' _ e => itm_list (by rw [e]; exact hb)⟩⟩
  · rename_i c hd
    obtain ⟨F', v, s1, a, b, R1⟩ := R.freeze hd
    exact shd c.dat v R1 a b q fun its M ρ' J H' F2 qd s2 R2 hJ => k _ _ _ _ _ _ qd (s1.trans s2) R2 hJ
  · exact q.elim
def srcEnumM (i : Nat) : TSrcM := fun ρ Q => match ρ[i]? with
  | some (.sh (.lst l)) => Q (enumD l) (fun _ => True) ρ
  | some (.bw j (.l ds)) => Q (enumD ds) (Held j ds) ρ
  | some (.ow (.l l)) => Q (enumD l) (fun _ => True) (ρ.set i (.sh (.lst l)))
  | _ => False
theorem dim_enum {i : Nat} {x : Str} {px p pos tpos : Pos} {elts : List Expr} {kk : Nat} (hg : Gl X "enumerate") (hm : X.mg "enumerate" = none) (h : PE X (.Name x px) (tVar i)) (hs : starEach [.Name x px] X.env = [(false, eval (.Name x px) X.env)] := by rfl) :
    DIm X (.Tuple elts kk tpos) (.Call (.Name "enumerate" p) [.Name x px] [] pos) (iEnum X.K (tCons (tVar i) tNil)) (srcEnumM i) := by
  refine ⟨pi_enum hg hm (pa_cons h pa_nil hs) hs, fun {G σ H F ρ Q Qd} R q k => ?_⟩
  unfold srcEnumM at q
  split at q
  · rename_i l hd
    obtain ⟨v, a, b⟩ := R.sh i _ hd
    cases b with
    | lst c b => exact ⟨_, a, _, _, rfl, .inl (.inl (R.ext _ _ c)), k _ _ _ _ _ _ q (Same.refl _) R fun G' e _ => (itd_enum fun R3 => by subst e; exact ⟨R3.ext _ _ (R3.fr0 _ _ c), b.mono R3.fr0⟩).toM⟩
  · rename_i j ds hd
    obtain ⟨p, a, ⟨xs, h1, h2⟩, _, hb⟩ := R.bw i j _ hd
    exact ⟨_, a, _, _, rfl, .inl (.inl h1), k _ _ _ _ _ _ q (Same.refl _) R fun G' _ e => itm_enum (by rw [e]; exact hb)⟩
  · rename_i l hd
    obtain ⟨F', v, s1, a, b, R1⟩ := R.freeze hd
    have b : Den X.K F' v (.lst l) := b
    cases b with
    | lst c b => exact ⟨_, a, _, _, rfl, .inl (.inl (R1.ext _ _ c)), k _ _ _ _ _ _ q s1 R1 fun G' e _ => (itd_enum fun R3 => by subst e; exact ⟨R3.ext _ _ (R3.fr0 _ _ c), b.mono R3.fr0⟩).toM⟩
  · exact q.elim
def forLM (M : SL → Prop) (g : TGd) (b : TSD) (E : EndsD) : List D → SL → Prop
  | [], ρ => M ρ ∧ E.nx ρ
  | d :: r, ρ => M ρ ∧ g d ρ fun ρ1 => b { nx := forLM M g b E r, rt := E.rt, bk := E.nx, ct := forLM M g b E r, xc := E.xc } ρ1
def sForM (t : TSrcM) (g : TGd) (b : TSD) : TSD := fun E ρ => t ρ fun its M ρ' => forLM M g b E its ρ'
theorem ds_forM {iter : Expr} {body : List Stmt} {ws : List Nat} {wi : TI} {g : TG} {tb : TS} {t : TSrcM} {gd : TGd} {b : TSD} {pos : Pos} (hp : PassesOwn (model X.prog X.w) X.A X.env X.xe) (hc : X.calm = true) (hi : DIm X tg iter wi t) (hg : DG X tg ws g gd) (hb : DSs X body tb b)
    (hs : ∀ x, foldedSetIterable iter X.env x = pure x := by intro _; rfl) : DS X (.For tg iter body [] pos) (tFor wi g tb) (sForM t gd b) := by
  refine ⟨ps_for hp hc hi.pe hg.pe hb.pe hs, fun {G σ H F ρ D E} R q L => hi.sem R q fun its M ρ' J H1 F1 qd s1 R1 hJ => ?_⟩
  have IT := hJ (G.at F1) rfl rfl
  have L' := L.at R1
  have ml : ∀ {l : List DL.D} {ρ : SL}, forLM M gd b E l ρ → M ρ := fun {l ρ} h => by cases l <;> exact h.1
  refine ⟨fun i m σ H => m = its.length - i ∧ i ≤ its.length ∧ ∃ F ρ, Rep X.K (G.at F1) σ H F ρ ∧ forLM M gd b E (its.drop i) ρ, ⟨_, rfl, Nat.zero_le _, F1, ρ', R1.rebase, qd⟩, ?_⟩
  rintro i m σ2 H2 ⟨rfl, hi, F2, ρ2, R2, q2⟩
  have hM := ml q2
  by_cases hlt : i < its.length
  · refine .inr ⟨IT.go i hlt R2 hM, fun σ H => ∃ F ρ, Rep X.K (G.at F1) σ H F ρ ∧ forLM M gd b E (its.drop (i + 1)) ρ, fun σ' H' ⟨F, ρ, h1, h2⟩ => ⟨its.length - (i + 1), by omega, rfl, hlt, F, ρ, h1, h2⟩, fun x H' y => ?_⟩
    have hd := List.getElem?_eq_getElem hlt
    rw [drop_get hd] at q2
    obtain ⟨F3, s3, R3, d3, _⟩ := IT.step hd R2 hM y
    refine hg.sem R3 d3 q2.2 fun ρ4 σ4 q4 R4 _ => ?_
    exact hb.sem R4 q4 ⟨fun σ H F ρ q R => ⟨F, ρ, R, q⟩, L'.rt, fun σ H F ρ q R => L'.nx σ H F ρ q R, fun σ H F ρ q R => ⟨F, ρ, R, q⟩, L'.xc⟩
  · have e : i = its.length := by omega
    subst e
    rw [List.drop_length] at q2
    exact .inl ⟨IT.stop R2 hM, L'.nx _ _ _ _ q2.2 R2⟩
/-- the rule for a loop with a statement about turns -/
theorem forLM_ix {M : SL → Prop} {g : TGd} {b : TSD} {E : EndsD} (I : Nat → SL → Prop) {l : List D} {ρ : SL} (hI : I 0 ρ) (hM : ∀ i ρ, I i ρ → M ρ) (h0 : ∀ ρ, I l.length ρ → E.nx ρ)
    (hs : ∀ (i : Nat) (d : D) (ρ : SL) (N : SL → Prop), l[i]? = some d → (∀ ρ', I (i + 1) ρ' → N ρ') → I i ρ → g d ρ fun ρ1 => b { nx := N, rt := E.rt, bk := E.nx, ct := N, xc := E.xc } ρ1) : forLM M g b E l ρ := by
  suffices h : ∀ (r : List D) (i : Nat) (ρ : SL), i + r.length = l.length → l.drop i = r → I i ρ → forLM M g b E r ρ from h l 0 ρ (by simp) rfl hI
  intro r
  induction r with
  | nil =>
    intro i ρ e e2 h
    have : i = l.length := by simpa using e
    subst this
    exact ⟨hM _ _ h, h0 _ h⟩
  | cons d r ih =>
    intro i ρ e e2 h
    have hi : i < l.length := by rw [List.length_cons] at e; omega
    have hd : l[i]? = some d := by
      have := congrArg (fun x => x[0]?) e2
      simpa using this
    have hr : l.drop (i + 1) = r := by
      have := congrArg List.tail e2
      simpa using this
    exact ⟨hM _ _ h, hs i d ρ _ hd (fun ρ' h' => ih (i + 1) ρ' (by rw [List.length_cons] at e; omega) hr h') h⟩
/-! ### comprehensions over lists that are lent -/
def lcLM (M : SL → Prop) (g : TGd) (tt : TB) (te : TD) (vs : List Nat) (Q : List D → SL → Prop) : List D → List D → SL → Prop
  | [], acc, ρ => M ρ ∧ Q acc ρ
  | d :: r, acc, ρ => M ρ ∧ g d ρ fun ρ1 => tt ρ1 fun b ρ2 => if b = true then te ρ2 fun rv ρ3 => acc.length < sizeLine ∧ lcLM M g tt te vs Q r (acc ++ [rv.dat]) (wipeD ρ3 vs) else lcLM M g tt te vs Q r acc (wipeD ρ2 vs)
def dLcM (t : TSrcM) (g : TGd) (tt : TB) (te : TD) (vs : List Nat) : TD := fun ρ Q => t ρ fun its M ρ' => lcLM M g tt te vs (fun acc ρ2 => Q (.fr (.l acc)) (wipeD ρ2 vs)) its [] (wipeD ρ' vs)
theorem sem_lcM {elt iter : Expr} {ifs : List Expr} {scope : Scope} {ws : List Nat} {wi : TI} {g : TG} {tt : TT} {te : TE} {t : TSrcM} {gd : TGd} {dt : TB} {de : TD}
    (hi : DIm X tg iter wi t)
    (hg : ∀ (s : Shared) (H : Hp) (C : Addr) (cl : List (Str × Addr)) (fp : List Addr), DG (X.blk s H scope (compEnvC scope cl C X.env) fp) tg ws g gd) (ht : ∀ (s : Shared) (H : Hp) (C : Addr) (cl : List (Str × Addr)) (fp : List Addr), DTs (X.blk s H scope (compEnvC scope cl C X.env) fp) ifs tt dt)
    (he : ∀ (s : Shared) (H : Hp) (C : Addr) (cl : List (Str × Addr)) (fp : List Addr), DE (X.blk s H scope (compEnvC scope cl C X.env) fp) elt te de) (s0 : Shared)
    {G : Cd} {σ : L2.St} {H F : Hp} {ρ : SL} {Q : VK} {Qd : Rv → SL → Prop} (R : Rep X.K G σ H F ρ) (q : dLcM t gd dt de ws ρ Qd)
    (k : ∀ r ρ' v H' F', Qd r ρ' → Same F F' → Rep X.K G σ H' F' ρ' → RDen X.K G σ ρ' H' F' v r → Q v H') : tLc wi g tt te ws σ H Q := by
  refine hi.sem R q fun its M ρ' J H1 F1 qd s1 R1 hJ D hD => ?_
  have IT := hJ (G.now σ ρ' H1 F1) rfl rfl
  have hG := hg s0 H 0 [] []
  have hT := ht s0 H 0 [] []
  have hE := he s0 H 0 [] []
  have ml : ∀ {l acc : List DL.D} {ρ : SL} {Q : List DL.D → SL → Prop}, lcLM M gd dt de ws Q l acc ρ → M ρ := fun {l acc ρ Q} h => by cases l <;> exact h.1
  obtain ⟨RD, rd0⟩ := R1.now.allocFr hD (o := .lst []) (c := .l []) ⟨_, upd_same, .nil⟩
  refine ⟨fun i m H => m = its.length - i ∧ i ≤ its.length ∧ ∃ F ρ acc, Rep X.K (G.now σ ρ' H1 F1) (L2.wipe σ ws) H F ρ ∧ RDen X.K (G.now σ ρ' H1 F1) (L2.wipe σ ws) ρ H F (.ref D) (.fr (.l acc)) ∧
    lcLM M gd dt de ws (fun acc ρ2 => Qd (.fr (.l acc)) (wipeD ρ2 ws)) (its.drop i) acc ρ, ⟨_, rfl, Nat.zero_le _, F1, wipeD ρ' ws, [], RD.wipe ws, rd0.wipe ws, qd⟩, ?_⟩
  rintro i m H2 ⟨rfl, hle, F2, ρ2, acc, R2, rd2, q2⟩
  have hM := ml q2
  by_cases hlt : i < its.length
  · refine .inr ⟨IT.go i hlt R2 hM, fun H => ∃ F ρ acc, Rep X.K (G.now σ ρ' H1 F1) (L2.wipe σ ws) H F ρ ∧ RDen X.K (G.now σ ρ' H1 F1) (L2.wipe σ ws) ρ H F (.ref D) (.fr (.l acc)) ∧
      lcLM M gd dt de ws (fun acc ρ2 => Qd (.fr (.l acc)) (wipeD ρ2 ws)) (its.drop (i + 1)) acc ρ, fun H' h => ⟨its.length - (i + 1), by omega, rfl, hlt, h⟩, fun x H3 y => ?_⟩
    have hd := List.getElem?_eq_getElem hlt
    rw [drop_get hd] at q2
    obtain ⟨F3, s3, R3, d3, hr⟩ := IT.step hd R2 hM y
    have rd3 := hr _ _ rd2
    refine hG.sem R3.now d3 q2.2 fun ρ4 σ4 q4 R4 w4 => ⟨w4.trans (wipe_twice σ ws), ?_⟩
    refine hT.sem R4 q4 fun b ρ5 H5 F5 q5 s5 R5 => ?_
    cases b with
    | false =>
      rw [if_neg Bool.false_ne_true] at q5 ⊢
      have R6 := R3.back R5
      have rd6 := rd3.hold R3 R5
      refine ⟨F5, wipeD ρ5 ws, acc, ?_, ?_, q5⟩
      · have := R6.wipe ws; rw [w4, wipe_twice] at this; exact this
      · have := rd6.wipe ws; rw [w4, wipe_twice] at this; exact this
    | true =>
      rw [if_pos rfl] at q5 ⊢
      refine hE.sem R5 q5 fun r ρ6 v H6 F6 q6 s6 R6 rd6 => ?_
      obtain ⟨F7, s7, R7, d7⟩ := R6.share rd6
      have R8 := R3.back R7
      have rd8 := rd3.hold R3 R7
      obtain ⟨p, e, ⟨xs, e1, e2⟩, a2, a3, a4⟩ := id rd8
      cases e
      obtain ⟨R9, rd9⟩ := R8.writeFr (o := .lst (xs ++ [v])) (c' := .l (acc ++ [r.dat])) rd8 ⟨_, upd_same, e2.append (.cons d7 .nil)⟩
      refine ⟨xs, e1, by rw [e2.length]; exact q6.1, F7, wipeD ρ6 ws, acc ++ [r.dat], ?_, ?_, q6.2⟩
      · have := R9.wipe ws; rw [w4, wipe_twice] at this; exact this
      · have := rd9.wipe ws; rw [w4, wipe_twice] at this; exact this
  · have e : i = its.length := by omega
    subst e
    rw [List.drop_length] at q2
    exact .inl ⟨IT.stop R2 hM, k _ _ _ _ _ q2.2 (s1.trans R2.fr0) (R1.back R2.unwipe) (RDen.back R1 rd2.unwipe)⟩
theorem de_lcM {elt iter : Expr} {ifs : List Expr} {scope : Scope} {own : List (Str × Nat)} {pos : Pos} {wi : TI} {g : Bk TG} {tt : Bk TT} {te : Bk TE} {t : TSrcM} {gd : TGd} {dt : TB} {de : TD} (hc : X.calm = true) (hN : X.N.Nodup)
    (hi : DIm X tg iter wi t) (ok : BlkOk X.N X.env.scope scope own)
    (hg : ∀ (s : Shared) (H : Hp) (C : Addr) (cl : List (Str × Addr)) (fp : List Addr), DG (X.blk s H scope (compEnvC scope cl C X.env) fp) tg (own.map (·.2)) (g s H C cl fp) gd)
    (ht : ∀ (s : Shared) (H : Hp) (C : Addr) (cl : List (Str × Addr)) (fp : List Addr), DTs (X.blk s H scope (compEnvC scope cl C X.env) fp) ifs (tt s H C cl fp) dt)
    (he : ∀ (s : Shared) (H : Hp) (C : Addr) (cl : List (Str × Addr)) (fp : List Addr), DE (X.blk s H scope (compEnvC scope cl C X.env) fp) elt (te s H C cl fp) de)
    (eg : ∀ s H C cl fp, g s H C cl fp = g X.s_0 (fun _ => none) 0 [] [] := by intros; rfl) (et : ∀ s H C cl fp, tt s H C cl fp = tt X.s_0 (fun _ => none) 0 [] [] := by intros; rfl) (ee : ∀ s H C cl fp, te s H C cl fp = te X.s_0 (fun _ => none) 0 [] [] := by intros; rfl)
    (hs : ∀ x, foldedSetIterable iter X.env x = pure x := by intro _; rfl) :
    DE X (.ListComp elt [⟨tg, iter, ifs, 0⟩] scope pos) (tLc wi (g X.s_0 (fun _ => none) 0 [] []) (tt X.s_0 (fun _ => none) 0 [] []) (te X.s_0 (fun _ => none) 0 [] []) (own.map (·.2))) (dLcM t gd dt de (own.map (·.2))) :=
  have hg' := fun s H C cl fp => (eg s H C cl fp) ▸ hg s H C cl fp
  have ht' := fun s H C cl fp => (et s H C cl fp) ▸ ht s H C cl fp
  have he' := fun s H C cl fp => (ee s H C cl fp) ▸ he s H C cl fp
  ⟨pe_lc hc hN hi.pe ok (fun s H C cl fp => (hg' s H C cl fp).pe) (fun s H C cl fp => (ht' s H C cl fp).pe) (fun s H C cl fp => (he' s H C cl fp).pe) hs, fun R q k => sem_lcM hi hg' ht' he' X.s_0 R q k⟩
theorem ds_setLcM {i : Nat} {y : Str} {py : Pos} {elt iter : Expr} {ifs : List Expr} {scope : Scope} {own : List (Str × Nat)} {pos spos : Pos} {wi : TI} {g : Bk TG} {tt : Bk TT} {te : Bk TE} {t : TSrcM} {gd : TGd} {dt : TB} {de : TD} (hc : X.calm = true) (hN : X.N.Nodup)
    (hy : X.N[i]? = some y) (hyl : X.env.scope.names.lookup y = some .local)
    (hsw : swapsWith (.ListComp elt [⟨tg, iter, ifs, 0⟩] scope pos) (some (.Name y py)) spos.line X.env = pure true) (hi : DIm X tg iter wi t) (ok : BlkOk X.N X.env.scope scope own)
    (hg : ∀ (s : Shared) (H : Hp) (C : Addr) (cl : List (Str × Addr)) (fp : List Addr), DG (X.blk s H scope (compEnvC scope cl C X.env) fp) tg (own.map (·.2)) (g s H C cl fp) gd)
    (ht : ∀ (s : Shared) (H : Hp) (C : Addr) (cl : List (Str × Addr)) (fp : List Addr), DTs (X.blk s H scope (compEnvC scope cl C X.env) fp) ifs (tt s H C cl fp) dt)
    (he : ∀ (s : Shared) (H : Hp) (C : Addr) (cl : List (Str × Addr)) (fp : List Addr), DE (X.blk s H scope (compEnvC scope cl C X.env) fp) elt (te s H C cl fp) de)
    (eg : ∀ s H C cl fp, g s H C cl fp = g X.s_0 (fun _ => none) 0 [] [] := by intros; rfl) (et : ∀ s H C cl fp, tt s H C cl fp = tt X.s_0 (fun _ => none) 0 [] [] := by intros; rfl) (ee : ∀ s H C cl fp, te s H C cl fp = te X.s_0 (fun _ => none) 0 [] [] := by intros; rfl)
    (hs : ∀ x, foldedSetIterable iter X.env x = pure x := by intro _; rfl) :
    DS X (.Assign [.Name y py] (.ListComp elt [⟨tg, iter, ifs, 0⟩] scope pos) spos) (tAsg (tLc wi (g X.s_0 (fun _ => none) 0 [] []) (tt X.s_0 (fun _ => none) 0 [] []) (te X.s_0 (fun _ => none) 0 [] []) (own.map (·.2))) (gName i)) (sSet i (dLcM t gd dt de (own.map (·.2)))) :=
  have hg' := fun s H C cl fp => (eg s H C cl fp) ▸ hg s H C cl fp
  have ht' := fun s H C cl fp => (et s H C cl fp) ▸ ht s H C cl fp
  have he' := fun s H C cl fp => (ee s H C cl fp) ▸ he s H C cl fp
  ⟨ps_setLc hc hN hy hyl hsw hi.pe ok (fun s H C cl fp => (hg' s H C cl fp).pe) (fun s H C cl fp => (ht' s H C cl fp).pe) (fun s H C cl fp => (he' s H C cl fp).pe) hs, fun R q L =>
    sem_lcM hi hg' ht' he' X.s_0 R q fun r ρ' v H' F' qd s1 R1 rd => by
      obtain ⟨F2, _, R2⟩ := R1.putF rd i
      exact L.nx _ _ _ _ qd R2⟩
/-- a comprehension that changes nothing -/
theorem lcLM_pure {α : Type} (f e : α → D) (p : α → Bool) {M : SL → Prop} {g : TGd} {tt : TB} {te : TD} {vs : List Nat} {Q : List D → SL → Prop} {l : List α} {ρ : SL} (hM : M ρ) (hlen : l.length ≤ 16777216)
    (hs : ∀ x ∈ l, ∀ (N : List D → SL → Prop) (acc : List D), acc.length < 16777216 → (p x = true → N (acc ++ [e x]) ρ) → (p x = false → N acc ρ) →
      g (f x) ρ fun ρ1 => tt ρ1 fun b ρ2 => if b = true then te ρ2 fun rv ρ3 => acc.length < sizeLine ∧ N (acc ++ [rv.dat]) (wipeD ρ3 vs) else N acc (wipeD ρ2 vs))
    (hQ : Q ((l.filter p).map e) ρ) : lcLM M g tt te vs Q (l.map f) [] ρ := by
  suffices h : ∀ (r pre : List α) (acc : List D), pre ++ r = l → acc = (pre.filter p).map e → lcLM M g tt te vs Q (r.map f) acc ρ from h l [] [] rfl rfl
  intro r
  induction r with
  | nil =>
    intro pre acc hp ha
    rw [List.append_nil] at hp
    subst hp; subst ha
    exact ⟨hM, hQ⟩
  | cons x r ih =>
    intro pre acc hp ha
    have hx : x ∈ l := by rw [← hp]; simp
    have hacc : acc.length < 16777216 := by
      subst ha
      rw [List.length_map]
      have h1 := List.length_filter_le p pre
      have h2 := congrArg List.length hp
      rw [List.length_append, List.length_cons] at h2
      omega
    refine ⟨hM, hs x hx (fun acc ρ => lcLM M g tt te vs Q (r.map f) acc ρ) acc hacc (fun hpx => ?_) fun hpx => ?_⟩
    · refine ih (pre ++ [x]) _ (by rw [List.append_assoc]; exact hp) ?_
      rw [ha, List.filter_append, List.map_append, List.filter_cons_of_pos (by exact hpx)]
      rfl
    · refine ih (pre ++ [x]) _ (by rw [List.append_assoc]; exact hp) ?_
      rw [ha, List.filter_append, List.map_append, List.filter_cons_of_neg (by rw [hpx]; decide)]
      simp
end
end DL
/-! A new thing that will stay; what is seen of piles. -/
namespace DL
open PySem PySem.Spec L2 PyProof.Rows
section
variable {X : Cx}
def dFz (t : TD) : TD := fun ρ Q => t ρ fun r ρ1 => Q (.v r.dat) ρ1
theorem de_fz {e : Expr} {te : TE} {t : TD} (h : DE X e te t) : DE X e te (dFz t) :=
  ⟨h.pe, fun R q k => h.sem R q fun r ρ' v H' F' qd s1 R1 rd => by
    obtain ⟨F2, s2, R2, d2⟩ := R1.share rd
    exact k _ _ _ _ _ qd (s1.trans s2) R2 d2⟩
theorem sWhile_go {t : TB} {b : TSD} {E : EndsD} (W : Nat → SL → Prop) {m0 : Nat} {ρ : SL} (hw : W m0 ρ)
    (h : ∀ (m : Nat) (ρ : SL) (N : SL → Prop), (∀ m' ρ', m' < m → W m' ρ' → N ρ') → W m ρ → ∀ T : Bool → SL → Prop, (∀ ρ1, b { nx := N, rt := E.rt, bk := E.nx, ct := N, xc := E.xc } ρ1 → T true ρ1) → (∀ ρ1, E.nx ρ1 → T false ρ1) → t ρ T) : sWhile t b E ρ :=
  sWhile_on W hw fun m ρ N hN hW => h m ρ N hN hW _ (fun ρ1 q => by rw [if_pos rfl]; exact q) (fun ρ1 q => by rw [if_neg (by decide)]; exact q)
/-- the pile is there from the start -/
def sPl0 (g : Nat) (b : TSD) : TSD := fun E ρ => ∃ hs, plOf ρ g = some hs ∧ b E (ρ.set g (.pl hs))
theorem dss_pl0 (g : Nat) {st : List Stmt} {t : TS} {dt : TSD} (h : DSs X st t dt) : DSs X st t (sPl0 g dt) := ⟨h.pe, fun R q L => by
  obtain ⟨hs, e, q⟩ := q
  exact h.sem (R.plHave e) q L⟩
end
theorem ress_strs (hs : Pile) : ∀ l : List Str, D.ress hs (l.map D.str) = l.map D.str
  | [] => by rw [List.map_nil, D.ress]
  | x :: l => by rw [List.map_cons, D.ress, ress_strs hs l]; congr 1
theorem res_strs {hs : Pile} {l : List Str} : D.res hs (.lst (l.map D.str)) = .lst (l.map D.str) := by rw [D.res, ress_strs]
theorem res_at {hs : Pile} {p : Addr} {c : Cn} : D.res ((p, c) :: hs) (.at p) = c.dat := by rw [D.res, List.lookup_cons, beq_self_eq_true]
theorem res_tup {hs : Pile} {l : List D} : D.res hs (.tup l) = .tup (D.ress hs l) := by rw [D.res]
theorem res_lst {hs : Pile} {l : List D} : D.res hs (.lst l) = .lst (D.ress hs l) := by rw [D.res]
theorem ress_nil {hs : Pile} : D.ress hs [] = [] := by rw [D.ress]
theorem ress_cons {hs : Pile} {d : D} {l : List D} : D.ress hs (d :: l) = D.res hs d :: D.ress hs l := by rw [D.ress]
theorem res_int {hs : Pile} {i : Int} : D.res hs (.int i) = .int i := by rw [D.res] <;> (intros; contradiction)
theorem res_str {hs : Pile} {i : Str} : D.res hs (.str i) = .str i := by rw [D.res] <;> (intros; contradiction)
theorem res_bl {hs : Pile} {i : Bool} : D.res hs (.bl i) = .bl i := by rw [D.res] <;> (intros; contradiction)
theorem res_non {hs : Pile} : D.res hs .non = .non := by rw [D.res] <;> (intros; contradiction)
mutual
theorem res_nil : ∀ d : D, D.res [] d = d
  | .at p => by rw [D.res, List.lookup_nil]
  | .lst l => by rw [D.res, ress_nil' l]
  | .tup l => by rw [D.res, ress_nil' l]
  | .dct l => by rw [D.res, resk_nil l]
  | .obj C l => by rw [D.res, reso_nil l]
  | .int _ => res_int
  | .str _ => res_str
  | .bl _ => res_bl
  | .non => res_non
  | .scr _ => by rw [D.res] <;> (intros; contradiction)
  | .rep _ => by rw [D.res] <;> (intros; contradiction)
  | .exc _ _ _ _ _ => by rw [D.res] <;> (intros; contradiction)
  | .unk => by rw [D.res] <;> (intros; contradiction)
theorem ress_nil' : ∀ l : List D, D.ress [] l = l
  | [] => by rw [D.ress]
  | d :: r => by rw [D.ress, res_nil d, ress_nil' r]
theorem resk_nil : ∀ l : List (Key × D), D.resk [] l = l
  | [] => by rw [D.resk]
  | (k, d) :: r => by rw [D.resk, res_nil d, resk_nil r]
theorem reso_nil : ∀ l : List (Str × D), D.reso [] l = l
  | [] => by rw [D.reso]
  | (k, d) :: r => by rw [D.reso, res_nil d, reso_nil r]
end
theorem resk_nil2 {hs : Pile} : D.resk hs [] = [] := by rw [D.resk]
theorem resk_cons {hs : Pile} {k : Key} {d : D} {l : List (Key × D)} : D.resk hs ((k, d) :: l) = (k, D.res hs d) :: D.resk hs l := by rw [D.resk]
theorem reso_nil2 {hs : Pile} : D.reso hs [] = [] := by rw [D.reso]
theorem reso_cons {hs : Pile} {k : Str} {d : D} {l : List (Str × D)} : D.reso hs ((k, d) :: l) = (k, D.res hs d) :: D.reso hs l := by rw [D.reso]
theorem res_dct {hs : Pile} {l : List (Key × D)} : D.res hs (.dct l) = .dct (D.resk hs l) := by rw [D.res]
theorem res_obj {hs : Pile} {C : Addr} {l : List (Str × D)} : D.res hs (.obj C l) = .obj C (D.reso hs l) := by rw [D.res]
theorem ress_map {α : Type} {f : α → D} (hs : Pile) (h : ∀ x, D.res hs (f x) = f x) : ∀ l : List α, D.ress hs (l.map f) = l.map f
  | [] => by rw [List.map_nil, D.ress]
  | x :: l => by rw [List.map_cons, D.ress, h x, ress_map hs h l]
theorem resk_map {α : Type} {k : α → Key} {f : α → D} (hs : Pile) (h : ∀ x, D.res hs (f x) = f x) : ∀ l : List α, D.resk hs (l.map fun x => (k x, f x)) = l.map fun x => (k x, f x)
  | [] => by rw [List.map_nil, D.resk]
  | x :: l => by rw [List.map_cons, D.resk, h x, resk_map hs h l]
theorem res_pair {hs : Pile} {p : Str × Str} : D.res hs (PairD p) = PairD p := by
  unfold PairD
  rw [res_tup, ress_cons, ress_cons, ress_nil, res_str, res_str]
theorem res_pairs {hs : Pile} {l : List (Str × Str)} : D.res hs (.lst (l.map PairD)) = .lst (l.map PairD) := by rw [res_lst, ress_map hs (fun _ => res_pair)]
theorem rep_strs (x : Str) (n : Nat) : (List.replicate n [D.str x]).flatten = (List.replicate n x).map D.str := by rw [List.flatten_replicate_singleton, List.map_replicate]
theorem look_at {hs : Pile} {p : Addr} {c : Cn} : ((p, c) :: hs).lookup p = some c := by rw [List.lookup_cons, beq_self_eq_true]
theorem plSet_at {p : Addr} {c c' : Cn} : plSet [(p, c)] p c' = [(p, c')] := by simp [plSet]
theorem gEq_nil {f : Bool → Bool} {a : List Str} {Q : Rv → Prop} : gEq f (.lst (a.map D.str)) (.lst []) Q = Q (.v (.bl (f (decide (a = []))))) := gEq_strs (b := [])
end DL
/-! list(range(..)); more of dicts. -/
namespace DL
open PySem PySem.Spec L2 PyProof.Rows
/-- the numbers a .. b - 1 -/
def rgD (a b : Int) : List D := (List.range (b - a).toNat).map fun i => D.int (a + (i : Nat))
theorem rgD_length (a b : Int) : (rgD a b).length = (b - a).toNat := by unfold rgD; rw [List.length_map, List.length_range]
theorem denL_ints {K : PySem.W.Frag} {F : Hp} (f : Nat → Int) : ∀ l : List Nat, DenL K F (l.map fun i => V.int (f i)) (l.map fun i => D.int (f i))
  | [] => .nil
  | x :: l => .cons (.int _) (denL_ints f l)
/-! a comprehension inside another -/
theorem lookup_re (c : Str → NameKind → Bool) (x : Str) : ∀ l : List (Str × NameKind), (l.map fun y => if c y.1 y.2 = true then (y.1, NameKind.cell) else (y.1, y.2)).lookup x = (l.lookup x).map fun k => if c x k = true then NameKind.cell else k
  | [] => rfl
  | (n, k) :: l => by
    rw [List.map_cons]
    by_cases e : x = n
    · subst e
      by_cases h : c x k = true
      · simp only [h, if_true, List.lookup_cons, beq_self_eq_true, Option.map_some]
      · simp only [h, Bool.false_eq_true, if_false, List.lookup_cons, beq_self_eq_true, Option.map_some]
    · have e2 : (x == n) = false := beq_eq_false_iff_ne.mpr e
      by_cases h : c n k = true
      · simp only [h, if_true, List.lookup_cons, e2]
        exact lookup_re c x l
      · simp only [h, Bool.false_eq_true, if_false, List.lookup_cons, e2]
        exact lookup_re c x l
theorem blkOk_in {N : List Str} {sc scope : Scope} {own : List (Str × Nat)} {env : Env} (h : blkC N sc scope own = true) : BlkOk N (PySem.relabel sc env) scope own := by
  have b := blkOk_by h
  refine ⟨b.kind, b.uniq, b.ix, fun y hy e => ?_, b.own⟩
  have q := lookup_re (fun n k => k == .free && env.scope.kind == .function && env.kindOf n == some .cell) y.1 sc.names
  have q2 : (PySem.relabel sc env).names.lookup y.1 = (sc.names.lookup y.1).map fun k => if (k == NameKind.free && env.scope.kind == .function && env.kindOf y.1 == some .cell) = true then NameKind.cell else k := q
  rcases b.free y hy e with z | z
  · left
    rw [q2, z]
    rfl
  · rw [q2, z]
    simp only [Option.map_some]
    split
    · exact .inl rfl
    · exact .inr rfl
section
variable {X : Cx}
def dLstRg1 (t : TD) : TD := fun ρ Q => t ρ fun r ρ1 => match r with
  | .v (.int n) => n ≤ 16777216 ∧ -16777216 ≤ n ∧ Q (.fr (.l (rgD 0 n))) ρ1
  | _ => False
theorem de_lstRg1 {a : Expr} {ta : TE} {t : TD} {p pos p2 pos2 : Pos} (hc : X.calm = true) (hg : Gl X "list") (hm : X.mg "list" = none) (hg2 : Gl X "range") (hm2 : X.mg "range" = none) (ha : DE X a ta t)
    (na : starEach [a] X.env = (false, eval a X.env) :: starEach [] X.env := by rfl) (na2 : starEach [.Call (.Name "range" p2) [a] [] pos2] X.env = (false, eval (.Call (.Name "range" p2) [a] [] pos2) X.env) :: starEach [] X.env := by rfl) :
    DE X (.Call (.Name "list" p) [.Call (.Name "range" p2) [a] [] pos2] [] pos) (tLstRg (tRg1 ta)) (dLstRg1 t) :=
  ⟨pe_listRg hc hg hm (prg_1 hg2 hm2 ha.pe na) na2, fun {G σ H F ρ Q Qd} R q k => ha.sem R q fun r ρ1 v H1 F1 q1 s1 R1 rd => by
    unfold dLstRg1 at q
    split at q1
    · rename_i n
      obtain ⟨b1, b2, q1⟩ := q1
      cases rd
      exact ⟨n, rfl, ⟨by omega, by omega, by omega, by omega, by omega⟩, fun p hp => by
        obtain ⟨R2, rd2⟩ := R1.allocFr hp (c := .l (rgD 0 n)) ⟨_, upd_same, denL_ints (fun i => 0 + (i : Nat)) _⟩
        exact k _ _ _ _ _ q1 s1 R2 rd2⟩
    · exact q1.elim⟩
def dLstRg2 (t u : TD) : TD := fun ρ Q => t ρ fun r ρ1 => match r with
  | .v (.int a) => u ρ1 fun r2 ρ2 => match r2 with
    | .v (.int b) => (a ≤ 16777216 ∧ 0 ≤ a ∧ b ≤ 16777216 ∧ 0 ≤ b) ∧ Q (.fr (.l (rgD a b))) ρ2
    | _ => False
  | _ => False
theorem de_lstRg2 {a b : Expr} {ta tb : TE} {t u : TD} {p pos p2 pos2 : Pos} (hc : X.calm = true) (hg : Gl X "list") (hm : X.mg "list" = none) (hg2 : Gl X "range") (hm2 : X.mg "range" = none) (ha : DE X a ta t) (hb : DE X b tb u)
    (na : starEach [a, b] X.env = (false, eval a X.env) :: starEach [b] X.env := by rfl) (nb : starEach [b] X.env = (false, eval b X.env) :: starEach [] X.env := by rfl) (hp : (backTo pos2 (starEach [b] X.env)).any (·.1) = false := by rfl)
    (na2 : starEach [.Call (.Name "range" p2) [a, b] [] pos2] X.env = (false, eval (.Call (.Name "range" p2) [a, b] [] pos2) X.env) :: starEach [] X.env := by rfl) :
    DE X (.Call (.Name "list" p) [.Call (.Name "range" p2) [a, b] [] pos2] [] pos) (tLstRg (tRg2 ta tb)) (dLstRg2 t u) :=
  ⟨pe_listRg hc hg hm (prg_2 hg2 hm2 ha.pe hb.pe na nb hp) na2, fun {G σ H F ρ Q Qd} R q k => ha.sem R q fun r ρ1 v H1 F1 q1 s1 R1 rd => by
    split at q1
    · rename_i a
      cases rd
      refine hb.sem R1 q1 fun r2 ρ2 v2 H2 F2 q2 s2 R2 rd2 => ?_
      split at q2
      · rename_i b
        obtain ⟨⟨b1, b2, b3, b4⟩, q2⟩ := q2
        cases rd2
        exact ⟨a, b, rfl, rfl, ⟨by omega, by omega, by omega, by omega, by omega⟩, fun p hp => by
          obtain ⟨R3, rd3⟩ := R2.allocFr hp (c := .l (rgD a b)) ⟨_, upd_same, denL_ints (fun i => a + (i : Nat)) _⟩
          exact k _ _ _ _ _ q2 (s1.trans s2) R3 rd3⟩
      · exact q2.elim
    · exact q1.elim⟩
end
end DL
/-! Lists of places (natural numbers). -/
namespace DL
open PySem PySem.Spec L2 PyProof.Rows
/-- a place as a datum -/
abbrev NatD (i : Nat) : D := .int (i : Int)
theorem fits_nats : ∀ (n : Nat) (l : List Nat), D.fits n (l.map NatD) = true
  | n, [] => by simp [D.fits]
  | n, x :: r => by rw [List.map_cons, D.fits, fits_nats n r]; cases n <;> simp [D.fit]
theorem nat_any (l : List Nat) (x : Nat) : ((l.map NatD).any fun z => D.eqv z (.int (x : Int))) = decide (x ∈ l) := by
  induction l with
  | nil => simp
  | cons y r ih =>
    rw [List.map_cons, List.any_cons, ih]
    rw [D.eqv]
    simp only [List.mem_cons, Bool.decide_or]
    congr 1
    rw [Bool.eq_iff_iff, beq_iff_eq, decide_eq_true_eq]
    omega
theorem gIn_nats {f : Bool → Bool} {l : List Nat} {x : Nat} {Q : Rv → Prop} (h : Q (.v (.bl (f (decide (x ∈ l)))))) : gIn f (.int (x : Int)) (.lst (l.map NatD)) Q := by
  refine ⟨by simp [D.fit], fits_nats 59 l, ?_⟩
  rw [nat_any]
  exact h
theorem fit_nats (l : List Nat) : D.fit 60 (.lst (l.map NatD)) = true := by rw [D.fit]; exact fits_nats 59 l
theorem eqvs_nats_nil (l : List Nat) : D.eqvs (l.map NatD) [] = decide (l = []) := by cases l <;> simp [D.eqvs]
theorem gEq_nats_nil {f : Bool → Bool} {a : List Nat} {Q : Rv → Prop} : gEq f (.lst (a.map NatD)) (.lst []) Q = Q (.v (.bl (f (decide (a = []))))) := by
  show gEqD f _ _ Q = _
  unfold gEqD
  rw [fit_nats, show D.fit 60 (.lst []) = true by simp [D.fit, D.fits], D.eqv, eqvs_nats_nil]
  simp only [true_and]
def leN (x y : Nat) : Bool := decide (x ≤ y)
theorem leN_iff {x y : Nat} : leN x y = true ↔ x ≤ y := decide_eq_true_iff
theorem D_le_nat (x y : Nat) : D.le (NatD x) (NatD y) = leN x y := by
  have h := PySem.W.dataLe_eq false D.py
  change PySem.W.dataLe false D.py (.int x) (.int y) = _
  rw [h]
  change (!PySem.W.dataLt (D.py (.int y)) (D.py (.int x))) = _
  rw [D.py, D.py]
  have e := congrFun (congrFun (PySem.W.dataLe_int (fun b : Nat => (b : Int))) x) y
  rw [PySem.W.dataLe_eq] at e
  have e' : (!PySem.W.dataLt (.int (y : Int)) (.int (x : Int))) = decide ((x : Int) ≤ (y : Int)) := e
  rw [e']
  exact decide_eq_decide.mpr Int.ofNat_le
theorem mergeSort_nats (xs : List Nat) : (xs.map NatD).mergeSort D.le = (xs.mergeSort leN).map NatD := by
  rw [List.map_mergeSort (s := D.le) (f := NatD) (hl := fun a _ b _ => (D_le_nat a b).symm)]
theorem gSorted_nats {xs : List Nat} {Q : Rv → Prop} : gSortedD [.lst (xs.map NatD)] Q = Q (.fr (.l ((xs.mergeSort leN).map NatD))) := by
  have h1 : D.fits 40 (xs.map NatD) = true := fits_nats 40 xs
  have hm : (xs.map NatD).map D.py = xs.map fun i : Nat => PyData.int (i : Int) := by rw [List.map_map]; apply List.map_congr_left; intro x _; change D.py (.int x) = _; rw [D.py]
  have h2 : PySem.W.AllAlike ((xs.map NatD).map D.py) := by rw [hm]; exact PySem.W.AllAlike.of fun b b' => by simp [PySem.W.alike]
  have h3 : PySem.W.Sortable ((xs.map NatD).map D.py) := by rw [hm]; exact PySem.W.Sortable.others fun b => ⟨by simp, by simp⟩
  change (D.fits 40 (xs.map NatD) = true ∧ PySem.W.AllAlike ((xs.map NatD).map D.py) ∧ PySem.W.Sortable ((xs.map NatD).map D.py) ∧ Q (.fr (.l ((xs.map NatD).mergeSort D.le)))) = _
  rw [mergeSort_nats]
  exact propext ⟨fun z => z.2.2.2, fun z => ⟨h1, h2, h3, z⟩⟩
/-- an ascending list with the same members is the sorted one -/
theorem sorted_nats {l m : List Nat} (h : l.Pairwise (· < ·)) (hm : m.Nodup) (e : ∀ x, x ∈ m ↔ x ∈ l) : m.mergeSort leN = l := by
  have hl : l.Nodup := h.imp fun z => Nat.ne_of_lt z
  have p : m.Perm l := (List.perm_ext_iff_of_nodup hm hl).mpr e
  refine sorted_one (le := leN) (fun x y h1 h2 => Nat.le_antisymm (leN_iff.mp h1) (leN_iff.mp h2)) ((List.mergeSort_perm m leN).trans p) ?_ (h.imp fun z => leN_iff.mpr (Nat.le_of_lt z))
  exact List.pairwise_mergeSort (le := leN) (fun a b c h1 h2 => leN_iff.mpr (Nat.le_trans (leN_iff.mp h1) (leN_iff.mp h2))) (fun a b => by
    rw [Bool.or_eq_true, leN_iff, leN_iff]
    exact Nat.le_total a b) m
theorem smalls_nats : ∀ l : List Nat, (∀ x ∈ l, x ≤ 1000000) → D.smalls (l.map NatD) = true
  | [], _ => by rw [List.map_nil, D.smalls]
  | x :: r, h => by
    rw [List.map_cons, D.smalls, smalls_nats r fun y hy => h y (List.mem_cons_of_mem _ hy), D.small, Bool.and_true, decide_eq_true_eq, Int.natAbs_natCast]
    exact Nat.lt_of_le_of_lt (h x List.mem_cons_self) (by decide)
theorem wts_nats : ∀ l : List Nat, D.wts (l.map NatD) = 252 * l.length
  | [] => by rw [List.map_nil, D.wts, List.length_nil]
  | x :: r => by rw [List.map_cons, D.wts, wts_nats r, D.wt, List.length_cons]; omega
theorem fineE_nats {l : List Nat} (h : l.length ≤ 1000) (hb : ∀ x ∈ l, x ≤ 1000000) : FineE (.lst (l.map NatD)) := by
  refine ⟨fit_nats l, ?_, ?_⟩
  · rw [D.small]; exact smalls_nats l hb
  · rw [D.wt, wts_nats]; omega
end DL
/-! list(enumerate(xs)): a list of pairs. -/
namespace EnL
open PySem PySem.Spec PyProof.Rows L2
theorem en_noLen : typeLookup (.type "enumerate") (Str.ofString "__len__") = pure none := am_miss_of_fast (by decide +kernel)
theorem en_noHint : typeLookup (.type "enumerate") (Str.ofString "__length_hint__") = pure none := am_miss_of_fast (by decide +kernel)
/-- the walk stands at i; the tuple that it gave last is still there -/
def EnSt (h : Heap) (e it l S : Addr) (xs : Array Value) (i : Nat) : Prop :=
  ((∃ old, IsEnum h e it (i : Int) old) ∨ ∃ old T f o, IsEnumHeld h e it (i : Int) old T f ∧ h.get? T = some o ∧ T ≠ e ∧ T ≠ it ∧ T ≠ S) ∧ h.IsListIter it l i ∧ h.IsList l xs
structure Far (e it l S : Addr) : Prop where
  ei : e ≠ it
  le : l ≠ e
  li : l ≠ it
  eS : e ≠ S
  iS : it ≠ S
  lS : l ≠ S
theorem EnSt.keep {h h' : Heap} {e it l S : Addr} {xs : Array Value} {i : Nat} (x : EnSt h e it l S xs i) (D : Far e it l S) (hk : ∀ b o, b ≠ S → h.get? b = some o → h'.get? b = some o) : EnSt h' e it l S xs i := by
  obtain ⟨x1, x2, x3⟩ := x
  refine ⟨?_, x2.at fun o y => hk it o D.iS y, x3.at fun o y => hk l o D.lS y⟩
  rcases x1 with ⟨old, y⟩ | ⟨old, T, f, o, y, z, z1, z2, z3⟩
  · exact .inl ⟨old, hk e _ D.eS y⟩
  · exact .inr ⟨old, T, f, o, hk e _ D.eS y, hk T _ z3 z, z1, z2, z3⟩
section
variable {prog : Program} {w : World} {A : Around} {E : Value → Shared → Prop} {s : Shared} {e it l S : Addr} {xs : Array Value} {i : Nat}
theorem en_item {x : Value} {Q : Option Value → Shared → Prop} (hst : EnSt s.heap e it l S xs i) (D : Far e it l S) (hS : S < s.heap.objs.size) (hx : xs[i]? = some x)
    (hQ : ∀ h', EnSt h' e it l S xs (i + 1) → h'.get? s.heap.objs.size = some { cls := .type "tuple", data := .seq #[.int i s.toks, x] } → (∀ b o, b ≠ e → b ≠ it → s.heap.get? b = some o → h'.get? b = some o) →
      Q (some (.ref s.heap.objs.size)) { s with heap := h', toks := s.toks + 1 }) : wpAny (model prog w) A (pyNext (.ref e)) Q E s := by
  obtain ⟨x1, x2, x3⟩ := hst
  have e1 : ((i + 1 : Nat) : Int) = (i : Int) + 1 := by omega
  rcases x1 with ⟨old, y⟩ | ⟨old, T, f, o, y, z, z1, z2, z3⟩
  · have le : e < s.heap.objs.size := Heap.lt_size y
    have li : it < s.heap.objs.size := by obtain ⟨_, q, _⟩ := x2; exact Heap.lt_size q
    refine wpAny_pyNext_enum_item y x2 x3 hx D.ei fun h' ho hit' hT hsz hk => hQ h' ⟨.inr ⟨x, _, false, _, ?_, hT, Nat.ne_of_gt le, Nat.ne_of_gt li, Nat.ne_of_gt hS⟩, hit', x3.at fun o q => hk l o D.le D.li q⟩ hT hk
    rw [e1]; exact ho
  · refine wpAny_pyNext_enum_item_held y z z1 z2 x2 x3 hx D.ei fun h' ho hit' hT hsz hk => hQ h' ⟨.inr ⟨old, T, true, o, ?_, hk T o z1 z2 z, z1, z2, z3⟩, hit', x3.at fun o q => hk l o D.le D.li q⟩ hT hk
    rw [e1]; exact ho
theorem en_done {Q : Option Value → Shared → Prop} (hh : A.handled = none) (hst : EnSt s.heap e it l S xs i) (hx : xs[i]? = none) (hQ : ∀ h', Heap.ExtBut it s.heap h' → Q none { s with heap := h' }) : wpAny (model prog w) A (pyNext (.ref e)) Q E s := by
  obtain ⟨x1, x2, x3⟩ := hst
  rcases x1 with ⟨old, y⟩ | ⟨old, T, f, o, y, _⟩
  · exact wpAny_pyNext_enum_end hh y x2 x3 hx hQ
  · exact wpAny_pyNext_enum_end_held hh y x2 x3 hx hQ
end
/-- the addresses as hold the pairs of number and item -/
structure EnG (xs : Array Value) (lo : Addr) (h : Heap) (as : List Addr) : Prop where
  up : as.Pairwise (· < ·)
  lo : ∀ a ∈ as, lo < a
  tup : ∀ (j : Nat) (a : Addr), as[j]? = some a → ∃ t x, xs[j]? = some x ∧ h.get? a = some { cls := .type "tuple", data := .seq #[.int j t, x] }
theorem EnG.lt {xs : Array Value} {lo : Addr} {h : Heap} {as : List Addr} (g : EnG xs lo h as) {a : Addr} (ha : a ∈ as) : a < h.objs.size := by
  obtain ⟨j, hj⟩ := List.mem_iff_getElem?.mp ha
  obtain ⟨_, _, _, q⟩ := g.tup j a hj
  exact Heap.lt_size q
theorem EnG.low {xs : Array Value} {lo lo' : Addr} {h : Heap} {as : List Addr} (g : EnG xs lo h as) (q : lo' ≤ lo) : EnG xs lo' h as := ⟨g.up, fun a ha => Nat.lt_of_le_of_lt q (g.lo a ha), g.tup⟩
section
variable {prog : Program} {w : World} {A : Around} {s : Shared} {R : Result → Shared → Prop} {e it l S : Addr} {xs : Array Value}
theorem en_loop (hh : A.handled = none) (D : Far e it l S) (hiS : it < S) (heS : e < S) (hn : xs.size ≤ sizeLine) (res : Value) {h₁ : Heap}
    (hR : ∀ h' tk acc c as, (∀ b o, b ≠ S → b ≠ e → b ≠ it → h₁.get? b = some o → h'.get? b = some o) → h'.get? S = some { cls := .type "list", dict := none, data := .seq acc c, slots := #[] } → as.length = xs.size → EnG xs S h' as → acc.toList = as.map Value.ref →
      R (.ok (.ret res)) { s with heap := h', toks := tk }) :
    ∀ (k i : Nat) (h : Heap) (tk c : Nat) (acc : Array Value) (as : List Addr), xs.size - i = k → i ≤ xs.size → EnSt h e it l S xs i → (∀ b o, b ≠ S → b ≠ e → b ≠ it → h₁.get? b = some o → h.get? b = some o) →
      h.get? S = some { cls := .type "list", dict := none, data := .seq acc c, slots := #[] } → acc.toList = as.map Value.ref → as.length = i → EnG xs S h as →
      codeAny (model prog w) A (.builtin "list.extend.loop" ⟨[.ref S, .ref e, res], []⟩) R { s with heap := h, toks := tk } := by
  intro k
  induction k with
  | zero =>
    intro i h tk c acc as hk hi hst keep hS hacc hal g
    have hin : i = xs.size := by omega
    have hxs : xs[i]? = none := Array.getElem?_eq_none (Nat.le_of_eq hin.symm)
    have hal' : as.length = xs.size := hal.trans hin
    refine codeAny_builtin PySem.F.entry_extend_loop (by
      rw [Around.under_plainId PySem.F.plain_extend_loop _]
      refine wpAny_bind (en_done (s := { s with heap := h, toks := tk }) (A := A.in1) hh hst hxs fun h' hb => wpAny_pure (hR h' tk acc c as (fun b o h1 h2 h3 q => hb b o h3 (keep b o h1 h2 h3 q)) (hb S _ (Ne.symm D.iS) hS) hal' ⟨g.up, g.lo, fun j a hj => ?_⟩ hacc))
      obtain ⟨t, x, e1, e2⟩ := g.tup j a hj
      exact ⟨t, x, e1, hb a _ (Nat.ne_of_gt (Nat.lt_trans hiS (g.lo a (List.mem_of_getElem? hj)))) e2⟩)
  | succ k ih =>
    intro i h tk c acc as hk hi hst keep hS hacc hal g
    have hlt : i < xs.size := by omega
    have hsz : acc.size = i := by rw [← Array.length_toList, hacc, List.length_map, hal]
    have hSl : S < h.objs.size := Heap.lt_size hS
    refine codeAny_builtin PySem.F.entry_extend_loop ?_; rw [Around.under_plainId PySem.F.plain_extend_loop _]
    refine wpAny_bind (en_item (s := { s with heap := h, toks := tk }) hst D hSl (Array.getElem?_eq_getElem hlt) fun h' st' ht kp => ?_)
    dsimp only at ht kp ⊢
    have hS' := kp S _ (Ne.symm D.eS) (Ne.symm D.iS) hS
    have up : ∀ b o, b ≠ S → h'.get? b = some o → (h'.update S (Obj.mapSeq (·.push (Value.ref h.objs.size)))).get? b = some o := fun b o hb q => (Heap.get?_update_other _ _ (Ne.symm hb)).trans q
    have ab : ∀ b ∈ as, b ≠ e ∧ b ≠ it ∧ b ≠ S := fun b hb => ⟨Nat.ne_of_gt (Nat.lt_trans heS (g.lo b hb)), Nat.ne_of_gt (Nat.lt_trans hiS (g.lo b hb)), Nat.ne_of_gt (g.lo b hb)⟩
    have ht' := up _ _ (Nat.ne_of_gt hSl) ht
    show wpAny _ A.in1 (updateSeq S (fun ys => ys.push (Value.ref h.objs.size)) >>= _) _ _ _
    refine wpAny_bind (wpAny_updateSeq hS' rfl (wpAny_pure ⟨plainId_quiet PySem.F.plain_extend_loop _, ih (i + 1) _ (tk + 1) _ (acc.push (Value.ref h.objs.size)) (as ++ [h.objs.size]) (by omega) hlt (st'.keep D up)
      (fun b o h1 h2 h3 q => up b o h1 (kp b o h2 h3 (keep b o h1 h2 h3 q))) (Heap.get?_update_self _ hS' rfl) (by rw [Array.toList_push, hacc, List.map_append]; rfl) (by rw [List.length_append, hal]; rfl) ⟨?_, ?_, ?_⟩⟩) (by rw [hsz]; omega) (by show (acc.push (Value.ref h.objs.size)).size ≤ sizeLine + 1; rw [Array.size_push, hsz]; omega))
    · refine List.pairwise_append.mpr ⟨g.up, List.pairwise_singleton _ _, fun a ha b hb => by rw [List.mem_singleton.mp hb]; exact g.lt ha⟩
    · intro a ha
      rcases List.mem_append.mp ha with z | z
      · exact g.lo a z
      · rw [List.mem_singleton.mp z]; exact hSl
    · intro j b hj
      rcases Nat.lt_trichotomy j as.length with z | z | z
      · rw [List.getElem?_append_left z] at hj
        obtain ⟨t, x, e1, e2⟩ := g.tup j b hj
        obtain ⟨n1, n2, n3⟩ := ab b (List.mem_of_getElem? hj)
        exact ⟨t, x, e1, up b _ n3 (kp b _ n1 n2 e2)⟩
      · subst z
        have hb : h.objs.size = b := by simpa using hj
        subst hb
        exact ⟨tk, _, by rw [hal]; exact Array.getElem?_eq_getElem hlt, by rw [hal]; exact ht'⟩
      · rw [show (as ++ [h.objs.size])[j]? = none from List.getElem?_eq_none (by rw [List.length_append, List.length_singleton]; omega)] at hj
        cases hj
theorem en_hint {E : Value → Shared → Prop} {Q : Bool → Shared → Prop} (he : s.TypeIs (.ref e) "enumerate") (h : Q true s) : wpAny (model prog w) A (Builtin.List.listLengthHint (.ref e)) Q E s := by
  unfold Builtin.List.listLengthHint
  exact wpAny_bind (wpAny_specialOf he en_noLen (wpAny_bind (wpAny_specialOf he en_noHint (wpAny_pure h))))
theorem en_extend (hh : A.handled = none) (D : Far e it l S) (hiS : it < S) (heS : e < S) (he : IsEnum s.heap e it 0 .none) (hit : s.heap.IsListIter it l 0) (hl : s.heap.IsList l xs) (hn : xs.size ≤ sizeLine) (res : Value) (c₀ : Nat)
    (hS : s.heap.get? S = some { cls := .type "list", data := .seq #[] c₀ })
    (hR : ∀ h' tk acc c as, (∀ b o, b ≠ S → b ≠ e → b ≠ it → s.heap.get? b = some o → h'.get? b = some o) → h'.get? S = some { cls := .type "list", dict := none, data := .seq acc c, slots := #[] } → as.length = xs.size → EnG xs S h' as → acc.toList = as.map Value.ref →
      R (.ok (.ret res)) { s with heap := h', toks := tk }) :
    wpAny (model prog w) A.in1 (Builtin.List.listExtendWith (.ref S) (.ref e) res)
      (fun fin s' => match fin with | .done f => R (.ok f) s' | .again c' => c'.quiet = true ∧ codeAny (model prog w) A c' R s') (fun x s' => R (.error x) s') s := by
  have hT : s.TypeIs (.ref e) "enumerate" := ⟨_, he, rfl⟩
  have key : ∀ (h : Heap) (c₁ : Nat), (∀ b o, b ≠ S → s.heap.get? b = some o → h.get? b = some o) → h.get? S = some { cls := .type "list", data := .seq #[] c₁ } → codeAny (model prog w) A (.builtin "list.extend.loop" ⟨[.ref S, .ref e, res], []⟩) R { s with heap := h } := by
    intro h c₁ hk hS₁
    exact en_loop (h₁ := s.heap) (s := s) hh D hiS heS hn res hR xs.size 0 h s.toks c₁ #[] [] (Nat.sub_zero _) (Nat.zero_le _) ⟨.inl ⟨_, hk e _ D.eS he⟩, hit.at fun o y => hk it o D.iS y, hl.at fun o y => hk l o D.lS y⟩ (fun b o hb _ _ q => hk b o hb q) hS₁ rfl rfl
      ⟨List.Pairwise.nil, (fun _ ha => nomatch ha), (fun j a hj => by simp at hj)⟩
  have q1 : Builtin.List.listSameRef (.ref S) (.ref e) = false := by simp [Builtin.List.listSameRef, Ne.symm D.eS]
  have q2 : (Value.type "enumerate" == Value.type "list") = false := by decide
  have q3 : (Value.type "enumerate" == Value.type "tuple") = false := by decide
  unfold Builtin.List.listExtendWith; refine wpAny_bind (wpAny_typeOf hT ?_)
  simp only [q1, q2, q3, Bool.or_false, Bool.false_eq_true, if_false]
  refine wpAny_bind (wpAny_pyIter_enum he (wpAny_bind (wpAny_holding (en_hint hT ?_))))
  refine wpAny_ite_split (fun _ => ?_) (fun _ => wpAny_pure ⟨plainId_quiet PySem.F.plain_extend_loop _, key s.heap c₀ (fun b o _ q => q) hS⟩)
  refine wpAny_bind (wpAny_rule (wpAny_bind ?_))
  show wpAny _ A.in1 (updateSeq S (·.push .none) >>= fun _ => updateSeq S (·.pop)) _ _ s
  refine wpAny_bind (wpAny_updateSeq hS rfl ?_)
  have hS₂ := Heap.get?_update_self (Obj.mapSeq (·.push Value.none)) hS rfl
  refine wpAny_updateSeq (hz := by seq_fits) hS₂ rfl (wpAny_pure ⟨plainId_quiet PySem.F.plain_extend_loop _, key _ _ (fun b o hb q => ?_) (Heap.get?_update_self (Obj.mapSeq (·.pop)) hS₂ rfl)⟩)
  exact (Heap.get?_update_other _ _ (Ne.symm hb)).trans ((Heap.get?_update_other _ _ (Ne.symm hb)).trans q)
theorem en_init (hh : A.handled = none) (D : Far e it l S) (hiS : it < S) (heS : e < S) (he : IsEnum s.heap e it 0 .none) (hit : s.heap.IsListIter it l 0) (hl : s.heap.IsList l xs) (hn : xs.size ≤ sizeLine)
    (hS : s.heap.get? S = some { cls := .type "list", data := .seq #[] })
    (hR : ∀ h' tk acc c as, (∀ b o, b ≠ S → b ≠ e → b ≠ it → s.heap.get? b = some o → h'.get? b = some o) → h'.get? S = some { cls := .type "list", dict := none, data := .seq acc c, slots := #[] } → as.length = xs.size → EnG xs S h' as → acc.toList = as.map Value.ref →
      R (.ok (.ret .none)) { s with heap := h', toks := tk }) :
    wpAny (model prog w) A.in1 (Builtin.«list.__init__» ⟨[.ref S, .ref e], []⟩)
      (fun fin s' => match fin with | .done f => R (.ok f) s' | .again c' => c'.quiet = true ∧ codeAny (model prog w) A c' R s') (fun x s' => R (.error x) s') s := by
  show wpAny _ _ (do let old ← Builtin.List.listItems (.ref S); Builtin.List.listUpdate (.ref S) (fun _ => #[]); letGo old.toList.reverse; Builtin.List.listExtendWith (.ref S) (.ref e) .none) _ _ s
  refine wpAny_bind ?_; unfold Builtin.List.listItems
  refine wpAny_bind (wpAny_seqItems hS rfl (wpAny_pure ?_))
  show wpAny _ _ (updateSeq S (fun _ => #[]) >>= fun _ => letGo (#[] : Array Value).toList.reverse >>= fun _ => Builtin.List.listExtendWith (.ref S) (.ref e) .none) _ _ s
  refine wpAny_bind (wpAny_updateSeq hS rfl ?_)
  have oth : ∀ b o, b ≠ S → s.heap.get? b = some o → (s.heap.update S (Obj.mapSeq (fun _ => (#[] : Array Value)))).get? b = some o := fun b o hb q => (Heap.get?_update_other _ _ (Ne.symm hb)).trans q
  refine wpAny_bind (wpAny_letGo (en_extend hh D hiS heS (oth e _ D.eS he) (hit.at fun o y => oth it o D.iS y) (hl.at fun o y => oth l o D.lS y) hn .none _ (Heap.get?_update_self (Obj.mapSeq (fun _ => (#[] : Array Value))) hS rfl) fun h' tk acc c as hk hS' hl' hG hacc => ?_))
  exact hR h' tk acc c as (fun b o h1 h2 h3 q => hk b o h1 h2 h3 (oth b o h1 q)) hS' hl' hG hacc
end
section
variable {prog : Program} {w : World} {A : Around} {E : Value → Shared → Prop} {s : Shared} {e it l : Addr} {xs : Array Value}
theorem en_call {Q : Value → Shared → Prop} (hh : A.handled = none) (hei : e ≠ it) (hle : l ≠ e) (hli : l ≠ it) (he : IsEnum s.heap e it 0 .none) (hit : s.heap.IsListIter it l 0) (hl : s.heap.IsList l xs) (hn : xs.size ≤ sizeLine)
    (hQ : ∀ h' tk acc c as, (∀ b o, b ≠ e → b ≠ it → s.heap.get? b = some o → h'.get? b = some o) → h'.get? s.heap.objs.size = some { cls := .type "list", dict := none, data := .seq acc c, slots := #[] } → as.length = xs.size → EnG xs s.heap.objs.size h' as → acc.toList = as.map Value.ref →
      Q (.ref s.heap.objs.size) { s with heap := h', toks := tk }) : wpAny (model prog w) A (call (.type "list") [.ref e]) Q E s := by
  have l1 : e < s.heap.objs.size := Heap.lt_size he
  have l2 : it < s.heap.objs.size := by obtain ⟨_, q, _⟩ := hit; exact Heap.lt_size q
  have l3 : l < s.heap.objs.size := by obtain ⟨_, q, _⟩ := hl; exact Heap.lt_size q
  refine callType_codes (Q₁ := fun obj s₁ => obj = .ref s.heap.objs.size ∧ s₁ = { s with heap := s.heap.push { cls := .type "list", data := .seq #[] } }) PySem.F.called_list (PySem.F.typeCall_list_1 _) PySem.F.entry_list_init (code_list_new _ ⟨rfl, rfl⟩) fun obj s₁ h₁ => ?_
  obtain ⟨rfl, rfl⟩ := h₁
  have hS : (s.heap.push { cls := .type "list", data := .seq #[] }).get? s.heap.objs.size = some { cls := .type "list", data := .seq #[] } := Heap.get?_push_size _ rfl
  refine ⟨⟨_, hS, rfl⟩, PySem.F.args_list_init_2 _ _, en_init (A := A.in1) hh ⟨hei, hle, hli, Nat.ne_of_lt l1, Nat.ne_of_lt l2, Nat.ne_of_lt l3⟩ l2 l1 (Heap.get?_push_of_some _ he) (hit.at fun o y => Heap.get?_push_of_some _ y) (hl.at fun o y => Heap.get?_push_of_some _ y) hn hS fun h' tk acc c as hk hS' hl' hG hacc => ?_⟩
  exact ⟨rfl, hQ h' tk acc c as (fun b o h1 h2 q => hk b o (Nat.ne_of_lt (Heap.lt_size q)) h1 h2 (Heap.get?_push_of_some _ q)) hS' hl' hG hacc⟩
end
/-- the tuples tracked at their addresses -/
def putE : Hp → List Addr → Nat → List V → Hp
  | H, a :: as, i, x :: xs => putE (upd H a (.tup [.int (i : Nat), x])) as (i + 1) xs
  | H, _, _, _ => H
theorem putE_off {b : Addr} : ∀ (as : List Addr) (i : Nat) (xs : List V) (H : Hp), b ∉ as → putE H as i xs b = H b
  | [], _, _, _, _ => rfl
  | _ :: _, _, [], _, _ => rfl
  | a :: as, i, x :: xs, H, h => by
    show putE (upd H a (.tup [.int (i : Nat), x])) as (i + 1) xs b = H b
    rw [putE_off as (i + 1) xs _ (fun z => h (List.mem_cons_of_mem _ z)), upd_ne (fun z => h (by rw [z]; exact List.mem_cons_self))]
theorem putE_at : ∀ (as : List Addr) (i : Nat) (xs : List V) (H : Hp), as.Nodup → ∀ (j : Nat) (a : Addr) (x : V), as[j]? = some a → xs[j]? = some x → putE H as i xs a = some (.tup [.int ((i + j : Nat) : Int), x])
  | [], _, _, _, _, j, a, x, h, _ => by simp at h
  | _ :: _, _, [], _, _, j, a, x, _, h => by simp at h
  | b :: as, i, y :: xs, H, hn, 0, a, x, h1, h2 => by
    have e1 : b = a := by simpa using h1
    have e2 : y = x := by simpa using h2
    subst e1; subst e2
    show putE (upd H b (.tup [.int (i : Nat), y])) as (i + 1) xs b = _
    rw [putE_off as (i + 1) xs _ (List.nodup_cons.mp hn).1, upd_same]
    rfl
  | b :: as, i, y :: xs, H, hn, j + 1, a, x, h1, h2 => by
    show putE (upd H b (.tup [.int (i : Nat), y])) as (i + 1) xs a = _
    rw [putE_at as (i + 1) xs _ (List.nodup_cons.mp hn).2 j a x (by simpa using h1) (by simpa using h2), show i + 1 + j = i + (j + 1) by omega]
def rListE (K : PySem.W.Frag) : V → Hp → VK → Prop := fun x H Q => ∃ (l : Addr) (xs : List V), x = .ref l ∧ SqL K H l xs ∧
  ∀ (p : Addr) (as : List Addr), H p = none → (∀ a ∈ as, H a = none) → p ∉ as → as.Nodup → as.length = xs.length → Q (.ref p) (upd (putE H as 0 xs) p (.lst (as.map V.ref)))
def tListE (K : PySem.W.Frag) (te : TE) : TE := fun σ H Q => te σ H fun x H1 => rListE K x H1 Q
section
variable {X : Cx} {a : Expr} {te : TE}
theorem en_laid {pins : List (Addr × Obj)} {σ : L2.St} {H : Hp} {s : Shared} {h' : Heap} {tk : Nat} {xs : List V} {its : List Value} {acc : Array Value} {c : Nat} {as : List Addr} (I : Inv X pins σ H s) (hz : xs.length ≤ sizeLine) (rv : Vals xs its)
    (hk : ∀ b o, s.heap.get? b = some o → h'.get? b = some o) (p : Addr) (hp : s.heap.objs.size ≤ p) (hS : h'.get? p = some { cls := .type "list", dict := none, data := .seq acc c, slots := #[] }) (hl : as.length = its.length) (hG : EnG its.toArray p h' as) (hacc : acc.toList = as.map Value.ref) :
    H p = none ∧ (∀ t ∈ as, H t = none) ∧ p ∉ as ∧ as.Nodup ∧ Inv X pins σ (upd (putE H as 0 xs) p (.lst (as.map V.ref))) { s with heap := h', toks := tk } := by
  have lk : xs.length = its.length := rv.length
  have hSn : p ∉ as := fun z => Nat.lt_irrefl _ (hG.lo _ z)
  have nd : as.Nodup := List.Pairwise.imp (fun {a b} (h : a < b) => Nat.ne_of_lt h) hG.up
  have new : ∀ t ∈ as, H t = none := fun t ht => I.hok.fresh (Nat.le_of_lt (Nat.lt_of_le_of_lt hp (hG.lo t ht)))
  have newS : H p = none := I.hok.fresh hp
  have off : ∀ b, b ∉ as → b ≠ p → upd (putE H as 0 xs) p (.lst (as.map V.ref)) b = H b := fun b h1 h2 => by rw [upd_ne h2, putE_off as 0 xs _ h1]
  have low : ∀ b o, s.heap.get? b = some o → b ∉ as ∧ b ≠ p := fun b o q => by
    have q' := Heap.lt_size q
    exact ⟨fun z => Nat.lt_irrefl _ (Nat.lt_of_lt_of_le (Nat.lt_trans (hG.lo b z) q') hp), Nat.ne_of_lt (Nat.lt_of_lt_of_le q' hp)⟩
  have kp : ∀ b u, H b = some u → upd (putE H as 0 xs) p (.lst (as.map V.ref)) b = some u := fun b u q => by
    rw [off b (fun z => by rw [new b z] at q; cases q) (fun z => by rw [z, newS] at q; cases q)]
    exact q
  refine ⟨newS, new, hSn, nd, I.call' (ch := []) rfl ⟨fun b o q _ _ _ => hk b o q, fun b o q _ _ _ => ⟨o.slots, hk b o q⟩, fun b o q n _ => ?_, fun b o q _ => ⟨o, hk b o q⟩, fun b ys q => kp b _ q, fun b o u q => kp b _ q, fun b ps q => ⟨#[], by rw [kp b _ q]; simp⟩⟩ (fun b u q => ?_) I.bare fun b z => by simp at z⟩
  · obtain ⟨z1, z2⟩ := low b o q
    rw [off b z1 z2]; exact n
  · by_cases hb : b ∈ as
    · obtain ⟨j, hj⟩ := List.mem_iff_getElem?.mp hb
      obtain ⟨t, y, f1, f2⟩ := hG.tup j b hj
      have f1' : its[j]? = some y := by simpa using f1
      have hj2 : j < xs.length := by rw [lk]; exact (List.getElem?_eq_some_iff.mp f1').1
      have f3 := List.getElem?_eq_getElem hj2
      rw [upd_ne (fun z => hSn (by rw [← z]; exact hb)), putE_at as 0 xs H nd j b _ hj f3, Nat.zero_add] at q
      cases q
      obtain ⟨y', g1, g2⟩ := rv.get f3
      rw [f1'] at g1; cases g1
      exact ⟨by show 2 ≤ sizeLine; decide, [.int j t, y], .cons ⟨t, rfl⟩ (.cons g2 .nil), ⟨_, f2, rfl, _, rfl⟩⟩
    · by_cases hb2 : b = p
      · subst hb2
        rw [upd_same] at q; cases q
        exact ⟨by rw [List.length_map]; omega, acc.toList, c, by rw [hacc]; exact LiI.vals_refs as, by rw [Array.toArray_toList]; exact hS⟩
      · rw [off b hb hb2] at q
        exact (I.hok b u q).stay (fun d v _ y => hk d v y) (fun d y => kp d _ y) fun d ys y => kp d _ y
/-- list(enumerate(a)) -/
theorem pe_listE {p p2 pos pos2 : Pos} (hc : X.calm = true) (hg : Gl X "list") (hm : X.mg "list" = none) (hg2 : Gl X "enumerate") (hm2 : X.mg "enumerate" = none) (ha : PE X a te)
    (na : starEach [a] X.env = (false, eval a X.env) :: starEach [] X.env := by rfl) (na2 : starEach [.Call (.Name "enumerate" p2) [a] [] pos2] X.env = (false, eval (.Call (.Name "enumerate" p2) [a] [] pos2) X.env) :: starEach [] X.env := by rfl) :
    PE X (.Call (.Name "list" p) [.Call (.Name "enumerate" p2) [a] [] pos2] [] pos) (tListE X.K te) := by
  refine ⟨fun pins s σ H Q I h => ?_⟩
  refine Call_ (ld_blt I hg hm boot_list (PyProof.Rows.callWith_type1 (args_cons ?_ na2) na2))
  refine Call_ (ld_blt I hg2 hm2 boot_enumerate (PyProof.Rows.callWith_type1 (one_arg ha I h (fun v s1 x H1 I1 r1 q1 => ?_) na) na))
  obtain ⟨l, xs, ex, hq, q⟩ := q1
  subst ex
  cases r1
  obtain ⟨its, rv, pl, hz⟩ := I1.list hq
  have lz : its.toArray.size = xs.length := by rw [List.size_toArray, ← rv.length]
  refine call_enumerate_list pl.isList fun h' he hit hsz hk => args_nil ?_
  have ll : l < s1.heap.objs.size := by obtain ⟨_, q, _⟩ := pl.isList; exact Heap.lt_size q
  have I2 : Inv X pins σ H1 { s1 with heap := h' } := I1.kept (t' := s1.toks) hk
  refine en_call (s := { s1 with heap := h' }) (I1.ok.hd hc) (Nat.succ_ne_self _) (Nat.ne_of_lt (Nat.lt_succ_of_lt ll)) (Nat.ne_of_lt ll) he hit (pl.isList.at fun o y => hk l o y) (by rw [lz]; exact hz) fun h2 tk acc c as hk2 hS hl hG hacc => ?_
  dsimp only at hk2 hS hG ⊢
  have sz : h'.objs.size = s1.heap.objs.size + 2 := hsz
  obtain ⟨k1, k2, k3, k4, J⟩ := en_laid (X := X) (s := s1) (h' := h2) (tk := tk) I1 (by omega) rv (fun b o q => hk2 b o (Nat.ne_of_lt (Nat.lt_succ_of_lt (Heap.lt_size q))) (Nat.ne_of_lt (Heap.lt_size q)) (hk b o q)) h'.objs.size (by rw [sz]; exact Nat.le_add_right _ _) hS (by rw [hl, lz, rv.length]) hG hacc
  exact ⟨.ref _, _, J, rfl, q _ as k1 k2 k3 k4 (by rw [hl, lz])⟩
end
end EnL
/-! list(enumerate(xs)); targets that are places of one's own lists and dicts. -/
namespace DL
open PySem PySem.Spec L2 PyProof.Rows
def enumA : Nat → List D → List D
  | i, d :: ds => .tup [.int (i : Nat), d] :: enumA (i + 1) ds
  | _, [] => []
theorem enumA_length : ∀ (i : Nat) (ds : List D), (enumA i ds).length = ds.length
  | _, [] => rfl
  | i, d :: ds => by rw [enumA, List.length_cons, List.length_cons, enumA_length]
theorem enumA_map {α : Type} (f : α → D) : ∀ (i : Nat) (l : List α), enumA i (l.map f) = (l.zipIdx i).map fun x => .tup [.int (x.2 : Nat), f x.1]
  | _, [] => rfl
  | i, x :: l => by rw [List.map_cons, enumA, enumA_map f (i + 1) l, List.zipIdx_cons, List.map_cons]
theorem Rep.putE {K : PySem.W.Frag} {G : Cd} {σ : L2.St} {ρ : SL} : ∀ (as : List Addr) (i : Nat) (xs : List V) (ds : List D) {H F : Hp}, Rep K G σ H F ρ → DenL K F xs ds → (∀ a ∈ as, H a = none) → as.Nodup → as.length = xs.length →
    ∃ F', Same F F' ∧ Rep K G σ (EnL.putE H as i xs) F' ρ ∧ DenL K F' (as.map V.ref) (enumA i ds)
  | [], i, [], ds, H, F, R, d, _, _, _ => by cases d; exact ⟨F, Same.refl F, R, .nil⟩
  | [], _, _ :: _, _, _, _, _, _, _, _, e => by cases e
  | _ :: _, _, [], _, _, _, _, _, _, _, e => by cases e
  | a :: as, i, x :: xs, ds, H, F, R, d, h, nd, e => by
    cases d with
    | cons d1 d2 =>
      obtain ⟨s1, R1⟩ := R.alloc (o := .tup [.int (i : Nat), x]) (h a List.mem_cons_self)
      have nd' := List.nodup_cons.mp nd
      obtain ⟨F', s2, R2, d3⟩ := Rep.putE as (i + 1) xs _ R1 (d2.mono s1) (fun b hb => by rw [upd_ne (fun z => by subst z; exact nd'.1 hb)]; exact h b (List.mem_cons_of_mem _ hb)) nd'.2 (Nat.succ.inj e)
      exact ⟨F', s1.trans s2, R2, .cons (.tup (s2 _ _ upd_same) (.cons (.int _) (.cons (d1.mono (s1.trans s2)) .nil))) d3⟩
section
variable {X : Cx}
def dLstEn (t : TQ) : TD := fun ρ Q => t ρ fun o ρ1 => match o.get ρ1 with
  | some (.lst ds) => Q (.fr (.l (enumA 0 ds))) ρ1
  | _ => False
theorem de_lstEn {a : Expr} {ta : TE} {t : TQ} {p p2 pos pos2 : Pos} (hc : X.calm = true) (hg : Gl X "list") (hm : X.mg "list" = none) (hg2 : Gl X "enumerate") (hm2 : X.mg "enumerate" = none) (ha : DO X a ta t)
    (na : starEach [a] X.env = (false, eval a X.env) :: starEach [] X.env := by rfl) (na2 : starEach [.Call (.Name "enumerate" p2) [a] [] pos2] X.env = (false, eval (.Call (.Name "enumerate" p2) [a] [] pos2) X.env) :: starEach [] X.env := by rfl) :
    DE X (.Call (.Name "list" p) [.Call (.Name "enumerate" p2) [a] [] pos2] [] pos) (EnL.tListE X.K ta) (dLstEn t) :=
  ⟨EnL.pe_listE hc hg hm hg2 hm2 ha.pe na na2, fun {G σ H F ρ Q Qd} R q k => ha.sem R q fun o ρ1 v H1 F1 q1 s1 R1 od => by
    split at q1
    · rename_i ds e
      obtain ⟨l, xs, rfl, hl, d⟩ := (od.pk R1 e).lst R1.ext
      refine ⟨l, xs, rfl, SqL.of hl, fun p as h1 h2 h3 h4 h5 => ?_⟩
      obtain ⟨F', s2, R2, d2⟩ := Rep.putE as 0 xs ds R1 d h2 h4 h5
      have hp : EnL.putE H1 as 0 xs p = none := by rw [EnL.putE_off as 0 xs _ h3]; exact h1
      obtain ⟨R3, rd⟩ := R2.allocFr hp (c := .l (enumA 0 ds)) ⟨_, upd_same, d2⟩
      exact k _ _ _ _ _ q1 (s1.trans s2) R3 rd
    · exact q1.elim⟩
/-! ### targets that change things -/
structure DX (X : Cx) (tg : Expr) (g : TG) (t : TGd) : Prop where
  pe : PG X tg g
  sem : ∀ {G : Cd} {σ : L2.St} {H F : Hp} {ρ : SL} {v : V} {d : D} {Q : L2.St → Hp → Prop} {Qd : SL → Prop}, Rep X.K G σ H F ρ → Den X.K F v d → t d ρ Qd →
    (∀ ρ' σ' H' F', Qd ρ' → Same F F' → Rep X.K G σ' H' F' ρ' → Q σ' H') → g v σ H Q
structure DXs (X : Cx) (ts : List Expr) (g : TGs) (t : TGds) : Prop where
  pe : PGs X ts g
  sem : ∀ {G : Cd} {σ : L2.St} {H F : Hp} {ρ : SL} {vs : List V} {ds : List D} {Q : L2.St → Hp → Prop} {Qd : SL → Prop}, Rep X.K G σ H F ρ → DenL X.K F vs ds → t ds ρ Qd →
    (∀ ρ' σ' H' F', Qd ρ' → Same F F' → Rep X.K G σ' H' F' ρ' → Q σ' H') → g vs σ H Q
theorem dx_g {tg : Expr} {ws : List Nat} {g : TG} {t : TGd} (h : DG X tg ws g t) : DX X tg g t := ⟨h.pe, fun R d q k => h.sem R d q fun ρ' σ' q' R' _ => k _ _ _ _ q' (Same.refl _) R'⟩
theorem dxs_nil : DXs X [] gNil gsNil := ⟨pgs_nil, fun {G σ H F ρ vs ds Q Qd} R d q k => by
  cases ds with
  | nil => cases d; exact ⟨rfl, k _ _ _ _ q (Same.refl _) R⟩
  | cons _ _ => exact q.elim⟩
theorem dxs_cons {e : Expr} {es : List Expr} {g : TG} {gs : TGs} {t : TGd} {u : TGds} (h1 : DX X e g t) (h2 : DXs X es gs u)
    (hs : (assignEach (e :: es) X.env).map (·.2) = assign e X.env :: (assignEach es X.env).map (·.2) := by rfl) : DXs X (e :: es) (gCons g gs) (gsCons t u) :=
  ⟨pgs_cons h1.pe h2.pe hs, fun {G σ H F ρ vs ds Q Qd} R d q k => by
    cases ds with
    | nil => exact q.elim
    | cons a r =>
      cases d with
      | cons da dr => exact ⟨_, _, rfl, h1.sem R da q fun ρ' σ' H' F' q' s1 R' => h2.sem R' (dr.mono s1) q' fun ρ2 σ2 H2 F2 q2 s2 R2 => k ρ2 σ2 H2 F2 q2 (s1.trans s2) R2⟩⟩
theorem dx_tup {es : List Expr} {kk : Nat} {pos : Pos} {g : TGs} {u : TGds} {n : Nat} (hc : X.calm = true) (h : DXs X es g u)
    (hn : (assignEach es X.env).length = n := by rfl) (hst : (assignEach es X.env).findIdx? (·.1) = none := by rfl) : DX X (.Tuple es kk pos) (gTup X.K n g) (gT n u) :=
  ⟨pg_tup hc h.pe hn hst, fun {G σ H F ρ v d Q Qd} R dd q k => by
    cases d with
    | tup ds =>
      cases dd with
      | tup a b => exact ⟨_, _, rfl, .inl (.inl (R.ext _ _ a)), by rw [b.length]; exact q.1, h.sem R b q.2 k⟩
    | _ => exact q.elim⟩
/-- x[e] as a target -/
def gSb (i : Nat) (u : TQ) : TGd := fun d ρ Q => (slC ρ i).isSome = true ∧ u ρ fun o ρ2 => match slC ρ2 i, o.get ρ2 with
  | some (s, c), some a => cnSet c a d fun c' => Q (ρ2.set i (s.with c'))
  | _, _ => False
theorem dx_sub {i : Nat} {x : Str} {px tpos : Pos} {ix : Expr} {ti : TE} {u : TQ} (ho : PE X (.Name x px) (tVar i)) (hi : DO X ix ti u) (hpg : PG X (.Subscript (.Name x px) ix tpos) (gSub (tVar i) ti rSetA)) :
    DX X (.Subscript (.Name x px) ix tpos) (gSub (tVar i) ti rSetA) (gSb i u) :=
  ⟨hpg, fun {G σ H F ρ v d Q Qd} R dd q k => by
    obtain ⟨q0, q1⟩ := q
    obtain ⟨⟨s0, c0⟩, e0⟩ := Option.isSome_iff_exists.mp q0
    obtain ⟨a0, b0⟩ := slC_some e0
    obtain ⟨p, hp, _⟩ := R.owned a0 b0
    refine ⟨.ref p, hp, hi.sem R q1 fun o ρ2 y H2 F2 q2 s2 R2 d2 => ?_⟩
    cases e1 : slC ρ2 i with
    | none => simp only [e1] at q2
    | some sc =>
      obtain ⟨s, c⟩ := sc
      obtain ⟨a1, b1⟩ := slC_some e1
      cases e2 : o.get ρ2 with
      | none => simp only [e1, e2] at q2
      | some a =>
        simp only [e1, e2] at q2
        exact sem_store R2 a1 b1 hp (d2.pk R2 e2) (dd.mono s2) q2 fun c' oo qc R3 => k _ _ _ _ qc s2 R3⟩
theorem ds_asgX {tg e : Expr} {te : TE} {g : TG} {t : TD} {gd : TGd} {pos : Pos} (he : DE X e te t) (hg : DX X tg g gd) (hs : swapsWithSole [tg] e pos.line X.env = pure false := by rfl) (hw : swappedStores [tg] e X.env = pure none := by rfl)
    (h1 : (assignEach [tg] X.env).map (·.2) = [assign tg X.env] := by rfl) : DS X (.Assign [tg] e pos) (tAsg te g) (sAsg t gd) :=
  ⟨ps_asg he.pe hg.pe hs hw h1, fun R q L => he.sem R q fun r ρ' v H' F' qd s1 R1 rd => by
    obtain ⟨F2, s2, R2, d2⟩ := R1.share rd
    exact hg.sem R2 d2 qd fun ρ2 σ2 H2 F3 q2 _ R3 => L.nx _ _ _ _ q2 R3⟩
end
end DL
/-! More of dicts and piles. -/
namespace DL
open PySem PySem.Spec L2 PyProof.Rows
theorem dcL_on {α : Type} (f : α → D) {g : TGd} {tt : TB} {tk te : TD} {vs : List Nat} {Q : List (Key × D) → SL → Prop} (I : List α → List α → List (Key × D) → SL → Prop) {l : List α} {ρ : SL} (hI : I [] l [] ρ) (h0 : ∀ acc ρ, I l [] acc ρ → Q acc ρ)
    (h1 : ∀ (p : List α) (x : α) (r : List α) (acc : List (Key × D)) (ρ : SL) (N : List (Key × D) → SL → Prop), l = p ++ x :: r → (∀ acc' ρ', I (p ++ [x]) r acc' ρ' → N acc' ρ') → I p (x :: r) acc ρ →
      g (f x) ρ fun ρ1 => tt ρ1 fun b ρ2 => if b = true then tk ρ2 fun rk ρ3 => te ρ3 fun rv ρ4 => ∃ k, rk.dat.key = some k ∧ acc.length < sizeLine ∧ N (kPut acc k rv.dat) (wipeD ρ4 vs) else N acc (wipeD ρ2 vs)) : dcL g tt tk te vs Q (l.map f) [] ρ := by
  have key : ∀ (r p : List α) (acc : List (Key × D)) (ρ : SL), l = p ++ r → I p r acc ρ → dcL g tt tk te vs Q (r.map f) acc ρ := by
    intro r
    induction r with
    | nil => intro p acc ρ e h; rw [List.append_nil] at e; subst e; exact h0 _ _ h
    | cons x r ih =>
      intro p acc ρ e h
      exact h1 p x r acc ρ (fun acc ρ => dcL g tt tk te vs Q (r.map f) acc ρ) e (fun acc' ρ' h' => ih (p ++ [x]) acc' ρ' (by rw [e]; simp) h') h
  exact key l [] [] ρ rfl hI
theorem kPut_new {α : Type} {acc : List (Key × α)} {k : Key} {d : α} (h : ∀ kv ∈ acc, kv.1 ≠ k) : kPut acc k d = acc ++ [(k, d)] := by
  have : (acc.any fun kv => decide (kv.1 = k)) = false := by
    rw [List.any_eq_false]
    intro kv hk
    simp only [decide_eq_true_eq]
    exact h kv hk
  unfold kPut
  rw [this]
  rfl
theorem nodup_inj {α β : Type} {f : α → β} : ∀ {l : List α} {x y : α}, (l.map f).Nodup → x ∈ l → y ∈ l → f x = f y → x = y
  | a :: l, x, y, h, hx, hy, e => by
    rw [List.map_cons, List.nodup_cons] at h
    obtain ⟨h1, h2⟩ := h
    rcases List.mem_cons.mp hx with hx | hx <;> rcases List.mem_cons.mp hy with hy | hy
    · rw [hx, hy]
    · exact (h1 (List.mem_map.mpr ⟨y, hy, by rw [← e, hx]⟩)).elim
    · exact (h1 (List.mem_map.mpr ⟨x, hx, by rw [e, hy]⟩)).elim
    · exact nodup_inj h2 hx hy e
/-- the entry of a key that is there is replaced -/
theorem kPut_map {α : Type} (kf : α → Str) (e e' : α → D) {l : List α} {x : α} (hx : x ∈ l) (hn : (l.map kf).Nodup) (he : ∀ y ∈ l, y ≠ x → e' y = e y) :
    kPut (l.map fun y => ((.inr (kf y) : Key), e y)) (.inr (kf x)) (e' x) = l.map fun y => ((.inr (kf y) : Key), e' y) := by
  have : ((l.map fun y => ((.inr (kf y) : Key), e y)).any fun kv => decide (kv.1 = (.inr (kf x) : Key))) = true := by
    rw [List.any_eq_true]
    exact ⟨_, List.mem_map.mpr ⟨x, hx, rfl⟩, decide_eq_true rfl⟩
  unfold kPut
  rw [this, if_pos rfl, List.map_map]
  apply List.map_congr_left
  intro y hy
  simp only [Function.comp]
  by_cases q : y = x
  · subst q; rw [if_pos rfl]
  · have : kf y ≠ kf x := fun z => q (nodup_inj hn hy hx z)
    rw [if_neg (fun z => this (Sum.inr.inj z)), he y hy q]
theorem lookup_plSet_ne {p q : Addr} {c' : Cn} (h : q ≠ p) : ∀ hs : Pile, (plSet hs p c').lookup q = hs.lookup q
  | [] => rfl
  | y :: r => by
    have ih := lookup_plSet_ne (c' := c') h r
    unfold plSet at ih ⊢
    obtain ⟨b, d⟩ := y
    rw [List.map_cons]
    by_cases e : b = p
    · subst e
      rw [if_pos rfl, List.lookup_cons, List.lookup_cons, beq_false_of_ne h]
      exact ih
    · rw [if_neg e, List.lookup_cons, List.lookup_cons, ih]
theorem lookup_plSet_eq {p : Addr} {c c' : Cn} : ∀ hs : Pile, hs.lookup p = some c → (plSet hs p c').lookup p = some c'
  | [], h => by cases h
  | y :: r, h => by
    have ih := lookup_plSet_eq (p := p) (c := c) (c' := c') r
    unfold plSet at ih ⊢
    obtain ⟨b, d⟩ := y
    rw [List.map_cons]
    rw [List.lookup_cons] at h
    by_cases e : b = p
    · subst e
      rw [if_pos rfl, List.lookup_cons, beq_self_eq_true]
    · rw [beq_false_of_ne (Ne.symm e)] at h
      rw [if_neg e, List.lookup_cons, beq_false_of_ne (Ne.symm e)]
      exact ih h
end DL
/-! y = {k: v for ..}: a local name of a dict comprehension. -/
namespace DL
open PySem PySem.Spec L2 PyProof.Rows
section
variable {X : Cx} {tg : Expr}
theorem swD_true {kx vx : Expr} {gs : List Comprehension} {scope : Scope} {pos py : Pos} {y : Str} {l : Nat} {env : Env} (hk : env.scope.kind = .function) (hy : env.scope.names.lookup y = some .local) (hl : (py.line == pos.line) = true)
    (ha : (scope.names.any fun (n, k) => n == y && (k == .local || k == .cell)) = false) : swapsWith (.DictComp kx vx gs scope pos) (some (.Name y py)) l env = pure true := by
  have e1 : env.kindOf y = some .local := hy
  have e2 : env.blockKind = .function := by unfold Env.blockKind; rw [hk]; rfl
  unfold swapsWith
  simp only [e2, e1, ha, Expr.pos, hl]; rfl
theorem ps_setDc {i : Nat} {y : Str} {py : Pos} {kx vx iter : Expr} {ifs : List Expr} {scope : Scope} {own : List (Str × Nat)} {pos spos : Pos} {wi : TI} {g : TG} {tt : TT} {tk tv : TE} (hc : X.calm = true) (hN : X.N.Nodup) (hy : X.N[i]? = some y) (hyl : X.env.scope.names.lookup y = some .local)
    (hsw : swapsWith (.DictComp kx vx [⟨tg, iter, ifs, 0⟩] scope pos) (some (.Name y py)) spos.line X.env = pure true) (hi : PI X tg iter wi) (ok : BlkOk X.N X.env.scope scope own)
    (hg : ∀ (s : Shared) (H : Hp) (C : Addr) (cl : List (Str × Addr)) (fp : List Addr), PG (X.blk s H scope (compEnvC scope cl C X.env) fp) tg g)
    (ht : ∀ (s : Shared) (H : Hp) (C : Addr) (cl : List (Str × Addr)) (fp : List Addr), PTs (X.blk s H scope (compEnvC scope cl C X.env) fp) ifs tt)
    (hk : ∀ (s : Shared) (H : Hp) (C : Addr) (cl : List (Str × Addr)) (fp : List Addr), PE (X.blk s H scope (compEnvC scope cl C X.env) fp) kx tk)
    (hv : ∀ (s : Shared) (H : Hp) (C : Addr) (cl : List (Str × Addr)) (fp : List Addr), PE (X.blk s H scope (compEnvC scope cl C X.env) fp) vx tv) (hs : ∀ x, foldedSetIterable iter X.env x = pure x := by intro _; rfl) :
    PS X (.Assign [.Name y py] (.DictComp kx vx [⟨tg, iter, ifs, 0⟩] scope pos) spos) (tAsg (tDc wi g tt tk tv (own.map (·.2))) (gName i)) := by
  refine ⟨fun pins s σ H D I h => ?_⟩
  rw [exec_Assign_Name_used _ _ _ _ hsw]
  have h1 : tDc wi g tt tk tv (own.map (·.2)) σ H (fun x H1 => gName i x σ H1 D.nx) := h
  refine wpAny_bind (wpAny_standAt (wpAny_bind (wpAny_bind (m := comprehension (.DictComp kx vx [⟨tg, iter, ifs, 0⟩] scope pos) scope X.env (firstIterPos [⟨tg, iter, ifs, 0⟩] pos) newDict false (eval iter X.env) (some (assign (.Name y py) X.env)))
    (thn (dc_core (Qf := fun _ s' => SP X pins D .next s') hc hN I hi ok hg ht hk hv hs h1 fun L C s' m H' I' q hn f => ?_) fun _ s' hq => wpAny_pure (wpAny_pure hq)))))
  refine wpAny_assign_Name (store_ok2 (v := V.ref L) I' hN hy (.inl hyl) rfl (fun s2 I2 ⟨a, sb, ha⟩ => ?_) (.inr hyl))
  obtain ⟨f0, f1, f2, f3, f4, f5⟩ := f
  have apart : C ≠ a := by rcases ha with z | z; · rw [z]; exact f1
                           · exact fun e => f4 y a z e.symm
  exact ⟨m, hn.sameBut sb apart, fun h3 sb3 => ⟨_, H', I2.turned (t' := s2.toks) (fun b o hb e => (sb3.2 b hb).trans e) f0 f1 f3 f4 f5, q⟩⟩
theorem ds_setDcF {i : Nat} {y : Str} {py : Pos} {kx vx iter : Expr} {ifs : List Expr} {scope : Scope} {own : List (Str × Nat)} {pos spos : Pos} {wi : TI} {g : Bk TG} {tt : Bk TT} {tk te : Bk TE} {t : TSrcC} {gd : TGd} {dt : TB} {dk de : TD} (hc : X.calm = true) (hN : X.N.Nodup)
    (hy : X.N[i]? = some y) (hyl : X.env.scope.names.lookup y = some .local) (hsw : swapsWith (.DictComp kx vx [⟨tg, iter, ifs, 0⟩] scope pos) (some (.Name y py)) spos.line X.env = pure true) (hi : DIc X tg iter wi t) (ok : BlkOk X.N X.env.scope scope own)
    (hg : ∀ (s : Shared) (H : Hp) (C : Addr) (cl : List (Str × Addr)) (fp : List Addr), DG (X.blk s H scope (compEnvC scope cl C X.env) fp) tg (own.map (·.2)) (g s H C cl fp) gd)
    (ht : ∀ (s : Shared) (H : Hp) (C : Addr) (cl : List (Str × Addr)) (fp : List Addr), DTs (X.blk s H scope (compEnvC scope cl C X.env) fp) ifs (tt s H C cl fp) dt)
    (hk : ∀ (s : Shared) (H : Hp) (C : Addr) (cl : List (Str × Addr)) (fp : List Addr), DE (X.blk s H scope (compEnvC scope cl C X.env) fp) kx (tk s H C cl fp) dk)
    (he : ∀ (s : Shared) (H : Hp) (C : Addr) (cl : List (Str × Addr)) (fp : List Addr), DE (X.blk s H scope (compEnvC scope cl C X.env) fp) vx (te s H C cl fp) de)
    (eg : ∀ s H C cl fp, g s H C cl fp = g X.s_0 (fun _ => none) 0 [] [] := by intros; rfl) (et : ∀ s H C cl fp, tt s H C cl fp = tt X.s_0 (fun _ => none) 0 [] [] := by intros; rfl)
    (ek : ∀ s H C cl fp, tk s H C cl fp = tk X.s_0 (fun _ => none) 0 [] [] := by intros; rfl) (ee : ∀ s H C cl fp, te s H C cl fp = te X.s_0 (fun _ => none) 0 [] [] := by intros; rfl)
    (hs : ∀ x, foldedSetIterable iter X.env x = pure x := by intro _; rfl) :
    DS X (.Assign [.Name y py] (.DictComp kx vx [⟨tg, iter, ifs, 0⟩] scope pos) spos) (tAsg (tDc wi (g X.s_0 (fun _ => none) 0 [] []) (tt X.s_0 (fun _ => none) 0 [] []) (tk X.s_0 (fun _ => none) 0 [] []) (te X.s_0 (fun _ => none) 0 [] []) (own.map (·.2))) (gName i)) (sSet i (dDc t gd dt dk de (own.map (·.2)))) := by
  have hg' := fun s H C cl fp => by have := hg s H C cl fp; rw [eg s H C cl fp] at this; exact this
  have ht' := fun s H C cl fp => by have := ht s H C cl fp; rw [et s H C cl fp] at this; exact this
  have hk' := fun s H C cl fp => by have := hk s H C cl fp; rw [ek s H C cl fp] at this; exact this
  have he' := fun s H C cl fp => by have := he s H C cl fp; rw [ee s H C cl fp] at this; exact this
  exact ⟨ps_setDc hc hN hy hyl hsw hi.pe ok (fun s H C cl fp => (hg' s H C cl fp).pe) (fun s H C cl fp => (ht' s H C cl fp).pe) (fun s H C cl fp => (hk' s H C cl fp).pe) (fun s H C cl fp => (he' s H C cl fp).pe) hs, fun R q L =>
    sem_dc hi hg' ht' hk' he' X.s_0 R q fun r ρ' v H' F' qd s1 R1 rd => by
      obtain ⟨F2, _, R2⟩ := R1.putF rd i
      exact L.nx _ _ _ _ qd R2⟩
end
end DL
/-! What may be shown and compared, put together piece by piece. -/
namespace DL
open PySem PySem.Spec L2 PyProof.Rows
/-- plain data of nesting at most k, of weight at most w -/
structure Good (k w : Nat) (d : D) : Prop where
  fit : D.fit k d = true
  small : D.small d = true
  wt : D.wt d ≤ w
theorem fit_up : ∀ {k m : Nat} {d : D}, k ≤ m → D.fit k d = true → D.fit m d = true := by
  intro k
  induction k with
  | zero =>
    intro m d _ h
    cases d <;> first | (cases m <;> simp [D.fit] <;> done) | (simp [D.fit] at h <;> done)
  | succ k ih =>
    intro m d hm h
    cases m with
    | zero => omega
    | succ m =>
      have fs : ∀ l : List D, D.fits k l = true → D.fits m l = true := fun l hl => by
        rw [fits_all, List.all_eq_true] at hl ⊢
        exact fun x hx => ih (by omega) (hl x hx)
      cases d with
      | lst l => rw [D.fit] at h ⊢; exact fs l h
      | tup l => rw [D.fit] at h ⊢; exact fs l h
      | _ => first | (simp [D.fit] <;> done) | (simp [D.fit] at h <;> done)
theorem Good.mono {k m w u : Nat} {d : D} (h : Good k w d) (h1 : k ≤ m) (h2 : w ≤ u) : Good m u d := ⟨fit_up h1 h.fit, h.small, Nat.le_trans h.wt h2⟩
theorem Good.fine {k w : Nat} {d : D} (h : Good k w d) (h1 : k ≤ 60) (h2 : w ≤ 16777216) : FineE d := ⟨fit_up h1 h.fit, h.small, Nat.le_trans h.wt h2⟩
theorem smalls_all : ∀ l : List D, D.smalls l = l.all D.small
  | [] => by simp [D.smalls]
  | d :: r => by rw [D.smalls, smalls_all r]; rfl
theorem wts_le {w : Nat} : ∀ l : List D, (∀ d ∈ l, D.wt d ≤ w) → D.wts l ≤ (w + 2) * l.length
  | [], _ => by simp [D.wts]
  | d :: r, h => by
    have := wts_le r fun x hx => h x (List.mem_cons_of_mem _ hx)
    have := h d List.mem_cons_self
    rw [D.wts, List.length_cons, Nat.mul_succ]
    omega
theorem Good.lstD {k w n : Nat} {l : List D} (hl : l.length ≤ n) (h : ∀ d ∈ l, Good k w d) : Good (k + 1) (4 + (w + 2) * n) (.lst l) := by
  refine ⟨?_, ?_, ?_⟩
  · rw [D.fit, fits_all, List.all_eq_true]; exact fun d hd => (h d hd).fit
  · rw [D.small, smalls_all, List.all_eq_true]; exact fun d hd => (h d hd).small
  · rw [D.wt]
    have := wts_le (w := w) l fun d hd => (h d hd).wt
    have := Nat.mul_le_mul_left (w + 2) hl
    omega
theorem Good.tupD {k w n : Nat} {l : List D} (hl : l.length ≤ n) (h : ∀ d ∈ l, Good k w d) : Good (k + 1) (4 + (w + 2) * n) (.tup l) := by
  refine ⟨?_, ?_, ?_⟩
  · rw [D.fit, fits_all, List.all_eq_true]; exact fun d hd => (h d hd).fit
  · rw [D.small, smalls_all, List.all_eq_true]; exact fun d hd => (h d hd).small
  · rw [D.wt]
    have := wts_le (w := w) l fun d hd => (h d hd).wt
    have := Nat.mul_le_mul_left (w + 2) hl
    omega
theorem Good.lst {α : Type} {f : α → D} {k w n : Nat} {l : List α} (hl : l.length ≤ n) (h : ∀ x ∈ l, Good k w (f x)) : Good (k + 1) (4 + (w + 2) * n) (.lst (l.map f)) := by
  refine Good.lstD (by rw [List.length_map]; exact hl) fun d hd => ?_
  obtain ⟨x, hx, rfl⟩ := List.mem_map.mp hd
  exact h x hx
theorem Good.tup {α : Type} {f : α → D} {k w n : Nat} {l : List α} (hl : l.length ≤ n) (h : ∀ x ∈ l, Good k w (f x)) : Good (k + 1) (4 + (w + 2) * n) (.tup (l.map f)) := by
  refine Good.tupD (by rw [List.length_map]; exact hl) fun d hd => ?_
  obtain ⟨x, hx, rfl⟩ := List.mem_map.mp hd
  exact h x hx
theorem good_str {x : Str} {n : Nat} (h : x.length ≤ n) : Good 0 (10 * n + 2) (.str x) := ⟨by simp [D.fit], by simp [D.small], by rw [D.wt]; omega⟩
theorem good_int {i : Int} (h : i.natAbs < 2 ^ 240) : Good 0 250 (.int i) := ⟨by simp [D.fit], by simpa [D.small] using h, by simp [D.wt]⟩
theorem good_nat {i : Nat} (h : i < 2 ^ 64) : Good 0 250 (.int (i : Int)) := good_int (by rw [Int.natAbs_natCast]; exact Nat.lt_trans h (by decide))
theorem good_bl {b : Bool} : Good 0 250 (.bl b) := ⟨by simp [D.fit], by simp [D.small], by simp [D.wt]⟩
theorem good_non : Good 0 250 .non := ⟨by simp [D.fit], by simp [D.small], by simp [D.wt]⟩
theorem good_strs {l : List Str} {n m : Nat} (hl : l.length ≤ n) (h : ∀ x ∈ l, x.length ≤ m) : Good 1 (4 + (10 * m + 4) * n) (.lst (l.map D.str)) := Good.lst hl fun x hx => good_str (h x hx)
theorem good_two {k w : Nat} {a b : D} (ha : Good k w a) (hb : Good k w b) : Good (k + 1) (2 * w + 8) (.lst [a, b]) :=
  (Good.lstD (n := 2) (Nat.le_refl _) (fun d hd => by
    rcases List.mem_cons.mp hd with rfl | hd
    · exact ha
    · rw [List.mem_singleton.mp hd]; exact hb)).mono (Nat.le_refl _) (by omega)
theorem good_pair {k w : Nat} {a b : D} (ha : Good k w a) (hb : Good k w b) : Good (k + 1) (2 * w + 8) (.tup [a, b]) :=
  (Good.tupD (n := 2) (Nat.le_refl _) (fun d hd => by
    rcases List.mem_cons.mp hd with rfl | hd
    · exact ha
    · rw [List.mem_singleton.mp hd]; exact hb)).mono (Nat.le_refl _) (by omega)
/-! ### sorted: lists of texts -/
theorem alikeAll_strs : ∀ a b : List Str, PySem.W.alikeAll (D.pys (a.map D.str)) (D.pys (b.map D.str)) = true
  | [], b => by rw [List.map_nil, D.pys]; simp [PySem.W.alikeAll]
  | x :: a, [] => by rw [List.map_nil, List.map_cons, D.pys, D.pys]; simp [PySem.W.alikeAll]
  | x :: a, y :: b => by
    rw [List.map_cons, List.map_cons, D.pys, D.pys, PySem.W.alikeAll, alikeAll_strs a b, D.py, D.py]
    simp [PySem.W.alike]
def setD (s : List Str) : D := .lst (s.map D.str)
/-- the order of lists of texts -/
def leL (a b : List Str) : Bool := D.le (setD a) (setD b)
def sortL (l : List (List Str)) : List (List Str) := l.mergeSort leL
theorem sortL_perm (l : List (List Str)) : (sortL l).Perm l := List.mergeSort_perm l leL
theorem mem_sortL {l : List (List Str)} {s : List Str} : s ∈ sortL l ↔ s ∈ l := (sortL_perm l).mem_iff
theorem gSorted_sets {xs : List (List Str)} {Q : Rv → Prop} : gSortedD [.lst (xs.map setD)] Q = Q (.fr (.l ((sortL xs).map setD))) := by
  have h1 : D.fits 40 (xs.map setD) = true := by
    rw [fits_all, List.all_eq_true]
    intro d hd
    obtain ⟨s, _, rfl⟩ := List.mem_map.mp hd
    exact fits_strs 39 s
  have h2 : PySem.W.AllAlike ((xs.map setD).map D.py) := by
    intro d hd e he
    obtain ⟨d', hd', rfl⟩ := List.mem_map.mp hd
    obtain ⟨e', he', rfl⟩ := List.mem_map.mp he
    obtain ⟨s, _, rfl⟩ := List.mem_map.mp hd'
    obtain ⟨t, _, rfl⟩ := List.mem_map.mp he'
    unfold setD
    rw [D.py, D.py, PySem.W.alike]
    exact alikeAll_strs s t
  have h3 : PySem.W.Sortable ((xs.map setD).map D.py) := by
    refine .inr fun d hd => ?_
    obtain ⟨d', hd', rfl⟩ := List.mem_map.mp hd
    obtain ⟨s, _, rfl⟩ := List.mem_map.mp hd'
    unfold setD
    rw [D.py]
    exact ⟨by simp, by simp⟩
  have hs : (xs.map setD).mergeSort D.le = (sortL xs).map setD := by
    unfold sortL
    rw [List.map_mergeSort (r := leL) (s := D.le) (f := setD) (hl := fun a _ b _ => rfl)]
  show (D.fits 40 (xs.map setD) = true ∧ PySem.W.AllAlike ((xs.map setD).map D.py) ∧ PySem.W.Sortable ((xs.map setD).map D.py) ∧ Q (.fr (.l ((xs.map setD).mergeSort D.le)))) = _
  rw [hs]
  exact propext ⟨fun z => z.2.2.2, fun z => ⟨h1, h2, h3, z⟩⟩
/-! ### data that stands for something else, one for one -/
structure Enc {α : Type} [DecidableEq α] (k : Nat) (e : α → D) : Prop where
  fit : ∀ x, D.fit k (e x) = true
  eqv : ∀ x y, D.eqv (e x) (e y) = decide (x = y)
section
variable {α β : Type} [DecidableEq α] [DecidableEq β] {e : α → D} {g : β → D} {k : Nat}
theorem enc_str : Enc 0 D.str := ⟨fun x => by simp [D.fit], fun x y => by rw [D.eqv, Str.beq_dec]⟩
theorem enc_int : Enc 0 D.int := ⟨fun x => by simp [D.fit], fun x y => by rw [D.eqv]; rfl⟩
theorem enc_nat : Enc 0 NatD := ⟨fun x => by simp [NatD, D.fit], fun x y => by
  rw [NatD, NatD, D.eqv]
  show decide ((x : Int) = y) = _
  exact decide_eq_decide.mpr Int.ofNat_inj⟩
theorem eqvs_enc (h : Enc k e) : ∀ a b : List α, D.eqvs (a.map e) (b.map e) = decide (a = b)
  | [], [] => by simp [D.eqvs]
  | [], _ :: _ => by simp [D.eqvs]
  | _ :: _, [] => by simp [D.eqvs]
  | x :: a, y :: b => by
    rw [List.map_cons, List.map_cons, D.eqvs, eqvs_enc h a b, h.eqv]
    simp only [List.cons.injEq, Bool.decide_and]
theorem fits_enc (h : Enc k e) (l : List α) : D.fits k (l.map e) = true := by
  rw [fits_all, List.all_eq_true]
  intro d hd
  obtain ⟨x, _, rfl⟩ := List.mem_map.mp hd
  exact h.fit x
theorem Enc.lst (h : Enc k e) : Enc (k + 1) fun l : List α => D.lst (l.map e) := ⟨fun l => by rw [D.fit]; exact fits_enc h l, fun a b => by rw [D.eqv]; exact eqvs_enc h a b⟩
theorem Enc.pair (h : Enc k e) (h2 : Enc k g) : Enc (k + 1) fun p : α × β => D.tup [e p.1, g p.2] := ⟨fun p => by rw [D.fit, D.fits, D.fits, D.fits, h.fit, h2.fit]; rfl, fun p q => by
  rw [D.eqv, D.eqvs, D.eqvs, D.eqvs, h.eqv, h2.eqv]
  obtain ⟨a, b⟩ := p
  obtain ⟨c, d⟩ := q
  simp only [Bool.and_true, Prod.mk.injEq, Bool.decide_and]⟩
theorem Enc.up (h : Enc k e) {m : Nat} (hm : k ≤ m) : Enc m e := ⟨fun x => fit_up hm (h.fit x), h.eqv⟩
theorem enc_set : Enc 1 setD := enc_str.lst
theorem gEq_fit {f : Bool → Bool} {a b : D} {Q : Rv → Prop} (h : D.fit 60 a = true) : gEq f a b Q = gEqD f a b Q := by
  cases a <;> first | rfl | (simp [D.fit] at h)
theorem gEq_enc (h : Enc k e) (hk : k ≤ 60) {f : Bool → Bool} {a b : α} {Q : Rv → Prop} : gEq f (e a) (e b) Q = Q (.v (.bl (f (decide (a = b))))) := by
  have h1 := fit_up hk (h.fit a)
  have h2 := fit_up hk (h.fit b)
  rw [gEq_fit h1]
  unfold gEqD
  rw [h1, h2, h.eqv]
  simp only [true_and]
theorem gEq_lsts (h : Enc k e) (hk : k ≤ 59) {f : Bool → Bool} {a b : List α} {Q : Rv → Prop} : gEq f (.lst (a.map e)) (.lst (b.map e)) Q = Q (.v (.bl (f (decide (a = b))))) := gEq_enc (e := fun l : List α => D.lst (l.map e)) h.lst (by omega)
theorem any_enc (h : Enc k e) (x : α) (l : List α) : ((l.map e).any fun z => D.eqv z (e x)) = decide (x ∈ l) := by
  induction l with
  | nil => simp
  | cons y r ih =>
    rw [List.map_cons, List.any_cons, ih, h.eqv]
    simp only [List.mem_cons, Bool.decide_or]
    congr 1
    exact decide_eq_decide.mpr eq_comm
theorem gIn_lst {f : Bool → Bool} {x : D} {ds : List D} {Q : Rv → Prop} : gIn f x (.lst ds) Q = (D.fit 60 x = true ∧ D.fits 59 ds = true ∧ Q (.v (.bl (f (ds.any fun z => D.eqv z x))))) := by
  cases x <;> rfl
theorem gIn_enc (h : Enc k e) (hk : k ≤ 59) {f : Bool → Bool} {l : List α} {x : α} {Q : Rv → Prop} : gIn f (e x) (.lst (l.map e)) Q = Q (.v (.bl (f (decide (x ∈ l))))) := by
  rw [gIn_lst, any_enc h, fit_up (by omega) (h.fit x), fits_enc (h.up hk)]
  simp only [true_and]
theorem gEq_sets {f : Bool → Bool} {a b : List (List Str)} {Q : Rv → Prop} : gEq f (.lst (a.map setD)) (.lst (b.map setD)) Q = Q (.v (.bl (f (decide (a = b))))) := gEq_lsts enc_set (by decide)
theorem gEq_set {f : Bool → Bool} {a b : List Str} {Q : Rv → Prop} : gEq f (setD a) (setD b) Q = Q (.v (.bl (f (decide (a = b))))) := gEq_strs
theorem gIn_set {f : Bool → Bool} {l : List (List Str)} {x : List Str} {Q : Rv → Prop} : gIn f (setD x) (.lst (l.map setD)) Q = Q (.v (.bl (f (decide (x ∈ l))))) := by
  have := gIn_enc enc_set (by decide) (f := f) (l := l) (x := x) (Q := Q)
  rw [this]
  congr 5
theorem gEq_ints {f : Bool → Bool} {a b : List Int} {Q : Rv → Prop} : gEq f (.lst (a.map D.int)) (.lst (b.map D.int)) Q = Q (.v (.bl (f (decide (a = b))))) := gEq_lsts enc_int (by decide)
theorem gEq_nats {f : Bool → Bool} {a b : List Nat} {Q : Rv → Prop} : gEq f (.lst (a.map NatD)) (.lst (b.map NatD)) Q = Q (.v (.bl (f (decide (a = b))))) := gEq_lsts enc_nat (by decide)
end
end DL
/-! Loops and comprehensions whose state says the same before each round. -/
namespace DL
open PySem PySem.Spec L2 PyProof.Rows
theorem forL_each {α : Type} (f : α → D) {g : TGd} {b : TSD} {E : EndsD} (M : SL → Prop) {l : List α} {ρ : SL} (hI : M ρ) (h0 : ∀ ρ, M ρ → E.nx ρ)
    (h1 : ∀ x ∈ l, ∀ (ρ : SL) (N : SL → Prop), (∀ ρ', M ρ' → N ρ') → M ρ → g (f x) ρ fun ρ1 => b { nx := N, rt := E.rt, bk := E.nx, ct := N, xc := E.xc } ρ1) : forL g b E (l.map f) ρ :=
  forL_on f (fun _ _ ρ => M ρ) hI h0 fun p x r ρ N e hN h => h1 x (by rw [e]; simp) ρ N hN h
theorem forL_times {g : TGd} {b : TSD} {E : EndsD} {lo c : Int} {n : Nat} (M : SL → Prop) {ρ : SL} (hI : M ρ) (h0 : ∀ ρ, M ρ → E.nx ρ)
    (h1 : ∀ (i : Nat) (ρ : SL) (N : SL → Prop), i < n → (∀ ρ', M ρ' → N ρ') → M ρ → g (.int (lo + (i : Int) * c)) ρ fun ρ1 => b { nx := N, rt := E.rt, bk := E.nx, ct := N, xc := E.xc } ρ1) : forL g b E (rangeC lo c n) ρ :=
  forL_rng (fun _ ρ => M ρ) hI h0 h1
theorem lcL_st {α : Type} (f e : α → D) (p : α → Bool) {g : TGd} {tt : TB} {te : TD} {vs : List Nat} {Q : List D → SL → Prop} (M : SL → Prop) {l : List α} {ρ : SL} (hlen : l.length ≤ 16777216) (hM : M ρ)
    (hs : ∀ x ∈ l, ∀ (N : List D → SL → Prop) (acc : List D) (ρ : SL), acc.length < 16777216 → M ρ → (p x = true → ∀ ρ', M ρ' → N (acc ++ [e x]) ρ') → (p x = false → ∀ ρ', M ρ' → N acc ρ') →
      g (f x) ρ fun ρ1 => tt ρ1 fun b ρ2 => if b = true then te ρ2 fun rv ρ3 => acc.length < sizeLine ∧ N (acc ++ [rv.dat]) (wipeD ρ3 vs) else N acc (wipeD ρ2 vs))
    (hQ : ∀ ρ, M ρ → Q ((l.filter p).map e) ρ) : lcL g tt te vs Q (l.map f) [] ρ := by
  refine lcL_on f (fun pre r acc ρ => acc = (pre.filter p).map e ∧ M ρ) ⟨rfl, hM⟩ ?_ ?_
  · rintro acc ρ ⟨rfl, h⟩; exact hQ ρ h
  · rintro pre x r acc ρ N hl hN ⟨rfl, h⟩
    have hacc : ((pre.filter p).map e).length < 16777216 := by
      rw [List.length_map]
      have h1 := List.length_filter_le p pre
      have h2 := congrArg List.length hl
      rw [List.length_append, List.length_cons] at h2
      omega
    refine hs x (by rw [hl]; simp) N _ ρ hacc h (fun hp ρ' h' => hN _ _ ⟨?_, h'⟩) fun hp ρ' h' => hN _ _ ⟨?_, h'⟩
    · rw [List.filter_append, List.map_append, List.filter_cons_of_pos (by exact hp)]; rfl
    · rw [List.filter_append, List.map_append, List.filter_cons_of_neg (by rw [hp]; decide)]; simp
theorem lcL_map {α : Type} (f e : α → D) {g : TGd} {tt : TB} {te : TD} {vs : List Nat} {Q : List D → SL → Prop} (M : SL → Prop) {l : List α} {ρ : SL} (hlen : l.length ≤ 16777216) (hM : M ρ)
    (hs : ∀ x ∈ l, ∀ (N : List D → SL → Prop) (acc : List D) (ρ : SL), acc.length < 16777216 → M ρ → (∀ ρ', M ρ' → N (acc ++ [e x]) ρ') →
      g (f x) ρ fun ρ1 => tt ρ1 fun b ρ2 => if b = true then te ρ2 fun rv ρ3 => acc.length < sizeLine ∧ N (acc ++ [rv.dat]) (wipeD ρ3 vs) else N acc (wipeD ρ2 vs))
    (hQ : ∀ ρ, M ρ → Q (l.map e) ρ) : lcL g tt te vs Q (l.map f) [] ρ := by
  refine lcL_st f e (fun _ => true) M hlen hM (fun x hx N acc ρ ha h h1 _ => hs x hx N acc ρ ha h (h1 rfl)) ?_
  rw [List.filter_eq_self.mpr fun _ _ => rfl]
  exact hQ
/-- a comprehension over numbers -/
theorem lcL_mapR (e : Nat → D) {g : TGd} {tt : TB} {te : TD} {vs : List Nat} {Q : List D → SL → Prop} {lo c : Int} {n : Nat} (M : SL → Prop) {ρ : SL} (hlen : n ≤ 16777216) (hM : M ρ)
    (hs : ∀ i, i < n → ∀ (N : List D → SL → Prop) (acc : List D) (ρ : SL), acc.length < 16777216 → M ρ → (∀ ρ', M ρ' → N (acc ++ [e i]) ρ') →
      g (.int (lo + (i : Int) * c)) ρ fun ρ1 => tt ρ1 fun b ρ2 => if b = true then te ρ2 fun rv ρ3 => acc.length < sizeLine ∧ N (acc ++ [rv.dat]) (wipeD ρ3 vs) else N acc (wipeD ρ2 vs))
    (hQ : ∀ ρ, M ρ → Q ((List.range n).map e) ρ) : lcL g tt te vs Q (rangeC lo c n) [] ρ := by
  unfold rangeC
  exact lcL_map _ e M (by rw [List.length_range]; exact hlen) hM (fun i hi => hs i (List.mem_range.mp hi)) hQ
theorem lcL_stR (e : Nat → D) (p : Nat → Bool) {g : TGd} {tt : TB} {te : TD} {vs : List Nat} {Q : List D → SL → Prop} {lo c : Int} {n : Nat} (M : SL → Prop) {ρ : SL} (hlen : n ≤ 16777216) (hM : M ρ)
    (hs : ∀ i, i < n → ∀ (N : List D → SL → Prop) (acc : List D) (ρ : SL), acc.length < 16777216 → M ρ → (p i = true → ∀ ρ', M ρ' → N (acc ++ [e i]) ρ') → (p i = false → ∀ ρ', M ρ' → N acc ρ') →
      g (.int (lo + (i : Int) * c)) ρ fun ρ1 => tt ρ1 fun b ρ2 => if b = true then te ρ2 fun rv ρ3 => acc.length < sizeLine ∧ N (acc ++ [rv.dat]) (wipeD ρ3 vs) else N acc (wipeD ρ2 vs))
    (hQ : ∀ ρ, M ρ → Q (((List.range n).filter p).map e) ρ) : lcL g tt te vs Q (rangeC lo c n) [] ρ := by
  unfold rangeC
  exact lcL_st _ e p M (by rw [List.length_range]; exact hlen) hM (fun i hi => hs i (List.mem_range.mp hi)) hQ
/-- the item at a place -/
theorem at_map {α : Type} (f : α → D) {l : List α} {k : Nat} {x : α} (h : l[k]? = some x) : atI (l.map f) (k : Int) = some (f x) :=
  atI_int (Int.natCast_nonneg _) (by rw [Int.toNat_natCast, List.getElem?_map, h]; rfl)
theorem at_mapI {α : Type} (f : α → D) {l : List α} {v : Int} (h0 : 0 ≤ v) (h1 : v < l.length) : ∃ x ∈ l, l[v.toNat]? = some x ∧ atI (l.map f) v = some (f x) := by
  have h : v.toNat < l.length := by omega
  exact ⟨l[v.toNat], List.getElem_mem h, List.getElem?_eq_getElem h, atI_int h0 (by rw [List.getElem?_map, List.getElem?_eq_getElem h]; rfl)⟩
end DL
/-! More methods of lists: extend, remove, index, count. -/
namespace DL
open PySem PySem.Spec L2 PyProof.Rows
section
variable {X : Cx}
/-! ### extend -/
def mExtend (l : List D) (ds : List D) (Q : List D → D → Prop) : Prop := match ds with
  | [.lst ms] => l.length + ms.length ≤ sizeLine ∧ Q (l ++ ms) .non
  | _ => False
theorem sem_extend : SemMut X.K rExtend mExtend := by
  intro F H p xs l vs ds Q Qd e hp dl dv h k
  unfold mExtend at h
  split at h
  · cases dv with
    | cons a b =>
      cases b
      cases a with
      | lst h1 h2 => exact ⟨p, _, xs, _, rfl, rfl, hp, e _ _ h1, by rw [dl.length, h2.length]; exact h.1, k _ _ _ _ h.2 (dl.append h2) .non⟩
  · exact h.elim
theorem de_extend {i : Nat} {x : Str} {px : Pos} {e : Expr} {apos cpos : Pos} {ta : TA} {t : TVs} (ho : PE X (.Name x px) (tVar i)) (ha : DV X [e] ta t)
    (hbase : attributeBase (.Name x px) "extend" X.env (eval (.Name x px) X.env) = eval (.Name x px) X.env := by rfl)
    (hfew : ((backTo cpos (starEach [e] X.env)).all (fun x => !x.1) && (backToKw cpos (keywordEach [] X.env)).all (fun x => x.1.isSome)
      && decide (([e] : List Expr).length + ([] : List Keyword).length + (if ([] : List Keyword).isEmpty then 0 else 1) < 30)) = true := by rfl)
    (hline : (apos.endLine == cpos.line) = true := by rfl) (hs : starEach [e] X.env = (false, eval e X.env) :: starEach [] X.env := by rfl) (hplain : (backTo cpos (starEach [] X.env)).any (·.1) = false := by rfl) :
    DE X (.Call (.Attribute (.Name x px) "extend" apos) [e] [] cpos) (tBM X.K "list" rExtend (tVar i) ta) (dMut i mExtend t) :=
  de_mut PySem.F.slot_list_extend PySem.F.type_list_extend (fun pins s σ H x xs v us Q => mt_extend pins s σ H x xs v us Q) sem_extend ho ha hbase hfew hline hs hplain
/-! ### remove -/
/-- x.remove(y): the first item that equals y goes -/
def rRemD (K : PySem.W.Frag) : V → List V → Hp → VK → Prop := fun x vs H Q => ∃ (l : Addr) (xs : List V) (y : V) (d : PyData) (ds : List PyData) (j : Nat), x = .ref l ∧ vs = [y] ∧ H l = some (.lst xs) ∧ DpAll K H xs ds ∧ Dp K H y d ∧
  SeqAt.shaped (.list ds) = true ∧ SeqAt.shaped d = true ∧ ds.findIdx? (fun z => PyData.eqv z d) = some j ∧ Q .non (upd H l (.lst (xs.eraseIdx j)))
theorem mt_removeD (hu : X.A.units + 65 < cLine) : MtR X "list.remove" (rRemD X.K) := by
  intro pins s σ H x vs v us Q I rx rxs h
  obtain ⟨a, xs, y, d, ds, j, rfl, rfl, hH, hl, hy, sl, sd, hz, q⟩ := h
  cases rx
  cases rxs with
  | cons ry rt =>
    rename_i uy ut
    cases rt
    obtain ⟨bs, r1⟩ := Dp.reads I d y uy hy ry
    have hxs : PyData.canLayAll0 ds = true := SeqAt.canLay_of_shaped sl
    have hroom : X.A.units + 1 + min (PyData.depthAll ds) d.depth < cLine := room_in_shaped sd hu
    obtain ⟨z, its, n, rv, hlen, ho⟩ := I.lstM hH
    obtain ⟨as, h4⟩ := Dp.readsAll I ds _ its hl rv
    have hn : its.length = ds.length := SeqAt.ReadsAll.length ds its as h4
    have hmap : its.map (SeqAt.readOf s.heap) = ds := SeqAt.readsAll_map ds its as hxs h4
    have hvl := rv.length
    have hsl := sizeLine_eq
    obtain ⟨hjd, hj1, hj2⟩ := List.findIdx?_eq_some_iff_getElem.mp hz
    have hjl : j < its.length := by omega
    have hj : j < its.toArray.size := by simpa using hjl
    have at_ : ∀ (m : Nat) (hm : m < its.toArray.size) (z' : PyData), ds[m]? = some z' → SeqAt.readOf s.heap its.toArray[m] = z' := by
      intro m hm z' hz'
      have hml : m < its.length := by simpa using hm
      rw [← hmap, List.getElem?_map, List.getElem?_eq_getElem hml] at hz'
      have e1 : SeqAt.readOf s.heap its[m] = z' := Option.some.inj (show some (SeqAt.readOf s.heap its[m]) = some z' from hz')
      simpa using e1
    refine call_meets PySem.F.slot_list_remove ⟨_, ho, rfl⟩ PySem.F.entry_list_remove (PySem.F.args_list_remove_2 _ _)
      (SeqAt.list_removeAt a its.toArray n _ _ uy (fun u => PyData.eqv (SeqAt.readOf s.heap u) d) j hj ?_ ?_ (by rw [List.size_toArray]; omega)) ⟨ho, SeqAt.items_eqAt (vs := its.toArray) (show ReadsAll s.heap its.toArray.toList ds as from h4) r1 hxs (SeqAt.canLay_of_shaped sd) hroom, ?_⟩
    · show PyData.eqv (SeqAt.readOf s.heap its.toArray[j]) d = true
      rw [at_ j hj _ (List.getElem?_eq_getElem hjd)]
      exact hj1
    · intro m hm hmj
      have hmd : m < ds.length := by omega
      have hz' : ds[m]? = some ds[m] := List.getElem?_eq_getElem hmd
      show PyData.eqv (SeqAt.readOf s.heap its.toArray[m]) d = false
      rw [at_ m hm _ hz']
      have := hj2 m hmj
      simpa using this
    · refine ⟨.non, _, I.lset (its' := its.eraseIdx j) (t' := s.toks) hH ho ?_ (rv.eraseIdx j) ?_, rfl, q⟩
      · show its.toArray.eraseIdxIfInBounds j = (its.eraseIdx j).toArray
        rw [List.eraseIdxIfInBounds_toArray]
      · have := List.length_eraseIdx_le xs j
        omega
theorem findIdx_py {d : D} (hd : D.fit 60 d = true) : ∀ l : List D, D.fits 59 l = true → (D.pys l).findIdx? (fun z => PyData.eqv z d.py) = l.findIdx? fun z => D.eqv z d
  | [], _ => by rw [D.pys]; rfl
  | x :: r, h => by
    rw [D.fits, Bool.and_eq_true] at h
    rw [D.pys, List.findIdx?_cons, List.findIdx?_cons, eqv_py x d 59 60 h.1 hd, findIdx_py hd r h.2]
theorem count_py {d : D} (hd : D.fit 60 d = true) : ∀ l : List D, D.fits 59 l = true → (D.pys l).countP (fun z => PyData.eqv z d.py) = l.countP fun z => D.eqv z d
  | [], _ => by rw [D.pys]; rfl
  | x :: r, h => by
    rw [D.fits, Bool.and_eq_true] at h
    rw [D.pys, List.countP_cons, List.countP_cons, eqv_py x d 59 60 h.1 hd, count_py hd r h.2]
def mRemove (l : List D) (ds : List D) (Q : List D → D → Prop) : Prop := match ds with
  | [d] => D.fits 59 l = true ∧ D.fit 60 d = true ∧ ∃ j, l.findIdx? (fun z => D.eqv z d) = some j ∧ Q (l.eraseIdx j) .non
  | _ => False
theorem shaped_lst {K : PySem.W.Frag} {F : Hp} {vs : List V} {l : List D} (h : DenL K F vs l) (hf : D.fits 59 l = true) : SeqAt.shaped (.list (D.pys l)) = true := by
  obtain ⟨h1, h2⟩ := fits_lay 59 l vs h hf
  unfold SeqAt.shaped
  rw [PyData.canLay0, h1, PyData.depth, decide_eq_true (by omega)]
  rfl
theorem sem_remove : SemMut X.K (rRemD X.K) mRemove := by
  intro F H p xs l vs ds Q Qd e hp dl dv h k
  unfold mRemove at h
  split at h
  · rename_i d
    obtain ⟨h1, h2, j, h3, q⟩ := h
    cases dv with
    | cons a b =>
      cases b
      exact ⟨p, xs, _, d.py, D.pys l, j, rfl, rfl, hp, (dl.mono e).dp h1, (a.mono e).dp h2, shaped_lst dl h1, shaped_of a h2, by rw [findIdx_py h2 l h1]; exact h3, k _ _ _ _ q (dl.eraseIdx j) .non⟩
  · exact h.elim
theorem de_remove (hu : X.A.units + 65 < cLine) {i : Nat} {x : Str} {px : Pos} {e : Expr} {apos cpos : Pos} {ta : TA} {t : TVs} (ho : PE X (.Name x px) (tVar i)) (ha : DV X [e] ta t)
    (hbase : attributeBase (.Name x px) "remove" X.env (eval (.Name x px) X.env) = eval (.Name x px) X.env := by rfl)
    (hfew : ((backTo cpos (starEach [e] X.env)).all (fun x => !x.1) && (backToKw cpos (keywordEach [] X.env)).all (fun x => x.1.isSome)
      && decide (([e] : List Expr).length + ([] : List Keyword).length + (if ([] : List Keyword).isEmpty then 0 else 1) < 30)) = true := by rfl)
    (hline : (apos.endLine == cpos.line) = true := by rfl) (hs : starEach [e] X.env = (false, eval e X.env) :: starEach [] X.env := by rfl) (hplain : (backTo cpos (starEach [] X.env)).any (·.1) = false := by rfl) :
    DE X (.Call (.Attribute (.Name x px) "remove" apos) [e] [] cpos) (tBM X.K "list" (rRemD X.K) (tVar i) ta) (dMut i mRemove t) :=
  de_mut PySem.F.slot_list_remove PySem.F.type_list_remove (mt_removeD hu) sem_remove ho ha hbase hfew hline hs hplain
/-! ### methods that only look -/
def SemLk (K : PySem.W.Frag) (r : V → List V → Hp → VK → Prop) (g : D → D → (Rv → Prop) → Prop) : Prop :=
  ∀ {G : Cd} {σ : L2.St} {H F : Hp} {ρ : SL} {x y : V} {a b : D} {Q : VK} {Qd : Rv → Prop}, Rep K G σ H F ρ → Pk K F H x a → Pk K F H y b → g a b Qd →
    (∀ rv z H' F', Qd rv → Same F F' → Rep K G σ H' F' ρ → RDen K G σ ρ H' F' z rv → Q z H') → r x [y] H Q
def dLk (g : D → D → (Rv → Prop) → Prop) (ta tb : TQ) : TD := fun ρ Q => ta ρ fun oa ρ1 => (∃ l, oa.get ρ1 = some (.lst l)) ∧ tb ρ1 fun ob ρ2 => match oa.get ρ2, ob.get ρ2 with
  | some a, some b => g a b fun r => Q r ρ2
  | _, _ => False
theorem de_lk {o e : Expr} {name : Str} {apos cpos : Pos} {id : String} {r : V → List V → Hp → VK → Prop} {g : D → D → (Rv → Prop) → Prop} {ta tb : TE} {da db : TQ}
    (slot : Slot "list" name id) (hty : typeOf (.builtin id) = pure (.type "method_descriptor")) (hm : MtR X id r) (hg : SemLk X.K r g) (ho : DO X o ta da) (he : DO X e tb db)
    (hbase : attributeBase o name X.env (eval o X.env) = eval o X.env := by rfl)
    (hfew : ((backTo cpos (starEach [e] X.env)).all (fun x => !x.1) && (backToKw cpos (keywordEach [] X.env)).all (fun x => x.1.isSome)
      && decide (([e] : List Expr).length + ([] : List Keyword).length + (if ([] : List Keyword).isEmpty then 0 else 1) < 30)) = true := by rfl)
    (hline : (apos.endLine == cpos.line) = true := by rfl) (hs : starEach [e] X.env = (false, eval e X.env) :: starEach [] X.env := by rfl) (hplain : (backTo cpos (starEach [] X.env)).any (·.1) = false := by rfl) :
    DE X (.Call (.Attribute o name apos) [e] [] cpos) (tBM X.K "list" r ta (tCons tb tNil)) (dLk g da db) := by
  refine ⟨pe_bm PySem.F.plainAttrs_list slot hty hm ho.pe (pa_cons he.pe pa_nil hs) hbase hfew hline hs hplain, fun {G σ H F ρ Q Qd} R q k => ?_⟩
  refine ho.sem R q fun oa ρ1 v H1 F1 q1 s1 R1 d1 => ?_
  obtain ⟨⟨l, el⟩, q1⟩ := q1
  obtain ⟨p, xs, rfl, h1, h2⟩ := (d1.pk R1 el).lst R1.ext
  refine ⟨.inl ⟨rfl, xs, .inl (.inl h1)⟩, he.sem R1 q1 fun ob ρ2 u H2 F2 q2 s2 R2 d2 => ?_⟩
  cases ea : oa.get ρ2 with
  | none => rw [ea] at q2; exact q2.elim
  | some x =>
    cases eb : ob.get ρ2 with
    | none => rw [ea, eb] at q2; exact q2.elim
    | some y =>
      rw [ea, eb] at q2
      exact hg R2 ((d1.mono s2).pk R2 ea) (d2.pk R2 eb) q2 fun rv z H' F' qd s3 R3 rd => k _ _ _ _ _ qd (s1.trans (s2.trans s3)) R3 rd
def gIndex : D → D → (Rv → Prop) → Prop
  | .lst l, d => fun Q => D.fits 59 l = true ∧ D.fit 60 d = true ∧ ∃ j : Nat, l.findIdx? (fun z => D.eqv z d) = some j ∧ Q (.v (.int j))
  | _, _ => fun _ => False
def gCount : D → D → (Rv → Prop) → Prop
  | .lst l, d => fun Q => D.fits 59 l = true ∧ D.fit 60 d = true ∧ Q (.v (.int (l.countP fun z => D.eqv z d : Nat)))
  | _, _ => fun _ => False
theorem sem_index : SemLk X.K (rIndexD X.K) gIndex := by
  intro G σ H F ρ x y a b Q Qd R ha hb h k
  unfold gIndex at h
  split at h
  · rename_i d l
    obtain ⟨h1, h2, j, h3, q⟩ := h
    obtain ⟨p, xs, rfl, e1, e2⟩ := ha.lst R.ext
    have h3' := h3
    rw [← findIdx_py h2 l h1] at h3'
    obtain ⟨z1, z2, z3⟩ := List.findIdx?_eq_some_iff_getElem.mp h3'
    refine ⟨p, y, b.py, D.pys l, j, (D.pys l)[j], rfl, rfl, .lst (.inl (.inl e1)) ((e2.mono R.ext).dp h1), ((hb.den R.ext).dp h2), shaped_lst e2 h1, shaped_of (hb.den R.ext) h2, List.getElem?_eq_getElem z1, z2, fun m z' hm hz => ?_, k _ _ _ _ q (Same.refl _) R (.int _)⟩
    obtain ⟨hm2, rfl⟩ := List.getElem?_eq_some_iff.mp hz
    have := z3 m hm
    simpa using this
  · exact h.elim
theorem de_index (hu : X.A.units + 65 < cLine) {o e : Expr} {apos cpos : Pos} {ta tb : TE} {da db : TQ} (ho : DO X o ta da) (he : DO X e tb db)
    (hbase : attributeBase o "index" X.env (eval o X.env) = eval o X.env := by rfl)
    (hfew : ((backTo cpos (starEach [e] X.env)).all (fun x => !x.1) && (backToKw cpos (keywordEach [] X.env)).all (fun x => x.1.isSome)
      && decide (([e] : List Expr).length + ([] : List Keyword).length + (if ([] : List Keyword).isEmpty then 0 else 1) < 30)) = true := by rfl)
    (hline : (apos.endLine == cpos.line) = true := by rfl) (hs : starEach [e] X.env = (false, eval e X.env) :: starEach [] X.env := by rfl) (hplain : (backTo cpos (starEach [] X.env)).any (·.1) = false := by rfl) :
    DE X (.Call (.Attribute o "index" apos) [e] [] cpos) (tBM X.K "list" (rIndexD X.K) ta (tCons tb tNil)) (dLk gIndex da db) :=
  de_lk PySem.F.slot_list_index PySem.F.type_list_index (mt_indexD hu) sem_index ho he hbase hfew hline hs hplain
def rCountD (K : PySem.W.Frag) : V → List V → Hp → VK → Prop := fun x xs H Q => ∃ (a : Addr) (y : V) (d : PyData) (ds : List PyData), x = V.ref a ∧ xs = [y] ∧ Dp K H (V.ref a) (.list ds) ∧ Dp K H y d ∧
  SeqAt.shaped (.list ds) = true ∧ SeqAt.shaped d = true ∧ Q (.int (ds.countP fun z => PyData.eqv z d : Nat)) H
theorem mt_countD (hu : X.A.units + 65 < cLine) : MtR X "list.count" (rCountD X.K) := by
  intro pins s σ H x xs v us Q I rx rxs h
  obtain ⟨a, y, d, ds, rfl, rfl, hl, hy, sl, sd, q⟩ := h
  cases rx
  cases rxs with
  | cons ry rt =>
    rename_i uy ut
    cases rt
    obtain ⟨bs, r1⟩ := Dp.reads I d y uy hy ry
    have hxs : PyData.canLayAll0 ds = true := SeqAt.canLay_of_shaped sl
    have hroom : X.A.units + 1 + min (PyData.depthAll ds) d.depth < cLine := room_in_shaped sd hu
    cases hl with
    | lst hs ha =>
      obtain ⟨its, rv, ⟨⟨cls, dd, data, sls⟩, n, ho, hc, hdn, hdt⟩, hlen⟩ := I.list hs
      simp only at hc hdt
      subst hc hdt
      obtain ⟨as, h4⟩ := Dp.readsAll I ds _ its ha rv
      have hmap : its.map (SeqAt.readOf s.heap) = ds := SeqAt.readsAll_map ds its as hxs h4
      refine call_meets PySem.F.slot_list_count ⟨_, ho, rfl⟩ PySem.F.entry_list_count (PySem.F.args_list_count_2 _ _)
        (SeqAt.list_countAt a its.toArray n dd sls uy (fun u => PyData.eqv (SeqAt.readOf s.heap u) d)) ⟨ho, SeqAt.items_eqAt (vs := its.toArray) (show ReadsAll s.heap its.toArray.toList ds as from h4) r1 hxs (SeqAt.canLay_of_shaped sd) hroom, ?_⟩
      refine ⟨.int (ds.countP fun z => PyData.eqv z d : Nat), H, I.tok _, ⟨s.toks, ?_⟩, q⟩
      rw [← hmap, List.countP_map]
      rfl
theorem sem_count : SemLk X.K (rCountD X.K) gCount := by
  intro G σ H F ρ x y a b Q Qd R ha hb h k
  unfold gCount at h
  split at h
  · rename_i d l
    obtain ⟨h1, h2, q⟩ := h
    obtain ⟨p, xs, rfl, e1, e2⟩ := ha.lst R.ext
    refine ⟨p, y, b.py, D.pys l, rfl, rfl, .lst (.inl (.inl e1)) ((e2.mono R.ext).dp h1), ((hb.den R.ext).dp h2), shaped_lst e2 h1, shaped_of (hb.den R.ext) h2, ?_⟩
    rw [count_py h2 l h1]
    exact k _ _ _ _ q (Same.refl _) R (.int _)
  · exact h.elim
theorem de_count (hu : X.A.units + 65 < cLine) {o e : Expr} {apos cpos : Pos} {ta tb : TE} {da db : TQ} (ho : DO X o ta da) (he : DO X e tb db)
    (hbase : attributeBase o "count" X.env (eval o X.env) = eval o X.env := by rfl)
    (hfew : ((backTo cpos (starEach [e] X.env)).all (fun x => !x.1) && (backToKw cpos (keywordEach [] X.env)).all (fun x => x.1.isSome)
      && decide (([e] : List Expr).length + ([] : List Keyword).length + (if ([] : List Keyword).isEmpty then 0 else 1) < 30)) = true := by rfl)
    (hline : (apos.endLine == cpos.line) = true := by rfl) (hs : starEach [e] X.env = (false, eval e X.env) :: starEach [] X.env := by rfl) (hplain : (backTo cpos (starEach [] X.env)).any (·.1) = false := by rfl) :
    DE X (.Call (.Attribute o "count" apos) [e] [] cpos) (tBM X.K "list" (rCountD X.K) ta (tCons tb tNil)) (dLk gCount da db) :=
  de_lk PySem.F.slot_list_count PySem.F.type_list_count (mt_countD hu) sem_count ho he hbase hfew hline hs hplain
end
/-! what these are of data that stand for things -/
section
variable {α : Type} [DecidableEq α] {e : α → D} {k : Nat}
theorem find_enc (h : Enc k e) (x : α) (l : List α) : (l.map e).findIdx? (fun z => D.eqv z (e x)) = l.findIdx? fun z => decide (z = x) := by
  rw [List.findIdx?_map]
  congr 1
  funext z
  exact h.eqv z x
theorem countP_enc (h : Enc k e) (x : α) (l : List α) : (l.map e).countP (fun z => D.eqv z (e x)) = l.count x := by
  rw [List.countP_map, List.count_eq_countP]
  congr 1
  funext z
  show D.eqv (e z) (e x) = (z == x)
  rw [h.eqv]
  rfl
theorem ne_of_lt_idxOf {x : α} : ∀ {l : List α} {j : Nat} (hj : j < l.idxOf x) {h : j < l.length}, l[j] ≠ x
  | [], j, hj, h => by simp at h
  | y :: r, j, hj, h => by
    rw [List.idxOf_cons, cond_eq_ite] at hj
    by_cases e : y = x
    · rw [if_pos (by simpa using e)] at hj; omega
    · rw [if_neg (by simpa using e)] at hj
      cases j with
      | zero => simpa using e
      | succ j => simpa using ne_of_lt_idxOf (l := r) (j := j) (x := x) (by omega) (h := by simpa using h)
theorem eraseIdx_mapD (f : α → D) : ∀ (l : List α) (j : Nat), (l.map f).eraseIdx j = (l.eraseIdx j).map f
  | [], j => by simp
  | a :: r, 0 => by simp
  | a :: r, j + 1 => by
    have ih := eraseIdx_mapD f r j
    simp [ih]
theorem mRemove_enc (h : Enc k e) (hk : k ≤ 59) {x : α} {l : List α} {Q : List D → D → Prop} (hx : x ∈ l) (q : Q ((l.erase x).map e) .non) : mRemove (l.map e) [e x] Q := by
  refine ⟨fits_enc (h.up hk) l, fit_up (by omega) (h.fit x), ?_⟩
  rw [find_enc h]
  have e1 : l.findIdx? (fun z => decide (z = x)) = some (l.idxOf x) := by
    have := List.idxOf_lt_length_of_mem hx
    rw [List.findIdx?_eq_some_iff_getElem]
    refine ⟨this, by simp, fun j hj => ?_⟩
    have := ne_of_lt_idxOf hj (h := by omega)
    simpa using this
  refine ⟨_, e1, ?_⟩
  have e2 : (l.map e).eraseIdx (l.idxOf x) = (l.erase x).map e := by
    rw [List.erase_eq_eraseIdx_of_idxOf rfl, eraseIdx_mapD]
  rw [e2]
  exact q
theorem gIndex_enc (h : Enc k e) (hk : k ≤ 59) {x : α} {l : List α} {Q : Rv → Prop} (hx : x ∈ l) (q : Q (.v (.int (l.idxOf x : Nat)))) : gIndex (.lst (l.map e)) (e x) Q := by
  refine ⟨fits_enc (h.up hk) l, fit_up (by omega) (h.fit x), l.idxOf x, ?_, q⟩
  rw [find_enc h]
  have := List.idxOf_lt_length_of_mem hx
  rw [List.findIdx?_eq_some_iff_getElem]
  refine ⟨this, by simp, fun j hj => ?_⟩
  have := ne_of_lt_idxOf hj (h := by omega)
  simpa using this
theorem gCount_enc (h : Enc k e) (hk : k ≤ 59) {x : α} {l : List α} {Q : Rv → Prop} (q : Q (.v (.int (l.count x : Nat)))) : gCount (.lst (l.map e)) (e x) Q := by
  refine ⟨fits_enc (h.up hk) l, fit_up (by omega) (h.fit x), ?_⟩
  rw [countP_enc h]
  exact q
end
end DL
/-! f(..)[k], where f hands on a tuple with a new thing in it: the thing is one's own. -/
namespace DL
open PySem PySem.Spec L2 PyProof.Rows
section
variable {X : Cx}
def dIxPt (t : TD) (k : Int) : TD := fun ρ Q => t ρ fun r ρ1 => match r with
  | .pt (.tup ds) hs => ∃ p c, atI ds k = some (.at p) ∧ hs.lookup p = some c ∧ Q (.fr c) ρ1
  | _ => False
theorem de_ixPt {a : Expr} {k : Int} {j : Nat} {cp pos : Pos} {ta : TE} {t : TD} (hu : X.A.units + 1 < cLine) (ha : DE X a ta t) (hs : PlainIx (.Constant (.int k) j cp) := by exact fun _ _ => rfl) :
    DE X (.Subscript a (.Constant (.int k) j cp) pos) (tOp (rIxA X.K) ta (tC (.int k))) (dIxPt t k) := by
  refine ⟨pe_ix (ix_any hu) ha.pe pe_int hs, fun {G σ H F ρ Q Qd} R q kk => ?_⟩
  refine ha.sem R q fun r ρ1 v H1 F1 q1 s1 R1 rd => ?_
  show rIxA X.K v (.int k) H1 Q
  split at q1
  · rename_i ds hs
    obtain ⟨p, c, e1, e2, q1⟩ := q1
    obtain ⟨g1, g2, g3⟩ := rd
    cases g1 with
    | tup h1 d1 =>
      obtain ⟨w, e3, dv⟩ := d1.atI e1
      cases dv
      obtain ⟨a1, a2, a3, a4⟩ := g3 p c (lookup_mem e2)
      exact .inl (.inr (.inl ⟨_, _, _, _, rfl, rfl, .inl (.inl (R1.ext _ _ h1)), e3, kk _ _ _ _ _ q1 s1 R1 ⟨p, rfl, a1, a2, a3, a4⟩⟩))
  · exact q1.elim
/-! e.remove(..), e an expression whose value a pile holds -/
theorem de_removeE (g : Nat) (hu : X.A.units + 65 < cLine) {o e : Expr} {to : TE} {t0 : TD} {apos cpos : Pos} {ta : TA} {t : TVs} (ho : DE X o to t0) (ha : DV X [e] ta t)
    (hbase : attributeBase o "remove" X.env (eval o X.env) = eval o X.env := by rfl)
    (hfew : ((backTo cpos (starEach [e] X.env)).all (fun x => !x.1) && (backToKw cpos (keywordEach [] X.env)).all (fun x => x.1.isSome)
      && decide (([e] : List Expr).length + ([] : List Keyword).length + (if ([] : List Keyword).isEmpty then 0 else 1) < 30)) = true := by rfl)
    (hline : (apos.endLine == cpos.line) = true := by rfl) (hs : starEach [e] X.env = (false, eval e X.env) :: starEach [] X.env := by rfl) (hplain : (backTo cpos (starEach [] X.env)).any (·.1) = false := by rfl) :
    DE X (.Call (.Attribute o "remove" apos) [e] [] cpos) (tBM X.K "list" (rRemD X.K) to ta) (dMutE g t0 mRemove t) :=
  de_mutE g PySem.F.slot_list_remove PySem.F.type_list_remove (mt_removeD hu) sem_remove ho ha hbase hfew hline hs hplain
end
end DL
/-! Calls that only look at their arguments and hand on something new and flat. -/
namespace DL
open PySem PySem.Spec L2 PyProof.Rows
mutual
/-- atoms, and tuples of such -/
def D.flat : D → Bool
  | .tup l => D.flats l
  | .non => true
  | .bl _ => true
  | .int _ => true
  | .str _ => true
  | .rep _ => true
  | .lst _ => false
  | .dct _ => false
  | .obj _ _ => false
  | .scr _ => false
  | .at _ => true
  | .exc _ _ _ _ _ => false
  | .unk => false
def D.flats : List D → Bool
  | [] => true
  | d :: r => D.flat d && D.flats r
end
def flatC (x : Addr × Cn) : Bool := match x.2 with
  | .l ds => D.flats ds
  | _ => false
def Rv.flat : Rv → Bool
  | .v d => d.flat
  | .fr (.l ds) => D.flats ds
  | .pt d hs => d.flat && hs.all flatC
  | _ => false
theorem flats_all : ∀ l : List D, D.flats l = l.all D.flat
  | [] => by rw [D.flats]; rfl
  | d :: r => by rw [D.flats, flats_all r]; rfl
theorem flats_map {α : Type} {f : α → D} (h : ∀ x, D.flat (f x) = true) (l : List α) : D.flats (l.map f) = true := by
  rw [flats_all, List.all_eq_true]
  intro d hd
  obtain ⟨x, _, rfl⟩ := List.mem_map.mp hd
  exact h x
theorem flats_strs (l : List Str) : D.flats (l.map D.str) = true := flats_map (fun x => by rw [D.flat]) l
theorem flats_nats (l : List Nat) : D.flats (l.map NatD) = true := flats_map (fun x => by rw [NatD, D.flat]) l
section
variable {K : PySem.W.Frag} {G : Cd} {σ : L2.St} {H F H' F' : Hp} {ρ : SL}
/-- one's own things -/
def Owns (σ : L2.St) (ρ : SL) (b : Addr) : Prop := (∃ (i : Nat) (s : Sl) (c : Cn), ρ[i]? = some s ∧ s.cn = some c ∧ σ[i]? = some (some (.ref b))) ∨ ∃ (i : Nat) (hs : List (Addr × Cn)) (c : Cn), ρ[i]? = some (.pl hs) ∧ (b, c) ∈ hs
open Classical in
/-- what stays, and one's own things as they are now -/
noncomputable def frz1 (σ : L2.St) (ρ : SL) (H F : Hp) : Hp := fun b => if Owns σ ρ b then H b else F b
theorem Owns.has (R : Rep K G σ H F ρ) {b : Addr} (h : Owns σ ρ b) : F b = none ∧ ∃ c, Has K F H b c := by
  rcases h with ⟨i, s, c, h1, h2, h3⟩ | ⟨i, hs, c, h1, h2⟩
  · obtain ⟨p, a, b1, b2⟩ := R.owned h1 h2
    rw [h3] at a
    cases a
    exact ⟨b2, c, b1⟩
  · obtain ⟨a, b1, _⟩ := R.pl.has i hs b c h1 h2
    exact ⟨b1, c, a⟩
theorem frz1_ext (R : Rep K G σ H F ρ) : Same F (frz1 σ ρ H F) := fun b o e => by
  unfold frz1
  by_cases h : Owns σ ρ b
  · rw [(h.has R).1] at e; cases e
  · rw [if_neg h]; exact e
theorem frz1_sub (R : Rep K G σ H F ρ) : Same (frz1 σ ρ H F) H := fun b o e => by
  unfold frz1 at e
  by_cases h : Owns σ ρ b
  · rw [if_pos h] at e; exact e
  · rw [if_neg h] at e; exact R.ext b o e
theorem frz1_tup (R : Rep K G σ H F ρ) {b : Addr} {xs : List V} (e : frz1 σ ρ H F b = some (.tup xs)) : F b = some (.tup xs) := by
  unfold frz1 at e
  by_cases h : Owns σ ρ b
  · rw [if_pos h] at e
    obtain ⟨_, c, hc⟩ := h.has R
    cases c with
    | l ds => obtain ⟨ys, a, _⟩ := hc; rw [a] at e; cases e
    | d kvs => obtain ⟨ys, a, _⟩ := hc; rw [a] at e; cases e
    | o C fs => obtain ⟨dx, gs, a, _⟩ := hc; rw [a] at e; cases e
    | k ob ks kvs => rw [hc.1] at e; cases e
  · rw [if_neg h] at e; exact e
theorem own_den (R : Rep K G σ H F ρ) {p : Addr} {c : Cn} (h : Has K F H p c) (ho : Owns σ ρ p) : Den K (frz1 σ ρ H F) (.ref p) c.dat := by
  obtain ⟨o, eo⟩ := h.ex
  exact h.den (frz1_ext R) eo (by unfold frz1; rw [if_pos ho]; exact eo)
theorem op_den1 (R : Rep K G σ H F ρ) {v : V} {o : Op} {d : D} (h : OpDen K F σ v o) (e : o.get ρ = some d) : Den K (frz1 σ ρ H F) v d := by
  cases o with
  | now d' => cases e; exact Den.mono (frz1_ext R) h
  | pl g p =>
    have hv : v = .ref p := h
    subst hv
    cases q : ρ[g]? with
    | none => simp only [Op.get, q] at e; cases e
    | some s =>
      cases s with
      | pl hs =>
        simp only [Op.get, q] at e
        cases q2 : hs.lookup p with
        | none => rw [q2] at e; cases e
        | some c =>
          rw [q2] at e
          cases e
          exact own_den R (R.pl.has g hs p c q (lookup_mem q2)).1 (.inr ⟨g, hs, c, q, lookup_mem q2⟩)
      | _ => simp only [Op.get, q] at e; cases e
  | «at» i =>
    have hv : σ[i]? = some (some v) := h
    cases q : ρ[i]? with
    | none => simp only [Op.get, q] at e; cases e
    | some s =>
      simp only [Op.get, q] at e
      cases s with
      | un => cases e
      | pl hs => cases e
      | sh d' =>
        cases e
        obtain ⟨w, a, b⟩ := R.sh i _ q
        rw [hv] at a
        cases a
        exact b.mono (frz1_ext R)
      | ow c =>
        cases e
        obtain ⟨p, a, b, _⟩ := R.ow i _ q
        rw [hv] at a
        cases a
        exact own_den R b (.inl ⟨i, _, c, q, rfl, hv⟩)
      | bw j c =>
        cases e
        obtain ⟨p, a, b, _⟩ := R.bw i j _ q
        rw [hv] at a
        cases a
        exact own_den R b (.inl ⟨i, _, c, q, rfl, hv⟩)
theorem ops_den1 (R : Rep K G σ H F ρ) : ∀ {vs : List V} {os : List Op} {ds : List D}, OpDens K F σ vs os → gets ρ os = some ds → DenL K (frz1 σ ρ H F) vs ds
  | _, _, _, .nil, e => by cases e; exact .nil
  | _, _, ds, .cons (o := o) (os := os) a b, e => by
    unfold gets at e
    cases q : o.get ρ with
    | none => rw [q] at e; cases e
    | some d =>
      rw [q] at e
      cases q2 : gets ρ os with
      | none => rw [q2] at e; cases e
      | some ds' =>
        rw [q2] at e
        cases e
        exact .cons (op_den1 R a q) (ops_den1 R b q2)
theorem ops_den1V (R : Rep K G σ H F ρ) {g : Nat} : ∀ {vs : List V} {os : List Op} {ds : List D}, OpDens K F σ vs os → getsV ρ g os = some ds → DenL K (frz1 σ ρ H F) vs ds
  | _, _, _, .nil, e => by cases e; exact .nil
  | _, _, ds, .cons (o := o) (os := os) a b, e => by
    unfold getsV at e
    cases q : o.view ρ g with
    | none => rw [q] at e; cases e
    | some d =>
      rw [q] at e
      cases q2 : getsV ρ g os with
      | none => rw [q2] at e; cases e
      | some ds' =>
        rw [q2] at e
        cases e
        unfold Op.view at q
        cases q3 : o.get ρ with
        | none => rw [q3] at q; cases q
        | some d0 =>
          rw [q3] at q
          cases q
          refine .cons (Den.res (fun p c e => ?_) (op_den1 R a q3)) (ops_den1V R b q2)
          obtain ⟨i, hs, z1, z2⟩ := pileOf_mem (lookup_mem e)
          exact own_den R (R.pl.has i hs p c z1 z2).1 (.inr ⟨i, hs, c, z1, z2⟩)
theorem Rep.grow2 (R : Rep K G σ H F ρ) {F2 : Hp} (e : Same H H') (h1 : Same F F2) (h2 : Same F2 H') (h3 : ∀ b o, F2 b = some o → F b = some o ∨ H b = none) : Rep K G σ H' F2 ρ := by
  have hh : ∀ p c, Has K F H p c → Has K F2 H' p c := fun p c h => by
    obtain ⟨o, ho⟩ := h.ex
    exact (h.at ((e p o ho).trans ho.symm)).mono h1
  have hn : ∀ p c, Has K F H p c → F p = none → F2 p = none := fun p c h hf => by
    obtain ⟨o, ho⟩ := h.ex
    cases q : F2 p with
    | none => rfl
    | some o' =>
      rcases h3 p o' q with z | z
      · rw [hf] at z; cases z
      · rw [ho] at z; cases z
  have hnew : ∀ a o, F2 a = some o → G.F0 a = some o ∨ G.H0 a = none ∨ G.L a := fun a o z => by
    rcases h3 a o z with y | y
    · exact R.new a o y
    · right; left
      cases q : G.H0 a with
      | none => rfl
      | some o' => obtain ⟨o2, z2⟩ := R.dom a o' q; rw [y] at z2; cases z2
  exact ⟨R.len, h2, fun i d z => let ⟨v, a, b⟩ := R.sh i d z; ⟨v, a, b.mono h1⟩, fun i c z => let ⟨p, a, b, d, g⟩ := R.ow i c z; ⟨p, a, hh p c b, hn p c b d, g⟩, fun i j c z => let ⟨p, a, b, d, g⟩ := R.bw i j c z; ⟨p, a, hh p c b, hn p c b d, g⟩, R.sep,
    R.fr0.trans h1, hnew, fun a o z nl nb => e a o (R.keep a o z nl nb), fun a o z => let ⟨o', k⟩ := R.dom a o z; ⟨o', e a o' k⟩, R.bd, R.lb,
    R.pl.to (fun _ _ z => z) (fun j s c' q e1 e2 e3 => .inl ⟨s, c', e1, e2, e3⟩) fun i hs q c _ _ a b d => ⟨hh q c a, hn q c a b, d⟩⟩
mutual
theorem flat_den {F2 : Hp} (ht : ∀ a xs, F' a = some (.tup xs) → F2 a = some (.tup xs)) : ∀ (d : D) (v : V), d.flat = true → Den K F' v d → Den K F2 v d
  | .tup l, v, h, e => by
    rw [D.flat] at h
    cases e with
    | tup a b => exact .tup (ht _ _ a) (flats_den ht l _ h b)
  | .non, v, h, e => by cases e; exact .non
  | .bl b, v, h, e => by cases e; exact .bl _
  | .int i, v, h, e => by cases e; exact .int _
  | .str x, v, h, e => by cases e with | str _ a => exact .str _ a
  | .rep d, v, h, e => by cases e; exact .rep d
  | .lst _, v, h, e => by rw [D.flat] at h; cases h
  | .dct _, v, h, e => by rw [D.flat] at h; cases h
  | .obj _ _, v, h, e => by rw [D.flat] at h; cases h
  | .scr _, v, h, e => by rw [D.flat] at h; cases h
  | .at _, v, h, e => by cases e; exact .at _
  | .exc _ _ _ _ _, v, h, e => by rw [D.flat] at h; cases h
  | .unk, v, h, e => by rw [D.flat] at h; cases h
theorem flats_den {F2 : Hp} (ht : ∀ a xs, F' a = some (.tup xs) → F2 a = some (.tup xs)) : ∀ (ds : List D) (vs : List V), D.flats ds = true → DenL K F' vs ds → DenL K F2 vs ds
  | [], vs, _, e => by cases e; exact .nil
  | d :: r, vs, h, e => by
    rw [D.flats, Bool.and_eq_true] at h
    cases e with
    | cons a b => exact .cons (flat_den ht d _ h.1 a) (flats_den ht r _ h.2 b)
end
open Classical in
theorem sem_look {sp : SpD} {vs : List V} {ds : List D} {Q : VK} {E : XK} {Qd : Rv → SL → Prop} (R : Rep K G σ H F ρ) (d : DenL K (frz1 σ ρ H F) vs ds)
    (q : sp (ds.map Sl.sh) fun r _ => r.flat = true ∧ Qd r ρ)
    (k : ∀ r ρ' v H' F', Qd r ρ' → Same F F' → Rep K G σ H' F' ρ' → RDen K G σ ρ' H' F' v r → Q v H') : lift K sp vs H Q E := by
  have sl : ∀ (i : Nat) (s : Sl), (ds.map Sl.sh)[i]? = some s → ∃ d, ds[i]? = some d ∧ s = .sh d := fun i s e => by
    rw [List.getElem?_map] at e
    cases q : ds[i]? with
    | none => rw [q] at e; cases e
    | some d => rw [q] at e; cases e; exact ⟨d, rfl, rfl⟩
  refine ⟨fun _ => none, frz1 σ ρ H F, ds.map Sl.sh, _, ?_, q, fun r outs σ' v H' F' ⟨ha, qd⟩ RC rd => ?_⟩
  · refine ⟨by rw [List.length_map, List.length_map, d.length], frz1_sub R, fun i d' e => ?_, fun i c e => ?_, fun i j c e => ?_, fun i j s t c c' p e1 e2 h1 h2 h3 h4 => ?_, Same.refl _, fun a o e => .inl e, fun a o e _ _ => e, fun a o e => ⟨o, e⟩, fun j p e => (nomatch e), fun _ _ z => z.elim, ?_⟩
    · obtain ⟨d2, e2, z⟩ := sl i _ e
      cases z
      obtain ⟨v, e3, e4⟩ := d.get e2
      exact ⟨v, by rw [List.getElem?_map, e3]; rfl, e4⟩
    · obtain ⟨d2, e2, z⟩ := sl i _ e; cases z
    · obtain ⟨d2, e2, z⟩ := sl i _ e; cases z
    · obtain ⟨d2, e2, z⟩ := sl i _ e1; subst z; cases h1
    · have no : ∀ (i : Nat) (hs : List (Addr × Cn)), (ds.map Sl.sh)[i]? ≠ some (.pl hs) := fun i hs e => by
        obtain ⟨d2, e2, z⟩ := sl i _ e; cases z
      exact ⟨fun i hs e => (no i hs e).elim, fun i hs p c e => (no i hs e).elim, fun i hs p c e => (no i hs e).elim, fun i j hs hs' p c c' e => (no i hs e).elim⟩
  · have e : Same H H' := fun a o z => RC.keep a o z (fun z => z) (fun j z => nomatch z)
    let F2 : Hp := fun b => if H b = none then F' b else F b
    have f1 : Same F F2 := fun b o z => by
      show (if H b = none then F' b else F b) = some o
      rw [if_neg (by rw [R.ext b o z]; exact fun w => nomatch w)]
      exact z
    have f2 : Same F2 H' := fun b o z => by
      have z' : (if H b = none then F' b else F b) = some o := z
      by_cases c : H b = none
      · rw [if_pos c] at z'; exact RC.ext b o z'
      · rw [if_neg c] at z'; exact e b o (R.ext b o z')
    have f3 : ∀ b o, F2 b = some o → F b = some o ∨ H b = none := fun b o z => by
      have z' : (if H b = none then F' b else F b) = some o := z
      by_cases c : H b = none
      · exact .inr c
      · rw [if_neg c] at z'; exact .inl z'
    have R2 := R.grow2 e f1 f2 f3
    have ht : ∀ a xs, F' a = some (.tup xs) → F2 a = some (.tup xs) := fun a xs z => by
      show (if H a = none then F' a else F a) = some _
      by_cases c : H a = none
      · rw [if_pos c]; exact z
      · rw [if_neg c]
        rcases RC.new a _ z with y | y | y
        · exact frz1_tup R y
        · exact (c y).elim
        · exact y.elim
    refine k _ _ _ _ _ qd f1 R2 ?_
    cases r with
    | v d => exact flat_den ht d v ha rd
    | fr c =>
      cases c with
      | l ds2 =>
        obtain ⟨p, rfl, ⟨xs, h1, h2⟩, h3, h4, _⟩ := rd
        have hp : H p = none := by
          rcases h4 with z | z
          · exact z
          · exact z.elim
        refine ⟨p, rfl, ⟨xs, h1, flats_den ht ds2 xs ha h2⟩, ?_, ?_, ?_⟩
        · show (if H p = none then F' p else F p) = none
          rw [if_pos hp]; exact h3
        · left
          cases q2 : G.H0 p with
          | none => rfl
          | some o' => obtain ⟨o2, z2⟩ := R.dom p o' q2; rw [hp] at z2; cases z2
        · refine ⟨fun i s c' z1 z2 z3 => ?_, fun i hs c z1 z2 => ?_⟩
          · obtain ⟨p', a, b, _⟩ := R.owned z1 z2
            rw [z3] at a
            cases a
            obtain ⟨o, ho⟩ := b.ex
            rw [hp] at ho; cases ho
          · obtain ⟨b, _⟩ := R.pl.has i hs p c z1 z2
            obtain ⟨o, ho⟩ := b.ex
            rw [hp] at ho; cases ho
      | _ => cases ha
    | pt d hs =>
      have ha' : (d.flat && hs.all flatC) = true := ha
      rw [Bool.and_eq_true, List.all_eq_true] at ha'
      obtain ⟨ha1, ha2⟩ := ha'
      obtain ⟨g1, g2, g3⟩ := rd
      refine ⟨flat_den ht d v ha1 g1, g2, fun p c m => ?_⟩
      obtain ⟨h1, h3, h4, _⟩ := g3 p c m
      have hc := ha2 _ m
      have hp : H p = none := by
        rcases h4 with z | z
        · exact z
        · exact z.elim
      cases c with
      | l ds2 =>
        obtain ⟨xs, h1, h2⟩ := h1
        have hc : D.flats ds2 = true := hc
        refine ⟨⟨xs, h1, flats_den ht ds2 xs hc h2⟩, ?_, ?_, ?_⟩
        · show (if H p = none then F' p else F p) = none
          rw [if_pos hp]; exact h3
        · left
          cases q2 : G.H0 p with
          | none => rfl
          | some o' => obtain ⟨o2, z2⟩ := R.dom p o' q2; rw [hp] at z2; cases z2
        · refine ⟨fun i s c' z1 z2 z3 => ?_, fun i hs c z1 z2 => ?_⟩
          · obtain ⟨p', a, b, _⟩ := R.owned z1 z2
            rw [z3] at a
            cases a
            obtain ⟨o, ho⟩ := b.ex
            rw [hp] at ho; cases ho
          · obtain ⟨b, _⟩ := R.pl.has i hs p c z1 z2
            obtain ⟨o, ho⟩ := b.ex
            rw [hp] at ho; cases ho
      | _ => cases hc
end
section
variable {X : Cx}
def dCallQ (sp : SpD) (t : TAs) : TD := fun ρ Q => t ρ fun os ρ1 => match gets ρ1 os with
  | some ds => sp (ds.map Sl.sh) fun r _ => r.flat = true ∧ Q r ρ1
  | none => False
def dCallVQ (g : Nat) (sp : SpD) (t : TAs) : TD := fun ρ Q => t ρ fun os ρ1 => match getsV ρ1 g os with
  | some ds => sp (ds.map Sl.sh) fun r _ => r.flat = true ∧ Q r ρ1
  | none => False
theorem sem_callQ {sp : SpD} {t : TAs} {es : List Expr} {ta : TA} {E : XK} (ha : DA X es ta t) {G : Cd} {σ : L2.St} {H F : Hp} {ρ : SL} {Q : VK} {Qd : Rv → SL → Prop} (R : Rep X.K G σ H F ρ) (q : dCallQ sp t ρ Qd)
    (k : ∀ r ρ' v H' F', Qd r ρ' → Same F F' → Rep X.K G σ H' F' ρ' → RDen X.K G σ ρ' H' F' v r → Q v H') : ta σ H fun vs H1 => lift X.K sp vs H1 Q E := by
  refine ha.sem R q fun os ρ1 vs H1 F1 q1 s1 R1 d1 => ?_
  cases ea : gets ρ1 os with
  | none => rw [ea] at q1; exact q1.elim
  | some ds =>
    rw [ea] at q1
    exact sem_look R1 (ops_den1 R1 d1 ea) q1 fun r ρ' v H' F' qd s2 R2 rd => k _ _ _ _ _ qd (s1.trans s2) R2 rd
theorem sem_callVQ {g : Nat} {sp : SpD} {t : TAs} {es : List Expr} {ta : TA} {E : XK} (ha : DA X es ta t) {G : Cd} {σ : L2.St} {H F : Hp} {ρ : SL} {Q : VK} {Qd : Rv → SL → Prop} (R : Rep X.K G σ H F ρ) (q : dCallVQ g sp t ρ Qd)
    (k : ∀ r ρ' v H' F', Qd r ρ' → Same F F' → Rep X.K G σ H' F' ρ' → RDen X.K G σ ρ' H' F' v r → Q v H') : ta σ H fun vs H1 => lift X.K sp vs H1 Q E := by
  refine ha.sem R q fun os ρ1 vs H1 F1 q1 s1 R1 d1 => ?_
  cases ea : getsV ρ1 g os with
  | none => rw [ea] at q1; exact q1.elim
  | some ds =>
    rw [ea] at q1
    exact sem_look R1 (ops_den1V R1 d1 ea) q1 fun r ρ' v H' F' qd s2 R2 rd => k _ _ _ _ _ qd (s1.trans s2) R2 rd
theorem de_callQ {CX : CXT} {k : Nat} {f : Addr} {fd : FuncData} {ps : List Str} {sp : SpD} {x : Str} {p pos : Pos} {e : Expr} {es : List Expr} {ta : TA} {t : TAs} {E : XK} (Fk : FnG X.prog X.w X.K X.mg X.base CX k f fd ps (lift X.K sp)) (hgd : X.A.guards = some []) (hr : Room k X.A)
    (hg : Gl X x) (hm : X.mg x = some (.ref f)) (hk : PySem.W.keepIn X.K (.ref f) = true) (hb : Binds X.K fd ps []) (hx : Passes CX X E) (ha : DA X (e :: es) ta t) (hdb : (x == ("__debug__" : Str)) = false := by decide)
    (he : starEach (e :: es) X.env = (false, eval e X.env) :: starEach es X.env := by rfl) (hpl : (backTo pos (starEach es X.env)).any (·.1) = false := by rfl) : DE X (.Call (.Name x p) (e :: es) [] pos) (tCall (lift X.K sp) [] E ta) (dCallQ sp t) :=
  ⟨pe_callG Fk hgd hr hg hm hk hb hx ha.pe hdb he hpl, fun {G σ H F ρ Q Qd} R q kk => by
    have z : ta σ H (fun vs H1 => lift X.K sp vs H1 Q E) := sem_callQ ha R q kk
    show ta σ H (fun vs H1 => lift X.K sp (vs ++ []) H1 Q E)
    simpa only [List.append_nil] using z⟩
theorem de_callVQ (g : Nat) {CX : CXT} {k : Nat} {f : Addr} {fd : FuncData} {ps : List Str} {sp : SpD} {x : Str} {p pos : Pos} {e : Expr} {es : List Expr} {ta : TA} {t : TAs} {E : XK} (Fk : FnG X.prog X.w X.K X.mg X.base CX k f fd ps (lift X.K sp)) (hgd : X.A.guards = some []) (hr : Room k X.A)
    (hg : Gl X x) (hm : X.mg x = some (.ref f)) (hk : PySem.W.keepIn X.K (.ref f) = true) (hb : Binds X.K fd ps []) (hx : Passes CX X E) (ha : DA X (e :: es) ta t) (hdb : (x == ("__debug__" : Str)) = false := by decide)
    (he : starEach (e :: es) X.env = (false, eval e X.env) :: starEach es X.env := by rfl) (hpl : (backTo pos (starEach es X.env)).any (·.1) = false := by rfl) : DE X (.Call (.Name x p) (e :: es) [] pos) (tCall (lift X.K sp) [] E ta) (dCallVQ g sp t) :=
  ⟨pe_callG Fk hgd hr hg hm hk hb hx ha.pe hdb he hpl, fun {G σ H F ρ Q Qd} R q kk => by
    have z : ta σ H (fun vs H1 => lift X.K sp vs H1 Q E) := sem_callVQ ha R q kk
    show ta σ H (fun vs H1 => lift X.K sp (vs ++ []) H1 Q E)
    simpa only [List.append_nil] using z⟩
/-! ### [x, y] == z and repr([x, y]): what is displayed is only looked at -/
def dDispEq (f : Bool → Bool) (t : TAs) (k : Nat) : TD := fun ρ Q => t ρ fun os ρ1 => match gets ρ1 os, (Op.at k).get ρ1 with
  | some ds, some b => ds.length ≤ sizeLine ∧ D.fit 60 (.lst ds) = true ∧ D.fit 60 b = true ∧ Q (.v (.bl (f (D.eqv (.lst ds) b)))) ρ1
  | _, _ => False
theorem sem_disp {es : List Expr} {ta : TA} {t : TAs} {f : Bool → Bool} {r : R2} {k : Nat} (ha : DA X es ta t)
    (hr : ∀ {H : Hp} {x y : V} {a b : D} {Q : VK}, Den X.K H x a → Den X.K H y b → D.fit 60 a = true → D.fit 60 b = true → Q (.bl (f (D.eqv a b))) H → r x y H Q)
    {G : Cd} {σ : L2.St} {H F : Hp} {ρ : SL} {Q : VK} {Qd : Rv → SL → Prop} (R : Rep X.K G σ H F ρ) (q : dDispEq f t k ρ Qd)
    (kk : ∀ r ρ' v H' F', Qd r ρ' → Same F F' → Rep X.K G σ H' F' ρ' → RDen X.K G σ ρ' H' F' v r → Q v H') : tOp r (tLst ta) (tVar k) σ H Q := by
  refine ha.sem R q fun os ρ1 vs H1 F1 q1 s1 R1 d1 => ?_
  cases ea : gets ρ1 os with
  | none => simp only [ea] at q1
  | some ds =>
    cases eb : (Op.at k).get ρ1 with
    | none => simp only [ea, eb] at q1
    | some b =>
      simp only [ea, eb] at q1
      obtain ⟨hz, hf1, hf2, q1⟩ := q1
      have dl := d1.dens R1 ea
      refine ⟨by rw [dl.length]; exact hz, fun p hp => ?_⟩
      have hs : Same H1 (upd H1 p (.lst vs)) := same_new hp
      have hv : ∃ v, σ[k]? = some (some v) ∧ Den X.K H1 v b := by
        cases q : ρ1[k]? with
        | none => simp only [Op.get, q] at eb; cases eb
        | some s =>
          simp only [Op.get, q] at eb
          cases s with
          | un => cases eb
          | pl hs => cases eb
          | sh d' => cases eb; obtain ⟨w, a, b⟩ := R1.sh k _ q; exact ⟨w, a, b.mono R1.ext⟩
          | ow c => cases eb; obtain ⟨p, a, b, _⟩ := R1.ow k _ q; obtain ⟨o, ho⟩ := b.ex; exact ⟨_, a, b.den R1.ext ho ho⟩
          | bw j c => cases eb; obtain ⟨p, a, b, _⟩ := R1.bw k j _ q; obtain ⟨o, ho⟩ := b.ex; exact ⟨_, a, b.den R1.ext ho ho⟩
      obtain ⟨v, e1, dv⟩ := hv
      refine ⟨v, e1, hr (.lst upd_same (dl.mono hs)) (dv.mono hs) hf1 hf2 ?_⟩
      exact kk _ _ _ _ _ q1 s1 (R1.grow hs) (.bl _)
theorem de_dispNe (hu : X.A.units + 64 < cLine) {es : List Expr} {lp npos pos : Pos} {x : Str} {ta : TA} {t : TAs} {k : Nat} (ha : DA X es ta t) (hk : PE X (.Name x npos) (tVar k)) (hm : behindInMarks .NotEq (.Name x npos) = false := by rfl) :
    DE X (.Compare (.List es lp) [.NotEq] [.Name x npos] pos) (tOp (rNeA X.K) (tLst ta) (tVar k)) (dDispEq not t k) :=
  ⟨pe_cmpR (op_neA hu) (pe_lst ha.pe) hk hm, fun R q kk => sem_disp ha (fun {H x y a b Q} da db fa fb q => .inl ⟨a.py, b.py, Den.dp da fa, Den.dp db fb, shaped_of da fa, shaped_of db fb, by rw [eqv_py a b 60 60 fa fb]; exact q⟩) R q kk⟩
theorem de_dispEq (hu : X.A.units + 64 < cLine) {es : List Expr} {lp npos pos : Pos} {x : Str} {ta : TA} {t : TAs} {k : Nat} (ha : DA X es ta t) (hk : PE X (.Name x npos) (tVar k)) (hm : behindInMarks .Eq (.Name x npos) = false := by rfl) :
    DE X (.Compare (.List es lp) [.Eq] [.Name x npos] pos) (tOp (rEqA X.K) (tLst ta) (tVar k)) (dDispEq id t k) :=
  ⟨pe_cmpR (op_eqA hu) (pe_lst ha.pe) hk hm, fun R q kk => sem_disp ha (fun {H x y a b Q} da db fa fb q => .inl ⟨a.py, b.py, Den.dp da fa, Den.dp db fb, shaped_of da fa, shaped_of db fb, by rw [eqv_py a b 60 60 fa fb]; exact q⟩) R q kk⟩
end
end DL
/-! a or b, of values of any kind. -/
namespace DL
open PySem PySem.Spec L2 PyProof.Rows
section
variable {X : Cx}
def tOrA (K : PySem.W.Frag) (ta tb : TE) : TE := fun σ H Q => ta σ H fun x H1 => ∃ c, TruV K x H1 c ∧ if c = true then Q x H1 else tb σ H1 Q
theorem pe_orA {a b : Expr} {rest : List Expr} {pos : Pos} {ta tb : TE} (ha : PE X a ta) (hb : PE X (.BoolOp .Or (b :: rest) pos) tb) : PE X (.BoolOp .Or (a :: b :: rest) pos) (tOrA X.K ta tb) := by
  refine ⟨fun pins s σ H Q I h => ?_⟩
  refine BoolOp_or (thn (ha.run pins s σ H _ I h) fun v s1 ⟨x, H1, I1, r1, q1⟩ => ?_)
  obtain ⟨c, hc, q1⟩ := q1
  refine thn (tru_ok pins s1 σ H1 x v (fun k H2 => k = c ∧ H2 = H1) I1 r1 ⟨c, hc, rfl, rfl⟩) fun k s2 e => ?_
  obtain ⟨H2, I2, rfl, rfl⟩ := e
  cases k with
  | false => exact hb.run pins s2 σ H2 Q I2 q1
  | true => exact ⟨x, H2, I2, r1, q1⟩
def dOrV (t u : TD) : TD := fun ρ Q => t ρ fun r ρ1 => gTruth r.dat fun b => if b = true then Q (.v r.dat) ρ1 else u ρ1 Q
theorem de_orV {a b : Expr} {rest : List Expr} {pos : Pos} {te tf : TE} {t u : TD} (h : DE X a te t) (h2 : DE X (.BoolOp .Or (b :: rest) pos) tf u) : DE X (.BoolOp .Or (a :: b :: rest) pos) (tOrA X.K te tf) (dOrV t u) :=
  ⟨pe_orA h.pe h2.pe, fun {G σ H F ρ Q Qd} R q k => h.sem R q fun r ρ1 v H1 F1 q1 s1 R1 rd => by
    obtain ⟨F2, s2, R2, d2⟩ := R1.share rd
    obtain ⟨c, tc, q2⟩ := Pk.truth R2.ext (.inl d2) q1
    refine ⟨c, tc, ?_⟩
    cases c with
    | true => rw [if_pos rfl] at q2 ⊢; exact k _ _ _ _ _ q2 (s1.trans s2) R2 d2
    | false => rw [if_neg Bool.false_ne_true] at q2 ⊢; exact h2.sem R2 q2 fun b ρ' v H' F' qd s3 R3 rd => k _ _ _ _ _ qd ((s1.trans s2).trans s3) R3 rd⟩
end
end DL
/-! An own error, made: its __init__ says super().__init__(text) and keeps one field. -/
namespace DL
open PySem PySem.W PySem.Calls PyProof.Rows PySem.HandSPX
def xA (par : Str) (p1 p2 : Pos) : Arguments := { posonlyargs := [], args := [{ arg := "self", annotation := none, pos := p1 }, { arg := par, annotation := none, pos := p2 }], vararg := none, kwonlyargs := [], kw_defaults := [], kwarg := none, defaults := [] }
def xB (txt : Str) (fld par : Str) (a1 a2 a3 a4 a5 a6 b1 b2 b3 b4 : Pos) : List Stmt :=
  [.Expr (.Call (.Attribute (.Call (.Name "super" a1) [] [] a2) "__init__" a3) [.Constant (.str txt) 0 a4] [] a5) a6, .Assign [.Attribute (.Name "self" b1) fld b2] (.Name par b3) b4]
def xS (par : Str) : Scope := { kind := .function, names := [(PySem.Str.ofString "self", .local), (par, .local), (PySem.Str.ofString "__class__", .free), (PySem.Str.ofString "super", .globalImplicit)], isGenerator := false, isCoroutine := false, more := [] }
theorem xcall_eq (env : Env) (a1 a2 a3 a4 a5 : Pos) (txt : Str) (h : (a3.endLine == a5.line) = true) :
    eval (.Call (.Attribute (.Call (.Name "super" a1) [] [] a2) "__init__" a3) [.Constant (.str txt) 0 a4] [] a5) env = (do
      let ov ← attributeBase (.Call (.Name "super" a1) [] [] a2) "__init__" env (eval (.Call (.Name "super" a1) [] [] a2) env)
      standAt a3.atName
      let (f, first) ← holding [ov] (getMethod ov "__init__" (do return (← importBound (.Call (.Name "super" a1) [] [] a2) env).getD true))
      callWith a5 f first (backTo a5 (starEach [.Constant (.str txt) 0 a4] env)) []) := by
  rw [eval]
  unfold methodCall methodCallPos
  rw [h]
  rfl
/-- what the written part says of an own error's class at C and of its __init__ at fI -/
structure XcT (prog : Program) (K : Frag) (mg : Str → Option Value) (x : Str) (C fI : Addr) (fld : Str) : Prop where
  gC : mg x = some (.ref C)
  cls : ∃ nm q N bs bm sn sub ab col dd k0 k1 k2 k3 k5, K.lookup C = some (excClassObj nm q C N bs bm true sn sub ab col dd k0 k1 k2 k3 k5 "ValueError.__new__") ∧ refsVE bm = true
  sa : findIn K (.ref C) "__setattr__" = some (some (.builtin "object.__setattr__"))
  noN : findIn K (.ref C) fld = some none
  iC : findIn K (.ref C) "__init__" = some (some (.ref fI))
  tC : typeIn K (.ref fI) = some (.type "function")
  kC : keepIn K (.ref C) = true
  exC : subIn K (.ref C) (.type "BaseException") = some true
  tyC : typeIn K (.ref C) = some (.type "type")
  sup : ks_superIn K C C "__init__" = some (some (.builtin "ValueError.__init__"))
  subV : subIn K (.ref C) (.type "ValueError") = some true
  selfC : mroIn K C (.ref C) = some true
  opq : nsIn K cStatics "thirdparty.any" = some none
  noS : mg "super" = none
  fn : ∃ (oc : Value) (od : Option Addr) (doc pm : Value) (an : Option Addr) (cda cc : Addr) (ct : Value) (osl : Array (Option Value)) (txt par q : Str) (p1 p2 a1 a2 a3 a4 a5 a6 b1 b2 b3 b4 : Pos),
    K.lookup fI = some ⟨oc, od, .func (ksFn "__init__" q (xA par p1 p2) (xB txt fld par a1 a2 a3 a4 a5 a6 b1 b2 b3 b4) (xS par) .none .none doc pm an (.ref cda) ct cc), osl⟩ ∧ codeIn K (.ref cda) q = true ∧
    (∃ ccl cdd vs ccs file tf, K.lookup cda = some ⟨ccl, cdd, .fields vs, ccs⟩ ∧ vs[2]? = some (.str file tf) ∧ ((prog.main.file : Str) == file) = true) ∧
    (∃ cl cld csl, K.lookup cc = some ⟨cl, cld, .cell (some (.ref C)), csl⟩) ∧
    (∀ (s : Shared) (a b : Value), BindsTo s (ksFn "__init__" q (xA par p1 p2) (xB txt fld par a1 a2 a3 a4 a5 a6 b1 b2 b3 b4) (xS par) .none .none doc pm an (.ref cda) ct cc) ⟨[a, b], []⟩ [("self", a), (par, b)]) ∧
    (a3.endLine == a5.line) = true ∧ (par == ("self" : Str)) = false ∧ (par == ("__class__" : Str)) = false ∧ (par == ("super" : Str)) = false ∧ (par == ("__debug__" : Str)) = false
  top : (prog.main.scope.names.lookup ("super" : Str)).isSome = false
section
variable {prog : Program} {w : World} {A : Around} {E : Value → Shared → Prop} {h : Heap} {g : Array GenState} {d : Drawn} {t : Nat} {os : OsState}
variable {nm q : Str} {C N : Addr} {bs bm : List Value} {hdct : Bool} {sn : List Str} {sub : List Value} {ab : Bool} {col : Option Bool} {dd : Option Addr} {k0 k1 k2 k3 k5 : Option Value}
/-- ValueError.__init__ bound to a new error, called -/
theorem xcall_mw {u e t0 : Addr} {rest : List Value} {Q : Value → Shared → Prop}
    (hC : h.get? C = some (excClassObj nm q C N bs bm hdct sn sub ab col dd k0 k1 k2 k3 k5 "ValueError.__new__")) (he : h.get? e = some (excO C t0)) (hu : h.get? u = some (kxs_mw "ValueError.__init__" e)) (hrest : rest.length ≤ sizeLine)
    (hq : ∀ h' t1, (∀ b o, b ≠ e → h.get? b = some o → h'.get? b = some o) → h'.get? e = some (excO C t1) → Q .none ⟨h', g, d, t, os⟩) :
    wpAny (model prog w) A (call (.ref u) rest) Q E ⟨h, g, d, t, os⟩ := by
  refine wpAny_call (codeAny_of_tree ?_)
  show wpAny _ A.in1 (callAny (.ref u) ⟨rest, []⟩) _ _ _
  simp only [callAny]
  refine wpAny_bind (wpAny_load hu ?_)
  simp only [kxs_mw, show (Value.type "method-wrapper" == Value.type "method" || Value.type "method-wrapper" == Value.type "builtin_function_or_method" || Value.type "method-wrapper" == Value.type "method-wrapper") = true by decide, if_true]
  refine KFB.if_so (by decide) ?_
  refine wpAny_bind (check_bound_init F.excBase_ValueError.toExcCallFacts hC he rfl ?_)
  refine wpAny_bind (wpAny_pure (wpAny_pure ?_))
  refine ⟨plainId_quiet F.excBase_ValueError.init.plain _, codeAny_builtin F.excBase_ValueError.initEntry ?_⟩
  exact exc_init_tree (cls := .ref C) (t0 := t0) (dv := none) (c2 := .none) (c3 := .none) (b4 := .bool false) he hrest fun h' k e1 _ => hq h' _ k e1
end
/-- what __init__ leaves of a fresh error at x -/
structure XEnd (h h' : Heap) (x C dx t1 : Addr) (fld : Str) (v : Value) : Prop where
  keep : ∀ b o, b ≠ x → h.get? b = some o → h'.get? b = some o
  obj : h'.get? x = some { cls := .ref C, dict := some dx, data := .fields #[.ref t1, .none, .none, .none, .bool false, .none] }
  dbig : h.objs.size ≤ dx
  dne : dx ≠ x
  ns : h'.Ns1 dx (fun y => if y = fld then some v else none)
theorem one_size (v : Value) : [v].length ≤ sizeLine := by
  rw [sizeLine_eq]
  exact (by decide : 1 ≤ 16777216)
section
variable {prog : Program} {w : World} {A : Around} {E : Value → Shared → Prop} {R : Result → Shared → Prop} {s : Shared} {K : Frag} {mg : Str → Option Value} {C fI : Addr} {nm fld : Str}
theorem lk1 {par : Str} (h1 : (par == ("super" : Str)) = false) : (xS par).names.lookup ("super" : Str) = some .globalImplicit := by
  have h1' : (("super" : Str) == par) = false := by rw [beq_eq_false_iff_ne] at *; exact fun z => h1 z.symm
  simp only [xS, List.lookup_cons]
  rw [show ((("super" : Str)) == PySem.Str.ofString "self") = false from by decide, h1']
  rfl
theorem lk2 {par : Str} (h1 : (par == ("__class__" : Str)) = false) : (xS par).names.lookup ("__class__" : Str) = some .free := by
  have h1' : (("__class__" : Str) == par) = false := by rw [beq_eq_false_iff_ne] at *; exact fun z => h1 z.symm
  simp only [xS, List.lookup_cons]
  rw [show ((("__class__" : Str)) == PySem.Str.ofString "self") = false from by decide, h1']
  rfl
theorem lk3 {par : Str} : (xS par).names.lookup ("self" : Str) = some .local := by
  simp only [xS, List.lookup_cons]
  rfl
theorem lk4 {par : Str} (h1 : (par == ("self" : Str)) = false) : (xS par).names.lookup par = some .local := by
  simp only [xS, List.lookup_cons]
  have e : (par == PySem.Str.ofString "self") = false := h1
  rw [e, beq_self_eq_true]
theorem bl1 {par : Str} {a b : Value} (h1 : (par == ("self" : Str)) = false) : ([(("self" : Str), a), (par, b)] : List (Str × Value)).reverse.lookup ("self" : Str) = some a := by
  have h1' : (("self" : Str) == par) = false := by rw [beq_eq_false_iff_ne] at *; exact fun z => h1 z.symm
  show List.lookup ("self" : Str) [(par, b), (("self" : Str), a)] = some a
  rw [List.lookup_cons, h1', List.lookup_cons, beq_self_eq_true]
theorem bl2 {par : Str} {a b : Value} : ([(("self" : Str), a), (par, b)] : List (Str × Value)).reverse.lookup par = some b := by
  show List.lookup par [(par, b), (("self" : Str), a)] = some b
  rw [List.lookup_cons, beq_self_eq_true]
theorem xinit (T : XcT prog K mg nm C fI fld) {x t0 : Addr} {v : Value} {mb : Str → Option Value} (X : K.In s.heap) (hlim : s.heap.NoLimit) (hg : s.heap.Ns mainGlobals mg) (hb : s.heap.Ns builtinsNs mb) (hbv : mb "super" = some (.type "super"))
    (hx : s.heap.get? x = some (excO C t0)) (hnx : K.lookup x = none) (hroom : A.depth < recursionLimit)
    (hq : ∀ h' tk dx t1, XEnd s.heap h' x C dx t1 fld v → R (.ok (.ret .none)) { s with heap := h', toks := tk }) :
    codeAny (model prog w) A (.call (.ref fI) ⟨[.ref x, v], []⟩) R s := by
  obtain ⟨oc, od, doc, pm, an, cda, cc, ct, osl, txt, par, q, p1, p2, a1, a2, a3, a4, a5, a6, b1, b2, b3, b4, ho, hcd, ⟨ccl, cdd, vs, ccs, file, tf, hcode, hvs, hfile⟩, ⟨cl, cld, csl, hcell⟩, hbind, hpos, n1, n2, n3, n4⟩ := T.fn
  obtain ⟨nm', q', N, bs, bm, sn, sub, ab, col, dd, k0, k1, k2, k3, k5, hC, hbm⟩ := T.cls
  have hcl : clsIn K C = some { name := nm', bases := bs, mro := .ref C :: bm, ns := N, qualname := q', hasDict := true, slotNames := sn, subclasses := sub, abstract := ab, collection := col, hasDel := false } := by unfold clsIn; rw [hC] <;> rfl
  refine ks_codeAny_call_defAt (fd := ksFn "__init__" q (xA par p1 p2) (xB txt fld par a1 a2 a3 a4 a5 a6 b1 b2 b3 b4) (xS par) .none .none doc pm an (.ref cda) ct cc) (body := xB txt fld par a1 a2 a3 a4 a5 a6 b1 b2 b3 b4) (binds := [("self", .ref x), (par, v)])
    hroom (X _ _ ho) rfl hlim (codeRec_of X hcd) rfl (hbind s (.ref x) v) ?_ ?_ (fun h₁ hns k₁ => ?_)
  · intro y hy
    simp only [ksFn, fnX, xS, List.mem_cons, List.not_mem_nil, or_false] at hy
    rcases hy with rfl | rfl | rfl | rfl <;> intro z <;> cases z
  · intro y hy
    simp only [List.mem_cons, List.not_mem_nil, or_false] at hy
    rcases hy with rfl | rfl
    · exact lk3
    · exact lk4 n1
  · have X₁ : K.In h₁ := X.keeps k₁
    have hx₁ := k₁ _ _ hx
    refine ks_wpAt_execs_cons (ks_wpAt_Expr_any (ks_wpAt_MethodCall ?_ (xcall_eq _ _ _ _ _ _ _ hpos)))
    refine ks_wpAt_super_base (env := ksEnv q (xS par) s.heap.objs.size fI (.ref cda) cc) (lk1 n3) (lk2 n2) (by decide) rfl (X₁ _ _ ho) rfl (ar := { arg := "self", annotation := none, pos := p1 }) rfl rfl (X₁ _ _ hcode) rfl hvs hfile T.top ?_
    refine ks_loadName_global rfl (lk1 n3) (loadGlobal_builtin (env := ksEnv q (xS par) s.heap.objs.size fI (.ref cda) cc) (hg.keeps k₁) T.noS (hb.keeps k₁) hbv ⟨rfl, ?_⟩)
    refine wpAny_loadName_free rfl (lk2 n2) rfl ⟨_, X₁ _ _ hcell, rfl⟩ ?_
    refine wpAny_loadName_local rfl lk3 hns (v := .ref x) ?_ ?_
    · exact bl1 n1
    have hD : h₁.get? C = some _ := X₁ _ _ hC
    refine ks_wpAny_isType_cls hD rfl ⟨rfl, ?_⟩
    refine ks_wpAny_call_super hD rfl hx₁ rfl (fun c z => nomatch z) (looks_mroIn X₁ T.selfC) (fun h₂ hso k₂ => ?_)
    have X₂ : K.In h₂ := X₁.keeps k₂
    have hx₂ := k₂ _ _ hx₁
    have I₂ : InstAt h₂ x (excO C t0) C none := ⟨hx₂, rfl, rfl, trivial⟩
    have hI : Looks (model prog w) h₂ (isInstance (.ref x) (.type "ValueError")) true := I₂.type.andThen (looks_subIn X₂ T.subV)
    have hsup := T.sup
    unfold ks_superIn at hsup
    rw [hcl] at hsup
    refine kxs_getMethod kxs_ValueError hso (looks_opaque X₂ T.opq) (l₀ := .ref C :: bm) ?_ rfl X₂ hsup hI (ks_ne X₂ I₂ hcl) (by decide) ?_
    · exact fun A Q E s k q => wpAny_bind ((looks_clsIn X₂ hcl) A _ E s k (wpAny_pure q))
    have k₃ : ∀ b o, h₂.get? b = some o → (h₂.push (kxs_mw "ValueError.__init__" x)).get? b = some o := fun b o e => Heap.get?_push_of_some _ e
    have hu : (h₂.push (kxs_mw "ValueError.__init__" x)).get? h₂.objs.size = some (kxs_mw "ValueError.__init__" x) := Heap.get?_push_at rfl rfl
    refine kxs_callWith (i := "ValueError.__init__") (x := x) rfl ?_
    refine evalArgs_plain ?_
    refine spliced_more (Calls.Constant_str ?_) rfl
    refine spliced_none ?_
    refine ⟨hu, ?_⟩
    refine xcall_mw (k₃ _ _ (X₂ _ _ hC)) (k₃ _ _ hx₂) hu (one_size _) fun h₄ t1 k₄ hx₄ => ?_
    have kk : ∀ b o, b ≠ x → s.heap.get? b = some o → h₄.get? b = some o := fun b o hb e => k₄ b o hb (k₃ b o (k₂ b o (k₁ b o e)))
    have X₄ : K.In h₄ := fun b o e => k₄ b o (fun z => by rw [z, hnx] at e; cases e) (k₃ b o (X₂ b o e))
    have hxL : s.heap.objs.size ≠ x := Nat.ne_of_gt (Heap.lt_size hx)
    have hns₄ : h₄.Ns s.heap.objs.size (fun y => ([(("self" : Str), Value.ref x), (par, v)] : List (Str × Value)).reverse.lookup y) := by
      obtain ⟨oL, es, ep, hL, r⟩ := hns
      exact ⟨oL, es, ep, k₄ _ _ hxL (k₃ _ _ (k₂ _ _ hL)), r⟩
    refine wpAt_of_wpAny ?_
    refine wpAny_execs_cons (plainObj_wpAny_Assign_Attribute ?_)
    refine wpAny_Name (wpAny_loadName_local rfl (lk4 n1) hns₄ (v := v) bl2 ?_) n4
    refine wpAny_Name (wpAny_loadName_local rfl lk3 hns₄ (v := .ref x) (bl1 n1) ?_) (by decide)
    refine set_plain X₄ (ox := excO C t1) (od := none) ⟨hx₄, rfl, rfl, trivial⟩ T.sa ?_
    refine exc_osa X₄ hx₄ hcl (show refsVE (.ref C :: bm) = true from hbm) rfl T.noN (fun h₃ tk₃ dx k₃' dn dne hx₃ hn₃ => ?_)
    show wpAny _ _ (execs _ _) _ _ _
    have z4 : s.heap.objs.size < h₄.objs.size := hns₄.lt
    exact wpAny_execs_nil (hq h₃ tk₃ dx t1 ⟨fun b o hb e => k₃' b o hb (kk b o hb e), hx₃, Nat.le_of_lt (Nat.lt_of_lt_of_le z4 dn), dne, hn₃⟩)
end
/-- a made error -/
structure XMade (h h' : Heap) (e C d : Addr) (fld : Str) (v : Value) : Prop where
  keep : ∀ b o, h.get? b = some o → h'.get? b = some o
  new : h.objs.size ≤ e
  obj : ∃ oe vs, h'.get? e = some oe ∧ oe.cls = .ref C ∧ oe.dict = some d ∧ oe.data = .fields vs ∧ vs[1]? = some .none
  dbig : h.objs.size ≤ d
  dne : d ≠ e
  ns : h'.Ns1 d (fun y => if y = fld then some v else none)
section
variable {prog : Program} {w : World} {A : Around} {E : Value → Shared → Prop} {R : Result → Shared → Prop} {s : Shared} {K : Frag} {mg : Str → Option Value} {C fI : Addr} {nm fld : Str}
theorem xmade (T : XcT prog K mg nm C fI fld) {v : Value} {mb : Str → Option Value} (X : K.In s.heap) (hlim : s.heap.NoLimit) (hg : s.heap.Ns mainGlobals mg) (hb : s.heap.Ns builtinsNs mb) (hbv : mb "super" = some (.type "super")) (hroom : A.depth + 1 < recursionLimit)
    (hq : ∀ h' tk e d, XMade s.heap h' e C d fld v → R (.ok (.ret (.ref e))) { s with heap := h', toks := tk }) :
    codeAny (model prog w) A (.call (.ref C) ⟨[v], []⟩) R s := by
  obtain ⟨nm, q, N, bs, bm, sn, sub, ab, col, dd, k0, k1, k2, k3, k5, hC, hbm⟩ := T.cls
  obtain ⟨hp, g, dr, tk, os⟩ := s
  have k : ∀ b o, hp.get? b = some o → ((hp.push (kdv_tup [v])).push (excO C hp.objs.size)).get? b = some o := fun b o e => Heap.get?_push_of_some _ (Heap.get?_push_of_some _ e)
  have hget : ((hp.push (kdv_tup [v])).push (excO C hp.objs.size)).get? (hp.objs.size + 1) = some (excO C hp.objs.size) := by heap_get
  have hnx : K.lookup (hp.objs.size + 1) = none := by
    cases e : K.lookup (hp.objs.size + 1) with
    | none => rfl
    | some o =>
      have z : hp.get? (hp.objs.size + 1) = some o := X _ _ e
      exact absurd (Nat.lt_of_succ_lt (Heap.lt_size z)) (Nat.lt_irrefl _)
  refine call_own F.excBase_ValueError (fun X => refsVE_contains X bm hbm) (X _ _ hC) (looks_findIn X T.iC) (fun self => bind_fn X self T.tC) (one_size v) ?_
  refine xinit (s := ⟨(hp.push (kdv_tup [v])).push (excO C hp.objs.size), g, dr, tk, os⟩) T (X.keeps k) (hlim.keeps k) (hg.keeps k) (hb.keeps k) hbv hget hnx ?_ fun h' tk' dx t1 ⟨k', hx, dn, dne, hns⟩ => ?_
  · show A.depth + 1 < recursionLimit
    exact hroom
  · have old : ∀ b o, hp.get? b = some o → h'.get? b = some o := fun b o e => k' b o (Nat.ne_of_lt (Nat.lt_succ_of_lt (Heap.lt_size e))) (k b o e)
    have z : hp.objs.size + 1 + 1 ≤ dx := by
      first
        | (simpa only [Heap.size_push] using dn)
        | exact dn
        | (have q := dn; rw [Heap.size_push, Heap.size_push] at q; exact q)
    exact ⟨rfl, hq h' tk' (hp.objs.size + 1) dx ⟨old, Nat.le_succ _, ⟨_, _, hx, rfl, rfl, rfl, rfl⟩, Nat.le_trans (Nat.le_trans (Nat.le_succ _) (Nat.le_succ _)) z, dne, hns⟩⟩
end
end DL
namespace DL
open PySem PySem.Spec PyProof.Rows L2
theorem relO_x {v : V} {v' : Value} (r : RelV v v') (fld f : Str) : RelO (List.lookup f [(fld, v)]) (if f = fld then some v' else none) := by
  by_cases hw : f = fld
  · subst hw
    rw [if_pos rfl]
    have q : List.lookup f [(f, v)] = some v := by simp [List.lookup]
    rw [q]
    exact r
  · rw [if_neg hw]
    have qw : (f == fld) = false := by simpa using hw
    have q2 : List.lookup f [(fld, v)] = none := by simp [List.lookup, qw]
    rw [q2]
    trivial
section
variable {X : Cx} {C fI : Addr} {nm fld : Str}
/-- Own(e) -/
def tMkX (C : Addr) (fld : Str) (ta : TA) : L2.St → Hp → XK → Prop := fun σ H Q => ta σ H fun vs H1 => ∃ v, vs = [v] ∧ ∀ d, H1 d = none → Q (.ref C) (some d) (upd H1 d (.xd [(fld, v)]))
theorem pmk_x {a : Expr} {ta : TA} {p pos : Pos} {k : Nat} (T : XcT X.prog X.K X.mg nm C fI fld) (hr : Room (k + 1) X.A) (ha : PA X [a] ta) (hg : Gl X nm) (hdb : (nm == ("__debug__" : Str)) = false := by decide)
    (he : starEach (a :: []) X.env = (false, eval a X.env) :: starEach [] X.env := by rfl) (hpl : (backTo pos (starEach [] X.env)).any (·.1) = false := by rfl) :
    PMk X (.Call (.Name nm p) [a] [] pos) (tMkX C fld ta) := by
  intro pins s σ H Q I h
  refine wpAny_Call_Name_kw (ld_glob I hg T.gC ?_ hdb)
  refine PySem.W.callWith_K (h₀ := X.base) I.ok.mod.kin T.kC (thn (ha.run pos pins s σ H _ I h) fun us s1 hh => ?_) he hpl
  obtain ⟨vs, H1, I1, r1, v, ev, q1⟩ := hh
  subst ev
  refine ⟨I1.kIn, ?_⟩
  cases r1 with
  | cons rv rn =>
    rename_i v' us'
    cases rn
    show wpAny _ _ (call (.ref C) [v']) _ _ _
    have hlim := I1.nolimit
    have hgl := I1.mod.glob.keeps I1.bk
    obtain ⟨mb, hb1, hb2⟩ := I1.mod.blt
    have hbl := hb1.keeps I1.bk
    obtain ⟨hp, g, dr, tk, os⟩ := s1
    refine wpAny_call (xmade T I1.kIn hlim hgl hbl ((hb2 _ (by decide)).trans (by first | boot_by_name | rfl | kernel_rfl)) (by have := hr.dp; omega) fun h' tk' e d M => ?_)
    show MkP X pins σ Q (.ref e) ⟨h', g, dr, tk', os⟩
    obtain ⟨oe, fv, hoe, hc, hd, hdat, h1⟩ := M.obj
    have hns := M.ns
    obtain ⟨G', g1, g2⟩ := restrict h' fun b => decide (b ≠ e)
    have gk : ∀ b, b ≠ e → G'.get? b = h'.get? b := fun b hb => g1 b (decide_eq_true hb)
    have ge : G'.get? e = none := g2 e (by simp)
    have old : ∀ b o, hp.get? b = some o → G'.get? b = some o := fun b o q => (gk b (Nat.ne_of_lt (Nat.lt_of_lt_of_le (Heap.lt_size q) M.new))).trans (M.keep b o q)
    have ob : ObjOk X.prog X.w (upd H1 d (.xd [(fld, v)])) G' d (.xd [(fld, v)]) :=
      ⟨_, hns.at (fun o q => (gk d M.dne).trans q), fun f => relO_x rv fld f⟩
    have J : Inv X pins σ (upd H1 d (.xd [(fld, v)])) ⟨G', g, dr, tk', os⟩ := I1.laid (t' := tk') old M.dbig ob
    refine ⟨e, oe, fv, ⟨G', g, dr, tk', os⟩, _, .ref C, some d, rfl, J, fun b o q => ?_, ge, hoe, ⟨hc, hd⟩, hdat, h1, ?_, rfl, I1.bare, raises_own T.exC T.tyC, q1 d (I1.hok.fresh M.dbig)⟩
    · by_cases hb : b = e
      · have q' : G'.get? b = some o := q
        rw [hb, ge] at q'; cases q'
      · exact (gk b hb).symm.trans q
    · rw [upd_ne (Ne.symm M.dne)]
      exact I1.hok.fresh M.new
end
end DL
/-! isinstance of a caught error that has its own dict. -/
namespace PySem.W
open PySem PySem.Spec PySem.Calls PyProof.Rows
section
variable {prog : Program} {w : World} {A : Around} {E : Value → Shared → Prop} {s : Shared} {K : Frag} {x D : Addr} {ox : Obj} {od : Option Obj}
theorem kin_classD {Q : Option Value → Shared → Prop} (C : L2.ExcC K D) (X : K.In s.heap) (I : InstAt s.heap x ox D od) (h : Q (some (.ref D)) { s with toks := s.toks + 1 }) : wpAny (model prog w) A (getAttr? (.ref x) "__class__") Q E s := by
  have hf : findObj K D od "__class__" = some (.bind (.builtin "getset_descriptor.__get__") (.builtin "object.__class__")) := by
    have q : (clsIn K D).isSome = true := by obtain ⟨cd, hc, _⟩ := any_some C.hd; rw [hc]; rfl
    cases od with
    | none => exact findObj_dataN q C.ha C.hn C.ht
    | some o => exact findObj_data q C.ha C.hn C.ht
  obtain ⟨hp, g, d, t, os⟩ := s
  have L0 := I.type (M := model prog w)
  have L1 := looks_findIn (M := model prog w) X C.hg
  have L2 := looks_findIn (M := model prog w) X C.hk
  have L3 := looks_find (M := model prog w) X I hf
  have sub : Looks (model prog w) hp (isInstance (.ref x) (.type "BaseException")) true := L0.andThen (looks_subIn X C.hs)
  have hx0 : (false && onTheHeap (Value.builtin "BaseException.__getattribute__")) = false := rfl
  have hx2 : (Value.builtin "BaseException.__getattribute__" == Value.builtin "object.__getattribute__") = false := by decide +kernel
  have hx1 : (onTheHeap (Value.ref D) && Value.builtin "BaseException.__getattribute__" == Value.builtin "object.__getattribute__") = false := by rw [hx2]; rfl
  unfold getAttr? getAttrBy? getAttrBy
  refine wpAny_bind (wpAny_mkText (wpAny_bind (wpAny_attempt (wpAny_holding (wpAny_bind (L0.at (wpAny_bind (L1.at ?_))))))))
  show wpAny _ _ (if (onTheHeap (Value.ref D) && Value.builtin "BaseException.__getattribute__" == Value.builtin "object.__getattribute__") = true then _ else _) _ _ _
  rw [hx1, if_neg Bool.false_ne_true]
  unfold getAttrByItsOwn hookBefore
  refine wpAny_bind ?_
  rw [if_pos (show onTheHeap (Value.ref D) = true from rfl)]
  refine L2.at ?_
  refine wpAny_bind (wpAny_attempt (wpAny_holding ?_))
  unfold callGetattribute
  rw [hx0, if_neg Bool.false_ne_true]
  unfold boundAndCalled
  rw [PySem.F.excAttr_ValueError.ga.bind (.ref x)]
  refine wpAny_bind (wpAny_pure ?_)
  show wpAny _ _ (call (.builtin "BaseException.__getattribute__") [.ref x, .str "__class__" t]) _ _ _
  refine wpAny_call (codeAny_call_builtin PySem.F.excAttr_ValueError.ga.plain PySem.F.entry_bexc_ga ?_)
  refine @check_slot (model prog w) _ _ ⟨hp, g, d, t + 1, os⟩ "BaseException.__getattribute__" "BaseException" "__getattribute__" (.ref x) [.str "__class__" t] [] _ (by decide +kernel) (by decide +kernel) sub (PySem.F.args_bexc_ga (.ref x) (.str "__class__" t)) ?_
  unfold Builtin.«object.__getattribute__»
  refine wpAny_bind (wpAny_of_eq (a := ((Value.ref x : Value), [Value.str "__class__" t])) (by first | rfl | (simp only [slotArgs]; rfl)) ?_)
  refine wpAny_bind (wpAny_pure (wpAny_bind (L0.at (wpAny_bind (L3.at ?_)))))
  show wpAny _ _ (holding [Value.builtin "object.__class__"] (call (.builtin "getset_descriptor.__get__") [.builtin "object.__class__", .ref x, .ref D]) >>= ret) _ _ _
  refine wpAny_bind (wpAny_holding (wpAny_call (class_get (s := ⟨hp, g, d, t + 1, os⟩) (ox := ox) (od := od) X I C.hm ?_)))
  refine wpAny_pure ?_
  show wpAny _ _ (handedOut (.ref D)) _ _ _
  rw [handedOut_of (v := .ref D) rfl]
  first
    | exact wpAny_pure (wpAny_pure h)
    | exact wpAny_pure h
    | exact wpAny_pure (wpAny_bind (wpAny_pure (wpAny_pure h)))
theorem kitx_excD (C : L2.ExcC K D) : KitX K (.ref x) (.ref D) (fun h => ∃ od, InstAt h x ox D od) where
  ty := fun _ _ _ ⟨_, I⟩ => I.type
  it := fun _ _ X _ => by
    obtain ⟨cdD, hcD, _⟩ := any_some C.hd
    unfold clsIn at hcD
    split at hcD
    · rename_i c' d' cd' sl' ho
      intro A' Q' E' s' k q
      unfold isType loadHead
      exact wpAny_bind (wpAny_loadPart (k _ _ (X _ _ ho)) (wpAny_pure q))
    · cases hcD
  ne := fun h tp dd its n sl X htp => by
    obtain ⟨cdD, hcD, _⟩ := any_some C.hd
    refine Bool.eq_false_iff.mpr fun q => ?_
    have e : D = tp := Value.ref.inj (beq_iff_eq.mp q)
    subst e
    unfold clsIn at hcD
    split at hcD
    · rename_i c' d' cd' sl' ho
      have z := (X _ _ ho).symm.trans htp
      cases z
    · cases hcD
  ca := fun X ⟨_, I⟩ k => kin_classD C X I k
end
end PySem.W
namespace L2
open PySem PySem.Spec PyProof.Rows
/-- the error's own dict lies there -/
def XAt (H : Hp) (d : Option Addr) : Prop := match d with
  | none => True
  | some dd => ∃ fs, H dd = some (.xd fs)
def rIsX (K : PySem.W.Frag) (D a : Addr) (d : Option Addr) : List V → Hp → VK → Prop := fun xs H Q => ∃ (c : V) (cv : Value) (b : Bool), xs = [.ref a, c] ∧ ClsV c cv ∧ XAt H d ∧ PySem.W.kitOne K (.ref D) cv = some b ∧ Q (.bl b) H
def rIsXT (K : PySem.W.Frag) (D a : Addr) (d : Option Addr) : List V → Hp → VK → Prop := fun xs H Q => ∃ (tp : Addr) (cs : List V) (us : List Value) (b : Bool), xs = [.ref a, .ref tp] ∧ H tp = some (.tup cs) ∧ Paired ClsV cs us ∧ XAt H d ∧ PySem.W.kitAny K (.ref D) us = some b ∧ Q (.bl b) H
section
variable {X : Cx} {a D : Addr} {d : Option Addr} {oe : Obj} {pn : List (Addr × Obj)} {pins : List (Addr × Obj)} {σ : St} {H : Hp} {s : Shared}
theorem instX (hz : Zc (.ref D) d oe) (hf : ∃ vs, oe.data = .fields vs) (I : Inv (X.suite a ((a, oe) :: pn)) pins σ H s) (hd : XAt H d) : ∃ od, PySem.W.InstAt s.heap a oe D od := by
  obtain ⟨hget, _⟩ := I.pin (a, oe) (List.mem_append.mpr (.inl List.mem_cons_self))
  obtain ⟨vs, hv⟩ := hf
  cases d with
  | none => exact ⟨none, hget, hz.1, by unfold PySem.W.notCls; rw [hv] <;> rfl, by rw [hz.2]; trivial⟩
  | some dd =>
    obtain ⟨fs, ea⟩ := hd
    have hx : ObjOk X.prog X.w H s.heap dd (.xd fs) := I.hok dd _ ea
    obtain ⟨mA, hns, hr⟩ := hx
    obtain ⟨od, ho, hl⟩ := lookIn_ns hns
    exact ⟨some od, hget, hz.1, by unfold PySem.W.notCls; rw [hv] <;> rfl, by rw [hz.2]; exact ho⟩
theorem call_isX (C : ExcC X.K D) (hz : Zc (.ref D) d oe) (hf : ∃ vs, oe.data = .fields vs) : CallR (X.suite a ((a, oe) :: pn)) (.builtin "isinstance") (rIsX X.K D a d) := by
  intro pins s σ H xs us Q I r h
  obtain ⟨c, cv, b, rfl, hcv, hd, e, q⟩ := h
  cases r with
  | cons rx rr =>
    cases rr with
    | cons rt rr =>
      cases rr
      cases rx
      have ec := hcv.eq rt
      subst ec
      exact PySem.W.kia_one (PySem.W.kitx_excD C) I.kIn (instX hz hf I hd) e (fun z => nomatch z) fun tk => ⟨.bl b, H, I.kept (t' := tk) fun _ _ z => z, rfl, q⟩
theorem call_isXT (C : ExcC X.K D) (hz : Zc (.ref D) d oe) (hf : ∃ vs, oe.data = .fields vs) : CallR (X.suite a ((a, oe) :: pn)) (.builtin "isinstance") (rIsXT X.K D a d) := by
  intro pins s σ H xs us Q I r h
  obtain ⟨tp, cs, ws, b, rfl, hT, k, hd, e, q⟩ := h
  obtain ⟨u1, u2, rfl, r1, r2⟩ := vals2 r
  cases (show u1 = Value.ref a from r1)
  cases (show u2 = Value.ref tp from r2)
  obtain ⟨_, its, rv, o, h1, h2, n, h3⟩ := (show ObjOk X.prog X.w H s.heap tp (.tup cs) from I.hok tp _ hT)
  have e3 := ClsV.all k rv
  subst e3
  obtain ⟨oc, od, dt, sl⟩ := o
  simp only at h2 h3
  subst h2 h3
  exact PySem.W.kia_tup (PySem.W.kitx_excD C) I.kIn (instX hz hf I hd) h1 e (fun z => nomatch z) fun tk => ⟨.bl b, H, I.kept (t' := tk) fun _ _ z => z, rfl, q⟩
end
end L2
/-! Defs that raise, told over data; raise; calls of such defs. -/
namespace DL
open PySem PySem.Spec L2 PyProof.Rows
/-- a raising def's promise over data: the wanted end, the wanted error (its class, its one field or none, the lent things) -/
abbrev SpX := SL → (Rv → SL → Prop) → WXD → Prop
def liftX (K : PySem.W.Frag) (sp : SpX) : Sp := fun vs H Q E => ∃ (b : Nat → Option Addr) (F : Hp) (as : SL) (Qd : Rv → SL → Prop) (Ed : WXD), Rep K ⟨b, fun _ => False, H, F⟩ (vs.map some) H F as ∧ sp as Qd Ed ∧
  (∀ r outs σ' v H' F', Qd r outs → Rep K ⟨b, fun _ => False, H, F⟩ σ' H' F' outs → RDen K ⟨b, fun _ => False, H, F⟩ σ' outs H' F' v r → Q v H') ∧
  ∀ C o outs σ' dd H' F', Ed C o outs → Rep K ⟨b, fun _ => False, H, F⟩ σ' H' F' outs → XDen K F' o dd → E (.ref C) dd H'
/-- the wish over data is the context's -/
def LinkW (X : Cx) (G : Cd) (Wd : WXD) : Prop := ∀ σ H F ρ C o dd, Wd C o ρ → Rep X.K G σ H F ρ → XDen X.K F o dd → wOf X (.ref C) dd σ H
/-- an expression that may raise -/
structure DEX (X : Cx) (e : Expr) (te : TE) (t : WXD → TD) : Prop where
  pe : PE X e te
  sem : ∀ {G : Cd} {σ : L2.St} {H F : Hp} {ρ : SL} {Q : VK} {Qd : Rv → SL → Prop} {Wd : WXD}, Rep X.K G σ H F ρ → t Wd ρ Qd → LinkW X G Wd →
    (∀ r ρ' v H' F', Qd r ρ' → Same F F' → Rep X.K G σ H' F' ρ' → RDen X.K G σ ρ' H' F' v r → Q v H') → te σ H Q
theorem LinkW.at {X : Cx} {G : Cd} {Wd : WXD} {σ : L2.St} {H F : Hp} {ρ : SL} (L : LinkW X G Wd) (R : Rep X.K G σ H F ρ) : LinkW X (G.at F) Wd :=
  fun _ _ _ _ _ _ _ q R' xd => L _ _ _ _ _ _ _ q (R.unbase R') xd
section
variable {X : Cx}
theorem dex_of {e : Expr} {te : TE} {t : TD} (h : DE X e te t) : DEX X e te (fun _ => t) := ⟨h.pe, fun R q _ k => h.sem R q k⟩
/-! ### raise -/
def sRaise (C : Addr) (fld : Str) (t : TD) : TSD := fun E ρ => t ρ fun r ρ1 => E.xc C (some (fld, r.dat)) ρ1
theorem ds_raise {C fI : Addr} {nm fld : Str} {a : Expr} {te : TE} {t : TD} {p pos pos2 : Pos} {k : Nat} (hc : X.calm = true) (T : XcT X.prog X.K X.mg nm C fI fld) (hr : Room (k + 1) X.A) (ha : DE X a te t) (hg : Gl X nm) (hdb : (nm == ("__debug__" : Str)) = false := by decide)
    (hs : starEach (a :: []) X.env = (false, eval a X.env) :: starEach [] X.env := by rfl)
    (he : starEach (a :: []) X.env = (false, eval a X.env) :: starEach [] X.env := by rfl) (hpl : (backTo pos (starEach [] X.env)).any (·.1) = false := by rfl) :
    DS X (.Raise (some (.Call (.Name nm p) [a] [] pos)) none pos2) (fun _ σ H => tMkX C fld (tCons te tNil) σ H fun cls d H' => wOf X cls d σ H') (sRaise C fld t) := by
  refine ⟨ps_raise hc (takes_wOf X) (pmk_x T hr (pa_cons ha.pe pa_nil hs) hg hdb he hpl), fun {G σ H F ρ D E} R q L => ?_⟩
  refine ha.sem R q fun r ρ1 v H1 F1 q1 s1 R1 rd => ?_
  refine ⟨v, rfl, fun dd hd => ?_⟩
  obtain ⟨F2, s2, R2, d2⟩ := R1.share rd
  obtain ⟨s3, R3⟩ := R2.alloc (o := .xd [(fld, v)]) hd
  exact L.xc _ _ _ _ C (some (fld, r.dat)) (some dd) q1 R3 ⟨dd, v, rfl, upd_same, d2.mono s3⟩
/-! ### calls -/
theorem Rep.afterCall {K : PySem.W.Frag} {G : Cd} {σ : L2.St} {H F : Hp} {ρ : SL} (R : Rep K G σ H F ρ) {vs : List V} {os : List AOp} {sl outs : SL} {σ' : L2.St} {H' F' : Hp} {ρ2 : SL} (d : ADens K F σ vs os) (hm : mkArgs ρ 0 os = some sl) (hn : (bors os).Nodup)
    (hb : giveB ρ 0 (wipeD ρ (bors os)) os outs = some ρ2) (R' : Rep K ⟨bOf' σ os, fun _ => False, H, F⟩ σ' H' F' outs) : Rep K G σ H' F' ρ2 := by
  have RB := R.behind d hm R'
  have own : ∀ (k i : Nat), os[k]? = some (.bor i) → ∃ s c, ρ[i]? = some s ∧ s.cn = some c := fun k i e => by
    obtain ⟨l1, g1⟩ := mkArgs_get hm
    have hj : k < os.length := (List.getElem?_eq_some_iff.mp e).1
    rw [← l1] at hj
    rcases g1 k _ (List.getElem?_eq_getElem hj) with ⟨d', z1, z⟩ | ⟨i', s', c', z1, z2, z3, z4⟩
    · rw [e] at z1; cases z1
    · rw [e] at z1; cases z1
      exact ⟨s', c', z2, z3⟩
  exact R.gives R' (j := 0) hb (fun k s e => by rw [Nat.zero_add]; exact e) (fun k i p e1 e2 => by
    rw [Nat.zero_add] at e2
    unfold bOf' at e2
    rw [e1] at e2
    simp only at e2
    split at e2
    · rename_i q hq
      cases e2; exact hq
    · cases e2) own hn RB (fun k s c e hc => by
      rcases wipeD_get e with z | ⟨z, w⟩
      · subst z; cases hc
      · exact ⟨w, s, c, z, hc⟩) fun k hs e => by
      rcases wipeD_get e with z | ⟨z, _⟩
      · cases z
      · exact z
theorem Rep.afterVal {K : PySem.W.Frag} {G : Cd} {σ : L2.St} {H F : Hp} {ρ : SL} (R : Rep K G σ H F ρ) {vs : List V} {os : List AOp} {sl outs : SL} {σ' : L2.St} {H' F' : Hp} {ρ2 : SL} {v : V} {r : Rv} (d : ADens K F σ vs os) (hm : mkArgs ρ 0 os = some sl) (hn : (bors os).Nodup)
    (hb : giveB ρ 0 (wipeD ρ (bors os)) os outs = some ρ2) (rd : RDen K ⟨bOf' σ os, fun _ => False, H, F⟩ σ' outs H' F' v r) : RDen K G σ ρ2 H' F' v r := by
  have own : ∀ (k i : Nat), os[k]? = some (.bor i) → ∃ s c, ρ[i]? = some s ∧ s.cn = some c := fun k i e => by
    obtain ⟨l1, g1⟩ := mkArgs_get hm
    have hj : k < os.length := (List.getElem?_eq_some_iff.mp e).1
    rw [← l1] at hj
    rcases g1 k _ (List.getElem?_eq_getElem hj) with ⟨d', z1, z⟩ | ⟨i', s', c', z1, z2, z3, z4⟩
    · rw [e] at z1; cases z1
    · rw [e] at z1; cases z1
      exact ⟨s', c', z2, z3⟩
  have lone : ∀ p, H p = none → Lone σ ρ2 p := fun p hpn => by
    refine ⟨fun i s c' e1 e2 e3 => ?_, fun i hs c' e1 m => ?_⟩
    · obtain ⟨c2, z⟩ := giveB_owned hb i s c' e1 e2
      have : ∃ s0 c0, ρ[i]? = some s0 ∧ s0.cn = some c0 := by
        rcases z with z | ⟨s0, z1, z2⟩
        · rcases wipeD_get z with w | ⟨w, _⟩
          · subst w; cases e2
          · exact ⟨s, c', w, e2⟩
        · subst z2
          obtain ⟨c0, h0⟩ := Sl.cn_with e2
          exact ⟨s0, c0, z1, h0⟩
      obtain ⟨s0, c0, z1, z2⟩ := this
      obtain ⟨p', b1, b2, _⟩ := R.owned z1 z2
      rw [e3] at b1; cases b1
      obtain ⟨o, ho⟩ := b2.ex
      rw [hpn] at ho; cases ho
    · have e2 := giveB_pl hb (fun i2 m2 => by
        obtain ⟨k2, ek⟩ := bors_get m2
        exact own k2 i2 ek) i hs e1
      rcases wipeD_get e2 with z | ⟨z, _⟩
      · cases z
      · obtain ⟨a, _⟩ := R.pl.has i hs p c' z m
        obtain ⟨o, ho⟩ := a.ex
        rw [hpn] at ho; cases ho
  have fresh : ∀ p, (H p = none ∨ False) → H p = none := fun p z => z.elim id False.elim
  cases r with
  | v d => exact rd
  | fr c =>
    obtain ⟨p, e, a1, a2, a3, a4⟩ := rd
    have hpn := fresh p a3
    exact ⟨p, e, a1, a2, .inl (R.fresh hpn).2, lone p hpn⟩
  | pt d hs =>
    obtain ⟨g1, g2, g3⟩ := rd
    refine ⟨g1, g2, fun p c m => ?_⟩
    obtain ⟨a1, a2, a3, _⟩ := g3 p c m
    have hpn := fresh p a3
    exact ⟨a1, a2, .inl (R.fresh hpn).2, lone p hpn⟩
/-- a raising call's reading, whatever calls -/
theorem sem_argsX {sp : SpX} {vs : List V} {os : List AOp} {G : Cd} {σ : L2.St} {H F : Hp} {ρ : SL} {Q : VK} {Qd : Rv → SL → Prop} {Wd : WXD} (R : Rep X.K G σ H F ρ) (d : ADens X.K F σ vs os)
    (q : ∃ sl, mkArgs ρ 0 os = some sl ∧ (bors os).Nodup ∧ sp sl (fun r outs => ∃ ρ2, giveB ρ 0 (wipeD ρ (bors os)) os outs = some ρ2 ∧ Qd r ρ2) fun C o outs => ∃ ρ2, giveB ρ 0 (wipeD ρ (bors os)) os outs = some ρ2 ∧ Wd C o ρ2)
    (L : LinkW X G Wd) (k : ∀ r ρ' v H' F', Qd r ρ' → Same F F' → Rep X.K G σ H' F' ρ' → RDen X.K G σ ρ' H' F' v r → Q v H') : liftX X.K sp vs H Q (WE (wOf X) σ) := by
  obtain ⟨sl, hm, hn, q⟩ := q
  refine ⟨bOf' σ os, F, sl, _, _, R.toCall d hm hn, q, fun r outs σ' v H' F' ⟨ρ2, hb, qd⟩ R' rd => ?_, fun C o outs σ' dd H' F' ⟨ρ2, hb, qd⟩ R' xd => L _ _ _ _ _ _ _ qd (R.afterCall d hm hn hb R') xd⟩
  exact k r ρ2 v H' F' qd R'.fr0 (R.afterCall d hm hn hb R') (R.afterVal d hm hn hb rd)
theorem FnG.callS {CX : CXT} {k : Nat} {f : Addr} {fd : FuncData} {ps : List Str} {sp : Sp} {E : XK} {pins : List (Addr × Obj)} {σ : L2.St} {H : Hp} {s : Shared} {Q : VK} {us : List Value} {vs : List V}
    (h : FnG X.prog X.w X.K X.mg X.base CX k f fd ps sp) (hgd : X.A.guards = some []) (hr : Room k X.A) (hb : Binds X.K fd ps []) (hx : PassesAt CX X σ E) (I : Inv X pins σ H s) (r : Vals vs us) (q : sp vs H Q E) :
    wpAny (model X.prog X.w) X.A (PySem.call (.ref f) us) (EP X pins σ Q) X.xe s := by
  have hl : (us ++ []).length = ps.length := by rw [List.append_nil, ← r.length]; exact h.len _ _ _ _ q
  have bt := hb s us I.kIn hl
  rw [List.append_nil] at bt
  have c := h.run X.A X.stack s H ⟨us, []⟩ us vs Q E hgd hr I.env0 bt r q
  refine wpAny_call (codeAny_mono c fun res s' hq => ?_)
  match res, hq with
  | .error e, hq => exact hx pins H s e s' I hq
  | .ok (.ret u), hq => exact I.after hq
  | .ok .next, hq => exact False.elim hq
  | .ok .brk, hq => exact False.elim hq
  | .ok .cont, hq => exact False.elim hq
theorem pe_callGS {CX : CXT} {k : Nat} {f : Addr} {fd : FuncData} {ps : List Str} {sp : Sp} {x : Str} {p pos : Pos} {e : Expr} {es : List Expr} {ta : TA} {E : L2.St → XK} (h : FnG X.prog X.w X.K X.mg X.base CX k f fd ps sp) (hgd : X.A.guards = some []) (hr : Room k X.A)
    (hg : Gl X x) (hm : X.mg x = some (.ref f)) (hk : PySem.W.keepIn X.K (.ref f) = true) (hb : Binds X.K fd ps []) (hx : ∀ σ, PassesAt CX X σ (E σ)) (ha : PA X (e :: es) ta) (hdb : (x == ("__debug__" : Str)) = false := by decide)
    (he : starEach (e :: es) X.env = (false, eval e X.env) :: starEach es X.env := by rfl) (hpl : (backTo pos (starEach es X.env)).any (·.1) = false := by rfl) : PE X (.Call (.Name x p) (e :: es) [] pos) (tCallS sp E ta) :=
  ⟨fun pins s σ H Q I q => wpAny_Call_Name_kw (ld_glob I hg hm (PySem.W.callWith_K (h₀ := X.base) I.ok.mod.kin hk (thn (ha.run pos pins s σ H _ I q) fun us s1 ⟨vs, H1, I1, r, q1⟩ =>
    ⟨I1.kIn, h.callS hgd hr hb (hx σ) I1 r q1⟩) he hpl) hdb)⟩
def dCallX (sp : SpX) (t : TAg) : WXD → TD := fun Wd ρ Q => t ρ fun os ρ1 => ∃ sl, mkArgs ρ1 0 os = some sl ∧ (bors os).Nodup ∧ sp sl (fun r outs => ∃ ρ2, giveB ρ1 0 (wipeD ρ1 (bors os)) os outs = some ρ2 ∧ Q r ρ2) fun C o outs => ∃ ρ2, giveB ρ1 0 (wipeD ρ1 (bors os)) os outs = some ρ2 ∧ Wd C o ρ2
theorem dex_call {k : Nat} {f : Addr} {fd : FuncData} {ps : List Str} {sp : SpX} {x : Str} {p pos : Pos} {e : Expr} {es : List Expr} {ta : TA} {t : TAg} (Fk : FnG X.prog X.w X.K X.mg X.base (L2.CX X.prog X.w) k f fd ps (liftX X.K sp)) (hgd : X.A.guards = some []) (hr : Room k X.A)
    (hg : Gl X x) (hm : X.mg x = some (.ref f)) (hk : PySem.W.keepIn X.K (.ref f) = true) (hb : Binds X.K fd ps []) (ha : DAg X (e :: es) ta t) (hdb : (x == ("__debug__" : Str)) = false := by decide)
    (he : starEach (e :: es) X.env = (false, eval e X.env) :: starEach es X.env := by rfl) (hpl : (backTo pos (starEach es X.env)).any (·.1) = false := by rfl) : DEX X (.Call (.Name x p) (e :: es) [] pos) (tCallS (liftX X.K sp) (WE (wOf X)) ta) (dCallX sp t) :=
  ⟨pe_callGS Fk hgd hr hg hm hk hb (fun σ => passAt (takes_wOf X) σ) ha.pe hdb he hpl, fun R q L kk => ha.sem R q fun os ρ1 vs H1 F1 q1 s1 R1 d1 =>
    sem_argsX R1 d1 q1 L fun r ρ' v H' F' qd s2 R2 rd => kk _ _ _ _ _ qd (s1.trans s2) R2 rd⟩
end
/-! ### calls that only look -/
def oAtom : Option (Str × D) → Prop
  | none => True
  | some (_, d) => d.atom = true
section
variable {K : PySem.W.Frag} {G : Cd} {σ : L2.St} {H F F' : Hp} {ρ : SL}
theorem frz1_xd (R : Rep K G σ H F ρ) {b : Addr} {xs : List (Str × V)} (e : frz1 σ ρ H F b = some (.xd xs)) : F b = some (.xd xs) := by
  unfold frz1 at e
  by_cases h : Owns σ ρ b
  · rw [if_pos h] at e
    obtain ⟨_, c, hc⟩ := h.has R
    cases c with
    | l ds => obtain ⟨ys, a, _⟩ := hc; rw [a] at e; cases e
    | d kvs => obtain ⟨ys, a, _⟩ := hc; rw [a] at e; cases e
    | o C fs => obtain ⟨dx, gs, a, _⟩ := hc; rw [a] at e; cases e
    | k ob ks kvs => rw [hc.1] at e; cases e
  · rw [if_neg h] at e; exact e
end
section
variable {X : Cx}
open Classical in
theorem sem_lookX {sp : SpX} {vs : List V} {ds : List D} {G : Cd} {σ : L2.St} {H F : Hp} {ρ : SL} {Q : VK} {Qd : Rv → SL → Prop} {Wd : WXD} (R : Rep X.K G σ H F ρ) (d : DenL X.K (frz1 σ ρ H F) vs ds)
    (q : sp (ds.map Sl.sh) (fun r _ => r.flat = true ∧ Qd r ρ) fun C o _ => oAtom o ∧ Wd C o ρ) (L : LinkW X G Wd)
    (k : ∀ r ρ' v H' F', Qd r ρ' → Same F F' → Rep X.K G σ H' F' ρ' → RDen X.K G σ ρ' H' F' v r → Q v H') : liftX X.K sp vs H Q (WE (wOf X) σ) := by
  have sl : ∀ (i : Nat) (s : Sl), (ds.map Sl.sh)[i]? = some s → ∃ d, ds[i]? = some d ∧ s = .sh d := fun i s e => by
    rw [List.getElem?_map] at e
    cases q : ds[i]? with
    | none => rw [q] at e; cases e
    | some d => rw [q] at e; cases e; exact ⟨d, rfl, rfl⟩
  refine ⟨fun _ => none, frz1 σ ρ H F, ds.map Sl.sh, _, _, ?_, q, fun r outs σ' v H' F' ⟨ha, qd⟩ RC rd => ?_, fun C o outs σ' dd H' F' ⟨ha, qd⟩ RC xd => ?_⟩
  · refine ⟨by rw [List.length_map, List.length_map, d.length], frz1_sub R, fun i d' e => ?_, fun i c e => ?_, fun i j c e => ?_, fun i j s t c c' p e1 e2 h1 h2 h3 h4 => ?_, Same.refl _, fun a o e => .inl e, fun a o e _ _ => e, fun a o e => ⟨o, e⟩, fun j p e => (nomatch e), fun _ _ z => z.elim, ?_⟩
    · obtain ⟨d2, e2, z⟩ := sl i _ e
      cases z
      obtain ⟨v, e3, e4⟩ := d.get e2
      exact ⟨v, by rw [List.getElem?_map, e3]; rfl, e4⟩
    · obtain ⟨d2, e2, z⟩ := sl i _ e; cases z
    · obtain ⟨d2, e2, z⟩ := sl i _ e; cases z
    · obtain ⟨d2, e2, z⟩ := sl i _ e1; subst z; cases h1
    · have no : ∀ (i : Nat) (hs : List (Addr × Cn)), (ds.map Sl.sh)[i]? ≠ some (.pl hs) := fun i hs e => by
        obtain ⟨d2, e2, z⟩ := sl i _ e; cases z
      exact ⟨fun i hs e => (no i hs e).elim, fun i hs p c e => (no i hs e).elim, fun i hs p c e => (no i hs e).elim, fun i j hs hs' p c c' e => (no i hs e).elim⟩
  · have e : Same H H' := fun a o z => RC.keep a o z (fun z => z) (fun j z => nomatch z)
    let F2 : Hp := fun b => if H b = none then F' b else F b
    have f1 : Same F F2 := fun b o z => by
      show (if H b = none then F' b else F b) = some o
      rw [if_neg (by rw [R.ext b o z]; exact fun w => nomatch w)]
      exact z
    have f2 : Same F2 H' := fun b o z => by
      have z' : (if H b = none then F' b else F b) = some o := z
      by_cases c : H b = none
      · rw [if_pos c] at z'; exact RC.ext b o z'
      · rw [if_neg c] at z'; exact e b o (R.ext b o z')
    have f3 : ∀ b o, F2 b = some o → F b = some o ∨ H b = none := fun b o z => by
      have z' : (if H b = none then F' b else F b) = some o := z
      by_cases c : H b = none
      · exact .inr c
      · rw [if_neg c] at z'; exact .inl z'
    have R2 := R.grow2 e f1 f2 f3
    have ht : ∀ a xs, F' a = some (.tup xs) → F2 a = some (.tup xs) := fun a xs z => by
      show (if H a = none then F' a else F a) = some _
      by_cases c : H a = none
      · rw [if_pos c]; exact z
      · rw [if_neg c]
        rcases RC.new a _ z with y | y | y
        · exact frz1_tup R y
        · exact (c y).elim
        · exact y.elim
    refine k _ _ _ _ _ qd f1 R2 ?_
    cases r with
    | v d => exact flat_den ht d v ha rd
    | fr c =>
      cases c with
      | l ds2 =>
        obtain ⟨p, rfl, ⟨xs, h1, h2⟩, h3, h4, _⟩ := rd
        have hp : H p = none := by
          rcases h4 with z | z
          · exact z
          · exact z.elim
        refine ⟨p, rfl, ⟨xs, h1, flats_den ht ds2 xs ha h2⟩, ?_, ?_, ?_⟩
        · show (if H p = none then F' p else F p) = none
          rw [if_pos hp]; exact h3
        · left
          cases q2 : G.H0 p with
          | none => rfl
          | some o' => obtain ⟨o2, z2⟩ := R.dom p o' q2; rw [hp] at z2; cases z2
        · refine ⟨fun i s c' z1 z2 z3 => ?_, fun i hs c z1 z2 => ?_⟩
          · obtain ⟨p', a, b, _⟩ := R.owned z1 z2
            rw [z3] at a
            cases a
            obtain ⟨o, ho⟩ := b.ex
            rw [hp] at ho; cases ho
          · obtain ⟨b, _⟩ := R.pl.has i hs p c z1 z2
            obtain ⟨o, ho⟩ := b.ex
            rw [hp] at ho; cases ho
      | _ => cases ha
    | pt d hs =>
      have ha' : (d.flat && hs.all flatC) = true := ha
      rw [Bool.and_eq_true, List.all_eq_true] at ha'
      obtain ⟨ha1, ha2⟩ := ha'
      obtain ⟨g1, g2, g3⟩ := rd
      refine ⟨flat_den ht d v ha1 g1, g2, fun p c m => ?_⟩
      obtain ⟨h1, h3, h4, _⟩ := g3 p c m
      have hc := ha2 _ m
      have hp : H p = none := by
        rcases h4 with z | z
        · exact z
        · exact z.elim
      cases c with
      | l ds2 =>
        obtain ⟨xs, h1, h2⟩ := h1
        have hc : D.flats ds2 = true := hc
        refine ⟨⟨xs, h1, flats_den ht ds2 xs hc h2⟩, ?_, ?_, ?_⟩
        · show (if H p = none then F' p else F p) = none
          rw [if_pos hp]; exact h3
        · left
          cases q2 : G.H0 p with
          | none => rfl
          | some o' => obtain ⟨o2, z2⟩ := R.dom p o' q2; rw [hp] at z2; cases z2
        · refine ⟨fun i s c' z1 z2 z3 => ?_, fun i hs c z1 z2 => ?_⟩
          · obtain ⟨p', a, b, _⟩ := R.owned z1 z2
            rw [z3] at a
            cases a
            obtain ⟨o, ho⟩ := b.ex
            rw [hp] at ho; cases ho
          · obtain ⟨b, _⟩ := R.pl.has i hs p c z1 z2
            obtain ⟨o, ho⟩ := b.ex
            rw [hp] at ho; cases ho
      | _ => cases hc
  · have e : Same H H' := fun a o z => RC.keep a o z (fun z => z) (fun j z => nomatch z)
    let F2 : Hp := fun b => if H b = none then F' b else F b
    have f1 : Same F F2 := fun b o z => by
      show (if H b = none then F' b else F b) = some o
      rw [if_neg (by rw [R.ext b o z]; exact fun w => nomatch w)]
      exact z
    have f2 : Same F2 H' := fun b o z => by
      have z' : (if H b = none then F' b else F b) = some o := z
      by_cases c : H b = none
      · rw [if_pos c] at z'; exact RC.ext b o z'
      · rw [if_neg c] at z'; exact e b o (R.ext b o z')
    have f3 : ∀ b o, F2 b = some o → F b = some o ∨ H b = none := fun b o z => by
      have z' : (if H b = none then F' b else F b) = some o := z
      by_cases c : H b = none
      · exact .inr c
      · rw [if_neg c] at z'; exact .inl z'
    have R2 := R.grow2 e f1 f2 f3
    have hx : ∀ a xs, F' a = some (.xd xs) → F2 a = some (.xd xs) := fun a xs z => by
      show (if H a = none then F' a else F a) = some _
      by_cases c : H a = none
      · rw [if_pos c]; exact z
      · rw [if_neg c]
        rcases RC.new a _ z with y | y | y
        · exact frz1_xd R y
        · exact (c y).elim
        · exact y.elim
    refine L _ _ _ _ _ _ _ qd R2 ?_
    cases o with
    | none => exact xd
    | some x =>
      obtain ⟨a, v, h1, h2, h3⟩ := xd
      exact ⟨a, v, h1, hx _ _ h2, atom_den ha h3⟩
def dCallXQ (sp : SpX) (t : TAs) : WXD → TD := fun Wd ρ Q => t ρ fun os ρ1 => match gets ρ1 os with
  | some ds => sp (ds.map Sl.sh) (fun r _ => r.flat = true ∧ Q r ρ1) fun C o _ => oAtom o ∧ Wd C o ρ1
  | none => False
def dCallXVQ (g : Nat) (sp : SpX) (t : TAs) : WXD → TD := fun Wd ρ Q => t ρ fun os ρ1 => match getsV ρ1 g os with
  | some ds => sp (ds.map Sl.sh) (fun r _ => r.flat = true ∧ Q r ρ1) fun C o _ => oAtom o ∧ Wd C o ρ1
  | none => False
theorem dex_callQ {k : Nat} {f : Addr} {fd : FuncData} {ps : List Str} {sp : SpX} {x : Str} {p pos : Pos} {e : Expr} {es : List Expr} {ta : TA} {t : TAs} (Fk : FnG X.prog X.w X.K X.mg X.base (L2.CX X.prog X.w) k f fd ps (liftX X.K sp)) (hgd : X.A.guards = some []) (hr : Room k X.A)
    (hg : Gl X x) (hm : X.mg x = some (.ref f)) (hk : PySem.W.keepIn X.K (.ref f) = true) (hb : Binds X.K fd ps []) (ha : DA X (e :: es) ta t) (hdb : (x == ("__debug__" : Str)) = false := by decide)
    (he : starEach (e :: es) X.env = (false, eval e X.env) :: starEach es X.env := by rfl) (hpl : (backTo pos (starEach es X.env)).any (·.1) = false := by rfl) : DEX X (.Call (.Name x p) (e :: es) [] pos) (tCallS (liftX X.K sp) (WE (wOf X)) ta) (dCallXQ sp t) :=
  ⟨pe_callGS Fk hgd hr hg hm hk hb (fun σ => passAt (takes_wOf X) σ) ha.pe hdb he hpl, fun R q L kk => ha.sem R q fun os ρ1 vs H1 F1 q1 s1 R1 d1 => by
    cases ea : gets ρ1 os with
    | none => rw [ea] at q1; exact q1.elim
    | some ds =>
      rw [ea] at q1
      exact sem_lookX R1 (ops_den1 R1 d1 ea) q1 L fun r ρ' v H' F' qd s2 R2 rd => kk _ _ _ _ _ qd (s1.trans s2) R2 rd⟩
theorem dex_callVQ (g : Nat) {k : Nat} {f : Addr} {fd : FuncData} {ps : List Str} {sp : SpX} {x : Str} {p pos : Pos} {e : Expr} {es : List Expr} {ta : TA} {t : TAs} (Fk : FnG X.prog X.w X.K X.mg X.base (L2.CX X.prog X.w) k f fd ps (liftX X.K sp)) (hgd : X.A.guards = some []) (hr : Room k X.A)
    (hg : Gl X x) (hm : X.mg x = some (.ref f)) (hk : PySem.W.keepIn X.K (.ref f) = true) (hb : Binds X.K fd ps []) (ha : DA X (e :: es) ta t) (hdb : (x == ("__debug__" : Str)) = false := by decide)
    (he : starEach (e :: es) X.env = (false, eval e X.env) :: starEach es X.env := by rfl) (hpl : (backTo pos (starEach es X.env)).any (·.1) = false := by rfl) : DEX X (.Call (.Name x p) (e :: es) [] pos) (tCallS (liftX X.K sp) (WE (wOf X)) ta) (dCallXVQ g sp t) :=
  ⟨pe_callGS Fk hgd hr hg hm hk hb (fun σ => passAt (takes_wOf X) σ) ha.pe hdb he hpl, fun R q L kk => ha.sem R q fun os ρ1 vs H1 F1 q1 s1 R1 d1 => by
    cases ea : getsV ρ1 g os with
    | none => rw [ea] at q1; exact q1.elim
    | some ds =>
      rw [ea] at q1
      exact sem_lookX R1 (ops_den1V R1 d1 ea) q1 L fun r ρ' v H' F' qd s2 R2 rd => kk _ _ _ _ _ qd (s1.trans s2) R2 rd⟩
/-! ### expressions around such a call -/
theorem dex_keep (g : Nat) {e : Expr} {te : TE} {t : WXD → TD} (h : DEX X e te t) : DEX X e te (fun Wd => dKeep g (t Wd)) :=
  ⟨h.pe, fun {G σ H F ρ Q Qd Wd} R q L k => h.sem R q L fun r ρ1 v H1 F1 q1 s1 R1 rd => by
    cases r with
    | v d => exact k _ _ _ _ _ q1 s1 R1 rd
    | fr c =>
      obtain ⟨hs, hs', e1, e2, q1⟩ := q1
      obtain ⟨p, rfl, a, b, d, l⟩ := rd
      have R2 := R1.plSub e1 e2
      have e3 := plOf_set (hs := hs') e1
      have l2 : Lone σ (ρ1.set g (.pl hs')) p := by
        refine ⟨fun i s c' z1 z2 z3 => ?_, fun i h3 c' z1 m => ?_⟩
        · rcases set_get z1 with ⟨_, w⟩ | ⟨_, w⟩
          · subst w; cases z2
          · exact l.1 i s c' w z2 z3
        · rcases set_get z1 with ⟨rfl, w⟩ | ⟨_, w⟩
          · cases w
            have m2 := e2.mem m
            unfold plOf at e1
            split at e1
            · rename_i w2; cases e1; exact l.2 _ _ c' w2 m2
            · cases e1; exact (List.not_mem_nil m2).elim
            · cases e1
          · exact l.2 i h3 c' w m
      obtain ⟨dis, R3⟩ := R2.plAdd (hs2 := [(p, c)]) e3 (by simp) fun p' c' m => by
        cases List.mem_singleton.mp m
        exact ⟨a, b, d, l2⟩
      rw [List.set_set] at R3
      exact k _ _ _ _ _ (q1 p (dis p (by simp))) s1 R3 (.at p)
    | pt d hs2 =>
      obtain ⟨hs, hs', e1, e2, q1⟩ := q1
      obtain ⟨g1, g2, g3⟩ := rd
      have R2 := R1.plSub e1 e2
      have e3 := plOf_set (hs := hs') e1
      obtain ⟨dis, R3⟩ := R2.plAdd (hs2 := hs2) e3 g2 fun p c m => by
        obtain ⟨a, b, d, l⟩ := g3 p c m
        refine ⟨a, b, d, fun i s c' z1 z2 z3 => ?_, fun i h3 c' z1 m => ?_⟩
        · rcases set_get z1 with ⟨_, w⟩ | ⟨_, w⟩
          · subst w; cases z2
          · exact l.1 i s c' w z2 z3
        · rcases set_get z1 with ⟨rfl, w⟩ | ⟨_, w⟩
          · cases w
            have m2 := e2.mem m
            unfold plOf at e1
            split at e1
            · rename_i w2; cases e1; exact l.2 _ _ c' w2 m2
            · cases e1; exact (List.not_mem_nil m2).elim
            · cases e1
          · exact l.2 i h3 c' w m
      rw [List.set_set] at R3
      exact k _ _ _ _ _ (q1 dis g2) s1 R3 g1⟩
theorem dex_pack (g : Nat) {e : Expr} {te : TE} {t : WXD → TD} (h : DEX X e te t) : DEX X e te (fun Wd => dPack g (t Wd)) :=
  ⟨h.pe, fun {G σ H F ρ Q Qd Wd} R q L k => h.sem R q L fun r ρ1 v H1 F1 q1 s1 R1 rd => by
    obtain ⟨hs, e1, q1⟩ := q1
    obtain ⟨F2, s2, R2, d2⟩ := R1.share rd
    have P := R2.pl
    refine k _ _ _ _ _ q1 (s1.trans s2) (R2.unSlot g) ⟨d2, P.one g hs e1, fun p c m => ?_⟩
    obtain ⟨a, b, d⟩ := P.has g hs p c e1 m
    refine ⟨a, b, d, fun i s c' z1 z2 z3 => ?_, fun i h3 c' z1 m2 => ?_⟩
    · obtain ⟨_, w⟩ := un_own z1 z2
      exact P.own g hs p c e1 m i s c' w z2 z3
    · rcases set_get z1 with ⟨_, w⟩ | ⟨ne, w⟩
      · cases w
      · exact ne (P.two i g h3 hs p c' c w e1 m2 m)⟩
/-- ('word', e) -/
def dxTup (x : Str) (t : WXD → TD) : WXD → TD := fun Wd ρ Q => t Wd ρ fun r ρ1 => Q (.v (.tup [.str x, r.dat])) ρ1
theorem dex_tup {x : Str} {j : Nat} {k : Nat} {cpos pos : Pos} {e : Expr} {te : TE} {t : WXD → TD} (h : DEX X e te t) (hx : PyData.strOk x = true := by decide +kernel)
    (hs1 : starEach (.Constant (.str x) j cpos :: [e]) X.env = (false, eval (.Constant (.str x) j cpos) X.env) :: starEach [e] X.env := by rfl) (hs2 : starEach (e :: []) X.env = (false, eval e X.env) :: starEach [] X.env := by rfl) :
    DEX X (.Tuple [.Constant (.str x) j cpos, e] k pos) (tTup (tCons (tC (.str x)) (tCons te tNil))) (dxTup x t) :=
  ⟨pe_tup (pa_cons pe_str (pa_cons h.pe pa_nil hs2) hs1), fun {G σ H F ρ Q Qd Wd} R q L kk => by
    refine h.sem R q L fun r ρ1 v H1 F1 q1 s1 R1 rd => ?_
    obtain ⟨F2, s2, R2, d2⟩ := R1.share rd
    refine ⟨by show 2 ≤ sizeLine; rw [sizeLine_eq]; decide, fun p hp => ?_⟩
    obtain ⟨s3, R3⟩ := R2.alloc (o := .tup [V.str x, v]) hp
    exact kk _ _ _ _ _ q1 (s1.trans (s2.trans s3)) R3 (.tup upd_same (.cons (.str x hx) (.cons (d2.mono s3) .nil)))⟩
/-! ### statements -/
theorem ds_retX {e : Expr} {te : TE} {t : WXD → TD} {pos : Pos} (h : DEX X e te t) : DS X (.Return (some e) pos) (tRet te) (fun E ρ => t E.xc ρ E.rt) :=
  ⟨ps_ret h.pe, fun R q L => h.sem R q L.xc fun r ρ' v H' F' qd s1 R1 rd => L.rt _ _ _ _ _ _ qd R1 rd⟩
theorem ds_exprX {e : Expr} {te : TE} {t : WXD → TD} {pos : Pos} (h : DEX X e te t) (hs : swapsWith e none pos.line X.env = pure false := by rfl) : DS X (.Expr e pos) (tDrop te) (fun E ρ => t E.xc ρ fun _ ρ' => E.nx ρ') :=
  ⟨ps_expr h.pe hs, fun R q L => h.sem R q L.xc fun r ρ' v H' F' qd s1 R1 rd => L.nx _ _ _ _ qd R1⟩
theorem ds_setX {i : Nat} {x : Str} {e : Expr} {te : TE} {t : WXD → TD} {pos pos' : Pos} (hN : X.N.Nodup) (hi : X.N[i]? = some x) (hx : Loc X.env.scope x) (he : DEX X e te t) (hs : swapsWith e (some (.Name x pos')) pos.line X.env = pure false := by rfl)
    (hf : X.fn x = true ∨ X.env.scope.names.lookup x = some .local := by first | exact .inl rfl | exact .inr rfl | assumption) :
    DS X (.Assign [.Name x pos'] e pos) (tAsg te (gName i)) (fun E ρ => t E.xc ρ fun r ρ1 => E.nx (put ρ1 i r)) :=
  ⟨ps_set hN hi hx he.pe hs hf, fun R q L => he.sem R q L.xc fun r ρ' v H' F' qd s1 R1 rd => by
    obtain ⟨F2, _, R2⟩ := R1.putF rd i
    exact L.nx _ _ _ _ qd R2⟩
end
/-! ### a raising def's body keeps its promise -/
open PySem.Spec PyProof.Rows in
theorem fnX {P : Program} {w : World} {K : PySem.W.Frag} {mg : Str → Option Value} {base : Heap} {x qual : Str} {st : Stmt} {f : Addr} {fd : FuncData} {N ps : List Str} {k : Nat} {sp : SpX} (Fn : Fun K x qual st f fd) (S : FnScope N ps (defScope st))
    (len : ∀ as Q E, sp as Q E → as.length = ps.length)
    (hbody : ∀ (cdv : Value) (A : Around) (outer : List Env) (s : Shared) (H : Hp) (E : XK), (A.deeper (PyProof.Rows.envOfC qual (defScope st) s.heap.objs.size f cdv)).guards = some [] → Room k (A.deeper (PyProof.Rows.envOfC qual (defScope st) s.heap.objs.size f cdv)) →
      ∃ ts t, DSs (cxOf (L2.CX P w) P w K mg base N qual (defScope st) f cdv A outer s H E) (defBody st) ts t ∧
        ∀ as Q Ed, sp as Q Ed → t { nx := fun ρ' => Q (.v .non) (clean (ρ'.take as.length)), rt := fun r ρ' => Q r (clean (ρ'.take as.length)), xc := fun C o ρ' => Ed C o (clean (ρ'.take as.length)) } (as ++ List.replicate (N.length - as.length) .un)) : FnG P w K mg base (L2.CX P w) (k + 1) f fd ps (liftX K sp) := by
  have lenV : ∀ vs H Q E, liftX K sp vs H Q E → vs.length = ps.length := fun vs H Q E ⟨b, F, as, Qd, Ed, R, h, _⟩ => by
    have := R.len
    rw [List.length_map] at this
    rw [← this, len as _ _ h]
  refine fnG_of Fn S lenV fun cdv A outer s H vs Q E hgd hr h => ?_
  obtain ⟨ts, t, hD, hd⟩ := hbody cdv A outer s H E hgd hr
  refine ⟨ts, hD.pe, ?_⟩
  obtain ⟨b, F, as, Qd, Ed, R, q, kk, ke⟩ := h
  have hl : as.length = vs.length := by have := R.len; rw [List.length_map] at this; exact this
  have R0 : Rep K ⟨b, fun _ => False, H, F⟩ (L2.start N vs) H F (as ++ List.replicate (N.length - as.length) .un) := by
    have gl : ∀ (i : Nat) (s : Sl), (as ++ List.replicate (N.length - as.length) .un)[i]? = some s → s = .un ∨ (as[i]? = some s ∧ (L2.start N vs)[i]? = (vs.map some)[i]?) := fun i s e => by
      by_cases hi : i < as.length
      · rw [List.getElem?_append_left hi] at e
        refine .inr ⟨e, ?_⟩
        unfold L2.start
        rw [List.getElem?_append_left (by rw [List.length_map, ← hl]; exact hi)]
      · rw [List.getElem?_append_right (Nat.le_of_not_lt hi)] at e
        exact .inl (List.eq_of_mem_replicate (List.mem_of_getElem? e))
    exact R.slots (by unfold L2.start; simp [hl]) gl
  have cl : ∀ {σ' : L2.St} {H' F' : Hp} {ρ' : SL}, Rep K ⟨b, fun _ => False, H, F⟩ σ' H' F' ρ' → Rep K ⟨b, fun _ => False, H, F⟩ (σ'.take as.length) H' F' (clean (ρ'.take as.length)) ∧
      ∀ v r, RDen K ⟨b, fun _ => False, H, F⟩ σ' ρ' H' F' v r → RDen K ⟨b, fun _ => False, H, F⟩ (σ'.take as.length) (clean (ρ'.take as.length)) H' F' v r := fun {σ' H' F' ρ'} R' => by
    have gl : ∀ (i : Nat) (s : Sl), (clean (ρ'.take as.length))[i]? = some s → s = .un ∨ (ρ'[i]? = some s ∧ (σ'.take as.length)[i]? = σ'[i]?) := fun i s e => by
      rcases clean_get e with z | z
      · exact .inl z
      · by_cases hi : i < as.length
        · rw [List.getElem?_take_of_lt hi] at z
          exact .inr ⟨z, List.getElem?_take_of_lt hi⟩
        · rw [List.getElem?_take_eq_none (Nat.le_of_not_lt hi)] at z
          cases z
    exact ⟨R'.slots (by unfold clean; rw [List.length_map, List.length_take, List.length_take, R'.len]) gl, fun v r rd => rd.slots gl⟩
  refine hD.sem R0 (hd as Qd Ed q) ⟨fun σ' H' F' ρ' e R' => ?_, fun σ' H' F' ρ' r v e R' rd => ?_, fun _ _ _ _ e _ => e.elim, fun _ _ _ _ e _ => e.elim, fun σ' H' F' ρ' C o dd e R' xd => ?_⟩
  · exact kk _ _ _ _ _ _ e (cl R').1 .non
  · exact kk _ _ _ _ _ _ e (cl R').1 ((cl R').2 _ _ rd)
  · exact wOf_of (takes_of rfl rfl rfl rfl) (ke _ _ _ _ _ _ _ e (cl R').1 xd)
end DL
/-! try .. except, told over data; what an except suite reads of the error. -/
namespace DL
open PySem PySem.Spec L2 PyProof.Rows
/-- the caught error's datum -/
def excD (a C : Addr) (o : Option (Str × D)) (d : Option Addr) : D := match o, d with
  | some (f, dv), some dd => .exc a dd C f dv
  | _, _ => .at a
section
variable {X : Cx}
/-- e.f -/
def dXf (a C : Addr) (d : Option Addr) (n : Str) (t : TD) : TD := fun ρ Q => t ρ fun r ρ1 => match r.dat with
  | .exc a' dd C' f dv => a' = a ∧ C' = C ∧ d = some dd ∧ f = n ∧ Q (.v dv) ρ1
  | _ => False
theorem de_xf {a C : Addr} {oe : Obj} {d : Option Addr} {pn : List (Addr × Obj)} {e : Expr} {te : TE} {t : TD} {pos : Pos} {n : Str} (T : XfC X.K C) (hno : PySem.W.findIn X.K (.ref C) n = some none)
    (hz : Zc (.ref C) d oe) (hf : ∃ vs, oe.data = .fields vs) (he : DE (X.suite a ((a, oe) :: pn)) e te t) (hb : attributeBase e n X.env (eval e X.env) = eval e X.env := by rfl) :
    DE (X.suite a ((a, oe) :: pn)) (.Attribute e n pos) (tXf a (.ref C) d C n te) (dXf a C d n t) :=
  ⟨pe_xf T hno hz hf he.pe hb, fun {G σ H F ρ Q Qd} R q k => by
    refine he.sem R q fun r ρ1 v H1 F1 q1 s1 R1 rd => ?_
    obtain ⟨F2, s2, R2, d2⟩ := R1.share rd
    cases hr : r.dat with
    | exc a' dd C' f dv =>
      rw [hr] at q1 d2
      obtain ⟨rfl, rfl, rfl, rfl, q1⟩ := q1
      cases d2 with
      | exc h1 h2 =>
        rename_i v'
        refine ⟨rfl, rfl, dd, [(f, v')], v', rfl, R2.ext _ _ h1, by simp [List.lookup], ?_⟩
        exact k _ _ _ _ _ q1 (s1.trans s2) R2 h2
    | _ => rw [hr] at q1; exact q1.elim⟩
/-- it is the caught error -/
def isErr (a : Addr) (d : Option Addr) : D → Prop
  | .exc a' dd _ _ _ => a' = a ∧ d = some dd
  | .at a' => a' = a ∧ d = none
  | _ => False
/-- isinstance(e, c), c one class -/
def dIsX (K : PySem.W.Frag) (a C : Addr) (d : Option Addr) (cv : Value) (t : TD) : TD := fun ρ Q => t ρ fun r ρ1 => isErr a d r.dat ∧ ∃ b, PySem.W.kitOne K (.ref C) cv = some b ∧ Q (.v (.bl b)) ρ1
theorem isX_pre {K : PySem.W.Frag} {F H : Hp} {v : V} {D0 : D} {a : Addr} {d : Option Addr} (e : Same F H) (h : Den K F v D0) (q : isErr a d D0) : v = .ref a ∧ XAt H d := by
  cases D0 with
  | exc a' dd C f dv =>
    obtain ⟨rfl, rfl⟩ := q
    cases h with
    | exc h1 h2 => exact ⟨rfl, _, e _ _ h1⟩
  | «at» a' =>
    obtain ⟨rfl, rfl⟩ := q
    cases h
    exact ⟨rfl, trivial⟩
  | _ => exact q.elim
theorem sem_isX {a C : Addr} {d : Option Addr} {c : V} {cv : Value} {e : Expr} {te : TE} {t : TD} {X' : Cx} (he : DE X' e te t) (hc : ClsV c cv) {G : Cd} {σ : L2.St} {H F : Hp} {ρ : SL} {Q : VK} {Qd : Rv → SL → Prop} (R : Rep X'.K G σ H F ρ) (q : dIsX X'.K a C d cv t ρ Qd)
    (k : ∀ r ρ' v H' F', Qd r ρ' → Same F F' → Rep X'.K G σ H' F' ρ' → RDen X'.K G σ ρ' H' F' v r → Q v H') : tCB (rIsX X'.K C a d) (tCons te (tCons (tC c) tNil)) σ H Q := by
  refine he.sem R q fun r ρ1 v H1 F1 q1 s1 R1 rd => ?_
  obtain ⟨F2, s2, R2, d2⟩ := R1.share rd
  obtain ⟨q1, b, hb, qd⟩ := q1
  obtain ⟨rfl, hx⟩ := isX_pre R2.ext d2 q1
  exact ⟨c, cv, b, rfl, hc, hx, hb, k _ _ _ _ _ qd (s1.trans s2) R2 (.bl b)⟩
theorem de_isX {a C : Addr} {oe : Obj} {d : Option Addr} {pn : List (Addr × Obj)} {x y : Str} {p p1 p2 pos : Pos} {Cc : Addr} {te : TE} {t : TD} (T : ExcC X.K C) (hz : Zc (.ref C) d oe) (hf : ∃ vs, oe.data = .fields vs)
    (he : DE (X.suite a ((a, oe) :: pn)) (.Name x p1) te t) (hg : Gl X "isinstance") (hm : X.mg "isinstance" = none) (hgy : Gl X y) (hmy : X.mg y = some (.ref Cc)) (hdy : (y == ("__debug__" : Str)) = false := by decide)
    (hs : starEach (.Name x p1 :: [.Name y p2]) X.env = (false, eval (.Name x p1) X.env) :: starEach [.Name y p2] X.env := by rfl) (hs2 : starEach (.Name y p2 :: []) X.env = (false, eval (.Name y p2) X.env) :: starEach [] X.env := by rfl)
    (hpl : (backTo pos (starEach [.Name y p2] X.env)).any (·.1) = false := by rfl) :
    DE (X.suite a ((a, oe) :: pn)) (.Call (.Name "isinstance" p) [.Name x p1, .Name y p2] [] pos) (tCB (rIsX X.K C a d) (tCons te (tCons (tC (.ref Cc)) tNil))) (dIsX X.K a C d (.ref Cc) t) :=
  ⟨pe_callB (call_isX T hz hf) hg hm PyProof.Rows.boot_isinstance (pa_cons he.pe (pa_cons (pe_glob hgy hmy rfl hdy) pa_nil hs2) hs) (by decide) (by decide) hs hpl,
    fun R q k => sem_isX (X' := X.suite a ((a, oe) :: pn)) he (.own Cc) R q k⟩
theorem de_isXb {a C : Addr} {oe : Obj} {d : Option Addr} {pn : List (Addr × Obj)} {x y : Str} {p p1 p2 pos : Pos} {ty : String} {te : TE} {t : TD} (T : ExcC X.K C) (hz : Zc (.ref C) d oe) (hf : ∃ vs, oe.data = .fields vs)
    (he : DE (X.suite a ((a, oe) :: pn)) (.Name x p1) te t) (hg : Gl X "isinstance") (hm : X.mg "isinstance" = none) (hgy : Gl X y) (hmy : X.mg y = none) (hv : bootBuiltins y = some (.type ty)) (hny : y ≠ "__name__" := by decide) (hdy : (y == ("__debug__" : Str)) = false := by decide)
    (hs : starEach (.Name x p1 :: [.Name y p2]) X.env = (false, eval (.Name x p1) X.env) :: starEach [.Name y p2] X.env := by rfl) (hs2 : starEach (.Name y p2 :: []) X.env = (false, eval (.Name y p2) X.env) :: starEach [] X.env := by rfl)
    (hpl : (backTo pos (starEach [.Name y p2] X.env)).any (·.1) = false := by rfl) :
    DE (X.suite a ((a, oe) :: pn)) (.Call (.Name "isinstance" p) [.Name x p1, .Name y p2] [] pos) (tCB (rIsX X.K C a d) (tCons te (tCons (tC (.ty ty)) tNil))) (dIsX X.K a C d (.type ty) t) :=
  ⟨pe_callB (call_isX T hz hf) hg hm PyProof.Rows.boot_isinstance (pa_cons he.pe (pa_cons (pe_bltn hgy hmy hv rfl hny hdy) pa_nil hs2) hs) (by decide) (by decide) hs hpl,
    fun R q k => sem_isX (X' := X.suite a ((a, oe) :: pn)) he (.ty ty) R q k⟩
/-- isinstance(e, (A, B, ..)), own classes -/
def dIsXT (K : PySem.W.Frag) (a C : Addr) (d : Option Addr) (cs : List Addr) (t : TD) : TD := fun ρ Q => t ρ fun r ρ1 => isErr a d r.dat ∧ ∃ b, PySem.W.kitAny K (.ref C) (cs.map Value.ref) = some b ∧ Q (.v (.bl b)) ρ1
/-- names of own classes -/
inductive ClsN (X : Cx) : List Expr → List Addr → TA → Prop
  | nil : ClsN X [] [] tNil
  | cons {y : Str} {p : Pos} {es : List Expr} {C : Addr} {Cs : List Addr} {ta : TA} (hg : Gl X y) (hm : X.mg y = some (.ref C)) (hd : (y == ("__debug__" : Str)) = false) (hs : starEach (.Name y p :: es) X.env = (false, eval (.Name y p) X.env) :: starEach es X.env) (r : ClsN X es Cs ta) :
      ClsN X (.Name y p :: es) (C :: Cs) (tCons (tC (.ref C)) ta)
theorem ClsN.pa {es : List Expr} {Cs : List Addr} {ta : TA} (h : ClsN X es Cs ta) : PA X es ta := by
  induction h with
  | nil => exact pa_nil
  | cons hg hm hd hs r ih => exact pa_cons (pe_glob hg hm rfl hd) ih hs
theorem ClsN.run {es : List Expr} {Cs : List Addr} {ta : TA} (h : ClsN X es Cs ta) {σ : L2.St} {H : Hp} {Q : List V → Hp → Prop} (q : Q (Cs.map V.ref) H) : ta σ H Q := by
  induction h generalizing Q with
  | nil => exact q
  | cons hg hm hd hs r ih => exact ih q
theorem ClsN.suite {es : List Expr} {Cs : List Addr} {ta : TA} (h : ClsN X es Cs ta) (a : Addr) (pn : List (Addr × Obj)) : ClsN (X.suite a pn) es Cs ta := by
  induction h with
  | nil => exact .nil
  | cons hg hm hd hs r ih => exact .cons hg hm hd hs ih
theorem clsV_all : ∀ Cs : List Addr, Paired ClsV (Cs.map V.ref) (Cs.map Value.ref)
  | [] => .nil
  | C :: Cs => .cons (.own C) (clsV_all Cs)
theorem ClsN.len {es : List Expr} {Cs : List Addr} {ta : TA} (h : ClsN X es Cs ta) : es.length = Cs.length := by
  induction h with
  | nil => rfl
  | cons _ _ _ _ _ ih => rw [List.length_cons, List.length_cons, ih]
theorem de_isXT {a C : Addr} {oe : Obj} {d : Option Addr} {pn : List (Addr × Obj)} {x : Str} {p p1 p2 pos : Pos} {k : Nat} {es : List Expr} {Cs : List Addr} {te : TE} {t : TD} {ta : TA} (T : ExcC X.K C) (hz : Zc (.ref C) d oe) (hf : ∃ vs, oe.data = .fields vs)
    (he : DE (X.suite a ((a, oe) :: pn)) (.Name x p1) te t) (hg : Gl X "isinstance") (hm : X.mg "isinstance" = none) (hc : ClsN X es Cs ta) (hl : Cs.length ≤ 1000 := by simp)
    (hs : starEach (.Name x p1 :: [.Tuple es k p2]) X.env = (false, eval (.Name x p1) X.env) :: starEach [.Tuple es k p2] X.env := by rfl) (hs2 : starEach (.Tuple es k p2 :: []) X.env = (false, eval (.Tuple es k p2) X.env) :: starEach [] X.env := by rfl)
    (hpl : (backTo pos (starEach [.Tuple es k p2] X.env)).any (·.1) = false := by rfl) :
    DE (X.suite a ((a, oe) :: pn)) (.Call (.Name "isinstance" p) [.Name x p1, .Tuple es k p2] [] pos) (tCB (rIsXT X.K C a d) (tCons te (tCons (tTup ta) tNil))) (dIsXT X.K a C d Cs t) :=
  ⟨pe_callB (call_isXT T hz hf) hg hm PyProof.Rows.boot_isinstance (pa_cons he.pe (pa_cons (pe_tup (hc.suite a _).pa) pa_nil hs2) hs) (by decide) (by decide) hs hpl, fun {G σ H F ρ Q Qd} R q kk => by
    refine he.sem R q fun r ρ1 v H1 F1 q1 s1 R1 rd => ?_
    obtain ⟨F2, s2, R2, d2⟩ := R1.share rd
    obtain ⟨q1, b, hb, qd⟩ := q1
    obtain ⟨rfl, hx⟩ := isX_pre R2.ext d2 q1
    refine hc.run ⟨by rw [List.length_map, sizeLine_eq]; omega, fun tp hp => ?_⟩
    obtain ⟨s3, R3⟩ := R2.alloc (o := .tup (Cs.map V.ref)) hp
    refine ⟨tp, _, _, b, rfl, upd_same, clsV_all Cs, ?_, hb, kk _ _ _ _ _ qd (s1.trans (s2.trans s3)) R3 (.bl b)⟩
    cases d with
    | none => trivial
    | some dd =>
      obtain ⟨fs, e⟩ := hx
      exact ⟨fs, by rw [upd_ne (ne_of_none e hp)]; exact e⟩⟩
/-! ### try -/
/-- behind 'except c as e' (slot i): what is wanted of an error of the body -/
def xAs (K : PySem.W.Frag) (KX : Addr → Prop) (cv : Value) (i : Nat) (ts : Addr → Addr → Option Addr → TSD) (E : EndsD) : WXD := fun C o ρ =>
  ∃ b, PySem.W.exmOne K (.ref C) cv = some b ∧ (b = true → KX C ∧ ∀ (a : Addr) (dd : Option Addr), (o.isSome = dd.isSome) → ts a C dd { nx := fun ρ' => E.nx (ρ'.set i .un), rt := E.rt, bk := fun ρ' => E.bk (ρ'.set i .un), ct := fun ρ' => E.ct (ρ'.set i .un) } (ρ.set i (.sh (excD a C o dd)))) ∧
    (b = false → E.xc C o ρ)
def sTryAs (K : PySem.W.Frag) (KX : Addr → Prop) (cv : Value) (i : Nat) (tb : TSD) (ts : Addr → Addr → Option Addr → TSD) : TSD := fun E ρ => tb { E with xc := xAs K KX cv i ts E } ρ
theorem pss_weak {st : List Stmt} {t t' : TS} (h : PSs X st t') (w : ∀ D σ H, t D σ H → t' D σ H) : PSs X st t := ⟨fun pins s σ H D I q => h.run pins s σ H D I (w _ _ _ q)⟩
theorem excD_den {K : PySem.W.Frag} {F : Hp} {a C : Addr} {o : Option (Str × D)} {d : Option Addr} (h : XDen K F o d) : Den K F (.ref a) (excD a C o d) ∧ o.isSome = d.isSome := by
  cases o with
  | none =>
    have h : d = none := h
    subst h
    exact ⟨.at a, rfl⟩
  | some x =>
    obtain ⟨dd, v, rfl, h2, h3⟩ := h
    exact ⟨.exc h2 h3, rfl⟩
theorem ds_tryAs (KX : Addr → Prop) {x n : Str} {cv : Value} {i : Nat} {body suite : List Stmt} {b₀ : Stmt} {np pos pos' : Pos} {tsb : List (Addr × Obj) → (Value → Shared → Prop) → TS} {tbd : TSD} {tss : Addr → Addr → Option Addr → Obj → List (Addr × Obj) → TS} {tsd : Addr → Addr → Option Addr → TSD}
    (hs : X.stack = X.env :: X.outer) (hf : X.env.frame = some X.env.locals) (hN : X.N.Nodup) (hi : X.N[i]? = some n) (hln : X.env.kindOf n = some .local) (hc : L2.Names X x cv)
    (hb : ∀ (pn : List (Addr × Obj)) (xe : Value → Shared → Prop), PassesOwn (model X.prog X.w) X.A X.env xe → DSs (X.tr pn xe) body (tsb pn xe) tbd)
    (hsu : ∀ (a C : Addr) (d : Option Addr) (oe : Obj) (pn : List (Addr × Obj)), KX C → Zc (.ref C) d oe → (∃ vs, oe.data = .fields vs) → DSs (X.suite a ((a, oe) :: pn)) (b₀ :: suite) (tss a C d oe pn) (tsd a C d)) :
    DS X (.Try body [.ExceptHandler (some (.Name x np)) (some n) (b₀ :: suite) pos'] [] [] pos)
      (fun D σ H => (fun (W : WX) (D : Ends) σ H => ∀ pn xe, PassesOwn (model X.prog X.w) X.A X.env xe → Takes (X.tr pn xe) W → tsb pn xe D σ H)
        (wAs X.K cv i (fun a cls d D σ H => ∃ C, cls = .ref C ∧ KX C ∧ ∀ oe pn, Zc (.ref C) d oe → (∃ vs, oe.data = .fields vs) → tss a C d oe pn D σ H) (wOf X) D) D σ H)
      (sTryAs X.K KX cv i tbd tsd) := by
  refine ⟨ps_try_as (tb := fun (W : WX) (D : Ends) σ H => ∀ pn xe, PassesOwn (model X.prog X.w) X.A X.env xe → Takes (X.tr pn xe) W → tsb pn xe D σ H) (ts := fun a cls d D σ H => ∃ C, cls = .ref C ∧ KX C ∧ ∀ oe pn, Zc (.ref C) d oe → (∃ vs, oe.data = .fields vs) → tss a C d oe pn D σ H)
    hs hf hN hi hln hc (takes_wOf X) (fun W pn xe tk po => pss_weak (hb pn xe po).pe fun D σ H q => q pn xe po tk) (fun a oe cls d pn hz hv => ?_), fun {G σ H F ρ D E} R q L pn xe po tk => ?_⟩
  · by_cases hcl : ∃ C, cls = .ref C ∧ KX C
    · obtain ⟨C, rfl, hk⟩ := hcl
      refine pss_weak (hsu a C d oe pn hk hz hv).pe fun D σ H ⟨C', e, _, q⟩ => ?_
      cases e
      exact q oe pn hz hv
    · exact ⟨fun pins s σ H D I ⟨C', e, k, q⟩ => (hcl ⟨C', e, k⟩).elim⟩
  · refine (hb pn xe po).sem R q ⟨L.nx, L.rt, L.bk, L.ct, fun σ' H' F' ρ' C o dd h R' xd => wOf_of tk ?_⟩
    obtain ⟨b, e1, h1, h2⟩ := h
    refine ⟨b, e1, fun hb1 a na => ⟨C, rfl, (h1 hb1).1, fun oe pn2 hz hv => ?_⟩, fun hb0 => L.xc _ _ _ _ _ _ _ (h2 hb0) R' xd⟩
    obtain ⟨de, ds⟩ := excD_den (a := a) (C := C) xd
    refine (hsu a C dd oe pn2 (h1 hb1).1 hz hv).sem (R'.setSh de i) ((h1 hb1).2 a dd ds) ⟨fun σ2 H2 F2 ρ2 q2 R2 => ?_, fun σ2 H2 F2 ρ2 r v q2 R2 rd => L.rt _ _ _ _ _ _ q2 R2 rd, fun σ2 H2 F2 ρ2 q2 R2 => ?_, fun σ2 H2 F2 ρ2 q2 R2 => ?_, fun _ _ _ _ _ _ _ e _ _ => e.elim⟩
    · exact L.nx _ _ _ _ q2 (R2.setUn i none)
    · exact L.bk _ _ _ _ q2 (R2.setUn i none)
    · exact L.ct _ _ _ _ q2 (R2.setUn i none)
/-- behind 'except c' -/
def xOnly (K : PySem.W.Frag) (KX : Addr → Prop) (cv : Value) (ts : Addr → Addr → Option Addr → TSD) (E : EndsD) : WXD := fun C o ρ =>
  ∃ b, PySem.W.exmOne K (.ref C) cv = some b ∧ (b = true → KX C ∧ ∀ (a : Addr) (dd : Option Addr), (o.isSome = dd.isSome) → ts a C dd { nx := E.nx, rt := E.rt, bk := E.bk, ct := E.ct } ρ) ∧ (b = false → E.xc C o ρ)
def sTryOnly (K : PySem.W.Frag) (KX : Addr → Prop) (cv : Value) (tb : TSD) (ts : Addr → Addr → Option Addr → TSD) : TSD := fun E ρ => tb { E with xc := xOnly K KX cv ts E } ρ
theorem ds_tryOnly (KX : Addr → Prop) {x : Str} {cv : Value} {body suite : List Stmt} {b₀ : Stmt} {np pos pos' : Pos} {tsb : List (Addr × Obj) → (Value → Shared → Prop) → TS} {tbd : TSD} {tss : Addr → Addr → Option Addr → Obj → List (Addr × Obj) → TS} {tsd : Addr → Addr → Option Addr → TSD}
    (hs : X.stack = X.env :: X.outer) (hf : X.env.frame = some X.env.locals) (hc : L2.Names X x cv)
    (hb : ∀ (pn : List (Addr × Obj)) (xe : Value → Shared → Prop), PassesOwn (model X.prog X.w) X.A X.env xe → DSs (X.tr pn xe) body (tsb pn xe) tbd)
    (hsu : ∀ (a C : Addr) (d : Option Addr) (oe : Obj) (pn : List (Addr × Obj)), KX C → Zc (.ref C) d oe → (∃ vs, oe.data = .fields vs) → DSs (X.suite a ((a, oe) :: pn)) (b₀ :: suite) (tss a C d oe pn) (tsd a C d)) :
    DS X (.Try body [.ExceptHandler (some (.Name x np)) none (b₀ :: suite) pos'] [] [] pos)
      (fun D σ H => (fun (W : WX) (D : Ends) σ H => ∀ pn xe, PassesOwn (model X.prog X.w) X.A X.env xe → Takes (X.tr pn xe) W → tsb pn xe D σ H)
        (wOnly X.K cv (fun a cls d D σ H => ∃ C, cls = .ref C ∧ KX C ∧ ∀ oe pn, Zc (.ref C) d oe → (∃ vs, oe.data = .fields vs) → tss a C d oe pn D σ H) (wOf X) D) D σ H)
      (sTryOnly X.K KX cv tbd tsd) := by
  refine ⟨ps_try_only (tb := fun (W : WX) (D : Ends) σ H => ∀ pn xe, PassesOwn (model X.prog X.w) X.A X.env xe → Takes (X.tr pn xe) W → tsb pn xe D σ H) (ts := fun a cls d D σ H => ∃ C, cls = .ref C ∧ KX C ∧ ∀ oe pn, Zc (.ref C) d oe → (∃ vs, oe.data = .fields vs) → tss a C d oe pn D σ H)
    hs hf hc (takes_wOf X) (fun W pn xe tk po => pss_weak (hb pn xe po).pe fun D σ H q => q pn xe po tk) (fun a oe cls d pn hz hv => ?_), fun {G σ H F ρ D E} R q L pn xe po tk => ?_⟩
  · by_cases hcl : ∃ C, cls = .ref C ∧ KX C
    · obtain ⟨C, rfl, hk⟩ := hcl
      refine pss_weak (hsu a C d oe pn hk hz hv).pe fun D σ H ⟨C', e, _, q⟩ => ?_
      cases e
      exact q oe pn hz hv
    · exact ⟨fun pins s σ H D I ⟨C', e, k, q⟩ => (hcl ⟨C', e, k⟩).elim⟩
  · refine (hb pn xe po).sem R q ⟨L.nx, L.rt, L.bk, L.ct, fun σ' H' F' ρ' C o dd h R' xd => wOf_of tk ?_⟩
    obtain ⟨b, e1, h1, h2⟩ := h
    refine ⟨b, e1, fun hb1 a na => ⟨C, rfl, (h1 hb1).1, fun oe pn2 hz hv => ?_⟩, fun hb0 => L.xc _ _ _ _ _ _ _ (h2 hb0) R' xd⟩
    obtain ⟨de, ds⟩ := excD_den (a := a) (C := C) xd
    refine (hsu a C dd oe pn2 (h1 hb1).1 hz hv).sem R' ((h1 hb1).2 a dd ds) ⟨fun σ2 H2 F2 ρ2 q2 R2 => ?_, fun σ2 H2 F2 ρ2 r v q2 R2 rd => L.rt _ _ _ _ _ _ q2 R2 rd, fun σ2 H2 F2 ρ2 q2 R2 => ?_, fun σ2 H2 F2 ρ2 q2 R2 => ?_, fun _ _ _ _ _ _ _ e _ _ => e.elim⟩
    · exact L.nx _ _ _ _ q2 R2
    · exact L.bk _ _ _ _ q2 R2
    · exact L.ct _ _ _ _ q2 R2
end
theorem xf_of {K : PySem.W.Frag} {C : Addr} (h : ExcC K C) : XfC K C := ⟨h.hg, h.hk, h.hs, h.hd⟩
structure CalX (P : Program) (w : World) (K : PySem.W.Frag) (mg : Str → Option Value) (base : Heap) (k : Nat) (x : Str) (f : Addr) (fd : FuncData) (ps : List Str) (sp : SpX) : Prop where
  g : mg x = some (.ref f)
  kp : PySem.W.keepIn K (.ref f) = true
  b : Binds K fd ps []
  ok : FnG P w K mg base (L2.CX P w) k f fd ps (liftX K sp)
end DL
/-! == and != of what stands on a pile, or holds such things. -/
namespace DL
open PySem PySem.Spec L2 PyProof.Rows
section
variable {X : Cx}
def dCmpV (g : Nat) (f : Bool → Bool) (ta tb : TQ) : TD := fun ρ Q => ta ρ fun oa ρ1 => tb ρ1 fun ob ρ2 => match getsV ρ2 g [oa, ob] with
  | some [a, b] => D.fit 60 a = true ∧ D.fit 60 b = true ∧ Q (.v (.bl (f (D.eqv a b)))) ρ2
  | _ => False
theorem sem_cmpV (g : Nat) {r : R2} {f : Bool → Bool} {ta tb : TE} {a b : Expr} {da db : TQ} (ha : DO X a ta da) (hb : DO X b tb db)
    (hr : ∀ {H : Hp} {x y : V} {a b : D} {Q : VK}, Den X.K H x a → Den X.K H y b → D.fit 60 a = true → D.fit 60 b = true → Q (.bl (f (D.eqv a b))) H → r x y H Q)
    {G : Cd} {σ : L2.St} {H F : Hp} {ρ : SL} {Q : VK} {Qd : Rv → SL → Prop} (R : Rep X.K G σ H F ρ) (q : dCmpV g f da db ρ Qd)
    (k : ∀ r ρ' v H' F', Qd r ρ' → Same F F' → Rep X.K G σ H' F' ρ' → RDen X.K G σ ρ' H' F' v r → Q v H') : tOp r ta tb σ H Q := by
  refine ha.sem R q fun oa ρ1 v H1 F1 q1 s1 R1 d1 => ?_
  refine hb.sem R1 q1 fun ob ρ2 u H2 F2 q2 s2 R2 d2 => ?_
  cases e : getsV ρ2 g [oa, ob] with
  | none => rw [e] at q2; exact q2.elim
  | some l =>
    have dl := OpDens.densV R2 (g := g) (.cons (d1.mono s2) (.cons d2 .nil)) e
    rw [e] at q2
    cases dl with
    | cons x1 t1 =>
      cases t1 with
      | cons x2 t2 =>
        cases t2
        obtain ⟨h1, h2, q2⟩ := q2
        exact hr x1 x2 h1 h2 (k _ _ _ _ _ q2 (s1.trans s2) R2 (.bl _))
theorem de_eqV (g : Nat) (hu : X.A.units + 64 < cLine) {ta tb : TE} {a b : Expr} {da db : TQ} {pos : Pos} (ha : DO X a ta da) (hb : DO X b tb db) (hm : behindInMarks .Eq b = false) : DE X (.Compare a [.Eq] [b] pos) (tOp (rEqA X.K) ta tb) (dCmpV g id da db) :=
  ⟨pe_cmpR (op_eqA hu) ha.pe hb.pe hm, fun R q kk => sem_cmpV g ha hb (fun {H x y a b Q} da db fa fb q => .inl ⟨a.py, b.py, Den.dp da fa, Den.dp db fb, shaped_of da fa, shaped_of db fb, by rw [eqv_py a b 60 60 fa fb]; exact q⟩) R q kk⟩
theorem de_neV (g : Nat) (hu : X.A.units + 64 < cLine) {ta tb : TE} {a b : Expr} {da db : TQ} {pos : Pos} (ha : DO X a ta da) (hb : DO X b tb db) (hm : behindInMarks .NotEq b = false) : DE X (.Compare a [.NotEq] [b] pos) (tOp (rNeA X.K) ta tb) (dCmpV g not da db) :=
  ⟨pe_cmpR (op_neA hu) ha.pe hb.pe hm, fun R q kk => sem_cmpV g ha hb (fun {H x y a b Q} da db fa fb q => .inl ⟨a.py, b.py, Den.dp da fa, Den.dp db fb, shaped_of da fa, shaped_of db fb, by rw [eqv_py a b 60 60 fa fb]; exact q⟩) R q kk⟩
end
end DL
/-! What is shown is a good text; f-strings; repr of an object by its own __repr__. -/
namespace DL
open PySem L2
theorem char_lt (c : Char) : c.toNat < 0x110000 := by
  have := c.valid
  unfold Char.toNat
  rcases this with h | h
  · exact Nat.lt_trans h (by decide)
  · exact h.2
theorem reprChar_ok {q c : Nat} (h : c < 0x110000) : ∀ x ∈ Builtin.Str.reprChar q c, x < 0x110000 := by
  have hd : ∀ k, ∀ x ∈ (List.replicate (k - ((Nat.toDigits 16 c).map Char.toNat).length) 48 ++ (Nat.toDigits 16 c).map Char.toNat), x < 0x110000 := fun k x z => by
    rcases List.mem_append.mp z with z | z
    · rw [List.eq_of_mem_replicate z]; decide
    · obtain ⟨d, _, rfl⟩ := List.mem_map.mp z
      exact char_lt d
  have two : ∀ a b : Nat, a < 0x110000 → b < 0x110000 → ∀ x ∈ [a, b], x < 0x110000 := fun a b ha hb x hx => by
    rcases List.mem_cons.mp hx with z | z
    · omega
    · have := List.mem_singleton.mp z; omega
  have app : ∀ (a b : Nat) (l : List Nat), a < 0x110000 → b < 0x110000 → (∀ x ∈ l, x < 0x110000) → ∀ x ∈ [a, b] ++ l, x < 0x110000 := fun a b l ha hb hl x hx => by
    rcases List.mem_append.mp hx with z | z
    · exact two a b ha hb x z
    · exact hl x z
  unfold Builtin.Str.reprChar
  simp only
  split
  · exact two _ _ (by decide) h
  · split
    · exact two _ _ (by decide) (by decide)
    · split
      · exact two _ _ (by decide) (by decide)
      · split
        · exact two _ _ (by decide) (by decide)
        · split
          · intro x hx; have := List.mem_singleton.mp hx; omega
          · split
            · exact app _ _ _ (by decide) (by decide) (hd 2)
            · split
              · exact app _ _ _ (by decide) (by decide) (hd 4)
              · exact app _ _ _ (by decide) (by decide) (hd 8)
theorem fold_repr_ok (q : Nat) : ∀ (l : List Nat) (acc : Array Nat), (∀ c ∈ l, c < 0x110000) → (∀ c ∈ acc.toList, c < 0x110000) → ∀ c ∈ (l.foldl (fun out c => out ++ (Builtin.Str.reprChar q c).toArray) acc).toList, c < 0x110000
  | [], acc, _, h => h
  | c :: r, acc, h, ha => by
    rw [List.foldl_cons]
    refine fold_repr_ok q r _ (fun x hx => h x (List.mem_cons_of_mem _ hx)) fun x hx => ?_
    rw [Array.toList_append] at hx
    rcases List.mem_append.mp hx with z | z
    · exact ha x z
    · exact reprChar_ok (h c List.mem_cons_self) x z
theorem reprQuote_lt (x : Str) : reprQuote x < 0x110000 := by
  unfold reprQuote
  split <;> decide
theorem strOk_reprText {x : Str} (h : PyData.strOk x = true) : PyData.strOk (reprText x) = true := by
  rw [strOk_iff] at *
  unfold reprText
  intro c hc
  rw [Array.toList_push, ← Array.foldl_toList] at hc
  rcases List.mem_append.mp hc with z | z
  · refine fold_repr_ok _ _ _ h (fun c hc => ?_) c z
    have : c = reprQuote x := by simpa using hc
    rw [this]; exact reprQuote_lt x
  · rw [List.mem_singleton.mp z]; exact reprQuote_lt x
theorem strOk_strJoin {sep : Str} (hs : PyData.strOk sep = true) : ∀ l : List Str, (∀ x ∈ l, PyData.strOk x = true) → PyData.strOk (Str.join sep l) = true
  | [], _ => strOk_iff.mpr fun c hc => by cases hc
  | [x], h => h x List.mem_cons_self
  | x :: y :: r, h => by
    rw [Str.join]
    exact strOk_append (strOk_append (h x List.mem_cons_self) hs) (strOk_strJoin hs (y :: r) fun z hz => h z (List.mem_cons_of_mem _ hz))
    all_goals (intro h2; cases h2)

section
variable {K : PySem.W.Frag} {F : Hp}
theorem at_ok {d : D} {v : V} (h : Den K F v d) (ha : d.atm = true) : PyData.strOk d.py.shown = true := by
  cases d with
  | non => rw [D.py, PyData.shown_none]; exact strOk_ofString _
  | bl b => rw [D.py, PyData.shown_bool]; cases b <;> exact strOk_ofString _
  | int i => rw [D.py, PyData.shown_int]; exact strOk_ofString _
  | str x =>
    rw [D.py, PyData.shown_str]
    cases h with
    | str _ a => exact strOk_reprText a
  | _ => simp [D.atm] at ha
theorem shownK_ok : ∀ {kvs : List (Key × D)} {ks : List (Key × V)}, DenK K F ks kvs → (kvs.all fun kv => kv.2.atm) = true → ∀ t ∈ PyData.shownKv (D.pyk kvs), PyData.strOk t = true
  | [], _, h, _ => by intro t ht; rw [D.pyk] at ht; simp [PyData.shownKv] at ht
  | (k, d) :: r, _, h, ha => by
    rw [List.all_cons, Bool.and_eq_true] at ha
    cases h with
    | cons h1 h2 h3 =>
      intro t ht
      rw [D.pyk, shownKv_cons] at ht
      rcases List.mem_cons.mp ht with z | z
      · rw [z]
        refine strOk_append (strOk_append ?_ (strOk_ofString _)) (at_ok h1 ha.1)
        cases k with
        | inl i => exact at_ok (K := K) (F := F) (d := .int i) (.int i) rfl
        | inr x => exact at_ok (K := K) (F := F) (d := .str x) (.str x h2) rfl
      · exact shownK_ok h3 ha.2 t z
mutual
theorem shown_ok : ∀ (n : Nat) (d : D) (v : V), Den K F v d → D.fitR n d = true → PyData.strOk d.py.shown = true
  | n, .non, v, h, _ => by rw [D.py, PyData.shown_none]; exact strOk_ofString _
  | n, .bl b, v, h, _ => by rw [D.py, PyData.shown_bool]; cases b <;> exact strOk_ofString _
  | n, .int i, v, h, hf => by rw [D.py, PyData.shown_int]; exact strOk_ofString _
  | n, .str x, v, h, hf => by
    rw [D.py, PyData.shown_str]
    cases h with
    | str _ a => exact strOk_reprText a
  | 0, .lst l, v, h, hf => by simp [D.fitR] at hf
  | 0, .tup l, v, h, hf => by simp [D.fitR] at hf
  | n + 1, .lst l, v, h, hf => by
    rw [D.fitR] at hf
    cases h with
    | lst a b =>
      rw [D.py, PyData.shown_list]
      exact strOk_append (strOk_append (strOk_ofString _) (strOk_strJoin (strOk_ofString _) _ (showns_ok n l _ b hf))) (strOk_ofString _)
  | n + 1, .tup l, v, h, hf => by
    rw [D.fitR] at hf
    cases h with
    | tup a b =>
      rw [D.py, PyData.shown_tuple]
      exact strOk_append (strOk_append (strOk_ofString _) (strOk_strJoin (strOk_ofString _) _ (showns_ok n l _ b hf))) (strOk_ofString _)
  | 0, .dct _, _, _, e => by simp [D.fitR] at e
  | n + 1, .dct kvs, v, h, hf => by
    rw [D.fitR] at hf
    cases h with
    | dct a b =>
      rw [D.py, PyData.shown_dict]
      exact strOk_append (strOk_append (strOk_ofString _) (strOk_strJoin (strOk_ofString _) _ (shownK_ok b hf))) (strOk_ofString _)
  | 0, .obj _ _, _, _, e => by simp [D.fitR] at e
  | _ + 1, .obj _ _, _, _, e => by simp [D.fitR] at e
  | 0, .scr _, _, _, e => by simp [D.fitR] at e
  | _ + 1, .scr _, _, _, e => by simp [D.fitR] at e
  | 0, .rep _, _, _, e => by simp [D.fitR] at e
  | _ + 1, .rep _, _, _, e => by simp [D.fitR] at e
  | 0, .at _, _, _, e => by simp [D.fitR] at e
  | _ + 1, .at _, _, _, e => by simp [D.fitR] at e
  | 0, .exc _ _ _ _ _, _, _, e => by simp [D.fitR] at e
  | _ + 1, .exc _ _ _ _ _, _, _, e => by simp [D.fitR] at e
  | 0, .unk, _, _, e => by simp [D.fitR] at e
  | _ + 1, .unk, _, _, e => by simp [D.fitR] at e
theorem showns_ok : ∀ (n : Nat) (l : List D) (vs : List V), DenL K F vs l → D.fitRs n l = true → ∀ t ∈ PyData.shownAll (D.pys l), PyData.strOk t = true
  | n, [], vs, h, _ => by intro t ht; rw [D.pys, PyData.shownAll_nil] at ht; cases ht
  | n, d :: r, vs, h, hf => by
    rw [D.fitRs, Bool.and_eq_true] at hf
    cases h with
    | cons a b =>
      intro t ht
      rw [D.pys, PyData.shownAll_cons] at ht
      rcases List.mem_cons.mp ht with z | z
      · rw [z]; exact shown_ok n d _ a hf.1
      · exact showns_ok n r _ b hf.2 t z
end
end
section
variable {X : Cx} {pins : List (Addr × Obj)} {σ : L2.St} {H : Hp} {s : Shared}
theorem reprObj_dr (I : Inv X pins σ H s) (hg : X.A.guards = some []) (hu : X.A.units + 64 < cLine) {a : Addr} {d : PyData} (h : Dr H (.ref a) d) (hs : d.showable = true) (hz : d.shown.length ≤ sizeLine) (hdp : d.depth ≤ 60) {Q : Value → Shared → Prop}
    (q : ∀ h' u tk, (∀ b o, s.heap.get? b = some o → h'.get? b = some o) → Q (.str d.shown u) { s with heap := h', toks := tk }) : wpAny (model X.prog X.w) X.A (pyReprObj (.ref a)) Q X.xe s := by
  have old : ∀ b o, s.heap.get? b = some o → s.heap.get? b = some o := fun _ _ e => e
  cases d with
  | list ds =>
    cases h with
    | lst hl ha =>
      obtain ⟨its, rv, ⟨o, n, ho, hc, _, hd⟩, _⟩ := I.list (.inl (.inl hl))
      obtain ⟨as, hr⟩ := Dr.readsAll I ds _ its ha rv
      rw [shown_listText] at hz q
      obtain ⟨bs, hb, hk⟩ := Dr.showAll I ds _ its ha rv (by rw [PyData.showable] at hs; exact hs) fun t ht => Nat.le_trans (listText_mem_le ht) hz
      have hna := not_mem_of_deeper (Reads.list ho hc hd hr) (by rw [PyData.depth]; exact Nat.lt_succ_self _) hb
      rw [PyData.depth] at hdp
      refine wpAny_pyReprObj_slot (by omega) ⟨o, ho, hc⟩ F.slot_list_repr.toG ?_
      cases its with
      | nil =>
        cases rv
        cases ha
        exact call_list_repr_empty ⟨o, ho, hc⟩ ho hd ⟨_, _, rfl, q s.heap _ _ old⟩
      | cons x l =>
        exact call_list_reprK ho hc hd hna hk.length_eq (fun i y e => hk.item i y (by rwa [List.getElem?_toArray] at e)) hg (fun b _ => Clear.nil b) (by omega) old (fun h' u tk hh => ⟨_, _, rfl, q h' u tk hh⟩) hz
  | tuple ds =>
    cases h with
    | tup hl ha =>
      obtain ⟨its, rv, ⟨o, ho, hc, n, hd⟩, _⟩ := I.tuple (.inl (.inl hl))
      obtain ⟨as, hr⟩ := Dr.readsAll I ds _ its ha rv
      rw [shown_tupleText] at hz q
      obtain ⟨bs, hb, hk⟩ := Dr.showAll I ds _ its ha rv (by rw [PyData.showable] at hs; exact hs) fun t ht => Nat.le_trans (tupleText_mem_le ht) hz
      have hna := not_mem_of_deeper (Reads.tuple ho hc hd hr) (by rw [PyData.depth]; exact Nat.lt_succ_self _) hb
      rw [PyData.depth] at hdp
      refine wpAny_pyReprObj_slot (by omega) ⟨o, ho, hc⟩ F.slot_tuple_repr ?_
      exact call_tuple_reprK ho hc hd hna hk hg (fun b _ => Clear.nil b) (by omega) old (fun h' u tk hh => ⟨_, _, rfl, q h' u tk hh⟩) hz
  | dict kvs =>
    cases h with
    | dct hl hk =>
      obtain ⟨o, es, ep, vs, h1, h2, h3, kv, hp⟩ := entriesAt I hl
      rw [shown_dictText] at hz q
      refine wpAny_pyReprObj_slot (by omega) ⟨o, h1, h2⟩ F.slot_dict_repr ?_
      exact call_dict_reprK (as := []) (d := 0) (ps := PyData.shownKv kvs) h1 h2 h3 (sysOf I hl) (by simp) (entsRepr hk kv hp (by rw [PyData.showable] at hs; exact hs) fun t ht => Nat.le_trans (dictText_mem_le ht) hz) hg (fun b _ => Clear.nil b) (by omega) old (fun h' u tk hh => ⟨_, _, rfl, q h' u tk hh⟩) hz
  | none => cases h
  | bool _ => cases h
  | int _ => cases h
  | str _ => cases h
/-! ### {x!r} -/
def tFmtRE (te : TE) : TE := fun σ H Q => te σ H fun x H1 => ∃ d, Dr H1 x d ∧ d.showable = true ∧ d.depth ≤ 60 ∧ d.shown.length ≤ sizeLine ∧ Q (.str d.shown) H1
theorem pe_fmtRE (hg : X.A.guards = some []) (hu : X.A.units + 64 < cLine) {e : Expr} {te : TE} {pos : Pos} (he : PE X e te) : PE X (.FormattedValue e 114 none pos) (tFmtRE te) := by
  refine ⟨fun pins s σ H Q I h => ?_⟩
  refine wpAny_FormattedValue_repr (thn (he.run pins s σ H _ I h) fun v s1 hv => ?_)
  obtain ⟨x, H1, I1, r1, d, dp, h1, h3, h4, q⟩ := hv
  have dp' := dp
  cases dp with
  | non =>
    cases r1
    exact pyReprObj_none (wpAny_formatField_str ⟨.str _, H1, I1.tok _, ⟨_, rfl⟩, by rw [PyData.shown_none] at q; exact q⟩ ⟨.str _, H1, I1.tok _, ⟨_, rfl⟩, by rw [PyData.shown_none] at q; exact q⟩ (by rw [PyData.shown_none] at h4; exact h4))
  | bl b =>
    cases r1
    exact pyReprObj_bool (wpAny_formatField_str ⟨.str _, H1, I1.tok _, ⟨_, rfl⟩, by rw [PyData.shown_bool] at q; exact q⟩ ⟨.str _, H1, I1.tok _, ⟨_, rfl⟩, by rw [PyData.shown_bool] at q; exact q⟩ (by rw [PyData.shown_bool] at h4; exact h4))
  | int i =>
    obtain ⟨t, rfl⟩ := r1
    have h5 : i.natAbs.log2 < 1920 := by simpa [PyData.showable] using h1
    exact pyReprObj_int h5 (wpAny_formatField_str ⟨.str _, H1, I1.tok _, ⟨_, rfl⟩, by rw [PyData.shown_int] at q; exact q⟩ ⟨.str _, H1, I1.tok _, ⟨_, rfl⟩, by rw [PyData.shown_int] at q; exact q⟩ (int_text_fits h5))
  | str y =>
    obtain ⟨t, rfl⟩ := r1
    rw [PyData.shown_str] at q h4
    exact pyReprObj_str (wpAny_formatField_str ⟨.str _, H1, I1.tok _, ⟨_, rfl⟩, q⟩ ⟨.str _, H1, I1.tok _, ⟨_, rfl⟩, q⟩ h4) h4
  | lst a b =>
    cases r1
    exact reprObj_dr I1 hg hu dp' h1 h4 h3 (fun h' u tk hk => wpAny_formatField_str ⟨.str _, H1, I1.kept (t' := tk) hk, ⟨u, rfl⟩, q⟩ ⟨.str _, H1, I1.kept (t' := tk + 1) hk, ⟨_, rfl⟩, q⟩ h4)
  | tup a b =>
    cases r1
    exact reprObj_dr I1 hg hu dp' h1 h4 h3 (fun h' u tk hk => wpAny_formatField_str ⟨.str _, H1, I1.kept (t' := tk) hk, ⟨u, rfl⟩, q⟩ ⟨.str _, H1, I1.kept (t' := tk + 1) hk, ⟨_, rfl⟩, q⟩ h4)
  | dct a b =>
    cases r1
    exact reprObj_dr I1 hg hu dp' h1 h4 h3 (fun h' u tk hk => wpAny_formatField_str ⟨.str _, H1, I1.kept (t' := tk) hk, ⟨u, rfl⟩, q⟩ ⟨.str _, H1, I1.kept (t' := tk + 1) hk, ⟨_, rfl⟩, q⟩ h4)
def dFmtR (t : TQ) : TD := fun ρ Q => t ρ fun o ρ' => match o.get ρ' with
  | some d => D.fitR 60 d = true ∧ D.small d = true ∧ D.wt d ≤ 16777216 ∧ Q (.v (.str d.py.shown)) ρ'
  | none => False
theorem de_fmtR (hg : X.A.guards = some []) (hu : X.A.units + 64 < cLine) {e : Expr} {te : TE} {t : TQ} {pos : Pos} (he : DO X e te t) : DE X (.FormattedValue e 114 none pos) (tFmtRE te) (dFmtR t) := by
  refine ⟨pe_fmtRE hg hu he.pe, fun {G σ H F ρ Q Qd} R q k => he.sem R q fun o ρ1 v H1 F1 q1 s1 R1 od => ?_⟩
  cases hd : o.get ρ1 with
  | none => rw [hd] at q1; exact q1.elim
  | some d =>
    rw [hd] at q1
    obtain ⟨h1, h2, h3, q1⟩ := q1
    have dd := (od.pk R1 hd).den R1.ext
    obtain ⟨z1, z2, z3, z4⟩ := den_dr 60 d v dd h1 h2
    exact ⟨d.py, z1, z2, z3, le_size (Nat.le_trans z4 h3), k _ _ _ _ _ q1 s1 R1 (.str _ (shown_ok 60 d v dd h1))⟩
/-- {x}: a text or an int -/
def dFmt (t : TD) : TD := fun ρ Q => t ρ fun r ρ' => match r.dat with
  | .str y => y.length ≤ sizeLine ∧ Q (.v (.str y)) ρ'
  | .int i => i.natAbs.log2 < 1920 ∧ Q (.v (.str (toString i : String))) ρ'
  | _ => False
theorem de_fmt {e : Expr} {te : TE} {t : TD} {pos : Pos} (he : DE X e te t) : DE X (.FormattedValue e (-1) none pos) (tFmt te) (dFmt t) := by
  refine ⟨pe_fmt he.pe, fun {G σ H F ρ Q Qd} R q k => he.sem R q fun r ρ1 v H1 F1 q1 s1 R1 rd => ?_⟩
  obtain ⟨F2, s2, R2, d2⟩ := R1.share rd
  cases hd : r.dat with
  | str y =>
    rw [hd] at q1 d2
    cases d2 with
    | str _ a => exact .inl ⟨y, rfl, q1.1, k _ _ _ _ _ q1.2 (s1.trans s2) R2 (.str _ a)⟩
  | int i =>
    rw [hd] at q1 d2
    cases d2
    exact .inr ⟨i, rfl, q1.1, k _ _ _ _ _ q1.2 (s1.trans s2) R2 (.str _ (strOk_ofString _))⟩
  | _ => rw [hd] at q1; exact q1.elim
/-! ### f'..' -/
inductive DJ (X : Cx) : List Expr → List TE → List TD → Prop
  | nil : DJ X [] [] []
  | cons {e : Expr} {te : TE} {t : TD} {es : List Expr} {tes : List TE} {ts : List TD} (h : DE X e te t) (r : DJ X es tes ts) : DJ X (e :: es) (te :: tes) (t :: ts)
theorem DJ.pj {es : List Expr} {tes : List TE} {ts : List TD} (h : DJ X es tes ts) : PJ X es tes := by
  induction h with
  | nil => exact .nil
  | cons h _ ih => exact .cons h.pe ih
def dJs : List TD → Str → SL → (Str → SL → Prop) → Prop
  | [], acc, ρ, Q => Q acc ρ
  | t :: ts, acc, ρ, Q => t ρ fun r ρ1 => ∃ y, r.dat = .str y ∧ (acc ++ y).length ≤ sizeLine ∧ dJs ts (acc ++ y) ρ1 Q
def dJoined (ts : List TD) : TD := fun ρ Q => dJs ts Str.empty ρ fun out ρ1 => Q (.v (.str out)) ρ1
theorem DJ.sem {es : List Expr} {tes : List TE} {ts : List TD} (h : DJ X es tes ts) : ∀ {G : Cd} {σ : L2.St} {H F : Hp} {ρ : SL} {acc : Str} {Q : Str → Hp → Prop} {Qd : Str → SL → Prop}, Rep X.K G σ H F ρ → PyData.strOk acc = true → dJs ts acc ρ Qd →
    (∀ out ρ' H' F', Qd out ρ' → PyData.strOk out = true → Same F F' → Rep X.K G σ H' F' ρ' → Q out H') → tJs tes acc σ H Q := by
  induction h with
  | nil => intro G σ H F ρ acc Q Qd R ha q k; exact k _ _ _ _ q ha (Same.refl _) R
  | @cons e te t es tes ts h _ ih =>
    intro G σ H F ρ acc Q Qd R ha q k
    refine h.sem R q fun r ρ1 v H1 F1 q1 s1 R1 rd => ?_
    obtain ⟨F2, s2, R2, d2⟩ := R1.share rd
    obtain ⟨y, ey, hz, q1⟩ := q1
    rw [ey] at d2
    cases d2 with
    | str _ a => exact ⟨y, rfl, hz, ih R2 (strOk_append ha a) q1 fun out ρ' H' F' q2 ho s3 R3 => k _ _ _ _ q2 ho (s1.trans (s2.trans s3)) R3⟩
theorem de_joined {v1 v2 : Expr} {rest : List Expr} {tes : List TE} {ts : List TD} {pos : Pos} (h : DJ X (v1 :: v2 :: rest) tes ts) : DE X (.JoinedStr (v1 :: v2 :: rest) pos) (fun σ H Q => tJs tes Str.empty σ H fun out H1 => Q (.str out) H1) (dJoined ts) :=
  ⟨pe_joined h.pj, fun {G σ H F ρ Q Qd} R q k => h.sem R (strOk_iff.mpr fun c hc => by cases hc) q fun out ρ' H' F' q1 ho s1 R1 => k _ _ _ _ _ q1 s1 R1 (.str _ ho)⟩
theorem de_joined1 {e : Expr} {te : TE} {t : TD} {pos : Pos} (h : DE X e te t) : DE X (.JoinedStr [e] pos) te t := ⟨pe_joined1 h.pe, h.sem⟩
end
/-! ### repr(x), x an object with its own __repr__ -/
section
variable {prog : Program} {w : World} {A : Around} {E : Value → Shared → Prop} {s : Shared} {K : PySem.W.Frag} {x C f : Addr} {ox : Obj} {od : Option Obj}
theorem repr_ownK {Q : Value → Shared → Prop} (hu : A.in1.units < cLine) (X : K.In s.heap) (I : PySem.W.InstAt s.heap x ox C od) (hs : PySem.W.findIn K (.ref C) "__repr__" = some (some (.ref f))) (hf : PySem.W.isFn K (.ref f) = true)
    (h : wpAny (model prog w) A.in1 (PySem.call (.ref f) [.ref x]) (fun r s' => ∃ m tk, r = .str m tk ∧ Q (.str m tk) s') E s) : wpAny (model prog w) A (PySem.call (.builtin "repr") [.ref x]) Q E s := by
  refine Calls.call_function_entry F.kind_repr F.plain_repr F.entry_repr (F.args_repr1 _) ?_
  unfold Builtin.«repr»
  refine wpAny_bind (m := oneArg "repr" _) (wpAny_pure ?_)
  refine wpAny_bind (m := cRoomFor _ _) (wpAny_cRoomFor hu ?_)
  refine wpAny_bind (wpAny_bind (I.type.here ((PySem.W.looks_findIn X hs).here ?_)))
  show wpAny _ _ (if (some (Value.ref f)).isNone = true then _ else _) _ _ _
  rw [if_neg (by simp)]
  refine wpAny_bind (m := callSpecialIfBound? (.ref x) (Str.ofString "__repr__") _) (PySem.W.ifBound_K X I hs hf (wpAny_mono h (fun r s' hr => ?_) fun _ _ y => y))
  obtain ⟨m, tk, rfl, hq⟩ := hr
  refine wpAny_bind (wpAny_isInstance (T := "str") (b := true) (typeIs_str _ _ _) isSubtype_str_str ?_)
  first
    | exact wpAny_pure ⟨_, rfl, hq⟩
    | (rw [if_pos rfl]; exact wpAny_pure ⟨_, rfl, hq⟩)
    | (simp only [if_true]; exact wpAny_pure ⟨_, rfl, hq⟩)
end
section
variable {X : Cx}
def rReprO (K : PySem.W.Frag) (C : Addr) (sp : Sp) (E : XK) : List V → Hp → VK → Prop := fun xs H Q => ∃ a dx fs, xs = [.ref a] ∧ H a = some (.ins C dx fs) ∧ sp [.ref a] H (fun v H' => ∃ y, v = .str y ∧ Q v H') E
theorem call_reprO {CX : CXT} {k : Nat} {C g : Addr} {fd : FuncData} {ps : List Str} {sp : Sp} {E : XK} (m : Meth X.K C "__repr__" g) (Fk : FnG X.prog X.w X.K X.mg X.base CX k g fd ps sp) (hgd : X.A.guards = some []) (hr : Room (k + 1) X.A)
    (hb : Binds X.K fd ps []) (hx : Passes CX X.nox E) : CallR X (.builtin "repr") (rReprO X.K C sp E) := by
  intro pins s σ H xs us Q I r h
  obtain ⟨a, dx, fs, rfl, ea, q⟩ := h
  obtain ⟨u, rfl, r1⟩ := vals1 r
  obtain rfl : u = Value.ref a := r1
  obtain ⟨mA, O, _, _, _, _⟩ := ins_get I.hok ea
  obtain ⟨od, J, _⟩ := O.look
  have hl : ([Value.ref a] ++ []).length = ps.length := by
    rw [← Fk.len _ _ _ _ q]
    rfl
  have bt := hb s [.ref a] I.kIn hl
  rw [List.append_nil] at bt
  refine repr_ownK (by have := hr.un; show X.A.units + 1 < _; omega) I.kIn J m.at_ m.fn ?_
  refine wpAny_call (codeAny_mono (Fk.run X.A.in1 X.stack s H ⟨[.ref a], []⟩ [.ref a] [.ref a] _ E hgd hr.in1 I.env0.in1 bt (.cons rfl .nil) q) fun r s' hq => ?_)
  cases r with
  | error er => exact False.elim (hx pins σ H s er s' (I.wish _) hq)
  | ok fl =>
    cases fl with
    | ret u =>
      obtain ⟨v, H', I3, rv, y, rfl, q3⟩ := I.after hq
      obtain ⟨tk, rfl⟩ := rv
      exact ⟨y, tk, rfl, .str y, H', I3, ⟨tk, rfl⟩, q3⟩
    | next => exact False.elim hq
    | brk => exact False.elim hq
    | cont => exact False.elim hq
def gReprO (C : Addr) (sp : SpD) : List D → (Rv → Prop) → Prop
  | [d] => fun Q => isOfC C d ∧ sp [.sh d] fun r _ => ∃ a, r = .v a ∧ D.atom a = true ∧ ∃ y, Rv.v a = .v (.str y) ∧ Q (.v a)
  | _ => fun _ => False
theorem sem_reprO {C : Addr} {sp : SpD} {E : XK} : SemCall X.K (rReprO X.K C (lift X.K sp) E) (gReprO C sp) := by
  intro G σ H F ρ xs as Q Qd R ha h k
  unfold gReprO at h
  split at h
  · rename_i d
    obtain ⟨h1, h⟩ := h
    obtain ⟨x, rfl, p⟩ := pks1 ha
    obtain ⟨a, dx, gs, rfl, e1⟩ := obj_at R.ext p h1
    refine ⟨a, dx, gs, rfl, e1, ?_⟩
    have e : (fun (r : Rv) (_ : SL) => ∃ a, r = .v a ∧ D.atom a = true ∧ ∃ y, Rv.v a = .v (.str y) ∧ Qd (.v a)) = fun r _ => ∃ a, r = .v a ∧ D.atom a = true ∧ (ρ = ρ ∧ ∃ y, Rv.v a = .v (.str y) ∧ Qd (.v a)) := by
      funext r o
      simp only [true_and]
    rw [e] at h
    exact sem_pure (ds := [d]) (Qd := fun r ρ' => ρ' = ρ ∧ ∃ y, r = .v (.str y) ∧ Qd r) R (.cons (p.den R.ext) .nil) h fun r ρ' v H' F' ⟨e2, y, e, q⟩ s1 R1 rd => by
      subst e e2
      have rd : Den X.K F' v (.str y) := rd
      cases rd with
      | str _ b => exact ⟨y, rfl, k _ _ _ _ q s1 R1 (.str _ b)⟩
  · exact h.elim
end
/-! how long a shown text is, by the data alone -/
mutual
def D.oks : D → Bool
  | .str x => PyData.strOk x
  | .lst l => D.okss l
  | .tup l => D.okss l
  | _ => true
def D.okss : List D → Bool
  | [] => true
  | d :: r => D.oks d && D.okss r
end
theorem okss_all : ∀ l : List D, D.okss l = l.all D.oks
  | [] => rfl
  | d :: r => by rw [D.okss, List.all_cons, okss_all r]
mutual
theorem shown_wtP : ∀ (n : Nat) (d : D), d.oks = true → D.fit n d = true → D.small d = true → d.py.shown.length ≤ D.wt d ∧ PyData.strOk d.py.shown = true
  | _, .non, _, _, _ => by rw [D.py, PyData.shown_none, D.wt]; exact ⟨by decide +kernel, strOk_ofString _⟩
  | _, .bl b, _, _, _ => by rw [D.py, PyData.shown_bool, D.wt]; exact ⟨by cases b <;> decide +kernel, by cases b <;> exact strOk_ofString _⟩
  | _, .int i, _, _, h => by
    have h1 : i.natAbs < 2 ^ 240 := by simpa [D.small] using h
    rw [D.py, PyData.shown_int, D.wt, ofString_length]
    have := int_text_length_le (a := i) (k := 240) (by decide) (by
      by_cases h0 : i.natAbs = 0
      · rw [h0]; decide
      · exact (Nat.log2_lt h0).mpr h1)
    exact ⟨by omega, strOk_ofString _⟩
  | _, .str x, a, _, _ => by
    rw [D.oks] at a
    rw [D.py, PyData.shown_str, D.wt]; exact ⟨reprText_len a, strOk_reprText a⟩
  | 0, .lst _, _, e, _ => by simp [D.fit] at e
  | 0, .tup _, _, e, _ => by simp [D.fit] at e
  | n + 1, .lst l, a, e, h => by
    rw [D.fit] at e
    rw [D.small] at h
    rw [D.oks] at a
    obtain ⟨h1, h3⟩ := showns_wtP n l a e h
    have h2 := join_le (PyData.shownAll (D.pys l))
    rw [D.py, PyData.shown_list, D.wt, strLen_append, strLen_append]
    have e1 : (Str.ofString "[").length = 1 := rfl
    have e2 : (Str.ofString "]").length = 1 := rfl
    exact ⟨by omega, strOk_append (strOk_append (strOk_ofString _) (strOk_strJoin (strOk_ofString _) _ h3)) (strOk_ofString _)⟩
  | n + 1, .tup l, a, e, h => by
    rw [D.fit] at e
    rw [D.small] at h
    rw [D.oks] at a
    obtain ⟨h1, h3⟩ := showns_wtP n l a e h
    have h2 := join_le (PyData.shownAll (D.pys l))
    rw [D.py, PyData.shown_tuple, D.wt, strLen_append, strLen_append]
    have e1 : (Str.ofString "(").length = 1 := rfl
    have e2 : (Str.ofString (if ((D.pys l).length == 1) = true then ",)" else ")")).length ≤ 2 := by split <;> decide
    exact ⟨by omega, strOk_append (strOk_append (strOk_ofString _) (strOk_strJoin (strOk_ofString _) _ h3)) (strOk_ofString _)⟩
  | _, .dct _, _, e, _ => by simp [D.fit] at e
  | _, .obj _ _, _, e, _ => by simp [D.fit] at e
  | _, .scr _, _, e, _ => by simp [D.fit] at e
  | _, .rep _, _, e, _ => by simp [D.fit] at e
  | _, .at _, _, e, _ => by simp [D.fit] at e
  | _, .exc _ _ _ _ _, _, e, _ => by simp [D.fit] at e
  | _, .unk, _, e, _ => by simp [D.fit] at e
theorem showns_wtP : ∀ (n : Nat) (l : List D), D.okss l = true → D.fits n l = true → D.smalls l = true → ((PyData.shownAll (D.pys l)).map fun t => t.length + 2).sum ≤ D.wts l ∧ ∀ t ∈ PyData.shownAll (D.pys l), PyData.strOk t = true
  | _, [], _, _, _ => by rw [D.pys, PyData.shownAll_nil, D.wts]; exact ⟨Nat.le_refl _, fun t ht => nomatch ht⟩
  | n, d :: r, a, e, s => by
    rw [D.okss, Bool.and_eq_true] at a
    rw [D.fits, Bool.and_eq_true] at e
    rw [D.smalls, Bool.and_eq_true] at s
    obtain ⟨h1, h3⟩ := shown_wtP n d a.1 e.1 s.1
    obtain ⟨h2, h4⟩ := showns_wtP n r a.2 e.2 s.2
    rw [D.pys, PyData.shownAll_cons, D.wts, List.map_cons, List.sum_cons]
    refine ⟨by omega, fun t ht => ?_⟩
    rcases List.mem_cons.mp ht with z | z
    · rw [z]; exact h3
    · exact h4 t z
end
theorem Good.shown_le {k w : Nat} {d : D} (h : Good k w d) (o : d.oks = true) (hk : k ≤ 60) : d.py.shown.length ≤ w :=
  Nat.le_trans (shown_wtP 60 d o (fit_up hk h.fit) h.small).1 h.wt
theorem Good.shown_ok {k w : Nat} {d : D} (h : Good k w d) (o : d.oks = true) (hk : k ≤ 60) : PyData.strOk d.py.shown = true :=
  (shown_wtP 60 d o (fit_up hk h.fit) h.small).2
end DL
/-! The order of lists of texts. -/
namespace DL
open PySem L2
def keyS (x : Str) : List Nat := x.cps.toList
theorem keyS_inj {x y : Str} (h : keyS x = keyS y) : x = y := Str.ext_toList h
theorem dataLt_strs : ∀ xs ys : List Str, PySem.W.rowLt (xs.map .str) (ys.map .str) = decide (xs.map keyS < ys.map keyS)
  | [], [] => by
    have e : PySem.W.rowLt [] [] = false := PyProof.Rows.lex_irrefl _
    simp [e]
  | [], y :: ys => by
    have e : PySem.W.rowLt [] (PyData.str y :: ys.map .str) = true := by
      unfold PySem.W.rowLt
      rw [PySem.W.toks_all_cons]
      simp only [PySem.W.keyToksAll]
      rw [PyProof.Rows.lex_diff (O := PyProof.Rows.itemOrd) (by simp)]
      rfl
    simpa using e
  | x :: xs, [] => by
    have e : PySem.W.rowLt (PyData.str x :: xs.map .str) [] = false := by
      unfold PySem.W.rowLt
      rw [PySem.W.toks_all_cons]
      simp only [PySem.W.keyToksAll]
      rw [PyProof.Rows.lex_diff (O := PyProof.Rows.itemOrd) (by simp)]
      rfl
    simpa using e
  | x :: xs, y :: ys => by
    have e : PySem.W.rowLt (PyData.str x :: xs.map .str) (PyData.str y :: ys.map .str) = if x = y then PySem.W.rowLt (xs.map .str) (ys.map .str) else decide (keyS x < keyS y) := by
      unfold PySem.W.rowLt
      rw [PySem.W.dataLt_cons (by simp [PySem.W.alike]), PySem.W.dataLt_str]
      simp only [PyData.eqv, beq_iff_eq]
      rfl
    show PySem.W.rowLt (PyData.str x :: xs.map .str) (PyData.str y :: ys.map .str) = _
    rw [e]
    by_cases h : x = y
    · rw [if_pos h, dataLt_strs xs ys]
      simp [h, List.cons_lt_cons_iff]
    · rw [if_neg h]
      have h2 : ¬ keyS x = keyS y := fun z => h (keyS_inj z)
      simp [h2, List.cons_lt_cons_iff]
theorem pys_strs (l : List Str) : D.pys (l.map D.str) = l.map .str := by
  induction l with
  | nil => rw [List.map_nil, D.pys]; rfl
  | cons x r ih => rw [List.map_cons, D.pys, D.py, ih]; rfl
def ltL (a b : List Str) : Bool := decide (a.map keyS < b.map keyS)
theorem leL_eq (a b : List Str) : leL a b = !ltL b a := by
  unfold leL D.le setD ltL
  show (!PySem.W.dataLt _ _) = _
  rw [D.py, D.py, pys_strs, pys_strs, PySem.W.dataLt_list]
  exact congrArg not (dataLt_strs b a)
theorem ltL_irrefl (a : List Str) : ltL a a = false := decide_eq_false (List.lt_irrefl _)
theorem ltL_trans {a b c : List Str} (h1 : ltL a b = true) (h2 : ltL b c = true) : ltL a c = true := by
  unfold ltL at *
  rw [decide_eq_true_eq] at *
  exact List.lt_trans h1 h2
theorem mapKey_inj : ∀ {a b : List Str}, a.map keyS = b.map keyS → a = b
  | [], [], _ => rfl
  | [], _ :: _, h => by cases h
  | _ :: _, [], h => by cases h
  | x :: a, y :: b, h => by
    rw [List.map_cons, List.map_cons, List.cons.injEq] at h
    rw [keyS_inj h.1, mapKey_inj h.2]
theorem ltL_tri (a b : List Str) : ltL a b = true ∨ a = b ∨ ltL b a = true := by
  unfold ltL
  rw [decide_eq_true_eq, decide_eq_true_eq]
  by_cases h : a.map keyS < b.map keyS
  · exact .inl h
  · by_cases h2 : b.map keyS < a.map keyS
    · exact .inr (.inr h2)
    · exact .inr (.inl (mapKey_inj (List.le_antisymm (List.not_lt.mp h2) (List.not_lt.mp h))))
theorem ltL_asymm {a b : List Str} (h : ltL a b = true) : ltL b a = false := by
  cases e : ltL b a with
  | false => rfl
  | true => exact absurd (ltL_trans h e) (by rw [ltL_irrefl]; decide)
theorem leL_total (a b : List Str) : (leL a b || leL b a) = true := by
  rw [leL_eq, leL_eq]
  rcases ltL_tri a b with h | h | h
  · rw [ltL_asymm h]; rfl
  · rw [h, ltL_irrefl]; rfl
  · rw [ltL_asymm h]; simp
theorem leL_trans (a b c : List Str) (h1 : leL a b = true) (h2 : leL b c = true) : leL a c = true := by
  rw [leL_eq] at *
  cases e : ltL c a with
  | false => rfl
  | true =>
    rcases ltL_tri a b with h | h | h
    · rw [ltL_trans e h] at h2; cases h2
    · rw [← h, e] at h2; cases h2
    · rw [h] at h1; cases h1
theorem leL_antisymm {a b : List Str} (h1 : leL a b = true) (h2 : leL b a = true) : a = b := by
  rw [leL_eq] at *
  rcases ltL_tri a b with h | h | h
  · rw [h] at h2; cases h2
  · exact h
  · rw [h] at h1; cases h1
theorem sortL_sorted (l : List (List Str)) : (sortL l).Pairwise (fun x y => leL x y = true) := List.pairwise_mergeSort leL_trans leL_total l
theorem sortL_congr {l m : List (List Str)} (h : l.Perm m) : sortL l = sortL m :=
  sorted_one (fun _ _ h1 h2 => leL_antisymm h1 h2) (((sortL_perm l).trans h).trans (sortL_perm m).symm) (sortL_sorted l) (sortL_sorted m)
theorem leL_nil (a : List Str) : leL [] a = true := by
  rw [leL_eq]
  unfold ltL
  rw [List.map_nil]
  simp
theorem sortL_nil {l : List (List Str)} (h : [] ∈ l) : ∃ r, sortL l = [] :: r := by
  have hm := mem_sortL.mpr h
  have hs := sortL_sorted l
  cases e : sortL l with
  | nil => rw [e] at hm; cases hm
  | cons x r =>
    rw [e] at hm hs
    refine ⟨r, ?_⟩
    rcases List.mem_cons.mp hm with z | z
    · rw [← z]
    · have := (List.pairwise_cons.mp hs).1 [] z
      rw [leL_antisymm this (leL_nil x)]
end DL
/-! Comparisons by views as tests; stores into things that a pile holds. -/
namespace DL
open PySem L2
section
variable {X : Cx}
theorem dt_eqV (g : Nat) (hu : X.A.units + 64 < cLine) {ta tb : TE} {a b : Expr} {da db : TQ} {pos : Pos} (ha : DO X a ta da) (hb : DO X b tb db) (hm : behindInMarks .Eq b = false) : DT X (.Compare a [.Eq] [b] pos) (tTest (tOp (rEqA X.K) ta tb)) (bOf (dCmpV g id da db)) :=
  ⟨pt_cmpR (op_eqA hu) ha.pe hb.pe hm, fun R q k => sem_bOf (fun R q kk => sem_cmpV g ha hb (fun {H x y a b Q} da db fa fb q => .inl ⟨a.py, b.py, Den.dp da fa, Den.dp db fb, shaped_of da fa, shaped_of db fb, by rw [eqv_py a b 60 60 fa fb]; exact q⟩) R q kk) R q k⟩
theorem dt_neV (g : Nat) (hu : X.A.units + 64 < cLine) {ta tb : TE} {a b : Expr} {da db : TQ} {pos : Pos} (ha : DO X a ta da) (hb : DO X b tb db) (hm : behindInMarks .NotEq b = false) : DT X (.Compare a [.NotEq] [b] pos) (tTest (tOp (rNeA X.K) ta tb)) (bOf (dCmpV g not da db)) :=
  ⟨pt_cmpR (op_neA hu) ha.pe hb.pe hm, fun R q k => sem_bOf (fun R q kk => sem_cmpV g ha hb (fun {H x y a b Q} da db fa fb q => .inl ⟨a.py, b.py, Den.dp da fa, Den.dp db fb, shaped_of da fa, shaped_of db fb, by rw [eqv_py a b 60 60 fa fb]; exact q⟩) R q kk) R q k⟩
/-! ### e[i] = v, e an expression whose value a pile holds -/
theorem sem_storeP {K : PySem.W.Frag} {G : Cd} {σ : L2.St} {H F : Hp} {ρ : SL} {g : Nat} {hs : Pile} {c : Cn} {p : Addr} {x v : V} {a d : D} {Q : Hp → Prop} {Qd : Cn → Prop} (R : Rep K G σ H F ρ) (h : plOf ρ g = some hs) (hl : hs.lookup p = some c)
    (hx : Pk K F H x a) (hv : Den K F v d) (q : cnSet c a d Qd) (k : ∀ c' o, Qd c' → Rep K G σ (upd H p o) F (ρ.set g (.pl (plSet hs p c'))) → Q (upd H p o)) : rSetA (.ref p) x v H Q := by
  obtain ⟨hh, _⟩ := R.plHas h hl
  unfold cnSet at q
  split at q
  · obtain ⟨j, e, q⟩ := q
    cases hx.int
    obtain ⟨xs, a1, a2⟩ := hh
    exact .inl ⟨p, xs, _, j, rfl, rfl, a1, by rw [a2.length]; exact e, k _ _ q (R.plWrite h hl ⟨_, upd_same, DenL.set hv j a2⟩)⟩
  · obtain ⟨k1, e, hz, q⟩ := q
    obtain ⟨ks, a1, a2⟩ := hh
    have ko := hx.keyOk e
    have := hx.key e
    subst this
    exact .inr ⟨p, _, rfl, DPut.k a1 (by rw [a2.length]; exact hz), k _ _ q (R.plWrite h hl ⟨_, upd_same, a2.put hv k1 ko⟩)⟩
  · exact q.elim
def sStoreP (g : Nat) (te t0 : TD) (ti : TQ) : TSD := fun E ρ => te ρ fun r ρ1 => t0 ρ1 fun r0 ρ2 => ti ρ2 fun o ρ3 => ∃ p hs c a, r0.dat = .at p ∧ plOf ρ3 g = some hs ∧ hs.lookup p = some c ∧ o.get ρ3 = some a ∧ cnSet c a r.dat fun c' => E.nx (ρ3.set g (.pl (plSet hs p c')))
theorem ds_storeP (g : Nat) {tpos pos : Pos} {b ix e : Expr} {te ti tb : TE} {t t0 : TD} {u : TQ} (hu : X.A.units + 1 < cLine) (hb : DE X b tb t0) (hi : DO X ix ti u) (he : DE X e te t)
    (hpg : PG X (.Subscript b ix tpos) (gSub tb ti rSetA))
    (hs : swapsWithSole [.Subscript b ix tpos] e pos.line X.env = pure false := by rfl) (hw : swappedStores [.Subscript b ix tpos] e X.env = pure none := by rfl)
    (h1 : (assignEach [.Subscript b ix tpos] X.env).map (·.2) = [assign (.Subscript b ix tpos) X.env] := by rfl) :
    DS X (.Assign [.Subscript b ix tpos] e pos) (tAsg te (gSub tb ti rSetA)) (sStoreP g t t0 u) := by
  refine ⟨ps_asg he.pe hpg hs hw h1, fun R q L => he.sem R q fun r ρ1 v H1 F1 q1 s1 R1 rd => ?_⟩
  obtain ⟨F1', s1', R1', d1⟩ := R1.share rd
  refine hb.sem R1' q1 fun r0 ρ2 w H2 F2 q2 s2 R2 rd2 => ?_
  obtain ⟨F2', s2', R2', d2⟩ := R2.share rd2
  refine hi.sem R2' q2 fun o ρ3 y H3 F3 q3 s3 R3 d3 => ?_
  obtain ⟨p, hs, c, a, e1, e2, e3, e4, q3⟩ := q3
  rw [e1] at d2
  cases d2
  exact sem_storeP R3 e2 e3 (d3.pk R3 e4) (d1.mono (s2.trans (s2'.trans s3))) q3 fun c' o' qd R4 => L.nx _ _ _ _ qd R4
end
end DL
/-! sorted(set(texts)). -/
namespace DL
open PySem PySem.Spec L2 PyProof.Rows
/-! ### sets of texts, with what a walk over them wants -/
def TxE (P : Program) (w : World) (e : Int × Value) : Prop := ∃ (x : Str) (k : Tok), e.2 = .str x k ∧ e.1 = (PySem.strKind P w).hash x
def txOf (e : Int × Value) : Str := match e.2 with
  | .str x _ => x
  | _ => Str.empty
def SetX (P : Program) (w : World) (h : Heap) (a : Addr) (S : Str → Bool) (n : Nat) : Prop :=
  ∃ o es ep t, h.get? a = some o ∧ o.ExactSet ∧ o.data = .set es ep t ∧ (∀ e ∈ es.toList, TxE P w e) ∧ (es.toList.map txOf).Nodup ∧ (∀ x, S x = true ↔ x ∈ es.toList.map txOf) ∧
    es.size < scanBound ∧ t.fits es.size = true ∧ es.size = n ∧ Ris t.place.toList ∧ (w.params.followText "set-order" = true ∨ t.led = true)
section
variable {P : Program} {w : World} {h h' : Heap} {a : Addr} {S S' : Str → Bool} {n : Nat}
theorem SetX.keep (R : SetX P w h a S n) (k : ∀ o, h.get? a = some o → h'.get? a = some o) : SetX P w h' a S n := by
  obtain ⟨o, es, ep, t, ho, more⟩ := R
  exact ⟨o, es, ep, t, k o ho, more⟩
theorem SetX.eqv (R : SetX P w h a S n) (e : ∀ k, S' k = S k) {m : Nat} (hm : m = n) : SetX P w h a S' m := by
  rw [show S' = S from funext e, hm]; exact R
theorem tx_elems {l : List (Int × Value)} (g : ∀ e ∈ l, TxE P w e) : ElemsOf (PySem.strKind P w) l := fun e he => by
  obtain ⟨x, k, h1, h2⟩ := g e he
  exact ⟨⟨x, by rw [h1]; exact strKind_is P w x k, h2⟩, by rw [h1] <;> rfl⟩
theorem tx_is {e : Int × Value} (g : TxE P w e) (x : Str) : (PySem.strKind P w).is x e.2 = true ↔ txOf e = x := by
  obtain ⟨y, k, h1, _⟩ := g
  unfold txOf
  rw [h1]
  constructor
  · intro z
    have z : Value.isStrOf x (.str y k) = true := z
    obtain ⟨t, ht⟩ := Value.isStrOf_shape z
    injection ht
  · intro z
    have z : y = x := z
    rw [z]; exact strKind_is P w x k
theorem tx_mem {l : List (Int × Value)} (g : ∀ e ∈ l, TxE P w e) (x : Str) : x ∈ l.map txOf ↔ ∃ e ∈ l, (PySem.strKind P w).is x e.2 = true := by
  rw [List.mem_map]
  exact ⟨fun ⟨e, he, q⟩ => ⟨e, he, (tx_is (g e he) x).2 q⟩, fun ⟨e, he, q⟩ => ⟨e, he, (tx_is (g e he) x).1 q⟩⟩
end
section
variable {P : Program} {w : World} {A : Around} {E : Value → Shared → Prop} {s : Shared} {a : Addr} {S : Str → Bool} {n : Nat}
theorem setX_tail {g : Bool → Sem Unit} (hg : ∀ (b : Bool) (s₁ : Shared) (Q' : Unit → Shared → Prop), Q' () s₁ → wpAny (model P w) A (g b) Q' E s₁)
    {o : Obj} {es : Array (Int × Value)} {ep : Nat} {t : SetTable} (ho : s.heap.get? a = some o) (hex : o.ExactSet) (hd : o.data = .set es ep t)
    {es1 : Array (Int × Value)} {t2 : SetTable} {S' : Str → Bool} (c1 : ∀ e ∈ es1.toList, TxE P w e) (c2 : (es1.toList.map txOf).Nodup) (c3 : ∀ k, S' k = true ↔ k ∈ es1.toList.map txOf)
    (c4 : es1.size < scanBound) (c5 : t2.fits es1.size = true) (c6 : Ris t2.place.toList) (c7 : w.params.followText "set-order" = true ∨ t2.led = true) {wasDummy : Bool} {R : Option Bool → Shared → Prop}
    (hR : ∀ h', Heap.SameBut a s.heap h' → SetX P w h' a S' es1.size → R (some true) { s with heap := h' }) :
    wpAny (model P w) A (storeSet a es1 t2 >>= fun _ =>
        if (!wasDummy && t2.tooFull) = true then (g (relayAll t2 es1 (SetTable.grown es1.size)).2.2 >>= fun _ =>
            storeSet a (relayAll t2 es1 (SetTable.grown es1.size)).1 (relayAll t2 es1 (SetTable.grown es1.size)).2.1 >>= fun _ => pure (some true))
          else pure (some true)) R E s := by
  refine wpAny_bind (wpAny_storeSet_of ho hd ?_ (fits_of_scanBound c4))
  have o1 := store_at (es' := es1) (t' := t2) ho hd
  have b1 := Heap.SameBut.update s.heap a (Obj.putSet es1 t2)
  split
  · have d1 := relayAll_perm t2 es1 (SetTable.grown es1.size)
    have d2 := relayAll_fits t2 es1 (SetTable.grown es1.size)
    have d3 := relayAll_ris t2 es1 (SetTable.grown es1.size)
    have d4 := relayAll_led t2 es1 (SetTable.grown es1.size)
    generalize relayAll t2 es1 (SetTable.grown es1.size) = Z at d1 d2 d3 d4 ⊢
    obtain ⟨es2, t3, gv⟩ := Z
    dsimp only at d1 d2 d3 d4 ⊢
    have z1 : es2.size = es1.size := by rw [← Array.length_toList, d1.length_eq, Array.length_toList]
    have z2 : es2.size < scanBound := z1 ▸ c4
    refine wpAny_bind (hg _ _ _ (wpAny_bind (wpAny_storeSet_of o1 rfl ?_ (fits_of_scanBound z2))))
    have o2 := store_at (es' := es2) (t' := t3) o1 rfl
    exact wpAny_pure (hR _ (b1.trans (Heap.SameBut.update _ a _)) ⟨_, es2, _, t3, o2, hex, rfl, fun e he => c1 e (d1.mem_iff.mp he), (d1.map txOf).nodup_iff.mpr c2, fun k => (c3 k).trans (d1.map txOf).mem_iff.symm, z2, d2, z1, d3,
      c7.imp id fun z => d4.trans z⟩)
  · exact wpAny_pure (hR _ b1 ⟨_, es1, _, t2, o1, hex, rfl, c1, c2, c3, c4, c5, rfl, c6, c7⟩)
theorem setX_add {k : Str} {tk : Tok} {Q : Bool → Shared → Prop} (R : SetX P w s.heap a S n) (room : n + 1 < scanBound)
    (hQ : ∀ h', Heap.SameBut a s.heap h' → SetX P w h' a (fun j => S j || decide (j = k)) (if S k = true then n else n + 1) → Q (!S k) { s with heap := h' }) :
    wpAny (model P w) A (setAddHashed a (.str k tk) ((PySem.strKind P w).hash k)) Q E s := by
  obtain ⟨o, es, ep, t, ho, hex, hd, g, nd, hm, hb, hf, hn, hr, hl⟩ := R
  have hkey : (PySem.strKind P w).is k (.str k tk) = true := strKind_is P w k tk
  have hsc : (Value.str k tk).scannable = true := rfl
  have hel : ElemsOf (PySem.strKind P w) es.toList := tx_elems g
  unfold setAddHashed setAddHashedIn
  refine wpAny_holding (wpAny_bind (wpAny_setState_of ho hd hf ?_))
  dsimp only
  rw [byScan_of hsc hb hel]
  simp only [↓reduceIte]
  unfold setAddByScan
  refine wpAny_bind (wpAny_bind (wpAny_rule (wpAny_bind (wpAny_setScan_of hkey ho hd hf hel ?_))))
  have gw : ∀ (b : Bool) (s₁ : Shared) (Q' : Unit → Shared → Prop), Q' () s₁ → wpAny (model P w) A (match b with | true => rule "set.scan.the-table-gave-way" | false => pure ()) Q' E s₁ :=
    fun b s₁ Q' q => by cases b <;> first | exact wpAny_pure q | exact wpAny_rule q
  cases hfi : List.findIdx? (fun e => (PySem.strKind P w).is k e.2) es.toList with
  | some j =>
    obtain ⟨hj, pj, _⟩ := List.findIdx?_eq_some_iff_getElem.mp hfi
    have yes : S k = true := (hm k).2 ((tx_mem g k).2 ⟨es.toList[j], List.getElem_mem hj, pj⟩)
    have q := hQ s.heap (Heap.SameBut.refl a s.heap) ⟨o, es, ep, t, ho, hex, hd, g, nd, fun i => by
      rw [Bool.or_eq_true, decide_eq_true_eq, ← hm i]
      exact ⟨fun z => z.elim id (fun e => e ▸ yes), .inl⟩, hb, hf, by rw [if_pos yes]; exact hn, hr, hl⟩
    rw [yes] at q
    exact wpAny_pure (wpAny_pure q)
  | none =>
    have out : k ∉ es.toList.map txOf := fun z => by
      obtain ⟨e, he, q⟩ := (tx_mem g k).1 z
      have c := List.findIdx?_eq_none_iff.mp hfi e he
      rw [q] at c
      cases c
    have no : S k = false := by
      cases q : S k with
      | false => rfl
      | true => exact absurd ((hm k).1 q) out
    have p1 := layNew_perm t es ((PySem.strKind P w).hash k) (.str k tk)
    have p2 := layNew_fits t es ((PySem.strKind P w).hash k) (.str k tk)
    have p3 := layNew_ris t es ((PySem.strKind P w).hash k) (.str k tk) hr
    have p4 := layNew_led t es ((PySem.strKind P w).hash k) (.str k tk)
    dsimp only
    generalize layNew t es ((PySem.strKind P w).hash k) (.str k tk) = Z at p1 p2 p3 p4 ⊢
    obtain ⟨es1, t1, wasDummy, gv⟩ := Z
    dsimp only at p1 p2 p3 p4 ⊢
    rw [Array.toList_push] at p1
    have pc : es1.toList.Perm (((PySem.strKind P w).hash k, Value.str k tk) :: es.toList) := p1.trans (List.perm_append_singleton _ _)
    have pk : (es1.toList.map txOf).Perm (k :: es.toList.map txOf) := pc.map txOf
    have c1 : ∀ e ∈ es1.toList, TxE P w e := fun e he => by
      rcases List.mem_cons.mp (pc.mem_iff.mp he) with z | z
      · rw [z]; exact ⟨k, tk, rfl, rfl⟩
      · exact g e z
    have c2 : (es1.toList.map txOf).Nodup := pk.nodup_iff.mpr (List.nodup_cons.mpr ⟨out, nd⟩)
    have c3 : ∀ i, (S i || decide (i = k)) = true ↔ i ∈ es1.toList.map txOf := fun i => by
      rw [Bool.or_eq_true, decide_eq_true_eq, hm i, pk.mem_iff, List.mem_cons]
      exact Or.comm
    have z1 : es1.size = n + 1 := by rw [← Array.length_toList, pc.length_eq, List.length_cons, Array.length_toList, hn]
    have c4 : es1.size < scanBound := z1 ▸ room
    have c7 : w.params.followText "set-order" = true ∨ t1.led = true := hl.imp id fun z => p4.trans z
    have fin : ∀ h', Heap.SameBut a s.heap h' → SetX P w h' a (fun j => S j || decide (j = k)) es1.size → Q true { s with heap := h' } := fun h' sb r => by
      have q := hQ h' sb
      rw [no] at q
      rw [z1] at r
      exact q r
    refine wpAny_bind (gw _ _ _ ?_)
    split
    · refine wpAny_bind ?_
      rw [hashByValue_scannable 8 hsc]
      refine wpAny_pure (setX_tail ?_ ho hex hd c1 c2 c3 c4 ?_ ?_ ?_ ?_)
      · intro b s₁ Q' q; cases b <;> first | exact wpAny_pure q | exact wpAny_rule q
      · first | (split <;> first | exact p2 | exact SetTable.fits_plain_off p2) | exact p2
      · first | (split <;> exact p3) | exact p3
      · first | (split <;> exact c7) | exact c7
      · intro h' sb r; dsimp only; exact wpAny_pure (fin h' sb r)
    · refine wpAny_bind (wpAny_pure ?_)
      simp only [↓reduceIte]
      refine setX_tail ?_ ho hex hd c1 c2 c3 c4 p2 p3 c7 ?_
      · intro b s₁ Q' q; cases b <;> first | exact wpAny_pure q | exact wpAny_rule q
      · intro h' sb r; dsimp only; exact wpAny_pure (fin h' sb r)

/-- what the set holds when i items of the list went in -/
abbrev SetXAt (P : Program) (w : World) (xs : List Str) (i : Nat) (h : Heap) (S : Addr) : Prop := SetX P w h S (fun k => (metT xs i).any (· == k)) (metT xs i).length
theorem setX_loop {R : Result → Shared → Prop} {I : Addr} {fp wr : List Addr} {G : Array GenState → Array GenState → Prop} {Pv : Nat → Value → Prop} {St : Nat → Shared → Prop} {xs : List Str} (W : WalksS P w A.in1 I fp wr G xs.length Pv St)
    (S : Addr) (hS0 : S ∉ fp) (few : xs.length + 1 < scanBound) (hP : ∀ i v, Pv i v → ∃ t, v = .str (xs.getD i Str.empty) t) :
    ∀ (left i : Nat) (s : Shared), i + left = xs.length → St i s → SetXAt P w xs i s.heap S →
      (∀ s', Moved (S :: wr) G s s' → SetXAt P w xs xs.length s'.heap S → R (.ok (.ret .none)) s') → codeAny (model P w) A (.builtin "set.update.loop" ⟨[.ref S, .ref I], []⟩) R s := by
  have nw : S ∉ wr := fun z => hS0 (W.sub _ z)
  have up : ∀ b ∈ wr, b ∈ S :: wr := fun b hb => List.mem_cons_of_mem _ hb
  intro left
  induction left with
  | zero =>
    intro i s hi st hs k
    have e : i = xs.length := hi
    subst e
    refine codeAny_builtin PyProof.Rows.F.entry_set_update_loop ?_
    rw [Around.under_plainId PyProof.Rows.F.plain_set_update_loop _]
    exact wpAny_bind (m := pyNext (.ref I)) (W.done s _ _ st fun s' mv => wpAny_pure (k s' (mv.mono up) (SetX.keep hs fun o ho => mv.heap S _ nw ho)))
  | succ left ih =>
    intro i s hi st hs k
    have lt : i < xs.length := by omega
    refine codeAny_builtin PyProof.Rows.F.entry_set_update_loop ?_
    rw [Around.under_plainId PyProof.Rows.F.plain_set_update_loop _]
    refine wpAny_bind (m := pyNext (.ref I)) (W.item i s _ _ lt st fun v s' hv st' mv => ?_)
    obtain ⟨t, rfl⟩ := hP i v hv
    have eg : xs.getD i Str.empty = xs[i] := by rw [List.getD_eq_getElem?_getD, List.getElem?_eq_getElem lt]; rfl
    rw [eg]
    have hs' : SetXAt P w xs i s'.heap S := SetX.keep hs fun o ho => mv.heap S _ nw ho
    refine wpAny_bind (m := holding [Value.str xs[i] t] (setAdd S (.str xs[i] t))) (wpAny_holding ?_)
    unfold setAdd
    refine wpAny_holding (wpAny_bind ((PySem.strKind P w).pyHash (k := xs[i]) (strKind_is _ _ _ _) ?_))
    have room : (metT xs i).length + 1 < scanBound := by have := metT_le xs i; omega
    refine setX_add (s := { s' with toks := s'.toks + 1 }) hs' room fun h' same hs2 => ?_
    have hs3 : SetXAt P w xs (i + 1) h' S := SetX.eqv hs2 (fun k' => (metT_any lt k').symm) (metT_len lt).symm
    refine wpAny_pure ⟨plainId_quiet PyProof.Rows.F.plain_set_update_loop _, ih (i + 1) _ (by omega) (W.frame _ s' _ _ st' (Nat.le_succ _) fun b hb o e => ?_) hs3 fun s2 mv2 hs4 => ?_⟩
    · rw [same.2 b (fun z => hS0 (by rw [← z]; exact hb))]; exact e
    · refine k s2 (Moved.trans W.gtrans ((mv.mono up).then_heap (Nat.le_succ _) fun b o hb e => ?_) mv2) hs4
      rw [same.2 b (fun z => hb (by rw [z]; exact List.mem_cons_self))]; exact e
/-- the new set, empty: whether it keeps a ledger is as the world says -/
theorem new_led1 (x : Value) {Q₁ : Value → Shared → Prop} (h : Q₁ (.ref s.heap.objs.size) { s with heap := s.heap.push (fresh (!w.params.followText "set-order")) }) :
    codeAny (model P w) A (.call (.builtin "set.__new__") ⟨[.type "set", x], []⟩) (wants Q₁ E) s := by
  refine codeAny_of_tree ?_
  change wpAny _ A.in1 (checkBuiltinCall "set.__new__" ⟨[.type "set", x], []⟩ >>= fun _ => again (.builtin "set.__new__" ⟨[.type "set", x], []⟩)) _ _ s
  refine wpAny_bind (wpAny_of_eq (PySem.F.newCall_set_1 x) (wpAny_pure ⟨plainId_quiet PySem.F.plain_set_new _, codeAny_builtin PySem.F.entry_set_new ?_⟩))
  rw [Around.under_plainId PySem.F.plain_set_new _]
  unfold Builtin.«set.__new__» Builtin.Frozenset.newClass
  have g0 := sub_set_self
  obtain ⟨hp, g, d, tk, os⟩ := s
  dsimp only
  wp_walk
  refine wpAny_askSetting (wpAny_pure ?_)
  dsimp only
  simp only [newObj]
  exact wpAny_bind (wpAny_alloc (wpAny_pure (wpAny_pure h)))
theorem setX_fresh {h : Heap} : SetX P w (h.push (fresh (!w.params.followText "set-order"))) h.objs.size (fun _ => false) 0 :=
  ⟨_, #[], 0, _, Heap.get?_push_size _ rfl, ⟨rfl, rfl, rfl⟩, rfl, fun e he => by simp at he, by simp, fun k => by simp, by decide, by rfl, rfl, List.Pairwise.nil, by
    show _ ∨ (!w.params.followText "set-order") = true
    cases w.params.followText "set-order"
    · exact .inr rfl
    · exact .inl rfl⟩
/-- the set of a list's texts -/
theorem setX_of_texts {l : Addr} {its : Array Value} {xs : List Str} {Q : Value → Shared → Prop} (calm : A.handled = none) (il : s.heap.IsList l its) (ix : StrsAre its.toList xs) (few : xs.length + 1 < scanBound)
    (h : ∀ (h' : Heap) (tk : Nat), SetXAt P w xs xs.length h' s.heap.objs.size → (∀ b o, b < s.heap.objs.size → s.heap.get? b = some o → h'.get? b = some o) → Q (.ref s.heap.objs.size) { s with heap := h', toks := tk }) :
    wpAny (model P w) A (PySem.call (.type "set") [.ref l]) Q E s := by
  have hz : xs.length = its.size := by rw [← StrsAre.len_eq ix, Array.length_toList]
  generalize hS : s.heap.objs.size = S at h ⊢
  obtain ⟨mc, ml, mm⟩ := PySem.F.called_set.mro
  have g1 := PySem.F.called_set.made
  have g2 := PySem.F.called_set.sub
  refine wpAny_call (codeAny_of_tree ?_)
  change wpAny _ _ (callAny (.type "set") _) _ _ _
  refine wpAny_pure ⟨Code.quiet_builtin _ (by decide +kernel), codeAny_builtin PySem.F.entry_type_call ?_⟩
  rw [Around.under_plain (weight_type_call_type "set" [.ref l] []) rfl]
  have g3 := PySem.F.called_set.notType
  have g4 := PySem.F.called_set.canCreate
  have g5 := PySem.F.typeCall_set_1 (.ref l)
  repeat (any_goals (first | assumption | wp_step))
  refine codeAny_mono (new_led1 (.ref l) (E := E) (Q₁ := fun r s1 => r = .ref S ∧ s1 = { s with heap := s.heap.push (fresh (!w.params.followText "set-order")) }) ⟨by rw [hS], rfl⟩) fun res s1 hres => ?_
  match res, hres with
  | .error e, z => exact z
  | .ok .next, z => exact z.elim
  | .ok .brk, z => exact z.elim
  | .ok .cont, z => exact z.elim
  | .ok (.ret r), ⟨e1, e2⟩ =>
    subst e1
    subst e2
    have hX : SetX P w (s.heap.push (fresh (!w.params.followText "set-order"))) S (fun _ => false) 0 := by rw [← hS]; exact setX_fresh
    generalize (!w.params.followText "set-order") = led at hX ⊢
    have hN : (s.heap.push (fresh led)).get? S = some (fresh led) := by rw [← hS]; exact Heap.get?_push_size _ rfl
    have hT : Shared.TypeIs { s with heap := s.heap.push (fresh led) } (.ref S) "set" := ⟨_, hN, rfl⟩
    have g6 := PySem.F.called_set.init.lookup
    have g7 := PySem.F.called_set.init.bind (.ref S)
    repeat (any_goals (first | assumption | wp_step))
    refine codeAny_mono (codeAny_call_builtin (R := wants (fun r s2 => r = .none ∧ ∃ h' tk, s2 = { s with heap := h', toks := tk } ∧ SetXAt P w xs xs.length h' S ∧ (∀ b o, b < S → s.heap.get? b = some o → h'.get? b = some o)) E)
      PySem.F.called_set.init.plain PySem.F.entry_set_init (check_set_init_1 hT ?_)) fun r2 s2 hr2 => ?_
    · obtain ⟨ol, hol, hcl, nl, hdl⟩ := il
      obtain ⟨ocls, odict, odata, oslots⟩ := ol
      simp only at hcl hdl
      subst hcl; subst hdl
      have hol2 : (s.heap.push (fresh led)).get? l = some { cls := .type "list", dict := odict, data := .seq its nl, slots := oslots } := Heap.get?_push_of_some _ hol
      have g8 := PySem.F.sub_list_set
      have g9 := PySem.F.sub_list_frozenset
      have ga : (Value.type "list" == Value.type "dict") = false := by decide
      have il2 : (s.heap.push (fresh led)).IsList l its := ⟨_, hol2, rfl, nl, rfl⟩
      unfold Builtin.«set.__init__» noKeywords Builtin.Frozenset.updateFrom
      generalize hPI : pyIter = PI
      wp_walk
      subst hPI
      refine wpAny_pyIter_list il2 (wpAny_bind (wpAny_runValue ?_))
      have lS : l < S := by rw [← hS]; exact Heap.lt_size hol
      have pS : (s.heap.push (fresh led)).objs.size = S + 1 := by rw [Heap.size_push, hS]
      have neI : l ≠ (s.heap.push (fresh led)).objs.size := by rw [pS]; exact Nat.ne_of_lt (Nat.lt_succ_of_lt lS)
      have outS : S ∉ [(s.heap.push (fresh led)).objs.size, l] := by
        rw [pS]
        simp only [List.mem_cons, List.not_mem_nil, or_false, not_or]
        exact ⟨Nat.ne_of_lt (Nat.lt_succ_self _), Nat.ne_of_gt lS⟩
      have c3 : A.in1.in1.in1.handled = none := by simp [calm]
      have W := (Walks.list (prog := P) (w := w) c3 (s.heap.push (fresh led)).objs.size l neI its).toS
      rw [← hz] at W
      refine setX_loop W S outS few (fun i v hv => SS.strs_at ix i v (by rw [Array.getElem?_toList]; exact hv)) xs.length 0 _ (Nat.zero_add _) ⟨⟨_, Heap.get?_push_size _ rfl, rfl, rfl⟩, (il2.push _)⟩ ?_ ?_
      · exact SetX.eqv (SetX.keep hX fun o ho => Heap.get?_push_of_some _ ho) (fun _ => by simp [metT, met]) (by simp [metT, met])
      · intro s' mv hs'
        obtain ⟨h', g', d', tk', os'⟩ := s'
        have e1 : g' = s.gens := mv.gens
        have e2 : d' = s.drawn := mv.drawn
        have e3 : os' = s.os := mv.os
        subst e1; subst e2; subst e3
        change wpAny _ _ _ _ _ _
        refine wpAny_pure ?_
        change wpAny _ _ (ret Value.none) _ _ _
        refine wpAny_pure ⟨rfl, h', tk', rfl, hs', fun b o hb e => ?_⟩
        refine mv.heap b o ?_ (Heap.get?_push_of_some _ (Heap.get?_push_of_some _ e))
        rw [pS]
        simp only [List.mem_cons, List.not_mem_nil, or_false, not_or]
        exact ⟨Nat.ne_of_lt hb, Nat.ne_of_lt (Nat.lt_succ_of_lt hb)⟩
    · match r2, hr2 with
      | .error e, z => exact z
      | .ok .next, z => exact z.elim
      | .ok .brk, z => exact z.elim
      | .ok .cont, z => exact z.elim
      | .ok (.ret r), ⟨e1, h', tk, e2, hs', kp⟩ =>
        subst e1
        subst e2
        repeat (any_goals (first | assumption | wp_step))
        exact h _ _ hs' kp
/-! ### sorted of such a set -/
theorem each_strs : ∀ {vs : List Value} {ss : List Str}, StrsAre vs ss → PySem.W.EachIs (fun v x => ∃ t, v = Value.str x t) vs ss
  | _, _, .nil => .nil
  | _, _, .cons x t r => .cons ⟨t, rfl⟩ (each_strs r)
theorem strs_each : ∀ {vs : List Value} {ss : List Str}, PySem.W.EachIs (fun v x => ∃ t, v = Value.str x t) vs ss → StrsAre vs ss
  | _, _, .nil => .nil
  | _, _, .cons a r => by
    obtain ⟨t, rfl⟩ := a
    exact .cons _ t (strs_each r)
theorem strs_of_elems {l : List (Int × Value)} (g : ∀ e ∈ l, TxE P w e) : StrsAre (l.map (·.2)) (l.map txOf) := by
  induction l with
  | nil => exact .nil
  | cons e r ih =>
    obtain ⟨x, k, h1, _⟩ := g e List.mem_cons_self
    rw [List.map_cons, List.map_cons, h1, show txOf e = x by unfold txOf; rw [h1]]
    exact .cons x k (ih fun e he => g e (List.mem_cons_of_mem _ he))
def stOf (v : Value) : Str := match v with
  | .str x _ => x
  | _ => Str.empty
theorem strs_vals : ∀ {vs : List Value}, (∀ v ∈ vs, ∃ x t, v = Value.str x t) → StrsAre vs (vs.map stOf)
  | [], _ => .nil
  | v :: r, h => by
    obtain ⟨x, t, rfl⟩ := h v List.mem_cons_self
    exact .cons x t (strs_vals fun u hu => h u (List.mem_cons_of_mem _ hu))
theorem sorted_setX {Q : Value → Shared → Prop} (hu : A.units + 8 < cLine) (R : SetX P w s.heap a S n) (hh : A.handled = none) (few : n < 4096)
    (hQ : ∀ s' p (out : Array Value) (c : Nat) (ss : List Str), (∀ b o, s.heap.get? b = some o → s'.heap.get? b = some o) → s'.gens = s.gens → s'.os = s.os → s.heap.objs.size ≤ p →
      s'.heap.get? p = some (seqObj "list" out c) → StrsAre out.toList (sortS ss) → ss.Nodup → (∀ k, k ∈ ss ↔ S k = true) → ss.length = n → Q (.ref p) s') :
    wpAny (model P w) A (PySem.call (.builtin "sorted") [.ref a]) Q E s := by
  obtain ⟨o, es, ep, t, ho, hex, hd, g, nd, hm, hb, hf, hn, hr, hl⟩ := R
  refine Calls.call_function_entry kind_sorted plain_sorted entry_sorted (args_sorted1 _) ?_
  unfold Builtin.«sorted»
  refine wpAny_bind (m := checkCount "sorted" 1 1 _) (wpAny_pure ?_)
  refine wpAny_bind (collect_set (A := A.in1) hh ⟨o, ho, hex.1, hd⟩ hf hb hr hl fun s1 vs k1 hz g1 o1 pm => ?_)
  have hvl : vs.length = n := by rw [pm.length_eq, List.length_map, Array.length_toList]; exact hn
  have hall : ∀ v ∈ vs, ∃ x t, v = Value.str x t := fun v hv => by
    obtain ⟨e, he, q⟩ := List.mem_map.mp (pm.mem_iff.mp hv)
    obtain ⟨x, k, h1, _⟩ := g e he
    exact ⟨x, k, by rw [← q]; exact h1⟩
  have hI := strs_vals hall
  have pk : (vs.map stOf).Perm (es.toList.map txOf) := by
    have q := pm.map stOf
    rw [List.map_map] at q
    exact q
  refine wpAny_bind (wpAny_newList ?_ (by rw [hvl, sizeLine_eq]; omega))
  have hoL : (s1.heap.push (seqObj "list" vs.toArray 0)).get? s1.heap.objs.size = some (seqObj "list" vs.toArray 0) := Heap.get?_push_size _ rfl
  have he := each_strs hI
  refine wpAny_bind (wpAny_holding (PySem.W.list_sort_data (enc := fun x : Str => PyData.str x) hoL he ?_ ?_ ?_ ?_ ?_ fun out hout eo => ?_))
  · exact each_and he fun u b m ⟨t, ht⟩ => ⟨[], by subst ht; exact .str _ _, by simp⟩
  · exact PySem.W.AllAlike.of fun x y => by simp [PySem.W.alike]
  · exact PySem.W.Sortable.others fun x => ⟨by simp, fun xs => by simp⟩
  · rw [List.length_map, hvl, sizeLine_eq]; omega
  · intro x _; show A.units + 1 + 1 + 0 < cLine; omega
  · obtain ⟨c, hc⟩ := sortedHeap_at (vs := vs) (out := out.toArray) hoL
    refine wpAny_pure ⟨_, rfl, hQ _ s1.heap.objs.size out.toArray c (vs.map stOf) (fun b u e => ?_) g1 o1 hz hc ?_ (pk.nodup_iff.mpr nd) (fun k => by rw [pk.mem_iff, ← hm k]) (by rw [List.length_map, hvl])⟩
    · have q := k1 b u e
      have hlt := Heap.lt_size q
      show (sortedHeap (s1.heap.push (seqObj "list" vs.toArray 0)) s1.heap.objs.size vs out.toArray).get? b = some u
      rw [sortedHeap_old (Nat.ne_of_lt hlt) (by rw [size_push']; exact Nat.lt_succ_of_lt hlt)]
      exact Heap.get?_push_of_some _ q
    · have := strs_each eo
      rw [PySem.W.dataLe_str (fun x : Str => x), show (fun a b : Str => decide (a.cps.toList ≤ b.cps.toList)) = leS from by funext a b; unfold leS ltS; exact (PySem.W.not_lt_str _ _).symm] at this
      exact this
end
/-! ### the texts of a list, each once, in order -/
theorem met_nodup : ∀ l : List Str, (met l).Nodup
  | [] => by rw [met]; exact List.nodup_nil
  | x :: r => by
    rw [met]
    split
    · exact met_nodup r
    · rename_i h
      refine List.nodup_cons.mpr ⟨fun z => h ?_, met_nodup r⟩
      rw [List.any_eq_true]
      exact ⟨x, z, beq_self_eq_true x⟩
def setS (xs : List Str) : List Str := sortS (metT xs xs.length)
theorem mem_setS {xs : List Str} {x : Str} : x ∈ setS xs ↔ x ∈ xs := by
  unfold setS metT
  rw [(sortS_perm _).mem_iff, met_mem, List.take_length, List.mem_reverse]
theorem nodup_setS (xs : List Str) : (setS xs).Nodup := (sortS_perm _).nodup_iff.mpr (met_nodup _)
theorem length_setS (xs : List Str) : (setS xs).length ≤ xs.length := by
  unfold setS
  rw [(sortS_perm _).length_eq]
  exact metT_le xs xs.length
theorem setS_sorted (xs : List Str) : (setS xs).Pairwise (fun x y => leS x y = true) := sortS_sorted _
theorem setS_one {xs ss : List Str} (hn : ss.Nodup) (hm : ∀ k, k ∈ ss ↔ k ∈ xs) : sortS ss = setS xs := by
  unfold setS
  refine sortS_congr ((List.perm_ext_iff_of_nodup hn (met_nodup _)).mpr fun k => ?_)
  rw [hm k, met_mem, List.take_length, List.mem_reverse]
section
variable {X : Cx}
def tSortedSet (K : PySem.W.Frag) (ta : TE) : TE := fun σ H Q => ta σ H fun x H1 => ∃ (l : Addr) (xs : List Str), x = .ref l ∧ SqL K H1 l (xs.map V.str) ∧ xs.length ≤ 4000 ∧ ∀ p, H1 p = none → Q (.ref p) (upd H1 p (.lst ((setS xs).map V.str)))
theorem vals_strs : ∀ {ys : List Str} {us : List Value}, StrsAre us ys → Vals (ys.map V.str) us
  | _, _, .nil => .nil
  | _, _, .cons x t r => .cons ⟨t, rfl⟩ (vals_strs r)
theorem pe_sortedSet (hu : X.A.units + 64 < cLine) {a : Expr} {ta : TE} {p p2 q pos : Pos} (hc : X.calm = true) (hg : Gl X "sorted") (hm : X.mg "sorted" = none) (hg2 : Gl X "set") (hm2 : X.mg "set" = none) (ha : PE X a ta)
    (na : starEach [a] X.env = (false, eval a X.env) :: starEach [] X.env := by rfl) : PE X (.Call (.Name "sorted" p) [.Call (.Name "set" p2) [a] [] q] [] pos) (tSortedSet X.K ta) := by
  refine ⟨fun pins s σ H Q I h => ?_⟩
  refine Call_ (ld_blt I hg hm boot_sorted (callWith_builtin1 (args_cons ?_ rfl) rfl rfl))
  refine Call_ (ld_blt I hg2 hm2 boot_set (callWith_type1 (args_cons (thn (ha.run pins s σ H _ I h) fun v s1 ⟨x, H1, I1, r1, q1⟩ => args_nil ?_) na) na rfl))
  obtain ⟨l, xs, rfl, hq, few, q1⟩ := q1
  cases r1
  obtain ⟨its, r, pl, hz⟩ := I1.list hq
  refine setX_of_texts (I1.ok.hd hc) pl.isList (by simpa using strsAre_vals r) (by unfold scanBound; omega) fun h' tk hS hk => args_nil ?_
  have I2 : Inv X pins σ H1 { s1 with heap := h', toks := tk } := I1.kept fun b o e => hk b o (Heap.lt_size e) e
  have le := metT_le xs xs.length
  have hS2 : SetXAt X.prog X.w xs xs.length ({ s1 with heap := h', toks := tk } : Shared).heap s1.heap.objs.size := hS
  generalize ({ s1 with heap := h', toks := tk } : Shared) = s2 at I2 hS2 ⊢
  refine sorted_setX (s := s2) (by omega) hS2 (I1.ok.hd hc) (by omega) fun s' p out c ss k g o hp hgp hi hs hm hl => ?_
  have e1 : sortS ss = setS xs := setS_one hs fun k => by
    rw [hm k, List.any_eq_true]
    constructor
    · rintro ⟨y, hy, e⟩
      rw [beq_iff_eq] at e
      subst e
      unfold metT at hy
      rw [met_mem, List.take_length, List.mem_reverse] at hy
      exact hy
    · intro hk
      refine ⟨k, ?_, beq_self_eq_true k⟩
      unfold metT
      rw [met_mem, List.take_length, List.mem_reverse]
      exact hk
  rw [e1] at hi
  have hlen : ((setS xs).map V.str).length ≤ sizeLine := by
    have := length_setS xs
    rw [List.length_map]; exact le_size (by omega)
  have hn : H1 p = none := I2.hok.fresh hp
  have J : Inv X pins σ (upd H1 p (.lst ((setS xs).map V.str))) { s2 with heap := s'.heap, gens := s'.gens, drawn := s'.drawn, toks := s'.toks } :=
    I2.call (ch := []) (Un.laid k hp hn) (I2.hok.laid k hp ⟨hlen, out.toList, c, vals_strs hi, hgp⟩) (by rw [g]; exact I2.bare) (fun _ z => nomatch z)
  have e : s' = { s2 with heap := s'.heap, gens := s'.gens, drawn := s'.drawn, toks := s'.toks } := by
    cases s'
    cases s2
    cases o
    rfl
  rw [e]
  exact ⟨.ref p, _, J, rfl, q1 p hn⟩
def dSortedSet (t : TQ) : TD := fun ρ Q => t ρ fun o ρ1 => ∃ xs : List Str, o.get ρ1 = some (.lst (xs.map D.str)) ∧ xs.length ≤ 4000 ∧ Q (.fr (.l ((setS xs).map D.str))) ρ1
theorem den_txts {K : PySem.W.Frag} {F : Hp} : ∀ {l : List Str}, (∀ x ∈ l, PyData.strOk x = true) → DenL K F (l.map V.str) (l.map D.str)
  | [], _ => .nil
  | x :: r, h => .cons (.str x (h x List.mem_cons_self)) (den_txts fun y hy => h y (List.mem_cons_of_mem _ hy))
theorem de_sortedSet (hu : X.A.units + 64 < cLine) {a : Expr} {ta : TE} {t : TQ} {p p2 q pos : Pos} (hc : X.calm = true) (hg : Gl X "sorted") (hm : X.mg "sorted" = none) (hg2 : Gl X "set") (hm2 : X.mg "set" = none) (ha : DO X a ta t)
    (na : starEach [a] X.env = (false, eval a X.env) :: starEach [] X.env := by rfl) : DE X (.Call (.Name "sorted" p) [.Call (.Name "set" p2) [a] [] q] [] pos) (tSortedSet X.K ta) (dSortedSet t) :=
  ⟨pe_sortedSet hu hc hg hm hg2 hm2 ha.pe na, fun R q k => ha.sem R q fun o ρ1 v H1 F1 q1 s1 R1 d1 => by
    obtain ⟨xs, e, few, q1⟩ := q1
    obtain ⟨l, ys, rfl, h1, h2⟩ := (d1.pk R1 e).lst R1.ext
    obtain ⟨rfl, ok⟩ := h2.txts
    refine ⟨l, xs, rfl, .inl (.inl h1), few, fun p hp => ?_⟩
    obtain ⟨R2, rd⟩ := R1.allocFr hp (o := .lst ((setS xs).map V.str)) (c := .l ((setS xs).map D.str)) ⟨_, upd_same, den_txts fun x hx => ok x (mem_setS.mp hx)⟩
    exact k _ _ _ _ _ q1 s1 R2 rd⟩
end
end DL
/-! dict(pairs), dict(d). -/
namespace DL
open PySem L2
def pairsD : List D → Option (List (Key × D))
  | [] => some []
  | .tup [k, d] :: r => match k.key, pairsD r with
    | some k, some r => some ((k, d) :: r)
    | _, _ => none
  | _ :: _ => none
theorem DenL.pairs {K : PySem.W.Frag} {F : Hp} : ∀ {l : List D} {vs : List V} {kvs : List (Key × D)}, DenL K F vs l → pairsD l = some kvs → ∃ (ps : List Addr) (ks : List (Key × V)), vs = ps.map V.ref ∧ Paired (fun p (kv : Key × V) => F p = some (.tup [kV kv.1, kv.2])) ps ks ∧ DenK K F ks kvs
  | [], _, kvs, h, e => by
    cases h
    rw [pairsD] at e
    cases e
    exact ⟨[], [], rfl, .nil, .nil⟩
  | d :: r, _, kvs, h, e => by
    unfold pairsD at e
    split at e
    · rename_i heq
      cases heq
    · rename_i k d' r' heq
      cases heq
      cases ek : k.key with
      | none => simp only [ek] at e; cases e
      | some k1 =>
        cases er : pairsD r with
        | none => simp only [ek, er] at e; cases e
        | some kvs' =>
          simp only [ek, er] at e
          cases e
          cases h with
          | cons a t =>
            obtain ⟨ps, ks, rfl, h1, h2⟩ := t.pairs er
            cases a with
            | @tup p xs _ hp hx =>
              cases hx with
              | cons x1 t1 =>
                cases t1 with
                | cons x2 t2 =>
                  cases t2
                  have hpk : Pk K F F _ k := .inl x1
                  have ko := hpk.keyOk ek
                  have kx := hpk.key ek
                  subst kx
                  exact ⟨p :: ps, (k1, _) :: ks, rfl, .cons hp h1, .cons x2 ko h2⟩
    · cases e
def gDictA : List D → (Rv → Prop) → Prop
  | [.lst l] => fun Q => ∃ kvs, pairsD l = some kvs ∧ Q (.fr (.d (kMerge [] kvs)))
  | [.dct kvs] => fun Q => Q (.fr (.d kvs))
  | _ => fun _ => False
section
variable {X : Cx}
def rDictA (K : PySem.W.Frag) : List V → Hp → VK → Prop := fun xs H Q => (∃ (a : Addr) (ps : List Addr) (kvs : List (Key × V)), xs = [V.ref a] ∧ SqL K H a (ps.map V.ref) ∧ Paired (fun p kv => SqT K H p [kV kv.1, kv.2]) ps kvs ∧
    ∀ p, H p = none → Q (.ref p) (upd H p (.dK (mergeK [] kvs)))) ∨ ∃ (a : Addr) (kvs : List (Key × V)), xs = [V.ref a] ∧ Rd H a (.dK kvs) ∧ ∀ p, H p = none → Q (.ref p) (upd H p (.dK kvs))
theorem call_dictA (hc : X.calm = true) : CallR X (.type "dict") (rDictA X.K) := (call_dictP hc).or call_dictD
theorem sem_dictA : SemCall X.K (rDictA X.K) gDictA := by
  intro G σ H F ρ xs as Q Qd R ha h k
  unfold gDictA at h
  split at h
  · rename_i l
    obtain ⟨kvs, e, q⟩ := h
    obtain ⟨x, rfl, p⟩ := pks1 ha
    obtain ⟨a, ys, rfl, h1, h2⟩ := p.lst R.ext
    obtain ⟨ps, ks, rfl, h3, h4⟩ := h2.pairs e
    refine .inl ⟨a, ps, ks, rfl, .inl (.inl h1), Paired.mapP h3 fun p kv z => .inl (.inl (R.ext _ _ z)), fun p hp => ?_⟩
    obtain ⟨R2, rd⟩ := R.allocFr hp (o := .dK (mergeK [] ks)) (c := .d (kMerge [] kvs)) ⟨_, upd_same, h4.merge .nil⟩
    exact k _ _ _ _ q (Same.refl _) R2 rd
  · rename_i kvs
    obtain ⟨x, rfl, p⟩ := pks1 ha
    obtain ⟨a, ks, rfl, h1, h2⟩ := p.dct R.ext
    refine .inr ⟨a, ks, rfl, .inl h1, fun p hp => ?_⟩
    obtain ⟨R2, rd⟩ := R.allocFr hp (o := .dK ks) (c := .d kvs) ⟨_, upd_same, h2⟩
    exact k _ _ _ _ h (Same.refl _) R2 rd
  · exact h.elim
end
theorem pairsD_map {α : Type} (kf : α → Str) (e : α → D) : ∀ l : List α, pairsD (l.map fun x => D.tup [.str (kf x), e x]) = some (l.map fun x => ((.inr (kf x) : Key), e x))
  | [] => rfl
  | x :: r => by
    rw [List.map_cons, List.map_cons, pairsD, pairsD_map kf e r]
    rfl
theorem kMerge_new {α : Type} : ∀ (l acc : List (Key × α)), ((acc ++ l).map (·.1)).Nodup → kMerge acc l = acc ++ l
  | [], acc, _ => by rw [List.append_nil]; rfl
  | (k, d) :: r, acc, h => by
    have hn : ∀ kv ∈ acc, kv.1 ≠ k := fun kv hkv e => by
      rw [List.map_append, List.nodup_append] at h
      exact h.2.2 kv.1 (List.mem_map_of_mem (f := (·.1)) hkv) k (by simp) e
    show kMerge (kPut acc k d) r = _
    rw [kPut_new hn]
    have e : acc ++ (k, d) :: r = (acc ++ [(k, d)]) ++ r := by simp
    rw [e] at h ⊢
    exact kMerge_new r _ h
end DL
/-! a, b, .. = a list. -/
namespace DL
open PySem L2
section
variable {X : Cx}
def gUL (n : Nat) (u : TGds) : TGd := fun d ρ Q => match d with
  | .lst ds => ds.length = n ∧ u ds ρ Q
  | _ => False
theorem dg_unl {es : List Expr} {ws : List Nat} {kk : Nat} {pos : Pos} {g : TGs} {u : TGds} {n : Nat} (hc : X.calm = true) (h : DGs X es ws g u)
    (hn : (assignEach es X.env).length = n := by rfl) (hst : (assignEach es X.env).findIdx? (·.1) = none := by rfl) : DG X (.Tuple es kk pos) ws (gUnl X.K n g) (gUL n u) :=
  ⟨pg_unl hc h.pe hn hst, fun {G σ H F ρ v d Q Qd} R dd q k => by
    cases d with
    | lst ds =>
      obtain ⟨a, ys, rfl, h1, h2⟩ := (show Pk X.K F H v (.lst ds) from .inl dd).lst R.ext
      exact ⟨a, ys, rfl, .inl (.inl h1), by rw [h2.length]; exact q.1, h.sem R h2 q.2 k⟩
    | _ => exact q.elim⟩
end
end DL
/-! sorted(set(ints)). -/
namespace DL
namespace SI
open PySem PySem.Spec L2 PyProof.Rows
theorem setR_eqv {w : World} {h : Heap} {a : Addr} {S S' : Int → Bool} {n m : Nat} (R : SetR w h a S n) (e : ∀ k, S' k = S k) (hm : m = n) : SetR w h a S' m := by
  rw [show S' = S from funext e, hm]; exact R
theorem ints_len : ∀ {vs : List Value} {ns : List Int}, IntsAre vs ns → vs.length = ns.length
  | _, _, .nil => rfl
  | _, _, .cons _ _ r => by rw [List.length_cons, List.length_cons, ints_len r]
theorem ints_at {vs : List Value} {ns : List Int} (h : IntsAre vs ns) (i : Nat) (v : Value) (e : vs[i]? = some v) : ∃ t, v = .int (ns.getD i 0) t := by
  obtain ⟨n, t, rfl, hn⟩ := h.at i v e
  exact ⟨t, by rw [List.getD_eq_getElem?_getD, hn]; rfl⟩
theorem each_ints : ∀ {vs : List Value} {ss : List Int}, IntsAre vs ss → PySem.W.EachIs (fun v x => ∃ t, v = Value.int x t) vs ss
  | _, _, .nil => .nil
  | _, _, .cons x t r => .cons ⟨t, rfl⟩ (each_ints r)
theorem ints_each : ∀ {vs : List Value} {ss : List Int}, PySem.W.EachIs (fun v x => ∃ t, v = Value.int x t) vs ss → IntsAre vs ss
  | _, _, .nil => .nil
  | _, _, .cons a r => by
    obtain ⟨t, rfl⟩ := a
    exact .cons _ t (ints_each r)
theorem intsAre_vals : ∀ {ys : List Int} {us : List Value}, Vals (ys.map V.int) us → IntsAre us ys
  | [], _, h => by cases h; exact .nil
  | y :: r, _, h => by
    cases h with
    | cons a t =>
      obtain ⟨k, rfl⟩ := a
      exact .cons y k (intsAre_vals t)
theorem vals_intsI : ∀ {ys : List Int} {us : List Value}, IntsAre us ys → Vals (ys.map V.int) us
  | _, _, .nil => .nil
  | _, _, .cons x t r => .cons ⟨t, rfl⟩ (vals_intsI r)
def leI (x y : Int) : Bool := decide (x ≤ y)
def sortI (xs : List Int) : List Int := xs.mergeSort leI
theorem leI_trans (a b c : Int) (h1 : leI a b = true) (h2 : leI b c = true) : leI a c = true := decide_eq_true (Int.le_trans (of_decide_eq_true h1) (of_decide_eq_true h2))
theorem leI_total (a b : Int) : (leI a b || leI b a) = true := by
  unfold leI
  rw [Bool.or_eq_true, decide_eq_true_eq, decide_eq_true_eq]
  omega
theorem sortI_perm (xs : List Int) : (sortI xs).Perm xs := List.mergeSort_perm xs leI
theorem sortI_sorted (xs : List Int) : (sortI xs).Pairwise (fun x y => leI x y = true) := List.pairwise_mergeSort leI_trans leI_total xs
theorem sortI_congr {l m : List Int} (h : l.Perm m) : sortI l = sortI m :=
  sorted_one (le := leI) (fun _ _ h1 h2 => Int.le_antisymm (of_decide_eq_true h1) (of_decide_eq_true h2)) ((sortI_perm l).trans (h.trans (sortI_perm m).symm)) (sortI_sorted l) (sortI_sorted m)
theorem ints_inj : ∀ {vs : List V} {F : Hp} {K : PySem.W.Frag} {bs : List Int}, DenL K F vs (bs.map D.int) → vs = bs.map V.int
  | _, _, _, [], h => by cases h; rfl
  | _, _, _, b :: bs, h => by
    cases h with
    | cons a t =>
      cases a
      rw [ints_inj t]; rfl
/-- the texts met so far, each once -/
def met : List Int → List Int
  | [] => []
  | x :: r => if (met r).any (· == x) = true then met r else x :: met r
def metT (xs : List Int) (i : Nat) : List Int := met (xs.take i).reverse
theorem met_le : ∀ l : List Int, (met l).length ≤ l.length
  | [] => Nat.le_refl _
  | x :: r => by
    rw [met]
    have := met_le r
    split
    · rw [List.length_cons]; omega
    · rw [List.length_cons, List.length_cons]; omega
theorem met_mem : ∀ {l : List Int} {x : Int}, x ∈ met l ↔ x ∈ l
  | [], x => by simp [met]
  | y :: r, x => by
    have ih := @met_mem r x
    have ihy := @met_mem r y
    rw [met]
    split
    · rename_i h
      have hy : y ∈ met r := by simpa using h
      rw [List.mem_cons, ih]
      constructor
      · exact .inr
      · rintro (rfl | h)
        · exact ihy.mp hy
        · exact h
    · rw [List.mem_cons, List.mem_cons, ih]
theorem met_full : ∀ l : List Int, (met l).length = l.length ↔ l.Nodup
  | [] => by simp [met]
  | x :: r => by
    have ih := met_full r
    have hle := met_le r
    have hm := @met_mem r x
    rw [met, List.nodup_cons]
    split
    · rename_i h
      have hx : x ∈ met r := by simpa using h
      rw [List.length_cons]
      constructor
      · intro e; omega
      · intro e; exact (e.1 (hm.mp hx)).elim
    · rename_i h
      have hx : x ∉ met r := by simpa using h
      rw [List.length_cons, List.length_cons, Nat.add_right_cancel_iff, ih]
      constructor
      · intro e; exact ⟨fun z => hx (hm.mpr z), e⟩
      · exact And.right
theorem metT_succ {xs : List Int} {i : Nat} (h : i < xs.length) : metT xs (i + 1) = if (metT xs i).any (· == xs[i]) = true then metT xs i else xs[i] :: metT xs i := by
  unfold metT
  rw [List.take_succ_eq_append_getElem h, List.reverse_append, List.reverse_singleton, List.singleton_append, met]
theorem metT_any {xs : List Int} {i : Nat} (h : i < xs.length) (k : Int) : ((metT xs i).any (· == k) || decide (k = xs[i])) = (metT xs (i + 1)).any (· == k) := by
  rw [metT_succ h]
  by_cases e : k = xs[i]
  · subst e
    split
    · rename_i hq; rw [hq]; rfl
    · simp
  · have hb : (xs[i] == k) = false := beq_eq_false_iff_ne.mpr (Ne.symm e)
    split
    · simp [e]
    · rw [List.any_cons, hb]; simp [e]
theorem metT_len {xs : List Int} {i : Nat} (h : i < xs.length) : (if (metT xs i).any (· == xs[i]) = true then (metT xs i).length else (metT xs i).length + 1) = (metT xs (i + 1)).length := by
  rw [metT_succ h]
  split <;> rfl
theorem metT_le (xs : List Int) (i : Nat) : (metT xs i).length ≤ i := by
  have := met_le (xs.take i).reverse
  rw [List.length_reverse, List.length_take] at this
  unfold metT
  omega
theorem metT_all (xs : List Int) : (metT xs xs.length).length = xs.length ↔ xs.Nodup := by
  unfold metT
  rw [List.take_length]
  have := met_full xs.reverse
  rw [List.length_reverse, (List.reverse_perm xs).nodup_iff] at this
  exact this
section
variable {P : Program} {w : World} {A : Around} {E : Value → Shared → Prop} {s : Shared} {a : Addr} {S : Int → Bool} {n : Nat}
/-- what the set holds when i items of the list went in -/
abbrev SetIAt (P : Program) (w : World) (xs : List Int) (i : Nat) (h : Heap) (S : Addr) : Prop := SetR w h S (fun k => (metT xs i).any (· == k)) (metT xs i).length
theorem setI_loop {R : Result → Shared → Prop} {I : Addr} {fp wr : List Addr} {G : Array GenState → Array GenState → Prop} {Pv : Nat → Value → Prop} {St : Nat → Shared → Prop} {xs : List Int} (W : WalksS P w A.in1 I fp wr G xs.length Pv St)
    (S : Addr) (hS0 : S ∉ fp) (few : xs.length + 1 < scanBound) (hP : ∀ i v, Pv i v → ∃ t, v = .int (xs.getD i 0) t) :
    ∀ (left i : Nat) (s : Shared), i + left = xs.length → St i s → SetIAt P w xs i s.heap S →
      (∀ s', Moved (S :: wr) G s s' → SetIAt P w xs xs.length s'.heap S → R (.ok (.ret .none)) s') → codeAny (model P w) A (.builtin "set.update.loop" ⟨[.ref S, .ref I], []⟩) R s := by
  have nw : S ∉ wr := fun z => hS0 (W.sub _ z)
  have up : ∀ b ∈ wr, b ∈ S :: wr := fun b hb => List.mem_cons_of_mem _ hb
  intro left
  induction left with
  | zero =>
    intro i s hi st hs k
    have e : i = xs.length := hi
    subst e
    refine codeAny_builtin PyProof.Rows.F.entry_set_update_loop ?_
    rw [Around.under_plainId PyProof.Rows.F.plain_set_update_loop _]
    exact wpAny_bind (m := pyNext (.ref I)) (W.done s _ _ st fun s' mv => wpAny_pure (k s' (mv.mono up) (SetR.at hs fun o ho => mv.heap S _ nw ho)))
  | succ left ih =>
    intro i s hi st hs k
    have lt : i < xs.length := by omega
    refine codeAny_builtin PyProof.Rows.F.entry_set_update_loop ?_
    rw [Around.under_plainId PyProof.Rows.F.plain_set_update_loop _]
    refine wpAny_bind (m := pyNext (.ref I)) (W.item i s _ _ lt st fun v s' hv st' mv => ?_)
    obtain ⟨t, rfl⟩ := hP i v hv
    have eg : xs.getD i 0 = xs[i] := by rw [List.getD_eq_getElem?_getD, List.getElem?_eq_getElem lt]; rfl
    rw [eg]
    have hs' : SetIAt P w xs i s'.heap S := SetR.at hs fun o ho => mv.heap S _ nw ho
    refine wpAny_bind (m := holding [Value.int xs[i] t] (setAdd S (.int xs[i] t))) (wpAny_holding ?_)
    unfold setAdd
    refine wpAny_holding (wpAny_bind ((intKind P w).pyHash (k := xs[i]) (intKind_is _ _ _ _) ?_))
    have room : (metT xs i).length + 1 < scanBound := by have := metT_le xs i; omega
    refine setR_add_hashed (s := { s' with toks := s'.toks + 1 }) hs' room fun h' same hs2 => ?_
    have hs3 : SetIAt P w xs (i + 1) h' S := setR_eqv hs2 (fun k' => (metT_any lt k').symm) (metT_len lt).symm
    refine wpAny_pure ⟨plainId_quiet PyProof.Rows.F.plain_set_update_loop _, ih (i + 1) _ (by omega) (W.frame _ s' _ _ st' (Nat.le_succ _) fun b hb o e => ?_) hs3 fun s2 mv2 hs4 => ?_⟩
    · rw [same.2 b (fun z => hS0 (by rw [← z]; exact hb))]; exact e
    · refine k s2 (Moved.trans W.gtrans ((mv.mono up).then_heap (Nat.le_succ _) fun b o hb e => ?_) mv2) hs4
      rw [same.2 b (fun z => hb (by rw [z]; exact List.mem_cons_self))]; exact e
/-- the set of a list's texts -/
theorem set_of_ints {l : Addr} {its : Array Value} {xs : List Int} {Q : Value → Shared → Prop} (calm : A.handled = none) (il : s.heap.IsList l its) (ix : IntsAre its.toList xs) (few : xs.length + 1 < scanBound)
    (h : ∀ (h' : Heap) (tk : Nat), SetIAt P w xs xs.length h' s.heap.objs.size → (∀ b o, b < s.heap.objs.size → s.heap.get? b = some o → h'.get? b = some o) → Q (.ref s.heap.objs.size) { s with heap := h', toks := tk }) :
    wpAny (model P w) A (PySem.call (.type "set") [.ref l]) Q E s := by
  have hz : xs.length = its.size := by rw [← ints_len ix, Array.length_toList]
  generalize hS : s.heap.objs.size = S at h ⊢
  obtain ⟨mc, ml, mm⟩ := PySem.F.called_set.mro
  have g1 := PySem.F.called_set.made
  have g2 := PySem.F.called_set.sub
  refine wpAny_call (codeAny_of_tree ?_)
  change wpAny _ _ (callAny (.type "set") _) _ _ _
  refine wpAny_pure ⟨Code.quiet_builtin _ (by decide +kernel), codeAny_builtin PySem.F.entry_type_call ?_⟩
  rw [Around.under_plain (weight_type_call_type "set" [.ref l] []) rfl]
  have g3 := PySem.F.called_set.notType
  have g4 := PySem.F.called_set.canCreate
  have g5 := PySem.F.typeCall_set_1 (.ref l)
  repeat (any_goals (first | assumption | wp_step))
  refine codeAny_mono (new_led1 (.ref l) (E := E) (Q₁ := fun r s1 => r = .ref S ∧ s1 = { s with heap := s.heap.push (fresh (!w.params.followText "set-order")) }) ⟨by rw [hS], rfl⟩) fun res s1 hres => ?_
  match res, hres with
  | .error e, z => exact z
  | .ok .next, z => exact z.elim
  | .ok .brk, z => exact z.elim
  | .ok .cont, z => exact z.elim
  | .ok (.ret r), ⟨e1, e2⟩ =>
    subst e1
    subst e2
    have hX : SetR w (s.heap.push (fresh (!w.params.followText "set-order"))) S (fun _ => false) 0 := by rw [← hS]; exact setR_fresh w
    generalize (!w.params.followText "set-order") = led at hX ⊢
    have hN : (s.heap.push (fresh led)).get? S = some (fresh led) := by rw [← hS]; exact Heap.get?_push_size _ rfl
    have hT : Shared.TypeIs { s with heap := s.heap.push (fresh led) } (.ref S) "set" := ⟨_, hN, rfl⟩
    have g6 := PySem.F.called_set.init.lookup
    have g7 := PySem.F.called_set.init.bind (.ref S)
    repeat (any_goals (first | assumption | wp_step))
    refine codeAny_mono (codeAny_call_builtin (R := wants (fun r s2 => r = .none ∧ ∃ h' tk, s2 = { s with heap := h', toks := tk } ∧ SetIAt P w xs xs.length h' S ∧ (∀ b o, b < S → s.heap.get? b = some o → h'.get? b = some o)) E)
      PySem.F.called_set.init.plain PySem.F.entry_set_init (check_set_init_1 hT ?_)) fun r2 s2 hr2 => ?_
    · obtain ⟨ol, hol, hcl, nl, hdl⟩ := il
      obtain ⟨ocls, odict, odata, oslots⟩ := ol
      simp only at hcl hdl
      subst hcl; subst hdl
      have hol2 : (s.heap.push (fresh led)).get? l = some { cls := .type "list", dict := odict, data := .seq its nl, slots := oslots } := Heap.get?_push_of_some _ hol
      have g8 := PySem.F.sub_list_set
      have g9 := PySem.F.sub_list_frozenset
      have ga : (Value.type "list" == Value.type "dict") = false := by decide
      have il2 : (s.heap.push (fresh led)).IsList l its := ⟨_, hol2, rfl, nl, rfl⟩
      unfold Builtin.«set.__init__» noKeywords Builtin.Frozenset.updateFrom
      generalize hPI : pyIter = PI
      wp_walk
      subst hPI
      refine wpAny_pyIter_list il2 (wpAny_bind (wpAny_runValue ?_))
      have lS : l < S := by rw [← hS]; exact Heap.lt_size hol
      have pS : (s.heap.push (fresh led)).objs.size = S + 1 := by rw [Heap.size_push, hS]
      have neI : l ≠ (s.heap.push (fresh led)).objs.size := by rw [pS]; exact Nat.ne_of_lt (Nat.lt_succ_of_lt lS)
      have outS : S ∉ [(s.heap.push (fresh led)).objs.size, l] := by
        rw [pS]
        simp only [List.mem_cons, List.not_mem_nil, or_false, not_or]
        exact ⟨Nat.ne_of_lt (Nat.lt_succ_self _), Nat.ne_of_gt lS⟩
      have c3 : A.in1.in1.in1.handled = none := by simp [calm]
      have W := (Walks.list (prog := P) (w := w) c3 (s.heap.push (fresh led)).objs.size l neI its).toS
      rw [← hz] at W
      refine setI_loop W S outS few (fun i v hv => ints_at ix i v (by rw [Array.getElem?_toList]; exact hv)) xs.length 0 _ (Nat.zero_add _) ⟨⟨_, Heap.get?_push_size _ rfl, rfl, rfl⟩, (il2.push _)⟩ ?_ ?_
      · exact setR_eqv (SetR.at hX fun o ho => Heap.get?_push_of_some _ ho) (fun _ => by simp [metT, met]) (by simp [metT, met])
      · intro s' mv hs'
        obtain ⟨h', g', d', tk', os'⟩ := s'
        have e1 : g' = s.gens := mv.gens
        have e2 : d' = s.drawn := mv.drawn
        have e3 : os' = s.os := mv.os
        subst e1; subst e2; subst e3
        change wpAny _ _ _ _ _ _
        refine wpAny_pure ?_
        change wpAny _ _ (ret Value.none) _ _ _
        refine wpAny_pure ⟨rfl, h', tk', rfl, hs', fun b o hb e => ?_⟩
        refine mv.heap b o ?_ (Heap.get?_push_of_some _ (Heap.get?_push_of_some _ e))
        rw [pS]
        simp only [List.mem_cons, List.not_mem_nil, or_false, not_or]
        exact ⟨Nat.ne_of_lt hb, Nat.ne_of_lt (Nat.lt_succ_of_lt hb)⟩
    · match r2, hr2 with
      | .error e, z => exact z
      | .ok .next, z => exact z.elim
      | .ok .brk, z => exact z.elim
      | .ok .cont, z => exact z.elim
      | .ok (.ret r), ⟨e1, h', tk, e2, hs', kp⟩ =>
        subst e1
        subst e2
        repeat (any_goals (first | assumption | wp_step))
        exact h _ _ hs' kp
theorem sorted_setI {Q : Value → Shared → Prop} (hu : A.units + 8 < cLine) (R : SetR w s.heap a S n) (hh : A.handled = none) (few : n < 4096)
    (hQ : ∀ s' p (out : Array Value) (c : Nat) (ss : List Int), (∀ b o, s.heap.get? b = some o → s'.heap.get? b = some o) → s'.gens = s.gens → s'.os = s.os → s.heap.objs.size ≤ p →
      s'.heap.get? p = some (seqObj "list" out c) → IntsAre out.toList (sortI ss) → ss.Nodup → (∀ k, k ∈ ss ↔ S k = true) → ss.length = n → Q (.ref p) s') :
    wpAny (model P w) A (PySem.call (.builtin "sorted") [.ref a]) Q E s := by
  obtain ⟨o, es, ep, t, ho, hex, hd, g, nd, hm, hb, hf, hn, hr, hl⟩ := R
  refine Calls.call_function_entry kind_sorted plain_sorted entry_sorted (args_sorted1 _) ?_
  unfold Builtin.«sorted»
  refine wpAny_bind (m := checkCount "sorted" 1 1 _) (wpAny_pure ?_)
  refine wpAny_bind (collect_set (A := A.in1) hh ⟨o, ho, hex.1, hd⟩ hf hb hr hl fun s1 vs k1 hz g1 o1 pm => ?_)
  have hvl : vs.length = n := by rw [pm.length_eq, List.length_map, Array.length_toList]; exact hn
  have hall : ∀ v ∈ vs, ∃ k tk, v = Value.int k tk := fun v hv => by
    obtain ⟨e, he, q⟩ := List.mem_map.mp (pm.mem_iff.mp hv)
    obtain ⟨x, k, h1, _⟩ := g e he
    exact ⟨x, k, by rw [← q]; exact h1⟩
  have hI := ints_of vs hall
  have pk : (vs.map Builtin.Re.reRawOf).Perm (es.toList.map keyOf) := by
    have q := pm.map Builtin.Re.reRawOf
    rw [List.map_map] at q
    exact q
  refine wpAny_bind (wpAny_newList ?_ (by rw [hvl, sizeLine_eq]; omega))
  have hoL : (s1.heap.push (seqObj "list" vs.toArray 0)).get? s1.heap.objs.size = some (seqObj "list" vs.toArray 0) := Heap.get?_push_size _ rfl
  have he := each_ints hI
  refine wpAny_bind (wpAny_holding (PySem.W.list_sort_data (enc := fun x : Int => PyData.int x) hoL he ?_ ?_ ?_ ?_ ?_ fun out hout eo => ?_))
  · exact each_and he fun u b m ⟨t, ht⟩ => ⟨[], by subst ht; exact .int _ _, by simp⟩
  · exact PySem.W.AllAlike.of fun x y => by simp [PySem.W.alike]
  · exact PySem.W.Sortable.others fun x => ⟨by simp, fun xs => by simp⟩
  · rw [List.length_map, hvl, sizeLine_eq]; omega
  · intro x _; show A.units + 1 + 1 + 0 < cLine; omega
  · obtain ⟨c, hc⟩ := sortedHeap_at (vs := vs) (out := out.toArray) hoL
    refine wpAny_pure ⟨_, rfl, hQ _ s1.heap.objs.size out.toArray c (vs.map Builtin.Re.reRawOf) (fun b u e => ?_) g1 o1 hz hc ?_ (pk.nodup_iff.mpr nd) (fun k => by rw [pk.mem_iff, ← hm k]) (by rw [List.length_map, hvl])⟩
    · have q := k1 b u e
      have hlt := Heap.lt_size q
      show (sortedHeap (s1.heap.push (seqObj "list" vs.toArray 0)) s1.heap.objs.size vs out.toArray).get? b = some u
      rw [sortedHeap_old (Nat.ne_of_lt hlt) (by rw [size_push']; exact Nat.lt_succ_of_lt hlt)]
      exact Heap.get?_push_of_some _ q
    · have := ints_each eo
      rw [PySem.W.dataLe_int (fun x : Int => x)] at this
      exact this
end
/-! ### the texts of a list, each once, in order -/
theorem met_nodup : ∀ l : List Int, (met l).Nodup
  | [] => by rw [met]; exact List.nodup_nil
  | x :: r => by
    rw [met]
    split
    · exact met_nodup r
    · rename_i h
      refine List.nodup_cons.mpr ⟨fun z => h ?_, met_nodup r⟩
      rw [List.any_eq_true]
      exact ⟨x, z, beq_self_eq_true x⟩
def setI (xs : List Int) : List Int := sortI (metT xs xs.length)
theorem mem_setI {xs : List Int} {x : Int} : x ∈ setI xs ↔ x ∈ xs := by
  unfold setI metT
  rw [(sortI_perm _).mem_iff, met_mem, List.take_length, List.mem_reverse]
theorem nodup_setI (xs : List Int) : (setI xs).Nodup := (sortI_perm _).nodup_iff.mpr (met_nodup _)
theorem length_setI (xs : List Int) : (setI xs).length ≤ xs.length := by
  unfold setI
  rw [(sortI_perm _).length_eq]
  exact metT_le xs xs.length
theorem setI_sorted (xs : List Int) : (setI xs).Pairwise (fun x y => leI x y = true) := sortI_sorted _
theorem setI_one {xs ss : List Int} (hn : ss.Nodup) (hm : ∀ k, k ∈ ss ↔ k ∈ xs) : sortI ss = setI xs := by
  unfold setI
  refine sortI_congr ((List.perm_ext_iff_of_nodup hn (met_nodup _)).mpr fun k => ?_)
  rw [hm k, met_mem, List.take_length, List.mem_reverse]
section
variable {X : Cx}
def tSortedSetI (K : PySem.W.Frag) (ta : TE) : TE := fun σ H Q => ta σ H fun x H1 => ∃ (l : Addr) (xs : List Int), x = .ref l ∧ SqL K H1 l (xs.map V.int) ∧ xs.length ≤ 4000 ∧ ∀ p, H1 p = none → Q (.ref p) (upd H1 p (.lst ((setI xs).map V.int)))
theorem pe_sortedSetI (hu : X.A.units + 64 < cLine) {a : Expr} {ta : TE} {p p2 q pos : Pos} (hc : X.calm = true) (hg : Gl X "sorted") (hm : X.mg "sorted" = none) (hg2 : Gl X "set") (hm2 : X.mg "set" = none) (ha : PE X a ta)
    (na : starEach [a] X.env = (false, eval a X.env) :: starEach [] X.env := by rfl) : PE X (.Call (.Name "sorted" p) [.Call (.Name "set" p2) [a] [] q] [] pos) (tSortedSetI X.K ta) := by
  refine ⟨fun pins s σ H Q I h => ?_⟩
  refine Call_ (ld_blt I hg hm boot_sorted (callWith_builtin1 (args_cons ?_ rfl) rfl rfl))
  refine Call_ (ld_blt I hg2 hm2 boot_set (callWith_type1 (args_cons (thn (ha.run pins s σ H _ I h) fun v s1 ⟨x, H1, I1, r1, q1⟩ => args_nil ?_) na) na rfl))
  obtain ⟨l, xs, rfl, hq, few, q1⟩ := q1
  cases r1
  obtain ⟨its, r, pl, hz⟩ := I1.list hq
  refine set_of_ints (I1.ok.hd hc) pl.isList (by simpa using intsAre_vals r) (by unfold scanBound; omega) fun h' tk hS hk => args_nil ?_
  have I2 : Inv X pins σ H1 { s1 with heap := h', toks := tk } := I1.kept fun b o e => hk b o (Heap.lt_size e) e
  have le := metT_le xs xs.length
  have hS2 : SetIAt X.prog X.w xs xs.length ({ s1 with heap := h', toks := tk } : Shared).heap s1.heap.objs.size := hS
  generalize ({ s1 with heap := h', toks := tk } : Shared) = s2 at I2 hS2 ⊢
  refine sorted_setI (s := s2) (by omega) hS2 (I1.ok.hd hc) (by omega) fun s' p out c ss k g o hp hgp hi hs hm hl => ?_
  have e1 : sortI ss = setI xs := setI_one hs fun k => by
    rw [hm k, List.any_eq_true]
    constructor
    · rintro ⟨y, hy, e⟩
      rw [beq_iff_eq] at e
      subst e
      unfold metT at hy
      rw [met_mem, List.take_length, List.mem_reverse] at hy
      exact hy
    · intro hk
      refine ⟨k, ?_, beq_self_eq_true k⟩
      unfold metT
      rw [met_mem, List.take_length, List.mem_reverse]
      exact hk
  rw [e1] at hi
  have hlen : ((setI xs).map V.int).length ≤ sizeLine := by
    have := length_setI xs
    rw [List.length_map]; exact le_size (by omega)
  have hn : H1 p = none := I2.hok.fresh hp
  have J : Inv X pins σ (upd H1 p (.lst ((setI xs).map V.int))) { s2 with heap := s'.heap, gens := s'.gens, drawn := s'.drawn, toks := s'.toks } :=
    I2.call (ch := []) (Un.laid k hp hn) (I2.hok.laid k hp ⟨hlen, out.toList, c, vals_intsI hi, hgp⟩) (by rw [g]; exact I2.bare) (fun _ z => nomatch z)
  have e : s' = { s2 with heap := s'.heap, gens := s'.gens, drawn := s'.drawn, toks := s'.toks } := by
    cases s'
    cases s2
    cases o
    rfl
  rw [e]
  exact ⟨.ref p, _, J, rfl, q1 p hn⟩
def dSortedSetI (t : TQ) : TD := fun ρ Q => t ρ fun o ρ1 => ∃ xs : List Int, o.get ρ1 = some (.lst (xs.map D.int)) ∧ xs.length ≤ 4000 ∧ Q (.fr (.l ((setI xs).map D.int))) ρ1
theorem de_sortedSetI (hu : X.A.units + 64 < cLine) {a : Expr} {ta : TE} {t : TQ} {p p2 q pos : Pos} (hc : X.calm = true) (hg : Gl X "sorted") (hm : X.mg "sorted" = none) (hg2 : Gl X "set") (hm2 : X.mg "set" = none) (ha : DO X a ta t)
    (na : starEach [a] X.env = (false, eval a X.env) :: starEach [] X.env := by rfl) : DE X (.Call (.Name "sorted" p) [.Call (.Name "set" p2) [a] [] q] [] pos) (tSortedSetI X.K ta) (dSortedSetI t) :=
  ⟨pe_sortedSetI hu hc hg hm hg2 hm2 ha.pe na, fun R q k => ha.sem R q fun o ρ1 v H1 F1 q1 s1 R1 d1 => by
    obtain ⟨xs, e, few, q1⟩ := q1
    obtain ⟨l, ys, rfl, h1, h2⟩ := (d1.pk R1 e).lst R1.ext
    obtain rfl := ints_inj h2
    refine ⟨l, xs, rfl, .inl (.inl h1), few, fun p hp => ?_⟩
    obtain ⟨R2, rd⟩ := R1.allocFr hp (o := .lst ((setI xs).map V.int)) (c := .l ((setI xs).map D.int)) ⟨_, upd_same, DenL.ints⟩
    exact k _ _ _ _ _ q1 s1 R2 rd⟩
end
/-- as the texts' dSortedSet, read of places -/
theorem dSortedSetI_nats {xs : List Nat} : (xs.map NatD) = (xs.map fun n : Nat => (n : Int)).map D.int := by rw [List.map_map]; rfl
def setN (xs : List Nat) : List Nat := (setI (xs.map fun n : Nat => (n : Int))).map Int.toNat
theorem setN_eq (xs : List Nat) : (setI (xs.map fun n : Nat => (n : Int))).map D.int = (setN xs).map NatD := by
  unfold setN
  rw [List.map_map]
  apply List.map_congr_left
  intro i hi
  obtain ⟨n, _, rfl⟩ := List.mem_map.mp (mem_setI.mp hi)
  rfl
theorem setI_asc (xs : List Int) : (setI xs).Pairwise (· < ·) := by
  have h1 := setI_sorted xs
  have h2 := nodup_setI xs
  generalize setI xs = l at h1 h2
  induction l with
  | nil => exact .nil
  | cons x r ih =>
    obtain ⟨a, b⟩ := List.pairwise_cons.mp h1
    obtain ⟨c, d⟩ := List.nodup_cons.mp h2
    refine List.pairwise_cons.mpr ⟨fun y hy => ?_, ih b d⟩
    have e1 := of_decide_eq_true (a y hy)
    have e2 : x ≠ y := fun z => c (z ▸ hy)
    omega
theorem asc_oneI {l m : List Int} (hl : l.Pairwise (· < ·)) (hm : m.Pairwise (· < ·)) (h : ∀ k, k ∈ l ↔ k ∈ m) : l = m :=
  sorted_one (le := leI) (fun _ _ h1 h2 => Int.le_antisymm (of_decide_eq_true h1) (of_decide_eq_true h2))
    ((List.perm_ext_iff_of_nodup (hl.imp fun z => Int.ne_of_lt z) (hm.imp fun z => Int.ne_of_lt z)).mpr h) (hl.imp fun z => decide_eq_true (Int.le_of_lt z)) (hm.imp fun z => decide_eq_true (Int.le_of_lt z))
/-- the list is the set's, in order, just if it ascends -/
theorem setI_iff {xs : List Int} : xs = setI xs ↔ xs.Pairwise (· < ·) :=
  ⟨fun e => by rw [e]; exact setI_asc xs, fun h => asc_oneI h (setI_asc xs) fun k => mem_setI.symm⟩
theorem setN_iff {xs : List Nat} : xs.map NatD = (setN xs).map NatD ↔ xs.Pairwise (· < ·) := by
  rw [← setN_eq, dSortedSetI_nats]
  have inj : ∀ {a b : List Int}, a.map D.int = b.map D.int ↔ a = b := fun {a b} => List.map_inj_right (fun x y e => by cases e; rfl)
  rw [inj, setI_iff, List.pairwise_map]
  constructor
  · intro h; exact h.imp fun {a b} z => by omega
  · intro h; exact h.imp fun {a b} z => by omega
end SI
end DL
/-! zip of a lent list and another variable's. -/
namespace DL
open PySem PySem.Spec L2 PyProof.Rows
section
variable {K : PySem.W.Frag}
theorem itm_zip {G : Cd} {j : Nat} {p b : Addr} {ds es : List D} {ys : List V} (hb : G.b j = some p) (hE : ∀ {σ : L2.St} {H F : Hp} {ρ : SL}, Rep K G σ H F ρ → H b = some (.lst ys) ∧ DenL K F ys es) : ItM K G (Held j ds) (Itz K p b) (zipD ds es) := by
  have hH : ∀ {σ : L2.St} {H F : Hp} {ρ : SL}, Rep K G σ H F ρ → Held j ds ρ → ∃ xs, H p = some (.lst xs) ∧ DenL K F xs ds := fun R ⟨i, e⟩ => by
    obtain ⟨q, _, ⟨xs, h1, h2⟩, _, e2⟩ := R.bw i j _ e
    rw [hb] at e2; cases e2
    exact ⟨xs, h1, h2⟩
  refine ⟨fun R m => ?_, fun i hi R m => ?_, fun {σ H F ρ} i d x H' hi R m y => ?_⟩
  · obtain ⟨xs, h1, h2⟩ := hH R m
    obtain ⟨h3, h4⟩ := hE R
    exact ⟨xs, ys, .inl (.inl h1), .inl (.inl h3), by rw [h2.length, h4.length]; unfold zipD; rw [List.length_zipWith]; omega⟩
  · obtain ⟨xs, h1, h2⟩ := hH R m
    obtain ⟨h3, h4⟩ := hE R
    unfold zipD at hi
    rw [List.length_zipWith, ← h2.length, ← h4.length] at hi
    exact ⟨xs, ys, xs[i]'(by omega), ys[i]'(by omega), .inl (.inl h1), .inl (.inl h3), List.getElem?_eq_getElem _, List.getElem?_eq_getElem _⟩
  · obtain ⟨xs, h1, h2⟩ := hH R m
    obtain ⟨h3, h4⟩ := hE R
    obtain ⟨T, z, w, rfl, nT, rfl, y1, y2⟩ := y
    obtain ⟨d1, e1, dd1⟩ := h2.get' (y1 xs (.inl (.inl h1)))
    obtain ⟨d2, e2, dd2⟩ := h4.get' (y2 ys (.inl (.inl h3)))
    unfold zipD at hi
    rw [List.getElem?_zipWith, e1, e2] at hi
    cases hi
    obtain ⟨s1, R1⟩ := R.alloc (o := .tup [z, w]) nT
    exact .inr ⟨T, _, nT, rfl, .tup upd_same (.cons (dd1.mono s1) (.cons (dd2.mono s1) .nil))⟩
end
section
variable {X : Cx}
def srcZipM (i k : Nat) : TSrcM := fun ρ Q => match ρ[i]? with
  | some (.bw j (.l ds)) => match ρ[k]? with
    | some (.sh (.lst es)) => Q (zipD ds es) (Held j ds) ρ
    | some (.ow (.l es)) => Q (zipD ds es) (Held j ds) (ρ.set k (.sh (.lst es)))
    | _ => False
  | some (.sh (.lst ds)) => match ρ[k]? with
    | some (.sh (.lst es)) => Q (zipD ds es) (fun _ => True) ρ
    | some (.ow (.l es)) => Q (zipD ds es) (fun _ => True) (ρ.set k (.sh (.lst es)))
    | _ => False
  | _ => False
theorem dim_zip {i k : Nat} {x y : Str} {px py p pos tpos : Pos} {elts : List Expr} {kk : Nat} (hg : Gl X "zip") (hm : X.mg "zip" = none) (h : PE X (.Name x px) (tVar i)) (h2 : PE X (.Name y py) (tVar k))
    (hs : starEach [.Name x px, .Name y py] X.env = (false, eval (.Name x px) X.env) :: starEach [.Name y py] X.env := by rfl) (hs2 : starEach [.Name y py] X.env = [(false, eval (.Name y py) X.env)] := by rfl)
    (hpl : (backTo pos (starEach [.Name y py] X.env)).any (·.1) = false := by rfl) :
    DIm X (.Tuple elts kk tpos) (.Call (.Name "zip" p) [.Name x px, .Name y py] [] pos) (iZip X.K (tCons (tVar i) (tCons (tVar k) tNil))) (srcZipM i k) := by
  refine ⟨pi_zip hg hm (pa_cons h (pa_cons h2 pa_nil hs2) hs) hs hpl, fun {G σ H F ρ Q Qd} R q kq => ?_⟩
  unfold srcZipM at q
  split at q
  · rename_i j ds hd
    split at q
    · rename_i es he
      obtain ⟨a, ea, ⟨xs, h1, h2⟩, _, hb⟩ := R.bw i j _ hd
      obtain ⟨v, ev, bv⟩ := R.sh k _ he
      cases bv with
      | lst c b => exact ⟨_, ea, _, ev, _, _, _, _, rfl, .inl (.inl h1), .inl (.inl (R.ext _ _ c)), kq _ _ _ _ _ _ q (Same.refl _) R fun G' e0 e => itm_zip (by rw [e]; exact hb) fun R3 => by subst e0; exact ⟨R3.ext _ _ (R3.fr0 _ _ c), b.mono R3.fr0⟩⟩
    · rename_i es he
      obtain ⟨F', v, s1, ev, bv, R1⟩ := R.freeze he
      have bv : Den X.K F' v (.lst es) := bv
      have hne : k ≠ i := fun z => by rw [z, hd] at he; cases he
      have hd1 : (ρ.set k (.sh (.lst es)))[i]? = some (.bw j (.l ds)) := by rw [List.getElem?_set_ne hne]; exact hd
      obtain ⟨a, ea, ⟨xs, h1, h2⟩, _, hb⟩ := R1.bw i j _ hd1
      cases bv with
      | lst c b => exact ⟨_, ea, _, ev, _, _, _, _, rfl, .inl (.inl h1), .inl (.inl (R1.ext _ _ c)), kq _ _ _ _ _ _ q s1 R1 fun G' e0 e => itm_zip (by rw [e]; exact hb) fun R3 => by subst e0; exact ⟨R3.ext _ _ (R3.fr0 _ _ c), b.mono R3.fr0⟩⟩
    · exact q.elim
  · rename_i ds hd
    split at q
    · rename_i es he
      obtain ⟨u, eu, bu⟩ := R.sh i _ hd
      obtain ⟨v, ev, bv⟩ := R.sh k _ he
      cases bu with
      | lst c1 b1 =>
        cases bv with
        | lst c b => exact ⟨_, eu, _, ev, _, _, _, _, rfl, .inl (.inl (R.ext _ _ c1)), .inl (.inl (R.ext _ _ c)), kq _ _ _ _ _ _ q (Same.refl _) R fun G' e0 e => (itd_zip fun R3 => by subst e0; exact ⟨⟨R3.ext _ _ (R3.fr0 _ _ c1), b1.mono R3.fr0⟩, R3.ext _ _ (R3.fr0 _ _ c), b.mono R3.fr0⟩).toM⟩
    · rename_i es he
      obtain ⟨F', v, s1, ev, bv, R1⟩ := R.freeze he
      have bv : Den X.K F' v (.lst es) := bv
      have hne : k ≠ i := fun z => by rw [z, hd] at he; cases he
      have hd1 : (ρ.set k (.sh (.lst es)))[i]? = some (.sh (.lst ds)) := by rw [List.getElem?_set_ne hne]; exact hd
      obtain ⟨u, eu, bu⟩ := R1.sh i _ hd1
      cases bu with
      | lst c1 b1 =>
        cases bv with
        | lst c b => exact ⟨_, eu, _, ev, _, _, _, _, rfl, .inl (.inl (R1.ext _ _ c1)), .inl (.inl (R1.ext _ _ c)), kq _ _ _ _ _ _ q s1 R1 fun G' e0 e => (itd_zip fun R3 => by subst e0; exact ⟨⟨R3.ext _ _ (R3.fr0 _ _ c1), b1.mono R3.fr0⟩, R3.ext _ _ (R3.fr0 _ _ c), b.mono R3.fr0⟩).toM⟩
    · exact q.elim
  · exact q.elim
end
end DL
/-! a list compared with an empty one: by lengths alone, whatever the items are. -/
namespace DL
open PySem PySem.Spec L2 PyProof.Rows
section
variable {X : Cx}
def rEqN (K : PySem.W.Frag) : R2 := fun x y H Q => ∃ a c vs, x = .ref a ∧ y = .ref c ∧ H a = some (.lst vs) ∧ H c = some (.lst []) ∧ Q (.bl (decide (vs = []))) H
def rNeN (K : PySem.W.Frag) : R2 := fun x y H Q => ∃ a c vs, x = .ref a ∧ y = .ref c ∧ H a = some (.lst vs) ∧ H c = some (.lst []) ∧ Q (.bl (!decide (vs = []))) H
theorem op_eqN (hu : X.A.units + 64 < cLine) : OpR X (compareOp .Eq) (rEqN X.K) := by
  intro pins s σ H x y v u Q I rx ry h
  obtain ⟨a, b, vs, rfl, rfl, ea, eb, q⟩ := h
  obtain rfl : v = Value.ref a := rx
  obtain rfl : u = Value.ref b := ry
  obtain ⟨_, ia, na, va, ra⟩ := (show ObjOk X.prog X.w H s.heap a (.lst vs) from I.hok a _ ea)
  obtain ⟨_, ib, nb, vb, rb⟩ := (show ObjOk X.prog X.w H s.heap b (.lst []) from I.hok b _ eb)
  have lb : ib = [] := List.length_eq_zero_iff.mp vb.length.symm
  subst lb
  by_cases e : vs = []
  · subst e
    have la : ia = [] := List.length_eq_zero_iff.mp va.length.symm
    subst la
    exact PySem.SeqAt.eq_listAt (e := fun _ => true) ⟨_, ra, rfl, _, rfl⟩ ⟨_, rb, rfl, _, rfl⟩ rfl (by omega) (fun j h1 _ => (Nat.not_lt_zero _ h1).elim) ⟨.bl _, H, I, rfl, q⟩
  · have la : ia.length ≠ 0 := fun z => e (List.length_eq_zero_iff.mp (va.length.trans z))
    rw [decide_eq_false e] at q
    exact PySem.SeqAt.eq_list_lengthsAt ⟨_, ra, rfl, _, rfl⟩ ⟨_, rb, rfl, _, rfl⟩ (by simpa using la) (by omega) ⟨.bl _, H, I, rfl, q⟩
theorem op_neN (hu : X.A.units + 64 < cLine) : OpR X (compareOp .NotEq) (rNeN X.K) := by
  intro pins s σ H x y v u Q I rx ry h
  obtain ⟨a, b, vs, rfl, rfl, ea, eb, q⟩ := h
  obtain rfl : v = Value.ref a := rx
  obtain rfl : u = Value.ref b := ry
  obtain ⟨_, ia, na, va, ra⟩ := (show ObjOk X.prog X.w H s.heap a (.lst vs) from I.hok a _ ea)
  obtain ⟨_, ib, nb, vb, rb⟩ := (show ObjOk X.prog X.w H s.heap b (.lst []) from I.hok b _ eb)
  have lb : ib = [] := List.length_eq_zero_iff.mp vb.length.symm
  subst lb
  by_cases e : vs = []
  · subst e
    have la : ia = [] := List.length_eq_zero_iff.mp va.length.symm
    subst la
    exact PySem.SeqAt.RcNeAt.lists (e := fun _ => true) ⟨_, ra, rfl, _, rfl⟩ ⟨_, rb, rfl, _, rfl⟩ rfl (by omega) (fun j h1 _ => (Nat.not_lt_zero _ h1).elim) _ _ _ _ ⟨.bl _, H, I, rfl, q⟩
  · have la : ia.length ≠ 0 := fun z => e (List.length_eq_zero_iff.mp (va.length.trans z))
    rw [decide_eq_false e] at q
    exact PySem.SeqAt.RcNeAt.lists_lengths ⟨_, ra, rfl, _, rfl⟩ ⟨_, rb, rfl, _, rfl⟩ (by simpa using la) (by omega) _ _ _ _ ⟨.bl _, H, I, rfl, q⟩
def rEqB (K : PySem.W.Frag) : R2 := fun x y H Q => rEqN K x y H Q ∨ rEqA K x y H Q
def rNeB (K : PySem.W.Frag) : R2 := fun x y H Q => rNeN K x y H Q ∨ rNeA K x y H Q
theorem op_eqB (hu : X.A.units + 64 < cLine) : OpR X (compareOp .Eq) (rEqB X.K) := (op_eqN hu).or (op_eqA hu)
theorem op_neB (hu : X.A.units + 64 < cLine) : OpR X (compareOp .NotEq) (rNeB X.K) := (op_neN hu).or (op_neA hu)
/-- == and != where the right side is an empty list: by length -/
def gEqB (f : Bool → Bool) (a b : D) (Q : Rv → Prop) : Prop := (∃ l, a = .lst l ∧ b = .lst [] ∧ Q (.v (.bl (f (decide (l = [])))))) ∨ gEq f a b Q
theorem Den.lst_inv {K : PySem.W.Frag} {F : Hp} {v : V} {l : List D} (h : Den K F v (.lst l)) : ∃ a xs, v = .ref a ∧ F a = some (.lst xs) ∧ DenL K F xs l := by
  cases h with
  | lst h1 h2 => exact ⟨_, _, rfl, h1, h2⟩
theorem den_nil {K : PySem.W.Frag} {F : Hp} {xs : List V} {l : List D} (h : DenL K F xs l) : decide (xs = []) = decide (l = []) := by
  have := h.length
  refine decide_eq_decide.mpr ⟨fun z => ?_, fun z => ?_⟩
  · subst z; exact List.length_eq_zero_iff.mp (by simpa using this.symm)
  · subst z; exact List.length_eq_zero_iff.mp (by simpa using this)
theorem sem_eqB : SemOp X.K (rEqB X.K) (gEqB id) := by
  intro G σ H F ρ x y a b Q Qd R ha hb h k
  rcases h with ⟨l, rfl, rfl, h⟩ | h
  · obtain ⟨p, xs, rfl, e1, e2⟩ := (ha.den R.ext).lst_inv
    obtain ⟨q, ys, rfl, e3, e4⟩ := (hb.den R.ext).lst_inv
    cases e4
    exact .inl ⟨p, q, xs, rfl, rfl, e1, e3, by rw [den_nil e2]; exact k _ _ _ _ h (Same.refl _) R (.bl _)⟩
  · exact .inr (sem_eq R ha hb h k)
theorem sem_neB : SemOp X.K (rNeB X.K) (gEqB not) := by
  intro G σ H F ρ x y a b Q Qd R ha hb h k
  rcases h with ⟨l, rfl, rfl, h⟩ | h
  · obtain ⟨p, xs, rfl, e1, e2⟩ := (ha.den R.ext).lst_inv
    obtain ⟨q, ys, rfl, e3, e4⟩ := (hb.den R.ext).lst_inv
    cases e4
    exact .inl ⟨p, q, xs, rfl, rfl, e1, e3, by rw [den_nil e2]; exact k _ _ _ _ h (Same.refl _) R (.bl _)⟩
  · exact .inr (sem_ne R ha hb h k)
end
end DL
/-! comprehensions over a call that may raise; such a list backward. -/
namespace DL
open PySem L2
section
variable {X : Cx} {tg : Expr}
theorem sem_lcX {elt : Expr} {ifs : List Expr} {scope : Scope} {ws : List Nat} {wi : TI} {g : TG} {tt : TT} {te : TE} {gd : TGd} {dt : TB} {de : TD}
    (hg : ∀ (s : Shared) (H : Hp) (C : Addr) (cl : List (Str × Addr)) (fp : List Addr), DG (X.blk s H scope (compEnvC scope cl C X.env) fp) tg ws g gd) (ht : ∀ (s : Shared) (H : Hp) (C : Addr) (cl : List (Str × Addr)) (fp : List Addr), DTs (X.blk s H scope (compEnvC scope cl C X.env) fp) ifs tt dt)
    (he : ∀ (s : Shared) (H : Hp) (C : Addr) (cl : List (Str × Addr)) (fp : List Addr), DE (X.blk s H scope (compEnvC scope cl C X.env) fp) elt te de) (s0 : Shared)
    {G : Cd} {σ : L2.St} {H F : Hp} {Q : VK} {Qd : Rv → SL → Prop}
    (his : ∀ {Q : It → Hp → Prop}, (∀ (its : List D) (back : SL → SL) (ρ' : SL) (J : It) (H' F' : Hp), lcL gd dt de ws (fun acc ρ2 => Qd (.fr (.l acc)) (back (wipeD ρ2 ws))) its [] (wipeD ρ' ws) → Same F F' → Rep X.K G σ H' F' ρ' → ItD X.K (G.now σ ρ' H' F') J its →
      (∀ H2 F2 ρ2 v r, Rep X.K (G.now σ ρ' H' F') σ H2 F2 ρ2 → RDen X.K (G.now σ ρ' H' F') σ ρ2 H2 F2 v r → Rep X.K G σ H2 F2 (back ρ2) ∧ RDen X.K G σ (back ρ2) H2 F2 v r) → Q J H') → wi σ H Q)
    (k : ∀ r ρ' v H' F', Qd r ρ' → Same F F' → Rep X.K G σ H' F' ρ' → RDen X.K G σ ρ' H' F' v r → Q v H') : tLc wi g tt te ws σ H Q := by
  refine his fun its back ρ' J H1 F1 qd s1 R1 IT bk D hD => ?_
  have hG := hg s0 H 0 [] []
  have hT := ht s0 H 0 [] []
  have hE := he s0 H 0 [] []
  obtain ⟨RD, rd0⟩ := R1.now.allocFr hD (o := .lst []) (c := .l []) ⟨_, upd_same, .nil⟩
  refine ⟨fun i m H => m = its.length - i ∧ i ≤ its.length ∧ ∃ F ρ acc, Rep X.K (G.now σ ρ' H1 F1) (L2.wipe σ ws) H F ρ ∧ RDen X.K (G.now σ ρ' H1 F1) (L2.wipe σ ws) ρ H F (.ref D) (.fr (.l acc)) ∧
    lcL gd dt de ws (fun acc ρ2 => Qd (.fr (.l acc)) (back (wipeD ρ2 ws))) (its.drop i) acc ρ, ⟨_, rfl, Nat.zero_le _, F1, wipeD ρ' ws, [], RD.wipe ws, rd0.wipe ws, qd⟩, ?_⟩
  rintro i m H2 ⟨rfl, hle, F2, ρ2, acc, R2, rd2, q2⟩
  by_cases hlt : i < its.length
  · refine .inr ⟨IT.go i hlt R2, fun H => ∃ F ρ acc, Rep X.K (G.now σ ρ' H1 F1) (L2.wipe σ ws) H F ρ ∧ RDen X.K (G.now σ ρ' H1 F1) (L2.wipe σ ws) ρ H F (.ref D) (.fr (.l acc)) ∧
      lcL gd dt de ws (fun acc ρ2 => Qd (.fr (.l acc)) (back (wipeD ρ2 ws))) (its.drop (i + 1)) acc ρ, fun H' h => ⟨its.length - (i + 1), by omega, rfl, hlt, h⟩, fun x H3 y => ?_⟩
    have hd := List.getElem?_eq_getElem hlt
    rw [drop_get hd] at q2
    obtain ⟨F3, s3, R3, d3, hr⟩ := IT.step hd R2 y
    have rd3 := hr _ _ rd2
    refine hG.sem R3.now d3 q2 fun ρ4 σ4 q4 R4 w4 => ⟨w4.trans (wipe_twice σ ws), ?_⟩
    refine hT.sem R4 q4 fun b ρ5 H5 F5 q5 s5 R5 => ?_
    cases b with
    | false =>
      rw [if_neg Bool.false_ne_true] at q5 ⊢
      have R6 := R3.back R5
      have rd6 := rd3.hold R3 R5
      refine ⟨F5, wipeD ρ5 ws, acc, ?_, ?_, q5⟩
      · have := R6.wipe ws; rw [w4, wipe_twice] at this; exact this
      · have := rd6.wipe ws; rw [w4, wipe_twice] at this; exact this
    | true =>
      rw [if_pos rfl] at q5 ⊢
      refine hE.sem R5 q5 fun r ρ6 v H6 F6 q6 s6 R6 rd6 => ?_
      obtain ⟨F7, s7, R7, d7⟩ := R6.share rd6
      have R8 := R3.back R7
      have rd8 := rd3.hold R3 R7
      obtain ⟨p, e, ⟨xs, e1, e2⟩, a2, a3, a4⟩ := id rd8
      cases e
      obtain ⟨R9, rd9⟩ := R8.writeFr (o := .lst (xs ++ [v])) (c' := .l (acc ++ [r.dat])) rd8 ⟨_, upd_same, e2.append (.cons d7 .nil)⟩
      refine ⟨xs, e1, by rw [e2.length]; exact q6.1, F7, wipeD ρ6 ws, acc ++ [r.dat], ?_, ?_, q6.2⟩
      · have := R9.wipe ws; rw [w4, wipe_twice] at this; exact this
      · have := rd9.wipe ws; rw [w4, wipe_twice] at this; exact this
  · have e : i = its.length := by omega
    subst e
    rw [List.drop_length] at q2
    have R4 := R2.unwipe
    have rd4 := rd2.unwipe
    obtain ⟨R5, rd5⟩ := bk _ _ _ _ _ R4 rd4
    exact .inl ⟨IT.stop R2, k _ _ _ _ _ q2 (s1.trans R2.fr0) R5 rd5⟩
def dLcX (t : WXD → TD) (gd : TGd) (dt : TB) (de : TD) (vs : List Nat) : WXD → TD := fun Wd => dLc (srcC (srcE (t Wd))) gd dt de vs
theorem dex_lc {elt iter : Expr} {ifs : List Expr} {scope : Scope} {own : List (Str × Nat)} {pos : Pos} {ti : TE} {g : TG} {tt : TT} {te : TE} {t : WXD → TD} {gd : TGd} {dt : TB} {de : TD} (hc : X.calm = true) (hN : X.N.Nodup)
    (hi : DEX X iter ti t) (ok : BlkOk X.N X.env.scope scope own)
    (hg : ∀ (s : Shared) (H : Hp) (C : Addr) (cl : List (Str × Addr)) (fp : List Addr), DG (X.blk s H scope (compEnvC scope cl C X.env) fp) tg (own.map (·.2)) g gd)
    (ht : ∀ (s : Shared) (H : Hp) (C : Addr) (cl : List (Str × Addr)) (fp : List Addr), DTs (X.blk s H scope (compEnvC scope cl C X.env) fp) ifs tt dt)
    (he : ∀ (s : Shared) (H : Hp) (C : Addr) (cl : List (Str × Addr)) (fp : List Addr), DE (X.blk s H scope (compEnvC scope cl C X.env) fp) elt te de) (hs : ∀ x, foldedSetIterable iter X.env x = pure x := by intro _; rfl) :
    DEX X (.ListComp elt [⟨tg, iter, ifs, 0⟩] scope pos) (tLc (iAny X.K ti) g tt te (own.map (·.2))) (dLcX t gd dt de (own.map (·.2))) :=
  ⟨pe_lc hc hN (pi_any hi.pe) ok (fun s H C cl fp => (hg s H C cl fp).pe) (fun s H C cl fp => (ht s H C cl fp).pe) (fun s H C cl fp => (he s H C cl fp).pe) hs, fun {G σ H F ρ Q Qd Wd} R q L kk => by
    refine sem_lcX hg ht he X.s_0 (Qd := Qd) (fun {Q2} k => ?_) kk
    refine hi.sem R q L fun r ρ' v H' F' qd s1 R1 rd => ?_
    obtain ⟨F2, s2, R2, d2⟩ := R1.share rd
    cases hd : r.dat with
    | lst l =>
      rw [hd] at d2
      simp only [hd, itsOf] at qd
      cases d2 with
      | lst a b => exact .inl ⟨_, rfl, ⟨_, .inl (.inl (R2.ext _ _ a))⟩, k l id _ _ _ _ qd (s1.trans s2) R2 (itd_list fun R3 => ⟨R3.ext _ _ (R3.fr0 _ _ a), b.mono R3.fr0⟩) fun H2 F2 ρ2 v r R3 rd3 => ⟨R2.back R3, rd3.back R2⟩⟩
    | tup l =>
      rw [hd] at d2
      simp only [hd, itsOf] at qd
      cases d2 with
      | tup a b => exact .inr (.inl ⟨_, rfl, ⟨_, .inl (.inl (R2.ext _ _ a))⟩, k l id _ _ _ _ qd (s1.trans s2) R2 (itd_tup a b) fun H2 F2 ρ2 v r R3 rd3 => ⟨R2.back R3, rd3.back R2⟩⟩)
    | str z =>
      rw [hd] at d2
      simp only [hd, itsOf] at qd
      cases d2 with
      | str _ a => exact .inr (.inr ⟨z, rfl, k _ id _ _ _ _ qd (s1.trans s2) R2 (itd_str a) fun H2 F2 ρ2 v r R3 rd3 => ⟨R2.back R3, rd3.back R2⟩⟩)
    | _ => simp only [hd, itsOf] at qd⟩
theorem dex_lcF {elt iter : Expr} {ifs : List Expr} {scope : Scope} {own : List (Str × Nat)} {pos : Pos} {ti : TE} {g : Bk TG} {tt : Bk TT} {te : Bk TE} {t : WXD → TD} {gd : TGd} {dt : TB} {de : TD} (hc : X.calm = true) (hN : X.N.Nodup)
    (hi : DEX X iter ti t) (ok : BlkOk X.N X.env.scope scope own)
    (hg : ∀ (s : Shared) (H : Hp) (C : Addr) (cl : List (Str × Addr)) (fp : List Addr), DG (X.blk s H scope (compEnvC scope cl C X.env) fp) tg (own.map (·.2)) (g s H C cl fp) gd)
    (ht : ∀ (s : Shared) (H : Hp) (C : Addr) (cl : List (Str × Addr)) (fp : List Addr), DTs (X.blk s H scope (compEnvC scope cl C X.env) fp) ifs (tt s H C cl fp) dt)
    (he : ∀ (s : Shared) (H : Hp) (C : Addr) (cl : List (Str × Addr)) (fp : List Addr), DE (X.blk s H scope (compEnvC scope cl C X.env) fp) elt (te s H C cl fp) de)
    (eg : ∀ s H C cl fp, g s H C cl fp = g X.s_0 H 0 [] [] := by intros; rfl) (et : ∀ s H C cl fp, tt s H C cl fp = tt X.s_0 H 0 [] [] := by intros; rfl) (ee : ∀ s H C cl fp, te s H C cl fp = te X.s_0 H 0 [] [] := by intros; rfl)
    (eg' : ∀ H, g X.s_0 H 0 [] [] = g X.s_0 (fun _ => none) 0 [] [] := by intros; rfl) (et' : ∀ H, tt X.s_0 H 0 [] [] = tt X.s_0 (fun _ => none) 0 [] [] := by intros; rfl) (ee' : ∀ H, te X.s_0 H 0 [] [] = te X.s_0 (fun _ => none) 0 [] [] := by intros; rfl)
    (hs : ∀ x, foldedSetIterable iter X.env x = pure x := by intro _; rfl) :
    DEX X (.ListComp elt [⟨tg, iter, ifs, 0⟩] scope pos) (tLc (iAny X.K ti) (g X.s_0 (fun _ => none) 0 [] []) (tt X.s_0 (fun _ => none) 0 [] []) (te X.s_0 (fun _ => none) 0 [] []) (own.map (·.2))) (dLcX t gd dt de (own.map (·.2))) :=
  dex_lc hc hN hi ok (fun s H C cl fp => by rw [← eg' H, ← eg s H C cl fp]; exact hg s H C cl fp) (fun s H C cl fp => by rw [← et' H, ← et s H C cl fp]; exact ht s H C cl fp) (fun s H C cl fp => by rw [← ee' H, ← ee s H C cl fp]; exact he s H C cl fp) hs
/-- a call that does not raise here -/
theorem de_ofX {e : Expr} {te : TE} {t : WXD → TD} (h : DEX X e te t) : DE X e te (t fun _ _ _ => False) :=
  ⟨h.pe, fun R q k => h.sem R q (fun _ _ _ _ _ _ _ z => z.elim) k⟩
/-- such a list backward -/
def dRevX (t : WXD → TD) : WXD → TD := fun Wd ρ Q => t Wd ρ fun r ρ1 => match r.dat with
  | .lst l => Q (.fr (.l l.reverse)) ρ1
  | _ => False
theorem dex_rev {e : Expr} {te : TE} {t : WXD → TD} {k : Nat} {p1 p2 p3 pos : Pos} (he : DEX X e te t) : DEX X (.Subscript e (.Slice none none (some (.UnaryOp .USub (.Constant (.int 1) k p1) p2)) p3) pos) (tRevL X.K te) (dRevX t) := by
  refine ⟨pe_revL he.pe, fun {G σ H F ρ Q Qd Wd} R q L kk => he.sem R q L fun r ρ1 v H1 F1 q1 s1 R1 rd => ?_⟩
  obtain ⟨F2, s2, R2, d2⟩ := R1.share rd
  split at q1
  · rename_i l e1
    rw [e1] at d2
    cases d2 with
    | lst a b =>
      refine ⟨_, _, rfl, .inl (.inl (R2.ext _ _ a)), fun p hp => ?_⟩
      obtain ⟨R3, rd3⟩ := R2.allocFr hp (o := .lst _) (c := .l l.reverse) ⟨_, upd_same, b.rev⟩
      exact kk _ _ _ _ _ q1 (s1.trans s2) R3 rd3
  · exact q1.elim
end
end DL
/-! x == y, both of a class with its own __eq__. -/
namespace DL
open PySem L2
section
variable {X : Cx}
def rEqO (K : PySem.W.Frag) (C : Addr) (sp : Sp) (E : XK) : R2 := fun x y H Q => ∃ a dx fs b dy gs, x = .ref a ∧ y = .ref b ∧ H a = some (.ins C dx fs) ∧ H b = some (.ins C dy gs) ∧ sp [.ref a, .ref b] H (fun v H' => ∃ z, v = .bl z ∧ Q v H') E
theorem op_eqO {CX : CXT} {k : Nat} {C g : Addr} {fd : FuncData} {ps : List Str} {sp : Sp} {E : XK} (m : Meth X.K C "__eq__" g) (Fk : FnG X.prog X.w X.K X.mg X.base CX k g fd ps sp) (hgd : X.A.guards = some []) (hr : Room k X.A)
    (hb : Binds X.K fd ps []) (hx : Passes CX X.nox E) : OpR X (compareOp .Eq) (rEqO X.K C sp E) := by
  intro pins s σ H x y v u Q I rx ry h
  obtain ⟨a, dx, fs, b, dy, gs, rfl, rfl, ea, eb, q⟩ := h
  obtain rfl : v = Value.ref a := rx
  obtain rfl : u = Value.ref b := ry
  obtain ⟨mA, J, _⟩ := ins_get I.hok ea
  obtain ⟨mB, J', _⟩ := ins_get I.hok eb
  obtain ⟨od, J, _⟩ := J.look
  obtain ⟨od', J', _⟩ := J'.look
  obtain ⟨m0, hF⟩ := I.fr
  show wpAny (model X.prog X.w) X.A (richCompare .Eq (.ref a) (.ref b)) (EP X pins σ Q) X.xe s
  refine PySem.W.cmp_K (op := .Eq) (tb := .ref C) hr.units0 hF I.ok.mod.kin J J'.type (by simp [PySem.W.notFirst]) m.at_ m.fn ?_
  have hl := Fk.len _ _ _ _ q
  have bt := hb s [.ref a, .ref b] I.kIn (by simpa using hl)
  rw [List.append_nil] at bt
  refine wpAny_call (codeAny_mono (Fk.run X.A X.stack s H ⟨[.ref a, .ref b], []⟩ [.ref a, .ref b] [.ref a, .ref b] _ E hgd hr I.env0 bt (.cons rfl (.cons rfl .nil)) q) fun r s' hq => ?_)
  cases r with
  | error er => exact False.elim (hx pins σ H s er s' (I.wish _) hq)
  | ok fl =>
    cases fl with
    | ret u =>
      obtain ⟨v, H', I3, rv, z, rfl, q3⟩ := I.after hq
      obtain rfl : u = Value.bool z := rv
      exact ⟨.bl z, H', I3, rfl, q3⟩
    | next => exact False.elim hq
    | brk => exact False.elim hq
    | cont => exact False.elim hq
def gEqO (C : Addr) (sp : SpD) : D → D → (Rv → Prop) → Prop := fun d e Q => isOfC C d ∧ isOfC C e ∧ sp [.sh d, .sh e] fun r _ => ∃ a, r = .v a ∧ D.atom a = true ∧ ∃ z, Rv.v a = .v (.bl z) ∧ Q (.v a)
theorem sem_eqO {C : Addr} {sp : SpD} {E : XK} : SemOp X.K (rEqO X.K C (lift X.K sp) E) (gEqO C sp) := by
  intro G σ H F ρ x y a b Q Qd R ha hb h k
  obtain ⟨h1, h2, h⟩ := h
  obtain ⟨p, dx, fs, rfl, e1⟩ := obj_at R.ext ha h1
  obtain ⟨q, dy, gs, rfl, e2⟩ := obj_at R.ext hb h2
  refine ⟨p, dx, fs, q, dy, gs, rfl, rfl, e1, e2, ?_⟩
  have e : (fun (r : Rv) (_ : SL) => ∃ a, r = .v a ∧ D.atom a = true ∧ ∃ z, Rv.v a = .v (.bl z) ∧ Qd (.v a)) = fun r _ => ∃ a, r = .v a ∧ D.atom a = true ∧ (ρ = ρ ∧ ∃ z, Rv.v a = .v (.bl z) ∧ Qd (.v a)) := by
    funext r o
    simp only [true_and]
  rw [e] at h
  exact sem_pure (ds := [a, b]) (Qd := fun r ρ' => ρ' = ρ ∧ ∃ z, r = .v (.bl z) ∧ Qd r) R (.cons (ha.den R.ext) (.cons (hb.den R.ext) .nil)) h fun r ρ' v H' F' ⟨e2, y, e, q⟩ s1 R1 rd => by
    subst e e2
    have rd : Den X.K F' v (.bl y) := rd
    cases rd with
    | bl _ => exact ⟨y, rfl, k _ _ _ _ q s1 R1 (.bl _)⟩
/-- isinstance(e, C), e of the class itself -/
def gIsO (C : Addr) : D → (Rv → Prop) → Prop := fun d Q => isOfC C d ∧ Q (.v (.bl true))
theorem de_isO {C : Addr} {y : Str} {e : Expr} {te : TE} {t : TQ} {p p2 pos : Pos} (c : C8.InsC X.K C) (he : DO X e te t) (hg : Gl X "isinstance") (hm : X.mg "isinstance" = none) (hgy : Gl X y) (hmy : X.mg y = some (.ref C)) (hdy : (y == ("__debug__" : Str)) = false := by decide)
    (hs2 : starEach [.Name y p2] X.env = (false, eval (.Name y p2) X.env) :: starEach [] X.env := by rfl)
    (hs : starEach [e, .Name y p2] X.env = (false, eval e X.env) :: starEach [.Name y p2] X.env := by rfl) (hpl : (backTo pos (starEach [.Name y p2] X.env)).any (·.1) = false := by rfl) :
    DE X (.Call (.Name "isinstance" p) [e, .Name y p2] [] pos) (tCB (fun xs H Q => ∃ a dx fs, xs = [.ref a, .ref C] ∧ H a = some (.ins C dx fs) ∧ Q (.bl true) H) (tCons te (tCons (tC (.ref C)) tNil))) (dUn (gIsO C) t) := by
  refine ⟨pe_callB (C8.call_isC c) hg hm PyProof.Rows.boot_isinstance (pa_cons he.pe (pa_cons (pe_glob hgy hmy rfl hdy) pa_nil hs2) hs) (by decide) (by decide) hs hpl, fun {G σ H F ρ Q Qd} R q k => ?_⟩
  refine he.sem R q fun o ρ1 v H1 F1 q1 s1 R1 d1 => ?_
  cases ea : o.get ρ1 with
  | none => simp only [ea] at q1
  | some d =>
    simp only [ea] at q1
    obtain ⟨h1, h3⟩ := q1
    obtain ⟨a, dx, gs, rfl, e1⟩ := obj_at R1.ext (d1.pk R1 ea) h1
    exact ⟨a, dx, gs, rfl, e1, k _ _ _ _ _ h3 s1 R1 (.bl _)⟩
end
end DL
/-! repr(x) where x holds things of the pile. -/
namespace DL
open PySem L2
section
variable {X : Cx}
def dReprV (g : Nat) (t : TAs) : TD := fun ρ Q => t ρ fun os ρ1 => match getsV ρ1 g os with
  | some [d] => D.fitR 60 d = true ∧ D.small d = true ∧ D.wt d ≤ 16777216 ∧ Q (.v (.rep d)) ρ1
  | _ => False
theorem de_reprV (g : Nat) {x : Str} {p pos : Pos} {ta : TA} {e : Expr} {es : List Expr} {da : TAs} (hc : CallR X (.builtin "repr") rReprE)
    (hg : Gl X x) (hm : X.mg x = none) (hv : bootBuiltins x = some (.builtin "repr")) (ha : DA X (e :: es) ta da) (hn : x ≠ "__name__" := by decide) (hdb : (x == ("__debug__" : Str)) = false := by decide)
    (he : starEach (e :: es) X.env = (false, eval e X.env) :: starEach es X.env := by rfl) (hpl : (backTo pos (starEach es X.env)).any (·.1) = false := by rfl) : DE X (.Call (.Name x p) (e :: es) [] pos) (tCB rReprE ta) (dReprV g da) :=
  ⟨pe_callB hc hg hm hv ha.pe hn hdb he hpl, fun {G σ H F ρ Q Qd} R q k => by
    refine ha.sem R q fun os ρ1 vs H1 F1 q1 s1 R1 d1 => ?_
    cases ea : getsV ρ1 g os with
    | none => rw [ea] at q1; exact q1.elim
    | some ds =>
      have dl := OpDens.densV R1 (g := g) d1 ea
      rw [ea] at q1
      cases dl with
      | nil => exact q1.elim
      | cons x1 t1 =>
        cases t1 with
        | cons _ _ => exact q1.elim
        | nil =>
          obtain ⟨h1, h2, h3, h⟩ := q1
          obtain ⟨z1, z2, z3, z4⟩ := den_dr 60 _ _ x1 h1 h2
          exact ⟨_, D.py _, rfl, z1, z2, z3, le_size (Nat.le_trans z4 h3), k _ _ _ _ _ h s1 R1 (.rep _)⟩⟩
end
end DL
/-! xs.pop() of a list of one's own. -/
namespace DL
open PySem L2
section
variable {X : Cx}
def mPop (l : List D) (Q : List D → D → Prop) : Prop := ∃ d, l.getLast? = some d ∧ Q l.dropLast d
theorem sem_pop : SemMut0 X.K rPop mPop := by
  intro F H p xs l Q Qd e hp dl h k
  obtain ⟨d, h1, h⟩ := h
  rw [List.getLast?_eq_getElem?] at h1
  obtain ⟨v, hv, dd⟩ := dl.get h1
  have hx : xs.dropLast = xs.take (xs.length - 1) := List.dropLast_eq_take
  have hl : l.dropLast = l.take (l.length - 1) := List.dropLast_eq_take
  refine ⟨p, xs, v, rfl, rfl, hp, by rw [dl.length]; exact hv, k _ _ _ _ h ?_ dd⟩
  rw [hx, hl, dl.length]
  exact dl.take _
theorem de_pop0 {i : Nat} {x : Str} {px : Pos} {apos cpos : Pos} (ho : PE X (.Name x px) (tVar i))
    (hbase : attributeBase (.Name x px) "pop" X.env (eval (.Name x px) X.env) = eval (.Name x px) X.env := by rfl) (hline : (apos.endLine == cpos.line) = true := by rfl) :
    DE X (.Call (.Attribute (.Name x px) "pop" apos) [] [] cpos) (tBM0 X.K "list" rPop (tVar i)) (dMut0 i mPop) :=
  de_mut0 PySem.F.slot_list_pop PySem.F.type_list_pop (fun pins s σ H x xs v us Q => mt_pop pins s σ H x xs v us Q) sem_pop ho hbase hline
end
end DL
/-! repr(x) as a text (to be a key, say). -/
namespace DL
open PySem L2
section
variable {X : Cx}
def gReprS : List D → (Rv → Prop) → Prop
  | [d] => fun Q => D.fitR 60 d = true ∧ D.small d = true ∧ D.wt d ≤ 16777216 ∧ Q (.v (.str d.py.shown))
  | _ => fun _ => False
theorem sem_reprS : SemCall X.K rReprE gReprS := by
  intro G σ H F ρ xs as Q Qd R ha h k
  unfold gReprS at h
  split at h
  · rename_i d
    obtain ⟨h1, h2, h3, h⟩ := h
    obtain ⟨x, rfl, p⟩ := pks1 ha
    have dd := p.den R.ext
    obtain ⟨z1, z2, z3, z4⟩ := den_dr 60 d x dd h1 h2
    exact ⟨x, d.py, rfl, z1, z2, z3, le_size (Nat.le_trans z4 h3), k _ _ _ _ h (Same.refl _) R (.str _ (shown_ok 60 d x dd h1))⟩
  · exact h.elim
theorem gReprS_of {d : D} {Q : Rv → Prop} (h : FineE d) (q : Q (.v (.str d.py.shown))) : gReprS [d] Q := ⟨fitR_of 60 d h.1, h.2.1, h.2.2, q⟩
end
end DL
/-! a or b, where a new thing stays one's own. -/
namespace DL
open PySem PySem.Spec L2 PyProof.Rows
theorem RDen.pk {K : PySem.W.Frag} {G : Cd} {σ : L2.St} {H F : Hp} {ρ : SL} {v : V} {r : Rv} (h : RDen K G σ ρ H F v r) (np : r.np) : Pk K F H v r.dat := by
  cases r with
  | v d => exact .inl h
  | fr c =>
    obtain ⟨p, rfl, hh, _⟩ := h
    exact .inr ⟨p, c, rfl, rfl, hh⟩
  | pt d hs => exact np.elim
section
variable {X : Cx}
def dOrR (t u : TD) : TD := fun ρ Q => t ρ fun r ρ1 => r.np ∧ gTruth r.dat fun b => if b = true then Q r ρ1 else u ρ1 Q
theorem de_orR {a b : Expr} {rest : List Expr} {pos : Pos} {te tf : TE} {t u : TD} (h : DE X a te t) (h2 : DE X (.BoolOp .Or (b :: rest) pos) tf u) : DE X (.BoolOp .Or (a :: b :: rest) pos) (tOrA X.K te tf) (dOrR t u) :=
  ⟨pe_orA h.pe h2.pe, fun {G σ H F ρ Q Qd} R q k => h.sem R q fun r ρ1 v H1 F1 q1 s1 R1 rd => by
    obtain ⟨c, tc, q2⟩ := Pk.truth R1.ext (rd.pk q1.1) q1.2
    refine ⟨c, tc, ?_⟩
    cases c with
    | true => rw [if_pos rfl] at q2 ⊢; exact k _ _ _ _ _ q2 s1 R1 rd
    | false => rw [if_neg Bool.false_ne_true] at q2 ⊢; exact h2.sem R1 q2 fun b ρ' v H' F' qd s3 R3 rd => k _ _ _ _ _ qd (s1.trans s3) R3 rd⟩
theorem np_fr {c : Cn} : (Rv.fr c).np = True := rfl
theorem np_v {d : D} : (Rv.v d).np = True := rfl
end
end DL
/-! ### the text of the law -/
namespace LW
open PySem L2 DL
local macro_rules | `(tactic| simp_arith) => `(tactic| try simp only [mPop, dReprV, gIsO, gEqO, dLcX, dRevX, sSeq, sNext, sSet, sRet, sRetN, sIf, sAsg, sDrop, sPar, sBrk, sCnt, sFor, sStore, sAugI, sAug, dC, dVar, dTake, qVar, qE, aNil, aCons, dOp, dUn, dCallB, gets, Op.get, put, puts, dat_sh, dat_ow, dat_bw, dat_un, ty0, ty1, ty2, ty3, ty4, ty5, ty6, ty7, ty8, ty9, ty10, ty11, ty12, ty13, ty14, ty15, ty16, ty17, ty18, ty19, ty20, ty21, ty22, ty23, ty24, ty25, ty26, ty27, ty28, ty29, ty30, ty31, ty32, ty33, ty34, ty35, ty36, ty37, ty38, ty39, ty40, ty41, dNew, gTupOf, gStr, gAddN, gSubN, gIsi_non, gIsi_bl, gIsi_int, gIsi_str, gIsi_lst, gIsi_tup, gIsi_dct, gIsC, dMut0, mReverse, mPopAt, gEq_bl, gEq_strs, eq_self, Sl.cn, Sl.with, Cn.dat, Rv.dat, bOf, asB, bTr, gTruth, bAnd, bOr, bNot, dAnd, dOr, dNot, dIf, dChain, vNil, vCons, dTup, dLst, dDisp, psNil, psCons, keyed, D.key, gN, gT, gUL, gsNil, gsCons, rNil, rCons, srcE, srcR1, srcR2, srcR3, srcEnum, srcZip, srcC, srcV, itsOf, dLc, bYes, wipeD, agNil, agVal, agBor, mkArgs, bors, giveB, dCall, clean, dMut, slL, mAppend, mInsert, slC, cnSet, gAdd, gSubI, gDiv, gMod, gNeg, gCmpA_int, gCmpA_str, gIx, dSl, oNo, oE, gSl, dRev, dJoin, gAbs, gLen, gInt, gIsN, gList, Option.map_some, List.map_cons, List.map_nil, List.getElem?_cons_zero, List.getElem?_cons_succ, List.getElem?_nil, List.set_cons_zero, List.set_cons_succ, List.length_cons, List.length_nil, List.cons_append, List.nil_append, List.take_succ_cons, List.take_zero, List.replicate_succ, List.replicate_zero, gMin2, gMax2, gMax3, nodup1, List.nodup_nil, gEq_int, gEq_str, atI_0, atI_1, atI_2, atI_3, atI_4, atI_5, ixN_40, ixN_41, ixN_42, ixN_43, gMul, sForM, srcVM, srcEnumM, srcZipM, srcM, dLcM, dFz, res_strs, res_at, res_tup, res_int, res_str, res_bl, res_non, ress_nil, ress_cons, look_at, plSet_at, gEq_nil, List.append_nil, List.nil_append, dMethP, dMethA, dMethV, dMethB, dCallOP, dCallP, dCallV, dMake, dProp, dLstRg1, dLstRg2, dCallO, gAttr, sSetF, putFD, slC_ow, slC_bw, agAuto, dKeep, dPack, qPl, opG, qVarP, dMutE, dMutE0, dLstEn, gSb, mClear, dLock, srcK, dDc, vStar, plOf, getsV, Op.view, pileOf, res_nil, gSorted_strs, gSorted_pairs, gSorted_sets, dLk, mExtend, dIxPt, dOrV, dOrR, np_fr, np_v, sRaise, dXf, isErr, dIsX, dIsXT, dCallX, dCallXQ, dCallXVQ, dxTup, excD, oAtom, xAs, sTryAs, xOnly, sTryOnly, dCmpV, dCallQ, dCallVQ, dDispEq, dFmtR, dFmt, dJoined, dJs, gReprO, sStoreP, dSortedSet, SI.dSortedSetI, List.lookup_cons, beq_self_eq_true, dLenSet, isObjD, isOfC, Rv.fl, Rv.v.injEq, D.atom, Bool.not_true, Bool.not_false, Nat.reduceAdd, Nat.reduceSub, Nat.zero_add, Option.isSome_some, true_and, and_true, Option.some.injEq, exists_and_left, exists_eq_left, exists_eq_left', id_eq, ite_true, ite_false, reduceIte, Bool.false_eq_true, decide_eq_true_eq]) | `(tactic| simp_arith [$xs,*]) => `(tactic| try simp only [mPop, dReprV, gIsO, gEqO, dLcX, dRevX, sSeq, sNext, sSet, sRet, sRetN, sIf, sAsg, sDrop, sPar, sBrk, sCnt, sFor, sStore, sAugI, sAug, dC, dVar, dTake, qVar, qE, aNil, aCons, dOp, dUn, dCallB, gets, Op.get, put, puts, dat_sh, dat_ow, dat_bw, dat_un, ty0, ty1, ty2, ty3, ty4, ty5, ty6, ty7, ty8, ty9, ty10, ty11, ty12, ty13, ty14, ty15, ty16, ty17, ty18, ty19, ty20, ty21, ty22, ty23, ty24, ty25, ty26, ty27, ty28, ty29, ty30, ty31, ty32, ty33, ty34, ty35, ty36, ty37, ty38, ty39, ty40, ty41, dNew, gTupOf, gStr, gAddN, gSubN, gIsi_non, gIsi_bl, gIsi_int, gIsi_str, gIsi_lst, gIsi_tup, gIsi_dct, gIsC, dMut0, mReverse, mPopAt, gEq_bl, gEq_strs, eq_self, Sl.cn, Sl.with, Cn.dat, Rv.dat, bOf, asB, bTr, gTruth, bAnd, bOr, bNot, dAnd, dOr, dNot, dIf, dChain, vNil, vCons, dTup, dLst, dDisp, psNil, psCons, keyed, D.key, gN, gT, gUL, gsNil, gsCons, rNil, rCons, srcE, srcR1, srcR2, srcR3, srcEnum, srcZip, srcC, srcV, itsOf, dLc, bYes, wipeD, agNil, agVal, agBor, mkArgs, bors, giveB, dCall, clean, dMut, slL, mAppend, mInsert, slC, cnSet, gAdd, gSubI, gDiv, gMod, gNeg, gCmpA_int, gCmpA_str, gIx, dSl, oNo, oE, gSl, dRev, dJoin, gAbs, gLen, gInt, gIsN, gList, Option.map_some, List.map_cons, List.map_nil, List.getElem?_cons_zero, List.getElem?_cons_succ, List.getElem?_nil, List.set_cons_zero, List.set_cons_succ, List.length_cons, List.length_nil, List.cons_append, List.nil_append, List.take_succ_cons, List.take_zero, List.replicate_succ, List.replicate_zero, gMin2, gMax2, gMax3, nodup1, List.nodup_nil, gEq_int, gEq_str, atI_0, atI_1, atI_2, atI_3, atI_4, atI_5, ixN_40, ixN_41, ixN_42, ixN_43, gMul, sForM, srcVM, srcEnumM, srcZipM, srcM, dLcM, dFz, res_strs, res_at, res_tup, res_int, res_str, res_bl, res_non, ress_nil, ress_cons, look_at, plSet_at, gEq_nil, List.append_nil, List.nil_append, dMethP, dMethA, dMethV, dMethB, dCallOP, dCallP, dCallV, dMake, dProp, dLstRg1, dLstRg2, dCallO, gAttr, sSetF, putFD, slC_ow, slC_bw, agAuto, dKeep, dPack, qPl, opG, qVarP, dMutE, dMutE0, dLstEn, gSb, mClear, dLock, srcK, dDc, vStar, plOf, getsV, Op.view, pileOf, res_nil, gSorted_strs, gSorted_pairs, gSorted_sets, dLk, mExtend, dIxPt, dOrV, dOrR, np_fr, np_v, sRaise, dXf, isErr, dIsX, dIsXT, dCallX, dCallXQ, dCallXVQ, dxTup, excD, oAtom, xAs, sTryAs, xOnly, sTryOnly, dCmpV, dCallQ, dCallVQ, dDispEq, dFmtR, dFmt, dJoined, dJs, gReprO, sStoreP, dSortedSet, SI.dSortedSetI, List.lookup_cons, beq_self_eq_true, dLenSet, isObjD, isOfC, Rv.fl, Rv.v.injEq, D.atom, Bool.not_true, Bool.not_false, Nat.reduceAdd, Nat.reduceSub, Nat.zero_add, Option.isSome_some, true_and, and_true, Option.some.injEq, exists_and_left, exists_eq_left, exists_eq_left', id_eq, ite_true, ite_false, reduceIte, Bool.false_eq_true, decide_eq_true_eq, $xs,*])
def topS (i : Nat) : Stmt := PySem.Challenge.pw_suitedpairs_k11_kinds_known.main.body.getD i (.Pass ⟨0, 0, 0, 0⟩)
abbrev s__law_bag : Stmt := topS 7
theorem sc__law_bag : FnScope ["_law_script", "_law_cell"] ["_law_script"] (defScope s__law_bag) := ⟨rfl, rfl, rfl, by decide +kernel, rfl, by decide +kernel, by decide +kernel⟩
abbrev s__law_take : Stmt := topS 8
theorem sc__law_take : FnScope ["_law_bag_here", "_law_many", "_law_cell", "_law_value", "_law_begin", "_law_second"] ["_law_bag_here", "_law_many"] (defScope s__law_take) := ⟨rfl, rfl, rfl, by decide +kernel, rfl, by decide +kernel, by decide +kernel⟩
abbrev s__law_other : Stmt := topS 10
theorem sc__law_other : FnScope ["_law_bag_here", "_law_great", "_law_some"] ["_law_bag_here"] (defScope s__law_other) := ⟨rfl, rfl, rfl, by decide +kernel, rfl, by decide +kernel, by decide +kernel⟩
abbrev s__law_word : Stmt := topS 9
theorem sc__law_word : FnScope ["_law_bag_here", "_law_letters", "_law_text", "_law_signs", "_law_at", "_law_sign", "_law_k"] ["_law_bag_here"] (defScope s__law_word) := ⟨rfl, rfl, rfl, by decide +kernel, rfl, by decide +kernel, by decide +kernel⟩
abbrev s__law_is_kind : Stmt := topS 11
theorem sc__law_is_kind : FnScope ["_law_thing", "_law_sign"] ["_law_thing"] (defScope s__law_is_kind) := ⟨rfl, rfl, rfl, by decide +kernel, rfl, by decide +kernel, by decide +kernel⟩
abbrev s_is_kind : Stmt := topS 4
theorem sc_is_kind : FnScope ["thing", "letter"] ["thing"] (defScope s_is_kind) := ⟨rfl, rfl, rfl, by decide +kernel, rfl, by decide +kernel, by decide +kernel⟩
abbrev s_are_kinds : Stmt := topS 5
theorem sc_are_kinds : FnScope ["thing", "item"] ["thing"] (defScope s_are_kinds) := ⟨rfl, rfl, rfl, by decide +kernel, rfl, by decide +kernel, by decide +kernel⟩
abbrev s_is_integer : Stmt := topS 3
theorem sc_is_integer : FnScope ["thing"] ["thing"] (defScope s_is_integer) := ⟨rfl, rfl, rfl, by decide +kernel, rfl, by decide +kernel, by decide +kernel⟩
abbrev s__law_right : Stmt := topS 12
theorem sc__law_right : FnScope ["_law_thing", "_law_shown", "_law_due", "_law_found", "_law_item"] ["_law_thing"] (defScope s__law_right) := ⟨rfl, rfl, rfl, by decide +kernel, rfl, by decide +kernel, by decide +kernel⟩
abbrev s_law : Stmt := topS 13
theorem sc_law : FnScope ["_law_script", "_law_bag_here", "_law_turn", "_law_words", "_law_at", "_law_odd", "_law_some", "_law_thing", "_law_k"] ["_law_script"] (defScope s_law) := ⟨rfl, rfl, rfl, by decide +kernel, rfl, by decide +kernel, by decide +kernel⟩
section
variable {P : Program} {w : World} {K : PySem.W.Frag} {mg : Str → Option Value} {base : Heap}
/-- the law's bag: n takes may still come -/
def Bag (n : Nat) (c : Cn) : Prop := ∃ (a b : Int) (k : Nat) (cells : List Int), c = .l [.int a, .int b, .int k, .lst (cells.map D.int)] ∧ 0 ≤ a ∧ 0 ≤ b ∧ b < 2147483647 ∧ k + n ≤ 1000000000 ∧ ∀ x ∈ cells, 0 ≤ x
theorem Bag.le {n m : Nat} {c : Cn} (h : Bag n c) (e : m ≤ n) : Bag m c := by
  obtain ⟨a, b, k, cells, h1, h2, h3, h4, h5, h6⟩ := h
  exact ⟨a, b, k, cells, h1, h2, h3, h4, by omega, h6⟩
def sp__law_bag : SpD := fun as Q => ∃ ns : List Int, as = [.sh (.scr ns)] ∧ ns.length ≤ 63 ∧ ∀ c, Bag 1000000000 c → Q (.fr c) [.un]
theorem len__law_bag {as : SL} {Q : Rv → SL → Prop} (h : sp__law_bag as Q) : as.length = 1 := by
  obtain ⟨_, rfl, _⟩ := h
  rfl
theorem ok__law_bag {f : Addr} {fd : FuncData} (Fn : Fun K "_law_bag" "_law_bag" s__law_bag f fd) (z_abs : mg "abs" = none) : FnG P w K mg base CX0 1 f fd ["_law_script"] (lift K sp__law_bag) := by
  have nd := sc__law_bag.nd
  refine fnD Fn sc__law_bag (fun as Q h => ?len) (fun cdv A outer s H hgd hr => ⟨_, _,
    (dss_one (ds_ret (de_lst (dv_cons de_int (dv_cons de_int (dv_cons de_int (dv_cons (de_lcF rfl nd (dic_of (di_e (de_slice (do_var (pv 0)) dop_none (dop_some de_int)))) (blkOk_by (own := [("_law_cell", 1)]) (N := ["_law_script", "_law_cell"]) (sc := defScope s__law_bag) (by decide +kernel)) (fun _ _ _ _ _ => (dg_name (i := 1) nd rfl (.inl rfl))) (fun _ _ _ _ _ => dts_nil) (fun _ _ _ _ _ => (de_callB call_abs sem_abs (by rfl) z_abs (by decide +kernel) (da_cons (do_var (pv 1)) da_nil)))) dv_nil))))))), fun as Q h => ?_⟩)
  case len => exact len__law_bag h
  · obtain ⟨ns, rfl, hl, h⟩ := h
    simp_arith
    have hc := cut_le ns none (some 63)
    refine lcL_on D.int (fun p r acc ρ => ρ = [Sl.sh (D.scr ns), Sl.un] ∧ ∃ ds : List Int, acc = ds.map D.int ∧ ds.length = p.length ∧ ∀ x ∈ ds, 0 ≤ x) ⟨rfl, [], rfl, rfl, fun x hx => by cases hx⟩ ?_ ?_
    · rintro acc ρ ⟨rfl, ds, rfl, hl2, hp⟩
      exact ⟨le_size (by decide), h _ ⟨0, 1234567891, 0, ds, rfl, by decide, by decide, by decide, by decide, hp⟩⟩
    · rintro p x r acc ρ N e hN ⟨rfl, ds, rfl, hl2, hp⟩
      simp_arith
      have := congrArg List.length e
      rw [List.length_append, List.length_cons] at this
      refine ⟨lt_size (by rw [List.length_map]; omega), hN _ _ ⟨rfl, ds ++ [if x < 0 then -x else x], by simp, by simp [hl2], fun y hy => ?_⟩⟩
      rcases List.mem_append.mp hy with z | z
      · exact hp y z
      · rw [List.mem_singleton.mp z]
        split <;> omega
def sp__law_take : SpD := fun as Q => ∃ (n : Nat) (c : Cn) (m : Int), as = [.bw 0 c, .sh (.int m)] ∧ Bag (n + 1) c ∧ 0 < m ∧ m < 2 ^ 200 ∧ ∀ v c', Bag n c' → 0 ≤ v → v < m → Q (.v (.int v)) [.bw 0 c', .un]
theorem len__law_take {as : SL} {Q : Rv → SL → Prop} (h : sp__law_take as Q) : as.length = 2 := by
  obtain ⟨_, _, _, rfl, _⟩ := h
  rfl
theorem ok__law_take {f : Addr} {fd : FuncData} (Fn : Fun K "_law_take" "_law_take" s__law_take f fd) (z_len : mg "len" = none) : FnG P w K mg base CX0 1 f fd ["_law_bag_here", "_law_many"] (lift K sp__law_take) := by
  have nd := sc__law_take.nd
  refine fnD Fn sc__law_take (fun as Q h => ?len) (fun cdv A outer s H hgd hr => ⟨_, _,
    (dss_cons (ds_if (dt_cmp (op_eqA (hu64 hr)) sem_eq (do_e (de_ix (hu1 hr) (do_var (pv 0)) (do_e de_int))) (do_e de_int) (nomark _)) (dss_cons (ds_set (i := 2) nd rfl (.inl rfl) de_int)
      (dss_cons (ds_if (dt_cmp op_ltA sem_ltA (do_e (de_ix (hu1 hr) (do_var (pv 0)) (do_e de_int))) (do_e (de_callB call_lenA sem_len (by rfl) z_len (by decide +kernel) (da_cons (do_e (de_ix (hu1 hr) (do_var (pv 0)) (do_e de_int))) da_nil))) (nomark _)) (dss_one (ds_set (i := 2) nd rfl (.inl rfl) (de_ix (hu1 hr) (do_e (de_ix (hu1 hr) (do_var (pv 0)) (do_e de_int))) (do_e (de_ix (hu1 hr) (do_var (pv 0)) (do_e de_int)))))) dss_nil)
      (dss_cons (ds_augI (hu1 hr) (pv 0) (do_e de_int) de_int ip_add)
      (dss_cons (ds_if (dt_cmp op_geA sem_geA (do_var (pv 2)) (do_e de_int) (nomark _)) (dss_one (ds_store (hu1 hr) (pv 0) (do_e de_int) (de_var (pv 2)) (pg_sub (pv 0) (do_e de_int).pe (set_any (hu1 hr))))) dss_nil)
      (dss_one (ds_store (hu1 hr) (pv 0) (do_e de_int) (de_op op_mod sem_mod (do_e (de_op op_addA sem_addA (do_e (de_op op_addA sem_addA (do_e (de_op op_mulA sem_mulA (do_e (de_ix (hu1 hr) (do_var (pv 0)) (do_e de_int))) (do_e de_int))) (do_e (de_op op_mod sem_mod (do_var (pv 2)) (do_e de_int))))) (do_e (de_op op_mulA sem_mulA (do_e de_int) (do_e (de_ix (hu1 hr) (do_var (pv 0)) (do_e de_int))))))) (do_e de_int)) (pg_sub (pv 0) (do_e de_int).pe (set_any (hu1 hr))))))))) dss_nil)
      (dss_cons (ds_if (dt_cmp op_gtA sem_gtA (do_e (de_ix (hu1 hr) (do_var (pv 0)) (do_e de_int))) (do_e de_int) (nomark _)) (dss_cons (ds_set (i := 3) nd rfl (.inl rfl) (de_op op_mod sem_mod (do_e (de_ix (hu1 hr) (do_var (pv 0)) (do_e de_int))) (do_var (pv 1))))
      (dss_cons (ds_store (hu1 hr) (pv 0) (do_e de_int) (de_op op_fdivW sem_div (do_e (de_ix (hu1 hr) (do_var (pv 0)) (do_e de_int))) (do_var (pv 1))) (pg_sub (pv 0) (do_e de_int).pe (set_any (hu1 hr))))
      (dss_one (ds_ret (de_take (pv 3)))))) dss_nil)
      (dss_cons (ds_set (i := 4) nd rfl (.inl rfl) (de_op op_mod sem_mod (do_e (de_op op_mulA sem_mulA (do_e (de_op op_addA sem_addA (do_e (de_ix (hu1 hr) (do_var (pv 0)) (do_e de_int))) (do_e de_int))) (do_e de_int))) (do_e de_int)))
      (dss_cons (ds_set (i := 5) nd rfl (.inl rfl) (de_op op_mod sem_mod (do_e (de_op op_mulA sem_mulA (do_e (de_op op_mod sem_mod (do_e (de_op op_mulA sem_mulA (do_var (pv 4)) (do_var (pv 4)))) (do_e de_int))) (do_e de_int))) (do_e de_int)))
      (dss_cons (ds_if (dt_cmp op_gtA sem_gtA (do_var (pv 1)) (do_e de_int) (nomark _)) (dss_one (ds_ret (de_op op_mod sem_mod (do_e (de_op op_addA sem_addA (do_e (de_op op_mulA sem_mulA (do_var (pv 5)) (do_e de_int))) (do_var (pv 4)))) (do_var (pv 1))))) dss_nil)
      (dss_one (ds_ret (de_op op_mod sem_mod (do_e (de_op op_fdivW sem_div (do_var (pv 5)) (do_e de_int))) (do_var (pv 1)))))))))), fun as Q h => ?_⟩)
  case len => exact len__law_take h
  · obtain ⟨n, c, m, rfl, ⟨a, b, k, cells, rfl, ha, hb, hb2, hk, hc⟩, hm, hm2, h⟩ := h
    simp only [List.length_cons, List.length_nil, Nat.reduceAdd, Nat.reduceSub, List.replicate_succ, List.replicate_zero, List.cons_append, List.nil_append]
    refine sSeq_cut (fun ρ' => ∃ (a b : Int) (k : Nat) (s : Sl), ρ' = [.bw 0 (.l [.int a, .int b, .int k, .lst (cells.map D.int)]), .sh (.int m), s, .un, .un, .un] ∧ 0 ≤ a ∧ 0 ≤ b ∧ b < 2147483647 ∧ k + n ≤ 1000000000) (fun N hN => ?_) ?_
    · refine sIf_go fun T hT hF => ?_
      simp_arith
      by_cases h0 : a = 0
      · rw [decide_eq_true h0]
        refine hT _ ?_
        refine sSeq_go fun N2 h2 => ?_
        simp_arith
        refine h2 _ ?_
        refine sSeq_cut (fun ρ' => ∃ x : Int, 0 ≤ x ∧ ρ' = [.bw 0 (.l [.int a, .int b, .int k, .lst (cells.map D.int)]), .sh (.int m), .sh (.int x), .un, .un, .un]) (fun N3 h3 => ?_) ?_
        · refine sIf_go fun T hT hF => ?_
          simp_arith [List.length_map]
          by_cases h1 : (k : Int) < cells.length
          · rw [decide_eq_true h1]
            refine hT _ ?_
            simp_arith
            have hkl : k < cells.length := by omega
            refine ⟨_, atI_int (x := D.int cells[k]) (by omega) (by rw [Int.toNat_natCast, List.getElem?_map, List.getElem?_eq_getElem hkl]; rfl), h3 _ ⟨_, hc _ (List.getElem_mem hkl), rfl⟩⟩
          · rw [decide_eq_false h1]
            refine hF _ ?_
            simp_arith
            exact h3 _ ⟨0, by decide, rfl⟩
        · rintro ρ' ⟨x, hx, rfl⟩
          refine sSeq_go fun N4 h4 => ?_
          simp_arith
          refine h4 _ ?_
          refine sSeq_cut (fun ρ' => ∃ a : Int, 0 ≤ a ∧ ρ' = [.bw 0 (.l [.int a, .int b, .int (k + 1), .lst (cells.map D.int)]), .sh (.int m), .sh (.int x), .un, .un, .un]) (fun N5 h5 => ?_) ?_
          · refine sIf_go fun T hT hF => ?_
            simp_arith
            by_cases h1 : (1000000000000000000 : Int) ≤ x
            · rw [decide_eq_true h1]
              refine hT _ ?_
              simp_arith
              exact h5 _ ⟨x, hx, rfl⟩
            · rw [decide_eq_false h1]
              refine hF _ ?_
              simp_arith
              exact h5 _ ⟨a, ha, rfl⟩
          · rintro ρ' ⟨a', ha', rfl⟩
            simp_arith
            refine ⟨cMul_of (by omega) (by decide), by decide, cMul_of (by decide) (by omega), by decide, hN _ ⟨a', _, k + 1, _, rfl, ha', Int.emod_nonneg _ (by decide), Int.emod_lt_of_pos _ (by decide), by omega⟩⟩
      · rw [decide_eq_false h0]
        refine hF _ ?_
        simp_arith
        exact hN _ ⟨a, b, k, _, rfl, ha, hb, hb2, by omega⟩
    · rintro ρ' ⟨a, b, k, s, rfl, ha, hb, hb2, hk⟩
      refine sSeq_cut (fun ρ' => ρ' = [.bw 0 (.l [.int a, .int b, .int k, .lst (cells.map D.int)]), .sh (.int m), s, .un, .un, .un]) (fun N hN => ?_) ?_
      · refine sIf_go fun T hT hF => ?_
        simp_arith
        by_cases h1 : (0 : Int) < a
        · rw [decide_eq_true h1]
          refine hT _ ?_
          simp_arith
          refine ⟨hm, cDiv_of hm (by omega), ?_⟩
          exact h _ _ ⟨_, b, k, cells, rfl, Int.ediv_nonneg ha (by omega), hb, hb2, hk, hc⟩ (Int.emod_nonneg _ (by omega)) (Int.emod_lt_of_pos _ hm)
        · rw [decide_eq_false h1]
          refine hF _ ?_
          simp_arith
          exact hN _ rfl
      · rintro ρ' rfl
        have hB : Bag n (.l [.int a, .int b, .int k, .lst (cells.map D.int)]) := ⟨a, b, k, cells, rfl, ha, hb, hb2, hk, hc⟩
        refine sSeq_go fun N h2 => ?_
        simp_arith
        refine ⟨cMul_of (by omega) (by decide), by decide, h2 _ ?_⟩
        have g1 := Int.emod_nonneg ((b + 1) * 39373) (b := 1000000007) (by decide)
        have g2 := Int.emod_lt_of_pos ((b + 1) * 39373) (b := 1000000007) (by decide)
        generalize (b + 1) * 39373 % 1000000007 = z at g1 g2 ⊢
        refine sSeq_go fun N h2 => ?_
        simp_arith
        have g3 := Int.emod_nonneg (z * z) (b := 998244353) (by decide)
        have g4 := Int.emod_lt_of_pos (z * z) (b := 998244353) (by decide)
        refine ⟨cMul_of (by omega) (by omega), by decide, cMul_of (by omega) (by decide), by decide, h2 _ ?_⟩
        have g5 := Int.emod_nonneg (z * z % 998244353 * 30011) (b := 998244353) (by decide)
        have g6 := Int.emod_lt_of_pos (z * z % 998244353 * 30011) (b := 998244353) (by decide)
        generalize z * z % 998244353 * 30011 % 998244353 = y at g5 g6 ⊢
        refine sSeq_go fun N h2 => ?_
        refine sIf_go fun T hT hF => ?_
        simp_arith
        by_cases h1 : (1000000 : Int) < m
        · rw [decide_eq_true h1]
          refine hT _ ?_
          simp_arith
          exact ⟨cMul_of (by omega) (by decide), hm, h _ _ hB (Int.emod_nonneg _ (by omega)) (Int.emod_lt_of_pos _ hm)⟩
        · rw [decide_eq_false h1]
          refine hF _ ?_
          simp_arith
          refine h2 _ ?_
          simp_arith
          exact ⟨cDiv_of (by decide) (by decide), hm, h _ _ hB (Int.emod_nonneg _ (by omega)) (Int.emod_lt_of_pos _ hm)⟩
/-! ### relations -/
def IsKind (x : Str) : Prop := 1 ≤ x.length ∧ x.length ≤ 8 ∧ ∀ c ∈ x.cps.toList, 97 ≤ c ∧ c ≤ 122
def inOrd (p : Str × Str) : Str × Str := if leS p.1 p.2 = true then p else (p.2, p.1)
structure Rel (names : List Str) (pairs : List (Str × Str)) : Prop where
  ne : 0 < names.length
  le : names.length ≤ 8
  nd : names.Nodup
  kd : ∀ x ∈ names, IsKind x
  pl : pairs.length ≤ 36
  mem : ∀ p ∈ pairs, p.1 ∈ names ∧ p.2 ∈ names
  one : (pairs.map inOrd).Nodup
def fits (pairs : List (Str × Str)) (x y : Str) : Bool := decide ((x, y) ∈ pairs ∨ (y, x) ∈ pairs)
theorem fits_symm (pairs : List (Str × Str)) (x y : Str) : fits pairs x y = fits pairs y x := decide_eq_decide.mpr Or.comm
theorem inOrd_eq (x y : Str) : inOrd (x, y) = inOrd (y, x) := by
  unfold inOrd
  rcases ltS_tri x y with h | h | h
  · have h2 := ltS_asymm h
    have e1 : leS x y = true := by unfold leS; rw [h2]; rfl
    have e2 : leS y x = false := by unfold leS; rw [h]; rfl
    simp only [e1, e2, if_true, Bool.false_eq_true, if_false]
  · subst h; rfl
  · have h2 := ltS_asymm h
    have e1 : leS y x = true := by unfold leS; rw [h2]; rfl
    have e2 : leS x y = false := by unfold leS; rw [h]; rfl
    simp only [e1, e2, if_true, Bool.false_eq_true, if_false]
theorem inOrd_or (p : Str × Str) : inOrd p = p ∨ inOrd p = (p.2, p.1) := by
  unfold inOrd
  split
  · exact .inl rfl
  · exact .inr rfl
theorem inOrd_fits (pairs : List (Str × Str)) (x y : Str) : inOrd (x, y) ∈ pairs.map inOrd ↔ fits pairs x y = true := by
  unfold fits
  rw [decide_eq_true_eq, List.mem_map]
  constructor
  · rintro ⟨⟨a, b⟩, h, e⟩
    rcases inOrd_or (a, b) with h1 | h1 <;> rcases inOrd_or (x, y) with h2 | h2 <;> rw [h1, h2] at e <;> simp only [Prod.mk.injEq] at e <;> obtain ⟨rfl, rfl⟩ := e
    · exact .inl h
    · exact .inr h
    · exact .inr h
    · exact .inl h
  · rintro (h | h)
    · exact ⟨_, h, rfl⟩
    · exact ⟨_, h, inOrd_eq _ _⟩
theorem fits_mem {names : List Str} {pairs : List (Str × Str)} (h : Rel names pairs) {x y : Str} (f : fits pairs x y = true) : x ∈ names ∧ y ∈ names := by
  unfold fits at f
  rw [decide_eq_true_eq] at f
  rcases f with f | f
  · exact h.mem _ f
  · exact (h.mem _ f).symm
/-- the kinds that suit one, in order -/
def matesOf (names : List Str) (pairs : List (Str × Str)) (x : Str) : List Str := (sortS names).filter fun y => fits pairs x y
def SuitsF (names : List Str) (pairs : List (Str × Str)) : List (Str × D) := [("its_kinds", .lst ((sortS names).map D.str)), ("its_pairs", .lst ((sortP (pairs.map inOrd)).map PairD)),
  ("its_mates", .dct ((sortS names).map fun x => (.inr x, .lst ((matesOf names pairs x).map D.str))))]
def SuitsD (C : Addr) (names : List Str) (pairs : List (Str × Str)) : D := .obj C (SuitsF names pairs)
theorem mem_sortS {l : List Str} {x : Str} : x ∈ sortS l ↔ x ∈ l := (sortS_perm l).mem_iff
theorem nodup_sortS {l : List Str} : (sortS l).Nodup ↔ l.Nodup := (sortS_perm l).nodup_iff
theorem length_sortS (l : List Str) : (sortS l).length = l.length := (sortS_perm l).length_eq
theorem look_kinds {names : List Str} {pairs : List (Str × Str)} : (SuitsF names pairs).lookup ("its_kinds" : Str) = some (.lst ((sortS names).map D.str)) := rfl
theorem look_pairs {names : List Str} {pairs : List (Str × Str)} : (SuitsF names pairs).lookup ("its_pairs" : Str) = some (.lst ((sortP (pairs.map inOrd)).map PairD)) := rfl
theorem look_mates {names : List Str} {pairs : List (Str × Str)} : (SuitsF names pairs).lookup ("its_mates" : Str) = some (.dct ((sortS names).map fun x => (.inr x, .lst ((matesOf names pairs x).map D.str)))) := rfl
theorem mem_matesOf {names : List Str} {pairs : List (Str × Str)} (h : Rel names pairs) {x y : Str} : y ∈ matesOf names pairs x ↔ fits pairs x y = true := by
  unfold matesOf
  rw [List.mem_filter, mem_sortS]
  exact ⟨And.right, fun f => ⟨(fits_mem h f).2, f⟩⟩
theorem kGet_mates {names : List Str} {pairs : List (Str × Str)} (h : names.Nodup) {x : Str} (hx : x ∈ names) :
    kGet ((sortS names).map fun x => ((.inr x : Key), D.lst ((matesOf names pairs x).map D.str))) (.inr x) = some (.lst ((matesOf names pairs x).map D.str)) :=
  kGet_map (fun x => x) (fun x => D.lst ((matesOf names pairs x).map D.str)) (mem_sortS.mpr hx) (by rw [List.map_id']; exact nodup_sortS.mpr h)
/-- a thing that is looked at alone: how it comes back -/
def back1 : Sl → Sl
  | .bw j c => .bw j c
  | _ => .un
theorem res_suits {hs : Pile} {C : Addr} {names : List Str} {pairs : List (Str × Str)} : D.res hs (SuitsD C names pairs) = SuitsD C names pairs := by
  unfold SuitsD SuitsF
  rw [res_obj, reso_cons, reso_cons, reso_cons, reso_nil2, res_strs, res_pairs, res_dct, resk_map hs fun _ => res_strs]
theorem res_suitsO {hs : Pile} {C : Addr} {names : List Str} {pairs : List (Str × Str)} : D.res hs (.obj C (SuitsF names pairs)) = .obj C (SuitsF names pairs) := res_suits
/-! ### kinds and lists of kinds among any things -/
open Classical in
noncomputable def kindB (d : D) : Bool := decide (∃ x, d = .str x ∧ IsKind x)
open Classical in
noncomputable def kindsB (d : D) : Bool := decide (∃ l, d = .lst l ∧ ∀ x ∈ l, kindB x = true)
open Classical in
theorem kindB_str {x : Str} {b : Bool} (h : b = true ↔ IsKind x) : kindB (.str x) = b := by
  unfold kindB
  rw [Bool.eq_iff_iff, decide_eq_true_eq, h]
  constructor
  · rintro ⟨y, e, k⟩
    cases e; exact k
  · exact fun k => ⟨x, rfl, k⟩
open Classical in
theorem kindB_iff {x : Str} : kindB (.str x) = true ↔ IsKind x := by
  unfold kindB
  rw [decide_eq_true_eq]
  constructor
  · rintro ⟨y, e, k⟩
    cases e; exact k
  · exact fun k => ⟨x, rfl, k⟩
open Classical in
theorem kindB_no {d : D} (h : ∀ x, d ≠ .str x) : kindB d = false := by
  unfold kindB
  rw [decide_eq_false_iff_not]
  rintro ⟨x, e, _⟩
  exact h x e
open Classical in
theorem kindsB_lst {l : List D} : kindsB (.lst l) = l.all kindB := by
  unfold kindsB
  rw [Bool.eq_iff_iff, decide_eq_true_eq, List.all_eq_true]
  constructor
  · rintro ⟨m, e, h⟩
    cases e; exact h
  · exact fun h => ⟨l, rfl, h⟩
open Classical in
theorem kindsB_no {d : D} (h : ∀ l, d ≠ .lst l) : kindsB d = false := by
  unfold kindsB
  rw [decide_eq_false_iff_not]
  rintro ⟨x, e, _⟩
  exact h x e
def KOk (d : D) : Prop := d.ty.isSome = true ∧ ∀ x, d = .str x → x.length ≤ 1000
def KsOk (d : D) : Prop := KOk d ∧ ∀ l, d = .lst l → l.length ≤ 1000 ∧ ∀ x ∈ l, KOk x
theorem abc_all {x : Str} (h1 : 1 ≤ x.length) (h8 : x.length ≤ 8) : (x.cps.toList.all fun c => decide (97 ≤ c ∧ c ≤ 122)) = true ↔ IsKind x := by
  rw [List.all_eq_true]
  simp only [decide_eq_true_eq]
  exact ⟨fun z => ⟨h1, h8, z⟩, fun z => z.2.2⟩
theorem abc_in (c : Nat) : decide (c ∈ ("abcdefghijklmnopqrstuvwxyz" : Str).cps.toList) = decide (97 ≤ c ∧ c ≤ 122) := by
  have e : ("abcdefghijklmnopqrstuvwxyz" : Str).cps.toList = (List.range 26).map (· + 97) := by decide +kernel
  rw [e]
  refine decide_eq_decide.mpr ?_
  rw [List.mem_map]
  constructor
  · rintro ⟨a, h, rfl⟩
    rw [List.mem_range] at h
    omega
  · rintro ⟨h1, h2⟩
    exact ⟨c - 97, List.mem_range.mpr (by omega), by omega⟩
def LK : Str := "abcdefghijklmnopqrstuvwxyz"
theorem LK_list : LK.cps.toList = (List.range 26).map (· + 97) := by decide +kernel
theorem LK_at {i : Int} (h0 : 0 ≤ i) (h1 : i < 26) : atI LK.cps.toList i = some (97 + i.toNat) := by
  rw [LK_list]
  refine atI_int h0 ?_
  rw [List.getElem?_map, List.getElem?_range (by omega)]
  simp only [Option.map_some]
  congr 1
  omega
theorem LK_len : LK.length ≤ sizeLine := by rw [sizeLine_eq]; decide +kernel
theorem kfold_size (a : List Str) : ∀ b : Array Nat, (a.foldl (fun acc p => acc ++ (Str.ofString "").cps ++ p.cps) b).size = b.size + (a.map (·.length)).sum := by
  induction a with
  | nil => intro b; simp
  | cons x r ih =>
    intro b
    rw [List.foldl_cons, ih, List.map_cons, List.sum_cons]
    have : (Str.ofString "").cps.size = 0 := by decide +kernel
    simp only [Array.size_append, this, Str.length]
    omega
theorem klen_join (l : List Str) : (Txt.join "" l).length = (l.map (·.length)).sum := by
  cases l with
  | nil => rfl
  | cons x r =>
    show (r.foldl (fun acc p => acc ++ (Str.ofString "").cps ++ p.cps) x.cps).size = _
    rw [kfold_size, List.map_cons, List.sum_cons]
    rfl
theorem ones_sum {l : List Str} (h : ∀ x ∈ l, x.length = 1) : (l.map (·.length)).sum = l.length := by
  induction l with
  | nil => rfl
  | cons a r ih =>
    rw [List.map_cons, List.sum_cons, ih fun x hx2 => h x (List.mem_cons_of_mem _ hx2), h a List.mem_cons_self, List.length_cons]
    omega
theorem klen_cut (x : Str) (lo hi : Option Int) : (cutS x lo hi).length ≤ x.length := by
  unfold cutS Str.length
  simp
  omega
theorem kempty : (Str.ofString "").length = 0 := by decide +kernel
theorem lcL_keep {g : TGd} {tt : TB} {te : TD} {vs : List Nat} {Q : List D → SL → Prop} (p : D → Bool) (M : SL → Prop) {l : List D} {ρ : SL} (hlen : l.length ≤ 16777216) (hM : M ρ)
    (hs : ∀ x ∈ l, ∀ (N : List D → SL → Prop) (acc : List D) (ρ : SL), acc.length < 16777216 → M ρ → (p x = true → ∀ ρ', M ρ' → N (acc ++ [x]) ρ') → (p x = false → ∀ ρ', M ρ' → N acc ρ') →
      g x ρ fun ρ1 => tt ρ1 fun b ρ2 => if b = true then te ρ2 fun rv ρ3 => acc.length < sizeLine ∧ N (acc ++ [rv.dat]) (wipeD ρ3 vs) else N acc (wipeD ρ2 vs))
    (hQ : ∀ ρ, M ρ → Q (l.filter p) ρ) : lcL g tt te vs Q l [] ρ := by
  have := lcL_st (α := D) id id p M (l := l) hlen hM hs (Q := Q) (g := g) (tt := tt) (te := te) (vs := vs) (by intro ρ h; rw [List.map_id]; exact hQ ρ h)
  rwa [List.map_id] at this
theorem kfitRs_all {n : Nat} : ∀ l : List D, D.fitRs n l = l.all (D.fitR n)
  | [] => by rw [D.fitRs]; rfl
  | d :: r => by rw [D.fitRs, kfitRs_all r]; rfl
theorem kfitR_le : ∀ (k m : Nat), k ≤ m → ∀ d : D, D.fitR k d = true → D.fitR m d = true := by
  intro k
  induction k with
  | zero =>
    intro m _ d h
    cases d <;> first | (cases m <;> simp [D.fitR] <;> done) | (simp [D.fitR] at h <;> done)
  | succ k ih =>
    intro m hm d h
    obtain ⟨m, rfl⟩ : ∃ j, m = j + 1 := ⟨m - 1, by omega⟩
    have fs : ∀ l : List D, D.fitRs k l = true → D.fitRs m l = true := fun l hl => by
      rw [kfitRs_all, List.all_eq_true] at hl ⊢
      exact fun x hx => ih m (by omega) x (hl x hx)
    cases d with
    | lst l => rw [D.fitR] at h ⊢; exact fs l h
    | tup l => rw [D.fitR] at h ⊢; exact fs l h
    | _ => first | (simp [D.fitR] <;> done) | (simpa [D.fitR] using h)
theorem ksmalls_all : ∀ l : List D, D.smalls l = l.all D.small
  | [] => by rw [D.smalls]; rfl
  | d :: r => by rw [D.smalls, ksmalls_all r]; rfl
/-- an odd value -/
def OddK (d : D) : Prop := KsOk d ∧ D.fitR 5 d = true ∧ D.small d = true ∧ D.wt d ≤ 300
def sp__law_other : SpD := fun as Q => ∃ (n : Nat) (c : Cn), as = [.bw 0 c] ∧ Bag (n + 5) c ∧ ∀ (d : D) c', Bag n c' → OddK d → Q (.v d) [.bw 0 c']
theorem len__law_other {as : SL} {Q : Rv → SL → Prop} (h : sp__law_other as Q) : as.length = 1 := by
  obtain ⟨_, _, rfl, _⟩ := h
  rfl
theorem len_a1 : (Str.ofString "a").length = 1 := by decide +kernel
theorem kok_of {d : D} (h : d.ty.isSome = true) (hs : ∀ x, d = .str x → x.length ≤ 1000) : KOk d := ⟨h, hs⟩
theorem ok__law_other {f : Addr} {fd : FuncData} (Fn : Fun K "_law_other" "_law_other" s__law_other f fd) {a__law_take : Addr} {d__law_take : FuncData} (f__law_take : Cal P w K mg base 1 "_law_take" a__law_take d__law_take ["_law_bag_here", "_law_many"] sp__law_take) : FnG P w K mg base CX0 2 f fd ["_law_bag_here"] (lift K sp__law_other) := by
  have nd := sc__law_other.nd
  refine fnD Fn sc__law_other (fun as Q h => ?len) (fun cdv A outer s H hgd hr => ⟨_, _,
    (dss_cons (ds_set (i := 1) nd rfl (.inl rfl) (de_op op_addA sem_addA (do_e (de_op op_mulA sem_mulA (do_e (de_op op_pow sem_pow (do_e de_int) (do_e de_int))) (do_e (de_op op_pow sem_pow (do_e de_int) (do_e de_int))))) (do_e (de_call f__law_take.ok hgd (hr.mono (by decide)) (by rfl) f__law_take.g f__law_take.kp f__law_take.b pass0 (dag_bor (pv 0) (dag_val de_int dag_nil))))))
      (dss_cons (ds_set (i := 2) nd rfl (.inl rfl) (de_lst (dv_cons de_non (dv_cons de_bl (dv_cons de_bl (dv_cons de_int (dv_cons de_int (dv_cons (de_un un_neg sem_neg (do_e de_int)) (dv_cons (de_var (pv 1)) (dv_cons (de_un un_neg sem_neg (do_var (pv 1))) (dv_cons (de_lst dv_nil) (dv_cons (de_tup dv_nil) (dv_cons de_dnew (dv_cons (de_lst (dv_cons de_str dv_nil)) (dv_cons (de_tup (dv_cons de_str dv_nil)) (dv_cons (de_disp (dps_cons de_str de_int dps_nil) (by rfl) (by rfl) (fun z => by cases z) (by decide)) (dv_cons (de_lst (dv_cons (de_lst (dv_cons de_str dv_nil)) dv_nil)) dv_nil)))))))))))))))))
      (dss_one (ds_ret (de_ix (hu1 hr) (do_var (pv 2)) (do_e (de_call f__law_take.ok hgd (hr.mono (by decide)) (by rfl) f__law_take.g f__law_take.kp f__law_take.b pass0 (dag_bor (pv 0) (dag_val de_int dag_nil))))))))), fun as Q h => ?_⟩)
  case len => exact len__law_other h
  · obtain ⟨n, c, rfl, hB, h⟩ := h
    simp only [List.length_cons, List.length_nil, Nat.reduceAdd, Nat.reduceSub, List.replicate_succ, List.replicate_zero, List.cons_append, List.nil_append]
    refine sSeq_cut (fun ρ' => ∃ (c : Cn) (g : Int), Bag (n + 3) c ∧ g.natAbs < 2 ^ 200 ∧ ∃ (s_law_some : Sl), ρ' = [.bw 0 c, .sh (.int g), s_law_some]) (fun N hN => ?_) ?_
    · simp_arith [gPow]
      obtain ⟨G, eG, hG⟩ : ∃ G : Int, (10 : Int) ^ Int.toNat 20 * (10 : Int) ^ Int.toNat 19 = G ∧ G = 1000000000000000000000000000000000000000 := ⟨_, rfl, by decide⟩
      rw [eG]
      refine ⟨⟨by decide, by decide, by decide⟩, ⟨by decide, by decide, by decide⟩, cMul_of (by decide) (by decide), n + 3, c, 9, rfl, hB.le (by omega), by decide, by decide, fun v c2 hB2 hv0 hv1 => ?_⟩
      simp_arith
      exact hN _ ⟨c2, G + v, hB2, by omega, _, rfl⟩
    clear hB c
    rintro ρ' ⟨c, g, hB, hg, s_law_some, rfl⟩
    refine sSeq_cut (fun ρ' => ∃ l : List D, l.length = 15 ∧ (∀ d ∈ l, OddK d) ∧ ρ' = [.bw 0 c, .sh (.int g), .ow (.l l)]) (fun N hN => ?_) ?_
    · simp_arith
      refine ⟨le_size (by decide), le_size (by decide), le_size (by decide), le_size (by decide), by decide, le_size (by decide), le_size (by decide), le_size (by decide), hN _ ⟨_, ?_, ?_, rfl⟩⟩
      · rfl
      intro d hd
      have gi : ∀ i : Int, i.natAbs < 2 ^ 200 → decide (i.natAbs < 2 ^ 240) = true := fun i h => decide_eq_true (Nat.lt_trans h (by decide))
      have la := len_a1
      have ka : KOk (.str "a") := ⟨rfl, fun x e => by cases e; rw [la]; decide⟩
      have kl : KOk (.lst [.str "a"]) := ⟨rfl, fun x e => by cases e⟩
      have e1 : kMerge [] [((Sum.inr (Str.ofString "a") : Key), D.int 1)] = [(Sum.inr (Str.ofString "a"), D.int 1)] := rfl
      rw [e1] at hd
      simp only [List.mem_cons, List.not_mem_nil, or_false] at hd
      have nolst : ∀ {d : D}, (∀ l, d ≠ .lst l) → ∀ l, d = .lst l → l.length ≤ 1000 ∧ ∀ x ∈ l, KOk x := fun h l e => (h l e).elim
      rcases hd with rfl | rfl | rfl | rfl | rfl | rfl | rfl | rfl | rfl | rfl | rfl | rfl | rfl | rfl | rfl
      all_goals
        refine ⟨⟨⟨rfl, by intro x e; cases e⟩, ?_⟩, ?_, ?_, ?_⟩
        · first
            | (refine nolst ?_; intro l e; cases e; done)
            | (intro l e; cases e; refine ⟨by decide, ?_⟩; intro x hx; cases hx; done)
            | (intro l e; cases e; refine ⟨by decide, fun x hx => ?_⟩; rw [List.mem_singleton.mp hx]; first | exact ka | exact kl)
        · simp [D.fitR, D.fitRs, D.atm]
        · first
            | (simp [D.small, D.smalls, D.smallk]; done)
            | (rw [D.small]; exact gi _ (by omega))
        · simp [D.wt, D.wts, D.wtk, la]
    rintro ρ' ⟨l, hl, hO, rfl⟩
    simp_arith
    refine ⟨n, c, 15, rfl, hB.le (by omega), by decide, by decide, fun v c2 hB2 hv0 hv1 => ?_⟩
    simp_arith
    obtain ⟨x, hx, ex⟩ : ∃ x ∈ l, atI l v = some x := by
      have hv : v.toNat < l.length := by omega
      exact ⟨l[v.toNat], List.getElem_mem hv, atI_int hv0 (List.getElem?_eq_getElem hv)⟩
    exact ⟨x, ex, h x c2 hB2 (hO x hx)⟩
def SG : Str := " !\"#$&'()*+,-./0123456789:;<=>?@ABCXYZ[\\]^_`{|}~\nabz"
theorem SG_len : SG.length = 52 := by decide +kernel
theorem SG_at {i : Int} (h0 : 0 ≤ i) (h1 : i < 52) : ∃ c, atI SG.cps.toList i = some c := by
  have hl : SG.cps.toList.length = 52 := by decide +kernel
  exact ⟨_, atI_int h0 (List.getElem?_eq_getElem (by omega))⟩
def sp__law_word : SpD := fun as Q => ∃ (n : Nat) (c : Cn), as = [.bw 0 c] ∧ Bag (n + 30) c ∧ ∀ (x : Str) c', Bag n c' → x.length ≤ 20 → Q (.v (.str x)) [.bw 0 c']
theorem len__law_word {as : SL} {Q : Rv → SL → Prop} (h : sp__law_word as Q) : as.length = 1 := by
  obtain ⟨_, _, rfl, _⟩ := h
  rfl
theorem ok__law_word {f : Addr} {fd : FuncData} (Fn : Fun K "_law_word" "_law_word" s__law_word f fd) (z_range : mg "range" = none) {a__law_take : Addr} {d__law_take : FuncData} (f__law_take : Cal P w K mg base 1 "_law_take" a__law_take d__law_take ["_law_bag_here", "_law_many"] sp__law_take) (z_len : mg "len" = none) : FnG P w K mg base CX0 2 f fd ["_law_bag_here"] (lift K sp__law_word) := by
  have nd := sc__law_word.nd
  refine fnD Fn sc__law_word (fun as Q h => ?len) (fun cdv A outer s H hgd hr => ⟨_, _,
    (dss_cons (ds_set (i := 1) nd rfl (.inr rfl) de_str)
      (dss_cons (ds_set (i := 2) nd rfl (.inl rfl) (de_join (do_e (de_lcF rfl nd (dic_of (di_r1 (by rfl) z_range (dv_cons (de_call f__law_take.ok hgd (hr.mono (by decide)) (by rfl) f__law_take.g f__law_take.kp f__law_take.b pass0 (dag_bor (pv 0) (dag_val de_int dag_nil))) dv_nil))) (blkOk_by (own := [("_law_k", 6)]) (N := ["_law_bag_here", "_law_letters", "_law_text", "_law_signs", "_law_at", "_law_sign", "_law_k"]) (sc := defScope s__law_word) (by decide +kernel)) (fun _ _ _ _ _ => (dg_name (i := 6) nd rfl (.inl rfl))) (fun _ _ _ _ _ => dts_nil) (fun _ _ _ _ _ => (de_ix (hu1 hr) (do_var (pv 1)) (do_e (de_call f__law_take.ok hgd (hr.mono (by decide)) (by rfl) f__law_take.g f__law_take.kp f__law_take.b pass0 (dag_bor (pv 0) (dag_val de_int dag_nil))))))))))
      (dss_cons (ds_set (i := 3) nd rfl (.inl rfl) de_str)
      (dss_cons (ds_par (i := 4) (j := 5) rfl nd rfl rfl (by decide) rfl rfl (dr_cons (de_call f__law_take.ok hgd (hr.mono (by decide)) (by rfl) f__law_take.g f__law_take.kp f__law_take.b pass0 (dag_bor (pv 0) (dag_val (de_op op_addA sem_addA (do_e (de_callB call_lenA sem_len (by rfl) z_len (by decide +kernel) (da_cons (do_var (pv 2)) da_nil))) (do_e de_int)) dag_nil))) (dr_cons (de_ix (hu1 hr) (do_var (pv 3)) (do_e (de_call f__law_take.ok hgd (hr.mono (by decide)) (by rfl) f__law_take.g f__law_take.kp f__law_take.b pass0 (dag_bor (pv 0) (dag_val (de_callB call_lenA sem_len (by rfl) z_len (by decide +kernel) (da_cons (do_var (pv 3)) da_nil)) dag_nil))))) dr_nil)) (by rfl))
      (dss_one (ds_ret (de_ix (hu1 hr) (do_e (de_lst (dv_cons (de_var (pv 2)) (dv_cons (de_var (pv 2)) (dv_cons (de_op op_addA sem_addA (do_e (de_op op_addA sem_addA (do_e (de_slice (do_var (pv 2)) dop_none (dop_some (de_var (pv 4))))) (do_var (pv 5)))) (do_e (de_slice (do_var (pv 2)) (dop_some (de_var (pv 4))) dop_none))) (dv_cons (de_op op_addA sem_addA (do_e (de_op op_addA sem_addA (do_e (de_slice (do_var (pv 2)) dop_none (dop_some (de_var (pv 4))))) (do_var (pv 5)))) (do_e (de_slice (do_var (pv 2)) (dop_some (de_op op_addA sem_addA (do_var (pv 4)) (do_e de_int))) dop_none))) dv_nil)))))) (do_e (de_call f__law_take.ok hgd (hr.mono (by decide)) (by rfl) f__law_take.g f__law_take.kp f__law_take.b pass0 (dag_bor (pv 0) (dag_val de_int dag_nil))))))))))), fun as Q h => ?_⟩)
  case len => exact len__law_word h
  · obtain ⟨n, c, rfl, hB, h⟩ := h
    simp only [List.length_cons, List.length_nil, Nat.reduceAdd, Nat.reduceSub, List.replicate_succ, List.replicate_zero, List.cons_append, List.nil_append]
    refine sSeq_go fun N0 h0 => ?_
    simp_arith
    refine h0 _ ?_
    clear h0
    refine sSeq_cut (fun ρ' => ∃ (c : Cn) (x : Str), Bag (n + 10) c ∧ x.length ≤ 9 ∧ ∃ (s_law_letters s_law_signs s_law_at s_law_sign s_law_k : Sl), ρ' = [.bw 0 c, s_law_letters, .sh (.str x), s_law_signs, s_law_at, s_law_sign, s_law_k]) (fun N hN => ?_) ?_
    · simp_arith [big]
      refine ⟨n + 20, c, 10, rfl, hB.le (by omega), by decide, by decide, fun v c2 hB2 hv0 hv1 => ?_⟩
      simp_arith [big]
      refine ⟨by omega, by omega, ?_⟩
      refine lcL_rng (fun i acc ρ => i ≤ 9 ∧ ∃ (c' : Cn) (l : List Str), Bag (n + (20 - i)) c' ∧ acc = l.map D.str ∧ l.length = i ∧ (∀ x ∈ l, x.length = 1) ∧ ∃ (s_law_text s_law_signs s_law_at s_law_sign s_law_k : Sl), ρ = [.bw 0 c', .sh (.str LK), s_law_text, s_law_signs, s_law_at, s_law_sign, s_law_k]) ⟨by omega, c2, [], hB2, rfl, rfl, by simp, _, _, _, _, _, rfl⟩ ?_ ?_
      · rintro acc ρ ⟨hi9, c3, l, hB3, rfl, hl, hx, s_law_text, s_law_signs, s_law_at, s_law_sign, s_law_k, rfl⟩
        simp_arith
        have hs := ones_sum hx
        refine ⟨l, rfl, by rw [hs, kempty]; omega, hN _ ⟨c3, Txt.join "" l, hB3.le (by omega), by rw [klen_join, hs]; omega, _, _, _, _, _, rfl⟩⟩
      · rintro i acc ρ N2 hi hN2 ⟨_, c3, l, hB3, rfl, hl, hx, s_law_text, s_law_signs, s_law_at, s_law_sign, s_law_k, rfl⟩
        simp_arith
        refine ⟨n + (20 - (i + 1)), c3, 26, rfl, hB3.le (by omega), by decide, by decide, fun w c4 hB4 hw0 hw1 => ?_⟩
        simp_arith
        refine ⟨LK_len, _, LK_at hw0 hw1, lt_size (by rw [List.length_map]; omega), hN2 _ _ ⟨by omega, c4, l ++ [⟨#[97 + w.toNat]⟩], hB4, by rw [List.map_append]; rfl, by rw [List.length_append, hl]; rfl, fun x hx2 => ?_, _, _, _, _, _, rfl⟩⟩
        rcases List.mem_append.mp hx2 with z | z
        · exact hx x z
        · rw [List.mem_singleton.mp z]; rfl
    clear hB c
    rintro ρ' ⟨c, x, hB, hx, s_law_letters, s_law_signs, s_law_at, s_law_sign, s_law_k, rfl⟩
    refine sSeq_go fun N0 h0 => ?_
    simp_arith
    refine h0 _ ?_
    clear h0
    refine sSeq_cut (fun ρ' => ∃ (c : Cn) (a : Nat) (k : Nat), Bag (n + 2) c ∧ ∃ (s_law_letters s_law_signs s_law_k : Sl), ρ' = [.bw 0 c, s_law_letters, .sh (.str x), s_law_signs, .sh (.int (a : Nat)), .sh (.str ⟨#[k]⟩), s_law_k]) (fun N hN => ?_) ?_
    · simp_arith
      refine ⟨le_size (by omega), n + 5, c, _, rfl, hB.le (by omega), by omega, by omega, fun v c2 hB2 hv0 hv1 => ?_⟩
      obtain ⟨a, rfl⟩ := Int.eq_ofNat_of_zero_le hv0
      simp_arith
      refine ⟨le_size (show SG.length ≤ _ by rw [SG_len]; decide), n + 2, c2, _, rfl, hB2.le (by omega), show (0 : Int) < (SG.length : Nat) by rw [SG_len]; decide, show ((SG.length : Nat) : Int) < _ by rw [SG_len]; decide, fun w c3 hB3 hw0 hw1 => ?_⟩
      have hw1 : w < 52 := by
        have : w < ((SG.length : Nat) : Int) := hw1
        rwa [SG_len] at this
      simp_arith
      obtain ⟨k, hk⟩ := SG_at hw0 hw1
      exact ⟨le_size (show SG.length ≤ _ by rw [SG_len]; decide), k, hk, hN _ ⟨c3, a, k, hB3, _, _, _, rfl⟩⟩
    clear hB c
    rintro ρ' ⟨c, a, k, hB, s_law_letters, s_law_signs, s_law_k, rfl⟩
    have c1 := klen_cut x none (some (a : Int))
    have c2 := klen_cut x (some (a : Int)) none
    have c3 := klen_cut x (some ((a : Int) + 1)) none
    have hk1 : (⟨#[k]⟩ : Str).length = 1 := rfl
    simp_arith [strLen_append, hk1]
    refine ⟨le_size (by omega), le_size (by omega), le_size (by omega), le_size (by omega), le_size (by omega), le_size (by omega), le_size (by omega), le_size (by omega), le_size (by decide), n, c, 4, rfl, hB.le (by omega), by decide, by decide, fun v c4 hB4 hv0 hv1 => ?_⟩
    simp_arith
    have : v = 0 ∨ v = 1 ∨ v = 2 ∨ v = 3 := by omega
    rcases this with rfl | rfl | rfl | rfl
    · exact ⟨_, atI_0, h _ _ hB4 (by omega)⟩
    · exact ⟨_, atI_1, h _ _ hB4 (by omega)⟩
    · exact ⟨_, atI_2, h _ _ hB4 (by rw [strLen_append, strLen_append]; omega)⟩
    · exact ⟨_, atI_3, h _ _ hB4 (by rw [strLen_append, strLen_append]; omega)⟩
def sp__law_is_kind : SpD := fun as Q => ∃ d : D, as = [.sh d] ∧ KOk d ∧ Q (.v (.bl (kindB d))) [.un]
theorem len__law_is_kind {as : SL} {Q : Rv → SL → Prop} (h : sp__law_is_kind as Q) : as.length = 1 := by
  obtain ⟨_, rfl, _⟩ := h
  rfl
theorem ok__law_is_kind {f : Addr} {fd : FuncData} (Fn : Fun K "_law_is_kind" "_law_is_kind" s__law_is_kind f fd) (z_len : mg "len" = none) (z_isinstance : mg "isinstance" = none) (z_str : mg "str" = none) : FnG P w K mg base CX0 1 f fd ["_law_thing"] (lift K sp__law_is_kind) := by
  have nd := sc__law_is_kind.nd
  refine fnD Fn sc__law_is_kind (fun as Q h => ?len) (fun cdv A outer s H hgd hr => ⟨_, _,
    (dss_cons (ds_if (dw_pt (dw_or (dt_not (dt_tr (do_e (de_isi (T := "str") (by rfl) z_isinstance (do_var (pv 0)) (by rfl) z_str (by decide +kernel) (by decide))))) (dw_or1 (dt_not (dt_chain op_leA op_leA sem_leA sem_leA (do_e de_int) (do_e (de_callB call_lenA sem_len (by rfl) z_len (by decide +kernel) (da_cons (do_var (pv 0)) da_nil))) (do_e de_int)))))) (dss_one (ds_ret de_bl)) dss_nil)
      (dss_one (ds_ret (de_cmp (op_eqB (hu64 hr)) sem_eqB (do_e (de_lcF rfl nd (dic_var (pv 0)) (blkOk_by (own := [("_law_sign", 1)]) (N := ["_law_thing", "_law_sign"]) (sc := defScope s__law_is_kind) (by decide +kernel)) (fun _ _ _ _ _ => (dg_name (i := 1) nd rfl (.inl rfl))) (fun _ _ _ _ _ => (dts_one (dt_cmp (op_notInA (hu65 hr)) sem_notIn (do_var (pv 1)) (do_e de_str) (by rfl)))) (fun _ _ _ _ _ => (de_var (pv 1))))) (do_e (de_lst dv_nil)) (nomark _))))), fun as Q h => ?_⟩)
  case len => exact len__law_is_kind h
  · obtain ⟨d, rfl, ⟨hty, hx⟩, h⟩ := h
    simp only [List.length_cons, List.length_nil, Nat.reduceAdd, Nat.reduceSub, List.replicate_succ, List.replicate_zero, List.cons_append, List.nil_append]
    by_cases hs : ∃ x, d = .str x
    · obtain ⟨x, rfl⟩ := hs
      have hx := hx x rfl
      have hz : x.length ≤ sizeLine := le_size (by omega)
      have cl : x.cps.toList.length = x.length := by simp [Str.length]
      have no : ¬ IsKind x → Q (.v (.bl false)) [.un] := fun z => by rwa [kindB_str (b := false) ⟨fun w => (nomatch w), fun w => (z w).elim⟩] at h
      refine sSeq_cut (fun ρ' => ρ' = [.sh (.str x), .un] ∧ 1 ≤ x.length ∧ x.length ≤ 8) (fun N hN => ?_) ?_
      · refine sIf_go fun T hT hF => ?_
        simp_arith [Bool.not_true, hz]
        by_cases h1 : (1 : Int) ≤ x.length
        · rw [if_pos h1]
          by_cases h2 : (x.length : Int) ≤ 8
          · rw [decide_eq_true h2]
            exact hF _ (hN _ ⟨rfl, by omega, by omega⟩)
          · rw [decide_eq_false h2]
            refine hT _ ?_
            simp_arith
            exact no fun z => h2 (by have := z.2.1; omega)
        · rw [if_neg h1]
          refine hT _ ?_
          simp_arith
          exact no fun z => h1 (by have := z.1; omega)
      · rintro ρ' ⟨rfl, h1, h2⟩
        simp_arith [chars]
        refine lcL_pure (fun c => D.str ⟨#[c]⟩) (fun c => D.str ⟨#[c]⟩) (fun c => !decide (97 ≤ c ∧ c ≤ 122)) (by rw [cl]; omega) ?_ ?_
        · intro c hc N acc hacc g1 g2
          simp_arith [gIn]
          refine ⟨c, rfl, ?_⟩
          rw [abc_in]
          cases e : decide (97 ≤ c ∧ c ≤ 122) with
          | true => exact g2 (by rw [e]; rfl)
          | false => exact ⟨lt_size hacc, g1 (by rw [e]; rfl)⟩
        · simp_arith
          refine ⟨le_size (by decide), .inl ⟨_, rfl, rfl, ?_⟩⟩
          rw [kindB_str (b := decide ((x.cps.toList.filter fun c => !decide (97 ≤ c ∧ c ≤ 122)).map (fun c => D.str ⟨#[c]⟩) = [])) (by
            rw [decide_eq_true_eq, List.map_eq_nil_iff, List.filter_eq_nil_iff, ← abc_all h1 h2, List.all_eq_true]
            simp)] at h
          exact h
    · have hn : ∀ x, d ≠ .str x := fun x e => hs ⟨x, e⟩
      rw [kindB_no hn] at h
      cases d with
      | str x => exact (hn x rfl).elim
      | _ =>
        first
          | (simp [D.ty] at hty; done)
          | (simp_arith; exact h)
def sp_is_kind : SpD := fun as Q => ∃ d : D, as = [.sh d] ∧ KOk d ∧ Q (.v (.bl (kindB d))) [.un]
theorem len_is_kind {as : SL} {Q : Rv → SL → Prop} (h : sp_is_kind as Q) : as.length = 1 := by
  obtain ⟨_, rfl, _⟩ := h
  rfl
theorem ok_is_kind {f : Addr} {fd : FuncData} (Fn : Fun K "is_kind" "is_kind" s_is_kind f fd) (z_len : mg "len" = none) {t_MOST_LETTERS : Tok} (c_MOST_LETTERS : mg "MOST_LETTERS" = some (.int 8 t_MOST_LETTERS)) (z_isinstance : mg "isinstance" = none) (z_str : mg "str" = none) (z_all : mg "all" = none) {t_LETTERS : Tok} (c_LETTERS : mg "LETTERS" = some (.str "abcdefghijklmnopqrstuvwxyz" t_LETTERS)) : FnG P w K mg base CX0 1 f fd ["thing"] (lift K sp_is_kind) := by
  have nd := sc_is_kind.nd
  refine fnD Fn sc_is_kind (fun as Q h => ?len) (fun cdv A outer s H hgd hr => ⟨_, _,
    (dss_cons (ds_if (dw_pt (dw_or (dt_not (dt_tr (do_e (de_isi (T := "str") (by rfl) z_isinstance (do_var (pv 0)) (by rfl) z_str (by decide +kernel) (by decide))))) (dw_or1 (dt_not (dt_chain op_leA op_leA sem_leA sem_leA (do_e de_int) (do_e (de_callB call_lenA sem_len (by rfl) z_len (by decide +kernel) (da_cons (do_var (pv 0)) da_nil))) (do_e (de_globI (by rfl) c_MOST_LETTERS))))))) (dss_one (ds_ret de_bl)) dss_nil)
      (dss_one (ds_ret (de_callB (cr_all rfl) sem_all (by rfl) z_all (by decide +kernel) (da_cons (do_e (de_lcF rfl nd (dic_var (pv 0)) (blkOk_by (own := [("letter", 1)]) (N := ["thing", "letter"]) (sc := defScope s_is_kind) (by decide +kernel)) (fun _ _ _ _ _ => (dg_name (i := 1) nd rfl (.inl rfl))) (fun _ _ _ _ _ => dts_nil) (fun _ _ _ _ _ => (de_cmp (op_inA (hu65 hr)) sem_in (do_var (pv 1)) (do_e (de_globS (by rfl) c_LETTERS)) (by rfl))))) da_nil))))), fun as Q h => ?_⟩)
  case len => exact len_is_kind h
  · obtain ⟨d, rfl, ⟨hty, hx⟩, h⟩ := h
    simp only [List.length_cons, List.length_nil, Nat.reduceAdd, Nat.reduceSub, List.replicate_succ, List.replicate_zero, List.cons_append, List.nil_append]
    by_cases hs : ∃ x, d = .str x
    · obtain ⟨x, rfl⟩ := hs
      have hx := hx x rfl
      have hz : x.length ≤ sizeLine := le_size (by omega)
      have cl : x.cps.toList.length = x.length := by simp [Str.length]
      have no : ¬ IsKind x → Q (.v (.bl false)) [.un] := fun z => by rwa [kindB_str (b := false) ⟨fun w => (nomatch w), fun w => (z w).elim⟩] at h
      refine sSeq_cut (fun ρ' => ρ' = [.sh (.str x), .un] ∧ 1 ≤ x.length ∧ x.length ≤ 8) (fun N hN => ?_) ?_
      · refine sIf_go fun T hT hF => ?_
        simp_arith [Bool.not_true, hz]
        by_cases h1 : (1 : Int) ≤ x.length
        · rw [if_pos h1]
          by_cases h2 : (x.length : Int) ≤ 8
          · rw [decide_eq_true h2]
            exact hF _ (hN _ ⟨rfl, by omega, by omega⟩)
          · rw [decide_eq_false h2]
            refine hT _ ?_
            simp_arith
            exact no fun z => h2 (by have := z.2.1; omega)
        · rw [if_neg h1]
          refine hT _ ?_
          simp_arith
          exact no fun z => h1 (by have := z.1; omega)
      · rintro ρ' ⟨rfl, h1, h2⟩
        simp_arith [chars]
        refine lcL_pure (fun c => D.str ⟨#[c]⟩) (fun c => D.bl (decide (97 ≤ c ∧ c ≤ 122))) (fun _ => true) (by rw [cl]; omega) ?_ ?_
        · intro c hc N acc hacc hN _
          simp_arith [gIn]
          refine ⟨c, rfl, lt_size hacc, ?_⟩
          rw [abc_in]
          exact hN rfl
        · rw [List.filter_eq_self.mpr fun _ _ => rfl]
          simp_arith [gAny]
          refine ⟨x.cps.toList.map fun c => decide (97 ≤ c ∧ c ≤ 122), by rw [List.map_map]; rfl, ?_⟩
          rw [List.all_map]
          rwa [kindB_str (abc_all h1 h2)] at h
    · have hn : ∀ x, d ≠ .str x := fun x e => hs ⟨x, e⟩
      rw [kindB_no hn] at h
      cases d with
      | str x => exact (hn x rfl).elim
      | _ =>
        first
          | (simp [D.ty] at hty; done)
          | (simp_arith; exact h)
def sp_are_kinds : SpD := fun as Q => ∃ d : D, as = [.sh d] ∧ KsOk d ∧ Q (.v (.bl (kindsB d))) [.un]
theorem len_are_kinds {as : SL} {Q : Rv → SL → Prop} (h : sp_are_kinds as Q) : as.length = 1 := by
  obtain ⟨_, rfl, _⟩ := h
  rfl
theorem ok_are_kinds {f : Addr} {fd : FuncData} (Fn : Fun K "are_kinds" "are_kinds" s_are_kinds f fd) (z_all : mg "all" = none) {a_is_kind : Addr} {d_is_kind : FuncData} (f_is_kind : Cal P w K mg base 1 "is_kind" a_is_kind d_is_kind ["thing"] sp_is_kind) (z_isinstance : mg "isinstance" = none) (z_list : mg "list" = none) : FnG P w K mg base CX0 2 f fd ["thing"] (lift K sp_are_kinds) := by
  have nd := sc_are_kinds.nd
  refine fnD Fn sc_are_kinds (fun as Q h => ?len) (fun cdv A outer s H hgd hr => ⟨_, _,
    (dss_one (ds_ret (de_and (de_isi (T := "list") (by rfl) z_isinstance (do_var (pv 0)) (by rfl) z_list (by decide +kernel) (by decide)) (de_one (de_callB (cr_all rfl) sem_all (by rfl) z_all (by decide +kernel) (da_cons (do_e (de_lcF rfl nd (dic_var (pv 0)) (blkOk_by (own := [("item", 1)]) (N := ["thing", "item"]) (sc := defScope s_are_kinds) (by decide +kernel)) (fun _ _ _ _ _ => (dg_name (i := 1) nd rfl (.inl rfl))) (fun _ _ _ _ _ => dts_nil) (fun _ _ _ _ _ => (de_callP f_is_kind.ok hgd (hr.mono (by decide)) (by rfl) f_is_kind.g f_is_kind.kp f_is_kind.b pass0 (da_cons (do_var (pv 1)) da_nil))))) da_nil)))))), fun as Q h => ?_⟩)
  case len => exact len_are_kinds h
  · obtain ⟨d, rfl, ⟨⟨hty, _⟩, hx⟩, h⟩ := h
    simp only [List.length_cons, List.length_nil, Nat.reduceAdd, Nat.reduceSub, List.replicate_succ, List.replicate_zero, List.cons_append, List.nil_append]
    by_cases hs : ∃ l, d = .lst l
    · obtain ⟨l, rfl⟩ := hs
      obtain ⟨hl, hk⟩ := hx l rfl
      rw [kindsB_lst] at h
      have ml : l.map id = l := List.map_id l
      simp_arith
      rw [← ml]
      refine lcL_pure id (fun d => D.bl (kindB d)) (fun _ => true) (by omega) ?_ ?_
      · intro d hd N acc hacc hN _
        simp_arith [id]
        refine ⟨d, rfl, hk d hd, ?_⟩
        simp_arith
        exact ⟨lt_size hacc, hN rfl⟩
      · rw [List.filter_eq_self.mpr fun _ _ => rfl]
        simp_arith [gAny]
        refine ⟨l.map kindB, by rw [List.map_map]; rfl, ?_⟩
        rw [List.all_map]
        exact h
    · have hn : ∀ x, d ≠ .lst x := fun x e => hs ⟨x, e⟩
      rw [kindsB_no hn] at h
      cases d with
      | lst x => exact (hn x rfl).elim
      | _ =>
        first
          | (simp [D.ty] at hty; done)
          | (simp_arith; exact h)
def isIntD : D → Bool
  | .int _ => true
  | _ => false
def btwD (d : D) (lo hi : Int) : Bool := match d with
  | .int i => decide (lo ≤ i) && decide (i ≤ hi)
  | _ => false
def sp_is_integer : SpD := fun as Q => ∃ d : D, as = [.sh d] ∧ d.ty.isSome = true ∧ Q (.v (.bl (isIntD d))) [.un]
theorem len_is_integer {as : SL} {Q : Rv → SL → Prop} (h : sp_is_integer as Q) : as.length = 1 := by
  obtain ⟨_, rfl, _⟩ := h
  rfl
theorem ok_is_integer {f : Addr} {fd : FuncData} (Fn : Fun K "is_integer" "is_integer" s_is_integer f fd) (z_isinstance : mg "isinstance" = none) (z_bool : mg "bool" = none) (z_int : mg "int" = none) : FnG P w K mg base CX0 1 f fd ["thing"] (lift K sp_is_integer) := by
  have nd := sc_is_integer.nd
  refine fnD Fn sc_is_integer (fun as Q h => ?len) (fun cdv A outer s H hgd hr => ⟨_, _,
    (dss_one (ds_ret (de_and (de_isi (T := "int") (by rfl) z_isinstance (do_var (pv 0)) (by rfl) z_int (by decide +kernel) (by decide)) (de_one (de_not (de_isi (T := "bool") (by rfl) z_isinstance (do_var (pv 0)) (by rfl) z_bool (by decide +kernel) (by decide))))))), fun as Q h => ?_⟩)
  case len => exact len_is_integer h
  · obtain ⟨d, rfl, hd, h⟩ := h
    cases d <;> first | (cases hd; done) | (simp_arith [Bool.not_true, Bool.not_false]; exact h)
def ThK (d : D) : Prop := KsOk d ∧ D.fitR 60 d = true ∧ D.small d = true ∧ D.wt d ≤ 16777216
def sp__law_right : SpD := fun as Q => ∃ d : D, as = [.sh d] ∧ ThK d ∧ Q (.v (.bl true)) [.un]
theorem len__law_right {as : SL} {Q : Rv → SL → Prop} (h : sp__law_right as Q) : as.length = 1 := by
  obtain ⟨_, rfl, _⟩ := h
  rfl
theorem b3_fine (a b c : Bool) : D.fitR 60 (.lst [.bl a, .bl b, .bl c]) = true ∧ D.small (.lst [.bl a, .bl b, .bl c]) = true ∧ D.wt (.lst [.bl a, .bl b, .bl c]) ≤ 16777216 := by
  refine ⟨by simp [D.fitR, D.fitRs], by simp [D.small, D.smalls], by simp [D.wt, D.wts]⟩
theorem ok__law_right {f : Addr} {fd : FuncData} (Fn : Fun K "_law_right" "_law_right" s__law_right f fd) (z_repr : mg "repr" = none) {a__law_is_kind : Addr} {d__law_is_kind : FuncData} (f__law_is_kind : Cal P w K mg base 1 "_law_is_kind" a__law_is_kind d__law_is_kind ["_law_thing"] sp__law_is_kind) (z_isinstance : mg "isinstance" = none) (z_bool : mg "bool" = none) (z_int : mg "int" = none) (z_list : mg "list" = none) {a_are_kinds : Addr} {d_are_kinds : FuncData} (f_are_kinds : Cal P w K mg base 2 "are_kinds" a_are_kinds d_are_kinds ["thing"] sp_are_kinds) {a_is_kind : Addr} {d_is_kind : FuncData} (f_is_kind : Cal P w K mg base 1 "is_kind" a_is_kind d_is_kind ["thing"] sp_is_kind) {a_is_integer : Addr} {d_is_integer : FuncData} (f_is_integer : Cal P w K mg base 1 "is_integer" a_is_integer d_is_integer ["thing"] sp_is_integer) : FnG P w K mg base CX0 3 f fd ["_law_thing"] (lift K sp__law_right) := by
  have nd := sc__law_right.nd
  refine fnD Fn sc__law_right (fun as Q h => ?len) (fun cdv A outer s H hgd hr => ⟨_, _,
    (dss_cons (ds_set (i := 1) nd rfl (.inl rfl) (de_callB (call_reprE hgd (hu64 hr)) sem_reprE (by rfl) z_repr (by decide +kernel) (da_cons (do_var (pv 0)) da_nil)))
      (dss_cons (ds_set (i := 2) nd rfl (.inl rfl) (de_lst (dv_cons (de_and (de_isi (T := "int") (by rfl) z_isinstance (do_var (pv 0)) (by rfl) z_int (by decide +kernel) (by decide)) (de_one (de_not (de_isi (T := "bool") (by rfl) z_isinstance (do_var (pv 0)) (by rfl) z_bool (by decide +kernel) (by decide))))) (dv_cons (de_callP f__law_is_kind.ok hgd (hr.mono (by decide)) (by rfl) f__law_is_kind.g f__law_is_kind.kp f__law_is_kind.b pass0 (da_cons (do_var (pv 0)) da_nil)) dv_nil))))
      (dss_cons (ds_expr (de_append (pv 2) (dv_cons (de_and (de_isi (T := "list") (by rfl) z_isinstance (do_var (pv 0)) (by rfl) z_list (by decide +kernel) (by decide)) (de_one (de_cmp (op_eqB (hu64 hr)) sem_eqB (do_e (de_lcF rfl nd (dic_var (pv 0)) (blkOk_by (own := [("_law_item", 4)]) (N := ["_law_thing", "_law_shown", "_law_due", "_law_found", "_law_item"]) (sc := defScope s__law_right) (by decide +kernel)) (fun _ _ _ _ _ => (dg_name (i := 4) nd rfl (.inl rfl))) (fun _ _ _ _ _ => (dts_one (dt_not (dt_tr (do_e (de_callP f__law_is_kind.ok hgd (hr.mono (by decide)) (by rfl) f__law_is_kind.g f__law_is_kind.kp f__law_is_kind.b pass0 (da_cons (do_var (pv 4)) da_nil))))))) (fun _ _ _ _ _ => (de_var (pv 4))))) (do_e (de_lst dv_nil)) (nomark _)))) dv_nil)))
      (dss_cons (ds_set (i := 3) nd rfl (.inl rfl) (de_lst (dv_cons (de_call f_is_integer.ok hgd (hr.mono (by decide)) (by rfl) f_is_integer.g f_is_integer.kp f_is_integer.b pass0 (dag_val (de_var (pv 0)) dag_nil)) (dv_cons (de_callP f_is_kind.ok hgd (hr.mono (by decide)) (by rfl) f_is_kind.g f_is_kind.kp f_is_kind.b pass0 (da_cons (do_var (pv 0)) da_nil)) (dv_cons (de_callP f_are_kinds.ok hgd (hr.mono (by decide)) (by rfl) f_are_kinds.g f_are_kinds.kp f_are_kinds.b pass0 (da_cons (do_var (pv 0)) da_nil)) dv_nil)))))
      (dss_one (ds_ret (de_and (de_cmp (op_eqA (hu64 hr)) sem_eq (do_e (de_callB (call_reprE hgd (hu64 hr)) sem_reprE (by rfl) z_repr (by decide +kernel) (da_cons (do_var (pv 3)) da_nil))) (do_e (de_callB (call_reprE hgd (hu64 hr)) sem_reprE (by rfl) z_repr (by decide +kernel) (da_cons (do_var (pv 2)) da_nil))) (nomark _)) (de_one (de_cmp (op_eqA (hu64 hr)) sem_eq (do_e (de_callB (call_reprE hgd (hu64 hr)) sem_reprE (by rfl) z_repr (by decide +kernel) (da_cons (do_var (pv 0)) da_nil))) (do_var (pv 1)) (nomark _)))))))))), fun as Q h => ?_⟩)
  case len => exact len__law_right h
  · obtain ⟨d, rfl, ⟨hK, t1, t2, t3⟩, h⟩ := h
    have hty := hK.1.1
    simp only [List.length_cons, List.length_nil, Nat.reduceAdd, Nat.reduceSub, List.replicate_succ, List.replicate_zero, List.cons_append, List.nil_append]
    refine sSeq_go fun N0 h0 => ?_
    simp_arith
    refine ⟨t1, t2, t3, h0 _ ?_⟩
    clear h0
    refine sSeq_cut (fun ρ' => ∃ (s_law_found s_law_item : Sl), ρ' = [.sh d, .sh (.rep d), .ow (.l [.bl (isIntD d), .bl (kindB d)]), s_law_found, s_law_item]) (fun N hN => ?_) ?_
    · obtain ⟨tt, ett⟩ : ∃ tt, d.ty = some tt := Option.isSome_iff_exists.mp hty
      cases d <;> first | (simp [D.ty] at hty; done) | (
        simp_arith
        refine ⟨_, rfl, hK.1, ?_⟩
        simp_arith
        exact ⟨le_size (by decide), hN _ ⟨_, _, rfl⟩⟩)
    rintro ρ' ⟨s_law_found, s_law_item, rfl⟩
    refine sSeq_cut (fun ρ' => ∃ (s_law_found s_law_item : Sl), ρ' = [.sh d, .sh (.rep d), .ow (.l [.bl (isIntD d), .bl (kindB d), .bl (kindsB d)]), s_law_found, s_law_item]) (fun N hN => ?_) ?_
    · by_cases hs : ∃ l, d = .lst l
      · obtain ⟨l, rfl⟩ := hs
        obtain ⟨hl, hk⟩ := hK.2 l rfl
        rw [kindsB_lst] at hN
        simp_arith
        refine lcL_keep (fun d => !kindB d) (fun ρ => ∃ (s_law_found s_law_item : Sl), ρ = [.sh (.lst l), .sh (.rep (.lst l)), .ow (.l [.bl (isIntD (.lst l)), .bl (kindB (.lst l))]), s_law_found, s_law_item]) (by omega) ⟨_, _, rfl⟩ ?_ ?_
        · rintro x hx N2 acc ρ hacc ⟨s_law_found, s_law_item, rfl⟩ h1 h2
          simp_arith
          refine ⟨x, rfl, hk x hx, ?_⟩
          simp_arith
          cases e : kindB x with
          | true => exact h2 (by rw [e]; rfl) _ ⟨_, _, rfl⟩
          | false => exact ⟨lt_size hacc, h1 (by rw [e]; rfl) _ ⟨_, _, rfl⟩⟩
        · rintro ρ ⟨s_law_found, s_law_item, rfl⟩
          simp_arith
          refine ⟨le_size (by decide), .inl ⟨_, rfl, rfl, ?_⟩⟩
          simp_arith
          have e : decide (l.filter (fun d => !kindB d) = []) = l.all kindB := by
            rw [Bool.eq_iff_iff, decide_eq_true_eq, List.filter_eq_nil_iff, List.all_eq_true]
            simp
          exact ⟨lt_size (by decide), hN _ ⟨_, _, by rw [e]⟩⟩
      · have hn : ∀ x, d ≠ .lst x := fun x e => hs ⟨x, e⟩
        rw [kindsB_no hn] at hN
        cases d with
        | lst x => exact (hn x rfl).elim
        | _ =>
          first
            | (simp [D.ty] at hty; done)
            | (simp_arith; exact ⟨lt_size (by decide), hN _ ⟨_, _, rfl⟩⟩)
    rintro ρ' ⟨s_law_found, s_law_item, rfl⟩
    obtain ⟨f1, f2, f3⟩ := b3_fine (isIntD d) (kindB d) (kindsB d)
    simp_arith
    refine ⟨d, rfl, hty, ?_⟩
    simp_arith
    refine ⟨d, rfl, hK.1, ?_⟩
    simp_arith
    refine ⟨d, rfl, hK, ?_⟩
    simp_arith
    refine ⟨le_size (by decide), f1, f2, f3, f1, f2, f3, gEq_rep ?_⟩
    simp_arith
    refine ⟨t1, t2, t3, gEq_rep ?_⟩
    exact h
theorem odd_th {d : D} (h : OddK d) : ThK d := ⟨h.1, kfitR_le 5 60 (by decide) d h.2.1, h.2.2.1, by have := h.2.2.2; omega⟩
/-- words of at most eight letters, and an odd value -/
theorem wts_strs9 : ∀ {l : List Str}, (∀ x ∈ l, x.length ≤ 8) → D.wts (l.map D.str) ≤ 84 * l.length
  | [], _ => by rw [List.map_nil, D.wts]; exact Nat.zero_le _
  | x :: r, h => by
    rw [List.map_cons, D.wts, D.wt, List.length_cons]
    have := h x List.mem_cons_self
    have := wts_strs9 (l := r) fun y hy => h y (List.mem_cons_of_mem _ hy)
    omega
theorem itemK {x : Str} (h : x.length ≤ 20) : KOk (.str x) ∧ D.fitR 6 (.str x) = true ∧ D.small (.str x) = true ∧ D.wt (.str x) ≤ 300 := ⟨⟨rfl, fun y e => by cases e; omega⟩, by simp [D.fitR], by simp [D.small], by rw [D.wt]; omega⟩
def ItK (d : D) : Prop := KOk d ∧ D.fitR 6 d = true ∧ D.small d = true ∧ D.wt d ≤ 300
theorem listK {l : List D} (hl : l.length ≤ 1000) (h : ∀ d ∈ l, ItK d) : KsOk (.lst l) ∧ D.fitR 30 (.lst l) = true ∧ D.small (.lst l) = true ∧ D.wt (.lst l) ≤ 400000 := by
  have hw : ∀ l : List D, (∀ d ∈ l, ItK d) → D.wts l ≤ 302 * l.length := by
    intro l
    induction l with
    | nil => intro _; rw [D.wts]; exact Nat.zero_le _
    | cons x r ih =>
      intro h
      rw [D.wts, List.length_cons]
      have := (h x List.mem_cons_self).2.2.2
      have := ih fun y hy => h y (List.mem_cons_of_mem _ hy)
      omega
  refine ⟨⟨⟨rfl, fun x e => by cases e⟩, fun m e => by cases e; exact ⟨hl, fun x hx => (h x hx).1⟩⟩, ?_, ?_, ?_⟩
  · rw [D.fitR, kfitRs_all, List.all_eq_true]
    exact fun x hx => kfitR_le 6 29 (by decide) x (h x hx).2.1
  · rw [D.small, ksmalls_all, List.all_eq_true]
    exact fun x hx => (h x hx).2.2.1
  · rw [D.wt]
    have := hw l h
    omega
theorem thL {l : List D} (hl : l.length ≤ 1000) (h : ∀ d ∈ l, ItK d) : ThK (.lst l) := by
  obtain ⟨a, b, c, d⟩ := listK hl h
  exact ⟨a, kfitR_le 30 60 (by decide) _ b, c, by omega⟩
theorem thT {l : List D} (hl : l.length ≤ 1000) (h : ∀ d ∈ l, ItK d) : ThK (.tup l) := by
  obtain ⟨a, b, c, d⟩ := listK hl h
  refine ⟨⟨⟨rfl, fun x e => by cases e⟩, fun m e => by cases e⟩, kfitR_le 30 60 (by decide) _ ?_, ?_, ?_⟩
  · have b' : D.fitRs 29 l = true := by simpa [D.fitR] using b
    simpa [D.fitR] using b'
  · have c' : D.smalls l = true := by simpa [D.small] using c
    simpa [D.small] using c'
  · have d' : D.wt (.tup l) = D.wt (.lst l) := by rw [D.wt.eq_def, D.wt.eq_def]
    omega
theorem thO {l : List D} (hl : l.length ≤ 1000) (h : ∀ d ∈ l, ItK d) : ThK (.lst [.lst l]) := by
  obtain ⟨a, b, c, d⟩ := listK hl h
  refine ⟨⟨⟨rfl, fun x e => by cases e⟩, fun m e => by cases e; exact ⟨by simp, fun x hx => by rw [List.mem_singleton.mp hx]; exact a.1⟩⟩, ?_, ?_, ?_⟩
  · rw [D.fitR, D.fitRs, D.fitRs, kfitR_le 30 59 (by decide) _ b]; rfl
  · rw [D.small, D.smalls, D.smalls, c]; rfl
  · rw [D.wt, D.wts, D.wts]; omega
theorem oddIt {d : D} (h : OddK d) : ItK d := ⟨h.1.1, kfitR_le 5 6 (by decide) d h.2.1, h.2.2.1, h.2.2.2⟩
theorem len_abc8 : (Str.ofString "abcdefgh").length = 8 := by decide +kernel
theorem kindB_8 : kindB (.str "abcdefgh") = true := kindB_iff.mpr (by unfold IsKind; decide +kernel)
theorem kindB_9 : kindB (.str "abcdefghi") = false := by
  rw [← Bool.not_eq_true, kindB_iff]
  unfold IsKind
  decide +kernel
theorem kindB_0 : kindB (.str "") = false := by
  rw [← Bool.not_eq_true, kindB_iff]
  unfold IsKind
  decide +kernel
def sp_law : SpD := fun as Q => ∃ ns : List Int, as = [.sh (.scr ns)] ∧ ns.length ≤ 63 ∧ ∀ o, Q (.v (.bl true)) o
theorem ok_law {f : Addr} {fd : FuncData} (Fn : Fun K "law" "law" s_law f fd) {a__law_bag : Addr} {d__law_bag : FuncData} (f__law_bag : Cal P w K mg base 1 "_law_bag" a__law_bag d__law_bag ["_law_script"] sp__law_bag) (z_range : mg "range" = none) {a__law_take : Addr} {d__law_take : FuncData} (f__law_take : Cal P w K mg base 1 "_law_take" a__law_take d__law_take ["_law_bag_here", "_law_many"] sp__law_take) (z_len : mg "len" = none) {a__law_other : Addr} {d__law_other : FuncData} (f__law_other : Cal P w K mg base 2 "_law_other" a__law_other d__law_other ["_law_bag_here"] sp__law_other) {a__law_word : Addr} {d__law_word : FuncData} (f__law_word : Cal P w K mg base 2 "_law_word" a__law_word d__law_word ["_law_bag_here"] sp__law_word) (z_tuple : mg "tuple" = none) {a__law_right : Addr} {d__law_right : FuncData} (f__law_right : Cal P w K mg base 3 "_law_right" a__law_right d__law_right ["_law_thing"] sp__law_right) {a_is_kind : Addr} {d_is_kind : FuncData} (f_is_kind : Cal P w K mg base 1 "is_kind" a_is_kind d_is_kind ["thing"] sp_is_kind) : FnG P w K mg base CX0 4 f fd ["_law_script"] (lift K sp_law) := by
  have nd := sc_law.nd
  refine fnD Fn sc_law (fun as Q h => ?len) (fun cdv A outer s H hgd hr => ⟨_, _,
    (dss_cons (ds_set (i := 1) nd rfl (.inr rfl) (de_call f__law_bag.ok hgd (hr.mono (by decide)) (by rfl) f__law_bag.g f__law_bag.kp f__law_bag.b pass0 (dag_val (de_var (pv 0)) dag_nil)))
      (dss_cons (ds_for PassesOwn.never rfl (di_r1 (by rfl) z_range (dv_cons de_int dv_nil)) (dg_name (i := 2) nd rfl (.inl rfl))
      (dss_cons (ds_setLcF (i := 3) rfl nd rfl rfl (sw_true rfl rfl rfl (by decide +kernel)) (dic_of (di_r1 (by rfl) z_range (dv_cons (de_call f__law_take.ok hgd (hr.mono (by decide)) (by rfl) f__law_take.g f__law_take.kp f__law_take.b pass0 (dag_bor (pv 1) (dag_val de_int dag_nil))) dv_nil))) (blkOk_by (own := [("_law_k", 8)]) (N := ["_law_script", "_law_bag_here", "_law_turn", "_law_words", "_law_at", "_law_odd", "_law_some", "_law_thing", "_law_k"]) (sc := defScope s_law) (by decide +kernel)) (fun _ _ _ _ _ => (dg_name (i := 8) nd rfl (.inl rfl))) (fun _ _ _ _ _ => dts_nil) (fun _ _ _ _ _ => (de_slice (do_e de_str) dop_none (dop_some (de_op op_addA sem_addA (do_e de_int) (do_e (de_call f__law_take.ok hgd (hr.mono (by decide)) (by rfl) f__law_take.g f__law_take.kp f__law_take.b pass0 (dag_bor (pv 1) (dag_val de_int dag_nil)))))))))
      (dss_cons (ds_set (i := 4) nd rfl (.inl rfl) (de_call f__law_take.ok hgd (hr.mono (by decide)) (by rfl) f__law_take.g f__law_take.kp f__law_take.b pass0 (dag_bor (pv 1) (dag_val (de_op op_addA sem_addA (do_e (de_callB call_lenA sem_len (by rfl) z_len (by decide +kernel) (da_cons (do_var (pv 3)) da_nil))) (do_e de_int)) dag_nil))))
      (dss_cons (ds_set (i := 5) nd rfl (.inl rfl) (de_ix (hu1 hr) (do_e (de_lst (dv_cons (de_call f__law_word.ok hgd (hr.mono (by decide)) (by rfl) f__law_word.g f__law_word.kp f__law_word.b pass0 (dag_bor (pv 1) dag_nil)) (dv_cons (de_call f__law_other.ok hgd (hr.mono (by decide)) (by rfl) f__law_other.g f__law_other.kp f__law_other.b pass0 (dag_bor (pv 1) dag_nil)) dv_nil)))) (do_e (de_call f__law_take.ok hgd (hr.mono (by decide)) (by rfl) f__law_take.g f__law_take.kp f__law_take.b pass0 (dag_bor (pv 1) (dag_val de_int dag_nil))))))
      (dss_cons (ds_set (i := 6) nd rfl (.inl rfl) (de_lst (dv_cons (de_var (pv 3)) (dv_cons (de_op op_addA sem_addA (do_e (de_op op_addA sem_addA (do_e (de_slice (do_var (pv 3)) dop_none (dop_some (de_var (pv 4))))) (do_e (de_lst (dv_cons (de_var (pv 5)) dv_nil))))) (do_e (de_slice (do_var (pv 3)) (dop_some (de_var (pv 4))) dop_none))) (dv_cons (de_callTy call_tupA sem_tup (by rfl) z_tuple (by decide +kernel) (da_cons (do_var (pv 3)) da_nil)) (dv_cons (de_lst (dv_cons (de_var (pv 3)) dv_nil)) (dv_cons (de_op op_addA sem_addA (do_var (pv 3)) (do_e (de_slice (do_var (pv 3)) dop_none (dop_some (de_var (pv 4)))))) dv_nil)))))))
      (dss_cons (ds_expr (de_append (pv 6) (dv_cons (de_op op_addA sem_addA (do_e (de_op op_addA sem_addA (do_e (de_slice (do_e (de_op op_mulA sem_mulA (do_var (pv 3)) (do_e de_int))) dop_none (dop_some (de_call f__law_take.ok hgd (hr.mono (by decide)) (by rfl) f__law_take.g f__law_take.kp f__law_take.b pass0 (dag_bor (pv 1) (dag_val de_int dag_nil)))))) (do_e (de_lst (dv_cons (de_var (pv 5)) dv_nil))))) (do_var (pv 3))) dv_nil)))
      (dss_one (ds_for PassesOwn.never rfl (di_e (de_lst (dv_cons (de_call f__law_word.ok hgd (hr.mono (by decide)) (by rfl) f__law_word.g f__law_word.kp f__law_word.b pass0 (dag_bor (pv 1) dag_nil)) (dv_cons (de_call f__law_other.ok hgd (hr.mono (by decide)) (by rfl) f__law_other.g f__law_other.kp f__law_other.b pass0 (dag_bor (pv 1) dag_nil)) (dv_cons (de_ix (hu1 hr) (do_var (pv 6)) (do_e (de_call f__law_take.ok hgd (hr.mono (by decide)) (by rfl) f__law_take.g f__law_take.kp f__law_take.b pass0 (dag_bor (pv 1) (dag_val de_int dag_nil))))) dv_nil))))) (dg_name (i := 7) nd rfl (.inl rfl))
      (dss_one (ds_if (dt_not (dt_tr (do_e (de_call f__law_right.ok hgd (hr.mono (by decide)) (by rfl) f__law_right.g f__law_right.kp f__law_right.b pass0 (dag_val (de_var (pv 7)) dag_nil))))) (dss_one (ds_ret de_bl)) dss_nil))))))))))
      (dss_one (ds_ret (de_and (de_callP f_is_kind.ok hgd (hr.mono (by decide)) (by rfl) f_is_kind.g f_is_kind.kp f_is_kind.b pass0 (da_cons (do_e de_str) da_nil)) (de_and (de_not (de_callP f_is_kind.ok hgd (hr.mono (by decide)) (by rfl) f_is_kind.g f_is_kind.kp f_is_kind.b pass0 (da_cons (do_e de_str) da_nil))) (de_one (de_not (de_callP f_is_kind.ok hgd (hr.mono (by decide)) (by rfl) f_is_kind.g f_is_kind.kp f_is_kind.b pass0 (da_cons (do_e de_str) da_nil)))))))))), fun as Q h => ?_⟩)
  case len => obtain ⟨_, rfl, _⟩ := h; rfl
  · obtain ⟨ns, rfl, hl, h⟩ := h
    simp only [List.length_cons, List.length_nil, Nat.reduceAdd, Nat.reduceSub, List.replicate_succ, List.replicate_zero, List.cons_append, List.nil_append]
    refine sSeq_go fun N0 h0 => ?_
    simp_arith
    refine ⟨ns, rfl, hl, fun c hB => ?_⟩
    simp_arith
    refine h0 _ ?_
    clear h0
    refine sSeq_cut (fun ρ' => ∃ (s_law_bag_here s_law_turn s_law_words s_law_at s_law_odd s_law_some s_law_thing s_law_k : Sl), ρ' = [.sh (.scr ns), s_law_bag_here, s_law_turn, s_law_words, s_law_at, s_law_odd, s_law_some, s_law_thing, s_law_k]) (fun N hN => ?_) ?_
    rotate_left
    · rintro ρ' ⟨s_law_bag_here, s_law_turn, s_law_words, s_law_at, s_law_odd, s_law_some, s_law_thing, s_law_k, rfl⟩
      simp_arith
      have k8 := kindB_8
      have k9 := kindB_9
      have k0 := kindB_0
      refine ⟨_, rfl, ⟨rfl, fun x e => by cases e; decide +kernel⟩, ?_⟩
      simp_arith [k8]
      refine ⟨_, rfl, ⟨rfl, fun x e => by cases e; decide +kernel⟩, ?_⟩
      simp_arith [k8, k9, k0]
      refine ⟨_, rfl, ⟨rfl, fun x e => by cases e; decide +kernel⟩, ?_⟩
      simp_arith [k8, k9, k0]
      exact h _
    simp_arith [big]
    refine ⟨by decide, by decide, forL_rng (fun i ρ => ∃ c, Bag (1000000000 - 10000000 * i) c ∧ ∃ (s_law_turn s_law_words s_law_at s_law_odd s_law_some s_law_thing s_law_k : Sl), ρ = [.sh (.scr ns), .ow c, s_law_turn, s_law_words, s_law_at, s_law_odd, s_law_some, s_law_thing, s_law_k]) ⟨c, hB, _, _, _, _, _, _, _, rfl⟩ ?_ ?_⟩
    · rintro ρ ⟨c, hB2, s_law_turn, s_law_words, s_law_at, s_law_odd, s_law_some, s_law_thing, s_law_k, rfl⟩
      exact hN _ ⟨_, _, _, _, _, _, _, _, rfl⟩
    clear hN h hB c
    rintro i ρ N2 hi hN2 ⟨c, hB2, s_law_turn, s_law_words, s_law_at, s_law_odd, s_law_some, s_law_thing, s_law_k, rfl⟩
    have hi9 : i < 40 := by
      have : i < 8 := by simpa using hi
      omega
    clear hi
    obtain ⟨B, eB⟩ : ∃ B, 1000000000 - 10000000 * i = B + 10000000 := ⟨1000000000 - 10000000 * i - 10000000, by omega⟩
    rw [eB] at hB2
    replace hN2 : ∀ c ρ', Bag B c → (∃ (s_law_turn s_law_words s_law_at s_law_odd s_law_some s_law_thing s_law_k : Sl), ρ' = [.sh (.scr ns), .ow c, s_law_turn, s_law_words, s_law_at, s_law_odd, s_law_some, s_law_thing, s_law_k]) → N2 ρ' := fun c ρ' z e => hN2 ρ' ⟨c, z.le (by omega), e⟩
    clear eB hi9
    simp only [gN, gT, gUL, gsNil, gsCons, List.length_cons, List.length_nil, Nat.reduceAdd, Nat.zero_add, List.set_cons_succ, List.set_cons_zero, true_and]
    refine sSeq_cut (fun ρ' => ∃ (c : Cn) (ws : List Str), Bag (B + 9000000) c ∧ ws.length ≤ 8 ∧ (∀ x ∈ ws, x.length ≤ 8) ∧ ∃ (s_law_turn s_law_at s_law_odd s_law_some s_law_thing s_law_k : Sl), ρ' = [.sh (.scr ns), .ow c, s_law_turn, .ow (.l (ws.map D.str)), s_law_at, s_law_odd, s_law_some, s_law_thing, s_law_k]) (fun N hN => ?_) ?_
    · simp_arith [big]
      refine ⟨B + 9500000, c, 9, rfl, hB2.le (by omega), by decide, by decide, fun v c2 hB3 hv0 hv1 => ?_⟩
      simp_arith [big]
      refine ⟨by omega, by omega, ?_⟩
      refine lcL_rng (fun i acc ρ => i ≤ 8 ∧ ∃ (c' : Cn) (l : List Str), Bag (B + (9500000 - i)) c' ∧ acc = l.map D.str ∧ l.length = i ∧ (∀ x ∈ l, x.length ≤ 8) ∧ ∃ (s_law_turn s_law_words s_law_at s_law_odd s_law_some s_law_thing s_law_k : Sl), ρ = [.sh (.scr ns), .ow c', s_law_turn, s_law_words, s_law_at, s_law_odd, s_law_some, s_law_thing, s_law_k]) ⟨by omega, c2, [], hB3, rfl, rfl, by simp, _, _, _, _, _, _, _, rfl⟩ ?_ ?_
      · rintro acc ρ ⟨_, c3, l, hB4, rfl, hl, hx, s_law_turn, s_law_words, s_law_at, s_law_odd, s_law_some, s_law_thing, s_law_k, rfl⟩
        simp_arith
        exact hN _ ⟨c3, l, hB4.le (by omega), by omega, hx, _, _, _, _, _, _, rfl⟩
      · rintro i acc ρ N3 hi hN3 ⟨_, c3, l, hB4, rfl, hl, hx, s_law_turn, s_law_words, s_law_at, s_law_odd, s_law_some, s_law_thing, s_law_k, rfl⟩
        simp_arith
        refine ⟨B + (9500000 - (i + 1)), c3, 8, rfl, hB4.le (by omega), by decide, by decide, fun w c4 hB5 hw0 hw1 => ?_⟩
        simp_arith
        refine ⟨le_size (by rw [len_abc8]; decide), lt_size (by rw [List.length_map]; omega), hN3 _ _ ⟨by omega, c4, l ++ [_], hB5, by rw [List.map_append]; rfl, by rw [List.length_append, hl]; rfl, fun x hx2 => ?_, _, _, _, _, _, _, _, rfl⟩⟩
        rcases List.mem_append.mp hx2 with z | z
        · exact hx x z
        · rw [List.mem_singleton.mp z]
          have := klen_cut (Str.ofString "abcdefgh") none (some (1 + w))
          rw [len_abc8] at this
          exact this
    clear hB2 c
    rintro ρ' ⟨c, ws, hB2, hw1, hw2, s_law_turn, s_law_at, s_law_odd, s_law_some, s_law_thing, s_law_k, rfl⟩
    refine sSeq_cut (fun ρ' => ∃ (c : Cn) (a : Nat), Bag (B + 8000000) c ∧ ∃ (s_law_turn s_law_odd s_law_some s_law_thing s_law_k : Sl), ρ' = [.sh (.scr ns), .ow c, s_law_turn, .ow (.l (ws.map D.str)), .sh (.int (a : Nat)), s_law_odd, s_law_some, s_law_thing, s_law_k]) (fun N hN => ?_) ?_
    · simp_arith [List.length_map]
      refine ⟨B + 8000000, c, _, rfl, hB2.le (by omega), by omega, by omega, fun v c2 hB3 hv0 hv1 => ?_⟩
      obtain ⟨a, rfl⟩ := Int.eq_ofNat_of_zero_le hv0
      simp_arith
      exact hN _ ⟨c2, a, hB3, _, _, _, _, _, rfl⟩
    clear hB2 c
    rintro ρ' ⟨c, a, hB2, s_law_turn, s_law_odd, s_law_some, s_law_thing, s_law_k, rfl⟩
    refine sSeq_cut (fun ρ' => ∃ (c : Cn) (o : D), Bag (B + 7000000) c ∧ ItK o ∧ ∃ (s_law_turn s_law_some s_law_thing s_law_k : Sl), ρ' = [.sh (.scr ns), .ow c, s_law_turn, .ow (.l (ws.map D.str)), .sh (.int (a : Nat)), .sh o, s_law_some, s_law_thing, s_law_k]) (fun N hN => ?_) ?_
    · simp_arith
      refine ⟨B + 7600000, c, rfl, hB2.le (by omega), fun x c2 hB3 hx => ?_⟩
      simp_arith
      refine ⟨B + 7400000, c2, rfl, hB3.le (by omega), fun o c3 hB4 ho => ?_⟩
      simp_arith
      refine ⟨le_size (by decide), B + 7000000, c3, 2, rfl, hB4.le (by omega), by decide, by decide, fun v c4 hB5 hv0 hv1 => ?_⟩
      simp_arith
      have : v = 0 ∨ v = 1 := by omega
      rcases this with rfl | rfl
      · exact ⟨_, atI_0, hN _ ⟨c4, _, hB5, itemK hx, _, _, _, _, rfl⟩⟩
      · exact ⟨_, atI_1, hN _ ⟨c4, _, hB5, oddIt ho, _, _, _, _, rfl⟩⟩
    clear hB2 c
    rintro ρ' ⟨c, o, hB2, ho, s_law_turn, s_law_some, s_law_thing, s_law_k, rfl⟩
    have hwI : ∀ d ∈ ws.map D.str, ItK d := fun d hd => by
      obtain ⟨x, hx, rfl⟩ := List.mem_map.mp hd
      exact itemK (by have := hw2 x hx; omega)
    have hct : ∀ lo hi, ∀ d ∈ cut (ws.map D.str) lo hi, ItK d := fun lo hi d hd => hwI d (cut_mem hd)
    have hcl : ∀ lo hi, (cut (ws.map D.str) lo hi).length ≤ 8 := fun lo hi => by have := cut_le (ws.map D.str) lo hi; rw [List.length_map] at this; omega
    have app : ∀ {u v : List D}, (∀ d ∈ u, ItK d) → (∀ d ∈ v, ItK d) → ∀ d ∈ u ++ v, ItK d := fun h1 h2 d hd => by
      rcases List.mem_append.mp hd with z | z
      · exact h1 d z
      · exact h2 d z
    have one : ∀ d ∈ [o], ItK d := fun d hd => by rw [List.mem_singleton.mp hd]; exact ho
    have hz0 := hcl none (some (a : Int))
    have hz1 := hcl (some (a : Int)) none
    have hwl : (ws.map D.str).length ≤ 8 := by rw [List.length_map]; exact hw1
    refine sSeq_cut (fun ρ' => ∃ ls : List D, ls.length = 5 ∧ (∀ d ∈ ls, ThK d) ∧ ∃ (s_law_turn s_law_at s_law_thing s_law_k : Sl), ρ' = [.sh (.scr ns), .ow c, s_law_turn, .sh (.lst (ws.map D.str)), s_law_at, .sh o, .ow (.l ls), s_law_thing, s_law_k]) (fun N hN => ?_) ?_
    · simp_arith
      refine ⟨le_size (by decide), le_size (by omega), le_size (by rw [List.length_append, List.length_singleton]; omega), le_size (by decide), le_size (by omega), le_size (by decide), hN _ ⟨_, ?_, ?_, _, _, _, _, rfl⟩⟩
      · rfl
      · intro d hd
        simp only [List.mem_cons, List.not_mem_nil, or_false] at hd
        rcases hd with rfl | rfl | rfl | rfl | rfl
        · exact thL (by omega) hwI
        · exact thL (by rw [List.length_append, List.length_append, List.length_singleton]; omega) (app (app (hct _ _) one) (hct _ _))
        · exact thT (by omega) hwI
        · exact thO (by omega) hwI
        · exact thL (by rw [List.length_append]; omega) (app hwI (hct _ _))
    rintro ρ' ⟨ls, hls1, hls2, s_law_turn, s_law_at, s_law_thing, s_law_k, rfl⟩
    refine sSeq_cut (fun ρ' => ∃ (c : Cn) (ls : List D), Bag (B + 6000000) c ∧ ls.length = 6 ∧ (∀ d ∈ ls, ThK d) ∧ ∃ (s_law_turn s_law_at s_law_thing s_law_k : Sl), ρ' = [.sh (.scr ns), .ow c, s_law_turn, .sh (.lst (ws.map D.str)), s_law_at, .sh o, .ow (.l ls), s_law_thing, s_law_k]) (fun N hN => ?_) ?_
    · simp_arith
      refine ⟨by decide, by decide, le_size (by rw [List.length_map]; show ws.length * 25 ≤ _; omega), B + 6000000, c, 201, rfl, hB2.le (by omega), by decide, by decide, fun v c2 hB3 hv0 hv1 => ?_⟩
      have hr : ∀ d ∈ (List.replicate (Int.toNat 25) (ws.map D.str)).flatten, ItK d := fun d hd => by
        obtain ⟨l, hl, hx⟩ := List.mem_flatten.mp hd
        rw [List.eq_of_mem_replicate hl] at hx
        exact hwI d hx
      have hrl : ((List.replicate (Int.toNat 25) (ws.map D.str)).flatten).length ≤ 200 := by
        rw [List.length_flatten, List.map_replicate, List.sum_replicate_nat, List.length_map]
        show 25 * ws.length ≤ 200
        omega
      have hcr := cut_le ((List.replicate (Int.toNat 25) (ws.map D.str)).flatten) none (some v)
      have hcm : ∀ d ∈ cut ((List.replicate (Int.toNat 25) (ws.map D.str)).flatten) none (some v), ItK d := fun d hd => hr d (cut_mem hd)
      simp_arith
      refine ⟨le_size (by decide), le_size (by omega), le_size (by rw [List.length_append, List.length_singleton]; omega), lt_size (by omega), hN _ ⟨c2, _, hB3, ?_, ?_, _, _, _, _, rfl⟩⟩
      · rw [List.length_append, hls1]; rfl
      · intro d hd
        rcases List.mem_append.mp hd with z | z
        · exact hls2 d z
        · rw [List.mem_singleton.mp z]
          exact thL (by rw [List.length_append, List.length_append, List.length_singleton]; omega) (app (app hcm one) hwI)
    clear hB2 c hls1 hls2 ls
    rintro ρ' ⟨c, ls, hB2, hls1, hls2, s_law_turn, s_law_at, s_law_thing, s_law_k, rfl⟩
    simp_arith
    refine ⟨B + 5000000, c, rfl, hB2.le (by omega), fun x c2 hB3 hx => ?_⟩
    simp_arith
    refine ⟨B + 4000000, c2, rfl, hB3.le (by omega), fun od c3 hB4 hod => ?_⟩
    simp_arith
    refine ⟨B + 3000000, c3, 6, rfl, hB4.le (by omega), by decide, by decide, fun v c4 hB5 hv0 hv1 => ?_⟩
    simp_arith
    have hv : v.toNat < ls.length := by omega
    refine ⟨ls[v.toNat], atI_int hv0 (List.getElem?_eq_getElem hv), le_size (by decide), ?_⟩
    have hth : ∀ d ∈ [D.str x, od, ls[v.toNat]], ThK d := fun d hd => by
      simp only [List.mem_cons, List.not_mem_nil, or_false] at hd
      rcases hd with rfl | rfl | rfl
      · obtain ⟨i1, i2, i3, i4⟩ := itemK hx
        exact ⟨⟨i1, fun l e => by cases e⟩, kfitR_le 6 60 (by decide) _ i2, i3, by omega⟩
      · exact odd_th hod
      · exact hls2 _ (List.getElem_mem hv)
    rw [← List.map_id [D.str x, od, ls[v.toNat]]]
    refine forL_each id (fun ρ => ∃ (s_law_turn s_law_words s_law_at s_law_odd s_law_some s_law_thing s_law_k : Sl), ρ = [.sh (.scr ns), .ow c4, s_law_turn, s_law_words, s_law_at, s_law_odd, s_law_some, s_law_thing, s_law_k]) ⟨_, _, _, _, _, _, _, rfl⟩ ?_ ?_
    · rintro ρ ⟨s_law_turn, s_law_words, s_law_at, s_law_odd, s_law_some, s_law_thing, s_law_k, rfl⟩
      exact hN2 c4 _ (hB5.le (by omega)) ⟨_, _, _, _, _, _, _, rfl⟩
    · rintro d hd ρ N3 hN3 ⟨s_law_turn, s_law_words, s_law_at, s_law_odd, s_law_some, s_law_thing, s_law_k, rfl⟩
      simp only [gN, gT, gUL, gsNil, gsCons, List.length_cons, List.length_nil, Nat.reduceAdd, Nat.zero_add, List.set_cons_succ, List.set_cons_zero, true_and, id]
      refine sIf_go fun T hT hF => ?_
      simp_arith
      refine ⟨d, rfl, hth d hd, ?_⟩
      simp_arith
      refine hF _ ?_
      simp only [sNext]
      exact hN3 _ ⟨_, _, _, _, _, _, _, rfl⟩
end
theorem all_mk {l : PySem.W.OpenLaw} {w : World} {K : PySem.W.Frag} {h : Heap} {mg : Str → Option Value} {fa : Addr} (X : K.In h) (G : h.Ns mainGlobals mg) (hfa : mg "law" = some (.ref fa))
    {f0 f1 f2 f3 f4 f5 f6 f7 f8 f9 : Addr} {od0 an0 od1 an1 od2 an2 od3 an3 od4 an4 od5 an5 od6 an6 od7 an7 od8 an8 od9 an9 : Option Addr} {sl0 sl1 sl2 sl3 sl4 sl5 sl6 sl7 sl8 sl9 : Array (Option Value)} {oc0 kV0 dc0 pm0 cd0 ct0 oc1 kV1 dc1 pm1 cd1 ct1 oc2 kV2 dc2 pm2 cd2 ct2 oc3 kV3 dc3 pm3 cd3 ct3 oc4 kV4 dc4 pm4 cd4 ct4 oc5 kV5 dc5 pm5 cd5 ct5 oc6 kV6 dc6 pm6 cd6 ct6 oc7 kV7 dc7 pm7 cd7 ct7 oc8 kV8 dc8 pm8 cd8 ct8 oc9 kV9 dc9 pm9 cd9 ct9 : Value}
    {t_MOST_LETTERS t_LETTERS : Tok}
    (a0 : PySem.W.nsIn K mainGlobals "_law_bag" = some (some (.ref f0)))
    (l0 : K.lookup f0 = some ⟨oc0, od0, .func (PySem.W.fnOf "_law_bag" "_law_bag" (defArgs s__law_bag) (defBody s__law_bag) (defScope s__law_bag) .none kV0 dc0 pm0 an0 cd0 ct0), sl0⟩)
    (c0 : PySem.W.codeIn K cd0 "_law_bag" = true)
    (k0 : PySem.W.keepIn K (.ref f0) = true)
    (a1 : PySem.W.nsIn K mainGlobals "_law_take" = some (some (.ref f1)))
    (l1 : K.lookup f1 = some ⟨oc1, od1, .func (PySem.W.fnOf "_law_take" "_law_take" (defArgs s__law_take) (defBody s__law_take) (defScope s__law_take) .none kV1 dc1 pm1 an1 cd1 ct1), sl1⟩)
    (c1 : PySem.W.codeIn K cd1 "_law_take" = true)
    (k1 : PySem.W.keepIn K (.ref f1) = true)
    (a2 : PySem.W.nsIn K mainGlobals "_law_other" = some (some (.ref f2)))
    (l2 : K.lookup f2 = some ⟨oc2, od2, .func (PySem.W.fnOf "_law_other" "_law_other" (defArgs s__law_other) (defBody s__law_other) (defScope s__law_other) .none kV2 dc2 pm2 an2 cd2 ct2), sl2⟩)
    (c2 : PySem.W.codeIn K cd2 "_law_other" = true)
    (k2 : PySem.W.keepIn K (.ref f2) = true)
    (a3 : PySem.W.nsIn K mainGlobals "_law_word" = some (some (.ref f3)))
    (l3 : K.lookup f3 = some ⟨oc3, od3, .func (PySem.W.fnOf "_law_word" "_law_word" (defArgs s__law_word) (defBody s__law_word) (defScope s__law_word) .none kV3 dc3 pm3 an3 cd3 ct3), sl3⟩)
    (c3 : PySem.W.codeIn K cd3 "_law_word" = true)
    (k3 : PySem.W.keepIn K (.ref f3) = true)
    (a4 : PySem.W.nsIn K mainGlobals "_law_is_kind" = some (some (.ref f4)))
    (l4 : K.lookup f4 = some ⟨oc4, od4, .func (PySem.W.fnOf "_law_is_kind" "_law_is_kind" (defArgs s__law_is_kind) (defBody s__law_is_kind) (defScope s__law_is_kind) .none kV4 dc4 pm4 an4 cd4 ct4), sl4⟩)
    (c4 : PySem.W.codeIn K cd4 "_law_is_kind" = true)
    (k4 : PySem.W.keepIn K (.ref f4) = true)
    (a5 : PySem.W.nsIn K mainGlobals "is_kind" = some (some (.ref f5)))
    (l5 : K.lookup f5 = some ⟨oc5, od5, .func (PySem.W.fnOf "is_kind" "is_kind" (defArgs s_is_kind) (defBody s_is_kind) (defScope s_is_kind) .none kV5 dc5 pm5 an5 cd5 ct5), sl5⟩)
    (c5 : PySem.W.codeIn K cd5 "is_kind" = true)
    (k5 : PySem.W.keepIn K (.ref f5) = true)
    (a6 : PySem.W.nsIn K mainGlobals "are_kinds" = some (some (.ref f6)))
    (l6 : K.lookup f6 = some ⟨oc6, od6, .func (PySem.W.fnOf "are_kinds" "are_kinds" (defArgs s_are_kinds) (defBody s_are_kinds) (defScope s_are_kinds) .none kV6 dc6 pm6 an6 cd6 ct6), sl6⟩)
    (c6 : PySem.W.codeIn K cd6 "are_kinds" = true)
    (k6 : PySem.W.keepIn K (.ref f6) = true)
    (a7 : PySem.W.nsIn K mainGlobals "is_integer" = some (some (.ref f7)))
    (l7 : K.lookup f7 = some ⟨oc7, od7, .func (PySem.W.fnOf "is_integer" "is_integer" (defArgs s_is_integer) (defBody s_is_integer) (defScope s_is_integer) .none kV7 dc7 pm7 an7 cd7 ct7), sl7⟩)
    (c7 : PySem.W.codeIn K cd7 "is_integer" = true)
    (k7 : PySem.W.keepIn K (.ref f7) = true)
    (a8 : PySem.W.nsIn K mainGlobals "_law_right" = some (some (.ref f8)))
    (l8 : K.lookup f8 = some ⟨oc8, od8, .func (PySem.W.fnOf "_law_right" "_law_right" (defArgs s__law_right) (defBody s__law_right) (defScope s__law_right) .none kV8 dc8 pm8 an8 cd8 ct8), sl8⟩)
    (c8 : PySem.W.codeIn K cd8 "_law_right" = true)
    (k8 : PySem.W.keepIn K (.ref f8) = true)
    (a9 : PySem.W.nsIn K mainGlobals "law" = some (some (.ref f9)))
    (l9 : K.lookup f9 = some ⟨oc9, od9, .func (PySem.W.fnOf "law" "law" (defArgs s_law) (defBody s_law) (defScope s_law) .none kV9 dc9 pm9 an9 cd9 ct9), sl9⟩)
    (c9 : PySem.W.codeIn K cd9 "law" = true)
    (k9 : PySem.W.keepIn K (.ref f9) = true)
    (z_abs : PySem.W.nsIn K mainGlobals "abs" = some none)
    (z_len : PySem.W.nsIn K mainGlobals "len" = some none)
    (z_range : PySem.W.nsIn K mainGlobals "range" = some none)
    (z_isinstance : PySem.W.nsIn K mainGlobals "isinstance" = some none)
    (z_str : PySem.W.nsIn K mainGlobals "str" = some none)
    (z_all : PySem.W.nsIn K mainGlobals "all" = some none)
    (z_list : PySem.W.nsIn K mainGlobals "list" = some none)
    (z_bool : PySem.W.nsIn K mainGlobals "bool" = some none)
    (z_int : PySem.W.nsIn K mainGlobals "int" = some none)
    (z_repr : PySem.W.nsIn K mainGlobals "repr" = some none)
    (z_tuple : PySem.W.nsIn K mainGlobals "tuple" = some none)
    (c_MOST_LETTERS : PySem.W.nsIn K mainGlobals "MOST_LETTERS" = some (some (.int 8 t_MOST_LETTERS)))
    (c_LETTERS : PySem.W.nsIn K mainGlobals "LETTERS" = some (some (.str "abcdefghijklmnopqrstuvwxyz" t_LETTERS)))
    : ∃ fd : FuncData, (∀ (s : Shared) (v : Value), BindsTo s fd ⟨[v], []⟩ [("_law_script", v)]) ∧ ∀ base : Heap, K.In base → base.Ns mainGlobals mg → FnG l.prog w K mg base CX0 4 fa fd ["_law_script"] (lift K sp_law) := by
  have e := hfa.symm.trans (PySem.W.mg_of X G a9)
  cases e
  have F0 := fun_mk (st := s__law_bag) l0 c0 k0
  have b0 := F0.binds (ps := ["_law_script"]) fun _ _ _ _ _ _ us hl => match us, hl with | [_], _ => rfl
  have F1 := fun_mk (st := s__law_take) l1 c1 k1
  have b1 := F1.binds (ps := ["_law_bag_here", "_law_many"]) fun _ _ _ _ _ _ us hl => match us, hl with | [_, _], _ => rfl
  have F2 := fun_mk (st := s__law_other) l2 c2 k2
  have b2 := F2.binds (ps := ["_law_bag_here"]) fun _ _ _ _ _ _ us hl => match us, hl with | [_], _ => rfl
  have F3 := fun_mk (st := s__law_word) l3 c3 k3
  have b3 := F3.binds (ps := ["_law_bag_here"]) fun _ _ _ _ _ _ us hl => match us, hl with | [_], _ => rfl
  have F4 := fun_mk (st := s__law_is_kind) l4 c4 k4
  have b4 := F4.binds (ps := ["_law_thing"]) fun _ _ _ _ _ _ us hl => match us, hl with | [_], _ => rfl
  have F5 := fun_mk (st := s_is_kind) l5 c5 k5
  have b5 := F5.binds (ps := ["thing"]) fun _ _ _ _ _ _ us hl => match us, hl with | [_], _ => rfl
  have F6 := fun_mk (st := s_are_kinds) l6 c6 k6
  have b6 := F6.binds (ps := ["thing"]) fun _ _ _ _ _ _ us hl => match us, hl with | [_], _ => rfl
  have F7 := fun_mk (st := s_is_integer) l7 c7 k7
  have b7 := F7.binds (ps := ["thing"]) fun _ _ _ _ _ _ us hl => match us, hl with | [_], _ => rfl
  have F8 := fun_mk (st := s__law_right) l8 c8 k8
  have b8 := F8.binds (ps := ["_law_thing"]) fun _ _ _ _ _ _ us hl => match us, hl with | [_], _ => rfl
  have F9 := fun_mk (st := s_law) l9 c9 k9
  have b9 := F9.binds (ps := ["_law_script"]) fun _ _ _ _ _ _ us hl => match us, hl with | [_], _ => rfl
  refine ⟨PySem.W.fnOf "law" "law" (defArgs s_law) (defBody s_law) (defScope s_law) .none kV9 dc9 pm9 an9 cd9 ct9, fun s v => .of_eq rfl, fun base hK hG => ?_⟩
  have C0 : Cal l.prog w K mg base 1 "_law_bag" f0 _ ["_law_script"] sp__law_bag := ⟨PySem.W.mg_of X G a0, k0, b0, ok__law_bag (P := l.prog) (w := w) (mg := mg) (base := base)  F0 (PySem.W.mg_none_of X G z_abs)⟩
  have C1 : Cal l.prog w K mg base 1 "_law_take" f1 _ ["_law_bag_here", "_law_many"] sp__law_take := ⟨PySem.W.mg_of X G a1, k1, b1, ok__law_take (P := l.prog) (w := w) (mg := mg) (base := base)  F1 (PySem.W.mg_none_of X G z_len)⟩
  have C2 : Cal l.prog w K mg base 2 "_law_other" f2 _ ["_law_bag_here"] sp__law_other := ⟨PySem.W.mg_of X G a2, k2, b2, ok__law_other (P := l.prog) (w := w) (mg := mg) (base := base)  F2 C1⟩
  have C3 : Cal l.prog w K mg base 2 "_law_word" f3 _ ["_law_bag_here"] sp__law_word := ⟨PySem.W.mg_of X G a3, k3, b3, ok__law_word (P := l.prog) (w := w) (mg := mg) (base := base)  F3 (PySem.W.mg_none_of X G z_range) C1 (PySem.W.mg_none_of X G z_len)⟩
  have C4 : Cal l.prog w K mg base 1 "_law_is_kind" f4 _ ["_law_thing"] sp__law_is_kind := ⟨PySem.W.mg_of X G a4, k4, b4, ok__law_is_kind (P := l.prog) (w := w) (mg := mg) (base := base)  F4 (PySem.W.mg_none_of X G z_len) (PySem.W.mg_none_of X G z_isinstance) (PySem.W.mg_none_of X G z_str)⟩
  have C5 : Cal l.prog w K mg base 1 "is_kind" f5 _ ["thing"] sp_is_kind := ⟨PySem.W.mg_of X G a5, k5, b5, ok_is_kind (P := l.prog) (w := w) (mg := mg) (base := base)  F5 (PySem.W.mg_none_of X G z_len) (PySem.W.mg_of X G c_MOST_LETTERS) (PySem.W.mg_none_of X G z_isinstance) (PySem.W.mg_none_of X G z_str) (PySem.W.mg_none_of X G z_all) (PySem.W.mg_of X G c_LETTERS)⟩
  have C6 : Cal l.prog w K mg base 2 "are_kinds" f6 _ ["thing"] sp_are_kinds := ⟨PySem.W.mg_of X G a6, k6, b6, ok_are_kinds (P := l.prog) (w := w) (mg := mg) (base := base)  F6 (PySem.W.mg_none_of X G z_all) C5 (PySem.W.mg_none_of X G z_isinstance) (PySem.W.mg_none_of X G z_list)⟩
  have C7 : Cal l.prog w K mg base 1 "is_integer" f7 _ ["thing"] sp_is_integer := ⟨PySem.W.mg_of X G a7, k7, b7, ok_is_integer (P := l.prog) (w := w) (mg := mg) (base := base)  F7 (PySem.W.mg_none_of X G z_isinstance) (PySem.W.mg_none_of X G z_bool) (PySem.W.mg_none_of X G z_int)⟩
  have C8 : Cal l.prog w K mg base 3 "_law_right" f8 _ ["_law_thing"] sp__law_right := ⟨PySem.W.mg_of X G a8, k8, b8, ok__law_right (P := l.prog) (w := w) (mg := mg) (base := base)  F8 (PySem.W.mg_none_of X G z_repr) C4 (PySem.W.mg_none_of X G z_isinstance) (PySem.W.mg_none_of X G z_bool) (PySem.W.mg_none_of X G z_int) (PySem.W.mg_none_of X G z_list) C6 C5 C7⟩
  exact ok_law (P := l.prog) (w := w) (mg := mg) (base := base)  F9 C0 (PySem.W.mg_none_of X G z_range) C1 (PySem.W.mg_none_of X G z_len) C2 C3 (PySem.W.mg_none_of X G z_tuple) C8 C5
end LW
open PySem PySem.W PyProof.Rows
set_option maxHeartbeats 0 in
theorem PySem.Challenge.cw_suitedpairs_k11_kinds_known_holds : PySem.Challenge.rw_suitedpairs_k11_kinds_known.Holds := by
  w_on; o_law; k_head; (case hw => w_witness2)
  k_fill
  refine DL.walkG (l := PySem.Challenge.rw_suitedpairs_k11_kinds_known) (n := 63) (k := 4) (x := "_law_script") rfl (by decide) rfl ⟨rfl, by decide, by decide⟩ (fun w h Y => PySem.W.kIn_of Y) ?F
  case F =>
    intro w mg fa h KX G hmg
    refine' LW.all_mk KX G hmg ?a0 ?l0 ?c0 ?k0 ?a1 ?l1 ?c1 ?k1 ?a2 ?l2 ?c2 ?k2 ?a3 ?l3 ?c3 ?k3 ?a4 ?l4 ?c4 ?k4 ?a5 ?l5 ?c5 ?k5 ?a6 ?l6 ?c6 ?k6 ?a7 ?l7 ?c7 ?k7 ?a8 ?l8 ?c8 ?k8 ?a9 ?l9 ?c9 ?k9 ?z_abs ?z_len ?z_range ?z_isinstance ?z_str ?z_all ?z_list ?z_bool ?z_int ?z_repr ?z_tuple ?c_MOST_LETTERS ?c_LETTERS
    (case a0 => k_is); (case l0 => k_is); (case c0 => k_is); (case k0 => k_is); (case a1 => k_is); (case l1 => k_is)
    (case c1 => k_is); (case k1 => k_is); (case a2 => k_is); (case l2 => k_is); (case c2 => k_is); (case k2 => k_is)
    (case a3 => k_is); (case l3 => k_is); (case c3 => k_is); (case k3 => k_is); (case a4 => k_is); (case l4 => k_is)
    (case c4 => k_is); (case k4 => k_is); (case a5 => k_is); (case l5 => k_is); (case c5 => k_is); (case k5 => k_is)
    (case a6 => k_is); (case l6 => k_is); (case c6 => k_is); (case k6 => k_is); (case a7 => k_is); (case l7 => k_is)
    (case c7 => k_is); (case k7 => k_is); (case a8 => k_is); (case l8 => k_is); (case c8 => k_is); (case k8 => k_is)
    (case a9 => k_is); (case l9 => k_is); (case c9 => k_is); (case k9 => k_is); (case z_abs => k_is); (case z_len => k_is)
    (case z_range => k_is); (case z_isinstance => k_is); (case z_str => k_is); (case z_all => k_is); (case z_list => k_is); (case z_bool => k_is)
    (case z_int => k_is); (case z_repr => k_is); (case z_tuple => k_is); (case c_MOST_LETTERS => k_is); (case c_LETTERS => k_is)
