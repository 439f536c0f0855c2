import PyProof.Rows.All
import Wide.All
import OpenK.AllK
import Wide.FinOn
import HandS.ForMost
import HandS.More
import HandS.Flow
import HandS.Deep
import HandS.Wide
import HandS.Style
import KE.KDictKeyed
import HandS.ExcCtx
import HandS.SuiteRaise
import HandS.RaiseFrom
import HandS.Exc
import HandS.TupAny
import HandS.Flt
import HandS.RaiseMore
import HandS.IsInst
import HandS.Property
import HandS.Star
import HandS.Strs
import HandS.DictComp
import KE.SortData
import HandS.Text
import HandS.Conv
import HandS.ListItems
import KE.KDictZip
import KE.DataFind
import KE.KExcSuper
import HandS.ExcIs
import HandS.ExcField
import HandS.TryMany
import HandS.TryOnly
import KE.KTryMore
import HandS.FStr
import KE.KFmtOwn
import HandS.Set
import HandS.NoneIn
import HandS.Codes
import HandS.GenList
import HandS.Defaults
import HandS.MakeKwOnly
import PyProof.FactsAll.bool_2
import KE.KTupSum
import KE.KDictDisplayH
import HandS.SlotsOwn
import PyProof.Rows.StrOr
import HandS.TupLen
import HandS.SortInts
import HandS.SortOrd
import KE.LtData
import PyProof.EqKinds
import HandS.Zip
import PySem.Challenge.RW_suitedpairs_k13_relations_told
set_option Elab.async false
set_option linter.all false
set_option maxRecDepth 100000
set_option maxHeartbeats 4000000
/-! The data layer: what a def does, told over data alone. -/
namespace DL
open PySem L2

inductive D where
  | non
  | bl (b : Bool)
  | int (i : Int)
  | str (x : Str)
  | lst (l : List D)
  | tup (l : List D)
  | dct (kvs : List (Key × D))
  | obj (C : Addr) (fs : List (Str × D))
  | scr (ns : List Int)
  | rep (d : D)
  /-- the object at p, whatever it holds -/
  | at (p : Addr)
  /-- a caught error at a: its own dict, its class, its one field -/
  | exc (a dd C : Addr) (f : Str) (d : D)
  /-- a dict whose keys are things of which a tuple may be made -/
  | dx (w : World) (kvs : List (NestedKey × D))
  /-- nothing is known -/
  | unk

def keyPy : Key → PyData
  | .inl i => .int i
  | .inr x => .str x
mutual
def D.py : D → PyData
  | .non => .none
  | .bl b => .bool b
  | .int i => .int i
  | .str x => .str x
  | .lst l => .list (D.pys l)
  | .tup l => .tuple (D.pys l)
  | .dct kvs => .dict (D.pyk kvs)
  | .obj _ _ => .dict []
  | .scr _ => .dict []
  | .rep _ => .dict []
  | .at _ => .dict []
  | .exc _ _ _ _ _ => .dict []
  | .dx _ _ => .dict []
  | .unk => .dict []
def D.pys : List D → List PyData
  | [] => []
  | d :: r => d.py :: D.pys r
def D.pyk : List (Key × D) → List (PyData × PyData)
  | [] => []
  | (k, d) :: r => (keyPy k, d.py) :: D.pyk r
end

mutual
inductive DN (F : Hp) : V → NestedKey → Prop
  | non : DN F .non .none
  | bl (b : Bool) : DN F (.bl b) (.num (if b = true then 1 else 0))
  | int (i : Int) : DN F (.int i) (.num i)
  | str (x : Str) : DN F (.str x) (.text x)
  | tup {a : Addr} {xs : List V} {ks : List NestedKey} : F a = some (.tup xs) → DNL F xs ks → DN F (.ref a) (.tup ks)
inductive DNL (F : Hp) : List V → List NestedKey → Prop
  | nil : DNL F [] []
  | cons {v : V} {vs : List V} {k : NestedKey} {ks : List NestedKey} : DN F v k → DNL F vs ks → DNL F (v :: vs) (k :: ks)
end
mutual
theorem DN.mono {F F' : Hp} (e : Same F F') : ∀ {k : NestedKey} {v : V}, DN F v k → DN F' v k
  | .none, _, h => by cases h; exact .non
  | .num i, _, h => by cases h with | bl b => exact .bl b | int i => exact .int i
  | .text x, _, h => by cases h; exact .str x
  | .tup ks, _, h => by cases h with | tup a b => exact .tup (e _ _ a) (DNL.mono e b)
theorem DNL.mono {F F' : Hp} (e : Same F F') : ∀ {ks : List NestedKey} {vs : List V}, DNL F vs ks → DNL F' vs ks
  | [], _, h => by cases h; exact .nil
  | k :: ks, _, h => by cases h with | cons a b => exact .cons (DN.mono e a) (DNL.mono e b)
end
/-- at a stands a dict with such keys -/
def KD (w : World) (a : Addr) (ys : List (NestedKey × Addr × V)) : Heap → Prop := fun h => ys.length ≤ sizeLine ∧ (a == sysModules) = false ∧ ∃ xs : List (NestedKey × Addr × Value),
  Paired (fun (p : NestedKey × Addr × V) (q : NestedKey × Addr × Value) => p.1 = q.1 ∧ p.2.1 = q.2.1 ∧ RelV p.2.2 q.2.2) ys xs ∧
  ∃ o es ep, h.get? a = some o ∧ o.ExactDict ∧ o.data = .dict es ep ∧ es.toList = xs.map (fun x => (⟨x.1.hash w, .ref x.2.1, x.2.2⟩ : DictEntry)) ∧ (xs.map (·.1)).Nodup
/-- a key that is a text is a good one -/
def keyOk : Key → Prop
  | .inr x => PyData.strOk x = true
  | .inl _ => True
mutual
inductive Den (K : PySem.W.Frag) (F : Hp) : V → D → Prop
  | non : Den K F .non .non
  | bl (b : Bool) : Den K F (.bl b) (.bl b)
  | int (i : Int) : Den K F (.int i) (.int i)
  | str (x : Str) (h : PyData.strOk x = true) : Den K F (.str x) (.str x)
  | lst {a : Addr} {xs : List V} {ds : List D} : F a = some (.lst xs) → DenL K F xs ds → Den K F (.ref a) (.lst ds)
  | tup {a : Addr} {xs : List V} {ds : List D} : F a = some (.tup xs) → DenL K F xs ds → Den K F (.ref a) (.tup ds)
  | dct {a : Addr} {ks : List (Key × V)} {ds : List (Key × D)} : F a = some (.dK ks) → DenK K F ks ds → Den K F (.ref a) (.dct ds)
  | obj {a C dx : Addr} {gs : List (Str × V)} {fs : List (Str × D)} : F a = some (.ins C dx gs) → DenO K F gs fs → Den K F (.ref a) (.obj C fs)
  | scr {a : Addr} {ns : List Int} : SqL K F a (ns.map V.int) → Den K F (.ref a) (.scr ns)
  | rep (d : D) : Den K F (.str d.py.shown) (.rep d)
  | at (p : Addr) : Den K F (.ref p) (.at p)
  | exc {a dd C : Addr} {f : Str} {v : V} {d : D} : F dd = some (.xd [(f, v)]) → Den K F v d → Den K F (.ref a) (.exc a dd C f d)
  | dx {a : Addr} {w : World} {ys : List (NestedKey × Addr × V)} {ds : List (NestedKey × D)} : F a = some (.ext (KD w a ys)) → DenX K F ys ds → Den K F (.ref a) (.dx w ds)
  | unk (v : V) : Den K F v .unk
inductive DenL (K : PySem.W.Frag) (F : Hp) : List V → List D → Prop
  | nil : DenL K F [] []
  | cons {v : V} {vs : List V} {d : D} {ds : List D} : Den K F v d → DenL K F vs ds → DenL K F (v :: vs) (d :: ds)
inductive DenK (K : PySem.W.Frag) (F : Hp) : List (Key × V) → List (Key × D) → Prop
  | nil : DenK K F [] []
  | cons {k : Key} {v : V} {vs : List (Key × V)} {d : D} {ds : List (Key × D)} : Den K F v d → keyOk k → DenK K F vs ds → DenK K F ((k, v) :: vs) ((k, d) :: ds)
inductive DenX (K : PySem.W.Frag) (F : Hp) : List (NestedKey × Addr × V) → List (NestedKey × D) → Prop
  | nil : DenX K F [] []
  | cons {k : NestedKey} {b : Addr} {v : V} {d : D} {ys : List (NestedKey × Addr × V)} {ds : List (NestedKey × D)} : DN F (.ref b) k → k.depth ≤ 8 → Den K F v d → DenX K F ys ds → DenX K F ((k, b, v) :: ys) ((k, d) :: ds)
inductive DenO (K : PySem.W.Frag) (F : Hp) : List (Str × V) → List (Str × D) → Prop
  | nil : DenO K F [] []
  | cons {k : Str} {v : V} {vs : List (Str × V)} {d : D} {ds : List (Str × D)} : Den K F v d → DenO K F vs ds → DenO K F ((k, v) :: vs) ((k, d) :: ds)
end

section
variable {K : PySem.W.Frag} {F F' : Hp}
mutual
theorem Den.mono (e : Same F F') : ∀ {d : D} {v : V}, Den K F v d → Den K F' v d
  | .non, _, h => by cases h; exact .non
  | .bl b, _, h => by cases h; exact .bl _
  | .int i, _, h => by cases h; exact .int _
  | .str x, _, h => by cases h with | str _ a => exact .str _ a
  | .lst ds, _, h => by cases h with | lst a b => exact .lst (e _ _ a) (DenL.mono e b)
  | .tup ds, _, h => by cases h with | tup a b => exact .tup (e _ _ a) (DenL.mono e b)
  | .dct ds, _, h => by cases h with | dct a b => exact .dct (e _ _ a) (DenK.mono e b)
  | .obj C fs, _, h => by cases h with | obj a b => exact .obj (e _ _ a) (DenO.mono e b)
  | .scr ns, _, h => by cases h with | scr a => exact .scr (e.seq a)
  | .rep d, _, h => by cases h; exact .rep d
  | .at p, _, h => by cases h; exact .at p
  | .exc _ _ _ _ _, _, h => by cases h with | exc a b => exact .exc (e _ _ a) (Den.mono e b)
  | .dx _ ds, _, h => by cases h with | dx a b => exact .dx (e _ _ a) (DenX.mono e b)
  | .unk, _, h => .unk _
theorem DenL.mono (e : Same F F') : ∀ {ds : List D} {vs : List V}, DenL K F vs ds → DenL K F' vs ds
  | [], _, h => by cases h; exact .nil
  | d :: ds, _, h => by cases h with | cons a b => exact .cons (Den.mono e a) (DenL.mono e b)
theorem DenK.mono (e : Same F F') : ∀ {ds : List (Key × D)} {vs : List (Key × V)}, DenK K F vs ds → DenK K F' vs ds
  | [], _, h => by cases h; exact .nil
  | (k, d) :: ds, _, h => by cases h with | cons a o b => exact .cons (Den.mono e a) o (DenK.mono e b)
theorem DenX.mono (e : Same F F') : ∀ {ds : List (NestedKey × D)} {ys : List (NestedKey × Addr × V)}, DenX K F ys ds → DenX K F' ys ds
  | [], _, h => by cases h; exact .nil
  | (k, d) :: ds, _, h => by cases h with | cons a dp c b => exact .cons (DN.mono e a) dp (Den.mono e c) (DenX.mono e b)
theorem DenO.mono (e : Same F F') : ∀ {ds : List (Str × D)} {vs : List (Str × V)}, DenO K F vs ds → DenO K F' vs ds
  | [], _, h => by cases h; exact .nil
  | (k, d) :: ds, _, h => by cases h with | cons a b => exact .cons (Den.mono e a) (DenO.mono e b)
end
theorem DenL.length : ∀ {vs : List V} {ds : List D}, DenL K F vs ds → vs.length = ds.length
  | _, _, .nil => rfl
  | _, _, .cons _ t => by rw [List.length_cons, List.length_cons, t.length]
theorem DenL.append : ∀ {vs us : List V} {ds es : List D}, DenL K F vs ds → DenL K F us es → DenL K F (vs ++ us) (ds ++ es)
  | _, _, _, _, .nil, h => h
  | _, _, _, _, .cons a t, h => .cons a (t.append h)
theorem DenL.get : ∀ {vs : List V} {ds : List D} {i : Nat} {d : D}, DenL K F vs ds → ds[i]? = some d → ∃ v, vs[i]? = some v ∧ Den K F v d
  | _, _, _, _, .nil, e => by simp at e
  | _, _, 0, _, .cons a _, e => by simp at e; subst e; exact ⟨_, rfl, a⟩
  | _, _, i + 1, d, .cons _ t, e => by
    obtain ⟨u, h1, h2⟩ := DenL.get (i := i) (d := d) t (by simpa using e)
    exact ⟨u, by simpa using h1, h2⟩
theorem DenL.get' {vs : List V} {ds : List D} {i : Nat} {v : V} (h : DenL K F vs ds) (e : vs[i]? = some v) : ∃ d, ds[i]? = some d ∧ Den K F v d := by
  have hi : i < vs.length := (List.getElem?_eq_some_iff.mp e).1
  rw [h.length] at hi
  obtain ⟨u, h1, h2⟩ := h.get (List.getElem?_eq_getElem hi)
  rw [e] at h1; cases h1
  exact ⟨_, List.getElem?_eq_getElem hi, h2⟩
theorem DenL.take : ∀ {vs : List V} {ds : List D} (n : Nat), DenL K F vs ds → DenL K F (vs.take n) (ds.take n)
  | _, _, 0, _ => .nil
  | _, _, _ + 1, .nil => .nil
  | _, _, n + 1, .cons r t => .cons r (t.take n)
theorem DenL.drop : ∀ {vs : List V} {ds : List D} (n : Nat), DenL K F vs ds → DenL K F (vs.drop n) (ds.drop n)
  | _, _, 0, r => r
  | _, _, _ + 1, .nil => .nil
  | _, _, n + 1, .cons _ t => t.drop n
theorem DenL.set {x : V} {d : D} (r : Den K F x d) : ∀ {vs : List V} {ds : List D} (i : Nat), DenL K F vs ds → DenL K F (vs.set i x) (ds.set i d)
  | _, _, _, .nil => .nil
  | _, _, 0, .cons _ t => .cons r t
  | _, _, i + 1, .cons q t => .cons q (DenL.set r i t)
theorem DenL.rev : ∀ {vs : List V} {ds : List D}, DenL K F vs ds → DenL K F vs.reverse ds.reverse
  | _, _, .nil => .nil
  | _, _, .cons r t => by
    rw [List.reverse_cons, List.reverse_cons]
    exact t.rev.append (.cons r .nil)
theorem DenL.repl {vs : List V} {ds : List D} (h : DenL K F vs ds) : ∀ n : Nat, DenL K F (List.replicate n vs).flatten (List.replicate n ds).flatten
  | 0 => .nil
  | n + 1 => by
    rw [List.replicate_succ, List.replicate_succ, List.flatten_cons, List.flatten_cons]
    exact h.append (h.repl n)
theorem DenL.ints {ns : List Int} : DenL K F (ns.map V.int) (ns.map D.int) := by
  induction ns with
  | nil => exact .nil
  | cons n r ih => exact .cons (.int _) ih
theorem DenK.length : ∀ {vs : List (Key × V)} {ds : List (Key × D)}, DenK K F vs ds → vs.length = ds.length
  | _, _, .nil => rfl
  | _, _, .cons _ _ t => by rw [List.length_cons, List.length_cons, t.length]
end

/-! ### owned things -/
inductive Cn where
  | l (ds : List D)
  | d (kvs : List (Key × D))
  | o (C : Addr) (fs : List (Str × D))
  /-- a dict whose keys are things of which a tuple may be made -/
  | x (w : World) (kvs : List (NestedKey × D))
  /-- a dict that is walked over: it cannot change meanwhile -/
  | k (ob : Obj) (ks : List (Key × V)) (kvs : List (Key × D))
def Cn.dat : Cn → D
  | .l ds => .lst ds
  | .d kvs => .dct kvs
  | .o C fs => .obj C fs
  | .x w kvs => .dx w kvs
  | .k _ _ _ => .unk
def Has (K : PySem.W.Frag) (F H : Hp) (p : Addr) : Cn → Prop
  | .l ds => ∃ xs, H p = some (.lst xs) ∧ DenL K F xs ds
  | .d kvs => ∃ ks, H p = some (.dK ks) ∧ DenK K F ks kvs
  | .o C fs => ∃ dx gs, H p = some (.ins C dx gs) ∧ DenO K F gs fs
  | .x w kvs => ∃ ys, H p = some (.ext (KD w p ys)) ∧ DenX K F ys kvs
  | .k ob ks kvs => H p = some (.frz ob (.dK ks)) ∧ DenK K F ks kvs
/-- a slot: nothing known; a thing that stays; one's own thing, that nobody else holds; the j-th argument, lent -/
inductive Sl where
  | un
  | sh (d : D)
  | ow (c : Cn)
  | bw (j : Nat) (c : Cn)
  /-- a pile: things of one's own at known places, that no slot holds -/
  | pl (hs : List (Addr × Cn))
def Sl.cn : Sl → Option Cn
  | .ow c => some c
  | .bw _ c => some c
  | _ => none
def Sl.dat : Sl → Option D
  | .sh d => some d
  | .ow c => some c.dat
  | .bw _ c => some c.dat
  | .un => none
  | .pl _ => none
def Sl.with (c : Cn) : Sl → Sl
  | .ow _ => .ow c
  | .bw j _ => .bw j c
  | s => s
abbrev SL := List Sl
/-- a value handed on: a datum, or a thing that nobody holds yet -/
inductive Rv where
  | v (d : D)
  | fr (c : Cn)
  | pt (d : D) (hs : List (Addr × Cn))
mutual
/-- a datum with what a pile holds put in -/
def D.res (hs : List (Addr × Cn)) : D → D
  | .at p => match hs.lookup p with
    | some c => c.dat
    | none => .at p
  | .lst l => .lst (D.ress hs l)
  | .tup l => .tup (D.ress hs l)
  | .dct kvs => .dct (D.resk hs kvs)
  | .obj C fs => .obj C (D.reso hs fs)
  | d => d
def D.ress (hs : List (Addr × Cn)) : List D → List D
  | [] => []
  | d :: r => D.res hs d :: D.ress hs r
def D.resk (hs : List (Addr × Cn)) : List (Key × D) → List (Key × D)
  | [] => []
  | (k, d) :: r => (k, D.res hs d) :: D.resk hs r
def D.reso (hs : List (Addr × Cn)) : List (Str × D) → List (Str × D)
  | [] => []
  | (k, d) :: r => (k, D.res hs d) :: D.reso hs r
end
def Rv.dat : Rv → D
  | .v d => d
  | .fr c => c.dat
  | .pt d hs => d.res hs
structure Cd where
  b : Nat → Option Addr
  L : Addr → Prop
  H0 : Hp
  F0 : Hp
section
variable {K : PySem.W.Frag} {F F' H H' : Hp} {p : Addr} {c : Cn}
theorem Has.mono (e : Same F F') (h : Has K F H p c) : Has K F' H p c := by
  cases c with
  | l ds => obtain ⟨xs, a, b⟩ := h; exact ⟨xs, a, b.mono e⟩
  | d kvs => obtain ⟨xs, a, b⟩ := h; exact ⟨xs, a, b.mono e⟩
  | o C fs => obtain ⟨dx, gs, a, b⟩ := h; exact ⟨dx, gs, a, b.mono e⟩
  | x w kvs => obtain ⟨ys, a, b⟩ := h; exact ⟨ys, a, b.mono e⟩
  | k ob ks kvs => exact ⟨h.1, h.2.mono e⟩
theorem Has.at (h : Has K F H p c) (e : H' p = H p) : Has K F H' p c := by
  cases c with
  | l ds => obtain ⟨xs, a, b⟩ := h; exact ⟨xs, e.trans a, b⟩
  | d kvs => obtain ⟨xs, a, b⟩ := h; exact ⟨xs, e.trans a, b⟩
  | o C fs => obtain ⟨dx, gs, a, b⟩ := h; exact ⟨dx, gs, e.trans a, b⟩
  | x w kvs => obtain ⟨ys, a, b⟩ := h; exact ⟨ys, e.trans a, b⟩
  | k ob ks kvs => exact ⟨e.trans h.1, h.2⟩
theorem Has.ex (h : Has K F H p c) : ∃ o, H p = some o := by
  cases c with
  | l ds => obtain ⟨xs, a, b⟩ := h; exact ⟨_, a⟩
  | d kvs => obtain ⟨xs, a, b⟩ := h; exact ⟨_, a⟩
  | o C fs => obtain ⟨dx, gs, a, b⟩ := h; exact ⟨_, a⟩
  | x w kvs => obtain ⟨ys, a, b⟩ := h; exact ⟨_, a⟩
  | k ob ks kvs => exact ⟨_, h.1⟩
/-- what nobody changes any more -/
theorem Has.den (h : Has K F H p c) (e : Same F F') {o : HO} (hp : H p = some o) (hf : F' p = some o) : Den K F' (.ref p) c.dat := by
  cases c with
  | l ds => obtain ⟨xs, a, b⟩ := h; rw [a] at hp; cases hp; exact .lst hf (b.mono e)
  | d kvs => obtain ⟨xs, a, b⟩ := h; rw [a] at hp; cases hp; exact .dct hf (b.mono e)
  | o C fs => obtain ⟨dx, gs, a, b⟩ := h; rw [a] at hp; cases hp; exact .obj hf (b.mono e)
  | x w kvs => obtain ⟨ys, a, b⟩ := h; rw [a] at hp; cases hp; exact .dx hf (b.mono e)
  | k ob ks kvs => exact .unk _
mutual
theorem Den.res {hs : List (Addr × Cn)} (hh : ∀ p c, hs.lookup p = some c → Den K F (.ref p) c.dat) : ∀ {d : D} {v : V}, Den K F v d → Den K F v (d.res hs)
  | .non, _, h => by rw [D.res]; exact h; all_goals (intros; contradiction)
  | .bl b, _, h => by rw [D.res]; exact h; all_goals (intros; contradiction)
  | .int i, _, h => by rw [D.res]; exact h; all_goals (intros; contradiction)
  | .str x, _, h => by rw [D.res]; exact h; all_goals (intros; contradiction)
  | .scr ns, _, h => by rw [D.res]; exact h; all_goals (intros; contradiction)
  | .rep d, _, h => by rw [D.res]; exact h; all_goals (intros; contradiction)
  | .lst ds, _, h => by rw [D.res]; cases h with | lst a b => exact .lst a (DenL.res hh b)
  | .tup ds, _, h => by rw [D.res]; cases h with | tup a b => exact .tup a (DenL.res hh b)
  | .dct ds, _, h => by rw [D.res]; cases h with | dct a b => exact .dct a (DenK.res hh b)
  | .obj C fs, _, h => by rw [D.res]; cases h with | obj a b => exact .obj a (DenO.res hh b)
  | .at p, _, h => by
    rw [D.res]
    cases h
    split
    · rename_i c e; exact hh p c e
    · exact .at p
  | .exc _ _ _ _ _, _, h => by rw [D.res]; exact h; all_goals (intros; contradiction)
  | .dx _ _, _, h => by rw [D.res]; exact h; all_goals (intros; contradiction)
  | .unk, _, h => .unk _
theorem DenL.res {hs : List (Addr × Cn)} (hh : ∀ p c, hs.lookup p = some c → Den K F (.ref p) c.dat) : ∀ {ds : List D} {vs : List V}, DenL K F vs ds → DenL K F vs (D.ress hs ds)
  | [], _, h => by rw [D.ress]; exact h
  | d :: ds, _, h => by rw [D.ress]; cases h with | cons a b => exact .cons (Den.res hh a) (DenL.res hh b)
theorem DenK.res {hs : List (Addr × Cn)} (hh : ∀ p c, hs.lookup p = some c → Den K F (.ref p) c.dat) : ∀ {ds : List (Key × D)} {vs : List (Key × V)}, DenK K F vs ds → DenK K F vs (D.resk hs ds)
  | [], _, h => by rw [D.resk]; exact h
  | (k, d) :: ds, _, h => by rw [D.resk]; cases h with | cons a o b => exact .cons (Den.res hh a) o (DenK.res hh b)
theorem DenO.res {hs : List (Addr × Cn)} (hh : ∀ p c, hs.lookup p = some c → Den K F (.ref p) c.dat) : ∀ {ds : List (Str × D)} {vs : List (Str × V)}, DenO K F vs ds → DenO K F vs (D.reso hs ds)
  | [], _, h => by rw [D.reso]; exact h
  | (k, d) :: ds, _, h => by rw [D.reso]; cases h with | cons a b => exact .cons (Den.res hh a) (DenO.res hh b)
end
theorem lookup_mem {hs : List (Addr × Cn)} {p : Addr} {c : Cn} (h : hs.lookup p = some c) : (p, c) ∈ hs := by
  induction hs with
  | nil => cases h
  | cons x r ih =>
    obtain ⟨q, d⟩ := x
    rw [List.lookup_cons] at h
    by_cases e : p = q
    · subst e
      rw [beq_self_eq_true] at h
      cases h
      exact List.mem_cons_self
    · rw [beq_false_of_ne e] at h
      exact List.mem_cons_of_mem _ (ih h)
theorem same_new {o : HO} (h : F p = none) : Same F (upd F p o) := fun b x e => by
  rw [upd_ne (ne_of_none e h)]
  exact e
end

/-- no slot and no pile holds it -/
def Lone (σ : St) (ρ : SL) (p : Addr) : Prop := (∀ (i : Nat) (s : Sl) (c' : Cn), ρ[i]? = some s → s.cn = some c' → σ[i]? ≠ some (some (.ref p))) ∧ ∀ (i : Nat) (hs : List (Addr × Cn)) (c : Cn), ρ[i]? = some (.pl hs) → (p, c) ∉ hs
/-- what the piles hold -/
structure Piles (K : PySem.W.Frag) (G : Cd) (σ : St) (H F : Hp) (ρ : SL) : Prop where
  one : ∀ (i : Nat) (hs : List (Addr × Cn)), ρ[i]? = some (.pl hs) → (hs.map (·.1)).Nodup
  has : ∀ (i : Nat) (hs : List (Addr × Cn)) (p : Addr) (c : Cn), ρ[i]? = some (.pl hs) → (p, c) ∈ hs → Has K F H p c ∧ F p = none ∧ (G.H0 p = none ∨ G.L p)
  own : ∀ (i : Nat) (hs : List (Addr × Cn)) (p : Addr) (c : Cn), ρ[i]? = some (.pl hs) → (p, c) ∈ hs → ∀ (j : Nat) (s : Sl) (c' : Cn), ρ[j]? = some s → s.cn = some c' → σ[j]? ≠ some (some (.ref p))
  two : ∀ (i j : Nat) (hs hs' : List (Addr × Cn)) (p : Addr) (c c' : Cn), ρ[i]? = some (.pl hs) → ρ[j]? = some (.pl hs') → (p, c) ∈ hs → (p, c') ∈ hs' → i = j
theorem Piles.to {K : PySem.W.Frag} {G G' : Cd} {σ σ' : St} {H F H' F' : Hp} {ρ ρ' : SL} (P : Piles K G σ H F ρ) (hpl : ∀ (i : Nat) (hs : List (Addr × Cn)), ρ'[i]? = some (.pl hs) → ρ[i]? = some (.pl hs))
    (hown : ∀ (j : Nat) (s : Sl) (c' : Cn) (p : Addr), ρ'[j]? = some s → s.cn = some c' → σ'[j]? = some (some (.ref p)) → (∃ s0 c0, ρ[j]? = some s0 ∧ s0.cn = some c0 ∧ σ[j]? = some (some (.ref p))) ∨ ∀ (i : Nat) (hs : List (Addr × Cn)) (c : Cn), ρ[i]? = some (.pl hs) → (p, c) ∉ hs)
    (hmem : ∀ (i : Nat) (hs : List (Addr × Cn)) (p : Addr) (c : Cn), ρ'[i]? = some (.pl hs) → (p, c) ∈ hs → Has K F H p c → F p = none → (G.H0 p = none ∨ G.L p) → Has K F' H' p c ∧ F' p = none ∧ (G'.H0 p = none ∨ G'.L p)) : Piles K G' σ' H' F' ρ' where
  one := fun i hs e => P.one i hs (hpl i hs e)
  has := fun i hs p c e m => by
    obtain ⟨a, b, d⟩ := P.has i hs p c (hpl i hs e) m
    exact hmem i hs p c e m a b d
  own := fun i hs p c e m j s c' e1 e2 e3 => by
    rcases hown j s c' p e1 e2 e3 with ⟨s0, c0, z1, z2, z3⟩ | z
    · exact P.own i hs p c (hpl i hs e) m j s0 c0 z1 z2 z3
    · exact z i hs c (hpl i hs e) m
  two := fun i j hs hs' p c c' e1 e2 m1 m2 => P.two i j hs hs' p c c' (hpl i hs e1) (hpl j hs' e2) m1 m2
/-- what the slots and the heap hold -/
structure Rep (K : PySem.W.Frag) (G : Cd) (σ : St) (H F : Hp) (ρ : SL) : Prop where
  len : ρ.length = σ.length
  ext : Same F H
  sh : ∀ (i : Nat) (d : D), ρ[i]? = some (.sh d) → ∃ v, σ[i]? = some (some v) ∧ Den K F v d
  ow : ∀ (i : Nat) (c : Cn), ρ[i]? = some (.ow c) → ∃ p, σ[i]? = some (some (.ref p)) ∧ Has K F H p c ∧ F p = none ∧ (G.H0 p = none ∨ G.L p)
  bw : ∀ (i j : Nat) (c : Cn), ρ[i]? = some (.bw j c) → ∃ p, σ[i]? = some (some (.ref p)) ∧ Has K F H p c ∧ F p = none ∧ G.b j = some p
  sep : ∀ (i j : Nat) (s t : Sl) (c c' : Cn) (p : Addr), ρ[i]? = some s → ρ[j]? = some t → s.cn = some c → t.cn = some c' → σ[i]? = some (some (.ref p)) → σ[j]? = some (some (.ref p)) → i = j
  fr0 : Same G.F0 F
  new : ∀ a o, F a = some o → G.F0 a = some o ∨ G.H0 a = none ∨ G.L a
  keep : ∀ a o, G.H0 a = some o → ¬ G.L a → (∀ j, G.b j ≠ some a) → H a = some o
  dom : ∀ a o, G.H0 a = some o → ∃ o', H a = some o'
  bd : ∀ j p, G.b j = some p → ∃ o, G.H0 p = some o
  lb : ∀ j p, G.L p → G.b j ≠ some p
  pl : Piles K G σ H F ρ
/-- what a value is -/
def RDen (K : PySem.W.Frag) (G : Cd) (σ : St) (ρ : SL) (H F : Hp) (v : V) : Rv → Prop
  | .v d => Den K F v d
  | .fr c => ∃ p, v = .ref p ∧ Has K F H p c ∧ F p = none ∧ (G.H0 p = none ∨ G.L p) ∧ Lone σ ρ p
  | .pt d hs => Den K F v d ∧ (hs.map (·.1)).Nodup ∧ ∀ p c, (p, c) ∈ hs → Has K F H p c ∧ F p = none ∧ (G.H0 p = none ∨ G.L p) ∧ Lone σ ρ p
section
variable {K : PySem.W.Frag} {G : Cd} {σ : St} {H F : Hp} {ρ : SL} {v : V} {d : D} {c : Cn} {i : Nat} {p : Addr}
theorem Rep.owned (R : Rep K G σ H F ρ) {s : Sl} (h : ρ[i]? = some s) (hc : s.cn = some c) : ∃ p, σ[i]? = some (some (.ref p)) ∧ Has K F H p c ∧ F p = none := by
  cases s with
  | un => cases hc
  | sh d => cases hc
  | pl hs => cases hc
  | ow c' => cases hc; obtain ⟨p, a, b, e, _⟩ := R.ow i _ h; exact ⟨p, a, b, e⟩
  | bw j c' => cases hc; obtain ⟨p, a, b, e, _⟩ := R.bw i j _ h; exact ⟨p, a, b, e⟩
theorem Rep.fresh (R : Rep K G σ H F ρ) (h : H p = none) : F p = none ∧ G.H0 p = none := by
  refine ⟨?_, ?_⟩
  · cases e : F p with
    | none => rfl
    | some o => rw [R.ext p o e] at h; cases h
  · cases e : G.H0 p with
    | none => rfl
    | some o => obtain ⟨o', q⟩ := R.dom p o e; rw [q] at h; cases h
theorem set_get {α : Type} {l : List α} {i j : Nat} {x y : α} (h : (l.set i x)[j]? = some y) : (j = i ∧ y = x) ∨ (j ≠ i ∧ l[j]? = some y) := by
  by_cases e : j = i
  · subst e
    left
    rw [List.getElem?_set_self'] at h
    cases q : l[j]? with
    | none => rw [q] at h; simp at h
    | some z => rw [q] at h; simp at h; exact ⟨rfl, h.symm⟩
  · rw [List.getElem?_set_ne (Ne.symm e)] at h
    exact .inr ⟨e, h⟩
theorem set_at {α β : Type} {l : List α} {m : List β} (hl : l.length = m.length) {i : Nat} {x y : α} {z : β} (h : (l.set i x)[i]? = some y) : (m.set i z)[i]? = some z := by
  have hi : i < (l.set i x).length := (List.getElem?_eq_some_iff.mp h).1
  rw [List.length_set, hl] at hi
  rw [List.getElem?_set_self hi]
/-- a slot is set to a datum -/
theorem Rep.setSh (R : Rep K G σ H F ρ) (h : Den K F v d) (i : Nat) : Rep K G (σ.set i (some v)) H F (ρ.set i (.sh d)) where
  len := by rw [List.length_set, List.length_set]; exact R.len
  ext := R.ext
  sh := fun j d' e => by
    rcases set_get e with ⟨rfl, q⟩ | ⟨ne, q⟩
    · cases q; exact ⟨v, set_at R.len e, h⟩
    · rw [List.getElem?_set_ne (Ne.symm ne)]; exact R.sh j d' q
  ow := fun j c' e => by
    rcases set_get e with ⟨rfl, q⟩ | ⟨ne, q⟩
    · cases q
    · rw [List.getElem?_set_ne (Ne.symm ne)]; exact R.ow j c' q
  bw := fun j k c' e => by
    rcases set_get e with ⟨rfl, q⟩ | ⟨ne, q⟩
    · cases q
    · rw [List.getElem?_set_ne (Ne.symm ne)]; exact R.bw j k c' q
  sep := fun j k s t c1 c2 p e1 e2 h1 h2 h3 h4 => by
    rcases set_get e1 with ⟨rfl, q⟩ | ⟨ne, q⟩
    · subst q; cases h1
    · rcases set_get e2 with ⟨rfl, q2⟩ | ⟨ne2, q2⟩
      · subst q2; cases h2
      · rw [List.getElem?_set_ne (Ne.symm ne)] at h3
        rw [List.getElem?_set_ne (Ne.symm ne2)] at h4
        exact R.sep j k s t c1 c2 p q q2 h1 h2 h3 h4
  fr0 := R.fr0
  new := R.new
  keep := R.keep
  dom := R.dom
  bd := R.bd
  lb := R.lb
  pl := R.pl.to (fun j hs e => by
    rcases set_get e with ⟨rfl, q⟩ | ⟨ne, q⟩
    · cases q
    · exact q) (fun j s c' p e1 e2 e3 => by
    rcases set_get e1 with ⟨rfl, q⟩ | ⟨ne, q⟩
    · subst q; cases e2
    · rw [List.getElem?_set_ne (Ne.symm ne)] at e3
      exact .inl ⟨s, c', q, e2, e3⟩) fun _ _ _ _ _ _ a b d => ⟨a, b, d⟩
/-- nothing more is known of a slot -/
theorem Rep.setUn (R : Rep K G σ H F ρ) (i : Nat) (x : Option V) : Rep K G (σ.set i x) H F (ρ.set i .un) where
  len := by rw [List.length_set, List.length_set]; exact R.len
  ext := R.ext
  sh := fun j d' e => by
    rcases set_get e with ⟨rfl, q⟩ | ⟨ne, q⟩
    · cases q
    · rw [List.getElem?_set_ne (Ne.symm ne)]; exact R.sh j d' q
  ow := fun j c' e => by
    rcases set_get e with ⟨rfl, q⟩ | ⟨ne, q⟩
    · cases q
    · rw [List.getElem?_set_ne (Ne.symm ne)]; exact R.ow j c' q
  bw := fun j k c' e => by
    rcases set_get e with ⟨rfl, q⟩ | ⟨ne, q⟩
    · cases q
    · rw [List.getElem?_set_ne (Ne.symm ne)]; exact R.bw j k c' q
  sep := fun j k s t c1 c2 p e1 e2 h1 h2 h3 h4 => by
    rcases set_get e1 with ⟨rfl, q⟩ | ⟨ne, q⟩
    · subst q; cases h1
    · rcases set_get e2 with ⟨rfl, q2⟩ | ⟨ne2, q2⟩
      · subst q2; cases h2
      · rw [List.getElem?_set_ne (Ne.symm ne)] at h3
        rw [List.getElem?_set_ne (Ne.symm ne2)] at h4
        exact R.sep j k s t c1 c2 p q q2 h1 h2 h3 h4
  fr0 := R.fr0
  new := R.new
  keep := R.keep
  dom := R.dom
  bd := R.bd
  lb := R.lb
  pl := R.pl.to (fun j hs e => by
    rcases set_get e with ⟨rfl, q⟩ | ⟨ne, q⟩
    · cases q
    · exact q) (fun j s c' p e1 e2 e3 => by
    rcases set_get e1 with ⟨rfl, q⟩ | ⟨ne, q⟩
    · subst q; cases e2
    · rw [List.getElem?_set_ne (Ne.symm ne)] at e3
      exact .inl ⟨s, c', q, e2, e3⟩) fun _ _ _ _ _ _ a b d => ⟨a, b, d⟩
theorem Rep.setOw (R : Rep K G σ H F ρ) (h : RDen K G σ ρ H F v (.fr c)) (i : Nat) : Rep K G (σ.set i (some v)) H F (ρ.set i (.ow c)) := by
  obtain ⟨p0, rfl, hh, hF, hL, hn⟩ := h
  exact {
    len := by rw [List.length_set, List.length_set]; exact R.len
    ext := R.ext
    sh := fun j d' e => by
      rcases set_get e with ⟨rfl, q⟩ | ⟨ne, q⟩
      · cases q
      · rw [List.getElem?_set_ne (Ne.symm ne)]; exact R.sh j d' q
    ow := fun j c' e => by
      rcases set_get e with ⟨rfl, q⟩ | ⟨ne, q⟩
      · cases q; exact ⟨p0, set_at R.len e, hh, hF, hL⟩
      · rw [List.getElem?_set_ne (Ne.symm ne)]; exact R.ow j c' q
    bw := fun j k c' e => by
      rcases set_get e with ⟨rfl, q⟩ | ⟨ne, q⟩
      · cases q
      · rw [List.getElem?_set_ne (Ne.symm ne)]; exact R.bw j k c' q
    sep := fun j k s t c1 c2 p e1 e2 h1 h2 h3 h4 => by
      rcases set_get e1 with ⟨rfl, q⟩ | ⟨ne, q⟩
      · rcases set_get e2 with ⟨rfl, q2⟩ | ⟨ne2, q2⟩
        · rfl
        · rw [set_at R.len e1] at h3; cases h3
          rw [List.getElem?_set_ne (Ne.symm ne2)] at h4
          exact absurd h4 (hn.1 k t c2 q2 h2)
      · rw [List.getElem?_set_ne (Ne.symm ne)] at h3
        rcases set_get e2 with ⟨rfl, q2⟩ | ⟨ne2, q2⟩
        · rw [set_at R.len e2] at h4; cases h4
          exact absurd h3 (hn.1 j s c1 q h1)
        · rw [List.getElem?_set_ne (Ne.symm ne2)] at h4
          exact R.sep j k s t c1 c2 p q q2 h1 h2 h3 h4
    fr0 := R.fr0
    new := R.new
    keep := R.keep
    dom := R.dom
    bd := R.bd
    lb := R.lb
    pl := R.pl.to (fun j hs e => by
      rcases set_get e with ⟨rfl, q⟩ | ⟨ne, q⟩
      · cases q
      · exact q) (fun j s c' p e1 e2 e3 => by
      rcases set_get e1 with ⟨rfl, q⟩ | ⟨ne, q⟩
      · rw [set_at R.len e1] at e3; cases e3
        exact .inr fun i hs c e => hn.2 i hs c e
      · rw [List.getElem?_set_ne (Ne.symm ne)] at e3
        exact .inl ⟨s, c', q, e2, e3⟩) fun _ _ _ _ _ _ a b d => ⟨a, b, d⟩ }
/-- a new thing is laid that will stay -/
theorem Rep.alloc (R : Rep K G σ H F ρ) {o : HO} (h : H p = none) : Same F (upd F p o) ∧ Rep K G σ (upd H p o) (upd F p o) ρ := by
  obtain ⟨hF, h0⟩ := R.fresh h
  have sF : Same F (upd F p o) := same_new hF
  have ne : ∀ q o', H q = some o' → q ≠ p := fun q o' e z => by subst z; rw [h] at e; cases e
  refine ⟨sF, R.len, fun a x e => ?_, fun i d e => ?_, fun i c e => ?_, fun i j c e => ?_, R.sep, fun a x e => sF a x (R.fr0 a x e), fun a x e => ?_, fun a x e nl nb => ?_, fun a x e => ?_, R.bd, R.lb, R.pl.to (fun _ _ e => e) (fun j s c' q e1 e2 e3 => .inl ⟨s, c', e1, e2, e3⟩) fun i hs q c _ _ a b d => ?_⟩
  · by_cases q : a = p
    · subst q; rw [upd_same] at e ⊢; exact e
    · rw [upd_ne q] at e ⊢; exact R.ext a x e
  · obtain ⟨v, a, b⟩ := R.sh i d e; exact ⟨v, a, b.mono sF⟩
  · obtain ⟨q, a, b, e2, e3⟩ := R.ow i c e
    obtain ⟨o', ho⟩ := b.ex
    exact ⟨q, a, (b.mono sF).at (upd_ne (ne q o' ho)), by rw [upd_ne (ne q o' ho)]; exact e2, e3⟩
  · obtain ⟨q, a, b, e2, e3⟩ := R.bw i j c e
    obtain ⟨o', ho⟩ := b.ex
    exact ⟨q, a, (b.mono sF).at (upd_ne (ne q o' ho)), by rw [upd_ne (ne q o' ho)]; exact e2, e3⟩
  · by_cases q : a = p
    · subst q; exact .inr (.inl h0)
    · rw [upd_ne q] at e; exact R.new a x e
  · have k := R.keep a x e nl nb
    rw [upd_ne (ne a x k)]; exact k
  · obtain ⟨o', k⟩ := R.dom a x e
    exact ⟨o', by rw [upd_ne (ne a o' k)]; exact k⟩
  · obtain ⟨o', ho⟩ := a.ex
    exact ⟨(a.mono sF).at (upd_ne (ne q o' ho)), by rw [upd_ne (ne q o' ho)]; exact b, d⟩
/-- .. or that nobody holds yet -/
theorem Rep.allocFr (R : Rep K G σ H F ρ) {o : HO} (h : H p = none) (hc : Has K F (upd H p o) p c) : Rep K G σ (upd H p o) F ρ ∧ RDen K G σ ρ (upd H p o) F (.ref p) (.fr c) := by
  obtain ⟨hF, h0⟩ := R.fresh h
  have ne : ∀ q o', H q = some o' → q ≠ p := fun q o' e z => by subst z; rw [h] at e; cases e
  refine ⟨⟨R.len, fun a x e => ?_, R.sh, fun i c e => ?_, fun i j c e => ?_, R.sep, R.fr0, R.new, fun a x e nl nb => ?_, fun a x e => ?_, R.bd, R.lb, R.pl.to (fun _ _ e => e) (fun j s c' q e1 e2 e3 => .inl ⟨s, c', e1, e2, e3⟩) fun i hs q c _ _ a b d => ?_⟩, p, rfl, hc, hF, .inl h0, fun i s c' e hs z => ?_, fun i hs c e m => ?_⟩
  · have k := R.ext a x e
    rw [upd_ne (ne a x k)]; exact k
  · obtain ⟨q, a, b, e2, e3⟩ := R.ow i c e
    obtain ⟨o', ho⟩ := b.ex
    exact ⟨q, a, b.at (upd_ne (ne q o' ho)), e2, e3⟩
  · obtain ⟨q, a, b, e2, e3⟩ := R.bw i j c e
    obtain ⟨o', ho⟩ := b.ex
    exact ⟨q, a, b.at (upd_ne (ne q o' ho)), e2, e3⟩
  · have k := R.keep a x e nl nb
    rw [upd_ne (ne a x k)]; exact k
  · obtain ⟨o', k⟩ := R.dom a x e
    exact ⟨o', by rw [upd_ne (ne a o' k)]; exact k⟩
  · obtain ⟨o', ho⟩ := a.ex
    exact ⟨a.at (upd_ne (ne q o' ho)), b, d⟩
  · obtain ⟨q, a, b, _⟩ := R.owned e hs
    rw [a] at z
    obtain ⟨o', ho⟩ := b.ex
    exact ne q o' ho (V.ref.inj (Option.some.inj (Option.some.inj z)))
  · obtain ⟨a, _⟩ := R.pl.has i hs p c e m
    obtain ⟨o', ho⟩ := a.ex
    exact ne p o' ho rfl
/-- an object that F does not know yet, and no slot owns, stays from now on -/
theorem Rep.stay (R : Rep K G σ H F ρ) {o : HO} (h : H p = some o) (hF : F p = none) (h0 : G.H0 p = none ∨ G.L p) (hn : Lone σ ρ p) :
    Same F (upd F p o) ∧ Rep K G σ H (upd F p o) ρ := by
  have sF : Same F (upd F p o) := same_new hF
  refine ⟨sF, R.len, fun a x e => ?_, fun i d e => ?_, fun i c e => ?_, fun i j c e => ?_, R.sep, fun a x e => sF a x (R.fr0 a x e), fun a x e => ?_, R.keep, R.dom, R.bd, R.lb, R.pl.to (fun _ _ e => e) (fun j s c' q e1 e2 e3 => .inl ⟨s, c', e1, e2, e3⟩) fun i hs q c e1 e2 a b d => ?_⟩
  · by_cases q : a = p
    · subst q; rw [upd_same] at e; rw [h]; exact e
    · rw [upd_ne q] at e; exact R.ext a x e
  · obtain ⟨v, a, b⟩ := R.sh i d e; exact ⟨v, a, b.mono sF⟩
  · obtain ⟨q, a, b, e2, e3⟩ := R.ow i c e
    have ne : q ≠ p := fun z => hn.1 i _ _ e rfl (by rw [← z]; exact a)
    exact ⟨q, a, b.mono sF, by rw [upd_ne ne]; exact e2, e3⟩
  · obtain ⟨q, a, b, e2, e3⟩ := R.bw i j c e
    have ne : q ≠ p := fun z => hn.1 i _ _ e rfl (by rw [← z]; exact a)
    exact ⟨q, a, b.mono sF, by rw [upd_ne ne]; exact e2, e3⟩
  · by_cases q : a = p
    · subst q
      rcases h0 with z | z
      · exact .inr (.inl z)
      · exact .inr (.inr z)
    · rw [upd_ne q] at e; exact R.new a x e
  · have ne : q ≠ p := fun z => by subst z; exact hn.2 i hs c e1 e2
    exact ⟨a.mono sF, by rw [upd_ne ne]; exact b, d⟩
/-- all of a pile stays from now on -/
theorem Rep.stays : ∀ {hs : List (Addr × Cn)} {F : Hp}, Rep K G σ H F ρ → (hs.map (·.1)).Nodup → (∀ p c, (p, c) ∈ hs → Has K F H p c ∧ F p = none ∧ (G.H0 p = none ∨ G.L p) ∧ Lone σ ρ p) →
    ∃ F', Same F F' ∧ Rep K G σ H F' ρ ∧ (∀ p c, (p, c) ∈ hs → Den K F' (.ref p) c.dat) ∧ ∀ p, F p = none → p ∉ hs.map (·.1) → F' p = none
  | [], F, R, _, _ => ⟨F, Same.refl F, R, fun _ _ m => (List.not_mem_nil m).elim, fun _ h _ => h⟩
  | (p, c) :: hs, F, R, hn, hh => by
    obtain ⟨a, b, d, e⟩ := hh p c List.mem_cons_self
    obtain ⟨o, ho⟩ := a.ex
    obtain ⟨s1, R1⟩ := R.stay ho b d e
    rw [List.map_cons, List.nodup_cons] at hn
    obtain ⟨F2, s2, R2, h2, g2⟩ := Rep.stays (hs := hs) R1 hn.2 fun q c' m => by
      obtain ⟨a1, b1, d1, e1⟩ := hh q c' (List.mem_cons_of_mem _ m)
      have ne : q ≠ p := fun z => by subst z; exact hn.1 (List.mem_map.mpr ⟨_, m, rfl⟩)
      exact ⟨a1.mono s1, by rw [upd_ne ne]; exact b1, d1, e1⟩
    refine ⟨F2, s1.trans s2, R2, fun q c' m => ?_, fun q hq hm => ?_⟩
    · rcases List.mem_cons.mp m with z | z
      · cases z
        exact (a.den s1 ho upd_same).mono s2
      · exact h2 q c' z
    · rw [List.map_cons, List.mem_cons, not_or] at hm
      exact g2 q (by rw [upd_ne hm.1]; exact hq) hm.2
/-- a value handed on as a datum -/
theorem Rep.share (R : Rep K G σ H F ρ) {r : Rv} (h : RDen K G σ ρ H F v r) : ∃ F', Same F F' ∧ Rep K G σ H F' ρ ∧ Den K F' v r.dat := by
  cases r with
  | v d => exact ⟨F, Same.refl F, R, h⟩
  | pt d hs =>
    obtain ⟨h1, h2, h3⟩ := h
    obtain ⟨F2, s2, R2, h4, _⟩ := R.stays h2 h3
    exact ⟨F2, s2, R2, (h1.mono s2).res fun p c e => h4 p c (lookup_mem e)⟩
  | fr c =>
    obtain ⟨p, rfl, hh, hF, h0, hn⟩ := h
    obtain ⟨o, ho⟩ := hh.ex
    obtain ⟨s1, R1⟩ := R.stay ho hF h0 hn
    exact ⟨_, s1, R1, hh.den s1 ho upd_same⟩
theorem Rep.unSlot (R : Rep K G σ H F ρ) (i : Nat) : Rep K G σ H F (ρ.set i .un) := by
  have := R.setUn i (σ.getD i none)
  have e : σ.set i (σ.getD i none) = σ := by
    by_cases h : i < σ.length
    · apply List.ext_getElem?
      intro j
      by_cases q : j = i
      · subst q
        rw [List.getElem?_set_self h, List.getD_eq_getElem?_getD, List.getElem?_eq_getElem h]
        rfl
      · rw [List.getElem?_set_ne (Ne.symm q)]
    · rw [List.set_eq_of_length_le (Nat.le_of_not_lt h)]
  rw [e] at this
  exact this
theorem un_own {s : Sl} {c' : Cn} {j : Nat} (e : (ρ.set i .un)[j]? = some s) (hs : s.cn = some c') : j ≠ i ∧ ρ[j]? = some s := by
  rcases set_get e with ⟨_, q⟩ | q
  · subst q; cases hs
  · exact q
/-- one's own thing taken out of its slot -/
theorem Rep.take (R : Rep K G σ H F ρ) (h : ρ[i]? = some (.ow c)) (hv : σ[i]? = some (some v)) : Rep K G σ H F (ρ.set i .un) ∧ RDen K G σ (ρ.set i .un) H F v (.fr c) := by
  obtain ⟨p, a, b, e, z⟩ := R.ow i c h
  rw [a] at hv; cases hv
  refine ⟨R.unSlot i, p, rfl, b, e, z, fun j s c' q hs w => ?_, fun j hs c' q m => ?_⟩
  · obtain ⟨ne, q⟩ := un_own q hs
    exact ne (R.sep j i s _ c' c p q h hs rfl w a)
  · rcases set_get q with ⟨_, z⟩ | ⟨_, z⟩
    · cases z
    · exact R.pl.own j hs p c' z m i _ c h rfl a
/-- one's own thing is changed no more -/
theorem Rep.freeze (R : Rep K G σ H F ρ) (h : ρ[i]? = some (.ow c)) : ∃ F' v, Same F F' ∧ σ[i]? = some (some v) ∧ Den K F' v c.dat ∧ Rep K G σ H F' (ρ.set i (.sh c.dat)) := by
  obtain ⟨p, a, b, e, z⟩ := R.ow i c h
  obtain ⟨R1, hd⟩ := R.take h a
  obtain ⟨F', s1, R2, d2⟩ := R1.share hd
  refine ⟨F', _, s1, a, d2, ?_⟩
  have R3 := R2.setSh d2 i
  have hi : i < σ.length := (List.getElem?_eq_some_iff.mp a).1
  rw [List.set_set] at R3
  have e1 : σ.set i (some (.ref p)) = σ := by
    apply List.ext_getElem?
    intro j
    by_cases q : j = i
    · subst q
      rw [List.getElem?_set_self hi, a]
    · rw [List.getElem?_set_ne (Ne.symm q)]
  rw [e1] at R3
  exact R3
theorem Sl.with_cn {s : Sl} {c c' : Cn} (h : s.cn = some c) : (s.with c').cn = some c' := by
  cases s with
  | un => cases h
  | pl hs => cases h
  | sh d => cases h
  | ow c => rfl
  | bw j c => rfl
/-- an owned (or lent) thing is changed -/
theorem Rep.write (R : Rep K G σ H F ρ) {s : Sl} {c' : Cn} {o : HO} (h : ρ[i]? = some s) (hs : s.cn = some c) (hp : σ[i]? = some (some (.ref p))) (hn : Has K F (upd H p o) p c') : Rep K G σ (upd H p o) F (ρ.set i (s.with c')) := by
  obtain ⟨p', a, b, e⟩ := R.owned h hs
  rw [hp] at a; cases a
  have oth : ∀ (j : Nat) (t : Sl) (c1 : Cn), ρ[j]? = some t → t.cn = some c1 → j ≠ i → ∀ q, σ[j]? = some (some (.ref q)) → q ≠ p := fun j t c1 e1 e2 ne q e3 z => by
    subst z; exact ne (R.sep j i t s c1 c q e1 h e2 hs e3 hp)
  have nG : ∀ a o1, G.H0 a = some o1 → ¬ G.L a → (∀ j, G.b j ≠ some a) → a ≠ p := fun a o1 e1 nl nb z => by
    subst z
    cases s with
    | un => cases hs
    | pl _ => cases hs
    | sh d => cases hs
    | ow c1 =>
      obtain ⟨q, a1, _, _, a4⟩ := R.ow i c1 h
      rw [hp] at a1; cases a1
      rcases a4 with a4 | a4
      · rw [e1] at a4; cases a4
      · exact nl a4
    | bw k c1 =>
      obtain ⟨q, a1, _, _, a4⟩ := R.bw i k c1 h
      rw [hp] at a1; cases a1
      exact nb k a4
  refine ⟨by rw [List.length_set]; exact R.len, fun a x e1 => ?_, fun j d e1 => ?_, fun j c1 e1 => ?_, fun j k c1 e1 => ?_, fun j k t u c1 c2 q e1 e2 h1 h2 h3 h4 => ?_, R.fr0, R.new, fun a x e1 nl nb => ?_, fun a x e1 => ?_, R.bd, R.lb, R.pl.to (fun j hs' e1 => ?_) (fun j t c1 q e1 e2 e3 => ?_) fun j hs' q c1 e1 m a1 b1 d1 => ?_⟩
  · rw [upd_ne (show a ≠ p from fun z => by subst z; rw [e] at e1; cases e1)]; exact R.ext a x e1
  · rcases set_get e1 with ⟨_, q⟩ | ⟨_, q⟩
    · have q2 := congrArg Sl.cn q
      rw [Sl.with_cn hs] at q2; cases q2
    · exact R.sh j d q
  · rcases set_get e1 with ⟨rfl, q⟩ | ⟨ne, q⟩
    · cases s with
      | un => cases hs
      | pl _ => cases hs
      | sh d => cases hs
      | ow c2 =>
        have q : Sl.ow c1 = Sl.ow c' := q
        cases q
        obtain ⟨q, a1, _, a3, a4⟩ := R.ow j c2 h
        rw [hp] at a1; cases a1
        exact ⟨p, hp, hn, a3, a4⟩
      | bw k c2 => exact nomatch (show Sl.ow c1 = Sl.bw k c' from q)
    · obtain ⟨q', a1, a2, a3, a4⟩ := R.ow j c1 q
      exact ⟨q', a1, a2.at (upd_ne (oth j _ _ q rfl ne q' a1)), a3, a4⟩
  · rcases set_get e1 with ⟨rfl, q⟩ | ⟨ne, q⟩
    · cases s with
      | un => cases hs
      | pl _ => cases hs
      | sh d => cases hs
      | ow c2 => exact nomatch (show Sl.bw k c1 = Sl.ow c' from q)
      | bw k2 c2 =>
        have q : Sl.bw k c1 = Sl.bw k2 c' := q
        cases q
        obtain ⟨q, a1, _, a3, a4⟩ := R.bw j k c2 h
        rw [hp] at a1; cases a1
        exact ⟨p, hp, hn, a3, a4⟩
    · obtain ⟨q', a1, a2, a3, a4⟩ := R.bw j k c1 q
      exact ⟨q', a1, a2.at (upd_ne (oth j _ _ q rfl ne q' a1)), a3, a4⟩
  · rcases set_get e1 with ⟨rfl, q1⟩ | ⟨ne, q1⟩
    · rcases set_get e2 with ⟨rfl, q2⟩ | ⟨ne2, q2⟩
      · rfl
      · exact R.sep j k s u c c2 q h q2 hs h2 h3 h4
    · rcases set_get e2 with ⟨rfl, q2⟩ | ⟨ne2, q2⟩
      · exact R.sep j k t s c1 c q q1 h h1 hs h3 h4
      · exact R.sep j k t u c1 c2 q q1 q2 h1 h2 h3 h4
  · rw [upd_ne (nG a x e1 nl nb)]; exact R.keep a x e1 nl nb
  · obtain ⟨o', k⟩ := R.dom a x e1
    by_cases z : a = p
    · subst z; exact ⟨o, upd_same⟩
    · exact ⟨o', by rw [upd_ne z]; exact k⟩
  · rcases set_get e1 with ⟨_, q⟩ | ⟨_, q⟩
    · have q2 := congrArg Sl.cn q
      rw [Sl.with_cn hs] at q2; cases q2
    · exact q
  · rcases set_get e1 with ⟨rfl, q1⟩ | ⟨ne, q1⟩
    · exact .inl ⟨s, c, h, hs, e3⟩
    · exact .inl ⟨t, c1, q1, e2, e3⟩
  · have ne : q ≠ p := fun z => by
      subst z
      rcases set_get e1 with ⟨_, q⟩ | ⟨_, q⟩
      · have q2 := congrArg Sl.cn q
        rw [Sl.with_cn hs] at q2; cases q2
      · exact R.pl.own j hs' _ c1 q m i s c h hs hp
    exact ⟨a1.at (upd_ne ne), b1, d1⟩
/-! ### the frame -/
def Cd.now (G : Cd) (σ : St) (ρ : SL) (H F : Hp) : Cd where
  b := G.b
  L := fun p => (∃ (i : Nat) (c : Cn), ρ[i]? = some (.ow c) ∧ σ[i]? = some (some (.ref p))) ∨ ∃ (i : Nat) (hs : List (Addr × Cn)) (c : Cn), ρ[i]? = some (.pl hs) ∧ (p, c) ∈ hs
  H0 := H
  F0 := F
theorem Rep.now (R : Rep K G σ H F ρ) : Rep K (G.now σ ρ H F) σ H F ρ where
  len := R.len
  ext := R.ext
  sh := R.sh
  ow := fun i c e => by
    obtain ⟨p, a, b, e2, _⟩ := R.ow i c e
    exact ⟨p, a, b, e2, .inr (.inl ⟨i, c, e, a⟩)⟩
  bw := R.bw
  sep := R.sep
  fr0 := Same.refl F
  new := fun a o e => .inl e
  keep := fun a o e _ _ => e
  dom := fun a o e => ⟨o, e⟩
  bd := fun j p e => by
    obtain ⟨o, h⟩ := R.bd j p e
    exact R.dom p o h
  lb := fun j p g w => by
    have a4 : G.H0 p = none ∨ G.L p := by
      rcases g with ⟨i, c, e, z⟩ | ⟨i, hs, c, e, m⟩
      · obtain ⟨q, a1, _, _, a4⟩ := R.ow i c e
        rw [z] at a1; cases a1
        exact a4
      · exact (R.pl.has i hs p c e m).2.2
    rcases a4 with a4 | a4
    · obtain ⟨o, h⟩ := R.bd j p w
      rw [a4] at h; cases h
    · exact R.lb j p a4 w
  pl := R.pl.to (fun _ _ e => e) (fun j s c' q e1 e2 e3 => .inl ⟨s, c', e1, e2, e3⟩) fun i hs q c e m a b d => ⟨a, b, .inr (.inr ⟨i, hs, c, e, m⟩)⟩
/-- what was new or one's own within a stretch is so in the whole -/
theorem Rep.outL (R : Rep K G σ H F ρ) (z : (G.now σ ρ H F).H0 p = none ∨ (G.now σ ρ H F).L p) : G.H0 p = none ∨ G.L p := by
  rcases z with z | ⟨k, c', e3, z⟩ | ⟨k, hs, c', e3, z⟩
  · exact .inl (R.fresh z).2
  · obtain ⟨q, a1, _, _, a4⟩ := R.ow k c' e3
    rw [z] at a1; cases a1
    exact a4
  · exact (R.pl.has k hs p c' e3 z).2.2
theorem Rep.back {σ' : L2.St} {H' F' : Hp} {ρ' : SL} (R : Rep K G σ H F ρ) (R' : Rep K (G.now σ ρ H F) σ' H' F' ρ') : Rep K G σ' H' F' ρ' where
  len := R'.len
  ext := R'.ext
  sh := R'.sh
  ow := fun i c e => by
    obtain ⟨p, a, b, e2, z⟩ := R'.ow i c e
    exact ⟨p, a, b, e2, R.outL z⟩
  bw := R'.bw
  sep := R'.sep
  fr0 := R.fr0.trans R'.fr0
  new := fun a o e => by
    rcases R'.new a o e with z | z
    · exact R.new a o z
    · exact .inr (R.outL z)
  keep := fun a o e nl nb => by
    refine R'.keep a o (R.keep a o e nl nb) (fun z => ?_) nb
    rcases R.outL (.inr z) with a4 | a4
    · rw [e] at a4; cases a4
    · exact nl a4
  dom := fun a o e => by
    obtain ⟨o', k⟩ := R.dom a o e
    exact R'.dom a o' k
  bd := R.bd
  lb := R.lb
  pl := R'.pl.to (fun _ _ e => e) (fun j s c' q e1 e2 e3 => .inl ⟨s, c', e1, e2, e3⟩) fun i hs q c e m a b d => ⟨a, b, R.outL d⟩
/-- what is held aside through a stretch -/
theorem Rep.held {σ' : L2.St} {H' F' : Hp} {ρ' : SL} {o : HO} (R : Rep K G σ H F ρ) (R' : Rep K (G.now σ ρ H F) σ' H' F' ρ') (h : H p = some o) (hF : F p = none)
    (hn : Lone σ ρ p) (hb : ∀ j, G.b j ≠ some p) :
    H' p = some o ∧ F' p = none ∧ Lone σ' ρ' p := by
  have nL : ¬ (G.now σ ρ H F).L p := fun g => by
    rcases g with ⟨i, c, e, z⟩ | ⟨i, hs, c, e, m⟩
    · exact hn.1 i _ c e rfl z
    · exact hn.2 i hs c e m
  refine ⟨R'.keep p o h nL hb, ?_, fun i s c' e hs z => ?_, fun i hs c e m => ?_⟩
  · cases q : F' p with
    | none => rfl
    | some u =>
      rcases R'.new p u q with w | w | w
      · have w' : F p = some u := w
        rw [hF] at w'; cases w'
      · have w' : H p = none := w
        rw [h] at w'; cases w'
      · exact (nL w).elim
  · cases s with
    | un => cases hs
    | pl _ => cases hs
    | sh d => cases hs
    | ow c =>
      obtain ⟨q, a1, _, _, a4⟩ := R'.ow i c e
      rw [z] at a1; cases a1
      rcases a4 with w | w
      · have w' : H p = none := w
        rw [h] at w'; cases w'
      · exact nL w
    | bw j c =>
      obtain ⟨q, a1, _, _, a4⟩ := R'.bw i j c e
      rw [z] at a1; cases a1
      exact hb j a4
  · obtain ⟨_, _, w | w⟩ := R'.pl.has i hs p c e m
    · have w' : H p = none := w
      rw [h] at w'; cases w'
    · exact nL w
theorem Rep.freshB (R : Rep K G σ H F ρ) (h : H p = none) : ∀ j, G.b j ≠ some p := fun j e => by
  obtain ⟨o, q⟩ := R.bd j p e
  obtain ⟨o', q'⟩ := R.dom p o q
  rw [h] at q'; cases q'
/-- a new thing that nobody looks at -/
theorem Rep.junk (R : Rep K G σ H F ρ) {o : HO} (h : H p = none) : Rep K G σ (upd H p o) F ρ := by
  have ne : ∀ q o', H q = some o' → q ≠ p := fun q o' e z => by subst z; rw [h] at e; cases e
  refine ⟨R.len, fun a x e => ?_, R.sh, fun i c e => ?_, fun i j c e => ?_, R.sep, R.fr0, R.new, fun a x e nl nb => ?_, fun a x e => ?_, R.bd, R.lb, R.pl.to (fun _ _ e => e) (fun j s c' q e1 e2 e3 => .inl ⟨s, c', e1, e2, e3⟩) fun i hs q c _ _ a b d => ?_⟩
  · have k := R.ext a x e
    rw [upd_ne (ne a x k)]; exact k
  · obtain ⟨q, a, b, e2, e3⟩ := R.ow i c e
    obtain ⟨o', ho⟩ := b.ex
    exact ⟨q, a, b.at (upd_ne (ne q o' ho)), e2, e3⟩
  · obtain ⟨q, a, b, e2, e3⟩ := R.bw i j c e
    obtain ⟨o', ho⟩ := b.ex
    exact ⟨q, a, b.at (upd_ne (ne q o' ho)), e2, e3⟩
  · have k := R.keep a x e nl nb
    rw [upd_ne (ne a x k)]; exact k
  · obtain ⟨o', k⟩ := R.dom a x e
    exact ⟨o', by rw [upd_ne (ne a o' k)]; exact k⟩
  · obtain ⟨o', ho⟩ := a.ex
    exact ⟨a.at (upd_ne (ne q o' ho)), b, d⟩
theorem Rep.nb (R : Rep K G σ H F ρ) (h0 : G.H0 p = none ∨ G.L p) : ∀ j, G.b j ≠ some p := fun j e => by
  rcases h0 with h0 | h0
  · obtain ⟨o, q⟩ := R.bd j p e
    rw [h0] at q; cases q
  · exact R.lb j p h0 e
def Cd.at (G : Cd) (F : Hp) : Cd := { G with F0 := F }
theorem Rep.rebase (R : Rep K G σ H F ρ) : Rep K (G.at F) σ H F ρ :=
  ⟨R.len, R.ext, R.sh, R.ow, R.bw, R.sep, Same.refl F, fun a o e => .inl e, R.keep, R.dom, R.bd, R.lb, R.pl.to (fun _ _ e => e) (fun j s c' q e1 e2 e3 => .inl ⟨s, c', e1, e2, e3⟩) fun i hs q c _ _ a b d => ⟨a, b, d⟩⟩
theorem Rep.unbase {σ' : L2.St} {H' F' : Hp} {ρ' : SL} (R : Rep K G σ H F ρ) (R' : Rep K (G.at F) σ' H' F' ρ') : Rep K G σ' H' F' ρ' :=
  ⟨R'.len, R'.ext, R'.sh, R'.ow, R'.bw, R'.sep, R.fr0.trans R'.fr0, fun a o e => by
    rcases R'.new a o e with z | z
    · exact R.new a o z
    · exact .inr z, R'.keep, R'.dom, R'.bd, R'.lb, R'.pl.to (fun _ _ e => e) (fun j s c' q e1 e2 e3 => .inl ⟨s, c', e1, e2, e3⟩) fun i hs q c _ _ a b d => ⟨a, b, d⟩⟩
theorem RDen.back {σ' : St} {H' F' : Hp} {ρ' : SL} {r : Rv} (R : Rep K G σ H F ρ) (h : RDen K (G.now σ ρ H F) σ' ρ' H' F' v r) : RDen K G σ' ρ' H' F' v r := by
  cases r with
  | v d => exact h
  | fr c =>
    obtain ⟨p, e, a, b, z, n⟩ := h
    exact ⟨p, e, a, b, R.outL z, n⟩
  | pt d hs =>
    obtain ⟨h1, h2, h3⟩ := h
    refine ⟨h1, h2, fun p c m => ?_⟩
    obtain ⟨a, b, z, n⟩ := h3 p c m
    exact ⟨a, b, R.outL z, n⟩
/-! ### several values at once -/
/-- a value handed on is held while something else goes on -/
theorem RDen.hold {σ' : L2.St} {H' F' : Hp} {ρ' : SL} {r : Rv} (R : Rep K G σ H F ρ) (h : RDen K G σ ρ H F v r) (R' : Rep K (G.now σ ρ H F) σ' H' F' ρ') : RDen K G σ' ρ' H' F' v r := by
  cases r with
  | v d => exact Den.mono R'.fr0 h
  | fr c =>
    obtain ⟨p, e, a, b, z, n⟩ := h
    obtain ⟨o, ho⟩ := a.ex
    obtain ⟨h1, h2, h3⟩ := R.held R' ho b n (R.nb z)
    exact ⟨p, e, (a.mono R'.fr0).at (h1.trans ho.symm), h2, z, h3⟩
  | pt d hs =>
    obtain ⟨g1, g2, g3⟩ := h
    refine ⟨g1.mono R'.fr0, g2, fun p c m => ?_⟩
    obtain ⟨a, b, z, n⟩ := g3 p c m
    obtain ⟨o, ho⟩ := a.ex
    obtain ⟨h1, h2, h3⟩ := R.held R' ho b n (R.nb z)
    exact ⟨(a.mono R'.fr0).at (h1.trans ho.symm), h2, z, h3⟩
/-- fewer slots are known, the others are as they were -/
theorem Rep.slots {σ' : L2.St} {ρ' : SL} (R : Rep K G σ H F ρ) (hl : ρ'.length = σ'.length) (h : ∀ (i : Nat) (s : Sl), ρ'[i]? = some s → s = .un ∨ (ρ[i]? = some s ∧ σ'[i]? = σ[i]?)) : Rep K G σ' H F ρ' where
  len := hl
  ext := R.ext
  sh := fun i d e => by
    rcases h i _ e with z | ⟨z, w⟩
    · cases z
    · rw [w]; exact R.sh i d z
  ow := fun i c e => by
    rcases h i _ e with z | ⟨z, w⟩
    · cases z
    · rw [w]; exact R.ow i c z
  bw := fun i j c e => by
    rcases h i _ e with z | ⟨z, w⟩
    · cases z
    · rw [w]; exact R.bw i j c z
  sep := fun i j s t c c' p e1 e2 h1 h2 h3 h4 => by
    rcases h i _ e1 with z | ⟨z, w⟩
    · subst z; cases h1
    · rcases h j _ e2 with z2 | ⟨z2, w2⟩
      · subst z2; cases h2
      · rw [w] at h3
        rw [w2] at h4
        exact R.sep i j s t c c' p z z2 h1 h2 h3 h4
  fr0 := R.fr0
  new := R.new
  keep := R.keep
  dom := R.dom
  bd := R.bd
  lb := R.lb
  pl := R.pl.to (fun i hs e => by
    rcases h i _ e with z | ⟨z, w⟩
    · cases z
    · exact z) (fun j s c' q e1 e2 e3 => by
    rcases h j _ e1 with z | ⟨z, w⟩
    · subst z; cases e2
    · rw [w] at e3; exact .inl ⟨s, c', z, e2, e3⟩) fun i hs q c _ _ a b d => ⟨a, b, d⟩
theorem Lone.slots {σ' : L2.St} {ρ' : SL} (n : Lone σ ρ p) (h : ∀ (i : Nat) (s : Sl), ρ'[i]? = some s → s = .un ∨ (ρ[i]? = some s ∧ σ'[i]? = σ[i]?)) : Lone σ' ρ' p := by
  refine ⟨fun i s c' e1 e2 e3 => ?_, fun i hs c e m => ?_⟩
  · rcases h i _ e1 with z | ⟨z, w⟩
    · subst z; cases e2
    · rw [w] at e3
      exact n.1 i s c' z e2 e3
  · rcases h i _ e with z | ⟨z, w⟩
    · cases z
    · exact n.2 i hs c z m
theorem RDen.slots {σ' : L2.St} {ρ' : SL} {r : Rv} (a : RDen K G σ ρ H F v r) (h : ∀ (i : Nat) (s : Sl), ρ'[i]? = some s → s = .un ∨ (ρ[i]? = some s ∧ σ'[i]? = σ[i]?)) : RDen K G σ' ρ' H F v r := by
  cases r with
  | v d => exact a
  | fr c =>
    obtain ⟨p, e, a1, a2, a3, n⟩ := a
    exact ⟨p, e, a1, a2, a3, n.slots h⟩
  | pt d hs =>
    obtain ⟨h1, h2, h3⟩ := a
    refine ⟨h1, h2, fun p c m => ?_⟩
    obtain ⟨a1, a2, a3, n⟩ := h3 p c m
    exact ⟨a1, a2, a3, n.slots h⟩
/-- a held thing is changed -/
theorem Rep.writeFr (R : Rep K G σ H F ρ) {o : HO} {c' : Cn} (h : RDen K G σ ρ H F (.ref p) (.fr c)) (hn : Has K F (upd H p o) p c') :
    Rep K G σ (upd H p o) F ρ ∧ RDen K G σ ρ (upd H p o) F (.ref p) (.fr c') := by
  obtain ⟨p', e, a1, a2, a3, n⟩ := h
  cases e
  have nG : ∀ a o1, G.H0 a = some o1 → ¬ G.L a → a ≠ p := fun a o1 e1 nl z => by
    subst z
    rcases a3 with z | z
    · rw [e1] at z; cases z
    · exact nl z
  refine ⟨⟨R.len, fun a x e => ?_, R.sh, fun i c e => ?_, fun i j c e => ?_, R.sep, R.fr0, R.new, fun a x e nl nb => ?_, fun a x e => ?_, R.bd, R.lb, R.pl.to (fun _ _ e => e) (fun j s c' q e1 e2 e3 => .inl ⟨s, c', e1, e2, e3⟩) fun i hs q c e m a b d => ?_⟩, p, rfl, hn, a2, a3, n⟩
  · rw [upd_ne (fun z => by subst z; rw [a2] at e; cases e)]; exact R.ext a x e
  · obtain ⟨q', a, b, e2, e3⟩ := R.ow i c e
    exact ⟨q', a, b.at (upd_ne fun z => n.1 i _ c e rfl (by rw [← z]; exact a)), e2, e3⟩
  · obtain ⟨q', a, b, e2, e3⟩ := R.bw i j c e
    exact ⟨q', a, b.at (upd_ne fun z => n.1 i _ c e rfl (by rw [← z]; exact a)), e2, e3⟩
  · rw [upd_ne (nG a x e nl)]; exact R.keep a x e nl nb
  · obtain ⟨o', kk⟩ := R.dom a x e
    by_cases z : a = p
    · subst z; exact ⟨_, upd_same⟩
    · exact ⟨o', by rw [upd_ne z]; exact kk⟩
  · exact ⟨a.at (upd_ne fun z => by subst z; exact n.2 i hs c e m), b, d⟩
/-- no pile comes with it -/
def Rv.np : Rv → Prop
  | .pt _ _ => False
  | _ => True
inductive RDs (K : PySem.W.Frag) (G : Cd) (σ : L2.St) (ρ : SL) (H F : Hp) : List V → List Rv → Prop
  | nil : RDs K G σ ρ H F [] []
  | cons {v : V} {vs : List V} {r : Rv} {rs : List Rv} : RDen K G σ ρ H F v r → RDs K G σ ρ H F vs rs →
      (∀ (p : Addr) (c : Cn), r = .fr c → v = .ref p → ∀ (j : Nat) (c' : Cn), rs[j]? = some (.fr c') → vs[j]? ≠ some (.ref p)) → r.np → RDs K G σ ρ H F (v :: vs) (r :: rs)
theorem RDs.back {H' F' : Hp} {ρ' : SL} {vs : List V} {rs : List Rv} (R : Rep K G σ H F ρ) (h : RDs K (G.now σ ρ H F) σ ρ' H' F' vs rs) : RDs K G σ ρ' H' F' vs rs := by
  induction h with
  | nil => exact .nil
  | cons a _ c np ih => exact .cons (RDen.back R a) ih c np
theorem RDs.frAt {vs : List V} {rs : List Rv} (h : RDs K G σ ρ H F vs rs) : ∀ (j : Nat) (c : Cn), rs[j]? = some (.fr c) → ∃ p, vs[j]? = some (.ref p) ∧ (G.H0 p = none ∨ G.L p) := by
  induction h with
  | nil => intro j c e; simp at e
  | cons a _ _ _ ih =>
    intro j c e
    cases j with
    | zero =>
      have e' := Option.some.inj e
      subst e'
      obtain ⟨p, e, _, _, z, _⟩ := a
      exact ⟨p, by rw [e]; rfl, z⟩
    | succ j => exact ih j c e
theorem RDs.apart {H' F' : Hp} {ρ' : SL} {r : Rv} {vs : List V} {rs : List Rv} (R : Rep K G σ H F ρ) (a : RDen K G σ ρ H F v r) (h : RDs K (G.now σ ρ H F) σ ρ' H' F' vs rs) :
    ∀ (p : Addr) (c : Cn), r = .fr c → v = .ref p → ∀ (j : Nat) (c' : Cn), rs[j]? = some (.fr c') → vs[j]? ≠ some (.ref p) := by
  rintro p c rfl rfl j c' e z
  obtain ⟨q, e1, e2⟩ := h.frAt j c' e
  rw [z] at e1; cases e1
  obtain ⟨p', e3, hh, _, _, n⟩ := a
  cases e3
  rcases e2 with e2 | ⟨i, c2, e4, e5⟩ | ⟨i, hs, c2, e4, m⟩
  · obtain ⟨o, ho⟩ := hh.ex
    have e2' : H p = none := e2
    rw [ho] at e2'; cases e2'
  · exact n.1 i _ c2 e4 rfl e5
  · exact n.2 i hs c2 e4 m
def put (ρ : SL) (i : Nat) : Rv → SL
  | .v d => ρ.set i (.sh d)
  | .fr c => ρ.set i (.ow c)
  | .pt d hs => ρ.set i (.sh (d.res hs))
theorem Rep.put (R : Rep K G σ H F ρ) {r : Rv} (h : RDen K G σ ρ H F v r) (np : r.np) (i : Nat) : Rep K G (σ.set i (some v)) H F (put ρ i r) := by
  cases r with
  | v d => exact R.setSh h i
  | fr c => exact R.setOw h i
  | pt d hs => exact np.elim
theorem Rep.putF (R : Rep K G σ H F ρ) {r : Rv} (h : RDen K G σ ρ H F v r) (i : Nat) : ∃ F', Same F F' ∧ Rep K G (σ.set i (some v)) H F' (DL.put ρ i r) := by
  cases r with
  | v d => exact ⟨F, Same.refl F, R.setSh h i⟩
  | fr c => exact ⟨F, Same.refl F, R.setOw h i⟩
  | pt d hs =>
    obtain ⟨F', s1, R1, d1⟩ := R.share h
    exact ⟨F', s1, R1.setSh d1 i⟩
theorem put_owned {r : Rv} {s : Sl} {c : Cn} {j : Nat} (hl : ρ.length = σ.length) (h : (DL.put ρ i r)[j]? = some s) (hs : s.cn = some c) (hp : (σ.set i (some v))[j]? = some (some (.ref p))) :
    (j = i ∧ v = .ref p ∧ ∃ c', r = .fr c') ∨ (ρ[j]? = some s ∧ σ[j]? = some (some (.ref p))) := by
  cases r with
  | v d =>
    rcases set_get h with ⟨rfl, q⟩ | ⟨ne, q⟩
    · subst q; cases hs
    · rw [List.getElem?_set_ne (Ne.symm ne)] at hp
      exact .inr ⟨q, hp⟩
  | fr c' =>
    rcases set_get h with ⟨rfl, q⟩ | ⟨ne, q⟩
    · rw [set_at hl h] at hp
      exact .inl ⟨rfl, Option.some.inj (Option.some.inj hp), c', rfl⟩
    · rw [List.getElem?_set_ne (Ne.symm ne)] at hp
      exact .inr ⟨q, hp⟩
  | pt d hs2 =>
    rcases set_get h with ⟨rfl, q⟩ | ⟨ne, q⟩
    · subst q; cases hs
    · rw [List.getElem?_set_ne (Ne.symm ne)] at hp
      exact .inr ⟨q, hp⟩
theorem put_pl {r : Rv} {hs : List (Addr × Cn)} {j : Nat} (h : (DL.put ρ i r)[j]? = some (.pl hs)) : ρ[j]? = some (.pl hs) := by
  cases r <;> (rcases set_get h with ⟨_, q⟩ | ⟨_, q⟩ <;> first | exact q | cases q)
theorem RDs.put {r : Rv} {vs : List V} {rs : List Rv} (hl : ρ.length = σ.length) (i : Nat) (h : RDs K G σ ρ H F vs rs)
    (hc : ∀ (p : Addr) (c : Cn), r = .fr c → v = .ref p → ∀ (j : Nat) (c' : Cn), rs[j]? = some (.fr c') → vs[j]? ≠ some (.ref p)) : RDs K G (σ.set i (some v)) (DL.put ρ i r) H F vs rs := by
  induction h with
  | nil => exact .nil
  | @cons v' vs' r' rs' a b c np ih =>
    refine .cons ?_ (ih fun p c1 e1 e2 j c' e => hc p c1 e1 e2 (j + 1) c' e) c np
    cases r' with
    | v d => exact a
    | pt d hs => exact np.elim
    | fr c1 =>
      obtain ⟨p, e, a1, a2, a3, n⟩ := a
      refine ⟨p, e, a1, a2, a3, fun k s c2 e1 e2 e3 => ?_, fun k hs c2 e1 => n.2 k hs c2 (put_pl e1)⟩
      rcases put_owned hl e1 e2 e3 with ⟨_, e4, c3, e5⟩ | ⟨e4, e5⟩
      · exact hc p c3 e5 e4 0 c1 rfl (by rw [e]; rfl)
      · exact n.1 k s c2 e4 e2 e5
theorem RDs.junk {o : HO} {vs : List V} {rs : List Rv} (h : RDs K G σ ρ H F vs rs) (hp : H p = none) : RDs K G σ ρ (upd H p o) F vs rs := by
  induction h with
  | nil => exact .nil
  | @cons v' vs' r' rs' a b c np ih =>
    refine .cons ?_ ih c np
    cases r' with
    | v d => exact a
    | pt d hs => exact np.elim
    | fr c1 =>
      obtain ⟨q, e, a1, a2, a3, n⟩ := a
      obtain ⟨o', ho⟩ := a1.ex
      exact ⟨q, e, a1.at (upd_ne fun z => by subst z; rw [hp] at ho; cases ho), a2, a3, n⟩
theorem RDs.length {vs : List V} {rs : List Rv} (h : RDs K G σ ρ H F vs rs) : vs.length = rs.length := by
  induction h with
  | nil => rfl
  | cons _ _ _ _ ih => rw [List.length_cons, List.length_cons, ih]
end
end DL

namespace DL
open PySem L2

/-! ### what is looked at -/
/-- a value looked at: its parts stay -/
def Pk (K : PySem.W.Frag) (F H : Hp) (v : V) (d : D) : Prop := Den K F v d ∨ ∃ p c, v = .ref p ∧ d = c.dat ∧ Has K F H p c
inductive Op where
  | now (d : D)
  | at (i : Nat)
  | pl (g : Nat) (p : Addr)
def Op.get (ρ : SL) : Op → Option D
  | .now d => some d
  | .at i => match ρ[i]? with
    | some s => s.dat
    | none => none
  | .pl g p => match ρ[g]? with
    | some (.pl hs) => (hs.lookup p).map Cn.dat
    | _ => none
def OpDen (K : PySem.W.Frag) (F : Hp) (σ : L2.St) (v : V) : Op → Prop
  | .now d => Den K F v d
  | .at i => σ[i]? = some (some v)
  | .pl _ p => v = .ref p
section
variable {K : PySem.W.Frag} {G : Cd} {σ : L2.St} {H F F' H' : Hp} {ρ : SL} {v : V} {d : D} {o : Op}
theorem OpDen.mono (h : OpDen K F σ v o) (e : Same F F') : OpDen K F' σ v o := by
  cases o with
  | now d => exact Den.mono e h
  | «at» i => exact h
  | pl g p => exact h
theorem OpDen.pk (h : OpDen K F σ v o) (R : Rep K G σ H F ρ) (hd : o.get ρ = some d) : Pk K F H v d := by
  cases o with
  | now d' =>
    cases hd
    exact .inl h
  | pl g p =>
    have hv : v = .ref p := h
    subst hv
    cases e : ρ[g]? with
    | none => simp only [Op.get, e] at hd; cases hd
    | some s =>
      cases s with
      | pl hs =>
        simp only [Op.get, e] at hd
        cases q : hs.lookup p with
        | none => rw [q] at hd; cases hd
        | some c =>
          rw [q] at hd
          cases hd
          exact .inr ⟨p, c, rfl, rfl, (R.pl.has g hs p c e (lookup_mem q)).1⟩
      | _ => simp only [Op.get, e] at hd; cases hd
  | «at» i =>
    have hv : σ[i]? = some (some v) := h
    cases q : ρ[i]? with
    | none => simp only [Op.get, q] at hd; cases hd
    | some s =>
      simp only [Op.get, q] at hd
      cases s with
      | un => cases hd
      | pl _ => cases hd
      | sh d' =>
        cases hd
        obtain ⟨w, a, b⟩ := R.sh i _ q
        rw [hv] at a; cases a
        exact .inl b
      | ow c =>
        cases hd
        obtain ⟨p, a, b, _⟩ := R.ow i _ q
        rw [hv] at a; cases a
        exact .inr ⟨p, c, rfl, rfl, b⟩
      | bw j c =>
        cases hd
        obtain ⟨p, a, b, _⟩ := R.bw i j _ q
        rw [hv] at a; cases a
        exact .inr ⟨p, c, rfl, rfl, b⟩
theorem Pk.int {i : Int} (h : Pk K F H v (.int i)) : v = .int i := by
  rcases h with h | ⟨p, c, rfl, e, _⟩
  · cases h; rfl
  · cases c <;> cases e
theorem Pk.bl {i : Bool} (h : Pk K F H v (.bl i)) : v = .bl i := by
  rcases h with h | ⟨p, c, rfl, e, _⟩
  · cases h; rfl
  · cases c <;> cases e
theorem Pk.str {i : Str} (h : Pk K F H v (.str i)) : v = .str i := by
  rcases h with h | ⟨p, c, rfl, e, _⟩
  · cases h; rfl
  · cases c <;> cases e
theorem Pk.strOk {i : Str} (h : Pk K F H v (.str i)) : PyData.strOk i = true := by
  rcases h with h | ⟨p, c, rfl, e, _⟩
  · cases h with | str _ a => exact a
  · cases c <;> cases e
theorem Pk.non (h : Pk K F H v .non) : v = .non := by
  rcases h with h | ⟨p, c, rfl, e, _⟩
  · cases h; rfl
  · cases c <;> cases e
theorem Pk.lst {ds : List D} (e : Same F H) (h : Pk K F H v (.lst ds)) : ∃ p xs, v = .ref p ∧ H p = some (.lst xs) ∧ DenL K F xs ds := by
  rcases h with h | ⟨p, c, rfl, e2, h⟩
  · cases h with
    | lst a b => exact ⟨_, _, rfl, e _ _ a, b⟩
  · cases c with
    | l ds' => cases e2; obtain ⟨xs, a, b⟩ := h; exact ⟨p, xs, rfl, a, b⟩
    | d _ => cases e2
    | o _ _ => cases e2
    | k _ _ _ => cases e2
    | x _ _ => cases e2
theorem Pk.tup {ds : List D} (h : Pk K F H v (.tup ds)) : ∃ p xs, v = .ref p ∧ F p = some (.tup xs) ∧ DenL K F xs ds := by
  rcases h with h | ⟨p, c, rfl, e2, h⟩
  · cases h with
    | tup a b => exact ⟨_, _, rfl, a, b⟩
  · cases c <;> cases e2
theorem Pk.scr {ns : List Int} (e : Same F H) (h : Pk K F H v (.scr ns)) : ∃ p, v = .ref p ∧ SqL K H p (ns.map V.int) := by
  rcases h with h | ⟨p, c, rfl, e2, h⟩
  · cases h with
    | scr a => exact ⟨_, rfl, e.seq a⟩
  · cases c <;> cases e2
theorem Pk.dct {ds : List (Key × D)} (e : Same F H) (h : Pk K F H v (.dct ds)) : ∃ p ks, v = .ref p ∧ H p = some (.dK ks) ∧ DenK K F ks ds := by
  rcases h with h | ⟨p, c, rfl, e2, h⟩
  · cases h with
    | dct a b => exact ⟨_, _, rfl, e _ _ a, b⟩
  · cases c with
    | d ds' => cases e2; obtain ⟨xs, a, b⟩ := h; exact ⟨p, xs, rfl, a, b⟩
    | l _ => cases e2
    | o _ _ => cases e2
    | k _ _ _ => cases e2
    | x _ _ => cases e2
theorem Pk.obj {C : Addr} {fs : List (Str × D)} (e : Same F H) (h : Pk K F H v (.obj C fs)) : ∃ p dx gs, v = .ref p ∧ H p = some (.ins C dx gs) ∧ DenO K F gs fs := by
  rcases h with h | ⟨p, c, rfl, e2, h⟩
  · cases h with
    | obj a b => exact ⟨_, _, _, rfl, e _ _ a, b⟩
  · cases c with
    | o _ _ => cases e2; obtain ⟨dx, gs, a, b⟩ := h; exact ⟨p, dx, gs, rfl, a, b⟩
    | l _ => cases e2
    | d _ => cases e2
    | k _ _ _ => cases e2
    | x _ _ => cases e2
theorem Pk.den {H : Hp} (e : Same F H) (h : Pk K F H v d) : Den K H v d := by
  rcases h with h | ⟨p, c, rfl, rfl, h⟩
  · exact h.mono e
  · obtain ⟨o, ho⟩ := h.ex
    exact h.den e ho ho
end

/-! ### the judgements over data -/
abbrev TD := SL → (Rv → SL → Prop) → Prop
abbrev TQ := SL → (Op → SL → Prop) → Prop
abbrev TB := SL → (Bool → SL → Prop) → Prop
abbrev TAs := SL → (List Op → SL → Prop) → Prop
/-- what is wanted of an error: its class, its one field (or none), the slots -/
abbrev WXD := Addr → Option (Str × D) → SL → Prop
/-- the weakest wish that the context takes -/
def wOf (X : Cx) : WX := fun cls d σ H => ∀ (u : Value) (s' : Shared), L2N.XE X (fun cls' d' σ' H' => cls' = cls ∧ d' = d ∧ σ' = σ ∧ H' = H) u s' → X.xe u s'
theorem takes_wOf (X : Cx) : L2N.Takes X (wOf X) := fun u s' ⟨a, B, sI, pins, σ, H, cls, d, e, I, nb, up, sky, na, os, ag, w⟩ =>
  w u s' ⟨a, B, sI, pins, σ, H, cls, d, e, I, nb, up, sky, na, os, ag, rfl, rfl, rfl, rfl⟩
theorem wOf_of {X : Cx} {W : WX} (tk : L2N.Takes X W) {cls : Value} {d : Option Addr} {σ : L2.St} {H : Hp} (h : W cls d σ H) : wOf X cls d σ H := fun u s' ⟨a, B, sI, pins, σ', H', cls', d', e, I, nb, up, sky, na, os, ag, e1, e2, e3, e4⟩ => by
  subst e1 e2 e3 e4
  exact tk u s' ⟨a, B, sI, pins, _, _, _, _, e, I, nb, up, sky, na, os, ag, h⟩
/-- the same, where an error may have been raised while another one was handled -/
def wOfH (X : Cx) : WX := fun cls d σ H => ∀ (u : Value) (s' : Shared), XE X (fun cls' d' σ' H' => cls' = cls ∧ d' = d ∧ σ' = σ ∧ H' = H) u s' → X.xe u s'
theorem takes_wOfH (X : Cx) : Takes X (wOfH X) := fun u s' ⟨a, B, sI, pins, σ, H, cls, d, e, I, nb, up, sky, na, os, ag, w⟩ =>
  w u s' ⟨a, B, sI, pins, σ, H, cls, d, e, I, nb, up, sky, na, os, ag, rfl, rfl, rfl, rfl⟩
theorem wOfH_of {X : Cx} {W : WX} (tk : Takes X W) {cls : Value} {d : Option Addr} {σ : L2.St} {H : Hp} (h : W cls d σ H) : wOfH X cls d σ H := fun u s' ⟨a, B, sI, pins, σ', H', cls', d', e, I, nb, up, sky, na, os, ag, e1, e2, e3, e4⟩ => by
  subst e1 e2 e3 e4
  exact tk u s' ⟨a, B, sI, pins, _, _, _, _, e, I, nb, up, sky, na, os, ag, h⟩
theorem xe_loose {X : Cx} {W : WX} {u : Value} {s' : Shared} (h : L2N.XE X W u s') : XE X W u s' := by
  obtain ⟨a, B, sI, pins, σ, H, cls, d, e, I, nb, up, sky, r⟩ := h
  refine ⟨a, B, sI, pins, σ, H, cls, d, e, I, nb, up, ?_, r⟩
  rcases sky with ⟨h1, h2, h3, oe, vs, he, hz, hr⟩ | h | ⟨h1, h2, h3, h4⟩
  · exact .inl ⟨h1, h2, h3, oe, vs, he, hz.zc, hr⟩
  · exact .inr (.inl (L2H.flyingZ_imp (fun o z => L2N.Zn.zc z) h))
  · exact .inr (.inr ⟨h1, h2, h3, L2H.tracedZ_imp (fun o z => L2N.Zn.zc z) h4⟩)
theorem wOf_ofL {X : Cx} {W : WX} (tk : Takes X W) {cls : Value} {d : Option Addr} {σ : L2.St} {H : Hp} (h : W cls d σ H) : wOf X cls d σ H := fun u s' q => wOfH_of tk h u s' (xe_loose q)
/-- an error's own dict -/
def XDen (K : PySem.W.Frag) (F : Hp) (o : Option (Str × D)) (dd : Option Addr) : Prop := match o with
  | none => dd = none
  | some (f, d) => ∃ a v, dd = some a ∧ F a = some (.xd [(f, v)]) ∧ Den K F v d
structure EndsD where
  nx : SL → Prop
  rt : Rv → SL → Prop
  bk : SL → Prop := fun _ => False
  ct : SL → Prop := fun _ => False
  xc : WXD := fun _ _ _ => False
  /-- an error that may have been raised while another one was handled -/
  xh : WXD := fun _ _ _ => False
abbrev TSD := EndsD → SL → Prop
inductive OpDens (K : PySem.W.Frag) (F : Hp) (σ : L2.St) : List V → List Op → Prop
  | nil : OpDens K F σ [] []
  | cons {v : V} {vs : List V} {o : Op} {os : List Op} : OpDen K F σ v o → OpDens K F σ vs os → OpDens K F σ (v :: vs) (o :: os)
structure DE (X : Cx) (e : Expr) (te : TE) (t : TD) : Prop where
  pe : PE X e te
  sem : ∀ {G : Cd} {σ : L2.St} {H F : Hp} {ρ : SL} {Q : VK} {Qd : Rv → SL → Prop}, Rep X.K G σ H F ρ → t ρ Qd →
    (∀ r ρ' v H' F', Qd r ρ' → Same F F' → Rep X.K G σ H' F' ρ' → RDen X.K G σ ρ' H' F' v r → Q v H') → te σ H Q
structure DO (X : Cx) (e : Expr) (te : TE) (t : TQ) : Prop where
  pe : PE X e te
  sem : ∀ {G : Cd} {σ : L2.St} {H F : Hp} {ρ : SL} {Q : VK} {Qd : Op → SL → Prop}, Rep X.K G σ H F ρ → t ρ Qd →
    (∀ o ρ' v H' F', Qd o ρ' → Same F F' → Rep X.K G σ H' F' ρ' → OpDen X.K F' σ v o → Q v H') → te σ H Q
structure DT (X : Cx) (e : Expr) (te : TT) (t : TB) : Prop where
  pe : PT X e te
  sem : ∀ {G : Cd} {σ : L2.St} {H F : Hp} {ρ : SL} {Q : Bool → Hp → Prop} {Qd : Bool → SL → Prop}, Rep X.K G σ H F ρ → t ρ Qd →
    (∀ b ρ' H' F', Qd b ρ' → Same F F' → Rep X.K G σ H' F' ρ' → Q b H') → te σ H Q
/-- a test within and, or -/
structure DW (X : Cx) (e : Expr) (te : TT) (t : TB) : Prop where
  pe : PW X e te
  sem : ∀ {G : Cd} {σ : L2.St} {H F : Hp} {ρ : SL} {Q : Bool → Hp → Prop} {Qd : Bool → SL → Prop}, Rep X.K G σ H F ρ → t ρ Qd →
    (∀ b ρ' H' F', Qd b ρ' → Same F F' → Rep X.K G σ H' F' ρ' → Q b H') → te σ H Q
structure DA (X : Cx) (es : List Expr) (ta : TA) (t : TAs) : Prop where
  pe : PA X es ta
  sem : ∀ {G : Cd} {σ : L2.St} {H F : Hp} {ρ : SL} {Q : List V → Hp → Prop} {Qd : List Op → SL → Prop}, Rep X.K G σ H F ρ → t ρ Qd →
    (∀ os ρ' vs H' F', Qd os ρ' → Same F F' → Rep X.K G σ H' F' ρ' → OpDens X.K F' σ vs os → Q vs H') → ta σ H Q
/-- what is wanted behind a statement, told over data -/
structure Link (X : Cx) (G : Cd) (D : Ends) (E : EndsD) : Prop where
  nx : ∀ σ H F ρ, E.nx ρ → Rep X.K G σ H F ρ → D.nx σ H
  rt : ∀ σ H F ρ r v, E.rt r ρ → Rep X.K G σ H F ρ → RDen X.K G σ ρ H F v r → D.rt v H
  bk : ∀ σ H F ρ, E.bk ρ → Rep X.K G σ H F ρ → D.bk σ H
  ct : ∀ σ H F ρ, E.ct ρ → Rep X.K G σ H F ρ → D.ct σ H
  xc : ∀ σ H F ρ C o dd, E.xc C o ρ → Rep X.K G σ H F ρ → XDen X.K F o dd → wOf X (.ref C) dd σ H
  xh : ∀ σ H F ρ C o dd, E.xh C o ρ → Rep X.K G σ H F ρ → XDen X.K F o dd → wOfH X (.ref C) dd σ H
structure DS (X : Cx) (st : Stmt) (ts : TS) (t : TSD) : Prop where
  pe : PS X st ts
  sem : ∀ {G : Cd} {σ : L2.St} {H F : Hp} {ρ : SL} {D : Ends} {E : EndsD}, Rep X.K G σ H F ρ → t E ρ → Link X G D E → ts D σ H
structure DSs (X : Cx) (st : List Stmt) (ts : TS) (t : TSD) : Prop where
  pe : PSs X st ts
  sem : ∀ {G : Cd} {σ : L2.St} {H F : Hp} {ρ : SL} {D : Ends} {E : EndsD}, Rep X.K G σ H F ρ → t E ρ → Link X G D E → ts D σ H

section
variable {X : Cx}
/-! ### constants, names -/
def dC (d : D) : TD := fun ρ Q => Q (.v d) ρ
theorem de_int {i j pos} : DE X (.Constant (.int i) j pos) (tC (.int i)) (dC (.int i)) := ⟨pe_int, fun R h k => k _ _ _ _ _ h (Same.refl _) R (.int i)⟩
theorem de_bl {i j pos} : DE X (.Constant (.bool i) j pos) (tC (.bl i)) (dC (.bl i)) := ⟨pe_bl, fun R h k => k _ _ _ _ _ h (Same.refl _) R (.bl i)⟩
theorem de_non {j pos} : DE X (.Constant .none j pos) (tC .non) (dC .non) := ⟨pe_non, fun R h k => k _ _ _ _ _ h (Same.refl _) R .non⟩
theorem de_str {i j pos} (hi : PyData.strOk i = true := by decide +kernel) : DE X (.Constant (.str i) j pos) (tC (.str i)) (dC (.str i)) := ⟨pe_str, fun R h k => k _ _ _ _ _ h (Same.refl _) R (.str i hi)⟩
def dVar (i : Nat) : TD := fun ρ Q => match ρ[i]? with
  | some (.sh d) => Q (.v d) ρ
  | some (.ow c) => Q (.v c.dat) (ρ.set i (.sh c.dat))
  | _ => False
def dTake (i : Nat) : TD := fun ρ Q => match ρ[i]? with
  | some (.sh d) => Q (.v d) ρ
  | some (.ow c) => Q (.fr c) (ρ.set i .un)
  | _ => False
def qVar (i : Nat) : TQ := fun ρ Q => match (Op.at i).get ρ with
  | some _ => Q (.at i) ρ
  | none => False
theorem de_var {i : Nat} {x : Str} {pos : Pos} (h : PE X (.Name x pos) (tVar i)) : DE X (.Name x pos) (tVar i) (dVar i) := by
  refine ⟨h, fun {G σ H F ρ Q Qd} R h k => ?_⟩
  unfold dVar at h
  cases q : ρ[i]? with
  | none => rw [q] at h; exact h.elim
  | some s =>
    rw [q] at h
    cases s with
    | un => exact h.elim
    | pl _ => exact h.elim
    | sh d =>
      obtain ⟨v, a, b⟩ := R.sh i d q
      exact ⟨v, a, k _ _ _ _ _ h (Same.refl _) R b⟩
    | ow c =>
      obtain ⟨F', v, s1, a, b, R1⟩ := R.freeze q
      exact ⟨v, a, k _ _ _ _ _ h s1 R1 b⟩
    | bw j c => exact h.elim
theorem de_take {i : Nat} {x : Str} {pos : Pos} (h : PE X (.Name x pos) (tVar i)) : DE X (.Name x pos) (tVar i) (dTake i) := by
  refine ⟨h, fun {G σ H F ρ Q Qd} R h k => ?_⟩
  unfold dTake at h
  cases q : ρ[i]? with
  | none => rw [q] at h; exact h.elim
  | some s =>
    rw [q] at h
    cases s with
    | un => exact h.elim
    | pl _ => exact h.elim
    | sh d =>
      obtain ⟨v, a, b⟩ := R.sh i d q
      exact ⟨v, a, k _ _ _ _ _ h (Same.refl _) R b⟩
    | ow c =>
      obtain ⟨p, a, _⟩ := R.ow i c q
      obtain ⟨R1, hd⟩ := R.take q a
      exact ⟨_, a, k _ _ _ _ _ h (Same.refl _) R1 hd⟩
    | bw j c => exact h.elim
theorem do_var {i : Nat} {x : Str} {pos : Pos} (h : PE X (.Name x pos) (tVar i)) : DO X (.Name x pos) (tVar i) (qVar i) := by
  refine ⟨h, fun {G σ H F ρ Q Qd} R h k => ?_⟩
  cases q : ρ[i]? with
  | none => simp only [qVar, Op.get, q] at h
  | some s =>
    simp only [qVar, Op.get, q] at h
    cases s with
    | un => exact h.elim
    | pl _ => exact h.elim
    | sh d =>
      obtain ⟨v, a, b⟩ := R.sh i d q
      exact ⟨v, a, k _ _ _ _ _ h (Same.refl _) R a⟩
    | ow c =>
      obtain ⟨v, a, b⟩ := R.ow i c q
      exact ⟨_, a, k _ _ _ _ _ h (Same.refl _) R a⟩
    | bw j c =>
      obtain ⟨v, a, b⟩ := R.bw i j c q
      exact ⟨_, a, k _ _ _ _ _ h (Same.refl _) R a⟩
/-- an expression as an operand -/
def qE (t : TD) : TQ := fun ρ Q => t ρ fun r ρ' => Q (.now r.dat) ρ'
theorem do_e {e : Expr} {te : TE} {t : TD} (h : DE X e te t) : DO X e te (qE t) :=
  ⟨h.pe, fun R q k => h.sem R q fun r ρ' v H' F' qd s1 R1 rd => by
    obtain ⟨F2, s2, R2, d2⟩ := R1.share rd
    exact k _ _ _ _ _ qd (s1.trans s2) R2 d2⟩
/-! ### arguments -/
def aNil : TAs := fun ρ Q => Q [] ρ
def aCons (t : TQ) (u : TAs) : TAs := fun ρ Q => t ρ fun o ρ1 => u ρ1 fun os ρ2 => Q (o :: os) ρ2
theorem da_nil : DA X [] tNil aNil := ⟨pa_nil, fun R h k => k _ _ _ _ _ h (Same.refl _) R .nil⟩
theorem da_cons {e : Expr} {es : List Expr} {te : TE} {ta : TA} {t : TQ} {u : TAs} (h : DO X e te t) (r : DA X es ta u) (hs : starEach (e :: es) X.env = (false, eval e X.env) :: starEach es X.env := by rfl) :
    DA X (e :: es) (tCons te ta) (aCons t u) :=
  ⟨pa_cons h.pe r.pe hs, fun R q k => h.sem R q fun o ρ1 v H1 F1 q1 s1 R1 d1 => r.sem R1 q1 fun os ρ2 vs H2 F2 q2 s2 R2 d2 =>
    k _ _ _ _ _ q2 (s1.trans s2) R2 (.cons (d1.mono s2) d2)⟩
/-- all arguments as data, at the end -/
def gets (ρ : SL) : List Op → Option (List D)
  | [] => some []
  | o :: os => match o.get ρ, gets ρ os with
    | some d, some ds => some (d :: ds)
    | _, _ => none
inductive Pks (K : PySem.W.Frag) (F H : Hp) : List V → List D → Prop
  | nil : Pks K F H [] []
  | cons {v : V} {vs : List V} {d : D} {ds : List D} : Pk K F H v d → Pks K F H vs ds → Pks K F H (v :: vs) (d :: ds)
theorem OpDens.pks {K : PySem.W.Frag} {G : Cd} {σ : L2.St} {H F : Hp} {ρ : SL} (R : Rep K G σ H F ρ) : ∀ {vs : List V} {os : List Op} {ds : List D}, OpDens K F σ vs os → gets ρ os = some ds → Pks K F H vs ds
  | _, _, _, .nil, e => by cases e; exact .nil
  | _, _, ds, .cons (o := o) (os := os) a b, e => by
    unfold gets at e
    cases q : o.get ρ with
    | none => rw [q] at e; cases e
    | some d =>
      rw [q] at e
      cases q2 : gets ρ os with
      | none => rw [q2] at e; cases e
      | some ds' =>
        rw [q2] at e
        cases e
        exact .cons (a.pk R q) (b.pks R q2)
/-! ### operations on values -/
def SemOp (K : PySem.W.Frag) (r : R2) (g : D → D → (Rv → Prop) → Prop) : Prop :=
  ∀ {G : Cd} {σ : L2.St} {H F : Hp} {ρ : SL} {x y : V} {a b : D} {Q : VK} {Qd : Rv → Prop}, Rep K G σ H F ρ → Pk K F H x a → Pk K F H y b → g a b Qd →
    (∀ rv z H' F', Qd rv → Same F F' → Rep K G σ H' F' ρ → RDen K G σ ρ H' F' z rv → Q z H') → r x y H Q
def SemUn (K : PySem.W.Frag) (r : V → Hp → VK → Prop) (g : D → (Rv → Prop) → Prop) : Prop :=
  ∀ {G : Cd} {σ : L2.St} {H F : Hp} {ρ : SL} {x : V} {a : D} {Q : VK} {Qd : Rv → Prop}, Rep K G σ H F ρ → Pk K F H x a → g a Qd →
    (∀ rv z H' F', Qd rv → Same F F' → Rep K G σ H' F' ρ → RDen K G σ ρ H' F' z rv → Q z H') → r x H Q
def SemCall (K : PySem.W.Frag) (r : List V → Hp → VK → Prop) (g : List D → (Rv → Prop) → Prop) : Prop :=
  ∀ {G : Cd} {σ : L2.St} {H F : Hp} {ρ : SL} {xs : List V} {as : List D} {Q : VK} {Qd : Rv → Prop}, Rep K G σ H F ρ → Pks K F H xs as → g as Qd →
    (∀ rv z H' F', Qd rv → Same F F' → Rep K G σ H' F' ρ → RDen K G σ ρ H' F' z rv → Q z H') → r xs H Q
def dOp (g : D → D → (Rv → Prop) → Prop) (ta tb : TQ) : TD := fun ρ Q => ta ρ fun oa ρ1 => tb ρ1 fun ob ρ2 => match oa.get ρ2, ob.get ρ2 with
  | some a, some b => g a b fun r => Q r ρ2
  | _, _ => False
def dUn (g : D → (Rv → Prop) → Prop) (ta : TQ) : TD := fun ρ Q => ta ρ fun oa ρ1 => match oa.get ρ1 with
  | some a => g a fun r => Q r ρ1
  | _ => False
def dCallB (g : List D → (Rv → Prop) → Prop) (ta : TAs) : TD := fun ρ Q => ta ρ fun os ρ1 => match gets ρ1 os with
  | some as => g as fun r => Q r ρ1
  | _ => False
theorem sem_op {r : R2} {g : D → D → (Rv → Prop) → Prop} {ta tb : TE} {a b : Expr} {da db : TQ} (hg : SemOp X.K r g) (ha : DO X a ta da) (hb : DO X b tb db)
    {G : Cd} {σ : L2.St} {H F : Hp} {ρ : SL} {Q : VK} {Qd : Rv → SL → Prop} (R : Rep X.K G σ H F ρ) (q : dOp g da db ρ Qd)
    (k : ∀ r ρ' v H' F', Qd r ρ' → Same F F' → Rep X.K G σ H' F' ρ' → RDen X.K G σ ρ' H' F' v r → Q v H') : tOp r ta tb σ H Q := by
  refine ha.sem R q fun oa ρ1 v H1 F1 q1 s1 R1 d1 => ?_
  refine hb.sem R1 q1 fun ob ρ2 u H2 F2 q2 s2 R2 d2 => ?_
  cases ea : oa.get ρ2 with
  | none => rw [ea] at q2; exact q2.elim
  | some x =>
    cases eb : ob.get ρ2 with
    | none => rw [ea, eb] at q2; exact q2.elim
    | some y =>
      rw [ea, eb] at q2
      exact hg R2 ((d1.mono s2).pk R2 ea) (d2.pk R2 eb) q2 fun rv z H' F' qd s3 R3 rd => k _ _ _ _ _ qd (s1.trans (s2.trans s3)) R3 rd
theorem de_op {op : Operator} {r : R2} {g : D → D → (Rv → Prop) → Prop} {ta tb : TE} {a b : Expr} {da db : TQ} {pos : Pos} (ho : OpR X (binaryOp op) r) (hg : SemOp X.K r g) (ha : DO X a ta da) (hb : DO X b tb db) :
    DE X (.BinOp a op b pos) (tOp r ta tb) (dOp g da db) := ⟨pe_op ho ha.pe hb.pe, fun R q k => sem_op hg ha hb R q k⟩
theorem de_cmp {op : CmpOp} {r : R2} {g : D → D → (Rv → Prop) → Prop} {ta tb : TE} {a b : Expr} {da db : TQ} {pos : Pos} (ho : OpR X (compareOp op) r) (hg : SemOp X.K r g) (ha : DO X a ta da) (hb : DO X b tb db)
    (hm : behindInMarks op b = false) : DE X (.Compare a [op] [b] pos) (tOp r ta tb) (dOp g da db) := ⟨pe_cmpR ho ha.pe hb.pe hm, fun R q k => sem_op hg ha hb R q k⟩
theorem de_un {op : UnaryOp} {r : V → Hp → VK → Prop} {g : D → (Rv → Prop) → Prop} {ta : TE} {a : Expr} {da : TQ} {pos : Pos} (ho : UnR X (unaryOp op) r) (hg : SemUn X.K r g) (ha : DO X a ta da) :
    DE X (.UnaryOp op a pos) (tUn r ta) (dUn g da) := by
  refine ⟨pe_un ho ha.pe, fun R q k => ?_⟩
  refine ha.sem R q fun oa ρ1 v H1 F1 q1 s1 R1 d1 => ?_
  cases ea : oa.get ρ1 with
  | none => rw [ea] at q1; exact q1.elim
  | some x =>
    rw [ea] at q1
    exact hg R1 (d1.pk R1 ea) q1 fun rv z H' F' qd s3 R3 rd => k _ _ _ _ _ qd (s1.trans s3) R3 rd
theorem sem_callB {r : List V → Hp → VK → Prop} {g : List D → (Rv → Prop) → Prop} {ta : TA} {es : List Expr} {da : TAs} (hg : SemCall X.K r g) (ha : DA X es ta da)
    {G : Cd} {σ : L2.St} {H F : Hp} {ρ : SL} {Q : VK} {Qd : Rv → SL → Prop} (R : Rep X.K G σ H F ρ) (q : dCallB g da ρ Qd)
    (k : ∀ r ρ' v H' F', Qd r ρ' → Same F F' → Rep X.K G σ H' F' ρ' → RDen X.K G σ ρ' H' F' v r → Q v H') : tCB r ta σ H Q := by
  refine ha.sem R q fun os ρ1 vs H1 F1 q1 s1 R1 d1 => ?_
  cases ea : gets ρ1 os with
  | none => rw [ea] at q1; exact q1.elim
  | some as =>
    rw [ea] at q1
    exact hg R1 (d1.pks R1 ea) q1 fun rv z H' F' qd s3 R3 rd => k _ _ _ _ _ qd (s1.trans s3) R3 rd
theorem de_callB {id : String} {x : Str} {p pos : Pos} {r : List V → Hp → VK → Prop} {g : List D → (Rv → Prop) → Prop} {ta : TA} {e : Expr} {es : List Expr} {da : TAs} (hc : CallR X (.builtin id) r) (hG : SemCall X.K r g)
    (hg : Gl X x) (hm : X.mg x = none) (hv : bootBuiltins x = some (.builtin id)) (ha : DA X (e :: es) ta da) (hn : x ≠ "__name__" := by decide) (hdb : (x == ("__debug__" : Str)) = false := by decide)
    (he : starEach (e :: es) X.env = (false, eval e X.env) :: starEach es X.env := by rfl) (hpl : (backTo pos (starEach es X.env)).any (·.1) = false := by rfl) : DE X (.Call (.Name x p) (e :: es) [] pos) (tCB r ta) (dCallB g da) :=
  ⟨pe_callB hc hg hm hv ha.pe hn hdb he hpl, fun R q k => sem_callB hG ha R q k⟩
theorem de_callTy {T : String} {x : Str} {p pos : Pos} {r : List V → Hp → VK → Prop} {g : List D → (Rv → Prop) → Prop} {ta : TA} {e : Expr} {es : List Expr} {da : TAs} (hc : CallR X (.type T) r) (hG : SemCall X.K r g)
    (hg : Gl X x) (hm : X.mg x = none) (hv : bootBuiltins x = some (.type T)) (ha : DA X (e :: es) ta da) (hn : x ≠ "__name__" := by decide) (hdb : (x == ("__debug__" : Str)) = false := by decide)
    (he : starEach (e :: es) X.env = (false, eval e X.env) :: starEach es X.env := by rfl) (hpl : (backTo pos (starEach es X.env)).any (·.1) = false := by rfl) : DE X (.Call (.Name x p) (e :: es) [] pos) (tCB r ta) (dCallB g da) :=
  ⟨pe_callTy hc hg hm hv ha.pe hn hdb he hpl, fun R q k => sem_callB hG ha R q k⟩
end
end DL

namespace DL
open PySem L2
section
variable {X : Cx}
/-! ### operators -/
theorem strOk_iff {x : Str} : PyData.strOk x = true ↔ ∀ c ∈ x.cps.toList, c < 0x110000 := by
  unfold PyData.strOk
  rw [← Array.all_toList, List.all_eq_true]
  constructor
  · intro h c hc
    exact of_decide_eq_true (h c hc)
  · intro h c hc
    exact decide_eq_true (h c hc)
theorem Str.append_list (x y : Str) : (x ++ y).cps.toList = x.cps.toList ++ y.cps.toList := by
  show (Str.append x y).cps.toList = _
  simp [Str.append]
theorem strOk_append {x y : Str} (h1 : PyData.strOk x = true) (h2 : PyData.strOk y = true) : PyData.strOk (x ++ y) = true := by
  rw [strOk_iff] at *
  intro c hc
  rw [Str.append_list] at hc
  rcases List.mem_append.mp hc with h | h
  · exact h1 c h
  · exact h2 c h
/-- text * int -/
def Str.reps (x : Str) (n : Nat) : Str := ⟨(List.replicate n x.cps.toList).flatten.toArray⟩
theorem strOk_reps {x : Str} (h1 : PyData.strOk x = true) (n : Nat) : PyData.strOk (Str.reps x n) = true := by
  rw [strOk_iff] at *
  intro c hc
  have hc' : c ∈ (List.replicate n x.cps.toList).flatten := by simpa [Str.reps] using hc
  obtain ⟨l, hl, hc2⟩ := List.mem_flatten.mp hc'
  rw [List.eq_of_mem_replicate hl] at hc2
  exact h1 c hc2
def gAdd : D → D → (Rv → Prop) → Prop
  | .int i, .int j => fun Q => Q (.v (.int (i + j)))
  | .str x, .str y => fun Q => x.length + y.length ≤ sizeLine ∧ Q (.v (.str (x ++ y)))
  | .lst xs, .lst ys => fun Q => xs.length + ys.length ≤ sizeLine ∧ Q (.fr (.l (xs ++ ys)))
  | _, _ => fun _ => False
def rAddA : R2 := fun x y H Q => rI0 (fun i j => .int (i + j)) x y H Q ∨ ((∃ i j, x = .str i ∧ y = .str j ∧ i.length + j.length ≤ sizeLine ∧ Q (.str (i ++ j)) H) ∨ rCat x y H Q)
theorem op_addA : OpR X (binaryOp .Add) rAddA := op_add.or (op_add_str.or op_cat)
theorem sem_addA : SemOp X.K rAddA gAdd := by
  intro G σ H F ρ x y a b Q Qd R ha hb h k
  unfold gAdd at h
  split at h
  · cases ha.int; cases hb.int
    exact .inl ⟨_, _, rfl, rfl, k _ _ _ _ h (Same.refl _) R (.int _)⟩
  · have o1 := ha.strOk
    have o2 := hb.strOk
    cases ha.str; cases hb.str
    exact .inr (.inl ⟨_, _, rfl, rfl, h.1, k _ _ _ _ h.2 (Same.refl _) R (.str _ (strOk_append o1 o2))⟩)
  · obtain ⟨p, xs, rfl, h1, d1⟩ := ha.lst R.ext
    obtain ⟨q, ys, rfl, h2, d2⟩ := hb.lst R.ext
    refine .inr (.inr ⟨p, q, xs, ys, rfl, rfl, h1, h2, by rw [d1.length, d2.length]; exact h.1, fun a ha => ?_⟩)
    obtain ⟨R1, rd⟩ := R.allocFr ha (c := .l _) ⟨_, upd_same, d1.append d2⟩
    exact k _ _ _ _ h.2 (Same.refl _) R1 rd
  · exact h.elim
def gSubI : D → D → (Rv → Prop) → Prop
  | .int i, .int j => fun Q => Q (.v (.int (i - j)))
  | _, _ => fun _ => False
theorem sem_sub : SemOp X.K (rI0 fun i j => .int (i - j)) gSubI := by
  intro G σ H F ρ x y a b Q Qd R ha hb h k
  unfold gSubI at h
  split at h
  · cases ha.int; cases hb.int
    exact ⟨_, _, rfl, rfl, k _ _ _ _ h (Same.refl _) R (.int _)⟩
  · exact h.elim
def rRepS : R2 := fun x y H Q => ∃ (z : Str) (n : Int), x = .str z ∧ y = .int n ∧ -(2 ^ 63) ≤ n ∧ z.length * n.toNat ≤ sizeLine ∧ n ≤ sizeLine ∧ Q (.str (Str.reps z n.toNat)) H
theorem foldl_arr (x : Array Nat) : ∀ (n : Nat) (acc : Array Nat), ((List.replicate n x).foldl (· ++ ·) acc) = acc ++ (List.replicate n x.toList).flatten.toArray
  | 0, acc => by simp
  | n + 1, acc => by
    rw [List.replicate_succ, List.foldl_cons, foldl_arr x n, List.replicate_succ, List.flatten_cons, ← List.append_toArray, ← Array.append_assoc]
theorem op_repS : OpR X (binaryOp .Mult) rRepS := by
  intro pins s σ H x y v u Q I rx ry h
  obtain ⟨z, n, rfl, rfl, hlo, hz, hn, q⟩ := h
  obtain ⟨t, rfl⟩ := rx
  obtain ⟨t', rfl⟩ := ry
  have hs : (sizeLine : Int) < 2 ^ 63 := by rw [sizeLine_eq]; decide
  refine PySem.P.mul_str (by rw [decide_eq_false (by omega), decide_eq_false (by omega)]; rfl) (fun h1 _ => ?_) (fun h1 _ => ?_) ?_
  · have hp : (0 : Int) < n := by omega
    intro hc
    have h3 : (z.length : Int) * n ≤ sizeLine := by
      have : (z.length : Int) * n = ((z.length * n.toNat : Nat) : Int) := by
        rw [Int.natCast_mul, Int.toNat_of_nonneg (by omega)]
      rw [this]; exact_mod_cast hz
    have h4 : (2 ^ 63 - 1) / n * n ≤ 2 ^ 63 - 1 := Int.ediv_mul_le _ (by omega)
    have h5 : ((2 ^ 63 - 1) / n + 1) * n ≤ (z.length : Int) * n := Int.mul_le_mul_of_nonneg_right (by omega) (by omega)
    have h6 : 2 ^ 63 - 1 < ((2 ^ 63 - 1) / n + 1) * n := Int.lt_ediv_add_one_mul_self _ hp
    omega
  · unfold Builtin.Str.tooLong
    exact decide_eq_false (by omega)
  · by_cases h1 : n < 1
    · rw [if_pos h1]
      have e : n.toNat = 0 := by omega
      rw [e] at q
      exact ⟨by decide, .str _, H, I.tok _, ⟨_, rfl⟩, q⟩
    · rw [if_neg h1]
      by_cases h2 : (n == 1 || z.length == 0) = true
      · rw [if_pos h2]
        have e : Str.reps z n.toNat = z := by
          unfold Str.reps
          rcases Bool.or_eq_true_iff.mp h2 with h3 | h3
          · have : n = 1 := by simpa using h3
            subst this
            simp
          · have h4 : z.cps.size = 0 := by simpa [Str.length] using h3
            have h5 : z.cps = #[] := Array.eq_empty_of_size_eq_zero h4
            obtain ⟨c⟩ := z
            have h6 : c = #[] := h5
            subst h6
            simp
        rw [e] at q
        exact ⟨.str _, H, I, ⟨_, rfl⟩, q⟩
      · rw [if_neg h2]
        refine ⟨?_, .str _, H, I.tok _, ⟨_, rfl⟩, ?_⟩
        · show Str.length _ ≤ sizeLine
          rw [foldl_arr]
          simp only [Str.length]
          simp
          rw [Nat.mul_comm]
          exact hz
        · rw [foldl_arr]
          simpa [Str.reps] using q
def gMul : D → D → (Rv → Prop) → Prop
  | .int i, .int j => fun Q => CMulW i j ∧ Q (.v (.int (i * j)))
  | .str x, .int j => fun Q => -(2 ^ 63) ≤ j ∧ x.length * j.toNat ≤ sizeLine ∧ j ≤ sizeLine ∧ Q (.v (.str (Str.reps x j.toNat)))
  | .lst xs, .int j => fun Q => -(2 ^ 63) ≤ j ∧ j < 2 ^ 63 ∧ xs.length * j.toNat ≤ sizeLine ∧ Q (.fr (.l (List.replicate j.toNat xs).flatten))
  | _, _ => fun _ => False
def rMulA : R2 := fun x y H Q => rI CMulW (fun i j => .int (i * j)) x y H Q ∨ (rRepS x y H Q ∨ rRep x y H Q)
theorem op_mulA : OpR X (binaryOp .Mult) rMulA := op_mulW.or (op_repS.or op_rep)
theorem sem_mulA : SemOp X.K rMulA gMul := by
  intro G σ H F ρ x y a b Q Qd R ha hb h k
  unfold gMul at h
  split at h
  · cases ha.int; cases hb.int
    exact .inl ⟨_, _, rfl, rfl, h.1, k _ _ _ _ h.2 (Same.refl _) R (.int _)⟩
  · have o1 := ha.strOk
    cases ha.str; cases hb.int
    exact .inr (.inl ⟨_, _, rfl, rfl, h.1, h.2.1, h.2.2.1, k _ _ _ _ h.2.2.2 (Same.refl _) R (.str _ (strOk_reps o1 _))⟩)
  · obtain ⟨p, xs, rfl, h1, d1⟩ := ha.lst R.ext
    cases hb.int
    refine .inr (.inr ⟨p, _, xs, rfl, rfl, h1, h.1, h.2.1, by rw [d1.length]; exact h.2.2.1, fun a ha => ?_⟩)
    obtain ⟨R1, rd⟩ := R.allocFr ha (c := .l _) ⟨_, upd_same, d1.repl _⟩
    exact k _ _ _ _ h.2.2.2 (Same.refl _) R1 rd
  · exact h.elim
def gDiv : D → D → (Rv → Prop) → Prop
  | .int i, .int j => fun Q => CDivW i j ∧ Q (.v (.int (i / j)))
  | _, _ => fun _ => False
theorem sem_div : SemOp X.K (rI CDivW fun i j => .int (i / j)) gDiv := by
  intro G σ H F ρ x y a b Q Qd R ha hb h k
  unfold gDiv at h
  split at h
  · cases ha.int; cases hb.int
    exact ⟨_, _, rfl, rfl, h.1, k _ _ _ _ h.2 (Same.refl _) R (.int _)⟩
  · exact h.elim
def gMod : D → D → (Rv → Prop) → Prop
  | .int i, .int j => fun Q => 0 < j ∧ Q (.v (.int (i % j)))
  | _, _ => fun _ => False
theorem sem_mod : SemOp X.K (rI (fun _ j => 0 < j) fun i j => .int (i % j)) gMod := by
  intro G σ H F ρ x y a b Q Qd R ha hb h k
  unfold gMod at h
  split at h
  · cases ha.int; cases hb.int
    exact ⟨_, _, rfl, rfl, h.1, k _ _ _ _ h.2 (Same.refl _) R (.int _)⟩
  · exact h.elim
def gNeg : D → (Rv → Prop) → Prop
  | .int i => fun Q => Q (.v (.int (-i)))
  | _ => fun _ => False
theorem sem_neg : SemUn X.K (rU fun i => .int (-i)) gNeg := by
  intro G σ H F ρ x a Q Qd R ha h k
  unfold gNeg at h
  split at h
  · cases ha.int
    exact ⟨_, rfl, k _ _ _ _ h (Same.refl _) R (.int _)⟩
  · exact h.elim
/-! ### comparisons of ints -/
end
/-! ### equality -/
mutual
/-- plain data, of nesting at most n -/
def D.fit : Nat → D → Bool
  | _, .non => true
  | _, .bl _ => true
  | _, .int _ => true
  | _, .str _ => true
  | 0, .lst _ => false
  | 0, .tup _ => false
  | n + 1, .lst l => D.fits n l
  | n + 1, .tup l => D.fits n l
  | _, .dct _ => false
  | _, .obj _ _ => false
  | _, .scr _ => false
  | _, .rep _ => false
  | _, .at _ => false
  | _, .exc _ _ _ _ _ => false
  | _, .dx _ _ => false
  | _, .unk => false
def D.fits : Nat → List D → Bool
  | _, [] => true
  | n, d :: r => D.fit n d && D.fits n r
end
theorem pys_map : ∀ l : List D, D.pys l = l.map D.py
  | [] => by rw [D.pys]; rfl
  | d :: r => by rw [D.pys, pys_map r]; rfl
theorem fits_all {n : Nat} : ∀ l : List D, D.fits n l = l.all (D.fit n)
  | [] => by simp [D.fits]
  | d :: r => by rw [D.fits, fits_all r]; rfl
section
variable {K : PySem.W.Frag} {H : Hp}
mutual
theorem fit_lay : ∀ (n : Nat) (d : D) (v : V), Den K H v d → D.fit n d = true → d.py.canLay0 = true ∧ d.py.depth ≤ n
  | n, .non, _, _, _ => by simp [D.py, PyData.canLay0, PyData.depth]
  | n, .bl _, _, _, _ => by simp [D.py, PyData.canLay0, PyData.depth]
  | n, .int _, _, _, _ => by simp [D.py, PyData.canLay0, PyData.depth]
  | n, .str x, _, hd, h => by
    have h' : PyData.strOk x = true := by cases hd with | str _ a => exact a
    simp [D.py, PyData.canLay0, PyData.depth, h']
  | 0, .lst _, _, _, h => by simp [D.fit] at h
  | 0, .tup _, _, _, h => by simp [D.fit] at h
  | n + 1, .lst l, _, hd, h => by
    rw [D.fit] at h
    cases hd with
    | lst _ b =>
      obtain ⟨h1, h2⟩ := fits_lay n l _ b h
      rw [D.py, PyData.canLay0, PyData.depth]
      exact ⟨h1, by omega⟩
  | n + 1, .tup l, _, hd, h => by
    rw [D.fit] at h
    cases hd with
    | tup _ b =>
      obtain ⟨h1, h2⟩ := fits_lay n l _ b h
      rw [D.py, PyData.canLay0, PyData.depth]
      exact ⟨h1, by omega⟩
  | n, .dct _, _, _, h => by simp [D.fit] at h
  | n, .obj _ _, _, _, h => by simp [D.fit] at h
  | n, .scr _, _, _, h => by simp [D.fit] at h
  | n, .rep _, _, _, h => by simp [D.fit] at h
  | n, .at _, _, _, h => by simp [D.fit] at h
  | n, .exc _ _ _ _ _, _, _, h => by simp [D.fit] at h
  | n, .dx _ _, _, _, h => by simp [D.fit] at h
  | n, .unk, _, _, h => by simp [D.fit] at h
theorem fits_lay : ∀ (n : Nat) (l : List D) (vs : List V), DenL K H vs l → D.fits n l = true → PyData.canLayAll0 (D.pys l) = true ∧ PyData.depthAll (D.pys l) ≤ n
  | n, [], _, _, _ => by simp [D.pys, PyData.canLayAll0, PyData.depthAll]
  | n, d :: r, _, hd, h => by
    rw [D.fits, Bool.and_eq_true] at h
    cases hd with
    | cons a b =>
      obtain ⟨h1, h2⟩ := fit_lay n d _ a h.1
      obtain ⟨h3, h4⟩ := fits_lay n r _ b h.2
      rw [D.pys, PyData.canLayAll0, PyData.depthAll, h1, h3]
      exact ⟨rfl, by omega⟩
end
theorem shaped_of {d : D} {v : V} (hd : Den K H v d) (h : D.fit 60 d = true) : SeqAt.shaped d.py = true := by
  obtain ⟨h1, h2⟩ := fit_lay 60 d v hd h
  unfold SeqAt.shaped
  rw [h1, decide_eq_true (by omega)]
  rfl
end
section
variable {K : PySem.W.Frag} {H : Hp}
mutual
theorem Den.dp : ∀ {n : Nat} {d : D} {v : V}, Den K H v d → D.fit n d = true → Dp K H v d.py
  | _, .non, _, h, _ => by cases h; rw [D.py]; exact .non
  | _, .bl b, _, h, _ => by cases h; rw [D.py]; exact .bl _
  | _, .int i, _, h, _ => by cases h; rw [D.py]; exact .int _
  | _, .str x, _, h, _ => by cases h; rw [D.py]; exact .str _
  | 0, .lst ds, _, h, e => by simp [D.fit] at e
  | 0, .tup ds, _, h, e => by simp [D.fit] at e
  | n + 1, .lst ds, _, h, e => by
    rw [D.fit] at e
    cases h with
    | lst a b => rw [D.py]; exact .lst (.inl (.inl a)) (DenL.dp b e)
  | n + 1, .tup ds, _, h, e => by
    rw [D.fit] at e
    cases h with
    | tup a b => rw [D.py]; exact .tup (.inl (.inl a)) (DenL.dp b e)
  | _, .dct ds, _, h, e => by simp [D.fit] at e
  | _, .obj C fs, _, h, e => by simp [D.fit] at e
  | _, .scr ns, _, h, e => by simp [D.fit] at e
  | _, .rep ns, _, h, e => by simp [D.fit] at e
  | _, .at ns, _, h, e => by simp [D.fit] at e
  | _, .exc _ _ _ _ _, _, h, e => by simp [D.fit] at e
  | _, .dx _ _, _, h, e => by simp [D.fit] at e
  | _, .unk, _, h, e => by simp [D.fit] at e
theorem DenL.dp : ∀ {n : Nat} {ds : List D} {vs : List V}, DenL K H vs ds → D.fits n ds = true → DpAll K H vs (D.pys ds)
  | _, [], _, h, _ => by cases h; rw [D.pys]; exact .nil
  | n, d :: ds, _, h, e => by
    rw [D.fits, Bool.and_eq_true] at e
    cases h with
    | cons a b => rw [D.pys]; exact .cons (Den.dp a e.1) (DenL.dp b e.2)
end
end
mutual
def D.eqv : D → D → Bool
  | .non, .non => true
  | .bl a, .bl b => a == b
  | .bl a, .int j => (if a then 1 else 0) == j
  | .int i, .bl b => i == (if b then 1 else 0)
  | .int i, .int j => i == j
  | .str x, .str y => x == y
  | .lst xs, .lst ys => D.eqvs xs ys
  | .tup xs, .tup ys => D.eqvs xs ys
  | _, _ => false
def D.eqvs : List D → List D → Bool
  | [], [] => true
  | x :: xs, y :: ys => D.eqv x y && D.eqvs xs ys
  | _, _ => false
end
mutual
theorem eqv_py : ∀ (a b : D) (n m : Nat), D.fit n a = true → D.fit m b = true → PyData.eqv a.py b.py = D.eqv a b := by
  intro a b n m ha hb
  cases a with
  | non => cases b <;> first | (simp [D.py, D.eqv, PyData.eqv]; done) | (simp [D.fit] at hb; done) | (cases m <;> simp [D.fit] at hb <;> simp [D.py, D.eqv, PyData.eqv])
  | bl x => cases b <;> first | (simp [D.py, D.eqv, PyData.eqv]; done) | (simp [D.fit] at hb; done) | (cases m <;> simp [D.fit] at hb <;> simp [D.py, D.eqv, PyData.eqv])
  | int x => cases b <;> first | (simp [D.py, D.eqv, PyData.eqv]; done) | (simp [D.fit] at hb; done) | (cases m <;> simp [D.fit] at hb <;> simp [D.py, D.eqv, PyData.eqv])
  | str x => cases b <;> first | (simp [D.py, D.eqv, PyData.eqv]; done) | (simp [D.fit] at hb; done) | (cases m <;> simp [D.fit] at hb <;> simp [D.py, D.eqv, PyData.eqv])
  | lst l =>
    cases n with
    | zero => simp [D.fit] at ha
    | succ n =>
      cases b with
      | lst l2 =>
        cases m with
        | zero => simp [D.fit] at hb
        | succ m =>
          rw [D.fit] at ha hb
          rw [D.py, D.py, PyData.eqv, D.eqv]
          exact eqvs_py l l2 n m ha hb
      | dct _ => simp [D.fit] at hb
      | obj _ _ => simp [D.fit] at hb
      | scr _ => simp [D.fit] at hb
      | rep _ => simp [D.fit] at hb
      | «at» _ => simp [D.fit] at hb
      | exc _ _ _ _ _ => simp [D.fit] at hb
      | dx _ _ => simp [D.fit] at hb
      | unk => simp [D.fit] at hb
      | _ => simp [D.py, D.eqv, PyData.eqv]
  | tup l =>
    cases n with
    | zero => simp [D.fit] at ha
    | succ n =>
      cases b with
      | tup l2 =>
        cases m with
        | zero => simp [D.fit] at hb
        | succ m =>
          rw [D.fit] at ha hb
          rw [D.py, D.py, PyData.eqv, D.eqv]
          exact eqvs_py l l2 n m ha hb
      | dct _ => simp [D.fit] at hb
      | obj _ _ => simp [D.fit] at hb
      | scr _ => simp [D.fit] at hb
      | rep _ => simp [D.fit] at hb
      | «at» _ => simp [D.fit] at hb
      | exc _ _ _ _ _ => simp [D.fit] at hb
      | dx _ _ => simp [D.fit] at hb
      | unk => simp [D.fit] at hb
      | _ => simp [D.py, D.eqv, PyData.eqv]
  | dct _ => simp [D.fit] at ha
  | obj _ _ => simp [D.fit] at ha
  | scr _ => simp [D.fit] at ha
  | rep _ => simp [D.fit] at ha
  | «at» _ => simp [D.fit] at ha
  | exc _ _ _ _ _ => simp [D.fit] at ha
  | dx _ _ => simp [D.fit] at ha
  | unk => simp [D.fit] at ha
theorem eqvs_py : ∀ (as bs : List D) (n m : Nat), D.fits n as = true → D.fits m bs = true → PyData.eqvAll (D.pys as) (D.pys bs) = D.eqvs as bs
  | [], [], _, _, _, _ => by simp [D.pys, D.eqvs, PyData.eqvAll]
  | [], _ :: _, _, _, _, _ => by simp [D.pys, D.eqvs, PyData.eqvAll]
  | _ :: _, [], _, _, _, _ => by simp [D.pys, D.eqvs, PyData.eqvAll]
  | a :: as, b :: bs, n, m, ha, hb => by
    rw [D.fits, Bool.and_eq_true] at ha hb
    rw [D.pys, D.pys, D.eqvs, PyData.eqvAll, eqv_py a b n m ha.1 hb.1, eqvs_py as bs n m ha.2 hb.2]
end
section
variable {X : Cx}
def gEqD (f : Bool → Bool) (a b : D) (Q : Rv → Prop) : Prop := D.fit 60 a = true ∧ D.fit 60 b = true ∧ Q (.v (.bl (f (D.eqv a b))))
theorem sem_eqD : SemOp X.K (rEqD X.K) (gEqD id) := by
  intro G σ H F ρ x y a b Q Qd R ha hb h k
  obtain ⟨h1, h2, h⟩ := h
  refine ⟨a.py, b.py, Den.dp (ha.den R.ext) h1, Den.dp (hb.den R.ext) h2, shaped_of (ha.den R.ext) h1, shaped_of (hb.den R.ext) h2, ?_⟩
  rw [eqv_py a b 60 60 h1 h2]
  exact k _ _ _ _ h (Same.refl _) R (.bl _)
theorem sem_neD : SemOp X.K (rNeD X.K) (gEqD not) := by
  intro G σ H F ρ x y a b Q Qd R ha hb h k
  obtain ⟨h1, h2, h⟩ := h
  refine ⟨a.py, b.py, Den.dp (ha.den R.ext) h1, Den.dp (hb.den R.ext) h2, shaped_of (ha.den R.ext) h1, shaped_of (hb.den R.ext) h2, ?_⟩
  rw [eqv_py a b 60 60 h1 h2]
  exact k _ _ _ _ h (Same.refl _) R (.bl _)
theorem Pk.rep {K : PySem.W.Frag} {F H : Hp} {v : V} {d : D} (h : Pk K F H v (.rep d)) : v = .str d.py.shown := by
  rcases h with h | ⟨p, c, rfl, e, _⟩
  · cases h; rfl
  · cases c <;> cases e
/-- == and !=: plain data, or two texts that repr gave -/
def gEq (f : Bool → Bool) : D → D → (Rv → Prop) → Prop
  | .rep a, .rep b => fun Q => Q (.v (.bl (f (decide (a.py.shown = b.py.shown)))))
  | a, b => gEqD f a b
def rEqA (K : PySem.W.Frag) : R2 := fun x y H Q => rEqD K x y H Q ∨ rEq x y H Q
def rNeA (K : PySem.W.Frag) : R2 := fun x y H Q => rNeD K x y H Q ∨ rNe x y H Q
theorem op_eqA (hu : X.A.units + 64 < cLine) : OpR X (compareOp .Eq) (rEqA X.K) := (op_eqD hu).or op_eq
theorem op_neA (hu : X.A.units + 64 < cLine) : OpR X (compareOp .NotEq) (rNeA X.K) := (op_neD hu).or op_ne
theorem dec_strV {x y : Str} : decide (V.str x = V.str y) = decide (x = y) := by
  by_cases h : x = y
  · subst h; simp
  · rw [decide_eq_false h, decide_eq_false fun e => h (V.str.inj e)]
theorem sem_eq : SemOp X.K (rEqA X.K) (gEq id) := by
  intro G σ H F ρ x y a b Q Qd R ha hb h k
  unfold gEq at h
  split at h
  · cases ha.rep; cases hb.rep
    exact .inr ⟨rfl, by rw [dec_strV]; exact k _ _ _ _ h (Same.refl _) R (.bl _)⟩
  · exact .inl (sem_eqD R ha hb h k)
theorem sem_ne : SemOp X.K (rNeA X.K) (gEq not) := by
  intro G σ H F ρ x y a b Q Qd R ha hb h k
  unfold gEq at h
  split at h
  · cases ha.rep; cases hb.rep
    exact .inr ⟨rfl, by rw [dec_strV]; exact k _ _ _ _ h (Same.refl _) R (.bl _)⟩
  · exact .inl (sem_neD R ha hb h k)
end
end DL

namespace DL
open PySem L2
section
variable {K : PySem.W.Frag} {F H : Hp}
theorem DenL.atI {vs : List V} {ds : List D} {i : Int} {d : D} (h : DenL K F vs ds) (e : L2.atI ds i = some d) : ∃ v, L2.atI vs i = some v ∧ Den K F v d := by
  unfold L2.atI at e ⊢
  rw [h.length]
  cases q : ixN ds.length i with
  | none => rw [q] at e; cases e
  | some j =>
    rw [q] at e
    exact h.get (i := j) e
/-- the items of xs[lo:hi] -/
def cut {α : Type} (xs : List α) (lo hi : Option Int) : List α := (xs.drop (HT.sIx xs.length 0 lo)).take (HT.sIx xs.length xs.length hi - HT.sIx xs.length 0 lo)
theorem DenL.cut {vs : List V} {ds : List D} (h : DenL K F vs ds) (lo hi : Option Int) : DenL K F (cutV vs lo hi) (DL.cut ds lo hi) := by
  unfold cutV DL.cut
  rw [h.length]
  exact (h.drop _).take _
/-! ### dicts -/
def kGet {α : Type} (kvs : List (Key × α)) (k : Key) : Option α := (kvs.find? fun kv => decide (kv.1 = k)).map (·.2)
def kPut {α : Type} (kvs : List (Key × α)) (k : Key) (v : α) : List (Key × α) :=
  if (kvs.any fun kv => decide (kv.1 = k)) = true then kvs.map (fun kv => if kv.1 = k then (kv.1, v) else kv) else kvs ++ [(k, v)]
def kMerge {α : Type} (kvs more : List (Key × α)) : List (Key × α) := more.foldl (fun acc kv => kPut acc kv.1 kv.2) kvs
theorem kGet_cons {α : Type} (a : Key) (x : α) (r : List (Key × α)) (k : Key) : kGet ((a, x) :: r) k = if a = k then some x else kGet r k := by
  unfold kGet
  rw [List.find?_cons]
  by_cases h : a = k
  · simp [h]
  · simp [h]
theorem valV_cons (a : Key) (x : V) (r : List (Key × V)) (k : Key) : valV ((a, x) :: r) k = if a = k then some x else valV r k := by
  unfold valV
  rw [List.find?_cons]
  by_cases h : a = k
  · simp [h]
  · simp [h]
theorem DenK.get : ∀ {vs : List (Key × V)} {ds : List (Key × D)} {k : Key} {d : D}, DenK K F vs ds → kGet ds k = some d → ∃ v, valV vs k = some v ∧ Den K F v d
  | _, _, _, _, .nil, e => by simp [kGet] at e
  | _, _, k, d, .cons (k := a) r _ t, e => by
    rw [kGet_cons] at e
    by_cases q : a = k
    · rw [if_pos q] at e
      cases e
      exact ⟨_, by rw [valV_cons, if_pos q], r⟩
    · rw [if_neg q] at e
      obtain ⟨v, h1, h2⟩ := DenK.get t e
      exact ⟨v, by rw [valV_cons, if_neg q]; exact h1, h2⟩
theorem DenK.isSome : ∀ {vs : List (Key × V)} {ds : List (Key × D)} {k : Key}, DenK K F vs ds → (valV vs k).isSome = (kGet ds k).isSome
  | _, _, _, .nil => rfl
  | _, _, k, .cons (k := a) r _ t => by
    rw [kGet_cons, valV_cons]
    by_cases q : a = k
    · rw [if_pos q, if_pos q]; rfl
    · rw [if_neg q, if_neg q]; exact DenK.isSome t
theorem DenK.any : ∀ {vs : List (Key × V)} {ds : List (Key × D)} {k : Key}, DenK K F vs ds → (vs.any fun kv => decide (kv.1 = k)) = ds.any fun kv => decide (kv.1 = k)
  | _, _, _, .nil => rfl
  | _, _, k, .cons (k := a) r _ t => by rw [List.any_cons, List.any_cons, DenK.any t]
theorem DenK.app : ∀ {vs us : List (Key × V)} {ds es : List (Key × D)}, DenK K F vs ds → DenK K F us es → DenK K F (vs ++ us) (ds ++ es)
  | _, _, _, _, .nil, h => h
  | _, _, _, _, .cons a o t, h => .cons a o (t.app h)
theorem DenK.mapPut {x : V} {d : D} (r : Den K F x d) (k : Key) : ∀ {vs : List (Key × V)} {ds : List (Key × D)}, DenK K F vs ds →
    DenK K F (vs.map fun kv => if kv.1 = k then (kv.1, x) else kv) (ds.map fun kv => if kv.1 = k then (kv.1, d) else kv)
  | _, _, .nil => .nil
  | _, _, .cons (k := a) q o t => by
    rw [List.map_cons, List.map_cons]
    by_cases e : a = k
    · rw [if_pos e, if_pos e]; exact .cons r o (DenK.mapPut r k t)
    · rw [if_neg e, if_neg e]; exact .cons q o (DenK.mapPut r k t)
theorem DenK.put {vs : List (Key × V)} {ds : List (Key × D)} {x : V} {d : D} (h : DenK K F vs ds) (r : Den K F x d) (k : Key) (o : keyOk k) : DenK K F (putK vs k x) (kPut ds k d) := by
  unfold putK kPut
  rw [h.any]
  by_cases e : (ds.any fun kv => decide (kv.1 = k)) = true
  · rw [if_pos e, if_pos e]; exact DenK.mapPut r k h
  · rw [if_neg e, if_neg e]; exact h.app (.cons r o .nil)
theorem DenK.merge : ∀ {us : List (Key × V)} {es : List (Key × D)} {vs : List (Key × V)} {ds : List (Key × D)}, DenK K F us es → DenK K F vs ds → DenK K F (mergeK vs us) (kMerge ds es)
  | [], _, _, _, h0, h => by cases h0; exact h
  | (k, x) :: us, _, vs, ds, h0, h => by
    cases h0 with
    | cons a o t =>
      have := DenK.merge t (h.put a k o)
      simpa [mergeK, kMerge] using this
def D.key : D → Option Key
  | .int i => some (.inl i)
  | .str x => some (.inr x)
  | _ => none
theorem Pk.keyOk {v : V} {d : D} {k : Key} (h : Pk K F H v d) (e : d.key = some k) : DL.keyOk k := by
  cases d with
  | int i => cases e; exact True.intro
  | str x => cases e; exact h.strOk
  | _ => cases e
theorem DenK.oks : ∀ {vs : List (Key × V)} {ds : List (Key × D)}, DenK K F vs ds → ∀ kv ∈ ds, DL.keyOk kv.1
  | _, _, .nil => fun _ m => (List.not_mem_nil m).elim
  | _, _, .cons _ o t => fun kv m => by
    rcases List.mem_cons.mp m with rfl | m
    · exact o
    · exact t.oks kv m
theorem Pk.key {v : V} {d : D} {k : Key} (h : Pk K F H v d) (e : d.key = some k) : v = kV k := by
  cases d with
  | int i => cases e; exact h.int
  | str x => cases e; exact h.str
  | _ => cases e
end
section
variable {X : Cx}
def rDIn : R2 := fun x y H Q => ∃ a o, y = .ref a ∧ DGet H a x o ∧ Q (.bl o.isSome) H
def rDNotIn : R2 := fun x y H Q => ∃ a o, y = .ref a ∧ DGet H a x o ∧ Q (.bl (!o.isSome)) H
theorem op_in_dict (hu : X.A.units + 1 < cLine) : OpR X (compareOp .In) rDIn := by
  intro pins s σ H x y v u Q I rx ry h
  obtain ⟨a, o, rfl, g, q⟩ := h
  cases ry
  exact d_in hu I g rx fun s3 I3 => ⟨.bl o.isSome, H, I3, rfl, q⟩
theorem op_notin_dict (hu : X.A.units + 1 < cLine) : OpR X (compareOp .NotIn) rDNotIn := by
  intro pins s σ H x y v u Q I rx ry h
  obtain ⟨a, o, rfl, g, q⟩ := h
  cases ry
  exact d_notIn hu I g rx fun s3 I3 => ⟨.bl (!o.isSome), H, I3, rfl, q⟩
def rIxD : R2 := fun x y H Q => ∃ a v, x = .ref a ∧ DGet H a y (some v) ∧ Q v H
theorem ix_dict (hu : X.A.units + 1 < cLine) : IxR X rIxD := by
  intro value slice pins s σ H x y v u Q I rx ry h hs
  obtain ⟨a, w, rfl, g, q⟩ := h
  cases rx
  exact PyProof.Rows.tail_any (dict_typeIs I g) PySem.F.slot_dict_getitem.lookup (d_getItem hu I g ry fun w' s3 I3 rw' => ⟨w, H, I3, rw', q⟩) hs
def rIxA (K : PySem.W.Frag) : R2 := fun x y H Q => rIx K x y H Q ∨ rIxD x y H Q
theorem ix_any (hu : X.A.units + 1 < cLine) : IxR X (rIxA X.K) := ix_seq.or (ix_dict hu)
def gIx : D → D → (Rv → Prop) → Prop
  | .lst l, .int i => fun Q => ∃ d, atI l i = some d ∧ Q (.v d)
  | .tup l, .int i => fun Q => ∃ d, atI l i = some d ∧ Q (.v d)
  | .str s, .int i => fun Q => s.length ≤ sizeLine ∧ ∃ c, atI s.cps.toList i = some c ∧ Q (.v (.str ⟨#[c]⟩))
  | .dct kvs, y => fun Q => ∃ k d, y.key = some k ∧ kGet kvs k = some d ∧ Q (.v d)
  | _, _ => fun _ => False
theorem atI_mem {α : Type} {l : List α} {i : Int} {c : α} (h : atI l i = some c) : c ∈ l := by
  unfold atI at h
  cases q : ixN l.length i with
  | none => rw [q] at h; cases h
  | some j => rw [q] at h; exact List.mem_of_getElem? h
theorem strOk_one {x : Str} {c : Nat} (h : PyData.strOk x = true) (hc : c ∈ x.cps.toList) : PyData.strOk ⟨#[c]⟩ = true := by
  rw [strOk_iff] at *
  intro d hd
  have : d = c := by simpa using hd
  subst this
  exact h d hc
theorem sem_ix : SemOp X.K (rIxA X.K) gIx := by
  intro G σ H F ρ x y a b Q Qd R ha hb h k
  unfold gIx at h
  split at h
  · obtain ⟨d, e, h⟩ := h
    obtain ⟨p, xs, rfl, h1, d1⟩ := ha.lst R.ext
    cases hb.int
    obtain ⟨v, e2, dv⟩ := d1.atI e
    exact .inl (.inl ⟨p, xs, _, v, rfl, rfl, .inl (.inl h1), e2, k _ _ _ _ h (Same.refl _) R dv⟩)
  · obtain ⟨d, e, h⟩ := h
    obtain ⟨p, xs, rfl, h1, d1⟩ := ha.tup
    cases hb.int
    obtain ⟨v, e2, dv⟩ := d1.atI e
    exact .inl (.inr (.inl ⟨p, xs, _, v, rfl, rfl, .inl (.inl (R.ext _ _ h1)), e2, k _ _ _ _ h (Same.refl _) R dv⟩))
  · obtain ⟨hz, c, e, h⟩ := h
    have o1 := ha.strOk
    cases ha.str
    cases hb.int
    exact .inl (.inr (.inr ⟨_, _, c, rfl, rfl, hz, e, k _ _ _ _ h (Same.refl _) R (.str _ (strOk_one o1 (atI_mem e)))⟩))
  · obtain ⟨k1, d, ek, e, h⟩ := h
    obtain ⟨p, ks, rfl, h1, d1⟩ := ha.dct R.ext
    obtain ⟨v, e2, dv⟩ := d1.get e
    have ey := hb.key ek
    refine .inr ⟨p, v, rfl, ?_, k _ _ _ _ h (Same.refl _) R dv⟩
    rw [ey, ← e2]
    exact DGet.k h1
  · exact h.elim
theorem de_ix {a b : Expr} {pos : Pos} {ta tb : TE} {da db : TQ} (hu : X.A.units + 1 < cLine) (ha : DO X a ta da) (hb : DO X b tb db) (hs : PlainIx b := by exact fun _ _ => rfl) : DE X (.Subscript a b pos) (tOp (rIxA X.K) ta tb) (dOp gIx da db) :=
  ⟨pe_ix (ix_any hu) ha.pe hb.pe hs, fun R q k => sem_op sem_ix ha hb R q k⟩
/-! ### slices -/
abbrev TOd := SL → (Option Int → SL → Prop) → Prop
structure DOp (X : Cx) (e : Option Expr) (te : TO) (t : TOd) : Prop where
  pe : PO X e te
  sem : ∀ {G : Cd} {σ : L2.St} {H F : Hp} {ρ : SL} {Q : Option Int → Hp → Prop} {Qd : Option Int → SL → Prop}, Rep X.K G σ H F ρ → t ρ Qd →
    (∀ o ρ' H' F', Qd o ρ' → Same F F' → Rep X.K G σ H' F' ρ' → Q o H') → te σ H Q
def oNo : TOd := fun ρ Q => Q none ρ
def oE (t : TD) : TOd := fun ρ Q => t ρ fun r ρ' => match r with
  | .v (.int i) => Q (some i) ρ'
  | _ => False
theorem dop_none : DOp X none tNoPart oNo := ⟨po_none, fun R q k => k _ _ _ _ q (Same.refl _) R⟩
theorem dop_some {e : Expr} {te : TE} {t : TD} (h : DE X e te t) : DOp X (some e) (tPart te) (oE t) :=
  ⟨po_some h.pe, fun R q k => h.sem R q fun r ρ' v H' F' qd s1 R1 rd => by
    cases r with
    | fr c => exact qd.elim
    | pt _ _ => exact qd.elim
    | v d =>
      cases d with
      | int i =>
        cases rd
        exact ⟨i, rfl, k _ _ _ _ qd s1 R1⟩
      | _ => exact qd.elim⟩
def gSl : D → Option Int → Option Int → (Rv → Prop) → Prop
  | .lst l, lo, hi => fun Q => Q (.fr (.l (cut l lo hi)))
  | .str s, lo, hi => fun Q => s.length ≤ sizeLine ∧ Q (.v (.str (cutS s lo hi)))
  | .tup l, lo, hi => fun Q => Q (.v (.tup (cut l lo hi)))
  | .scr ns, lo, hi => fun Q => Q (.fr (.l ((cut ns lo hi).map D.int)))
  | _, _, _ => fun _ => False
def rSlAny (K : PySem.W.Frag) : V → Option Int → Option Int → Hp → VK → Prop := fun x lo hi H Q => rSlL K x lo hi H Q ∨ (rSlS x lo hi H Q ∨ rSlA K x lo hi H Q)
theorem sl_any : SlR X (rSlAny X.K) := sl_list.or (sl_str.or sl_tupA)
theorem strOk_cut {x : Str} (h : PyData.strOk x = true) (lo hi : Option Int) : PyData.strOk (cutS x lo hi) = true := by
  rw [strOk_iff] at *
  intro c hc
  refine h c ?_
  have hc' : c ∈ (x.cps.toList.drop (HT.sIx x.length 0 lo)).take (HT.sIx x.length x.length hi - HT.sIx x.length 0 lo) := by simpa [cutS] using hc
  exact List.mem_of_mem_drop (List.mem_of_mem_take hc')
theorem cutV_ints (ns : List Int) (lo hi : Option Int) : cutV (ns.map V.int) lo hi = (cut ns lo hi).map V.int := by
  unfold cutV cut
  rw [List.length_map, List.map_take, List.map_drop]
theorem cut_whole {α : Type} {l : List α} {lo hi : Option Int} (h1 : HT.sIx l.length 0 lo = 0) (h2 : HT.sIx l.length l.length hi = l.length) : cut l lo hi = l := by
  unfold cut
  rw [h1, h2, List.drop_zero, Nat.sub_zero, List.take_length]
def dSl (te : TQ) (tl th : TOd) : TD := fun ρ Q => te ρ fun o ρ1 => tl ρ1 fun lo ρ2 => th ρ2 fun hi ρ3 => match o.get ρ3 with
  | some d => gSl d lo hi fun r => Q r ρ3
  | none => False
theorem de_slice {e : Expr} {lo hi : Option Expr} {pos p2 : Pos} {te : TE} {tl th : TO} {d : TQ} {dl dh : TOd} (he : DO X e te d) (hl : DOp X lo tl dl) (hh : DOp X hi th dh) :
    DE X (.Subscript e (.Slice lo hi none p2) pos) (tSl (rSlAny X.K) te tl th) (dSl d dl dh) := by
  refine ⟨pe_slice sl_any he.pe hl.pe hh.pe, fun R q k => ?_⟩
  refine he.sem R q fun o ρ1 v H1 F1 q1 s1 R1 d1 => ?_
  refine hl.sem R1 q1 fun l ρ2 H2 F2 q2 s2 R2 => ?_
  refine hh.sem R2 q2 fun u ρ3 H3 F3 q3 s3 R3 => ?_
  have s13 := s1.trans (s2.trans s3)
  cases ea : o.get ρ3 with
  | none => simp only [ea] at q3
  | some x =>
    simp only [ea] at q3
    have pk := (d1.mono (s2.trans s3)).pk R3 ea
    unfold gSl at q3
    split at q3
    · obtain ⟨p, xs, rfl, h1, d1⟩ := pk.lst R3.ext
      refine .inl ⟨p, xs, rfl, .inl (.inl h1), fun a ha => ?_⟩
      obtain ⟨R4, rd⟩ := R3.allocFr ha (c := .l _) ⟨_, upd_same, d1.cut l u⟩
      exact k _ _ _ _ _ q3 s13 R4 rd
    · have o1 := pk.strOk
      cases pk.str
      exact .inr (.inl ⟨_, rfl, q3.1, k _ _ _ _ _ q3.2 s13 R3 (.str _ (strOk_cut o1 l u))⟩)
    · obtain ⟨p, xs, rfl, h1, d1⟩ := pk.tup
      refine .inr (.inr ⟨p, xs, rfl, .inl (.inl (R3.ext _ _ h1)), fun hw => ?_, fun _ a ha => ?_⟩)
      · have hl := d1.length
        rw [hl] at hw
        rw [cut_whole hw.1 hw.2] at q3
        exact k _ _ _ _ _ q3 s13 R3 (.tup h1 d1)
      · obtain ⟨s4, R4⟩ := R3.alloc (o := .tup (cutV xs l u)) ha
        exact k _ _ _ _ _ q3 (s13.trans s4) R4 (.tup upd_same ((d1.cut l u).mono s4))
    · obtain ⟨p, rfl, h1⟩ := pk.scr R3.ext
      refine .inl ⟨p, _, rfl, h1, fun a ha => ?_⟩
      have hx := cutV_ints ‹List Int› l u
      obtain ⟨R4, rd⟩ := R3.allocFr (o := .lst (cutV (List.map V.int ‹List Int›) l u)) ha (c := .l ((cut ‹List Int› l u).map D.int)) ⟨_, upd_same, by rw [hx]; exact DenL.ints⟩
      exact k _ _ _ _ _ q3 s13 R4 rd
    · exact q3.elim
/-! ### in -/
def rInA (K : PySem.W.Frag) : R2 := fun x y H Q => rInD K x y H Q ∨ ((∃ (c : Nat) (z : Str), x = .str ⟨#[c]⟩ ∧ y = .str z ∧ Q (.bl (decide (c ∈ z.cps.toList))) H) ∨ rDIn x y H Q)
def rNotInA (K : PySem.W.Frag) : R2 := fun x y H Q => rNotInD K x y H Q ∨ ((∃ (c : Nat) (z : Str), x = .str ⟨#[c]⟩ ∧ y = .str z ∧ Q (.bl (!decide (c ∈ z.cps.toList))) H) ∨ rDNotIn x y H Q)
theorem op_inA (hu : X.A.units + 65 < cLine) : OpR X (compareOp .In) (rInA X.K) := (op_inD hu).or (op_in_sign.or (op_in_dict (by omega)))
theorem op_notInA (hu : X.A.units + 65 < cLine) : OpR X (compareOp .NotIn) (rNotInA X.K) := (op_notInD hu).or (op_notIn_sign.or (op_notin_dict (by omega)))
def gIn (f : Bool → Bool) : D → D → (Rv → Prop) → Prop
  | x, .lst ds => fun Q => D.fit 60 x = true ∧ D.fits 59 ds = true ∧ Q (.v (.bl (f (ds.any fun z => D.eqv z x))))
  | .str x, .str y => fun Q => ∃ c, x = ⟨#[c]⟩ ∧ Q (.v (.bl (f (decide (c ∈ y.cps.toList)))))
  | x, .dct kvs => fun Q => ∃ k, x.key = some k ∧ Q (.v (.bl (f (kGet kvs k).isSome)))
  | _, _ => fun _ => False
theorem any_py {x : D} (hx : D.fit 60 x = true) : ∀ ds : List D, D.fits 59 ds = true → ((D.pys ds).any fun z => PyData.eqv z x.py) = ds.any fun z => D.eqv z x
  | [], _ => by simp [D.pys]
  | d :: r, h => by
    rw [D.fits, Bool.and_eq_true] at h
    rw [D.pys, List.any_cons, List.any_cons, any_py hx r h.2, eqv_py d x 59 60 h.1 hx]
theorem sem_in : SemOp X.K (rInA X.K) (gIn id) := by
  intro G σ H F ρ x y a b Q Qd R ha hb h k
  unfold gIn at h
  split at h
  · rename_i ds
    obtain ⟨h1, h2, h⟩ := h
    have h2' : D.fit 60 (.lst ds) = true := by rw [D.fit]; exact h2
    have db := hb.den R.ext
    refine .inl ⟨_, D.pys ds, Den.dp (ha.den R.ext) h1, by have := Den.dp db h2'; rw [D.py] at this; exact this, shaped_of (ha.den R.ext) h1, by have := shaped_of db h2'; rw [D.py] at this; exact this, ?_⟩
    rw [any_py h1 ds h2]
    exact k _ _ _ _ h (Same.refl _) R (.bl _)
  · obtain ⟨c, rfl, h⟩ := h
    cases ha.str
    cases hb.str
    exact .inr (.inl ⟨c, _, rfl, rfl, k _ _ _ _ h (Same.refl _) R (.bl _)⟩)
  · obtain ⟨k1, e, h⟩ := h
    obtain ⟨p, ks, rfl, h1, d1⟩ := hb.dct R.ext
    have ey := ha.key e
    refine .inr (.inr ⟨p, valV ks k1, rfl, by rw [ey]; exact DGet.k h1, ?_⟩)
    rw [d1.isSome]
    exact k _ _ _ _ h (Same.refl _) R (.bl _)
  · exact h.elim
theorem sem_notIn : SemOp X.K (rNotInA X.K) (gIn not) := by
  intro G σ H F ρ x y a b Q Qd R ha hb h k
  unfold gIn at h
  split at h
  · rename_i ds
    obtain ⟨h1, h2, h⟩ := h
    have h2' : D.fit 60 (.lst ds) = true := by rw [D.fit]; exact h2
    have db := hb.den R.ext
    refine .inl ⟨_, D.pys ds, Den.dp (ha.den R.ext) h1, by have := Den.dp db h2'; rw [D.py] at this; exact this, shaped_of (ha.den R.ext) h1, by have := shaped_of db h2'; rw [D.py] at this; exact this, ?_⟩
    rw [any_py h1 ds h2]
    exact k _ _ _ _ h (Same.refl _) R (.bl _)
  · obtain ⟨c, rfl, h⟩ := h
    cases ha.str
    cases hb.str
    exact .inr (.inl ⟨c, _, rfl, rfl, k _ _ _ _ h (Same.refl _) R (.bl _)⟩)
  · obtain ⟨k1, e, h⟩ := h
    obtain ⟨p, ks, rfl, h1, d1⟩ := hb.dct R.ext
    have ey := ha.key e
    refine .inr (.inr ⟨p, valV ks k1, rfl, by rw [ey]; exact DGet.k h1, ?_⟩)
    rw [d1.isSome]
    exact k _ _ _ _ h (Same.refl _) R (.bl _)
  · exact h.elim
/-! ### is None -/
/-! ### tests -/
def asB (r : Rv) (Q : Bool → Prop) : Prop := match r with
  | .v (.bl b) => Q b
  | _ => False
theorem asB_den {K : PySem.W.Frag} {G : Cd} {σ : L2.St} {ρ : SL} {H F : Hp} {v : V} {r : Rv} {Q : Bool → Prop} (h : asB r Q) (rd : RDen K G σ ρ H F v r) : ∃ b, v = .bl b ∧ Q b := by
  cases r with
  | fr c => exact h.elim
  | pt _ _ => exact h.elim
  | v d =>
    cases d with
    | bl b => cases rd; exact ⟨b, rfl, h⟩
    | _ => exact h.elim
def bOf (t : TD) : TB := fun ρ Q => t ρ fun r ρ' => asB r fun b => Q b ρ'
theorem sem_bOf {te : TE} {t : TD} (hs : ∀ {G : Cd} {σ : L2.St} {H F : Hp} {ρ : SL} {Q : VK} {Qd : Rv → SL → Prop}, Rep X.K G σ H F ρ → t ρ Qd →
    (∀ r ρ' v H' F', Qd r ρ' → Same F F' → Rep X.K G σ H' F' ρ' → RDen X.K G σ ρ' H' F' v r → Q v H') → te σ H Q)
    {G : Cd} {σ : L2.St} {H F : Hp} {ρ : SL} {Q : Bool → Hp → Prop} {Qd : Bool → SL → Prop} (R : Rep X.K G σ H F ρ) (q : bOf t ρ Qd)
    (k : ∀ b ρ' H' F', Qd b ρ' → Same F F' → Rep X.K G σ H' F' ρ' → Q b H') : tTest te σ H Q :=
  hs R q fun r ρ' v H' F' qd s1 R1 rd => by
    obtain ⟨b, rfl, qb⟩ := asB_den qd rd
    exact ⟨b, rfl, k _ _ _ _ qb s1 R1⟩
theorem dt_cmp {op : CmpOp} {r : R2} {g : D → D → (Rv → Prop) → Prop} {ta tb : TE} {a b : Expr} {da db : TQ} {pos : Pos} (ho : OpR X (compareOp op) r) (hg : SemOp X.K r g) (ha : DO X a ta da) (hb : DO X b tb db)
    (hm : behindInMarks op b = false) : DT X (.Compare a [op] [b] pos) (tTest (tOp r ta tb)) (bOf (dOp g da db)) :=
  ⟨pt_cmpR ho ha.pe hb.pe hm, fun R q k => sem_bOf (fun R q k => sem_op hg ha hb R q k) R q k⟩
def dChain (g g' : D → D → (Rv → Prop) → Prop) (ta tb tc : TQ) : TD := fun ρ Q => ta ρ fun oa ρ1 => tb ρ1 fun ob ρ2 => match oa.get ρ2, ob.get ρ2 with
  | some a, some b => g a b fun r => asB r fun z => if z = true then tc ρ2 fun oc ρ3 => (match ob.get ρ3, oc.get ρ3 with
      | some b', some c => g' b' c fun r' => Q r' ρ3
      | _, _ => False) else Q (.v (.bl false)) ρ2
  | _, _ => False
theorem sem_chain {r r' : R2} {g g' : D → D → (Rv → Prop) → Prop} {ta tb tc : TE} {a b c : Expr} {da db dc : TQ} (hg : SemOp X.K r g) (hg' : SemOp X.K r' g') (ha : DO X a ta da) (hb : DO X b tb db) (hc : DO X c tc dc)
    {G : Cd} {σ : L2.St} {H F : Hp} {ρ : SL} {Q : VK} {Qd : Rv → SL → Prop} (R : Rep X.K G σ H F ρ) (q : dChain g g' da db dc ρ Qd)
    (k : ∀ r ρ' v H' F', Qd r ρ' → Same F F' → Rep X.K G σ H' F' ρ' → RDen X.K G σ ρ' H' F' v r → Q v H') : tChain r r' ta tb tc σ H Q := by
  refine ha.sem R q fun oa ρ1 v H1 F1 q1 s1 R1 d1 => ?_
  refine hb.sem R1 q1 fun ob ρ2 u H2 F2 q2 s2 R2 d2 => ?_
  cases ea : oa.get ρ2 with
  | none => rw [ea] at q2; exact q2.elim
  | some x =>
    cases eb : ob.get ρ2 with
    | none => rw [ea, eb] at q2; exact q2.elim
    | some y =>
      rw [ea, eb] at q2
      refine hg R2 ((d1.mono s2).pk R2 ea) (d2.pk R2 eb) q2 fun rv z H3 F3 qd s3 R3 rd => ?_
      obtain ⟨b', rfl, qb⟩ := asB_den qd rd
      refine ⟨b', rfl, ?_⟩
      cases b' with
      | false =>
        rw [if_neg Bool.false_ne_true] at qb ⊢
        exact k _ _ _ _ _ qb (s1.trans (s2.trans s3)) R3 (.bl _)
      | true =>
        rw [if_pos rfl] at qb ⊢
        refine hc.sem R3 qb fun oc ρ4 w H4 F4 q4 s4 R4 d4 => ?_
        cases eb2 : ob.get ρ4 with
        | none => rw [eb2] at q4; exact q4.elim
        | some y2 =>
          cases ec : oc.get ρ4 with
          | none => rw [eb2, ec] at q4; exact q4.elim
          | some z2 =>
            rw [eb2, ec] at q4
            exact hg' R4 ((d2.mono (s3.trans s4)).pk R4 eb2) (d4.pk R4 ec) q4 fun rv z H' F' qd s5 R5 rd => k _ _ _ _ _ qd (s1.trans (s2.trans (s3.trans (s4.trans s5)))) R5 rd
theorem dt_chain {op op' : CmpOp} {r r' : R2} {g g' : D → D → (Rv → Prop) → Prop} {ta tb tc : TE} {a b c : Expr} {da db dc : TQ} {pos : Pos} (ho : OpR X (compareOp op) r) (ho' : OpR X (compareOp op') r') (hg : SemOp X.K r g) (hg' : SemOp X.K r' g') (ha : DO X a ta da) (hb : DO X b tb db) (hc : DO X c tc dc)
    (hm : lastMarks [op, op'] [b, c] = false := by with_unfolding_all rfl) : DT X (.Compare a [op, op'] [b, c] pos) (tTest (tChain r r' ta tb tc)) (bOf (dChain g g' da db dc)) :=
  ⟨pt_chain ho ho' ha.pe hb.pe hc.pe hm, fun R q k => sem_bOf (fun R q k => sem_chain hg hg' ha hb hc R q k) R q k⟩
def gTruth : D → (Bool → Prop) → Prop
  | .non => fun Q => Q false
  | .bl b => fun Q => Q b
  | .int i => fun Q => Q (i != 0)
  | .str y => fun Q => y.length ≤ sizeLine ∧ Q ((y.length : Int) != 0)
  | .lst l => fun Q => Q (!l.isEmpty)
  | .tup l => fun Q => Q (!l.isEmpty)
  | .dct l => fun Q => Q (!l.isEmpty)
  | _ => fun _ => False
theorem DenL.isEmpty {K : PySem.W.Frag} {F : Hp} {vs : List V} {ds : List D} (h : DenL K F vs ds) : vs.isEmpty = ds.isEmpty := by cases h <;> rfl
theorem DenK.isEmpty {K : PySem.W.Frag} {F : Hp} {vs : List (Key × V)} {ds : List (Key × D)} (h : DenK K F vs ds) : vs.isEmpty = ds.isEmpty := by cases h <;> rfl
theorem Pk.truth {K : PySem.W.Frag} {F H : Hp} {v : V} {d : D} {Q : Bool → Prop} (e : Same F H) (h : Pk K F H v d) (q : gTruth d Q) : ∃ b, TruV K v H b ∧ Q b := by
  cases d with
  | non => cases h.non; exact ⟨false, rfl, q⟩
  | bl b => cases h.bl; exact ⟨b, rfl, q⟩
  | int i => cases h.int; exact ⟨_, rfl, q⟩
  | str y => cases h.str; exact ⟨_, ⟨q.1, rfl⟩, q.2⟩
  | lst l => obtain ⟨p, xs, rfl, a, b⟩ := h.lst e; exact ⟨_, .inl ⟨xs, .inl (.inl a), rfl⟩, by rw [b.isEmpty]; exact q⟩
  | tup l => obtain ⟨p, xs, rfl, a, b⟩ := h.tup; exact ⟨_, .inr (.inl ⟨xs, .inl (.inl (e _ _ a)), rfl⟩), by rw [b.isEmpty]; exact q⟩
  | dct l => obtain ⟨p, xs, rfl, a, b⟩ := h.dct e; exact ⟨_, .inr (.inr ⟨xs, a, rfl⟩), by rw [b.isEmpty]; exact q⟩
  | obj _ _ => exact q.elim
  | scr _ => exact q.elim
  | rep _ => exact q.elim
  | «at» _ => exact q.elim
  | exc _ _ _ _ _ => exact q.elim
  | dx _ _ => exact q.elim
  | unk => exact q.elim
def bTr (t : TQ) : TB := fun ρ Q => t ρ fun o ρ' => match o.get ρ' with
  | some d => gTruth d fun b => Q b ρ'
  | none => False
theorem dt_tr {e : Expr} {te : TE} {t : TQ} (h : DO X e te t) (he : ∀ whole, isTrue e X.env whole = (do let v ← whole; standAt e.pos; holding [v] (truthy v)) := by intro _; rfl) :
    DT X e (fun σ H Q => te σ H fun x H' => ∃ k, TruV X.K x H' k ∧ Q k H') (bTr t) :=
  ⟨pt_truth h.pe he, fun R q k => h.sem R q fun o ρ' v H' F' qd s1 R1 d1 => by
    cases ea : o.get ρ' with
    | none => rw [ea] at qd; exact qd.elim
    | some x =>
      rw [ea] at qd
      obtain ⟨b, t, q⟩ := (d1.pk R1 ea).truth R1.ext qd
      exact ⟨b, t, k _ _ _ _ q s1 R1⟩⟩
def bAnd (t u : TB) : TB := fun ρ Q => t ρ fun b ρ1 => if b = true then u ρ1 Q else Q false ρ1
def bOr (t u : TB) : TB := fun ρ Q => t ρ fun b ρ1 => if b = true then Q true ρ1 else u ρ1 Q
def bNot (t : TB) : TB := fun ρ Q => t ρ fun b ρ1 => Q (!b) ρ1
theorem dw_pt {e : Expr} {te : TT} {t : TB} (h : DW X e te t) : DT X e te t := ⟨h.pe.pt, h.sem⟩
theorem dw_and1 {a : Expr} {pos : Pos} {te : TT} {t : TB} (h : DT X a te t) : DW X (.BoolOp .And [a] pos) te t := ⟨pw_and1 h.pe, h.sem⟩
theorem dw_or1 {a : Expr} {pos : Pos} {te : TT} {t : TB} (h : DT X a te t) : DW X (.BoolOp .Or [a] pos) te t := ⟨pw_or1 h.pe, h.sem⟩
theorem dw_and {a b : Expr} {rest : List Expr} {pos : Pos} {te tf : TT} {t u : TB} (h : DT X a te t) (h2 : DW X (.BoolOp .And (b :: rest) pos) tf u) : DW X (.BoolOp .And (a :: b :: rest) pos) (tAnd te tf) (bAnd t u) :=
  ⟨pw_and h.pe h2.pe, fun R q k => h.sem R q fun z ρ1 H1 F1 q1 s1 R1 => by
    cases z with
    | true => rw [if_pos rfl] at q1 ⊢; exact h2.sem R1 q1 fun b ρ' H' F' qd s2 R2 => k _ _ _ _ qd (s1.trans s2) R2
    | false => rw [if_neg Bool.false_ne_true] at q1 ⊢; exact k _ _ _ _ q1 s1 R1⟩
theorem dw_or {a b : Expr} {rest : List Expr} {pos : Pos} {te tf : TT} {t u : TB} (h : DT X a te t) (h2 : DW X (.BoolOp .Or (b :: rest) pos) tf u) : DW X (.BoolOp .Or (a :: b :: rest) pos) (tOr te tf) (bOr t u) :=
  ⟨pw_or h.pe h2.pe, fun R q k => h.sem R q fun z ρ1 H1 F1 q1 s1 R1 => by
    cases z with
    | false => rw [if_neg Bool.false_ne_true] at q1 ⊢; exact h2.sem R1 q1 fun b ρ' H' F' qd s2 R2 => k _ _ _ _ qd (s1.trans s2) R2
    | true => rw [if_pos rfl] at q1 ⊢; exact k _ _ _ _ q1 s1 R1⟩
theorem dt_not {a : Expr} {pos : Pos} {te : TT} {t : TB} (h : DT X a te t) : DT X (.UnaryOp .Not a pos) (tNot te) (bNot t) :=
  ⟨pt_not h.pe, fun R q k => h.sem R q fun b ρ1 H1 F1 q1 s1 R1 => k _ _ _ _ q1 s1 R1⟩
/-- and, or, not as values: all True or False -/
def dAnd (t u : TD) : TD := fun ρ Q => t ρ fun r ρ1 => asB r fun b => if b = true then u ρ1 Q else Q (.v (.bl false)) ρ1
def dOr (t u : TD) : TD := fun ρ Q => t ρ fun r ρ1 => asB r fun b => if b = true then Q (.v (.bl true)) ρ1 else u ρ1 Q
theorem de_one {op} {a : Expr} {pos : Pos} {te : TE} {t : TD} (h : DE X a te t) : DE X (.BoolOp op [a] pos) te t := ⟨pe_one h.pe, h.sem⟩
theorem de_and {a b : Expr} {rest : List Expr} {pos : Pos} {te tf : TE} {t u : TD} (h : DE X a te t) (h2 : DE X (.BoolOp .And (b :: rest) pos) tf u) : DE X (.BoolOp .And (a :: b :: rest) pos) (tAndV te tf) (dAnd t u) :=
  ⟨pe_and h.pe h2.pe, fun R q k => h.sem R q fun r ρ1 v H1 F1 q1 s1 R1 rd => by
    obtain ⟨z, rfl, qb⟩ := asB_den q1 rd
    refine ⟨z, rfl, ?_⟩
    cases z with
    | true => rw [if_pos rfl] at qb ⊢; exact h2.sem R1 qb fun b ρ' v H' F' qd s2 R2 rd => k _ _ _ _ _ qd (s1.trans s2) R2 rd
    | false => rw [if_neg Bool.false_ne_true] at qb ⊢; exact k _ _ _ _ _ qb s1 R1 (.bl _)⟩
theorem de_or {a b : Expr} {rest : List Expr} {pos : Pos} {te tf : TE} {t u : TD} (h : DE X a te t) (h2 : DE X (.BoolOp .Or (b :: rest) pos) tf u) : DE X (.BoolOp .Or (a :: b :: rest) pos) (tOrV te tf) (dOr t u) :=
  ⟨pe_or h.pe h2.pe, fun R q k => h.sem R q fun r ρ1 v H1 F1 q1 s1 R1 rd => by
    obtain ⟨z, rfl, qb⟩ := asB_den q1 rd
    refine ⟨z, rfl, ?_⟩
    cases z with
    | false => rw [if_neg Bool.false_ne_true] at qb ⊢; exact h2.sem R1 qb fun b ρ' v H' F' qd s2 R2 rd => k _ _ _ _ _ qd (s1.trans s2) R2 rd
    | true => rw [if_pos rfl] at qb ⊢; exact k _ _ _ _ _ qb s1 R1 (.bl _)⟩
def dIf (t : TB) (u w : TD) : TD := fun ρ Q => t ρ fun b ρ1 => if b = true then u ρ1 Q else w ρ1 Q
theorem de_if {c a b : Expr} {pos : Pos} {tc : TT} {ta tb : TE} {t : TB} {u w : TD} (hc : DT X c tc t) (ha : DE X a ta u) (hb : DE X b tb w) : DE X (.IfExp c a b pos) (tIf tc ta tb) (dIf t u w) :=
  ⟨pe_ifExp hc.pe ha.pe hb.pe, fun R q k => hc.sem R q fun z ρ1 H1 F1 q1 s1 R1 => by
    cases z with
    | true => rw [if_pos rfl] at q1 ⊢; exact ha.sem R1 q1 fun b ρ' v H' F' qd s2 R2 rd => k _ _ _ _ _ qd (s1.trans s2) R2 rd
    | false => rw [if_neg Bool.false_ne_true] at q1 ⊢; exact hb.sem R1 q1 fun b ρ' v H' F' qd s2 R2 rd => k _ _ _ _ _ qd (s1.trans s2) R2 rd⟩
end
end DL

namespace DL
open PySem L2
abbrev TVs := SL → (List D → SL → Prop) → Prop
structure DV (X : Cx) (es : List Expr) (ta : TA) (t : TVs) : Prop where
  pe : PA X es ta
  sem : ∀ {G : Cd} {σ : L2.St} {H F : Hp} {ρ : SL} {Q : List V → Hp → Prop} {Qd : List D → SL → Prop}, Rep X.K G σ H F ρ → t ρ Qd →
    (∀ ds ρ' vs H' F', Qd ds ρ' → Same F F' → Rep X.K G σ H' F' ρ' → DenL X.K F' vs ds → Q vs H') → ta σ H Q
section
variable {X : Cx}
def vNil : TVs := fun ρ Q => Q [] ρ
def vCons (t : TD) (u : TVs) : TVs := fun ρ Q => t ρ fun r ρ1 => u ρ1 fun ds ρ2 => Q (r.dat :: ds) ρ2
theorem dv_nil : DV X [] tNil vNil := ⟨pa_nil, fun R h k => k _ _ _ _ _ h (Same.refl _) R .nil⟩
theorem dv_cons {e : Expr} {es : List Expr} {te : TE} {ta : TA} {t : TD} {u : TVs} (h : DE X e te t) (r : DV X es ta u) (hs : starEach (e :: es) X.env = (false, eval e X.env) :: starEach es X.env := by rfl) :
    DV X (e :: es) (tCons te ta) (vCons t u) :=
  ⟨pa_cons h.pe r.pe hs, fun R q k => h.sem R q fun o ρ1 v H1 F1 q1 s1 R1 d1 => by
    obtain ⟨F1', s1', R1', d1'⟩ := R1.share d1
    exact r.sem R1' q1 fun os ρ2 vs H2 F2 q2 s2 R2 d2 => k _ _ _ _ _ q2 (s1.trans (s1'.trans s2)) R2 (.cons (d1'.mono s2) d2)⟩
def dTup (t : TVs) : TD := fun ρ Q => t ρ fun ds ρ' => ds.length ≤ sizeLine ∧ Q (.v (.tup ds)) ρ'
def dLst (t : TVs) : TD := fun ρ Q => t ρ fun ds ρ' => ds.length ≤ sizeLine ∧ Q (.fr (.l ds)) ρ'
theorem de_tup {es : List Expr} {x1 pos} {ta : TA} {t : TVs} (h : DV X es ta t) : DE X (.Tuple es x1 pos) (tTup ta) (dTup t) :=
  ⟨pe_tup h.pe, fun R q k => h.sem R q fun ds ρ' vs H' F' qd s1 R1 d1 => ⟨by rw [d1.length]; exact qd.1, fun p hp => by
    obtain ⟨s2, R2⟩ := R1.alloc (o := .tup vs) hp
    exact k _ _ _ _ _ qd.2 (s1.trans s2) R2 (.tup upd_same (d1.mono s2))⟩⟩
theorem de_lst {es : List Expr} {pos} {ta : TA} {t : TVs} (h : DV X es ta t) : DE X (.List es pos) (tLst ta) (dLst t) :=
  ⟨pe_lst h.pe, fun R q k => h.sem R q fun ds ρ' vs H' F' qd s1 R1 d1 => ⟨by rw [d1.length]; exact qd.1, fun p hp => by
    obtain ⟨R2, rd⟩ := R1.allocFr hp (c := .l ds) ⟨_, upd_same, d1⟩
    exact k _ _ _ _ _ qd.2 s1 R2 rd⟩⟩
/-! ### dict displays -/
abbrev TPs := SL → (List (D × D) → SL → Prop) → Prop
inductive DenPs (K : PySem.W.Frag) (F : Hp) : List (V × V) → List (D × D) → Prop
  | nil : DenPs K F [] []
  | cons {v w : V} {vs : List (V × V)} {d e : D} {ds : List (D × D)} : Den K F v d → Den K F w e → DenPs K F vs ds → DenPs K F ((v, w) :: vs) ((d, e) :: ds)
structure DPs (X : Cx) (pos : Pos) (keys : List (Option Expr)) (values : List Expr) (trs : List (TE × TE)) (t : TPs) : Prop where
  pe : PPs X pos keys values trs
  sem : ∀ {G : Cd} {σ : L2.St} {H F : Hp} {ρ : SL} {Q : List (V × V) → Hp → Prop} {Qd : List (D × D) → SL → Prop}, Rep X.K G σ H F ρ → t ρ Qd →
    (∀ ds ρ' vs H' F', Qd ds ρ' → Same F F' → Rep X.K G σ H' F' ρ' → DenPs X.K F' vs ds → Q vs H') → tPairs trs σ H Q
def psNil : TPs := fun ρ Q => Q [] ρ
def psCons (tk tv : TD) (u : TPs) : TPs := fun ρ Q => tk ρ fun rk ρ1 => tv ρ1 fun rv ρ2 => u ρ2 fun ds ρ3 => Q ((rk.dat, rv.dat) :: ds) ρ3
theorem dps_nil {pos : Pos} : DPs X pos [] [] [] psNil := ⟨pps_nil, fun R h k => k _ _ _ _ _ h (Same.refl _) R .nil⟩
theorem dps_cons {pos : Pos} {k v : Expr} {ks : List (Option Expr)} {vs : List Expr} {tk tv : TE} {trs : List (TE × TE)} {dk dv : TD} {u : TPs} (hk : DE X k tk dk) (hv : DE X v tv dv) (hr : DPs X pos ks vs trs u) :
    DPs X pos (some k :: ks) (v :: vs) ((tk, tv) :: trs) (psCons dk dv u) :=
  ⟨pps_cons hk.pe hv.pe hr.pe, fun R q kk => hk.sem R q fun r1 ρ1 v1 H1 F1 q1 s1 R1 d1 => by
    obtain ⟨F1', s1', R1', d1'⟩ := R1.share d1
    refine hv.sem R1' q1 fun r2 ρ2 v2 H2 F2 q2 s2 R2 d2 => ?_
    obtain ⟨F2', s2', R2', d2'⟩ := R2.share d2
    exact hr.sem R2' q2 fun ds ρ3 ws H3 F3 q3 s3 R3 d3 => kk _ _ _ _ _ q3 (s1.trans (s1'.trans (s2.trans (s2'.trans s3)))) R3 (.cons (d1'.mono (s2.trans (s2'.trans s3))) (d2'.mono s3) d3)⟩
def keyed : List (D × D) → Option (List (Key × D))
  | [] => some []
  | (k, d) :: r => match k.key, keyed r with
    | some k, some r => some ((k, d) :: r)
    | _, _ => none
theorem DenPs.keyed {K : PySem.W.Frag} {F : Hp} : ∀ {ds : List (D × D)} {vs : List (V × V)} {kvs : List (Key × D)}, DenPs K F vs ds → DL.keyed ds = some kvs → ∃ ks : List (Key × V), vs = ks.map (fun kv => (kV kv.1, kv.2)) ∧ DenK K F ks kvs
  | [], _, _, h, e => by cases h; cases e; exact ⟨[], rfl, .nil⟩
  | (k, d) :: r, _, kvs, h, e => by
    cases h with
    | cons a b t =>
      unfold DL.keyed at e
      cases q : k.key with
      | none => rw [q] at e; cases e
      | some k' =>
        rw [q] at e
        cases q2 : DL.keyed r with
        | none => rw [q2] at e; cases e
        | some r' =>
          rw [q2] at e
          cases e
          obtain ⟨ks, e1, e2⟩ := DenPs.keyed t q2
          have := Pk.key (H := F) (.inl a) q
          subst this
          exact ⟨(k', _) :: ks, by rw [e1]; rfl, .cons b (Pk.keyOk (H := F) (.inl a) q) e2⟩
def dDisp (t : TPs) : TD := fun ρ Q => t ρ fun ds ρ' => match keyed ds with
  | some kvs => kvs.length ≤ 15 ∧ Q (.fr (.d (kMerge [] kvs))) ρ'
  | none => False
theorem de_disp {pos : Pos} {keys : List (Option Expr)} {values : List Expr} {trs : List (TE × TE)} {t : TPs} (h : DPs X pos keys values trs t) (hall : keys.all (·.isSome) = true) (hl : keys.length = values.length) (h0 : keys ≠ [])
    (h15 : keys.length ≤ 15) : DE X (.Dict keys values pos) (tDisp trs) (dDisp t) := by
  refine ⟨pe_disp h.pe hall hl h0 h15, fun {G σ H F ρ Q Qd} R q k p hp => ?_⟩
  obtain ⟨R1, rd⟩ := R.allocFr (o := .dK []) hp (c := .d []) ⟨_, upd_same, .nil⟩
  obtain ⟨p', e, _, hF, _, hn⟩ := rd
  cases e
  refine h.sem R1.now q fun ds ρ' vs H' F' qd s1 R2 d2 => ?_
  obtain ⟨h1, h2, h3⟩ := R1.held R2 upd_same hF hn (R.freshB hp)
  have R3 := R1.back R2
  cases ek : keyed ds with
  | none => simp only [ek] at qd
  | some kvs =>
    simp only [ek] at qd
    obtain ⟨ks, e1, dk⟩ := d2.keyed ek
    refine ⟨h1, ks, e1, by rw [dk.length]; exact qd.1, ?_⟩
    -- the dict is written: it is nobody's
    have rd3 : RDen X.K G σ ρ' H' F' (.ref p) (.fr (.d [])) := ⟨p, rfl, ⟨[], h1, .nil⟩, h2, .inl (R.fresh hp).2, h3⟩
    obtain ⟨R4, rd4⟩ := R3.writeFr (o := .dK (mergeK [] ks)) (c' := .d (kMerge [] kvs)) rd3 ⟨_, upd_same, dk.merge .nil⟩
    exact k _ _ _ _ _ qd.2 s1 R4 rd4
/-! ### statements -/
def sSeq (t u : TSD) : TSD := fun E ρ => t { E with nx := fun ρ' => u E ρ' } ρ
def sNext : TSD := fun E ρ => E.nx ρ
theorem dss_nil : DSs X [] tNext sNext := ⟨pss_nil, fun R q L => L.nx _ _ _ _ q R⟩
theorem dss_cons {st : Stmt} {rest : List Stmt} {t u : TS} {dt du : TSD} (h : DS X st t dt) (h2 : DSs X rest u du) : DSs X (st :: rest) (tSeq t u) (sSeq dt du) :=
  ⟨pss_cons h.pe h2.pe, fun R q L => h.sem R q ⟨fun σ H F ρ e R1 => h2.sem R1 e L, L.rt, L.bk, L.ct, L.xc, L.xh⟩⟩
theorem dss_one {st : Stmt} {t : TS} {dt : TSD} (h : DS X st t dt) : DSs X [st] t dt := ⟨pss_one h.pe, h.sem⟩
def sSet (i : Nat) (t : TD) : TSD := fun E ρ => t ρ fun r ρ1 => E.nx (put ρ1 i r)
theorem ds_set {i : Nat} {x : Str} {e : Expr} {te : TE} {t : TD} {pos pos' : Pos} (hN : X.N.Nodup) (hi : X.N[i]? = some x) (hx : Loc X.env.scope x) (he : DE X e te t) (hs : swapsWith e (some (.Name x pos')) pos.line X.env = pure false := by rfl)
    (hf : X.fn x = true ∨ X.env.scope.names.lookup x = some .local := by first | exact .inl rfl | exact .inr rfl | assumption) : DS X (.Assign [.Name x pos'] e pos) (tAsg te (gName i)) (sSet i t) :=
  ⟨ps_set hN hi hx he.pe hs hf, fun R q L => he.sem R q fun r ρ' v H' F' qd s1 R1 rd => by
    obtain ⟨F2, _, R2⟩ := R1.putF rd i
    exact L.nx _ _ _ _ qd R2⟩
/-! targets -/
abbrev TGd := D → SL → (SL → Prop) → Prop
abbrev TGds := List D → SL → (SL → Prop) → Prop
theorem wipe_comm1 (σ : L2.St) (i : Nat) : ∀ vs : List Nat, wipe (σ.set i none) vs = (wipe σ vs).set i none
  | [] => rfl
  | v :: vs => by
    show (wipe (σ.set i none) vs).set v none = ((wipe σ vs).set v none).set i none
    rw [wipe_comm1 σ i vs]
    by_cases e : i = v
    · subst e; rfl
    · rw [List.set_comm _ _ e]
theorem wipe_append (σ : L2.St) : ∀ a b : List Nat, wipe σ (a ++ b) = wipe (wipe σ b) a
  | [], b => rfl
  | v :: a, b => by
    show (wipe σ (a ++ b)).set v none = (wipe (wipe σ b) a).set v none
    rw [wipe_append σ a b]
theorem wipe_comm (σ : L2.St) : ∀ a b : List Nat, wipe (wipe σ a) b = wipe (wipe σ b) a
  | [], b => rfl
  | v :: a, b => by
    show wipe ((wipe σ a).set v none) b = (wipe (wipe σ b) a).set v none
    rw [wipe_comm1, wipe_comm σ a b]
structure DG (X : Cx) (tg : Expr) (ws : List Nat) (g : TG) (t : TGd) : Prop where
  pe : PG X tg g
  sem : ∀ {G : Cd} {σ : L2.St} {H F : Hp} {ρ : SL} {v : V} {d : D} {Q : L2.St → Hp → Prop} {Qd : SL → Prop}, Rep X.K G σ H F ρ → Den X.K F v d → t d ρ Qd →
    (∀ ρ' σ' , Qd ρ' → Rep X.K G σ' H F ρ' → wipe σ' ws = wipe σ ws → Q σ' H) → g v σ H Q
structure DGs (X : Cx) (ts : List Expr) (ws : List Nat) (g : TGs) (t : TGds) : Prop where
  pe : PGs X ts g
  sem : ∀ {G : Cd} {σ : L2.St} {H F : Hp} {ρ : SL} {vs : List V} {ds : List D} {Q : L2.St → Hp → Prop} {Qd : SL → Prop}, Rep X.K G σ H F ρ → DenL X.K F vs ds → t ds ρ Qd →
    (∀ ρ' σ' , Qd ρ' → Rep X.K G σ' H F ρ' → wipe σ' ws = wipe σ ws → Q σ' H) → g vs σ H Q
def gN (i : Nat) : TGd := fun d ρ Q => Q (ρ.set i (.sh d))
def gsNil : TGds := fun ds ρ Q => match ds with
  | [] => Q ρ
  | _ => False
def gsCons (t : TGd) (u : TGds) : TGds := fun ds ρ Q => match ds with
  | d :: r => t d ρ fun ρ' => u r ρ' Q
  | _ => False
def gT (n : Nat) (u : TGds) : TGd := fun d ρ Q => match d with
  | .tup ds => ds.length = n ∧ u ds ρ Q
  | _ => False
theorem dg_name {i : Nat} {x : Str} {pos : Pos} (hN : X.N.Nodup) (hi : X.N[i]? = some x) (hx : Loc X.env.scope x) (hf : X.fn x = true ∨ X.env.scope.names.lookup x = some .local := by first | exact .inl rfl | exact .inr rfl | assumption) :
    DG X (.Name x pos) [i] (gName i) (gN i) := ⟨pg_name hN hi hx hf, fun R d q k => k _ _ q (R.setSh d i) (by show (List.set _ i _).set i none = List.set _ i none; rw [List.set_set]; rfl)⟩
theorem dgs_nil : DGs X [] [] gNil gsNil := ⟨pgs_nil, fun {G σ H F ρ vs ds Q Qd} R d q k => by
  cases ds with
  | nil => cases d; exact ⟨rfl, k _ _ q R rfl⟩
  | cons _ _ => exact q.elim⟩
theorem dgs_cons {e : Expr} {es : List Expr} {ws us : List Nat} {g : TG} {gs : TGs} {t : TGd} {u : TGds} (h1 : DG X e ws g t) (h2 : DGs X es us gs u)
    (hs : (assignEach (e :: es) X.env).map (·.2) = assign e X.env :: (assignEach es X.env).map (·.2) := by rfl) : DGs X (e :: es) (ws ++ us) (gCons g gs) (gsCons t u) :=
  ⟨pgs_cons h1.pe h2.pe hs, fun {G σ H F ρ vs ds Q Qd} R d q k => by
    cases ds with
    | nil => exact q.elim
    | cons a r =>
      cases d with
      | cons da dr => exact ⟨_, _, rfl, h1.sem R da q fun ρ' σ' q' R' w1 => h2.sem R' dr q' fun ρ2 σ2 q2 R2 w2 => k ρ2 σ2 q2 R2 (by
          rw [wipe_append, wipe_append, w2, wipe_comm, w1, wipe_comm])⟩⟩
theorem dg_tup {es : List Expr} {ws : List Nat} {kk : Nat} {pos : Pos} {g : TGs} {u : TGds} {n : Nat} (hc : X.calm = true) (h : DGs X es ws g u)
    (hn : (assignEach es X.env).length = n := by rfl) (hst : (assignEach es X.env).findIdx? (·.1) = none := by rfl) : DG X (.Tuple es kk pos) ws (gTup X.K n g) (gT n u) :=
  ⟨pg_tup hc h.pe hn hst, fun {G σ H F ρ v d Q Qd} R dd q k => by
    cases d with
    | tup ds =>
      cases dd with
      | tup a b => exact ⟨_, _, rfl, .inl (.inl (R.ext _ _ a)), by rw [b.length]; exact q.1, h.sem R b q.2 k⟩
    | _ => exact q.elim⟩
/-! several values at once, new things still new -/
abbrev TRs := SL → (List Rv → SL → Prop) → Prop
structure DR (X : Cx) (es : List Expr) (ta : TA) (t : TRs) : Prop where
  pe : PA X es ta
  sem : ∀ {G : Cd} {σ : L2.St} {H F : Hp} {ρ : SL} {Q : List V → Hp → Prop} {Qd : List Rv → SL → Prop}, Rep X.K G σ H F ρ → t ρ Qd →
    (∀ rs ρ' vs H' F', Qd rs ρ' → Same F F' → Rep X.K G σ H' F' ρ' → RDs X.K G σ ρ' H' F' vs rs → Q vs H') → ta σ H Q
def Rv.fl : Rv → Rv
  | .v d => .v d
  | .fr c => .fr c
  | .pt d hs => .v (d.res hs)
theorem Rep.flat {K : PySem.W.Frag} {G : Cd} {σ : L2.St} {H F : Hp} {ρ : SL} {v : V} {r : Rv} (R : Rep K G σ H F ρ) (h : RDen K G σ ρ H F v r) : ∃ F', Same F F' ∧ Rep K G σ H F' ρ ∧ RDen K G σ ρ H F' v r.fl ∧ r.fl.np := by
  cases r with
  | v d => exact ⟨F, Same.refl F, R, h, True.intro⟩
  | fr c => exact ⟨F, Same.refl F, R, h, True.intro⟩
  | pt d hs =>
    obtain ⟨F', s1, R1, d1⟩ := R.share h
    exact ⟨F', s1, R1, d1, True.intro⟩
def rNil : TRs := fun ρ Q => Q [] ρ
def rCons (t : TD) (u : TRs) : TRs := fun ρ Q => t ρ fun r ρ1 => u ρ1 fun rs ρ2 => Q (r.fl :: rs) ρ2
theorem dr_nil : DR X [] tNil rNil := ⟨pa_nil, fun R h k => k _ _ _ _ _ h (Same.refl _) R .nil⟩
theorem dr_cons {e : Expr} {es : List Expr} {te : TE} {ta : TA} {t : TD} {u : TRs} (h : DE X e te t) (r : DR X es ta u) (hs : starEach (e :: es) X.env = (false, eval e X.env) :: starEach es X.env := by rfl) :
    DR X (e :: es) (tCons te ta) (rCons t u) :=
  ⟨pa_cons h.pe r.pe hs, fun R q k => h.sem R q fun r1 ρ1 v H1 F1 q1 s1 R1 d1 => by
    obtain ⟨F1', s1', R1', d1', np⟩ := R1.flat d1
    exact r.sem R1'.now q1 fun rs ρ2 vs H2 F2 q2 s2 R2 d2 => k _ _ _ _ _ q2 (s1.trans (s1'.trans s2)) (R1'.back R2) (.cons (d1'.hold R1' R2) (d2.back R1') (d2.apart R1' d1') np)⟩
def puts (ρ : SL) : List Nat → List Rv → SL
  | i :: is, r :: rs => puts (put ρ i r) is rs
  | _, _ => ρ
/-- a, b = e1, e2 (two or three local names) -/
def sPar (is : List Nat) (t : TRs) : TSD := fun E ρ => t ρ fun rs ρ' => rs.length = is.length ∧ E.nx (puts ρ' is rs)
theorem ds_par {i j : Nat} {x y : Str} {a b : Expr} {ta : TA} {t : TRs} {px py pt pos : Pos} {kt k2 pt2} (hc : X.calm = true) (hN : X.N.Nodup) (hi : X.N[i]? = some x) (hj : X.N[j]? = some y) (hij : i ≠ j)
    (hx : X.env.scope.names.lookup x = some .local) (hy : X.env.scope.names.lookup y = some .local) (ha : DR X [a, b] ta t)
    (hw : swappedStores [.Tuple [.Name x px, .Name y py] kt pt] (.Tuple [a, b] k2 pt2) X.env = pure (some [x, y]))
    (hs : swapsWithSole [.Tuple [.Name x px, .Name y py] kt pt] (.Tuple [a, b] k2 pt2) pos.line X.env = pure false := by rfl) :
    DS X (.Assign [.Tuple [.Name x px, .Name y py] kt pt] (.Tuple [a, b] k2 pt2) pos) (tPar i j ta) (sPar [i, j] t) := by
  refine ⟨ps_par hc hN hi hj hij hx hy ha.pe hw hs, fun R q L => ha.sem R q fun rs ρ' vs H' F' qd s1 R1 d1 => ?_⟩
  obtain ⟨hl, qd⟩ := qd
  cases d1 with
  | nil => cases hl
  | cons a1 t1 c1 np1 =>
    cases t1 with
    | nil => cases hl
    | cons a2 t2 c2 np2 =>
      cases t2 with
      | cons _ _ _ => cases hl
      | nil =>
        have R2 := R1.put a1 np1 i
        have t3 := (RDs.cons a2 .nil c2 np2).put R1.len i c1
        cases t3 with
        | cons a3 _ _ _ => exact ⟨_, _, rfl, L.nx _ _ _ _ qd (R2.put a3 np2 j)⟩
/-- a, b = e1, e2 by way of a tuple that nobody sees again: all targets names -/
inductive Names (X : Cx) : List Expr → List Nat → TGs → Prop
  | nil : Names X [] [] gNil
  | cons {i : Nat} {is : List Nat} {e : Expr} {es : List Expr} {gs : TGs} : PG X e (gName i) → PGs X es gs → Names X es is gs → (assignEach (e :: es) X.env).map (·.2) = assign e X.env :: (assignEach es X.env).map (·.2) → Names X (e :: es) (i :: is) (gCons (gName i) gs)
theorem Names.pgs {es : List Expr} {is : List Nat} {gs : TGs} (h : Names X es is gs) : PGs X es gs := by
  cases h with
  | nil => exact pgs_nil
  | cons a b c d => exact pgs_cons a b d
theorem nm_nil : Names X [] [] gNil := .nil
theorem nm_cons {i : Nat} {is : List Nat} {x : Str} {es : List Expr} {gs : TGs} {pos : Pos} (hN : X.N.Nodup) (hi : X.N[i]? = some x) (hx : Loc X.env.scope x) (h : Names X es is gs)
    (hf : X.fn x = true ∨ X.env.scope.names.lookup x = some .local := by first | exact .inl rfl | exact .inr rfl | assumption)
    (hs : (assignEach (.Name x pos :: es) X.env).map (·.2) = assign (.Name x pos) X.env :: (assignEach es X.env).map (·.2) := by rfl) : Names X (.Name x pos :: es) (i :: is) (gCons (gName i) gs) :=
  .cons (pg_name hN hi hx hf) h.pgs h hs
theorem Names.run {G : Cd} {H F : Hp} {D : Ends} {E : EndsD} (L : Link X G D E) {es : List Expr} {is : List Nat} {gs : TGs} (h : Names X es is gs) : ∀ {σ : L2.St} {ρ : SL} {vs : List V} {rs : List Rv}, Rep X.K G σ H F ρ → RDs X.K G σ ρ H F vs rs → rs.length = is.length → E.nx (puts ρ is rs) → gs vs σ H D.nx := by
  induction h with
  | nil =>
    intro σ ρ vs rs R d hl q
    cases d with
    | nil => exact ⟨rfl, L.nx _ _ _ _ q R⟩
    | cons _ _ _ => cases hl
  | @cons i is e es gs a b c d ih =>
    intro σ ρ vs rs R dd hl q
    cases dd with
    | nil => cases hl
    | cons a1 t1 c1 np => exact ⟨_, _, rfl, ih (R.put a1 np i) (t1.put R.len i c1) (Nat.succ.inj hl) q⟩
theorem ds_parT {ts es : List Expr} {is : List Nat} {gs : TGs} {ta : TA} {t : TRs} {pt pos pt2 : Pos} {kt k2 : Nat} (hc : X.calm = true) (hg : Names X ts is gs) (ha : DR X es ta t)
    (hs : swapsWithSole [.Tuple ts kt pt] (.Tuple es k2 pt2) pos.line X.env = pure false := by rfl) (hw : swappedStores [.Tuple ts kt pt] (.Tuple es k2 pt2) X.env = pure none := by rfl)
    (h1 : (assignEach [.Tuple ts kt pt] X.env).map (·.2) = [assign (.Tuple ts kt pt) X.env] := by rfl) (hn : (assignEach ts X.env).length = is.length := by rfl) (hst : (assignEach ts X.env).findIdx? (·.1) = none := by rfl) (hnz : is.length ≤ 1000 := by decide) :
    DS X (.Assign [.Tuple ts kt pt] (.Tuple es k2 pt2) pos) (tAsg (tTup ta) (gTup X.K is.length gs)) (sPar is t) := by
  refine ⟨ps_asg (pe_tup ha.pe) (pg_tup hc hg.pgs hn hst) hs hw h1, fun R q L => ha.sem R q fun rs ρ' vs H' F' qd s1 R1 d1 => ?_⟩
  obtain ⟨hl, qd⟩ := qd
  have hz : vs.length = is.length := by rw [d1.length, hl]
  refine ⟨by rw [hz, sizeLine_eq]; omega, fun p hp => ⟨p, vs, rfl, .inl (.inl upd_same), hz, ?_⟩⟩
  exact hg.run L (R1.junk hp) (d1.junk hp) hl qd
/-! ### expressions as statements, return -/
def sDrop (t : TD) : TSD := fun E ρ => t ρ fun _ ρ' => E.nx ρ'
theorem ds_expr {e : Expr} {te : TE} {t : TD} {pos : Pos} (h : DE X e te t) (hs : swapsWith e none pos.line X.env = pure false := by rfl) : DS X (.Expr e pos) (tDrop te) (sDrop t) :=
  ⟨ps_expr h.pe hs, fun R q L => h.sem R q fun r ρ' v H' F' qd s1 R1 rd => L.nx _ _ _ _ qd R1⟩
def sRet (t : TD) : TSD := fun E ρ => t ρ E.rt
theorem ds_ret {e : Expr} {te : TE} {t : TD} {pos : Pos} (h : DE X e te t) : DS X (.Return (some e) pos) (tRet te) (sRet t) :=
  ⟨ps_ret h.pe, fun R q L => h.sem R q fun r ρ' v H' F' qd s1 R1 rd => L.rt _ _ _ _ _ _ qd R1 rd⟩
def sIf (t : TB) (u w : TSD) : TSD := fun E ρ => t ρ fun b ρ1 => if b = true then u E ρ1 else w E ρ1
theorem ds_if {c : Expr} {a b : List Stmt} {pos : Pos} {tc : TT} {t1 t2 : TS} {t : TB} {u w : TSD} (hc : DT X c tc t) (ha : DSs X a t1 u) (hb : DSs X b t2 w) : DS X (.If c a b pos) (tIfS tc t1 t2) (sIf t u w) :=
  ⟨ps_if hc.pe ha.pe hb.pe, fun R q L => hc.sem R q fun z ρ1 H1 F1 q1 s1 R1 => by
    cases z with
    | true => rw [if_pos rfl] at q1 ⊢; exact ha.sem R1 q1 L
    | false => rw [if_neg Bool.false_ne_true] at q1 ⊢; exact hb.sem R1 q1 L⟩
/-! ### while -/
end
end DL

namespace DL
open PySem L2
/-! ### what is walked -/
/-- an iterator hands out these data, whatever else goes on -/
structure ItD (K : PySem.W.Frag) (G : Cd) (J : It) (its : List D) : Prop where
  stop : ∀ {σ : L2.St} {H F : Hp} {ρ : SL}, Rep K G σ H F ρ → J.stop its.length H
  go : ∀ {σ : L2.St} {H F : Hp} {ρ : SL} (i : Nat), i < its.length → Rep K G σ H F ρ → J.go i H
  yld : ∀ {σ : L2.St} {H F : Hp} {ρ : SL} (i : Nat) (d : D) (x : V) (H' : Hp), its[i]? = some d → Rep K G σ H F ρ → J.yld i H x H' → (H' = H ∧ Den K F x d) ∨ ∃ T xs, H T = none ∧ H' = upd H T (.tup xs) ∧ Den K (upd F T (.tup xs)) x d
theorem ItD.step {K : PySem.W.Frag} {G : Cd} {J : It} {its : List D} (IT : ItD K G J its) {σ : L2.St} {H F : Hp} {ρ : SL} {i : Nat} {d : D} {x : V} {H' : Hp} (hi : its[i]? = some d) (R : Rep K G σ H F ρ) (y : J.yld i H x H') :
    ∃ F3, Same F F3 ∧ Rep K G σ H' F3 ρ ∧ Den K F3 x d ∧ ∀ v c, RDen K G σ ρ H F v (.fr c) → RDen K G σ ρ H' F3 v (.fr c) := by
  rcases IT.yld i d x H' hi R y with ⟨rfl, dd⟩ | ⟨T, xs, hT, rfl, dd⟩
  · exact ⟨F, Same.refl _, R, dd, fun _ _ h => h⟩
  · obtain ⟨s1, R1⟩ := R.alloc (o := .tup xs) hT
    refine ⟨_, s1, R1, dd, fun v c h => ?_⟩
    obtain ⟨q, e, a1, a2, a3, n⟩ := h
    obtain ⟨o', ho⟩ := a1.ex
    have ne : q ≠ T := fun z => by subst z; rw [hT] at ho; cases ho
    exact ⟨q, e, (a1.mono s1).at (upd_ne ne), by rw [upd_ne ne]; exact a2, a3, n⟩
abbrev TSrc := SL → (List D → SL → Prop) → Prop
structure DI (X : Cx) (tg iter : Expr) (wi : TI) (t : TSrc) : Prop where
  pe : PI X tg iter wi
  sem : ∀ {G : Cd} {σ : L2.St} {H F : Hp} {ρ : SL} {Q : It → Hp → Prop} {Qd : List D → SL → Prop}, Rep X.K G σ H F ρ → t ρ Qd →
    (∀ its ρ' J H' F', Qd its ρ' → Same F F' → Rep X.K G σ H' F' ρ' → (∀ G' : Cd, G'.F0 = F' → ItD X.K G' J its) → Q J H') → wi σ H Q
def chars (x : Str) : List D := x.cps.toList.map fun c => .str ⟨#[c]⟩
def itsOf : D → Option (List D)
  | .lst l => some l
  | .tup l => some l
  | .str x => some (chars x)
  | _ => none
section
variable {K : PySem.W.Frag}
theorem itd_list {G : Cd} {a : Addr} {xs : List V} {ds : List D} (hH : ∀ {σ : L2.St} {H F : Hp} {ρ : SL}, Rep K G σ H F ρ → H a = some (.lst xs) ∧ DenL K F xs ds) : ItD K G (Itl K a) ds where
  stop := fun R => ⟨xs, .inl (.inl (hH R).1), by rw [(hH R).2.length]; exact Nat.le_refl _⟩
  go := fun i hi R => by
    obtain ⟨h1, h2⟩ := hH R
    rw [← h2.length] at hi
    exact ⟨xs, xs[i], .inl (.inl h1), List.getElem?_eq_getElem hi⟩
  yld := fun {σ H F ρ} i d x H' hi R y => by
    obtain ⟨rfl, y⟩ := y
    obtain ⟨h1, h2⟩ := hH R
    have hx := y xs (.inl (.inl h1))
    obtain ⟨d', e, dd⟩ := h2.get' hx
    rw [hi] at e; cases e
    exact .inl ⟨rfl, dd⟩
theorem itd_tup {G : Cd} {a : Addr} {xs : List V} {ds : List D} (h : G.F0 a = some (.tup xs)) (hd : DenL K G.F0 xs ds) : ItD K G (Itt K a) ds where
  stop := fun R => ⟨xs, .inl (.inl (R.ext _ _ (R.fr0 _ _ h))), by rw [hd.length]; exact Nat.le_refl _⟩
  go := fun i hi R => by
    rw [← hd.length] at hi
    exact ⟨xs, xs[i], .inl (.inl (R.ext _ _ (R.fr0 _ _ h))), List.getElem?_eq_getElem hi⟩
  yld := fun {σ H F ρ} i d x H' hi R y => by
    obtain ⟨rfl, y⟩ := y
    have hx := y xs (.inl (.inl (R.ext _ _ (R.fr0 _ _ h))))
    obtain ⟨d', e, dd⟩ := hd.get' hx
    rw [hi] at e; cases e
    exact .inl ⟨rfl, dd.mono R.fr0⟩
theorem itd_str {G : Cd} {z : Str} (hz : PyData.strOk z = true) : ItD K G (Its z) (chars z) where
  stop := fun R => by
    show z.cps.size ≤ (chars z).length
    unfold chars
    rw [List.length_map, Array.length_toList]
    exact Nat.le_refl _
  go := fun i hi R => by
    unfold chars at hi
    rw [List.length_map, Array.length_toList] at hi
    exact hi
  yld := fun {σ H F ρ} i d x H' hi R y => by
    obtain ⟨rfl, c, hc, rfl⟩ := y
    unfold chars at hi
    rw [List.getElem?_map, Array.getElem?_toList, hc] at hi
    cases hi
    exact .inl ⟨rfl, .str _ (strOk_one hz (by
      have : z.cps.toList[i]? = some c := by rw [Array.getElem?_toList]; exact hc
      exact List.mem_of_getElem? this))⟩
def rangeC (lo c : Int) (n : Nat) : List D := (List.range n).map fun (i : Nat) => D.int (lo + (i : Int) * c)
theorem rangeC_at {lo c : Int} {n i : Nat} {d : D} (h : (rangeC lo c n)[i]? = some d) : i < n ∧ d = .int (lo + (i : Int) * c) := by
  unfold rangeC at h
  rw [List.getElem?_map] at h
  by_cases q : i < n
  · rw [List.getElem?_range q] at h
    cases h
    exact ⟨q, rfl⟩
  · rw [List.getElem?_eq_none (by rw [List.length_range]; omega)] at h
    cases h
theorem rangeC_length (lo c : Int) (n : Nat) : (rangeC lo c n).length = n := by
  unfold rangeC
  rw [List.length_map, List.length_range]
theorem itd_rng {G : Cd} {lo : Int} {n : Nat} : ItD K G (Itr lo n) (rangeC lo 1 n) where
  stop := fun R => by rw [rangeC_length]; exact Nat.le_refl _
  go := fun i hi R => by rw [rangeC_length] at hi; exact hi
  yld := fun {σ H F ρ} i d x H' hi R y => by
    obtain ⟨rfl, rfl⟩ := y
    obtain ⟨_, rfl⟩ := rangeC_at hi
    rw [Int.mul_one]
    exact .inl ⟨rfl, .int _⟩
def enumD (ds : List D) : List D := ds.mapIdx fun i d => .tup [.int (i : Nat), d]
end
section
variable {X : Cx} {tg : Expr}
def iAny (K : PySem.W.Frag) (tl : TE) : TI := fun σ H R => tl σ H fun x H1 => (∃ a, x = .ref a ∧ (∃ xs, SqL K H1 a xs) ∧ R (Itl K a) H1) ∨ ((∃ a, x = .ref a ∧ (∃ xs, SqT K H1 a xs) ∧ R (Itt K a) H1) ∨ ∃ z, x = .str z ∧ R (Its z) H1)
theorem pi_any {l : Expr} {tl : TE} (hl : PE X l tl) : PI X tg l (iAny X.K tl) := by
  refine ⟨fun pins s σ H R I h => ?_⟩
  refine thn (hl.run pins s σ H _ I h) fun v s1 ⟨x, H1, I1, r1, q1⟩ => ?_
  rcases q1 with ⟨a, e, ⟨xs, hq⟩, q⟩ | ⟨a, e, ⟨xs, hq⟩, q⟩ | ⟨z, e, q⟩
  · subst e
    cases r1
    obtain ⟨its, rv, p, hz⟩ := I1.list hq
    refine wpAny_pyIter_list p.isList ?_
    refine ⟨s1.heap.objs.size, [s1.heap.objs.size], _, _, H1, rfl, I1.kept (t' := s1.toks) fun b o e => Heap.get?_push_of_some _ e, turn_list a _, ⟨_, Heap.get?_push_size _ rfl, rfl, rfl⟩, fun b hb => ?_, q⟩
    have e : b = s1.heap.objs.size := by simpa using hb
    subst e
    exact I1.fpOk (Nat.le_refl _) (I1.hok.fresh (Nat.le_refl _))
  · subst e
    cases r1
    obtain ⟨its, rv, p, hz⟩ := I1.tuple hq
    refine wpAny_pyIter_tuple (show s1.heap.IsTuple a its.toArray from p) ?_
    refine ⟨s1.heap.objs.size, [s1.heap.objs.size], _, _, H1, rfl, I1.kept (t' := s1.toks) fun b o e => Heap.get?_push_of_some _ e, turn_tuple a _, ⟨_, Heap.get?_push_size _ rfl, rfl, rfl⟩, fun b hb => ?_, q⟩
    have e : b = s1.heap.objs.size := by simpa using hb
    subst e
    exact I1.fpOk (Nat.le_refl _) (I1.hok.fresh (Nat.le_refl _))
  · subst e
    obtain ⟨t, rfl⟩ := r1
    cases ha : z.cps.all (· < 128)
    · exact PySem.wpAny_pyIter_wide ha (pi_one (tk := s1.toks) I1 _ (turn_str _ z t "str_iterator" (.inr rfl)) ⟨_, Heap.get?_push_size _ rfl, rfl, rfl⟩ q)
    · exact PySem.wpAny_pyIter_ascii ha (pi_one (tk := s1.toks) I1 _ (turn_str _ z t "str_ascii_iterator" (.inl rfl)) ⟨_, Heap.get?_push_size _ rfl, rfl, rfl⟩ q)
def srcE (t : TD) : TSrc := fun ρ Q => t ρ fun r ρ' => match itsOf r.dat with
  | some l => Q l ρ'
  | none => False
theorem di_e {e : Expr} {te : TE} {t : TD} (h : DE X e te t) : DI X tg e (iAny X.K te) (srcE t) :=
  ⟨pi_any h.pe, fun {G σ H F ρ Q Qd} R q k => h.sem R q fun r ρ' v H' F' qd s1 R1 rd => by
    obtain ⟨F2, s2, R2, d2⟩ := R1.share rd
    cases hd : r.dat with
    | lst l =>
      rw [hd] at d2 qd
      cases d2 with
      | lst a b => exact .inl ⟨_, rfl, ⟨_, .inl (.inl (R2.ext _ _ a))⟩, k l _ _ _ _ qd (s1.trans s2) R2 fun G' e => itd_list fun R3 => by subst e; exact ⟨R3.ext _ _ (R3.fr0 _ _ a), b.mono R3.fr0⟩⟩
    | tup l =>
      rw [hd] at d2 qd
      cases d2 with
      | tup a b => exact .inr (.inl ⟨_, rfl, ⟨_, .inl (.inl (R2.ext _ _ a))⟩, k l _ _ _ _ qd (s1.trans s2) R2 fun G' e => by subst e; exact itd_tup a b⟩)
    | str z =>
      rw [hd] at d2 qd
      cases d2 with
      | str _ a => exact .inr (.inr ⟨z, rfl, k _ _ _ _ _ qd (s1.trans s2) R2 fun G' e => itd_str a⟩)
    | _ => rw [hd] at qd; exact qd.elim⟩
/-- range(n), range(a, b), range(a, b, -1) -/
def big : Int := 4611686018427387904
def srcR1 (t : TVs) : TSrc := fun ρ Q => t ρ fun ds ρ' => match ds with
  | [.int j] => -big ≤ j ∧ j < big ∧ Q (rangeC 0 1 j.toNat) ρ'
  | _ => False
theorem di_r1 {a : Expr} {ta : TA} {t : TVs} {p pos : Pos} (hg : Gl X "range") (hm : X.mg "range" = none) (ha : DV X [a] ta t) (hs : starEach [a] X.env = [(false, eval a X.env)] := by rfl) : DI X tg (.Call (.Name "range" p) [a] [] pos) (iRng1 ta) (srcR1 t) := by
  refine ⟨pi_range1 hg hm ha.pe hs, fun {G σ H F ρ Q Qd} R q k => ha.sem R q fun ds ρ' vs H' F' qd s1 R1 d1 => ?_⟩
  split at qd
  · cases d1 with
    | cons a b =>
      cases a; cases b
      exact ⟨_, rfl, qd.1, qd.2.1, k _ _ _ _ _ qd.2.2 s1 R1 fun G' _ => itd_rng⟩
  · exact qd.elim
/-! ### for -/
def forL (g : TGd) (b : TSD) (E : EndsD) : List D → SL → Prop
  | [], ρ => E.nx ρ
  | d :: r, ρ => g d ρ fun ρ1 => b { nx := forL g b E r, rt := E.rt, bk := E.nx, ct := forL g b E r, xc := E.xc, xh := E.xh } ρ1
def sFor (t : TSrc) (g : TGd) (b : TSD) : TSD := fun E ρ => t ρ fun its ρ' => forL g b E its ρ'
theorem Link.at {X : Cx} {G : Cd} {D : Ends} {E : EndsD} {σ : L2.St} {H F : Hp} {ρ : SL} (L : Link X G D E) (R : Rep X.K G σ H F ρ) : Link X (G.at F) D E :=
  ⟨fun _ _ _ _ q R' => L.nx _ _ _ _ q (R.unbase R'), fun _ _ _ _ r _ q R' rd => L.rt _ _ _ _ _ _ q (R.unbase R') (by cases r <;> exact rd), fun _ _ _ _ q R' => L.bk _ _ _ _ q (R.unbase R'), fun _ _ _ _ q R' => L.ct _ _ _ _ q (R.unbase R'), fun _ _ _ _ _ _ _ q R' xd => L.xc _ _ _ _ _ _ _ q (R.unbase R') xd, fun _ _ _ _ _ _ _ q R' xd => L.xh _ _ _ _ _ _ _ q (R.unbase R') xd⟩
theorem drop_get {α : Type} {l : List α} {i : Nat} {d : α} (h : l[i]? = some d) : l.drop i = d :: l.drop (i + 1) := by
  obtain ⟨hi, e⟩ := List.getElem?_eq_some_iff.mp h
  rw [← e]
  exact List.drop_eq_getElem_cons hi
theorem ds_for {iter : Expr} {body : List Stmt} {ws : List Nat} {wi : TI} {g : TG} {tb : TS} {t : TSrc} {gd : TGd} {b : TSD} {pos : Pos} (hp : PassesOwn (model X.prog X.w) X.A X.env X.xe) (hc : X.calm = true) (hi : DI X tg iter wi t) (hg : DG X tg ws g gd) (hb : DSs X body tb b)
    (hs : ∀ x, foldedSetIterable iter X.env x = pure x := by intro _; rfl) : DS X (.For tg iter body [] pos) (tFor wi g tb) (sFor t gd b) := by
  refine ⟨ps_for hp hc hi.pe hg.pe hb.pe hs, fun {G σ H F ρ D E} R q L => hi.sem R q fun its ρ' J H1 F1 qd s1 R1 hJ => ?_⟩
  have IT := hJ (G.at F1) rfl
  have L' := L.at R1
  refine ⟨fun i m σ H => m = its.length - i ∧ i ≤ its.length ∧ ∃ F ρ, Rep X.K (G.at F1) σ H F ρ ∧ forL gd b E (its.drop i) ρ, ⟨_, rfl, Nat.zero_le _, F1, ρ', R1.rebase, qd⟩, ?_⟩
  rintro i m σ2 H2 ⟨rfl, hi, F2, ρ2, R2, q2⟩
  by_cases hlt : i < its.length
  · refine .inr ⟨IT.go i hlt R2, fun σ H => ∃ F ρ, Rep X.K (G.at F1) σ H F ρ ∧ forL gd b E (its.drop (i + 1)) ρ, fun σ' H' ⟨F, ρ, h1, h2⟩ => ⟨its.length - (i + 1), by omega, rfl, hlt, F, ρ, h1, h2⟩, fun x H' y => ?_⟩
    have hd := List.getElem?_eq_getElem hlt
    rw [drop_get hd] at q2
    obtain ⟨F3, s3, R3, d3, _⟩ := IT.step hd R2 y
    refine hg.sem R3 d3 q2 fun ρ4 σ4 q4 R4 _ => ?_
    exact hb.sem R4 q4 ⟨fun σ H F ρ q R => ⟨F, ρ, R, q⟩, L'.rt, fun σ H F ρ q R => L'.nx σ H F ρ q R, fun σ H F ρ q R => ⟨F, ρ, R, q⟩, L'.xc, L'.xh⟩
  · have e : i = its.length := by omega
    subst e
    rw [List.drop_length] at q2
    exact .inl ⟨IT.stop R2, L'.nx _ _ _ _ q2 R2⟩
/-! ### list comprehensions -/
def wipeD (ρ : SL) : List Nat → SL
  | [] => ρ
  | v :: vs => (wipeD ρ vs).set v .un
theorem wipeD_length (ρ : SL) : ∀ vs : List Nat, (wipeD ρ vs).length = ρ.length
  | [] => rfl
  | v :: vs => by unfold wipeD; rw [List.length_set, wipeD_length ρ vs]
theorem wipeD_get {ρ : SL} {i : Nat} {s : Sl} : ∀ {vs : List Nat}, (wipeD ρ vs)[i]? = some s → s = .un ∨ (ρ[i]? = some s ∧ i ∉ vs)
  | [], h => .inr ⟨h, by simp⟩
  | v :: vs, h => by
    rcases set_get h with ⟨_, q⟩ | ⟨ne, q⟩
    · exact .inl q
    · rcases wipeD_get q with z | ⟨z, w⟩
      · exact .inl z
      · exact .inr ⟨z, by simp [w]; exact ne⟩
theorem wipe_get (σ : L2.St) {i : Nat} : ∀ {vs : List Nat}, i ∉ vs → (wipe σ vs)[i]? = σ[i]?
  | [], _ => rfl
  | v :: vs, h => by
    simp only [List.mem_cons, not_or] at h
    unfold wipe
    rw [List.getElem?_set_ne (Ne.symm h.1), wipe_get σ h.2]
theorem Rep.wipe {K : PySem.W.Frag} {G : Cd} {σ : L2.St} {H F : Hp} {ρ : SL} (R : Rep K G σ H F ρ) (vs : List Nat) : Rep K G (L2.wipe σ vs) H F (wipeD ρ vs) :=
  R.slots (by rw [wipeD_length, wipe_length]; exact R.len) fun i s e => by
    rcases wipeD_get e with z | ⟨z, w⟩
    · exact .inl z
    · exact .inr ⟨z, wipe_get σ w⟩
theorem Rep.unwipe {K : PySem.W.Frag} {G : Cd} {σ : L2.St} {H F : Hp} {ρ : SL} {vs : List Nat} (R : Rep K G (L2.wipe σ vs) H F ρ) : Rep K G σ H F (wipeD ρ vs) :=
  R.slots (by rw [wipeD_length]; exact R.len.trans (wipe_length σ vs)) fun i s e => by
    rcases wipeD_get e with z | ⟨z, w⟩
    · exact .inl z
    · exact .inr ⟨z, (wipe_get σ w).symm⟩
theorem RDen.wipe {K : PySem.W.Frag} {G : Cd} {σ : L2.St} {H F : Hp} {ρ : SL} {v : V} {r : Rv} (a : RDen K G σ ρ H F v r) (vs : List Nat) : RDen K G (L2.wipe σ vs) (wipeD ρ vs) H F v r :=
  a.slots fun i s e => by
    rcases wipeD_get e with z | ⟨z, w⟩
    · exact .inl z
    · exact .inr ⟨z, wipe_get σ w⟩
theorem RDen.unwipe {K : PySem.W.Frag} {G : Cd} {σ : L2.St} {H F : Hp} {ρ : SL} {v : V} {r : Rv} {vs : List Nat} (a : RDen K G (L2.wipe σ vs) ρ H F v r) : RDen K G σ (wipeD ρ vs) H F v r :=
  a.slots fun i s e => by
    rcases wipeD_get e with z | ⟨z, w⟩
    · exact .inl z
    · exact .inr ⟨z, (wipe_get σ w).symm⟩
theorem wipe_idem1 (σ : L2.St) {i : Nat} : ∀ {vs : List Nat}, i ∈ vs → (L2.wipe σ vs).set i none = L2.wipe σ vs
  | [], h => by simp at h
  | v :: vs, h => by
    unfold L2.wipe
    by_cases e : i = v
    · subst e; rw [List.set_set]
    · rw [List.set_comm _ _ (Ne.symm e), wipe_idem1 σ (by simpa [e] using h)]
theorem wipe_twice (σ : L2.St) (vs : List Nat) : L2.wipe (L2.wipe σ vs) vs = L2.wipe σ vs := by
  have : ∀ us : List Nat, (∀ i ∈ us, i ∈ vs) → L2.wipe (L2.wipe σ vs) us = L2.wipe σ vs := by
    intro us
    induction us with
    | nil => intro _; rfl
    | cons u us ih =>
      intro h
      show (L2.wipe (L2.wipe σ vs) us).set u none = _
      rw [ih fun i hi => h i (List.mem_cons_of_mem _ hi), wipe_idem1 σ (h u List.mem_cons_self)]
  exact this vs fun _ h => h
/-- acc: what is made so far -/
def lcL (g : TGd) (tt : TB) (te : TD) (vs : List Nat) (Q : List D → SL → Prop) : List D → List D → SL → Prop
  | [], acc, ρ => Q acc ρ
  | d :: r, acc, ρ => g d ρ fun ρ1 => tt ρ1 fun b ρ2 => if b = true then te ρ2 fun rv ρ3 => acc.length < sizeLine ∧ lcL g tt te vs Q r (acc ++ [rv.dat]) (wipeD ρ3 vs) else lcL g tt te vs Q r acc (wipeD ρ2 vs)
/-- a comprehension's source: an expression, or one's own list by its name (back: it is one's own again) -/
abbrev TSrcC := SL → (List D → (SL → SL) → SL → Prop) → Prop
structure DIc (X : Cx) (tg iter : Expr) (wi : TI) (t : TSrcC) : Prop where
  pe : PI X tg iter wi
  sem : ∀ {G : Cd} {σ : L2.St} {H F : Hp} {ρ : SL} {Q : It → Hp → Prop} {Qd : List D → (SL → SL) → SL → Prop}, Rep X.K G σ H F ρ → t ρ Qd →
    (∀ its back ρ' J H' F', Qd its back ρ' → Same F F' → Rep X.K G σ H' F' ρ' → ItD X.K (G.now σ ρ' H' F') J its →
      (∀ H2 F2 ρ2 v r, Rep X.K (G.now σ ρ' H' F') σ H2 F2 ρ2 → RDen X.K (G.now σ ρ' H' F') σ ρ2 H2 F2 v r → Rep X.K G σ H2 F2 (back ρ2) ∧ RDen X.K G σ (back ρ2) H2 F2 v r) → Q J H') → wi σ H Q
def srcC (t : TSrc) : TSrcC := fun ρ Q => t ρ fun its ρ' => Q its id ρ'
theorem dic_of {iter : Expr} {wi : TI} {t : TSrc} (h : DI X tg iter wi t) : DIc X tg iter wi (srcC t) :=
  ⟨h.pe, fun R q k => h.sem R q fun its ρ' J H' F' qd s1 R1 hJ => k its id ρ' J H' F' qd s1 R1 (hJ _ rfl) fun H2 F2 ρ2 v r R2 rd => ⟨R1.back R2, rd.back R1⟩⟩
def srcV (i : Nat) : TSrcC := fun ρ Q => match ρ[i]? with
  | some (.sh d) => match itsOf d with
    | some l => Q l id ρ
    | none => False
  | some (.ow (.l ds)) => Q ds (fun ρ' => ρ'.set i (.ow (.l ds))) (ρ.set i .un)
  | _ => False
/-- a thing lent out through a stretch comes back -/
theorem Rep.lent {K : PySem.W.Frag} {G : Cd} {σ : L2.St} {H F H2 F2 : Hp} {ρ ρ2 : SL} {i : Nat} {s : Sl} {c : Cn} (R : Rep K G σ H F ρ) (hs : ρ[i]? = some s) (hc : s.cn = some c) (hj : ∀ j, s ≠ .bw j c) (R2 : Rep K (G.now σ (ρ.set i .un) H F) σ H2 F2 ρ2) :
    Rep K G σ H2 F2 (ρ2.set i s) ∧ ∀ v r, RDen K (G.now σ (ρ.set i .un) H F) σ ρ2 H2 F2 v r → RDen K G σ (ρ2.set i s) H2 F2 v r := by
  cases s with
  | un => cases hc
  | pl _ => cases hc
  | sh d => cases hc
  | bw j c' => cases hc; exact (hj j rfl).elim
  | ow c' =>
    cases hc
    obtain ⟨p, a1, a2, a3, a4⟩ := R.ow i c hs
    obtain ⟨R0, rd0⟩ := R.take hs a1
    have h0 := rd0.hold R0 R2
    have RB := R0.back R2
    have e : σ.set i (some (.ref p)) = σ := by
      apply List.ext_getElem?
      intro j
      by_cases q : j = i
      · subst q
        rw [List.getElem?_set_self (List.getElem?_eq_some_iff.mp a1).1, a1]
      · rw [List.getElem?_set_ne (Ne.symm q)]
    have R3 := RB.setOw h0 i
    rw [e] at R3
    refine ⟨R3, fun v r rd => ?_⟩
    have lone : ∀ p2, ((G.now σ (ρ.set i .un) H F).H0 p2 = none ∨ (G.now σ (ρ.set i .un) H F).L p2) → Lone σ ρ2 p2 → Lone σ (ρ2.set i (.ow c)) p2 := fun p2 z b4 => by
      refine ⟨fun k s c' k1 k2 k3 => ?_, fun k hs c' k1 m => ?_⟩
      · rcases set_get k1 with ⟨rfl, q⟩ | ⟨ne, q⟩
        · rw [a1] at k3
          cases k3
          rcases z with z | ⟨i2, c3, e4, e5⟩ | ⟨i2, hs, c3, e4, m⟩
          · obtain ⟨o, ho⟩ := a2.ex
            have z' : H p = none := z
            rw [ho] at z'; cases z'
          · obtain ⟨_, _, _, _, _, n⟩ := rd0
            rename_i hx _ _ _
            cases hx
            exact n.1 i2 _ c3 e4 rfl e5
          · obtain ⟨_, hx, _, _, _, n⟩ := rd0
            cases hx
            exact n.2 i2 hs c3 e4 m
        · exact b4.1 k s c' q k2 k3
      · rcases set_get k1 with ⟨rfl, q⟩ | ⟨ne, q⟩
        · cases q
        · exact b4.2 k hs c' q m
    cases r with
    | v d => exact rd
    | fr c2 =>
      obtain ⟨p2, e2, b1, b2, b3, b4⟩ := id rd
      obtain ⟨p3, e3, _, _, g3, _⟩ := rd.back R0
      cases e2; cases e3
      exact ⟨p2, rfl, b1, b2, g3, lone p2 b3 b4⟩
    | pt d hs =>
      obtain ⟨g1, g2, g3⟩ := id rd
      obtain ⟨_, _, k3⟩ := rd.back R0
      refine ⟨g1, g2, fun p2 c2 m => ?_⟩
      obtain ⟨b1, b2, b3, b4⟩ := g3 p2 c2 m
      obtain ⟨_, _, l3, _⟩ := k3 p2 c2 m
      exact ⟨b1, b2, l3, lone p2 b3 b4⟩
theorem dic_var {i : Nat} {x : Str} {pos : Pos} (h : PE X (.Name x pos) (tVar i)) : DIc X tg (.Name x pos) (iAny X.K (tVar i)) (srcV i) := by
  refine ⟨pi_any h, fun {G σ H F ρ Q Qd} R q k => ?_⟩
  unfold srcV at q
  split at q
  · rename_i d hd
    obtain ⟨v, a, b⟩ := R.sh i d hd
    refine ⟨v, a, ?_⟩
    have bk : ∀ H2 F2 ρ2 v r, Rep X.K (G.now σ ρ H F) σ H2 F2 ρ2 → RDen X.K (G.now σ ρ H F) σ ρ2 H2 F2 v r → Rep X.K G σ H2 F2 (id ρ2) ∧ RDen X.K G σ (id ρ2) H2 F2 v r := fun H2 F2 ρ2 v r R2 rd => ⟨R.back R2, rd.back R⟩
    cases hd2 : d with
    | lst l =>
      subst hd2
      cases b with
      | lst c b => exact .inl ⟨_, rfl, ⟨_, .inl (.inl (R.ext _ _ c))⟩, k l _ _ _ _ _ q (Same.refl _) R (itd_list fun R3 => ⟨R3.ext _ _ (R3.fr0 _ _ c), b.mono R3.fr0⟩) bk⟩
    | tup l =>
      subst hd2
      cases b with
      | tup c b => exact .inr (.inl ⟨_, rfl, ⟨_, .inl (.inl (R.ext _ _ c))⟩, k l _ _ _ _ _ q (Same.refl _) R (itd_tup c b) bk⟩)
    | str z =>
      subst hd2
      cases b with
      | str _ c => exact .inr (.inr ⟨z, rfl, k _ _ _ _ _ _ q (Same.refl _) R (itd_str c) bk⟩)
    | _ => subst hd2; exact q.elim
  · rename_i ds hd
    obtain ⟨p, a, ⟨xs, h1, h2⟩, h3, h4⟩ := R.ow i _ hd
    refine ⟨_, a, .inl ⟨p, rfl, ⟨xs, .inl (.inl h1)⟩, ?_⟩⟩
    obtain ⟨R0, rd0⟩ := R.take hd a
    refine k ds _ _ _ _ _ q (Same.refl _) R0 (itd_list (xs := xs) fun {σ3 H3 F3 ρ3} R3 => ?_) fun H2 F2 ρ2 v r R2 rd => ?_
    · obtain ⟨p', e', b1, b2, b3, b4⟩ := rd0
      cases e'
      obtain ⟨z1, z2, z3⟩ := R0.held R3 h1 h3 b4 (R.nb h4)
      exact ⟨z1, h2.mono R3.fr0⟩
    · obtain ⟨z1, z2⟩ := R.lent hd rfl (by simp) R2
      exact ⟨z1, z2 _ _ rd⟩
  · exact q.elim

structure DTs (X : Cx) (ifs : List Expr) (te : TT) (t : TB) : Prop where
  pe : PTs X ifs te
  sem : ∀ {G : Cd} {σ : L2.St} {H F : Hp} {ρ : SL} {Q : Bool → Hp → Prop} {Qd : Bool → SL → Prop}, Rep X.K G σ H F ρ → t ρ Qd →
    (∀ b ρ' H' F', Qd b ρ' → Same F F' → Rep X.K G σ H' F' ρ' → Q b H') → te σ H Q
def bYes : TB := fun ρ Q => Q true ρ
theorem dts_nil : DTs X [] tYes bYes := ⟨pts_nil, fun R q k => k _ _ _ _ q (Same.refl _) R⟩
theorem dts_one {c : Expr} {te : TT} {t : TB} (h : DT X c te t) : DTs X [c] te t := ⟨pts_one h.pe, h.sem⟩
def dLc (t : TSrcC) (g : TGd) (tt : TB) (te : TD) (vs : List Nat) : TD := fun ρ Q => t ρ fun its back ρ' => lcL g tt te vs (fun acc ρ2 => Q (.fr (.l acc)) (back (wipeD ρ2 vs))) its [] (wipeD ρ' vs)
theorem sem_lc {elt iter : Expr} {ifs : List Expr} {scope : Scope} {ws : List Nat} {wi : TI} {g : TG} {tt : TT} {te : TE} {t : TSrcC} {gd : TGd} {dt : TB} {de : TD}
    (hi : DIc X tg iter wi t)
    (hg : ∀ (s : Shared) (H : Hp) (C : Addr) (cl : List (Str × Addr)) (fp : List Addr), DG (X.blk s H scope (compEnvC scope cl C X.env) fp) tg ws g gd) (ht : ∀ (s : Shared) (H : Hp) (C : Addr) (cl : List (Str × Addr)) (fp : List Addr), DTs (X.blk s H scope (compEnvC scope cl C X.env) fp) ifs tt dt)
    (he : ∀ (s : Shared) (H : Hp) (C : Addr) (cl : List (Str × Addr)) (fp : List Addr), DE (X.blk s H scope (compEnvC scope cl C X.env) fp) elt te de) (s0 : Shared)
    {G : Cd} {σ : L2.St} {H F : Hp} {ρ : SL} {Q : VK} {Qd : Rv → SL → Prop} (R : Rep X.K G σ H F ρ) (q : dLc t gd dt de ws ρ Qd)
    (k : ∀ r ρ' v H' F', Qd r ρ' → Same F F' → Rep X.K G σ H' F' ρ' → RDen X.K G σ ρ' H' F' v r → Q v H') : tLc wi g tt te ws σ H Q := by
  refine hi.sem R q fun its back ρ' J H1 F1 qd s1 R1 IT bk D hD => ?_
  have hG := hg s0 H 0 [] []
  have hT := ht s0 H 0 [] []
  have hE := he s0 H 0 [] []
  obtain ⟨RD, rd0⟩ := R1.now.allocFr hD (o := .lst []) (c := .l []) ⟨_, upd_same, .nil⟩
  refine ⟨fun i m H => m = its.length - i ∧ i ≤ its.length ∧ ∃ F ρ acc, Rep X.K (G.now σ ρ' H1 F1) (L2.wipe σ ws) H F ρ ∧ RDen X.K (G.now σ ρ' H1 F1) (L2.wipe σ ws) ρ H F (.ref D) (.fr (.l acc)) ∧
    lcL gd dt de ws (fun acc ρ2 => Qd (.fr (.l acc)) (back (wipeD ρ2 ws))) (its.drop i) acc ρ, ⟨_, rfl, Nat.zero_le _, F1, wipeD ρ' ws, [], RD.wipe ws, rd0.wipe ws, qd⟩, ?_⟩
  rintro i m H2 ⟨rfl, hle, F2, ρ2, acc, R2, rd2, q2⟩
  by_cases hlt : i < its.length
  · refine .inr ⟨IT.go i hlt R2, fun H => ∃ F ρ acc, Rep X.K (G.now σ ρ' H1 F1) (L2.wipe σ ws) H F ρ ∧ RDen X.K (G.now σ ρ' H1 F1) (L2.wipe σ ws) ρ H F (.ref D) (.fr (.l acc)) ∧
      lcL gd dt de ws (fun acc ρ2 => Qd (.fr (.l acc)) (back (wipeD ρ2 ws))) (its.drop (i + 1)) acc ρ, fun H' h => ⟨its.length - (i + 1), by omega, rfl, hlt, h⟩, fun x H3 y => ?_⟩
    have hd := List.getElem?_eq_getElem hlt
    rw [drop_get hd] at q2
    obtain ⟨F3, s3, R3, d3, hr⟩ := IT.step hd R2 y
    have rd3 := hr _ _ rd2
    -- the list made so far is held aside
    refine hG.sem R3.now d3 q2 fun ρ4 σ4 q4 R4 w4 => ⟨w4.trans (wipe_twice σ ws), ?_⟩
    refine hT.sem R4 q4 fun b ρ5 H5 F5 q5 s5 R5 => ?_
    cases b with
    | false =>
      rw [if_neg Bool.false_ne_true] at q5 ⊢
      have R6 := R3.back R5
      have rd6 := rd3.hold R3 R5
      refine ⟨F5, wipeD ρ5 ws, acc, ?_, ?_, q5⟩
      · have := R6.wipe ws; rw [w4, wipe_twice] at this; exact this
      · have := rd6.wipe ws; rw [w4, wipe_twice] at this; exact this
    | true =>
      rw [if_pos rfl] at q5 ⊢
      refine hE.sem R5 q5 fun r ρ6 v H6 F6 q6 s6 R6 rd6 => ?_
      obtain ⟨F7, s7, R7, d7⟩ := R6.share rd6
      have R8 := R3.back R7
      have rd8 := rd3.hold R3 R7
      obtain ⟨p, e, ⟨xs, e1, e2⟩, a2, a3, a4⟩ := id rd8
      cases e
      obtain ⟨R9, rd9⟩ := R8.writeFr (o := .lst (xs ++ [v])) (c' := .l (acc ++ [r.dat])) rd8 ⟨_, upd_same, e2.append (.cons d7 .nil)⟩
      refine ⟨xs, e1, by rw [e2.length]; exact q6.1, F7, wipeD ρ6 ws, acc ++ [r.dat], ?_, ?_, q6.2⟩
      · have := R9.wipe ws; rw [w4, wipe_twice] at this; exact this
      · have := rd9.wipe ws; rw [w4, wipe_twice] at this; exact this
  · have e : i = its.length := by omega
    subst e
    rw [List.drop_length] at q2
    have R4 := R2.unwipe
    have rd4 := rd2.unwipe
    obtain ⟨R5, rd5⟩ := bk _ _ _ _ _ R4 rd4
    exact .inl ⟨IT.stop R2, k _ _ _ _ _ q2 (s1.trans R2.fr0) R5 rd5⟩
end
end DL

namespace DL
open PySem L2
section
variable {X : Cx} {tg : Expr}
theorem de_lc {elt iter : Expr} {ifs : List Expr} {scope : Scope} {own : List (Str × Nat)} {pos : Pos} {wi : TI} {g : TG} {tt : TT} {te : TE} {t : TSrcC} {gd : TGd} {dt : TB} {de : TD} (hc : X.calm = true) (hN : X.N.Nodup)
    (hi : DIc X tg iter wi t) (ok : BlkOk X.N X.env.scope scope own)
    (hg : ∀ (s : Shared) (H : Hp) (C : Addr) (cl : List (Str × Addr)) (fp : List Addr), DG (X.blk s H scope (compEnvC scope cl C X.env) fp) tg (own.map (·.2)) g gd)
    (ht : ∀ (s : Shared) (H : Hp) (C : Addr) (cl : List (Str × Addr)) (fp : List Addr), DTs (X.blk s H scope (compEnvC scope cl C X.env) fp) ifs tt dt)
    (he : ∀ (s : Shared) (H : Hp) (C : Addr) (cl : List (Str × Addr)) (fp : List Addr), DE (X.blk s H scope (compEnvC scope cl C X.env) fp) elt te de) (hs : ∀ x, foldedSetIterable iter X.env x = pure x := by intro _; rfl) :
    DE X (.ListComp elt [⟨tg, iter, ifs, 0⟩] scope pos) (tLc wi g tt te (own.map (·.2))) (dLc t gd dt de (own.map (·.2))) :=
  ⟨pe_lc hc hN hi.pe ok (fun s H C cl fp => (hg s H C cl fp).pe) (fun s H C cl fp => (ht s H C cl fp).pe) (fun s H C cl fp => (he s H C cl fp).pe) hs, fun R q k => sem_lc hi hg ht he X.s_0 R q k⟩
theorem ds_setLc {i : Nat} {y : Str} {py : Pos} {elt iter : Expr} {ifs : List Expr} {scope : Scope} {own : List (Str × Nat)} {pos spos : Pos} {wi : TI} {g : TG} {tt : TT} {te : TE} {t : TSrcC} {gd : TGd} {dt : TB} {de : TD} (hc : X.calm = true) (hN : X.N.Nodup)
    (hy : X.N[i]? = some y) (hyl : X.env.scope.names.lookup y = some .local)
    (hsw : swapsWith (.ListComp elt [⟨tg, iter, ifs, 0⟩] scope pos) (some (.Name y py)) spos.line X.env = pure true) (hi : DIc X tg iter wi t) (ok : BlkOk X.N X.env.scope scope own)
    (hg : ∀ (s : Shared) (H : Hp) (C : Addr) (cl : List (Str × Addr)) (fp : List Addr), DG (X.blk s H scope (compEnvC scope cl C X.env) fp) tg (own.map (·.2)) g gd)
    (ht : ∀ (s : Shared) (H : Hp) (C : Addr) (cl : List (Str × Addr)) (fp : List Addr), DTs (X.blk s H scope (compEnvC scope cl C X.env) fp) ifs tt dt)
    (he : ∀ (s : Shared) (H : Hp) (C : Addr) (cl : List (Str × Addr)) (fp : List Addr), DE (X.blk s H scope (compEnvC scope cl C X.env) fp) elt te de) (hs : ∀ x, foldedSetIterable iter X.env x = pure x := by intro _; rfl) :
    DS X (.Assign [.Name y py] (.ListComp elt [⟨tg, iter, ifs, 0⟩] scope pos) spos) (tAsg (tLc wi g tt te (own.map (·.2))) (gName i)) (sSet i (dLc t gd dt de (own.map (·.2)))) :=
  ⟨ps_setLc hc hN hy hyl hsw hi.pe ok (fun s H C cl fp => (hg s H C cl fp).pe) (fun s H C cl fp => (ht s H C cl fp).pe) (fun s H C cl fp => (he s H C cl fp).pe) hs, fun R q L =>
    sem_lc hi hg ht he X.s_0 R q fun r ρ' v H' F' qd s1 R1 rd => by
      obtain ⟨F2, _, R2⟩ := R1.putF rd i
      exact L.nx _ _ _ _ qd R2⟩
/-! ### calls of own defs -/
inductive AOp where
  | val (d : D)
  | bor (i : Nat)
def ADen (K : PySem.W.Frag) (F : Hp) (σ : L2.St) (v : V) : AOp → Prop
  | .val d => Den K F v d
  | .bor i => σ[i]? = some (some v)
inductive ADens (K : PySem.W.Frag) (F : Hp) (σ : L2.St) : List V → List AOp → Prop
  | nil : ADens K F σ [] []
  | cons {v : V} {vs : List V} {o : AOp} {os : List AOp} : ADen K F σ v o → ADens K F σ vs os → ADens K F σ (v :: vs) (o :: os)
abbrev TAg := SL → (List AOp → SL → Prop) → Prop
structure DAg (X : Cx) (es : List Expr) (ta : TA) (t : TAg) : Prop where
  pe : PA X es ta
  sem : ∀ {G : Cd} {σ : L2.St} {H F : Hp} {ρ : SL} {Q : List V → Hp → Prop} {Qd : List AOp → SL → Prop}, Rep X.K G σ H F ρ → t ρ Qd →
    (∀ os ρ' vs H' F', Qd os ρ' → Same F F' → Rep X.K G σ H' F' ρ' → ADens X.K F' σ vs os → Q vs H') → ta σ H Q
def agNil : TAg := fun ρ Q => Q [] ρ
def agVal (t : TD) (u : TAg) : TAg := fun ρ Q => t ρ fun r ρ1 => u ρ1 fun os ρ2 => Q (.val r.dat :: os) ρ2
def agBor (i : Nat) (u : TAg) : TAg := fun ρ Q => (match ρ[i]? with | some s => s.cn.isSome = true | none => False) ∧ u ρ fun os ρ2 => Q (.bor i :: os) ρ2
theorem dag_nil : DAg X [] tNil agNil := ⟨pa_nil, fun R h k => k _ _ _ _ _ h (Same.refl _) R .nil⟩
theorem dag_val {e : Expr} {es : List Expr} {te : TE} {ta : TA} {t : TD} {u : TAg} (h : DE X e te t) (r : DAg X es ta u) (hs : starEach (e :: es) X.env = (false, eval e X.env) :: starEach es X.env := by rfl) :
    DAg X (e :: es) (tCons te ta) (agVal t u) :=
  ⟨pa_cons h.pe r.pe hs, fun R q k => h.sem R q fun o ρ1 v H1 F1 q1 s1 R1 d1 => by
    obtain ⟨F1', s1', R1', d1'⟩ := R1.share d1
    exact r.sem R1' q1 fun os ρ2 vs H2 F2 q2 s2 R2 d2 => k _ _ _ _ _ q2 (s1.trans (s1'.trans s2)) R2 (.cons (d1'.mono s2) d2)⟩
theorem dag_bor {i : Nat} {x : Str} {pos : Pos} {es : List Expr} {ta : TA} {u : TAg} (h : PE X (.Name x pos) (tVar i)) (r : DAg X es ta u) (hs : starEach (.Name x pos :: es) X.env = (false, eval (.Name x pos) X.env) :: starEach es X.env := by rfl) :
    DAg X (.Name x pos :: es) (tCons (tVar i) ta) (agBor i u) :=
  ⟨pa_cons h r.pe hs, fun {G σ H F ρ Q Qd} R q k => by
    obtain ⟨q1, q2⟩ := q
    cases e : ρ[i]? with
    | none => rw [e] at q1; exact q1.elim
    | some s =>
      rw [e] at q1
      cases ec : s.cn with
      | none => simp [ec] at q1
      | some c =>
        obtain ⟨p, a, _⟩ := R.owned e ec
        exact ⟨.ref p, a, r.sem R q2 fun os ρ2 vs H2 F2 q3 s2 R2 d2 => k _ _ _ _ _ q3 s2 R2 (.cons a d2)⟩⟩
/-- the callee's slots: j is the first argument's place -/
def mkArgs (ρ : SL) : Nat → List AOp → Option SL
  | _, [] => some []
  | j, .val d :: r => (mkArgs ρ (j + 1) r).map fun l => .sh d :: l
  | j, .bor i :: r => match ρ[i]? with
    | some s => match s.cn with
      | some c => (mkArgs ρ (j + 1) r).map fun l => .bw j c :: l
      | none => none
    | none => none
def bors : List AOp → List Nat
  | [] => []
  | .val _ :: r => bors r
  | .bor i :: r => i :: bors r
/-- behind the call: what was lent comes back -/
def giveB (ρ0 : SL) : Nat → SL → List AOp → SL → Option SL
  | _, ρ, [], _ => some ρ
  | j, ρ, .val _ :: as, _ :: outs => giveB ρ0 (j + 1) ρ as outs
  | j, ρ, .bor i :: as, .bw k c :: outs => if k = j then match ρ0[i]? with
      | some s => giveB ρ0 (j + 1) (ρ.set i (s.with c)) as outs
      | none => none
    else none
  | _, _, _, _ => none
abbrev SpD := SL → (Rv → SL → Prop) → Prop
/-- a promise over data, as one over the heap -/
def lift (K : PySem.W.Frag) (sp : SpD) : Sp := fun vs H Q _ => ∃ (b : Nat → Option Addr) (F : Hp) (as : SL) (Qd : Rv → SL → Prop), Rep K ⟨b, fun _ => False, H, F⟩ (vs.map some) H F as ∧ sp as Qd ∧
  ∀ r outs σ' v H' F', Qd r outs → Rep K ⟨b, fun _ => False, H, F⟩ σ' H' F' outs → RDen K ⟨b, fun _ => False, H, F⟩ σ' outs H' F' v r → Q v H'
def dCall (sp : SpD) (t : TAg) : TD := fun ρ Q => t ρ fun os ρ1 => ∃ sl, mkArgs ρ1 0 os = some sl ∧ (bors os).Nodup ∧ sp sl fun r outs => ∃ ρ2, giveB ρ1 0 (wipeD ρ1 (bors os)) os outs = some ρ2 ∧ Q r ρ2
end
section
variable {K : PySem.W.Frag} {G : Cd} {σ : L2.St} {H F : Hp} {ρ : SL}
/-- where the arguments that are lent stand -/
def bOf' (σ : L2.St) (os : List AOp) (j : Nat) : Option Addr := match os[j]? with
  | some (.bor i) => match σ[i]? with
    | some (some (.ref p)) => some p
    | _ => none
  | _ => none
theorem mkArgs_get : ∀ {os : List AOp} {j : Nat} {sl : SL}, mkArgs ρ j os = some sl → sl.length = os.length ∧ ∀ (k : Nat) (s : Sl), sl[k]? = some s →
    (∃ d, os[k]? = some (.val d) ∧ s = .sh d) ∨ ∃ i s' c, os[k]? = some (.bor i) ∧ ρ[i]? = some s' ∧ s'.cn = some c ∧ s = .bw (j + k) c
  | [], j, sl, h => by
    cases h
    exact ⟨rfl, fun k s e => by simp at e⟩
  | .val d :: r, j, sl, h => by
    unfold mkArgs at h
    cases q : mkArgs ρ (j + 1) r with
    | none => rw [q] at h; cases h
    | some l =>
      rw [q] at h
      cases h
      obtain ⟨h1, h2⟩ := mkArgs_get q
      refine ⟨by rw [List.length_cons, List.length_cons, h1], fun k s e => ?_⟩
      cases k with
      | zero => cases e; exact .inl ⟨d, rfl, rfl⟩
      | succ k =>
        rcases h2 k s e with z | ⟨i, s', c, z1, z2, z3, z4⟩
        · exact .inl z
        · exact .inr ⟨i, s', c, z1, z2, z3, by rw [z4]; congr 1; omega⟩
  | .bor i :: r, j, sl, h => by
    unfold mkArgs at h
    cases q0 : ρ[i]? with
    | none => rw [q0] at h; cases h
    | some s' =>
      rw [q0] at h
      cases q1 : s'.cn with
      | none => simp only [q1] at h; cases h
      | some c =>
        simp only [q1] at h
        cases q : mkArgs ρ (j + 1) r with
        | none => rw [q] at h; cases h
        | some l =>
          rw [q] at h
          cases h
          obtain ⟨h1, h2⟩ := mkArgs_get q
          refine ⟨by rw [List.length_cons, List.length_cons, h1], fun k s e => ?_⟩
          cases k with
          | zero => cases e; exact .inr ⟨i, s', c, rfl, q0, q1, rfl⟩
          | succ k =>
            rcases h2 k s e with z | ⟨i2, s2, c2, z1, z2, z3, z4⟩
            · exact .inl z
            · exact .inr ⟨i2, s2, c2, z1, z2, z3, by rw [z4]; congr 1; omega⟩
theorem ADens.get {vs : List V} {os : List AOp} (h : ADens K F σ vs os) : vs.length = os.length ∧ ∀ (k : Nat) (o : AOp), os[k]? = some o → ∃ v, vs[k]? = some v ∧ ADen K F σ v o := by
  induction h with
  | nil => exact ⟨rfl, fun k o e => by simp at e⟩
  | @cons v vs o os a b ih =>
    refine ⟨by rw [List.length_cons, List.length_cons, ih.1], fun k o' e => ?_⟩
    cases k with
    | zero => cases e; exact ⟨v, rfl, a⟩
    | succ k => exact ih.2 k o' e
theorem mem_bors : ∀ {os : List AOp} {k i : Nat}, os[k]? = some (.bor i) → i ∈ bors os
  | [], k, i, h => by simp at h
  | .val d :: r, 0, i, h => by cases h
  | .val d :: r, k + 1, i, h => mem_bors (os := r) h
  | .bor j :: r, 0, i, h => by cases h; exact List.mem_cons_self
  | .bor j :: r, k + 1, i, h => List.mem_cons_of_mem _ (mem_bors (os := r) h)
theorem bors_get : ∀ {os : List AOp} {i : Nat}, i ∈ bors os → ∃ k : Nat, os[k]? = some (.bor i)
  | [], i, h => by simp [bors] at h
  | .val d :: r, i, h => by
    obtain ⟨k, e⟩ := bors_get (os := r) h
    exact ⟨k + 1, e⟩
  | .bor j :: r, i, h => by
    rcases List.mem_cons.mp h with rfl | h
    · exact ⟨0, rfl⟩
    · obtain ⟨k, e⟩ := bors_get (os := r) h
      exact ⟨k + 1, e⟩
theorem bors_inj : ∀ {os : List AOp} {k l i : Nat}, (bors os).Nodup → os[k]? = some (.bor i) → os[l]? = some (.bor i) → k = l
  | [], k, l, i, _, h, _ => by simp at h
  | .val d :: r, k, l, i, hn, h1, h2 => by
    cases k with
    | zero => cases h1
    | succ k =>
      cases l with
      | zero => cases h2
      | succ l => rw [bors_inj (os := r) hn h1 h2]
  | .bor j :: r, k, l, i, hn, h1, h2 => by
    have hn' := List.nodup_cons.mp hn
    cases k with
    | zero =>
      cases h1
      cases l with
      | zero => rfl
      | succ l => exact (hn'.1 (mem_bors (os := r) h2)).elim
    | succ k =>
      cases l with
      | zero => cases h2; exact (hn'.1 (mem_bors (os := r) h1)).elim
      | succ l => rw [bors_inj (os := r) hn'.2 h1 h2]
theorem Rep.toCall (R : Rep K G σ H F ρ) {vs : List V} {os : List AOp} {sl : SL} (h : ADens K F σ vs os) (hm : mkArgs ρ 0 os = some sl) (hn : (bors os).Nodup) :
    Rep K ⟨bOf' σ os, fun _ => False, H, F⟩ (vs.map some) H F sl := by
  obtain ⟨l1, g1⟩ := mkArgs_get hm
  obtain ⟨l2, g2⟩ := h.get
  have bw : ∀ (k j : Nat) (c : Cn), sl[k]? = some (.bw j c) → ∃ i s' p, j = k ∧ os[k]? = some (.bor i) ∧ ρ[i]? = some s' ∧ s'.cn = some c ∧ σ[i]? = some (some (.ref p)) ∧ (vs.map some)[k]? = some (some (.ref p)) ∧ Has K F H p c ∧ F p = none ∧ bOf' σ os k = some p := by
    intro k j c e
    rcases g1 k _ e with ⟨d, _, z⟩ | ⟨i, s', c', z1, z2, z3, z4⟩
    · cases z
    · cases z4
      obtain ⟨p, a1, a2, a3⟩ := R.owned z2 z3
      obtain ⟨v, e1, e2⟩ := g2 k _ z1
      have e2' : σ[i]? = some (some v) := e2
      rw [a1] at e2'; cases e2'
      refine ⟨i, s', p, by omega, z1, z2, z3, a1, by rw [List.getElem?_map, e1]; rfl, a2, a3, ?_⟩
      simp only [bOf', z1, a1]
  refine ⟨by rw [List.length_map, l1, l2], R.ext, fun k d e => ?_, fun k c e => ?_, fun k j c e => ?_, fun k l s t c c' p e1 e2 h1 h2 h3 h4 => ?_, Same.refl F, fun a o e => .inl e, fun a o e _ _ => e, fun a o e => ⟨o, e⟩, fun j p e => ?_, fun _ _ z => z.elim, ?_⟩
  · rcases g1 k _ e with ⟨d', z1, z⟩ | ⟨i, s', c', z1, z2, z3, z4⟩
    · cases z
      obtain ⟨v, e1, e2⟩ := g2 k _ z1
      exact ⟨v, by rw [List.getElem?_map, e1]; rfl, e2⟩
    · cases z4
  · rcases g1 k _ e with ⟨d', z1, z⟩ | ⟨i, s', c', z1, z2, z3, z4⟩
    · cases z
    · cases z4
  · obtain ⟨i, s', p, rfl, _, _, _, _, e1, e2, e3, e4⟩ := bw k j c e
    exact ⟨p, e1, e2, e3, e4⟩
  · have own : ∀ (k : Nat) (s : Sl) (c : Cn), sl[k]? = some s → s.cn = some c → ∃ j, s = .bw j c := fun k s c e h => by
      rcases g1 k _ e with ⟨d', z1, z⟩ | ⟨i, s', c', z1, z2, z3, z4⟩
      · subst z; cases h
      · subst z4; cases h; exact ⟨_, rfl⟩
    obtain ⟨j1, rfl⟩ := own k s c e1 h1
    obtain ⟨j2, rfl⟩ := own l t c' e2 h2
    obtain ⟨i1, s1, p1, _, o1, r1, c1, σ1, v1, _⟩ := bw k j1 c e1
    obtain ⟨i2, s2, p2, _, o2, r2, c2, σ2, v2, _⟩ := bw l j2 c' e2
    rw [h3] at v1; cases v1
    rw [h4] at v2; cases v2
    have := R.sep i1 i2 s1 s2 c c' p r1 r2 c1 c2 σ1 σ2
    subst this
    exact bors_inj hn o1 o2
  · have e' : bOf' σ os j = some p := e
    unfold bOf' at e'
    split at e'
    · rename_i i hi
      split at e'
      · rename_i q hq
        cases e'
        -- the slot is owned
        have hj : j < os.length := (List.getElem?_eq_some_iff.mp hi).1
        rw [← l1] at hj
        rcases g1 j _ (List.getElem?_eq_getElem hj) with ⟨d', z1, z⟩ | ⟨i', s', c', z1, z2, z3, z4⟩
        · rw [hi] at z1; cases z1
        · rw [hi] at z1; cases z1
          obtain ⟨p', a1, a2, a3⟩ := R.owned z2 z3
          rw [hq] at a1; cases a1
          exact a2.ex
      · cases e'
    · cases e'
  · have no : ∀ (i : Nat) (hs : List (Addr × Cn)), sl[i]? ≠ some (.pl hs) := fun i hs e => by
      rcases g1 i _ e with ⟨d', z1, z⟩ | ⟨i', s', c', z1, z2, z3, z4⟩
      · cases z
      · cases z4
    exact ⟨fun i hs e => (no i hs e).elim, fun i hs p c e => (no i hs e).elim, fun i hs p c e => (no i hs e).elim, fun i j hs hs' p c c' e => (no i hs e).elim⟩
/-- behind the call, what was not lent -/
theorem Rep.behind (R : Rep K G σ H F ρ) {vs : List V} {os : List AOp} {σ' : L2.St} {H' F' : Hp} {sl outs : SL} (hd : ADens K F σ vs os) (hm : mkArgs ρ 0 os = some sl) (R' : Rep K ⟨bOf' σ os, fun _ => False, H, F⟩ σ' H' F' outs) : Rep K G σ H' F' (wipeD ρ (bors os)) := by
  have lt : ∀ (j : Nat) (p : Addr), bOf' σ os j = some p → ∃ i s c, i ∈ bors os ∧ ρ[i]? = some s ∧ s.cn = some c ∧ σ[i]? = some (some (.ref p)) := by
    intro j p e
    unfold bOf' at e
    split at e
    · rename_i i hi
      split at e
      · rename_i q hq
        cases e
        obtain ⟨l1, g1⟩ := mkArgs_get hm
        have hj : j < os.length := (List.getElem?_eq_some_iff.mp hi).1
        rw [← l1] at hj
        rcases g1 j _ (List.getElem?_eq_getElem hj) with ⟨d', z1, z⟩ | ⟨i', s', c', z1, z2, z3, z4⟩
        · rw [hi] at z1; cases z1
        · rw [hi] at z1; cases z1
          exact ⟨i, s', c', mem_bors hi, z2, z3, hq⟩
      · cases e
    · cases e
  have nb : ∀ (i : Nat) (s : Sl) (c : Cn) (p : Addr), ρ[i]? = some s → s.cn = some c → σ[i]? = some (some (.ref p)) → i ∉ bors os → ∀ j, bOf' σ os j ≠ some p := by
    intro i s c p e1 e2 e3 hi j e
    obtain ⟨i2, s2, c2, m, a1, a2, a3⟩ := lt j p e
    have := R.sep i i2 s s2 c c2 p e1 a1 e2 a2 e3 a3
    subst this
    exact hi m
  have kp : ∀ (i : Nat) (s : Sl) (c : Cn) (p : Addr), ρ[i]? = some s → s.cn = some c → σ[i]? = some (some (.ref p)) → i ∉ bors os → Has K F H p c → F p = none → Has K F' H' p c ∧ F' p = none := by
    intro i s c p e1 e2 e3 hi hh hF
    obtain ⟨o, ho⟩ := hh.ex
    have k1 := R'.keep p o ho (fun z => z) (nb i s c p e1 e2 e3 hi)
    refine ⟨(hh.mono R'.fr0).at (k1.trans ho.symm), ?_⟩
    cases q : F' p with
    | none => rfl
    | some u =>
      rcases R'.new p u q with z | z | z
      · have z' : F p = some u := z
        rw [hF] at z'; cases z'
      · have z' : H p = none := z
        rw [ho] at z'; cases z'
      · exact (show False from z).elim
  refine ⟨by rw [wipeD_length]; exact R.len, R'.ext, fun i d e => ?_, fun i c e => ?_, fun i j c e => ?_, fun i j s t c c' p e1 e2 h1 h2 h3 h4 => ?_, R.fr0.trans R'.fr0, fun a o e => ?_, fun a o e nl nb2 => ?_, fun a o e => ?_, R.bd, R.lb, R.pl.to (fun i hs e => ?_) (fun j s c' q e1 e2 e3 => ?_) fun i hs p c e m a b d => ?_⟩
  · rcases wipeD_get e with z | ⟨z, w⟩
    · cases z
    · obtain ⟨v, a, b⟩ := R.sh i d z; exact ⟨v, a, b.mono R'.fr0⟩
  · rcases wipeD_get e with z | ⟨z, w⟩
    · cases z
    · obtain ⟨p, a, b, e2, e3⟩ := R.ow i c z
      obtain ⟨k1, k2⟩ := kp i _ c p z rfl a w b e2
      exact ⟨p, a, k1, k2, e3⟩
  · rcases wipeD_get e with z | ⟨z, w⟩
    · cases z
    · obtain ⟨p, a, b, e2, e3⟩ := R.bw i j c z
      obtain ⟨k1, k2⟩ := kp i _ c p z rfl a w b e2
      exact ⟨p, a, k1, k2, e3⟩
  · rcases wipeD_get e1 with z | ⟨z, _⟩
    · subst z; cases h1
    · rcases wipeD_get e2 with z2 | ⟨z2, _⟩
      · subst z2; cases h2
      · exact R.sep i j s t c c' p z z2 h1 h2 h3 h4
  · rcases R'.new a o e with z | z | z
    · exact R.new a o z
    · exact .inr (.inl (R.fresh z).2)
    · exact (show False from z).elim
  · refine R'.keep a o (R.keep a o e nl nb2) (fun z => z) fun j z => ?_
    obtain ⟨i2, s2, c2, m, a1, a2, a3⟩ := lt j a z
    cases s2 with
    | un => cases a2
    | pl _ => cases a2
    | sh d => cases a2
    | ow c3 =>
      obtain ⟨q, b1, _, _, b4⟩ := R.ow i2 c3 a1
      rw [a3] at b1; cases b1
      rcases b4 with b4 | b4
      · rw [e] at b4; cases b4
      · exact nl b4
    | bw k c3 =>
      obtain ⟨q, b1, _, _, b4⟩ := R.bw i2 k c3 a1
      rw [a3] at b1; cases b1
      exact nb2 k b4
  · obtain ⟨o', k1⟩ := R.dom a o e
    exact R'.dom a o' k1
  · rcases wipeD_get e with z | ⟨z, _⟩
    · cases z
    · exact z
  · rcases wipeD_get e1 with z | ⟨z, _⟩
    · subst z; cases e2
    · exact .inl ⟨s, c', z, e2, e3⟩
  · have e' : ρ[i]? = some (.pl hs) := by
      rcases wipeD_get e with z | ⟨z, _⟩
      · cases z
      · exact z
    obtain ⟨o, ho⟩ := a.ex
    have k1 := R'.keep p o ho (fun z => z) fun j z => by
      obtain ⟨i2, s2, c2, _, a1, a2, a3⟩ := lt j p z
      exact R.pl.own i hs p c e' m i2 s2 c2 a1 a2 a3
    refine ⟨(a.mono R'.fr0).at (k1.trans ho.symm), ?_, d⟩
    cases q : F' p with
    | none => rfl
    | some u =>
      rcases R'.new p u q with z | z | z
      · have z' : F p = some u := z
        rw [b] at z'; cases z'
      · have z' : H p = none := z
        rw [ho] at z'; cases z'
      · exact (show False from z).elim
theorem Rep.give {H' F' : Hp} {ρ' : SL} {i : Nat} {s : Sl} {c0 c : Cn} {p : Addr} (R : Rep K G σ H F ρ) (R' : Rep K G σ H' F' ρ') (hs : ρ[i]? = some s) (hc : s.cn = some c0) (hp : σ[i]? = some (some (.ref p))) (hh : Has K F' H' p c) (hF : F' p = none)
    (hn : Lone σ ρ' p) : Rep K G σ H' F' (ρ'.set i (s.with c)) where
  len := by rw [List.length_set]; exact R'.len
  ext := R'.ext
  sh := fun j d e => by
    rcases set_get e with ⟨_, q⟩ | ⟨_, q⟩
    · have q2 := congrArg Sl.cn q
      rw [Sl.with_cn hc] at q2; cases q2
    · exact R'.sh j d q
  ow := fun j c1 e => by
    rcases set_get e with ⟨rfl, q⟩ | ⟨_, q⟩
    · cases s with
      | un => cases hc
      | pl _ => cases hc
      | sh d => cases hc
      | bw k c2 => exact nomatch (show Sl.ow c1 = Sl.bw k c from q)
      | ow c2 =>
        have q : Sl.ow c1 = Sl.ow c := q
        cases q
        obtain ⟨q, a1, _, _, a4⟩ := R.ow j c2 hs
        rw [hp] at a1; cases a1
        exact ⟨p, hp, hh, hF, a4⟩
    · exact R'.ow j c1 q
  bw := fun j k c1 e => by
    rcases set_get e with ⟨rfl, q⟩ | ⟨_, q⟩
    · cases s with
      | un => cases hc
      | pl _ => cases hc
      | sh d => cases hc
      | ow c2 => exact nomatch (show Sl.bw k c1 = Sl.ow c from q)
      | bw k2 c2 =>
        have q : Sl.bw k c1 = Sl.bw k2 c := q
        cases q
        obtain ⟨q, a1, _, _, a4⟩ := R.bw j k c2 hs
        rw [hp] at a1; cases a1
        exact ⟨p, hp, hh, hF, a4⟩
    · exact R'.bw j k c1 q
  sep := fun j k t u c1 c2 q e1 e2 h1 h2 h3 h4 => by
    rcases set_get e1 with ⟨rfl, q1⟩ | ⟨ne, q1⟩
    · rcases set_get e2 with ⟨rfl, q2⟩ | ⟨ne2, q2⟩
      · rfl
      · rw [hp] at h3; cases h3
        exact absurd h4 (hn.1 k u c2 q2 h2)
    · rcases set_get e2 with ⟨rfl, q2⟩ | ⟨ne2, q2⟩
      · rw [hp] at h4; cases h4
        exact absurd h3 (hn.1 j t c1 q1 h1)
      · exact R'.sep j k t u c1 c2 q q1 q2 h1 h2 h3 h4
  fr0 := R'.fr0
  new := R'.new
  keep := R'.keep
  dom := R'.dom
  bd := R'.bd
  lb := R'.lb
  pl := R'.pl.to (fun j hs e => by
    rcases set_get e with ⟨_, q⟩ | ⟨_, q⟩
    · have q2 := congrArg Sl.cn q
      rw [Sl.with_cn hc] at q2; cases q2
    · exact q) (fun j t c' q e1 e2 e3 => by
    rcases set_get e1 with ⟨rfl, q1⟩ | ⟨ne, q1⟩
    · rw [hp] at e3; cases e3
      exact .inr fun i2 hs c2 e4 => hn.2 i2 hs c2 e4
    · exact .inl ⟨t, c', q1, e2, e3⟩) fun i hs q c e m a b d => ⟨a, b, d⟩
theorem Rep.gives (R : Rep K G σ H F ρ) {H' F' : Hp} {σ' : L2.St} {oouts : SL} {b : Nat → Option Addr} (RC : Rep K ⟨b, fun _ => False, H, F⟩ σ' H' F' oouts) :
    ∀ {os : List AOp} {outs : SL} {j : Nat} {ρ' ρ2 : SL}, giveB ρ j ρ' os outs = some ρ2 → (∀ (k : Nat) (s : Sl), outs[k]? = some s → oouts[j + k]? = some s) → (∀ (k i : Nat) (p : Addr), os[k]? = some (.bor i) → b (j + k) = some p → σ[i]? = some (some (.ref p))) →
      (∀ (k i : Nat), os[k]? = some (.bor i) → ∃ s c, ρ[i]? = some s ∧ s.cn = some c) → (bors os).Nodup → Rep K G σ H' F' ρ' → (∀ (k : Nat) (s : Sl) (c : Cn), ρ'[k]? = some s → s.cn = some c → k ∉ bors os ∧ ∃ s0 c0, ρ[k]? = some s0 ∧ s0.cn = some c0) → (∀ (k : Nat) (hs : List (Addr × Cn)), ρ'[k]? = some (.pl hs) → ρ[k]? = some (.pl hs)) →
      Rep K G σ H' F' ρ2
  | [], outs, j, ρ', ρ2, h, _, _, _, _, R', _, _ => by
    unfold giveB at h
    cases h; exact R'
  | .val d :: os, [], j, ρ', ρ2, h, _, _, _, _, _, _, _ => by simp [giveB] at h
  | .val d :: os, o :: outs, j, ρ', ρ2, h, ho, hb, hs, hn, R', hk, hq => by
    unfold giveB at h
    refine Rep.gives R RC (j := j + 1) h (fun k s e => by have := ho (k + 1) s e; rw [show j + (k + 1) = j + 1 + k by omega] at this; exact this) (fun k i p e1 e2 => hb (k + 1) i p e1 (by rw [show j + (k + 1) = j + 1 + k by omega]; exact e2)) (fun k i e => hs (k + 1) i e) hn R' hk hq
  | .bor i :: os, [], j, ρ', ρ2, h, _, _, _, _, _, _, _ => by simp [giveB] at h
  | .bor i :: os, .un :: outs, j, ρ', ρ2, h, _, _, _, _, _, _, _ => by simp [giveB] at h
  | .bor i :: os, .sh _ :: outs, j, ρ', ρ2, h, _, _, _, _, _, _, _ => by simp [giveB] at h
  | .bor i :: os, .ow _ :: outs, j, ρ', ρ2, h, _, _, _, _, _, _, _ => by simp [giveB] at h
  | .bor i :: os, .pl _ :: outs, j, ρ', ρ2, h, _, _, _, _, _, _, _ => by simp [giveB] at h
  | .bor i :: os, .bw k c :: outs, j, ρ', ρ2, h, ho, hb, hs, hn, R', hk, hq => by
    unfold giveB at h
    by_cases hkj : k = j
    · subst hkj
      rw [if_pos rfl] at h
      obtain ⟨s, c0, e1, e2⟩ := hs 0 i rfl
      rw [e1] at h
      have eo := ho 0 _ rfl
      obtain ⟨p, a1, a2, a3, a4⟩ := RC.bw (k + 0) k c eo
      have a4' : b (k + 0) = some p := a4
      have hp := hb 0 i p rfl a4'
      have hn' := List.nodup_cons.mp hn
      have R2 := R.give (c := c) R' e1 e2 hp a2 a3 ⟨fun l t c1 e3 e4 e5 => by
        obtain ⟨m1, s0, c2, e6, e7⟩ := hk l t c1 e3 e4
        have := R.sep l i s0 s c2 c0 p e6 e1 e7 e2 e5 hp
        subst this
        exact m1 List.mem_cons_self, fun l hs2 c2 e3 m => R.pl.own l hs2 p c2 (hq l hs2 e3) m i s c0 e1 e2 hp⟩
      refine Rep.gives R RC (j := k + 1) h (fun l s e => by have := ho (l + 1) s e; rw [show k + (l + 1) = k + 1 + l by omega] at this; exact this) (fun l i p e1 e2 => hb (l + 1) i p e1 (by rw [show k + (l + 1) = k + 1 + l by omega]; exact e2)) (fun l i e => hs (l + 1) i e) hn'.2 R2 (fun l t c1 e3 e4 => ?_) fun l hs2 e3 => ?_
      · rcases set_get e3 with ⟨rfl, q⟩ | ⟨ne, q⟩
        · exact ⟨hn'.1, s, c0, e1, e2⟩
        · obtain ⟨m1, m2⟩ := hk l t c1 q e4
          exact ⟨fun z => m1 (List.mem_cons_of_mem _ z), m2⟩
      · rcases set_get e3 with ⟨_, q⟩ | ⟨_, q⟩
        · have q2 := congrArg Sl.cn q
          rw [Sl.with_cn e2] at q2; cases q2
        · exact hq l hs2 q
    · rw [if_neg hkj] at h; cases h
theorem giveB_owned : ∀ {os : List AOp} {outs : SL} {j : Nat} {ρ' ρ2 : SL}, giveB ρ j ρ' os outs = some ρ2 → ∀ (k : Nat) (s : Sl) (c : Cn), ρ2[k]? = some s → s.cn = some c → (∃ c', ρ'[k]? = some s ∨ (∃ s0, ρ[k]? = some s0 ∧ s = s0.with c')) 
  | [], outs, j, ρ', ρ2, h, k, s, c, e, hc => by
    unfold giveB at h
    cases h; exact ⟨c, .inl e⟩
  | .val d :: os, [], j, ρ', ρ2, h, _, _, _, _, _ => by simp [giveB] at h
  | .val d :: os, o :: outs, j, ρ', ρ2, h, k, s, c, e, hc => by
    unfold giveB at h
    exact giveB_owned h k s c e hc
  | .bor i :: os, [], j, ρ', ρ2, h, _, _, _, _, _ => by simp [giveB] at h
  | .bor i :: os, .un :: outs, j, ρ', ρ2, h, _, _, _, _, _ => by simp [giveB] at h
  | .bor i :: os, .sh _ :: outs, j, ρ', ρ2, h, _, _, _, _, _ => by simp [giveB] at h
  | .bor i :: os, .ow _ :: outs, j, ρ', ρ2, h, _, _, _, _, _ => by simp [giveB] at h
  | .bor i :: os, .pl _ :: outs, j, ρ', ρ2, h, _, _, _, _, _ => by simp [giveB] at h
  | .bor i :: os, .bw l c1 :: outs, j, ρ', ρ2, h, k, s, c, e, hc => by
    unfold giveB at h
    by_cases hkj : l = j
    · rw [if_pos hkj] at h
      cases q : ρ[i]? with
      | none => rw [q] at h; cases h
      | some s0 =>
        rw [q] at h
        obtain ⟨c', z | z⟩ := giveB_owned h k s c e hc
        · rcases set_get z with ⟨rfl, w⟩ | ⟨ne, w⟩
          · exact ⟨c1, .inr ⟨s0, q, w⟩⟩
          · exact ⟨c, .inl w⟩
        · exact ⟨c', .inr z⟩
    · rw [if_neg hkj] at h; cases h
theorem giveB_pl : ∀ {os : List AOp} {outs : SL} {j : Nat} {ρ' ρ2 : SL}, giveB ρ j ρ' os outs = some ρ2 → (∀ i, i ∈ bors os → ∃ s c, ρ[i]? = some s ∧ s.cn = some c) → ∀ (k : Nat) (hs : List (Addr × Cn)), ρ2[k]? = some (.pl hs) → ρ'[k]? = some (.pl hs)
  | [], outs, j, ρ', ρ2, h, _, k, hs, e => by
    unfold giveB at h
    cases h; exact e
  | .val d :: os, [], j, ρ', ρ2, h, _, _, _, _ => by simp [giveB] at h
  | .val d :: os, o :: outs, j, ρ', ρ2, h, hb, k, hs, e => by
    unfold giveB at h
    exact giveB_pl (os := os) h hb k hs e
  | .bor i :: os, [], j, ρ', ρ2, h, _, _, _, _ => by simp [giveB] at h
  | .bor i :: os, .un :: outs, j, ρ', ρ2, h, _, _, _, _ => by simp [giveB] at h
  | .bor i :: os, .sh _ :: outs, j, ρ', ρ2, h, _, _, _, _ => by simp [giveB] at h
  | .bor i :: os, .ow _ :: outs, j, ρ', ρ2, h, _, _, _, _ => by simp [giveB] at h
  | .bor i :: os, .pl _ :: outs, j, ρ', ρ2, h, _, _, _, _ => by simp [giveB] at h
  | .bor i :: os, .bw l c1 :: outs, j, ρ', ρ2, h, hb, k, hs, e => by
    unfold giveB at h
    by_cases hkj : l = j
    · rw [if_pos hkj] at h
      obtain ⟨s0, c0, q, hc⟩ := hb i List.mem_cons_self
      rw [q] at h
      have := giveB_pl (os := os) h (fun i2 m => hb i2 (List.mem_cons_of_mem _ m)) k hs e
      rcases set_get this with ⟨_, w⟩ | ⟨_, w⟩
      · have q2 := congrArg Sl.cn w
        rw [Sl.with_cn hc] at q2; cases q2
      · exact w
    · rw [if_neg hkj] at h; cases h
theorem Sl.cn_with {s : Sl} {c c' : Cn} (h : (s.with c').cn = some c) : ∃ c0, s.cn = some c0 := by
  cases s with
  | un => cases h
  | pl _ => cases h
  | sh d => cases h
  | ow c => exact ⟨_, rfl⟩
  | bw j c => exact ⟨_, rfl⟩
end
section
variable {X : Cx}
/-- a call's reading, whatever calls -/
theorem sem_args {sp : SpD} {vs : List V} {os : List AOp} {G : Cd} {σ : L2.St} {H F : Hp} {ρ : SL} {Q : VK} {E : XK} {Qd : Rv → SL → Prop} (R : Rep X.K G σ H F ρ) (d : ADens X.K F σ vs os)
    (q : ∃ sl, mkArgs ρ 0 os = some sl ∧ (bors os).Nodup ∧ sp sl fun r outs => ∃ ρ2, giveB ρ 0 (wipeD ρ (bors os)) os outs = some ρ2 ∧ Qd r ρ2)
    (k : ∀ r ρ' v H' F', Qd r ρ' → Same F F' → Rep X.K G σ H' F' ρ' → RDen X.K G σ ρ' H' F' v r → Q v H') : lift X.K sp vs H Q E := by
  obtain ⟨sl, hm, hn, q⟩ := q
  refine ⟨bOf' σ os, F, sl, _, R.toCall d hm hn, q, fun r outs σ' v H' F' ⟨ρ2, hb, qd⟩ R' rd => ?_⟩
  have RB := R.behind d hm R'
  have own : ∀ (k i : Nat), os[k]? = some (.bor i) → ∃ s c, ρ[i]? = some s ∧ s.cn = some c := fun k i e => by
    obtain ⟨l1, g1⟩ := mkArgs_get hm
    have hj : k < os.length := (List.getElem?_eq_some_iff.mp e).1
    rw [← l1] at hj
    rcases g1 k _ (List.getElem?_eq_getElem hj) with ⟨d', z1, z⟩ | ⟨i', s', c', z1, z2, z3, z4⟩
    · rw [e] at z1; cases z1
    · rw [e] at z1; cases z1
      exact ⟨s', c', z2, z3⟩
  have R2 := R.gives R' (j := 0) hb (fun k s e => by rw [Nat.zero_add]; exact e) (fun k i p e1 e2 => by
    rw [Nat.zero_add] at e2
    unfold bOf' at e2
    rw [e1] at e2
    simp only at e2
    split at e2
    · rename_i q hq
      cases e2; exact hq
    · cases e2) own hn RB (fun k s c e hc => by
      rcases wipeD_get e with z | ⟨z, w⟩
      · subst z; cases hc
      · exact ⟨w, s, c, z, hc⟩) fun k hs e => by
      rcases wipeD_get e with z | ⟨z, _⟩
      · cases z
      · exact z
  refine k r ρ2 v H' F' qd R'.fr0 R2 ?_
  have lone : ∀ p, H p = none → Lone σ ρ2 p := fun p hpn => by
    refine ⟨fun i s c' e1 e2 e3 => ?_, fun i hs c' e1 m => ?_⟩
    · obtain ⟨c2, z⟩ := giveB_owned hb i s c' e1 e2
      have : ∃ s0 c0, ρ[i]? = some s0 ∧ s0.cn = some c0 := by
        rcases z with z | ⟨s0, z1, z2⟩
        · rcases wipeD_get z with w | ⟨w, _⟩
          · subst w; cases e2
          · exact ⟨s, c', w, e2⟩
        · subst z2
          obtain ⟨c0, h0⟩ := Sl.cn_with e2
          exact ⟨s0, c0, z1, h0⟩
      obtain ⟨s0, c0, z1, z2⟩ := this
      obtain ⟨p', b1, b2, _⟩ := R.owned z1 z2
      rw [e3] at b1; cases b1
      obtain ⟨o, ho⟩ := b2.ex
      rw [hpn] at ho; cases ho
    · have e2 := giveB_pl hb (fun i2 m2 => by
        obtain ⟨k2, ek⟩ := bors_get m2
        exact own k2 i2 ek) i hs e1
      rcases wipeD_get e2 with z | ⟨z, _⟩
      · cases z
      · obtain ⟨a, _⟩ := R.pl.has i hs p c' z m
        obtain ⟨o, ho⟩ := a.ex
        rw [hpn] at ho; cases ho
  have fresh : ∀ p, (H p = none ∨ False) → H p = none := fun p z => z.elim id False.elim
  cases r with
  | v d => exact rd
  | fr c =>
    obtain ⟨p, e, a1, a2, a3, a4⟩ := rd
    have hpn := fresh p a3
    exact ⟨p, e, a1, a2, .inl (R.fresh hpn).2, lone p hpn⟩
  | pt d hs =>
    obtain ⟨g1, g2, g3⟩ := rd
    refine ⟨g1, g2, fun p c m => ?_⟩
    obtain ⟨a1, a2, a3, _⟩ := g3 p c m
    have hpn := fresh p a3
    exact ⟨a1, a2, .inl (R.fresh hpn).2, lone p hpn⟩
/-- a def's promise, kept where no repr is under way -/
structure FnG (P : Program) (w : World) (K : PySem.W.Frag) (mg : Str → Option Value) (base : Heap) (CX : CXT) (k : Nat) (f : Addr) (fd : FuncData) (ps : List Str) (sp : Sp) : Prop where
  len : ∀ vs H Q E, sp vs H Q E → vs.length = ps.length
  run : ∀ (A : Around) (outer : List Env) (s : Shared) (H : Hp) (args : Args) (us : List Value) (vs : List V) (Q : VK) (E : XK), A.guards = some [] → Room k A → Env0 P w K mg base A outer s H → BindsTo s fd args (ps.zip us) →
    Vals vs us → sp vs H Q E → codeAny (model P w) A (.call (.ref f) args) (CR CX outer P w H s Q E) s
theorem FnG.call {CX : CXT} {k : Nat} {f : Addr} {fd : FuncData} {ps : List Str} {sp : Sp} {E : XK} {pins : List (Addr × Obj)} {σ : L2.St} {H : Hp} {s : Shared} {Q : VK} {us : List Value} {vs : List V}
    (h : FnG X.prog X.w X.K X.mg X.base CX k f fd ps sp) (hgd : X.A.guards = some []) (hr : Room k X.A) (hb : Binds X.K fd ps []) (hx : Passes CX X E) (I : Inv X pins σ H s) (r : Vals vs us) (q : sp vs H Q E) :
    wpAny (model X.prog X.w) X.A (PySem.call (.ref f) us) (EP X pins σ Q) X.xe s := by
  have hl : (us ++ []).length = ps.length := by rw [List.append_nil, ← r.length]; exact h.len _ _ _ _ q
  have bt := hb s us I.kIn hl
  rw [List.append_nil] at bt
  have c := h.run X.A X.stack s H ⟨us, []⟩ us vs Q E hgd hr I.env0 bt r q
  refine wpAny_call (codeAny_mono c fun res s' hq => ?_)
  match res, hq with
  | .error e, hq => exact hx pins σ H s e s' I hq
  | .ok (.ret u), hq => exact I.after hq
  | .ok .next, hq => exact False.elim hq
  | .ok .brk, hq => exact False.elim hq
  | .ok .cont, hq => exact False.elim hq
theorem pe_callG {CX : CXT} {k : Nat} {f : Addr} {fd : FuncData} {ps : List Str} {sp : Sp} {x : Str} {p pos : Pos} {e : Expr} {es : List Expr} {ta : TA} {E : XK} (h : FnG X.prog X.w X.K X.mg X.base CX k f fd ps sp) (hgd : X.A.guards = some []) (hr : Room k X.A)
    (hg : Gl X x) (hm : X.mg x = some (.ref f)) (hk : PySem.W.keepIn X.K (.ref f) = true) (hb : Binds X.K fd ps []) (hx : Passes CX X E) (ha : PA X (e :: es) ta) (hdb : (x == ("__debug__" : Str)) = false := by decide)
    (he : starEach (e :: es) X.env = (false, eval e X.env) :: starEach es X.env := by rfl) (hpl : (backTo pos (starEach es X.env)).any (·.1) = false := by rfl) : PE X (.Call (.Name x p) (e :: es) [] pos) (tCall sp [] E ta) :=
  ⟨fun pins s σ H Q I q => wpAny_Call_Name_kw (ld_glob I hg hm (PySem.W.callWith_K (h₀ := X.base) I.ok.mod.kin hk (thn (ha.run pos pins s σ H _ I q) fun us s1 ⟨vs, H1, I1, r, q1⟩ =>
    ⟨I1.kIn, h.call hgd hr hb hx I1 r (by have q2 : sp (vs ++ []) H1 Q E := q1; rw [List.append_nil] at q2; exact q2)⟩) he hpl) hdb)⟩
theorem de_call {CX : CXT} {k : Nat} {f : Addr} {fd : FuncData} {ps : List Str} {sp : SpD} {x : Str} {p pos : Pos} {e : Expr} {es : List Expr} {ta : TA} {t : TAg} {E : XK} (Fk : FnG X.prog X.w X.K X.mg X.base CX k f fd ps (lift X.K sp)) (hgd : X.A.guards = some []) (hr : Room k X.A)
    (hg : Gl X x) (hm : X.mg x = some (.ref f)) (hk : PySem.W.keepIn X.K (.ref f) = true) (hb : Binds X.K fd ps []) (hx : Passes CX X E) (ha : DAg X (e :: es) ta t) (hdb : (x == ("__debug__" : Str)) = false := by decide)
    (he : starEach (e :: es) X.env = (false, eval e X.env) :: starEach es X.env := by rfl) (hpl : (backTo pos (starEach es X.env)).any (·.1) = false := by rfl) : DE X (.Call (.Name x p) (e :: es) [] pos) (tCall (lift X.K sp) [] E ta) (dCall sp t) :=
  ⟨pe_callG Fk hgd hr hg hm hk hb hx ha.pe hdb he hpl, fun R q kk => ha.sem R q fun os ρ1 vs H1 F1 q1 s1 R1 d1 => by
    rw [List.append_nil]
    exact sem_args R1 d1 q1 fun r ρ' v H' F' qd s2 R2 rd => kk _ _ _ _ _ qd (s1.trans s2) R2 rd⟩
end
/-! ### a def's body keeps its promise -/
def clean : SL → SL := List.map fun s => match s with
  | .bw j c => .bw j c
  | _ => .un
theorem clean_get {ρ : SL} {i : Nat} {s : Sl} (h : (clean ρ)[i]? = some s) : s = .un ∨ ρ[i]? = some s := by
  unfold clean at h
  rw [List.getElem?_map] at h
  cases q : ρ[i]? with
  | none => rw [q] at h; cases h
  | some t =>
    rw [q] at h
    cases t with
    | bw j c => cases h; exact .inr rfl
    | pl _ => cases h; exact .inl rfl
    | un => cases h; exact .inl rfl
    | sh d => cases h; exact .inl rfl
    | ow c => cases h; exact .inl rfl
open PySem.Spec PyProof.Rows in
theorem fnG_of {P : Program} {w : World} {K : PySem.W.Frag} {mg : Str → Option Value} {base : Heap} {x qual : Str} {st : Stmt} {f : Addr} {fd : FuncData} {N ps : List Str} {k : Nat} {sp : Sp} {CX : CXT} (Fn : Fun K x qual st f fd) (S : FnScope N ps (defScope st))
    (len : ∀ vs H Q E, sp vs H Q E → vs.length = ps.length)
    (hbody : ∀ (cdv : Value) (A : Around) (outer : List Env) (s : Shared) (H : Hp) (vs : List V) (Q : VK) (E : XK), (A.deeper (PyProof.Rows.envOfC qual (defScope st) s.heap.objs.size f cdv)).guards = some [] → Room k (A.deeper (PyProof.Rows.envOfC qual (defScope st) s.heap.objs.size f cdv)) → sp vs H Q E →
      ∃ t, PSs (cxOf CX P w K mg base N qual (defScope st) f cdv A outer s H E) (defBody st) t ∧ t { nx := fun _ H' => Q .non H', rt := Q } (L2.start N vs) H) : FnG P w K mg base CX (k + 1) f fd ps sp := by
  obtain ⟨oc, od, kV, doc, pm, an, cdv, ct, osl, rfl, lk, hcd⟩ := Fn.ex
  refine ⟨len, fun A outer s H args us vs Q E hgd hr e0 hb r hsp => ?_⟩
  have old : ∀ b o, base.get? b = some o → s.heap.get? b = some o := fun b o e => (e0.bs b o e).1
  have KX := e0.mod.kin.keeps old
  refine codeAny_call_function hr.depth (KX _ _ lk) rfl S.co S.gen rfl (PySem.W.codeRec_of KX hcd) (hb _ _ _ _ (wpAny_newFunctionEnv_cells S.kind (fun y hy => ?_) fun env he s1 y => ?_))
  · rcases S.par y.1 (List.of_mem_zip hy).1 with q | q
    · exact Or.inl q
    · exact Or.inr ⟨q, PySem.W.cellsFrom_some _ _ _ (Or.inl q)⟩
  · subst he
    have J0 : Inv (cxOf CX P w K mg base N qual (defScope st) f cdv A outer s H E) [] (L2.start N vs) H s1 := inv_start S hr.hd e0 (len _ _ _ _ hsp) r y
    obtain ⟨t, ht, hq⟩ := hbody cdv A outer s H vs Q E hgd (hr.deeper _) hsp
    refine ⟨(e0.mod.nolimit.keeps old).keeps y.toInCall.keep, codeAny_func (wpAny_mono (ht.run [] s1 _ H _ J0 hq) (fun fl s' z => ?_) fun _ _ z => z)⟩
    match fl, z with
    | .ret u, ⟨v, _, H', J, rv, q⟩ => exact ⟨v, H', J.os, J.bare, J.base, J.hok, rv, q⟩
    | .next, ⟨_, H', J, q⟩ => exact ⟨.non, H', J.os, J.bare, J.base, J.hok, rfl, q⟩
    | .brk, ⟨_, _, _, q⟩ => exact False.elim q
    | .cont, ⟨_, _, _, q⟩ => exact False.elim q
theorem fnD {P : Program} {w : World} {K : PySem.W.Frag} {mg : Str → Option Value} {base : Heap} {x qual : Str} {st : Stmt} {f : Addr} {fd : FuncData} {N ps : List Str} {k : Nat} {sp : SpD} (Fn : Fun K x qual st f fd) (S : FnScope N ps (defScope st))
    (len : ∀ as Q, sp as Q → as.length = ps.length)
    (hbody : ∀ (cdv : Value) (A : Around) (outer : List Env) (s : Shared) (H : Hp), (A.deeper (PyProof.Rows.envOfC qual (defScope st) s.heap.objs.size f cdv)).guards = some [] → Room k (A.deeper (PyProof.Rows.envOfC qual (defScope st) s.heap.objs.size f cdv)) →
      ∃ ts t, DSs (cxOf CX0 P w K mg base N qual (defScope st) f cdv A outer s H E0).nox (defBody st) ts t ∧
        ∀ as Q, sp as Q → t { nx := fun ρ' => Q (.v .non) (clean (ρ'.take as.length)), rt := fun r ρ' => Q r (clean (ρ'.take as.length)) } (as ++ List.replicate (N.length - as.length) .un)) : FnG P w K mg base CX0 (k + 1) f fd ps (lift K sp) := by
  have lenV : ∀ vs H Q E, lift K sp vs H Q E → vs.length = ps.length := fun vs H Q E ⟨b, F, as, Qd, R, h, _⟩ => by
    have := R.len
    rw [List.length_map] at this
    rw [← this, len as _ h]
  refine fnG_of Fn S lenV fun cdv A outer s H vs Q E hgd hr h => ?_
  obtain ⟨ts, t, hD, hd⟩ := hbody cdv A outer s H hgd hr
  refine ⟨ts, hD.pe.nox, ?_⟩
  obtain ⟨b, F, as, Qd, R, q, kk⟩ := h
  have hl : as.length = vs.length := by have := R.len; rw [List.length_map] at this; exact this
  have R0 : Rep K ⟨b, fun _ => False, H, F⟩ (L2.start N vs) H F (as ++ List.replicate (N.length - as.length) .un) := by
    have R1 : Rep K ⟨b, fun _ => False, H, F⟩ (L2.start N vs) H F (as ++ List.replicate (N.length - as.length) .un) := by
      have gl : ∀ (i : Nat) (s : Sl), (as ++ List.replicate (N.length - as.length) .un)[i]? = some s → s = .un ∨ (as[i]? = some s ∧ (L2.start N vs)[i]? = (vs.map some)[i]?) := fun i s e => by
        by_cases hi : i < as.length
        · rw [List.getElem?_append_left hi] at e
          refine .inr ⟨e, ?_⟩
          unfold L2.start
          rw [List.getElem?_append_left (by rw [List.length_map, ← hl]; exact hi)]
        · rw [List.getElem?_append_right (Nat.le_of_not_lt hi)] at e
          exact .inl (List.eq_of_mem_replicate (List.mem_of_getElem? e))
      exact R.slots (by unfold L2.start; simp [hl]) gl
    exact R1
  have cl : ∀ {σ' : L2.St} {H' F' : Hp} {ρ' : SL}, Rep K ⟨b, fun _ => False, H, F⟩ σ' H' F' ρ' → Rep K ⟨b, fun _ => False, H, F⟩ (σ'.take as.length) H' F' (clean (ρ'.take as.length)) ∧
      ∀ v r, RDen K ⟨b, fun _ => False, H, F⟩ σ' ρ' H' F' v r → RDen K ⟨b, fun _ => False, H, F⟩ (σ'.take as.length) (clean (ρ'.take as.length)) H' F' v r := fun {σ' H' F' ρ'} R' => by
    have gl : ∀ (i : Nat) (s : Sl), (clean (ρ'.take as.length))[i]? = some s → s = .un ∨ (ρ'[i]? = some s ∧ (σ'.take as.length)[i]? = σ'[i]?) := fun i s e => by
      rcases clean_get e with z | z
      · exact .inl z
      · by_cases hi : i < as.length
        · rw [List.getElem?_take_of_lt hi] at z
          exact .inr ⟨z, List.getElem?_take_of_lt hi⟩
        · rw [List.getElem?_take_eq_none (Nat.le_of_not_lt hi)] at z
          cases z
    exact ⟨R'.slots (by unfold clean; rw [List.length_map, List.length_take, List.length_take, R'.len]) gl, fun v r rd => rd.slots gl⟩
  refine hD.sem R0 (hd as Qd q) ⟨fun σ' H' F' ρ' e R' => ?_, fun σ' H' F' ρ' r v e R' rd => ?_, fun _ _ _ _ e _ => e.elim, fun _ _ _ _ e _ => e.elim, fun _ _ _ _ _ _ _ e _ _ => e.elim, fun _ _ _ _ _ _ _ e _ _ => e.elim⟩
  · exact kk _ _ _ _ _ _ e (cl R').1 .non
  · exact kk _ _ _ _ _ _ e (cl R').1 ((cl R').2 _ _ rd)
end DL

namespace DL
open PySem L2
section
variable {X : Cx}
/-! ### methods that change one's own list -/
def SemMut (K : PySem.W.Frag) (r : V → List V → Hp → VK → Prop) (g : List D → List D → (List D → D → Prop) → Prop) : Prop :=
  ∀ {F H : Hp} {p : Addr} {xs : List V} {l : List D} {vs : List V} {ds : List D} {Q : VK} {Qd : List D → D → Prop}, Same F H → H p = some (.lst xs) → DenL K F xs l → DenL K F vs ds → g l ds Qd →
    (∀ l' d xs' z, Qd l' d → DenL K F xs' l' → Den K F z d → Q z (upd H p (.lst xs'))) → r (.ref p) vs H Q
def slL (ρ : SL) (i : Nat) : Option (Sl × List D) := match ρ[i]? with
  | some s => match s.cn with
    | some (.l xs) => some (s, xs)
    | _ => none
  | none => none
theorem slL_some {ρ : SL} {i : Nat} {s : Sl} {l : List D} (h : slL ρ i = some (s, l)) : ρ[i]? = some s ∧ s.cn = some (.l l) := by
  unfold slL at h
  cases q : ρ[i]? with
  | none => rw [q] at h; cases h
  | some t =>
    rw [q] at h
    cases q2 : t.cn with
    | none => simp only [q2] at h; cases h
    | some c =>
      cases c with
      | l xs => simp only [q2] at h; cases h; exact ⟨rfl, q2⟩
      | d _ => simp only [q2] at h; cases h
      | o _ _ => simp only [q2] at h; cases h
      | k _ _ _ => simp only [q2] at h; cases h
      | x _ _ => simp only [q2] at h; cases h
def dMut (i : Nat) (g : List D → List D → (List D → D → Prop) → Prop) (t : TVs) : TD := fun ρ Q => (slL ρ i).isSome = true ∧ t ρ fun ds ρ1 => match slL ρ1 i with
  | some (s, l) => g l ds fun l' d => Q (.v d) (ρ1.set i (s.with (.l l')))
  | none => False
theorem sem_mut {r : V → List V → Hp → VK → Prop} {g : List D → List D → (List D → D → Prop) → Prop} {i : Nat} {ta : TA} {t : TVs} {T : String} (hT : T = "list") (hg : SemMut X.K r g)
    (ha : ∀ {G : Cd} {σ : L2.St} {H F : Hp} {ρ : SL} {Q : List V → Hp → Prop} {Qd : List D → SL → Prop}, Rep X.K G σ H F ρ → t ρ Qd →
      (∀ ds ρ' vs H' F', Qd ds ρ' → Same F F' → Rep X.K G σ H' F' ρ' → DenL X.K F' vs ds → Q vs H') → ta σ H Q)
    {G : Cd} {σ : L2.St} {H F : Hp} {ρ : SL} {Q : VK} {Qd : Rv → SL → Prop} (R : Rep X.K G σ H F ρ) (q : dMut i g t ρ Qd)
    (k : ∀ r ρ' v H' F', Qd r ρ' → Same F F' → Rep X.K G σ H' F' ρ' → RDen X.K G σ ρ' H' F' v r → Q v H') : tBM X.K T r (tVar i) ta σ H Q := by
  obtain ⟨q0, q1⟩ := q
  obtain ⟨⟨s0, l0⟩, e0⟩ := Option.isSome_iff_exists.mp q0
  obtain ⟨a0, b0⟩ := slL_some e0
  obtain ⟨p, hp, ⟨xs0, hx0, _⟩, _⟩ := R.owned a0 b0
  refine ⟨.ref p, hp, .inl ⟨hT, xs0, .inl (.inl hx0)⟩, ha R q1 fun ds ρ1 vs H1 F1 q2 s1 R1 d1 => ?_⟩
  cases e1 : slL ρ1 i with
  | none => simp only [e1] at q2
  | some sl =>
    obtain ⟨s, l⟩ := sl
    simp only [e1] at q2
    obtain ⟨a1, b1⟩ := slL_some e1
    obtain ⟨p', hp', ⟨xs, hx, dx⟩, _⟩ := R1.owned a1 b1
    rw [hp] at hp'; cases hp'
    refine hg R1.ext hx dx d1 q2 fun l' d xs' z qd d2 dz => ?_
    exact k _ _ _ _ _ qd s1 (R1.write a1 b1 hp ⟨xs', upd_same, d2⟩) dz
theorem de_mut {i : Nat} {x : Str} {px : Pos} {e : Expr} {es : List Expr} {name : Str} {apos cpos : Pos} {id : String} {r : V → List V → Hp → VK → Prop} {g : List D → List D → (List D → D → Prop) → Prop} {ta : TA} {t : TVs}
    (slot : Slot "list" name id) (hty : typeOf (.builtin id) = pure (.type "method_descriptor")) (hm : MtR X id r) (hg : SemMut X.K r g) (ho : PE X (.Name x px) (tVar i)) (ha : DV X (e :: es) ta t)
    (hbase : attributeBase (.Name x px) name X.env (eval (.Name x px) X.env) = eval (.Name x px) X.env := by rfl)
    (hfew : ((backTo cpos (starEach (e :: es) X.env)).all (fun x => !x.1) && (backToKw cpos (keywordEach [] X.env)).all (fun x => x.1.isSome)
      && decide ((e :: es).length + ([] : List Keyword).length + (if ([] : List Keyword).isEmpty then 0 else 1) < 30)) = true := by rfl)
    (hline : (apos.endLine == cpos.line) = true := by rfl) (hs : starEach (e :: es) X.env = (false, eval e X.env) :: starEach es X.env := by rfl) (hplain : (backTo cpos (starEach es X.env)).any (·.1) = false := by rfl) :
    DE X (.Call (.Attribute (.Name x px) name apos) (e :: es) [] cpos) (tBM X.K "list" r (tVar i) ta) (dMut i g t) :=
  ⟨pe_bm PySem.F.plainAttrs_list slot hty hm ho ha.pe hbase hfew hline hs hplain, fun R q k => sem_mut rfl hg ha.sem R q k⟩
def mAppend (l : List D) (ds : List D) (Q : List D → D → Prop) : Prop := match ds with
  | [d] => l.length < sizeLine ∧ Q (l ++ [d]) .non
  | _ => False
theorem sem_append : SemMut X.K rAppend mAppend := by
  intro F H p xs l vs ds Q Qd e hp dl dv h k
  unfold mAppend at h
  split at h
  · cases dv with
    | cons a b =>
      cases b
      exact ⟨p, xs, _, rfl, rfl, hp, by rw [dl.length]; exact h.1, k _ _ _ _ h.2 (dl.append (.cons a .nil)) .non⟩
  · exact h.elim
theorem de_append {i : Nat} {x : Str} {px : Pos} {e : Expr} {apos cpos : Pos} {ta : TA} {t : TVs} (ho : PE X (.Name x px) (tVar i)) (ha : DV X [e] ta t)
    (hbase : attributeBase (.Name x px) "append" X.env (eval (.Name x px) X.env) = eval (.Name x px) X.env := by rfl)
    (hfew : ((backTo cpos (starEach [e] X.env)).all (fun x => !x.1) && (backToKw cpos (keywordEach [] X.env)).all (fun x => x.1.isSome)
      && decide (([e] : List Expr).length + ([] : List Keyword).length + (if ([] : List Keyword).isEmpty then 0 else 1) < 30)) = true := by rfl)
    (hline : (apos.endLine == cpos.line) = true := by rfl) (hs : starEach [e] X.env = (false, eval e X.env) :: starEach [] X.env := by rfl) (hplain : (backTo cpos (starEach [] X.env)).any (·.1) = false := by rfl) :
    DE X (.Call (.Attribute (.Name x px) "append" apos) [e] [] cpos) (tBM X.K "list" rAppend (tVar i) ta) (dMut i mAppend t) :=
  de_mut PySem.F.slot_list_append PySem.F.type_list_append (fun pins s σ H x xs v us Q => mt_append pins s σ H x xs v us Q) sem_append ho ha hbase hfew hline hs hplain
def mInsert (l : List D) (ds : List D) (Q : List D → D → Prop) : Prop := match ds with
  | [.int i, d] => l.length < sizeLine ∧ 0 ≤ i ∧ i < 2 ^ 63 ∧ Q (l.take i.toNat ++ [d] ++ l.drop i.toNat) .non
  | _ => False
def rInsert : V → List V → Hp → VK → Prop := fun x vs H Q => ∃ (l : Addr) (xs : List V) (i : Int) (y : V), x = .ref l ∧ vs = [.int i, y] ∧ H l = some (.lst xs) ∧ xs.length < sizeLine ∧ 0 ≤ i ∧ i < 2 ^ 63 ∧
    Q .non (upd H l (.lst (xs.take i.toNat ++ [y] ++ xs.drop i.toNat)))
theorem sem_insert : SemMut X.K rInsert mInsert := by
  intro F H p xs l vs ds Q Qd e hp dl dv h k
  unfold mInsert at h
  split at h
  · cases dv with
    | cons a b =>
      cases b with
      | cons b c =>
        cases c; cases a
        exact ⟨p, xs, _, _, rfl, rfl, hp, by rw [dl.length]; exact h.1, h.2.1, h.2.2.1, k _ _ _ _ h.2.2.2 (((dl.take _).append (.cons b .nil)).append (dl.drop _)) .non⟩
  · exact h.elim
theorem de_insert {i : Nat} {x : Str} {px : Pos} {a e : Expr} {apos cpos : Pos} {ta : TA} {t : TVs} (ho : PE X (.Name x px) (tVar i)) (ha : DV X [a, e] ta t)
    (hbase : attributeBase (.Name x px) "insert" X.env (eval (.Name x px) X.env) = eval (.Name x px) X.env := by rfl)
    (hfew : ((backTo cpos (starEach [a, e] X.env)).all (fun x => !x.1) && (backToKw cpos (keywordEach [] X.env)).all (fun x => x.1.isSome)
      && decide (([a, e] : List Expr).length + ([] : List Keyword).length + (if ([] : List Keyword).isEmpty then 0 else 1) < 30)) = true := by rfl)
    (hline : (apos.endLine == cpos.line) = true := by rfl) (hs : starEach [a, e] X.env = (false, eval a X.env) :: starEach [e] X.env := by rfl) (hplain : (backTo cpos (starEach [e] X.env)).any (·.1) = false := by rfl) :
    DE X (.Call (.Attribute (.Name x px) "insert" apos) [a, e] [] cpos) (tBM X.K "list" rInsert (tVar i) ta) (dMut i mInsert t) :=
  de_mut PySem.F.slot_list_insert PySem.F.type_list_insert (r := rInsert) mt_insert sem_insert ho ha hbase hfew hline hs hplain
/-! ### stores: x[i] = e, x[i] op= e, x one's own list or dict -/
def rSetD : V → V → V → Hp → (Hp → Prop) → Prop := fun o i v H Q => ∃ a H4, o = .ref a ∧ DPut H a i v H4 ∧ Q H4
theorem set_dict (hu : X.A.units + 1 < cLine) : PSet X rSetD := by
  intro pins s σ H o i v ov iv u Q I ro ri rv h
  obtain ⟨a, H4, rfl, g, q⟩ := h
  cases ro
  exact d_setItem hu I g ri rv fun s4 I4 => ⟨H4, I4, q⟩
def rSetA : V → V → V → Hp → (Hp → Prop) → Prop := fun o i v H Q => rSetL o i v H Q ∨ rSetD o i v H Q
theorem set_any (hu : X.A.units + 1 < cLine) : PSet X rSetA := by
  intro pins s σ H o i v ov iv u Q I ro ri rv h
  rcases h with h | h
  · exact set_list pins s σ H o i v ov iv u Q I ro ri rv h
  · exact set_dict hu pins s σ H o i v ov iv u Q I ro ri rv h
/-- the content behind the store -/
def cnSet (c : Cn) (i : D) (d : D) (Q : Cn → Prop) : Prop := match c, i with
  | .l l, .int k => ∃ j, ixN l.length k = some j ∧ Q (.l (l.set j d))
  | .d kvs, y => ∃ k, y.key = some k ∧ kvs.length < sizeLine ∧ Q (.d (kPut kvs k d))
  | _, _ => False
theorem sem_store {K : PySem.W.Frag} {G : Cd} {σ : L2.St} {H F : Hp} {ρ : SL} {i : Nat} {s : Sl} {c : Cn} {p : Addr} {x v : V} {a d : D} {Q : Hp → Prop} {Qd : Cn → Prop} (R : Rep K G σ H F ρ) (h : ρ[i]? = some s) (hc : s.cn = some c) (hp : σ[i]? = some (some (.ref p)))
    (hx : Pk K F H x a) (hv : Den K F v d) (q : cnSet c a d Qd) (k : ∀ c' o, Qd c' → Rep K G σ (upd H p o) F (ρ.set i (s.with c')) → Q (upd H p o)) : rSetA (.ref p) x v H Q := by
  obtain ⟨p', hp', hh, _⟩ := R.owned h hc
  rw [hp] at hp'; cases hp'
  unfold cnSet at q
  split at q
  · obtain ⟨j, e, q⟩ := q
    cases hx.int
    obtain ⟨xs, a1, a2⟩ := hh
    exact .inl ⟨p, xs, _, j, rfl, rfl, a1, by rw [a2.length]; exact e, k _ _ q (R.write h hc hp ⟨_, upd_same, DenL.set hv j a2⟩)⟩
  · obtain ⟨k1, e, hz, q⟩ := q
    obtain ⟨ks, a1, a2⟩ := hh
    have ko := hx.keyOk e
    have := hx.key e
    subst this
    exact .inr ⟨p, _, rfl, DPut.k a1 (by rw [a2.length]; exact hz), k _ _ q (R.write h hc hp ⟨_, upd_same, a2.put hv k1 ko⟩)⟩
  · exact q.elim
def slC (ρ : SL) (i : Nat) : Option (Sl × Cn) := match ρ[i]? with
  | some s => match s.cn with
    | some c => some (s, c)
    | none => none
  | none => none
theorem slC_some {ρ : SL} {i : Nat} {s : Sl} {c : Cn} (h : slC ρ i = some (s, c)) : ρ[i]? = some s ∧ s.cn = some c := by
  unfold slC at h
  cases q : ρ[i]? with
  | none => rw [q] at h; cases h
  | some t =>
    rw [q] at h
    cases q2 : t.cn with
    | none => simp only [q2] at h; cases h
    | some c => simp only [q2] at h; cases h; exact ⟨rfl, q2⟩
def sStore (i : Nat) (te : TD) (ti : TQ) : TSD := fun E ρ => te ρ fun r ρ1 => (slC ρ1 i).isSome = true ∧ ti ρ1 fun o ρ2 => match slC ρ2 i, o.get ρ2 with
  | some (s, c), some a => cnSet c a r.dat fun c' => E.nx (ρ2.set i (s.with c'))
  | _, _ => False
theorem ds_store {i : Nat} {x : Str} {px tpos pos : Pos} {ix e : Expr} {te ti : TE} {t : TD} {u : TQ} (hu : X.A.units + 1 < cLine) (ho : PE X (.Name x px) (tVar i)) (hi : DO X ix ti u) (he : DE X e te t)
    (hpg : PG X (.Subscript (.Name x px) ix tpos) (gSub (tVar i) ti rSetA))
    (hs : swapsWithSole [.Subscript (.Name x px) ix tpos] e pos.line X.env = pure false := by rfl) (hw : swappedStores [.Subscript (.Name x px) ix tpos] e X.env = pure none := by rfl)
    (h1 : (assignEach [.Subscript (.Name x px) ix tpos] X.env).map (·.2) = [assign (.Subscript (.Name x px) ix tpos) X.env] := by rfl) :
    DS X (.Assign [.Subscript (.Name x px) ix tpos] e pos) (tAsg te (gSub (tVar i) ti rSetA)) (sStore i t u) := by
  refine ⟨ps_asg he.pe hpg hs hw h1, fun R q L => he.sem R q fun r ρ1 v H1 F1 q1 s1 R1 rd => ?_⟩
  obtain ⟨F1', s1', R1', d1⟩ := R1.share rd
  obtain ⟨q0, q1⟩ := q1
  obtain ⟨⟨s0, c0⟩, e0⟩ := Option.isSome_iff_exists.mp q0
  obtain ⟨a0, b0⟩ := slC_some e0
  obtain ⟨p, hp, _⟩ := R1'.owned a0 b0
  refine ⟨.ref p, hp, hi.sem R1' q1 fun o ρ2 y H2 F2 q2 s2 R2 d2 => ?_⟩
  cases e1 : slC ρ2 i with
  | none => simp only [e1] at q2
  | some sc =>
    obtain ⟨s, c⟩ := sc
    obtain ⟨a1, b1⟩ := slC_some e1
    cases e2 : o.get ρ2 with
    | none => simp only [e1, e2] at q2
    | some a =>
      simp only [e1, e2] at q2
      exact sem_store R2 a1 b1 hp (d2.pk R2 e2) (d1.mono s2) q2 fun c' o' qd R3 => L.nx _ _ _ _ qd R3
/-- x[i] read, for x[i] op= e -/
theorem get_list : PGet X (rIxL X.K) := by
  intro pins s σ H o i ov iv Q I rx ry h
  obtain ⟨p, xs, i, z, rfl, rfl, hq, he, q⟩ := h
  cases rx
  obtain ⟨t, rfl⟩ := ry
  obtain ⟨its, r, pl, hz⟩ := I.list hq
  obtain ⟨j, h1, h2, h3, h4, h5⟩ := atI_get he
  obtain ⟨w, ew, rw'⟩ := r.get h2
  have hl := r.length
  have hn := line63
  have fin : EP X pins σ Q w s := ⟨z, H, I, rw', q⟩
  by_cases h0 : 0 ≤ i
  · have hj : i.toNat = j := by
      rw [seqIndex_of h0 h5] at h1
      exact Option.some.inj h1
    exact wpAny_getItem_list pl.isList h0 (by omega) (by rw [hj]; simpa using ew) fin
  · have hj : (i + (its.toArray.size : Int)).toNat = j := by
      rw [seqIndex_neg (by omega) h4] at h1
      rw [List.size_toArray, ← hl]
      exact Option.some.inj h1
    exact wpAny_getItem_list_neg pl.isList (by omega) (by rw [List.size_toArray] <;> omega) (by omega) (by rw [hj]; simpa using ew) fin
theorem get_dict (hu : X.A.units + 1 < cLine) : PGet X rIxD := by
  intro pins s σ H o i ov iv Q I rx ry h
  obtain ⟨a, v, rfl, g, q⟩ := h
  cases rx
  exact d_getItem hu I g ry fun w' s3 I3 rw' => ⟨v, H, I3, rw', q⟩
def rGetA (K : PySem.W.Frag) : R2 := fun x y H Q => rIxL K x y H Q ∨ rIxD x y H Q
theorem get_any (hu : X.A.units + 1 < cLine) : PGet X (rGetA X.K) := by
  intro pins s σ H o i ov iv Q I rx ry h
  rcases h with h | h
  · exact get_list pins s σ H o i ov iv Q I rx ry h
  · exact get_dict hu pins s σ H o i ov iv Q I rx ry h
theorem gIx_dct {kvs : List (Key × D)} {y : D} {Q : Rv → Prop} : gIx (.dct kvs) y Q = ∃ k d, y.key = some k ∧ kGet kvs k = some d ∧ Q (.v d) := by cases y <;> rfl
def sAugI (i : Nat) (f : Int → Int → Int) (ti : TQ) (te : TD) : TSD := fun E ρ => (slC ρ i).isSome = true ∧ ti ρ fun o ρ1 => match slC ρ1 i, o.get ρ1 with
  | some (_, c), some a => gIx c.dat a fun old => te ρ1 fun r ρ2 => match old, r, slC ρ2 i, o.get ρ2 with
    | .v (.int m), .v (.int n), some (s, c2), some a2 => cnSet c2 a2 (.int (f m n)) fun c' => E.nx (ρ2.set i (s.with c'))
    | _, _, _, _ => False
  | _, _ => False
theorem ds_augI {i : Nat} {f : Int → Int → Int} {op : Operator} {x : Str} {px tpos pos : Pos} {ix e : Expr} {te ti : TE} {t : TD} {u : TQ} (hu : X.A.units + 1 < cLine) (ho : PE X (.Name x px) (tVar i)) (hi : DO X ix ti u) (he : DE X e te t) (hp : PIp X op (ipI f))
    (ha : ∀ ov iv new, augStore ix ov iv new = (do holding [new, ov, iv] (setItem ov iv new); release [new, ov, iv] []; pure .next) := by intros; rfl) :
    DS X (.AugAssign (.Subscript (.Name x px) ix tpos) op e pos) (tAugS (tVar i) ti te (rGetA X.K) (ipI f) rSetA) (sAugI i f u t) := by
  refine ⟨ps_augS ho hi.pe (get_any hu) he.pe hp (set_any hu) ha, fun {G σ H F ρ D E} R q L => ?_⟩
  obtain ⟨q0, q1⟩ := q
  obtain ⟨⟨s0, c0⟩, e0⟩ := Option.isSome_iff_exists.mp q0
  obtain ⟨a0, b0⟩ := slC_some e0
  obtain ⟨p, hp, _⟩ := R.owned a0 b0
  refine ⟨.ref p, hp, hi.sem R q1 fun o ρ1 y H1 F1 q1 s1 R1 d1 => ?_⟩
  cases e1 : slC ρ1 i with
  | none => simp only [e1] at q1
  | some sc =>
    obtain ⟨s1', c1⟩ := sc
    obtain ⟨a1, b1⟩ := slC_some e1
    cases e2 : o.get ρ1 with
    | none => simp only [e1, e2] at q1
    | some a =>
      simp only [e1, e2] at q1
      obtain ⟨p', hp', hh, _⟩ := R1.owned a1 b1
      rw [hp] at hp'; cases hp'
      have pk1 : Pk X.K F1 H1 (.ref p) c1.dat := .inr ⟨p, c1, rfl, rfl, hh⟩
      have rest : ∀ (old : Rv) (z : V), (te σ H1 fun y2 H3 => ipI f z y2 H3 fun z' H5 => rSetA (.ref p) y z' H5 fun H6 => D.nx σ H6) → rGetA X.K (.ref p) y H1 (fun x3 H3 => x3 = z ∧ H3 = H1) → rGetA X.K (.ref p) y H1 (fun x3 H3 => te σ H3 fun y2 H3 => ipI f x3 y2 H3 fun z' H5 => rSetA (.ref p) y z' H5 fun H6 => D.nx σ H6) := by
        intro old z hz hg
        rcases hg with ⟨p2, xs, k, v, h1, h2, h3, h4, rfl, _⟩ | ⟨a2, v, h1, h2, rfl, _⟩
        · exact .inl ⟨p2, xs, k, v, h1, h2, h3, h4, hz⟩
        · exact .inr ⟨a2, v, h1, h2, hz⟩
      have fin : ∀ (old : Rv) (z : V), RDen X.K G σ ρ1 H1 F1 z old → (t ρ1 fun r ρ2 => match old, r, slC ρ2 i, o.get ρ2 with
          | .v (.int m), .v (.int n), some (s, c2), some a2 => cnSet c2 a2 (.int (f m n)) fun c' => E.nx (ρ2.set i (s.with c'))
          | _, _, _, _ => False) → te σ H1 fun y2 H3 => ipI f z y2 H3 fun z' H5 => rSetA (.ref p) y z' H5 fun H6 => D.nx σ H6 := by
        intro old z rdz q2
        refine he.sem R1 q2 fun r ρ2 y2 H3 F3 q3 s3 R3 rd3 => ?_
        split at q3
        · rename_i m n s2 c2 a2 e4 e5
          cases rdz; cases rd3
          obtain ⟨a5, b5⟩ := slC_some e4
          exact ⟨m, n, rfl, rfl, sem_store R3 a5 b5 hp ((d1.mono s3).pk R3 e5) (.int _) q3 fun c' o' qd R4 => L.nx _ _ _ _ qd R4⟩
        · exact q3.elim
      -- what stands there
      cases c1 with
      | l l =>
        cases a with
        | int kk =>
          obtain ⟨d, e3, q2⟩ := q1
          obtain ⟨p3, xs, ep, h1, dd⟩ := pk1.lst R1.ext
          cases ep
          cases (d1.pk R1 e2).int
          obtain ⟨v, e4, dv⟩ := dd.atI e3
          exact rest (.v d) v (fin (.v d) v dv q2) (.inl ⟨p, xs, _, v, rfl, rfl, .inl (.inl h1), e4, rfl, rfl⟩)
        | _ => exact q1.elim
      | d kvs =>
        have q1' := q1
        rw [show Cn.dat (.d kvs) = .dct kvs from rfl, gIx_dct] at q1'
        obtain ⟨k1, d, ek, e3, q2⟩ := q1'
        obtain ⟨p3, ks, ep, h1, dd⟩ := pk1.dct R1.ext
        cases ep
        obtain ⟨v, e4, dv⟩ := dd.get e3
        have ey := (d1.pk R1 e2).key ek
        subst ey
        exact rest (.v d) v (fin (.v d) v dv q2) (.inr ⟨p, v, rfl, by rw [← e4]; exact DGet.k h1, rfl, rfl⟩)
      | o _ _ => cases a <;> exact q1.elim
      | k _ _ _ => cases a <;> exact q1.elim
      | x _ _ => cases a <;> exact q1.elim
/-! ### x op= e, x a name that holds an int -/
end
end DL

namespace DL
open PySem L2
section
variable {K : PySem.W.Frag} {F H : Hp}
theorem pks1 {xs : List V} {d : D} (h : Pks K F H xs [d]) : ∃ x, xs = [x] ∧ Pk K F H x d := by
  cases h with
  | cons a b => cases b; exact ⟨_, rfl, a⟩
theorem pks2 {xs : List V} {d e : D} (h : Pks K F H xs [d, e]) : ∃ x y, xs = [x, y] ∧ Pk K F H x d ∧ Pk K F H y e := by
  cases h with
  | cons a b =>
    obtain ⟨y, rfl, h⟩ := pks1 b
    exact ⟨_, y, rfl, a, h⟩
theorem DenL.bls : ∀ {vs : List V} {bs : List Bool}, DenL K F vs (bs.map D.bl) → vs = bs.map V.bl
  | _, [], h => by cases h; rfl
  | _, b :: bs, h => by
    cases h with
    | cons a t => cases a; rw [DenL.bls t]; rfl
theorem DenL.nums : ∀ {vs : List V} {bs : List Int}, DenL K F vs (bs.map D.int) → vs = bs.map V.int
  | _, [], h => by cases h; rfl
  | _, b :: bs, h => by
    cases h with
    | cons a t => cases a; rw [DenL.nums t]; rfl
theorem DenL.txts : ∀ {vs : List V} {bs : List Str}, DenL K F vs (bs.map D.str) → vs = bs.map V.str ∧ ∀ b ∈ bs, PyData.strOk b = true
  | _, [], h => by cases h; exact ⟨rfl, fun _ h => by simp at h⟩
  | _, b :: bs, h => by
    cases h with
    | cons a t =>
      cases a with
      | str _ o =>
        obtain ⟨e, h2⟩ := DenL.txts t
        refine ⟨by rw [e]; rfl, fun c hc => ?_⟩
        rcases List.mem_cons.mp hc with rfl | hc
        · exact o
        · exact h2 c hc
end
section
variable {X : Cx}
def gAbs : List D → (Rv → Prop) → Prop
  | [.int i] => fun Q => Q (.v (.int (if i < 0 then -i else i)))
  | _ => fun _ => False
theorem sem_abs : SemCall X.K (fun xs H Q => ∃ i, xs = [.int i] ∧ Q (.int (if i < 0 then -i else i)) H) gAbs := by
  intro G σ H F ρ xs as Q Qd R ha h k
  unfold gAbs at h
  split at h
  · obtain ⟨x, rfl, p⟩ := pks1 ha
    cases p.int
    exact ⟨_, rfl, k _ _ _ _ h (Same.refl _) R (.int _)⟩
  · exact h.elim
def gLen : List D → (Rv → Prop) → Prop
  | [.lst l] => fun Q => Q (.v (.int l.length))
  | [.tup l] => fun Q => Q (.v (.int l.length))
  | [.str x] => fun Q => x.length ≤ sizeLine ∧ Q (.v (.int x.length))
  | [.dct l] => fun Q => Q (.v (.int l.length))
  | [.scr l] => fun Q => Q (.v (.int l.length))
  | _ => fun _ => False
def rLenA (K : PySem.W.Frag) : List V → Hp → VK → Prop := fun xs H Q => (∃ x n, xs = [x] ∧ LenV K x H n ∧ Q (.int n) H) ∨ ∃ a kvs, xs = [V.ref a] ∧ H a = some (.dK kvs) ∧ Q (.int kvs.length) H
theorem call_lenA : CallR X (.builtin "len") (rLenA X.K) := call_len.or call_lenD
theorem sem_len : SemCall X.K (rLenA X.K) gLen := by
  intro G σ H F ρ xs as Q Qd R ha h k
  unfold gLen at h
  split at h
  · obtain ⟨x, rfl, p⟩ := pks1 ha
    obtain ⟨a, ys, rfl, h1, h2⟩ := p.lst R.ext
    exact .inl ⟨_, ys.length, rfl, .inl ⟨ys, .inl (.inl h1), rfl⟩, by rw [h2.length]; exact k _ _ _ _ h (Same.refl _) R (.int _)⟩
  · obtain ⟨x, rfl, p⟩ := pks1 ha
    obtain ⟨a, ys, rfl, h1, h2⟩ := p.tup
    exact .inl ⟨_, ys.length, rfl, .inr ⟨ys, .inl (.inl (R.ext _ _ h1)), rfl⟩, by rw [h2.length]; exact k _ _ _ _ h (Same.refl _) R (.int _)⟩
  · obtain ⟨x, rfl, p⟩ := pks1 ha
    cases p.str
    exact .inl ⟨_, _, rfl, ⟨h.1, rfl⟩, k _ _ _ _ h.2 (Same.refl _) R (.int _)⟩
  · obtain ⟨x, rfl, p⟩ := pks1 ha
    obtain ⟨a, ys, rfl, h1, h2⟩ := p.dct R.ext
    exact .inr ⟨a, ys, rfl, h1, by rw [h2.length]; exact k _ _ _ _ h (Same.refl _) R (.int _)⟩
  · rename_i l
    obtain ⟨x, rfl, p⟩ := pks1 ha
    obtain ⟨a, rfl, h1⟩ := p.scr R.ext
    exact .inl ⟨_, _, rfl, .inl ⟨_, h1, rfl⟩, by rw [List.length_map]; exact k _ _ _ _ h (Same.refl _) R (.int _)⟩
  · exact h.elim
def gMin : List D → (Rv → Prop) → Prop
  | [.int i, .int j] => fun Q => Q (.v (.int (min i j)))
  | [.lst l] => fun Q => ∃ ns : List Int, l = ns.map D.int ∧ 0 < ns.length ∧ ∀ m, m ∈ ns → (∀ y ∈ ns, m ≤ y) → Q (.v (.int m))
  | _ => fun _ => False
def gMax : List D → (Rv → Prop) → Prop
  | [.int i, .int j] => fun Q => Q (.v (.int (max i j)))
  | [.int i, .int j, .int k] => fun Q => Q (.v (.int (max (max i j) k)))
  | [.lst l] => fun Q => ∃ ns : List Int, l = ns.map D.int ∧ 0 < ns.length ∧ ∀ m, m ∈ ns → (∀ y ∈ ns, y ≤ m) → Q (.v (.int m))
  | _ => fun _ => False
def rMinA (K : PySem.W.Frag) : List V → Hp → VK → Prop := fun xs H Q => (∃ i j, xs = [.int i, .int j] ∧ Q (.int (if j < i then j else i)) H) ∨ rMin K xs H Q
theorem call_minA (hc : X.calm = true) : CallR X (.builtin "min") (rMinA X.K) := (call_min2 hc).or (cr_min hc)
theorem sem_min : SemCall X.K (rMinA X.K) gMin := by
  intro G σ H F ρ xs as Q Qd R ha h k
  unfold gMin at h
  split at h
  · rename_i i j
    obtain ⟨x, y, rfl, p, q⟩ := pks2 ha
    cases p.int; cases q.int
    refine .inl ⟨_, _, rfl, ?_⟩
    have e : (if j < i then j else i) = min i j := by rw [Int.min_def]; split <;> split <;> omega
    rw [e]
    exact k _ _ _ _ h (Same.refl _) R (.int _)
  · obtain ⟨ns, rfl, h1, h2⟩ := h
    obtain ⟨x, rfl, p⟩ := pks1 ha
    obtain ⟨a, ys, rfl, h3, h4⟩ := p.lst R.ext
    refine .inr ⟨a, ns, rfl, by rw [← h4.nums]; exact .inl (.inl h3), h1, fun m hm hle => k _ _ _ _ (h2 m hm hle) (Same.refl _) R (.int _)⟩
  · exact h.elim
def gInt : List D → (Rv → Prop) → Prop
  | [.int i] => fun Q => Q (.v (.int i))
  | [.bl b] => fun Q => Q (.v (.int (if b then 1 else 0)))
  | _ => fun _ => False
theorem sem_int : SemCall X.K (fun xs H Q => (∃ i, xs = [.int i] ∧ Q (.int i) H) ∨ ∃ k, xs = [.bl k] ∧ Q (.int (if k then 1 else 0)) H) gInt := by
  intro G σ H F ρ xs as Q Qd R ha h k
  unfold gInt at h
  split at h
  · obtain ⟨x, rfl, p⟩ := pks1 ha
    cases p.int
    exact .inl ⟨_, rfl, k _ _ _ _ h (Same.refl _) R (.int _)⟩
  · obtain ⟨x, rfl, p⟩ := pks1 ha
    cases p.bl
    exact .inr ⟨_, rfl, k _ _ _ _ h (Same.refl _) R (.int _)⟩
  · exact h.elim
def gAny (f : List Bool → Bool) : List D → (Rv → Prop) → Prop
  | [.lst l] => fun Q => ∃ bs : List Bool, l = bs.map D.bl ∧ Q (.v (.bl (f bs)))
  | _ => fun _ => False
theorem sem_any : SemCall X.K (rAny X.K) (gAny fun bs => bs.any id) := by
  intro G σ H F ρ xs as Q Qd R ha h k
  unfold gAny at h
  split at h
  · obtain ⟨bs, rfl, h⟩ := h
    obtain ⟨x, rfl, p⟩ := pks1 ha
    obtain ⟨a, ys, rfl, h3, h4⟩ := p.lst R.ext
    exact ⟨a, bs, rfl, by rw [← h4.bls]; exact .inl (.inl h3), k _ _ _ _ h (Same.refl _) R (.bl _)⟩
  · exact h.elim
theorem sem_all : SemCall X.K (rAll X.K) (gAny fun bs => bs.all id) := by
  intro G σ H F ρ xs as Q Qd R ha h k
  unfold gAny at h
  split at h
  · obtain ⟨bs, rfl, h⟩ := h
    obtain ⟨x, rfl, p⟩ := pks1 ha
    obtain ⟨a, ys, rfl, h3, h4⟩ := p.lst R.ext
    exact ⟨a, bs, rfl, by rw [← h4.bls]; exact .inl (.inl h3), k _ _ _ _ h (Same.refl _) R (.bl _)⟩
  · exact h.elim
def gList : List D → (Rv → Prop) → Prop
  | [.lst l] => fun Q => Q (.fr (.l l))
  | [.tup l] => fun Q => Q (.fr (.l l))
  | _ => fun _ => False
theorem sem_list : SemCall X.K (fun xs H Q => ∃ p ys, xs = [.ref p] ∧ (SqL X.K H p ys ∨ SqT X.K H p ys) ∧ ∀ l, H l = none → Q (.ref l) (upd H l (.lst ys))) gList := by
  intro G σ H F ρ xs as Q Qd R ha h k
  unfold gList at h
  split at h
  · obtain ⟨x, rfl, p⟩ := pks1 ha
    obtain ⟨a, ys, rfl, h1, h2⟩ := p.lst R.ext
    refine ⟨a, ys, rfl, .inl (.inl (.inl h1)), fun b hb => ?_⟩
    obtain ⟨R1, rd⟩ := R.allocFr hb (o := .lst ys) (c := .l _) ⟨_, upd_same, h2⟩
    exact k _ _ _ _ h (Same.refl _) R1 rd
  · obtain ⟨x, rfl, p⟩ := pks1 ha
    obtain ⟨a, ys, rfl, h1, h2⟩ := p.tup
    refine ⟨a, ys, rfl, .inr (.inl (.inl (R.ext _ _ h1))), fun b hb => ?_⟩
    obtain ⟨R1, rd⟩ := R.allocFr hb (o := .lst ys) (c := .l _) ⟨_, upd_same, h2⟩
    exact k _ _ _ _ h (Same.refl _) R1 rd
  · exact h.elim
/-! ### text.join(list) -/
theorem strOk_fold (sep : Str) (hs : PyData.strOk sep = true) : ∀ (l : List Str) (a : Str), PyData.strOk a = true → (∀ b ∈ l, PyData.strOk b = true) → PyData.strOk (⟨l.foldl (fun acc p => acc ++ sep.cps ++ p.cps) a.cps⟩ : Str) = true
  | [], a, ha, _ => ha
  | b :: l, a, ha, h => by
    rw [List.foldl_cons]
    refine strOk_fold sep hs l ⟨a.cps ++ sep.cps ++ b.cps⟩ ?_ fun c hc => h c (List.mem_cons_of_mem _ hc)
    have hb := h b List.mem_cons_self
    rw [strOk_iff] at *
    intro c hc
    have hc' : c ∈ a.cps.toList ∨ c ∈ sep.cps.toList ∨ c ∈ b.cps.toList := by
      have : c ∈ a.cps.toList ++ sep.cps.toList ++ b.cps.toList := by simpa using hc
      simpa [or_assoc] using this
    rcases hc' with z | z | z
    · exact ha c z
    · exact hs c z
    · exact hb c z
theorem strOk_join {a : Str} {ys : List Str} (ha : PyData.strOk a = true) (h : ∀ b ∈ ys, PyData.strOk b = true) : PyData.strOk (Txt.join a ys) = true := by
  cases ys with
  | nil =>
    show PyData.strOk (Builtin.Str.glued a []) = true
    simp [Builtin.Str.glued, PyData.strOk, Str.empty]
  | cons b l => exact strOk_fold a ha l b (h b List.mem_cons_self) fun c hc => h c (List.mem_cons_of_mem _ hc)
def dJoin (a : Str) (te : TQ) : TD := fun ρ Q => te ρ fun o2 ρ2 => match o2.get ρ2 with
  | some (.lst l) => ∃ ys : List Str, l = ys.map D.str ∧ (ys.map (·.length)).sum + ys.length * a.length ≤ 16777216 ∧ Q (.v (.str (Txt.join a ys))) ρ2
  | _ => False
theorem de_join {a : Str} {j : Nat} {e : Expr} {apos pos cp : Pos} {te : TE} {u : TQ} (he : DO X e te u) (ho : PyData.strOk a = true := by decide +kernel) (hs : starEach [e] X.env = [(false, eval e X.env)] := by rfl)
    (hbase : attributeBase (.Constant (.str a) j cp) "join" X.env (eval (.Constant (.str a) j cp) X.env) = eval (.Constant (.str a) j cp) X.env := by rfl) (hline : (apos.endLine == pos.line) = true := by rfl) :
    DE X (.Call (.Attribute (.Constant (.str a) j cp) "join" apos) [e] [] pos) (tM1 (fun x xs H Q => ∃ a p, ∃ ys : List Str, x = .str a ∧ xs = [.ref p] ∧ (SqL X.K H p (ys.map V.str) ∨ SqT X.K H p (ys.map V.str)) ∧
      (ys.map (·.length)).sum + ys.length * a.length ≤ 16777216 ∧ Q (.str (Txt.join a ys)) H) (tC (.str a)) te) (dJoin a u) := by
  refine ⟨pe_join pe_str he.pe hs hbase hline, fun {G σ H F ρ Q Qd} R q k => ⟨⟨a, rfl⟩, he.sem R q fun o ρ1 v H1 F1 q1 s1 R1 d1 => ?_⟩⟩
  split at q1
  · rename_i l e1
    obtain ⟨ys, rfl, hz, q1⟩ := q1
    obtain ⟨p, xs, rfl, h1, h2⟩ := (d1.pk R1 e1).lst R1.ext
    obtain ⟨rfl, h3⟩ := h2.txts
    exact ⟨a, p, ys, rfl, rfl, .inl (.inl (.inl h1)), hz, k _ _ _ _ _ q1 s1 R1 (.str _ (strOk_join ho h3))⟩
  · exact q1.elim
/-! ### x[::-1] of a list -/
def dRev (te : TQ) : TD := fun ρ Q => te ρ fun o ρ1 => match o.get ρ1 with
  | some (.lst l) => Q (.fr (.l l.reverse)) ρ1
  | _ => False
theorem de_rev {e : Expr} {te : TE} {u : TQ} {k : Nat} {p1 p2 p3 pos : Pos} (he : DO X e te u) : DE X (.Subscript e (.Slice none none (some (.UnaryOp .USub (.Constant (.int 1) k p1) p2)) p3) pos) (tRevL X.K te) (dRev u) := by
  refine ⟨pe_revL he.pe, fun {G σ H F ρ Q Qd} R q k => he.sem R q fun o ρ1 v H1 F1 q1 s1 R1 d1 => ?_⟩
  split at q1
  · rename_i l e1
    obtain ⟨p, xs, rfl, h1, h2⟩ := (d1.pk R1 e1).lst R1.ext
    refine ⟨p, xs, rfl, .inl (.inl h1), fun b hb => ?_⟩
    obtain ⟨R2, rd⟩ := R1.allocFr hb (o := .lst xs.reverse) (c := .l l.reverse) ⟨_, upd_same, h2.rev⟩
    exact k _ _ _ _ _ q1 s1 R2 rd
  · exact q1.elim
/-! ### repr of plain data -/
mutual
/-- what may be shown: ints below 2 ^ 240 -/
def D.small : D → Bool
  | .int i => decide (i.natAbs < 2 ^ 240)
  | .lst l => D.smalls l
  | .tup l => D.smalls l
  | .dct l => D.smallk l
  | _ => true
def D.smalls : List D → Bool
  | [] => true
  | d :: r => D.small d && D.smalls r
def D.smallk : List (Key × D) → Bool
  | [] => true
  | (.inl i, d) :: r => decide (i.natAbs < 2 ^ 240) && D.small d && D.smallk r
  | (.inr _, d) :: r => D.small d && D.smallk r
end
@[simp] theorem smallk_nil : D.smallk [] = true := by rw [D.smallk]
mutual
theorem small_show : ∀ (n : Nat) (d : D), D.fit n d = true → D.small d = true → d.py.showable = true ∧ d.py.hasDict = false
  | n, .non, _, _ => by simp [D.py, PyData.showable, PyData.hasDict]
  | n, .bl _, _, _ => by simp [D.py, PyData.showable, PyData.hasDict]
  | n, .str _, _, _ => by simp [D.py, PyData.showable, PyData.hasDict]
  | n, .int i, _, h => by
    have h1 : i.natAbs < 2 ^ 240 := by simpa [D.small] using h
    have h2 : i.natAbs.log2 < 1920 := by
      by_cases h0 : i.natAbs = 0
      · rw [h0]; decide
      · exact Nat.lt_of_lt_of_le ((Nat.log2_lt h0).mpr h1) (by decide)
    simp [D.py, PyData.showable, PyData.hasDict, h2]
  | 0, .lst _, e, h => by simp [D.fit] at e
  | 0, .tup _, e, h => by simp [D.fit] at e
  | n + 1, .lst l, e, h => by
    rw [D.fit] at e
    rw [D.small] at h
    rw [D.py, PyData.showable, PyData.hasDict]
    exact smalls_show n l e h
  | n + 1, .tup l, e, h => by
    rw [D.fit] at e
    rw [D.small] at h
    rw [D.py, PyData.showable, PyData.hasDict]
    exact smalls_show n l e h
  | n, .dct _, e, _ => by simp [D.fit] at e
  | n, .obj _ _, e, _ => by simp [D.fit] at e
  | n, .scr _, e, _ => by simp [D.fit] at e
  | n, .rep _, e, _ => by simp [D.fit] at e
theorem smalls_show : ∀ (n : Nat) (l : List D), D.fits n l = true → D.smalls l = true → PyData.showableAll (D.pys l) = true ∧ PyData.hasDictAll (D.pys l) = false
  | n, [], _, _ => by simp [D.pys, PyData.showableAll, PyData.hasDictAll]
  | n, d :: r, e, h => by
    rw [D.fits, Bool.and_eq_true] at e
    rw [D.smalls, Bool.and_eq_true] at h
    obtain ⟨h1, h2⟩ := small_show n d e.1 h.1
    obtain ⟨h3, h4⟩ := smalls_show n r e.2 h.2
    rw [D.pys, PyData.showableAll, PyData.hasDictAll, h1, h2, h3, h4]
    exact ⟨rfl, rfl⟩
end
end
end DL

namespace DL
open PySem PySem.Spec PyProof.Rows L2
/-- the heap at the law's call: the script alone may be told -/
def scriptH (a : Addr) (o : Obj) (xs : List V) (told : Bool) : Hp := fun b => if told = true ∧ b = a then some (.frz o (.lst xs)) else none
theorem runG {P : Program} {w : World} {K : PySem.W.Frag} {mg mb : Str → Option Value} {k : Nat} {fa a : Addr} {fd : FuncData} {x : Str} {sp : Sp} {s1 : Shared} {vs : List Value} {ns : List Int}
    (KX : K.In s1.heap) (hns : s1.heap.Ns mainGlobals mg) (hb : s1.heap.Ns builtinsNs mb) (hbb : ∀ x : Str, x ≠ "__name__" → mb x = bootBuiltins x) (hlim : s1.heap.NoLimit) (hg : s1.gens = #[])
    (ha : s1.heap.get? a = some { cls := .type "list", data := .seq vs.toArray }) (hi : IntsAre vs ns) (hl : ns.length ≤ sizeLine) (hr : Room k callerA)
    (Fn : ∀ base : Heap, K.In base → base.Ns mainGlobals mg → FnG P w K mg base CX0 k fa fd [x] sp) (hbind : ∀ (s : Shared) (u : Value), BindsTo s fd ⟨[u], []⟩ [(x, u)])
    (hsp : ∀ H : Hp, SqL K H a (ns.map V.int) → sp [.ref a] H (fun v _ => v = .bl true) fun _ _ _ => False) :
    codeAny (model P w) callerA (.call (.ref fa) ⟨[.ref a], []⟩) (fun r s' => r = .ok (.ret (.bool true)) ∧ OldK s1.heap s'.heap ∧ s'.os = s1.os ∧ AllBare s'.gens) s1 := by
  have told : ∃ t : Bool, SqL K (scriptH a { cls := .type "list", data := .seq vs.toArray } (ns.map V.int) t) a (ns.map V.int) ∧ (t = true → K.lookup a = none) := by
    cases hk : K.lookup a with
    | none => exact ⟨true, .inl (.inr ⟨_, if_pos ⟨rfl, rfl⟩⟩), fun _ => rfl⟩
    | some o =>
      have e := KX a o hk
      rw [ha] at e
      cases e
      exact ⟨false, .inr ⟨_, vs.toArray, _, hk, rfl, rfl, rfl, by rw [List.size_toArray, hi.length]; exact hl, vals_ints hi⟩, fun z => by cases z⟩
  obtain ⟨t, hS, hK⟩ := told
  have only : ∀ b u, scriptH a { cls := .type "list", data := .seq vs.toArray } (ns.map V.int) t b = some u → b = a ∧ t = true ∧ u = .frz { cls := .type "list", data := .seq vs.toArray } (.lst (ns.map V.int)) := fun b u e => by
    unfold scriptH at e
    by_cases q : t = true ∧ b = a
    · rw [if_pos q] at e
      cases e
      exact ⟨q.2, q.1, rfl⟩
    · rw [if_neg q] at e; cases e
  generalize scriptH a { cls := .type "list", data := .seq vs.toArray } (ns.map V.int) t = H at hS only
  have free : ∀ {b : Addr} {o : Obj} {es : Array DictEntry} {ep : Nat}, s1.heap.get? b = some o → o.data = .dict es ep → H b = none := fun {b o es ep} e d => by
    cases q : H b with
    | none => rfl
    | some u =>
      obtain ⟨rfl, _, _⟩ := only b u q
      rw [ha] at e; cases e
      cases (show Data.seq vs.toArray _ = Data.dict es ep from d)
  have nsH : ∀ {b : Addr} {m : Str → Option Value}, s1.heap.Ns b m → (hidT s1.heap H).Ns b m := fun {b m} ⟨o, es, ep, e, d, r⟩ => ⟨o, es, ep, hidT_get e (free e d), d, r⟩
  have hKb : K.In (hidT s1.heap H) := fun b o e => hidT_get (KX b o e) (by
    cases q : H b with
    | none => rfl
    | some u =>
      obtain ⟨rfl, z, _⟩ := only b u q
      rw [hK z] at e; cases e)
  obtain ⟨mc, lim1, lim2⟩ := hlim
  have ok : HOk P w H s1.heap := fun b u e => by
    obtain ⟨rfl, _, rfl⟩ := only b u e
    exact ⟨ha, by rw [List.length_map]; exact hl, vs, 0, vals_ints hi, ha⟩
  have e0 : Env0 P w K mg (hidT s1.heap H) callerA [] s1 H := ⟨rfl, ⟨hKb, nsH hns, ⟨mb, nsH hb, hbb⟩, mc, nsH lim1, lim2⟩, fun b o e => of_hidT e, Nat.le_of_eq (hidT_size _ _), trivial, (fun b hb => nomatch hb), ok, .of_eq hg⟩
  refine codeAny_mono ((Fn _ hKb (nsH hns)).run callerA [] s1 H ⟨[.ref a], []⟩ [.ref a] [.ref a] _ _ rfl hr e0 (hbind s1 (.ref a)) (.cons rfl .nil) (hsp H hS)) fun r s' h => ?_
  match r, h with
  | .error e, h => exact False.elim h
  | .ok .next, h => exact False.elim h
  | .ok .brk, h => exact False.elim h
  | .ok .cont, h => exact False.elim h
  | .ok (.ret u), ⟨v, H', os, bare, un, hok', r', q⟩ =>
    obtain rfl : v = .bl true := q
    obtain rfl : u = Value.bool true := r'
    refine ⟨rfl, OldK.of_keep fun b o e => ?_, os, bare⟩
    cases q : H b with
    | none => exact un.keep b o e q (fun z => nomatch z) (fun z => nomatch z)
    | some u =>
      obtain ⟨rfl, _, rfl⟩ := only b u q
      rw [ha] at e; cases e
      exact (hok' _ _ (un.frzs _ _ _ q)).1
/-- the goal that k_head leaves, from the law's promise over data -/
theorem walkG {l : PySem.W.OpenLaw} {n k : Nat} {q : Program} {loose : List Str} {XP : (Str → Option Value) → Heap → Prop} {YP : World → Heap → Prop} {d : DefRec} {K : Params → PySem.W.Frag} {x : Str}
    (hn : l.most = some n) (hn2 : n ≤ sizeLine) (hdf : d.params.defaults = []) (hr : Room k callerA)
    (hY : ∀ (w : World) (h : Heap), YP w h → (K w.params).In h)
    (Fn : ∀ (w : World) (mg : Str → Option Value) (fa : Addr) (h : Heap), (K w.params).In h → h.Ns mainGlobals mg → mg d.name = some (.ref fa) →
      ∃ fd : FuncData, (∀ (s : Shared) (u : Value), BindsTo s fd ⟨[u], []⟩ [(x, u)]) ∧
        ∀ base : Heap, (K w.params).In base → base.Ns mainGlobals mg → FnG l.prog w (K w.params) mg base CX0 k fa fd [x] (lift (K w.params) fun as Q => ∃ ns : List Int, as = [.sh (.scr ns)] ∧ ns.length ≤ n ∧ ∀ o, Q (.v (.bl true)) o)) :
    PySem.W.WalkO q loose XP YP l.row.toRowW d [] (fun f vs => PySem.call f vs) := by
  refine Att.attach_call hn hdf fun w s0 s1 mg mb fa o pm cd doc a vs ns G Y ho hd hcd hmg hobj hints hlen hg => ?_
  have KX := hY w _ Y
  obtain ⟨fd, hb, hF⟩ := Fn w mg fa _ KX G.T.g hmg
  refine runG KX G.T.g G.T.b G.T.builtins G.T.nolimit hg hobj hints (Nat.le_trans hlen hn2) hr hF hb fun H hS => ?_
  have R0 : Rep (K w.params) ⟨fun _ => none, fun _ => False, H, H⟩ [some (V.ref a)] H H [.sh (.scr ns)] := by
    refine { len := rfl, ext := Same.refl H, sh := fun i dd e => ?_, ow := fun i c e => ?_, bw := fun i j c e => ?_, sep := fun i j s t c c' p e1 e2 h1 h2 h3 h4 => ?_, fr0 := Same.refl H, new := fun _ _ e => .inl e, keep := fun _ _ e _ _ => e, dom := fun a o e => ⟨o, e⟩, bd := fun _ _ e => ?_, lb := fun _ _ z => ?_, pl := ?_ }
    · cases i with
      | zero =>
        cases e
        exact ⟨.ref a, rfl, .scr hS⟩
      | succ i => cases e
    · cases i with
      | zero => cases e
      | succ i => cases e
    · cases i with
      | zero => cases e
      | succ i => cases e
    · cases i with
      | zero => cases e1; cases h1
      | succ i => cases e1
    · cases e
    · exact (show False from z).elim
    · have no : ∀ (i : Nat) (hs : List (Addr × Cn)), ([.sh (.scr ns)] : SL)[i]? ≠ some (.pl hs) := fun i hs e => by
        cases i with
        | zero => cases e
        | succ i => cases e
      exact ⟨fun i hs e => (no i hs e).elim, fun i hs p c e => (no i hs e).elim, fun i hs p c e => (no i hs e).elim, fun i j hs hs' p c c' e => (no i hs e).elim⟩
  refine ⟨fun _ => none, H, [.sh (.scr ns)], fun r _ => r = .v (.bl true), R0, ⟨ns, rfl, hlen, fun _ => rfl⟩, fun r outs σ' v H' F' hq R rd => ?_⟩
  cases hq
  cases rd
  rfl
end DL
namespace DL
open PySem L2
/-! ### short words for the printed terms -/
structure Cal (P : Program) (w : World) (K : PySem.W.Frag) (mg : Str → Option Value) (base : Heap) (k : Nat) (x : Str) (f : Addr) (fd : FuncData) (ps : List Str) (sp : SpD) : Prop where
  g : mg x = some (.ref f)
  kp : PySem.W.keepIn K (.ref f) = true
  b : Binds K fd ps []
  ok : FnG P w K mg base CX0 k f fd ps (lift K sp)
theorem hu1 {A : Around} {k : Nat} (hr : Room k A) : A.units + 1 < cLine := by have := hr.un; omega
theorem hu64 {A : Around} {k : Nat} (hr : Room k A) : A.units + 64 < cLine := by have := hr.un; omega
theorem hu65 {A : Around} {k : Nat} (hr : Room k A) : A.units + 65 < cLine := by have := hr.un; omega
section
variable {X : Cx}
theorem call_intA : CallR X (.type "int") (fun xs H Q => (∃ i, xs = [.int i] ∧ Q (.int i) H) ∨ ∃ k, xs = [.bl k] ∧ Q (.int (if k then 1 else 0)) H) := call_int1
theorem sem_intA : SemCall X.K (fun xs H Q => (∃ i, xs = [.int i] ∧ Q (.int i) H) ∨ ∃ k, xs = [.bl k] ∧ Q (.int (if k then 1 else 0)) H) gInt := sem_int
theorem de_globI {x : Str} {i : Int} {t : Tok} {pos : Pos} (hg : Gl X x) (hm : X.mg x = some (.int i t)) (hd : (x == ("__debug__" : Str)) = false := by decide) : DE X (.Name x pos) (tC (.int i)) (dC (.int i)) :=
  ⟨pe_glob hg hm ⟨t, rfl⟩ hd, fun R h k => k _ _ _ _ _ h (Same.refl _) R (.int i)⟩
theorem de_globS {x : Str} {i : Str} {t : Tok} {pos : Pos} (hg : Gl X x) (hm : X.mg x = some (.str i t)) (hi : PyData.strOk i = true := by decide +kernel) (hd : (x == ("__debug__" : Str)) = false := by decide) : DE X (.Name x pos) (tC (.str i)) (dC (.str i)) :=
  ⟨pe_glob hg hm ⟨t, rfl⟩ hd, fun R h k => k _ _ _ _ _ h (Same.refl _) R (.str i hi)⟩
abbrev Bk (α : Type) := Shared → Hp → Addr → List (Str × Addr) → List Addr → α
/-- a comprehension whose parts are told within its block -/
theorem de_lcF {elt iter : Expr} {ifs : List Expr} {scope : Scope} {own : List (Str × Nat)} {pos : Pos} {wi : TI} {g : Bk TG} {tt : Bk TT} {te : Bk TE} {t : TSrcC} {gd : TGd} {dt : TB} {de : TD} (hc : X.calm = true) (hN : X.N.Nodup)
    (hi : DIc X tg iter wi t) (ok : BlkOk X.N X.env.scope scope own)
    (hg : ∀ (s : Shared) (H : Hp) (C : Addr) (cl : List (Str × Addr)) (fp : List Addr), DG (X.blk s H scope (compEnvC scope cl C X.env) fp) tg (own.map (·.2)) (g s H C cl fp) gd)
    (ht : ∀ (s : Shared) (H : Hp) (C : Addr) (cl : List (Str × Addr)) (fp : List Addr), DTs (X.blk s H scope (compEnvC scope cl C X.env) fp) ifs (tt s H C cl fp) dt)
    (he : ∀ (s : Shared) (H : Hp) (C : Addr) (cl : List (Str × Addr)) (fp : List Addr), DE (X.blk s H scope (compEnvC scope cl C X.env) fp) elt (te s H C cl fp) de)
    (eg : ∀ s H C cl fp, g s H C cl fp = g X.s_0 H 0 [] [] := by intros; rfl) (et : ∀ s H C cl fp, tt s H C cl fp = tt X.s_0 H 0 [] [] := by intros; rfl) (ee : ∀ s H C cl fp, te s H C cl fp = te X.s_0 H 0 [] [] := by intros; rfl)
    (eg' : ∀ H, g X.s_0 H 0 [] [] = g X.s_0 (fun _ => none) 0 [] [] := by intros; rfl) (et' : ∀ H, tt X.s_0 H 0 [] [] = tt X.s_0 (fun _ => none) 0 [] [] := by intros; rfl) (ee' : ∀ H, te X.s_0 H 0 [] [] = te X.s_0 (fun _ => none) 0 [] [] := by intros; rfl)
    (hs : ∀ x, foldedSetIterable iter X.env x = pure x := by intro _; rfl) :
    DE X (.ListComp elt [⟨tg, iter, ifs, 0⟩] scope pos) (tLc wi (g X.s_0 (fun _ => none) 0 [] []) (tt X.s_0 (fun _ => none) 0 [] []) (te X.s_0 (fun _ => none) 0 [] []) (own.map (·.2))) (dLc t gd dt de (own.map (·.2))) :=
  de_lc hc hN hi ok (fun s H C cl fp => by rw [← eg' H, ← eg s H C cl fp]; exact hg s H C cl fp) (fun s H C cl fp => by rw [← et' H, ← et s H C cl fp]; exact ht s H C cl fp) (fun s H C cl fp => by rw [← ee' H, ← ee s H C cl fp]; exact he s H C cl fp) hs
theorem ds_setLcF {i : Nat} {y : Str} {py : Pos} {elt iter : Expr} {ifs : List Expr} {scope : Scope} {own : List (Str × Nat)} {pos spos : Pos} {wi : TI} {g : Bk TG} {tt : Bk TT} {te : Bk TE} {t : TSrcC} {gd : TGd} {dt : TB} {de : TD} (hc : X.calm = true) (hN : X.N.Nodup)
    (hy : X.N[i]? = some y) (hyl : X.env.scope.names.lookup y = some .local)
    (hsw : swapsWith (.ListComp elt [⟨tg, iter, ifs, 0⟩] scope pos) (some (.Name y py)) spos.line X.env = pure true) (hi : DIc X tg iter wi t) (ok : BlkOk X.N X.env.scope scope own)
    (hg : ∀ (s : Shared) (H : Hp) (C : Addr) (cl : List (Str × Addr)) (fp : List Addr), DG (X.blk s H scope (compEnvC scope cl C X.env) fp) tg (own.map (·.2)) (g s H C cl fp) gd)
    (ht : ∀ (s : Shared) (H : Hp) (C : Addr) (cl : List (Str × Addr)) (fp : List Addr), DTs (X.blk s H scope (compEnvC scope cl C X.env) fp) ifs (tt s H C cl fp) dt)
    (he : ∀ (s : Shared) (H : Hp) (C : Addr) (cl : List (Str × Addr)) (fp : List Addr), DE (X.blk s H scope (compEnvC scope cl C X.env) fp) elt (te s H C cl fp) de)
    (eg : ∀ s H C cl fp, g s H C cl fp = g X.s_0 H 0 [] [] := by intros; rfl) (et : ∀ s H C cl fp, tt s H C cl fp = tt X.s_0 H 0 [] [] := by intros; rfl) (ee : ∀ s H C cl fp, te s H C cl fp = te X.s_0 H 0 [] [] := by intros; rfl)
    (eg' : ∀ H, g X.s_0 H 0 [] [] = g X.s_0 (fun _ => none) 0 [] [] := by intros; rfl) (et' : ∀ H, tt X.s_0 H 0 [] [] = tt X.s_0 (fun _ => none) 0 [] [] := by intros; rfl) (ee' : ∀ H, te X.s_0 H 0 [] [] = te X.s_0 (fun _ => none) 0 [] [] := by intros; rfl)
    (hs : ∀ x, foldedSetIterable iter X.env x = pure x := by intro _; rfl) :
    DS X (.Assign [.Name y py] (.ListComp elt [⟨tg, iter, ifs, 0⟩] scope pos) spos) (tAsg (tLc wi (g X.s_0 (fun _ => none) 0 [] []) (tt X.s_0 (fun _ => none) 0 [] []) (te X.s_0 (fun _ => none) 0 [] []) (own.map (·.2))) (gName i)) (sSet i (dLc t gd dt de (own.map (·.2)))) :=
  ds_setLc hc hN hy hyl hsw hi ok (fun s H C cl fp => by rw [← eg' H, ← eg s H C cl fp]; exact hg s H C cl fp) (fun s H C cl fp => by rw [← et' H, ← et s H C cl fp]; exact ht s H C cl fp) (fun s H C cl fp => by rw [← ee' H, ← ee s H C cl fp]; exact he s H C cl fp) hs
end
end DL

namespace DL
open PySem L2
theorem le_size {n : Nat} (h : n ≤ 16777216) : n ≤ sizeLine := by rw [sizeLine_eq]; omega
theorem lt_size {n : Nat} (h : n < 16777216) : n < sizeLine := by rw [sizeLine_eq]; omega
/-! ### loops, by what holds before each round -/
theorem forL_on {α : Type} (f : α → D) {g : TGd} {b : TSD} {E : EndsD} (I : List α → List α → SL → Prop) {l : List α} {ρ : SL} (hI : I [] l ρ) (h0 : ∀ ρ, I l [] ρ → E.nx ρ)
    (h1 : ∀ (p : List α) (x : α) (r : List α) (ρ : SL) (N : SL → Prop), l = p ++ x :: r → (∀ ρ', I (p ++ [x]) r ρ' → N ρ') → I p (x :: r) ρ → g (f x) ρ fun ρ1 => b { nx := N, rt := E.rt, bk := E.nx, ct := N, xc := E.xc, xh := E.xh } ρ1) : forL g b E (l.map f) ρ := by
  have key : ∀ (r p : List α) (ρ : SL), l = p ++ r → I p r ρ → forL g b E (r.map f) ρ := by
    intro r
    induction r with
    | nil => intro p ρ e h; rw [List.append_nil] at e; subst e; exact h0 _ h
    | cons x r ih => intro p ρ e h; exact h1 p x r ρ _ e (fun ρ' h' => ih (p ++ [x]) ρ' (by rw [e]; simp) h') h
  exact key l [] ρ rfl hI
theorem forL_rng {g : TGd} {b : TSD} {E : EndsD} {lo c : Int} {n : Nat} (I : Nat → SL → Prop) {ρ : SL} (hI : I 0 ρ) (h0 : ∀ ρ, I n ρ → E.nx ρ)
    (h1 : ∀ (i : Nat) (ρ : SL) (N : SL → Prop), i < n → (∀ ρ', I (i + 1) ρ' → N ρ') → I i ρ → g (.int (lo + (i : Int) * c)) ρ fun ρ1 => b { nx := N, rt := E.rt, bk := E.nx, ct := N, xc := E.xc, xh := E.xh } ρ1) : forL g b E (rangeC lo c n) ρ := by
  unfold rangeC
  refine forL_on _ (fun p r ρ => I p.length ρ) hI (fun ρ h => h0 ρ (by rw [List.length_range] at h; exact h)) fun p x r ρ N e hN h => ?_
  have hp : x = p.length := by
    have := congrArg (fun l => l[p.length]?) e
    simp only [List.getElem?_append_right (Nat.le_refl _), Nat.sub_self, List.getElem?_cons_zero] at this
    by_cases q : p.length < n
    · rw [List.getElem?_range q] at this; cases this; rfl
    · rw [List.getElem?_eq_none (by rw [List.length_range]; omega)] at this; cases this
  have hl : p.length < n := by
    have := congrArg List.length e
    rw [List.length_range, List.length_append, List.length_cons] at this
    omega
  subst hp
  exact h1 p.length ρ N hl (fun ρ' h' => hN ρ' (by rw [List.length_append]; exact h')) h
theorem lcL_on {α : Type} (f : α → D) {g : TGd} {tt : TB} {te : TD} {vs : List Nat} {Q : List D → SL → Prop} (I : List α → List α → List D → SL → Prop) {l : List α} {ρ : SL} (hI : I [] l [] ρ) (h0 : ∀ acc ρ, I l [] acc ρ → Q acc ρ)
    (h1 : ∀ (p : List α) (x : α) (r : List α) (acc : List D) (ρ : SL) (N : List D → SL → Prop), l = p ++ x :: r → (∀ acc' ρ', I (p ++ [x]) r acc' ρ' → N acc' ρ') → I p (x :: r) acc ρ →
      g (f x) ρ fun ρ1 => tt ρ1 fun b ρ2 => if b = true then te ρ2 fun rv ρ3 => acc.length < sizeLine ∧ N (acc ++ [rv.dat]) (wipeD ρ3 vs) else N acc (wipeD ρ2 vs)) : lcL g tt te vs Q (l.map f) [] ρ := by
  have key : ∀ (r p : List α) (acc : List D) (ρ : SL), l = p ++ r → I p r acc ρ → lcL g tt te vs Q (r.map f) acc ρ := by
    intro r
    induction r with
    | nil => intro p acc ρ e h; rw [List.append_nil] at e; subst e; exact h0 _ _ h
    | cons x r ih =>
      intro p acc ρ e h
      exact h1 p x r acc ρ (fun acc ρ => lcL g tt te vs Q (r.map f) acc ρ) e (fun acc' ρ' h' => ih (p ++ [x]) acc' ρ' (by rw [e]; simp) h') h
  exact key l [] [] ρ rfl hI
theorem lcL_rng {g : TGd} {tt : TB} {te : TD} {vs : List Nat} {Q : List D → SL → Prop} {lo c : Int} {n : Nat} (I : Nat → List D → SL → Prop) {ρ : SL} (hI : I 0 [] ρ) (h0 : ∀ acc ρ, I n acc ρ → Q acc ρ)
    (h1 : ∀ (i : Nat) (acc : List D) (ρ : SL) (N : List D → SL → Prop), i < n → (∀ acc' ρ', I (i + 1) acc' ρ' → N acc' ρ') → I i acc ρ →
      g (.int (lo + (i : Int) * c)) ρ fun ρ1 => tt ρ1 fun b ρ2 => if b = true then te ρ2 fun rv ρ3 => acc.length < sizeLine ∧ N (acc ++ [rv.dat]) (wipeD ρ3 vs) else N acc (wipeD ρ2 vs)) : lcL g tt te vs Q (rangeC lo c n) [] ρ := by
  unfold rangeC
  refine lcL_on _ (fun p r acc ρ => I p.length acc ρ) hI (fun acc ρ h => h0 acc ρ (by rw [List.length_range] at h; exact h)) fun p x r acc ρ N e hN h => ?_
  have hp : x = p.length := by
    have := congrArg (fun l => l[p.length]?) e
    simp only [List.getElem?_append_right (Nat.le_refl _), Nat.sub_self, List.getElem?_cons_zero] at this
    by_cases q : p.length < n
    · rw [List.getElem?_range q] at this; cases this; rfl
    · rw [List.getElem?_eq_none (by rw [List.length_range]; omega)] at this; cases this
  have hl : p.length < n := by
    have := congrArg List.length e
    rw [List.length_range, List.length_append, List.length_cons] at this
    omega
  subst hp
  exact h1 p.length acc ρ N hl (fun acc' ρ' h' => hN acc' ρ' (by rw [List.length_append]; exact h')) h
/-! ### places -/
theorem ixN_int {n : Nat} {k : Int} (h0 : 0 ≤ k) (h : k < n) : ixN n k = some k.toNat := by
  unfold ixN
  rw [if_pos h0, if_pos h]
theorem atI_int {α : Type} {l : List α} {k : Int} {x : α} (h0 : 0 ≤ k) (h : l[k.toNat]? = some x) : atI l k = some x := by
  unfold atI
  have := (List.getElem?_eq_some_iff.mp h).1
  rw [ixN_int h0 (by omega)]
  exact h
theorem atI_last {α : Type} {l : List α} {x : α} (h : l.getLast? = some x) : atI l (-1) = some x := by
  have hl : 0 < l.length := by
    cases l with
    | nil => cases h
    | cons a r => simp
  unfold atI ixN
  rw [if_neg (by omega), if_pos (by omega)]
  have e : ((-1 : Int) + l.length).toNat = l.length - 1 := by omega
  show l[((-1 : Int) + l.length).toNat]? = some x
  rw [e, ← List.getLast?_eq_getElem?]
  exact h
/-! ### cuts -/
theorem cut_to {α : Type} (l : List α) (k : Nat) : cut l none (some (k : Int)) = l.take k := by
  unfold cut
  rw [HT.sIx_none, HT.sIx_nat]
  simp
theorem cut_from {α : Type} (l : List α) (k : Nat) : cut l (some (k : Int)) none = l.drop k := by
  unfold cut
  rw [HT.sIx_none, HT.sIx_nat]
  by_cases h : k ≤ l.length
  · rw [Nat.min_eq_left h]
    exact List.take_of_length_le (by rw [List.length_drop]; omega)
  · rw [Nat.min_eq_right (by omega), List.drop_eq_nil_of_le (Nat.le_refl _), List.drop_eq_nil_of_le (by omega), List.take_nil]
theorem cut_le {α : Type} (l : List α) (lo hi : Option Int) : (cut l lo hi).length ≤ l.length := by
  unfold cut
  rw [List.length_take, List.length_drop]
  omega
theorem cut_map {α β : Type} (f : α → β) (l : List α) (lo hi : Option Int) : cut (l.map f) lo hi = (cut l lo hi).map f := by
  unfold cut
  rw [List.length_map, List.map_take, List.map_drop]
/-! ### cuts between statements -/
theorem sSeq_cut {t u : TSD} {E : EndsD} {ρ : SL} (M : SL → Prop) (h1 : ∀ N : SL → Prop, (∀ ρ', M ρ' → N ρ') → t { E with nx := N } ρ) (h2 : ∀ ρ', M ρ' → u E ρ') : sSeq t u E ρ := h1 _ h2
theorem sSeq_go {t u : TSD} {E : EndsD} {ρ : SL} (h1 : ∀ N : SL → Prop, (∀ ρ', u E ρ' → N ρ') → t { E with nx := N } ρ) : sSeq t u E ρ := h1 _ fun _ h => h
theorem sIf_go {t : TB} {u w : TSD} {E : EndsD} {ρ : SL} (h : ∀ N : Bool → SL → Prop, (∀ ρ', u E ρ' → N true ρ') → (∀ ρ', w E ρ' → N false ρ') → t ρ N) : sIf t u w E ρ :=
  h _ (fun ρ' h => by rw [if_pos rfl]; exact h) (fun ρ' h => by rw [if_neg Bool.false_ne_true]; exact h)
theorem gEq_int {f : Bool → Bool} {i j : Int} {Q : Rv → Prop} : gEq f (.int i) (.int j) Q = Q (.v (.bl (f (decide (i = j))))) := by
  show gEqD f (.int i) (.int j) Q = _
  unfold gEqD
  rw [D.fit, D.fit, D.eqv]
  simp only [true_and]
  congr
theorem Str.beq_dec (x y : Str) : (x == y) = decide (x = y) := by
  by_cases h : x = y
  · subst h; simp
  · rw [decide_eq_false h]; exact beq_false_of_ne h
theorem gEq_str {f : Bool → Bool} {i j : Str} {Q : Rv → Prop} : gEq f (.str i) (.str j) Q = Q (.v (.bl (f (decide (i = j))))) := by
  show gEqD f (.str i) (.str j) Q = _
  unfold gEqD
  rw [D.fit, D.fit, D.eqv, Str.beq_dec]
  simp only [true_and]
theorem atI_0 {α : Type} {x : α} {l : List α} : atI (x :: l) 0 = some x := atI_int (by decide) rfl
theorem atI_1 {α : Type} {x y : α} {l : List α} : atI (x :: y :: l) 1 = some y := atI_int (by decide) rfl
theorem atI_2 {α : Type} {x y z : α} {l : List α} : atI (x :: y :: z :: l) 2 = some z := atI_int (by decide) rfl
theorem atI_3 {α : Type} {x y z u : α} {l : List α} : atI (x :: y :: z :: u :: l) 3 = some u := atI_int (by decide) rfl
theorem atI_4 {α : Type} {x y z u v : α} {l : List α} : atI (x :: y :: z :: u :: v :: l) 4 = some v := atI_int (by decide) rfl
theorem atI_5 {α : Type} {x y z u v w : α} {l : List α} : atI (x :: y :: z :: u :: v :: w :: l) 5 = some w := atI_int (by decide) rfl
theorem ixN_40 : ixN 4 0 = some 0 := by decide
theorem ixN_41 : ixN 4 1 = some 1 := by decide
theorem ixN_42 : ixN 4 2 = some 2 := by decide
theorem cMul_of {i j : Int} (ha : i.natAbs < 2 ^ 250) (hb : j.natAbs < 2 ^ 250) : CMulW i j := wide_mul ha hb (by decide) (by decide) (by decide)
theorem cDiv_of {i j : Int} (h : 0 < j) (hb : j.natAbs < 2 ^ 250) : CDivW i j := wide_div h hb (by decide) (by decide)
theorem nodup1 {i : Nat} : [i].Nodup ↔ True := by simp
theorem gMin2 {i j : Int} {Q : Rv → Prop} : gMin [.int i, .int j] Q = Q (.v (.int (min i j))) := rfl
theorem gMax2 {i j : Int} {Q : Rv → Prop} : gMax [.int i, .int j] Q = Q (.v (.int (max i j))) := rfl
theorem gMax3 {i j k : Int} {Q : Rv → Prop} : gMax [.int i, .int j, .int k] Q = Q (.v (.int (max (max i j) k))) := rfl
mutual
theorem eqv_self : ∀ d : D, (∃ n, D.fit n d = true) → D.eqv d d = true
  | .non, _ => by simp [D.eqv]
  | .bl _, _ => by simp [D.eqv]
  | .int _, _ => by simp [D.eqv]
  | .str _, _ => by simp [D.eqv]
  | .lst l, ⟨n, h⟩ => by
    cases n with
    | zero => simp [D.fit] at h
    | succ n => rw [D.fit] at h; rw [D.eqv]; exact eqvs_self l ⟨n, h⟩
  | .tup l, ⟨n, h⟩ => by
    cases n with
    | zero => simp [D.fit] at h
    | succ n => rw [D.fit] at h; rw [D.eqv]; exact eqvs_self l ⟨n, h⟩
  | .dct _, ⟨_, h⟩ => by simp [D.fit] at h
  | .obj _ _, ⟨_, h⟩ => by simp [D.fit] at h
  | .scr _, ⟨_, h⟩ => by simp [D.fit] at h
  | .rep _, ⟨_, h⟩ => by simp [D.fit] at h
theorem eqvs_self : ∀ l : List D, (∃ n, D.fits n l = true) → D.eqvs l l = true
  | [], _ => by simp [D.eqvs]
  | d :: r, ⟨n, h⟩ => by
    rw [D.fits, Bool.and_eq_true] at h
    rw [D.eqvs, eqv_self d ⟨n, h.1⟩, eqvs_self r ⟨n, h.2⟩]
    rfl
end
theorem gEq_self {f : Bool → Bool} {d : D} {Q : Rv → Prop} (h : D.fit 60 d = true) (q : Q (.v (.bl (f true)))) : gEq f d d Q := by
  have e := eqv_self d ⟨60, h⟩
  cases d with
  | rep d => simp [D.fit] at h
  | _ => exact ⟨h, h, by rw [e]; exact q⟩
theorem gEq_rep {f : Bool → Bool} {d : D} {Q : Rv → Prop} (q : Q (.v (.bl (f true)))) : gEq f (.rep d) (.rep d) Q := by
  show Q (.v (.bl (f (decide (d.py.shown = d.py.shown)))))
  rw [decide_eq_true rfl]
  exact q
theorem dat_sh {d : D} : (Sl.sh d).dat = some d := rfl
theorem dat_ow {c : Cn} : (Sl.ow c).dat = some c.dat := rfl
theorem dat_bw {j : Nat} {c : Cn} : (Sl.bw j c).dat = some c.dat := rfl
theorem dat_un : Sl.un.dat = none := rfl
theorem gEq_bl {f : Bool → Bool} {i j : Bool} {Q : Rv → Prop} : gEq f (.bl i) (.bl j) Q = Q (.v (.bl (f (i == j)))) := by
  show gEqD f (.bl i) (.bl j) Q = _
  unfold gEqD
  rw [D.fit, D.fit, D.eqv]
  simp only [true_and]
theorem fits_strs : ∀ (n : Nat) (l : List Str), D.fits n (l.map D.str) = true
  | n, [] => by simp [D.fits]
  | n, x :: r => by rw [List.map_cons, D.fits, fits_strs n r]; cases n <;> simp [D.fit]
theorem fit_strs (l : List Str) : D.fit 60 (.lst (l.map D.str)) = true := by rw [D.fit]; exact fits_strs 59 l
theorem eqvs_strs : ∀ a b : List Str, D.eqvs (a.map D.str) (b.map D.str) = decide (a = b)
  | [], [] => by simp [D.eqvs]
  | [], _ :: _ => by simp [D.eqvs]
  | _ :: _, [] => by simp [D.eqvs]
  | x :: a, y :: b => by
    rw [List.map_cons, List.map_cons, D.eqvs, eqvs_strs a b, D.eqv, Str.beq_dec]
    simp only [List.cons.injEq, Bool.decide_and]
theorem gEq_strs {f : Bool → Bool} {a b : List Str} {Q : Rv → Prop} : gEq f (.lst (a.map D.str)) (.lst (b.map D.str)) Q = Q (.v (.bl (f (decide (a = b))))) := by
  show gEqD f _ _ Q = _
  unfold gEqD
  rw [fit_strs, fit_strs, D.eqv, eqvs_strs]
  simp only [true_and]
end DL

namespace DL
open PySem L2
/-! ### how long a shown text may be -/
theorem digs16 {c k : Nat} (hk : 0 < k) (h : c < 16 ^ k) : (Nat.toDigits 16 c).length ≤ k := (Nat.length_toDigits_le_iff (by decide) hk).mpr h
theorem reprChar_len {q c : Nat} (h : c < 0x110000) : (Builtin.Str.reprChar q c).length ≤ 10 := by
  have hx : ∀ k, 0 < k → c < 16 ^ k → (List.replicate (k - ((Nat.toDigits 16 c).map Char.toNat).length) 48 ++ (Nat.toDigits 16 c).map Char.toNat).length ≤ k := fun k hk hc => by
    have := digs16 hk hc
    rw [List.length_append, List.length_replicate, List.length_map]
    omega
  unfold Builtin.Str.reprChar
  simp only
  split
  · simp
  · split
    · simp
    · split
      · simp
      · split
        · simp
        · split
          · simp
          · split
            · rename_i h1
              have := hx 2 (by decide) (Nat.lt_of_lt_of_le h1 (by decide))
              rw [List.length_append]
              simp only [List.length_cons, List.length_nil]
              omega
            · split
              · rename_i h1
                have := hx 4 (by decide) (Nat.lt_of_lt_of_le h1 (by decide))
                rw [List.length_append]
                simp only [List.length_cons, List.length_nil]
                omega
              · have := hx 8 (by decide) (Nat.lt_of_lt_of_le h (by decide))
                rw [List.length_append]
                simp only [List.length_cons, List.length_nil]
                omega
theorem fold_repr_len (q : Nat) : ∀ (l : List Nat) (acc : Array Nat), (∀ c ∈ l, c < 0x110000) → (l.foldl (fun out c => out ++ (Builtin.Str.reprChar q c).toArray) acc).size ≤ acc.size + 10 * l.length
  | [], acc, _ => by simp
  | c :: r, acc, h => by
    rw [List.foldl_cons]
    refine Nat.le_trans (fold_repr_len q r _ fun x hx => h x (List.mem_cons_of_mem _ hx)) ?_
    have := reprChar_len (q := q) (h c List.mem_cons_self)
    have e : (Builtin.Str.reprChar q c).toArray.size = (Builtin.Str.reprChar q c).length := List.size_toArray ..
    rw [Array.size_append, e, List.length_cons]
    omega
theorem reprText_len {x : Str} (h : PyData.strOk x = true) : (reprText x).length ≤ 10 * x.length + 2 := by
  rw [strOk_iff] at h
  unfold reprText
  show (Array.push _ _).size ≤ _
  rw [Array.size_push, ← Array.foldl_toList]
  have := fold_repr_len (reprQuote x) x.cps.toList #[reprQuote x] h
  rw [Array.length_toList] at this
  show _ ≤ 10 * x.cps.size + 2
  have e : #[reprQuote x].size = 1 := rfl
  omega
mutual
def D.wt : D → Nat
  | .int _ => 250
  | .str x => 10 * x.length + 2
  | .lst l => 4 + D.wts l
  | .tup l => 4 + D.wts l
  | .non => 10
  | .bl _ => 10
  | .dct kvs => 10 + D.wtk kvs
  | .obj _ _ => 10
  | .scr _ => 10
  | .rep _ => 10
  | .at _ => 10
  | .exc _ _ _ _ _ => 10
  | .dx _ _ => 10
  | .unk => 10
def D.wts : List D → Nat
  | [] => 0
  | d :: r => D.wt d + 2 + D.wts r
def D.wtk : List (Key × D) → Nat
  | [] => 0
  | (.inl _, d) :: r => 256 + D.wt d + D.wtk r
  | (.inr x, d) :: r => 10 * x.length + 8 + D.wt d + D.wtk r
end
@[simp] theorem wtk_nil : D.wtk [] = 0 := by rw [D.wtk]
theorem join_le (ts : List Str) : (Str.join ", " ts).length ≤ (ts.map fun t => t.length + 2).sum := by
  cases ts with
  | nil => exact Nat.zero_le _
  | cons a r =>
    have := join_length_add (a :: r) (by simp)
    unfold piled at this
    omega
mutual
theorem shown_wt {K : PySem.W.Frag} {F : Hp} : ∀ (n : Nat) (d : D) (v : V), Den K F v d → D.fit n d = true → D.small d = true → d.py.shown.length ≤ D.wt d
  | _, .non, _, _, _, _ => by rw [D.py, PyData.shown_none, D.wt]; decide +kernel
  | _, .bl b, _, _, _, _ => by rw [D.py, PyData.shown_bool, D.wt]; cases b <;> decide +kernel
  | _, .int i, _, _, _, h => by
    have h1 : i.natAbs < 2 ^ 240 := by simpa [D.small] using h
    rw [D.py, PyData.shown_int, D.wt, ofString_length]
    have := int_text_length_le (a := i) (k := 240) (by decide) (by
      by_cases h0 : i.natAbs = 0
      · rw [h0]; decide
      · exact (Nat.log2_lt h0).mpr h1)
    omega
  | _, .str x, _, d, _, _ => by
    cases d with
    | str _ a => rw [D.py, PyData.shown_str, D.wt]; exact reprText_len a
  | 0, .lst _, _, _, e, _ => by simp [D.fit] at e
  | 0, .tup _, _, _, e, _ => by simp [D.fit] at e
  | n + 1, .lst l, _, d, e, h => by
    rw [D.fit] at e
    rw [D.small] at h
    cases d with
    | lst a b =>
      have h1 := showns_wt n l _ b e h
      have h2 := join_le (PyData.shownAll (D.pys l))
      rw [D.py, PyData.shown_list, D.wt, strLen_append, strLen_append]
      have e1 : (Str.ofString "[").length = 1 := rfl
      have e2 : (Str.ofString "]").length = 1 := rfl
      omega
  | n + 1, .tup l, _, d, e, h => by
    rw [D.fit] at e
    rw [D.small] at h
    cases d with
    | tup a b =>
      have h1 := showns_wt n l _ b e h
      have h2 := join_le (PyData.shownAll (D.pys l))
      rw [D.py, PyData.shown_tuple, D.wt, strLen_append, strLen_append]
      have e1 : (Str.ofString "(").length = 1 := rfl
      have e2 : (Str.ofString (if ((D.pys l).length == 1) = true then ",)" else ")")).length ≤ 2 := by split <;> decide
      omega
  | _, .dct _, _, _, e, _ => by simp [D.fit] at e
  | _, .obj _ _, _, _, e, _ => by simp [D.fit] at e
  | _, .scr _, _, _, e, _ => by simp [D.fit] at e
  | _, .rep _, _, _, e, _ => by simp [D.fit] at e
  | _, .at _, _, _, e, _ => by simp [D.fit] at e
  | _, .exc _ _ _ _ _, _, _, e, _ => by simp [D.fit] at e
  | _, .dx _ _, _, _, e, _ => by simp [D.fit] at e
  | _, .unk, _, _, e, _ => by simp [D.fit] at e
theorem showns_wt {K : PySem.W.Frag} {F : Hp} : ∀ (n : Nat) (l : List D) (vs : List V), DenL K F vs l → D.fits n l = true → D.smalls l = true → ((PyData.shownAll (D.pys l)).map fun t => t.length + 2).sum ≤ D.wts l
  | _, [], _, _, _, _ => by rw [D.pys, PyData.shownAll_nil, D.wts]; exact Nat.le_refl _
  | n, d :: r, _, h, e, s => by
    rw [D.fits, Bool.and_eq_true] at e
    rw [D.smalls, Bool.and_eq_true] at s
    cases h with
    | cons a b =>
      have h1 := shown_wt n d _ a e.1 s.1
      have h2 := showns_wt n r _ b e.2 s.2
      rw [D.pys, PyData.shownAll_cons, D.wts, List.map_cons, List.sum_cons]
      omega
end
section
variable {X : Cx}
/-! ### isinstance, one built-in type -/
def D.ty : D → Option String
  | .non => some "NoneType"
  | .bl _ => some "bool"
  | .int _ => some "int"
  | .str _ => some "str"
  | .lst _ => some "list"
  | .tup _ => some "tuple"
  | .dct _ => some "dict"
  | _ => none
def isTy (t T : String) : Bool := t == T || (t == "bool" && T == "int")
def tyNames : List String := ["NoneType", "bool", "int", "str", "list", "tuple", "dict"]
theorem kit_isTy (K : PySem.W.Frag) : ∀ t ∈ tyNames, ∀ T ∈ tyNames, PySem.W.kitOne K (.type t) (.type T) = some (isTy t T) := by
  intro t ht T hT
  simp only [tyNames, List.mem_cons, List.not_mem_nil, or_false] at ht hT
  rcases ht with rfl | rfl | rfl | rfl | rfl | rfl | rfl <;> rcases hT with rfl | rfl | rfl | rfl | rfl | rfl | rfl <;> kernel_rfl
theorem D.ty_mem {d : D} {t : String} (h : d.ty = some t) : t ∈ tyNames := by
  cases d <;> cases h <;> decide
theorem Pk.ty {K : PySem.W.Frag} {F H : Hp} {v : V} {d : D} {t : String} (e : Same F H) (h : Pk K F H v d) (q : d.ty = some t) : TyX K H v (.type t) := by
  cases d with
  | non => cases q; cases h.non; exact .base .non
  | bl b => cases q; cases h.bl; exact .base (.bl _)
  | int i => cases q; cases h.int; exact .base (.int _)
  | str x => cases q; cases h.str; exact .base (.str _)
  | lst l => cases q; obtain ⟨p, xs, rfl, a, b⟩ := h.lst e; exact .base (.lst a)
  | tup l => cases q; obtain ⟨p, xs, rfl, a, b⟩ := h.tup; exact .base (.tup (e _ _ a))
  | dct l => cases q; obtain ⟨p, xs, rfl, a, b⟩ := h.dct e; exact .base (.dK a)
  | _ => cases q
def gIsi (T : String) : D → (Rv → Prop) → Prop := fun d Q => ∃ t, d.ty = some t ∧ Q (.v (.bl (isTy t T)))
theorem de_isi {T : String} {y : Str} {e : Expr} {te : TE} {t : TQ} {p p2 pos : Pos} (hg : Gl X "isinstance") (hm : X.mg "isinstance" = none) (he : DO X e te t) (hgT : Gl X y) (hmT : X.mg y = none) (hv : bootBuiltins y = some (.type T)) (hT : T ∈ tyNames) (hy : y ≠ "__name__" := by decide) (hdy : (y == ("__debug__" : Str)) = false := by decide)
    (hs2 : starEach [.Name y p2] X.env = (false, eval (.Name y p2) X.env) :: starEach [] X.env := by rfl)
    (hs : starEach [e, .Name y p2] X.env = (false, eval e X.env) :: starEach [.Name y p2] X.env := by rfl) (hpl : (backTo pos (starEach [.Name y p2] X.env)).any (·.1) = false := by rfl) :
    DE X (.Call (.Name "isinstance" p) [e, .Name y p2] [] pos) (tCB (rIsi X.K) (tCons te (tCons (tC (.ty T)) tNil))) (dUn (gIsi T) t) := by
  refine ⟨pe_callB call_isi hg hm PyProof.Rows.boot_isinstance (pa_cons he.pe (pa_cons (pe_bltn hgT hmT hv rfl hy hdy) pa_nil hs2) hs) (by decide) (by decide) hs hpl, fun {G σ H F ρ Q Qd} R q k => ?_⟩
  refine he.sem R q fun o ρ1 v H1 F1 q1 s1 R1 d1 => ?_
  cases ea : o.get ρ1 with
  | none => simp only [ea] at q1
  | some d =>
    simp only [ea] at q1
    obtain ⟨t1, h1, h2⟩ := q1
    exact ⟨v, .ty T, .type t1, .type T, isTy t1 T, rfl, .ty T, (d1.pk R1 ea).ty R1.ext h1, kit_isTy X.K t1 (D.ty_mem h1) T hT, k _ _ _ _ _ h2 s1 R1 (.bl _)⟩
theorem gIsi_non {T : String} {Q : Rv → Prop} : gIsi T .non Q = Q (.v (.bl (isTy "NoneType" T))) := by unfold gIsi; simp [D.ty]
theorem gIsi_bl {T : String} {b : Bool} {Q : Rv → Prop} : gIsi T (.bl b) Q = Q (.v (.bl (isTy "bool" T))) := by unfold gIsi; simp [D.ty]
theorem gIsi_int {T : String} {b : Int} {Q : Rv → Prop} : gIsi T (.int b) Q = Q (.v (.bl (isTy "int" T))) := by unfold gIsi; simp [D.ty]
theorem gIsi_str {T : String} {b : Str} {Q : Rv → Prop} : gIsi T (.str b) Q = Q (.v (.bl (isTy "str" T))) := by unfold gIsi; simp [D.ty]
theorem gIsi_lst {T : String} {b : List D} {Q : Rv → Prop} : gIsi T (.lst b) Q = Q (.v (.bl (isTy "list" T))) := by unfold gIsi; simp [D.ty]
theorem gIsi_tup {T : String} {b : List D} {Q : Rv → Prop} : gIsi T (.tup b) Q = Q (.v (.bl (isTy "tuple" T))) := by unfold gIsi; simp [D.ty]
theorem gIsi_dct {T : String} {b : List (Key × D)} {Q : Rv → Prop} : gIsi T (.dct b) Q = Q (.v (.bl (isTy "dict" T))) := by unfold gIsi; simp [D.ty]
/-! ### x is None, x is True -/
/-! ### more of one's own list -/
def SemMut0 (K : PySem.W.Frag) (r : V → List V → Hp → VK → Prop) (g : List D → (List D → D → Prop) → Prop) : Prop :=
  ∀ {F H : Hp} {p : Addr} {xs : List V} {l : List D} {Q : VK} {Qd : List D → D → Prop}, Same F H → H p = some (.lst xs) → DenL K F xs l → g l Qd →
    (∀ l' d xs' z, Qd l' d → DenL K F xs' l' → Den K F z d → Q z (upd H p (.lst xs'))) → r (.ref p) [] H Q
def mReverse (l : List D) (Q : List D → D → Prop) : Prop := Q l.reverse .non
theorem sem_reverse : SemMut0 X.K rReverse mReverse := by
  intro F H p xs l Q Qd e hp dl h k
  exact ⟨p, xs, rfl, rfl, hp, k _ _ _ _ h dl.rev .non⟩
theorem ty0 : isTy "NoneType" "bool" = false := rfl
theorem ty1 : isTy "NoneType" "int" = false := rfl
theorem ty2 : isTy "NoneType" "str" = false := rfl
theorem ty3 : isTy "NoneType" "list" = false := rfl
theorem ty4 : isTy "NoneType" "tuple" = false := rfl
theorem ty5 : isTy "NoneType" "dict" = false := rfl
theorem ty6 : isTy "bool" "bool" = true := rfl
theorem ty7 : isTy "bool" "int" = true := rfl
theorem ty8 : isTy "bool" "str" = false := rfl
theorem ty9 : isTy "bool" "list" = false := rfl
theorem ty10 : isTy "bool" "tuple" = false := rfl
theorem ty11 : isTy "bool" "dict" = false := rfl
theorem ty12 : isTy "int" "bool" = false := rfl
theorem ty13 : isTy "int" "int" = true := rfl
theorem ty14 : isTy "int" "str" = false := rfl
theorem ty15 : isTy "int" "list" = false := rfl
theorem ty16 : isTy "int" "tuple" = false := rfl
theorem ty17 : isTy "int" "dict" = false := rfl
theorem ty18 : isTy "str" "bool" = false := rfl
theorem ty19 : isTy "str" "int" = false := rfl
theorem ty20 : isTy "str" "str" = true := rfl
theorem ty21 : isTy "str" "list" = false := rfl
theorem ty22 : isTy "str" "tuple" = false := rfl
theorem ty23 : isTy "str" "dict" = false := rfl
theorem ty24 : isTy "list" "bool" = false := rfl
theorem ty25 : isTy "list" "int" = false := rfl
theorem ty26 : isTy "list" "str" = false := rfl
theorem ty27 : isTy "list" "list" = true := rfl
theorem ty28 : isTy "list" "tuple" = false := rfl
theorem ty29 : isTy "list" "dict" = false := rfl
theorem ty30 : isTy "tuple" "bool" = false := rfl
theorem ty31 : isTy "tuple" "int" = false := rfl
theorem ty32 : isTy "tuple" "str" = false := rfl
theorem ty33 : isTy "tuple" "list" = false := rfl
theorem ty34 : isTy "tuple" "tuple" = true := rfl
theorem ty35 : isTy "tuple" "dict" = false := rfl
theorem ty36 : isTy "dict" "bool" = false := rfl
theorem ty37 : isTy "dict" "int" = false := rfl
theorem ty38 : isTy "dict" "str" = false := rfl
theorem ty39 : isTy "dict" "list" = false := rfl
theorem ty40 : isTy "dict" "tuple" = false := rfl
theorem ty41 : isTy "dict" "dict" = true := rfl
end
section
variable {X : Cx}
theorem mid_get {α : Type} {l p r : List α} {x : α} (e : l = p ++ x :: r) : l[p.length]? = some x := by subst e; simp
theorem lcL_ix {g : TGd} {tt : TB} {te : TD} {vs : List Nat} {Q : List D → SL → Prop} (I : Nat → List D → SL → Prop) {l : List D} {ρ : SL} (hI : I 0 [] ρ) (h0 : ∀ acc ρ, I l.length acc ρ → Q acc ρ)
    (h1 : ∀ (i : Nat) (x : D) (acc : List D) (ρ : SL) (N : List D → SL → Prop), l[i]? = some x → (∀ acc' ρ', I (i + 1) acc' ρ' → N acc' ρ') → I i acc ρ →
      g x ρ fun ρ1 => tt ρ1 fun b ρ2 => if b = true then te ρ2 fun rv ρ3 => acc.length < sizeLine ∧ N (acc ++ [rv.dat]) (wipeD ρ3 vs) else N acc (wipeD ρ2 vs)) : lcL g tt te vs Q l [] ρ := by
  have := lcL_on (fun x : D => x) (g := g) (tt := tt) (te := te) (vs := vs) (Q := Q) (fun p r acc ρ => I p.length acc ρ) (l := l) hI (fun acc ρ h => h0 acc ρ h) fun p x r acc ρ N e hN h => h1 p.length x acc ρ N (mid_get e) (fun acc' ρ' h' => hN acc' ρ' (by rw [List.length_append]; exact h')) h
  rwa [List.map_id'] at this
end
end DL

namespace DL
open PySem PySem.Spec L2 PyProof.Rows
/-! ### what is never run -/
theorem ds_dead {X : Cx} {st : Stmt} : DS X st (fun _ _ _ => False) (fun _ _ => False) := ⟨⟨fun pins s σ H D I h => h.elim⟩, fun R q L => q.elim⟩
/-! ### fields -/
section
variable {K : PySem.W.Frag} {F F' : Hp}
theorem DenO.lookup : ∀ {gs : List (Str × V)} {fs : List (Str × D)} {f : Str} {d : D}, DenO K F gs fs → fs.lookup f = some d → ∃ v, gs.lookup f = some v ∧ Den K F v d
  | _, _, f, d, .nil, e => by cases e
  | _, _, f, d, .cons (k := k) a t, e => by
    rw [List.lookup_cons] at e ⊢
    split at e
    · cases e; exact ⟨_, rfl, a⟩
    · exact DenO.lookup t e
theorem DenO.lookup_none : ∀ {gs : List (Str × V)} {fs : List (Str × D)} {f : Str}, DenO K F gs fs → fs.lookup f = none → gs.lookup f = none
  | _, _, f, .nil, e => rfl
  | _, _, f, .cons (k := k) a t, e => by
    rw [List.lookup_cons] at e ⊢
    split at e
    · cases e
    · exact DenO.lookup_none t e
def putFD (f : Str) (v : D) : List (Str × D) → List (Str × D)
  | [] => [(f, v)]
  | (g, x) :: r => if g = f then (g, v) :: r else (g, x) :: putFD f v r
theorem DenO.put {f : Str} {v : V} {d : D} (h : Den K F v d) : ∀ {gs : List (Str × V)} {fs : List (Str × D)}, DenO K F gs fs → DenO K F (putF f v gs) (putFD f d fs)
  | _, _, .nil => .cons h .nil
  | _, _, .cons (k := k) a t => by
    unfold putF putFD
    by_cases e : k = f
    · rw [if_pos e, if_pos e]; exact .cons h t
    · rw [if_neg e, if_neg e]; exact .cons a (DenO.put h t)
theorem DenO.length : ∀ {gs : List (Str × V)} {fs : List (Str × D)}, DenO K F gs fs → gs.length = fs.length
  | _, _, .nil => rfl
  | _, _, .cons _ t => by rw [List.length_cons, List.length_cons, t.length]
end
section
variable {X : Cx}
def gAttr (C : Addr) (f : Str) : D → (Rv → Prop) → Prop := fun d Q => match d with
  | .obj C' fs => C' = C ∧ ∃ x, fs.lookup f = some x ∧ Q (.v x)
  | _ => False
theorem de_attr {C : Addr} {f : Str} {e : Expr} {te : TE} {t : TQ} {pos : Pos} (c : Cls X.K C) (n : NoAttr X.K C f) (he : DO X e te t) (hb : attributeBase e f X.env (eval e X.env) = eval e X.env := by rfl) :
    DE X (.Attribute e f pos) (tFld X.K te f) (dUn (gAttr C f) t) := by
  refine ⟨pe_fld he.pe hb, fun {G σ H F ρ Q Qd} R q k => he.sem R q fun o ρ1 v H1 F1 q1 s1 R1 d1 => ?_⟩
  cases ea : o.get ρ1 with
  | none => simp only [ea] at q1
  | some d =>
    simp only [ea] at q1
    cases d with
    | obj C' fs =>
      obtain ⟨rfl, x, l, q1⟩ := q1
      obtain ⟨p, dx, gs, rfl, h1, h2⟩ := (d1.pk R1 ea).obj R1.ext
      obtain ⟨w, l2, dw⟩ := h2.lookup l
      -- the field's content stays
      rcases d1.pk R1 ea with z | ⟨p', c', e1, e2, hh⟩
      · cases z with
        | obj a b =>
          have e := R1.ext _ _ a
          rw [h1] at e; cases e
          obtain ⟨w', l3, dw'⟩ := b.lookup l
          exact ⟨_, _, dx, gs, w', rfl, h1, c, n, l3, k _ _ _ _ _ q1 s1 R1 dw'⟩
      · cases e1
        cases c' with
        | o C2 fs2 =>
          cases e2
          obtain ⟨dx', gs', a, b⟩ := hh
          rw [h1] at a; cases a
          obtain ⟨w', l3, dw'⟩ := b.lookup l
          exact ⟨_, _, dx, gs, w', rfl, h1, c, n, l3, k _ _ _ _ _ q1 s1 R1 dw'⟩
        | l _ => cases e2
        | d _ => cases e2
        | k _ _ _ => cases e2
        | x _ _ => cases e2
    | _ => exact q1.elim
/-- o.f = e, o one's own object -/
def sSetF (C : Addr) (i : Nat) (f : Str) (t : TD) : TSD := fun E ρ => t ρ fun r ρ1 => match slC ρ1 i with
  | some (s, .o C' fs) => C' = C ∧ fs.length < 1000 ∧ E.nx (ρ1.set i (s.with (.o C (putFD f r.dat fs))))
  | _ => False
theorem ds_setF {C : Addr} {i : Nat} {f : Str} {x : Str} {px pos pos' : Pos} {e : Expr} {te : TE} {t : TD} (c : Cls X.K C) (n : NoAttr X.K C f) (ho : PE X (.Name x px) (tVar i)) (he : DE X e te t) (hs : swapsWith e (some (.Attribute (.Name x px) f pos')) pos.line X.env = pure false := by rfl) :
    DS X (.Assign [.Attribute (.Name x px) f pos'] e pos) (sFld X.K (tVar i) te f) (sSetF C i f t) := by
  refine ⟨ps_fld ho he.pe hs, fun {G σ H F ρ D E} R q L => he.sem R q fun r ρ1 v H1 F1 q1 s1 R1 rd => ?_⟩
  obtain ⟨F2, s2, R2, d2⟩ := R1.share rd
  cases e1 : slC ρ1 i with
  | none => simp only [e1] at q1
  | some sc =>
    obtain ⟨s, cn⟩ := sc
    cases cn with
    | l _ => simp only [e1] at q1
    | d _ => simp only [e1] at q1
    | k _ _ _ => simp only [e1] at q1
    | x _ _ => simp only [e1] at q1
    | o C' fs =>
      simp only [e1] at q1
      obtain ⟨rfl, hl, q1⟩ := q1
      obtain ⟨a1, b1⟩ := slC_some e1
      obtain ⟨p, hp, ⟨dx, gs, h1, h2⟩, _⟩ := R2.owned a1 b1
      exact ⟨_, hp, p, _, dx, gs, rfl, h1, c, n, by rw [h2.length]; exact hl, L.nx _ _ _ _ q1 (R2.write a1 b1 hp ⟨dx, _, upd_same, DenO.put d2 h2⟩)⟩
/-! ### methods -/
theorem pe_methG {CX : CXT} {k : Nat} {C f : Addr} {fd : FuncData} {ps : List Str} {sp : Sp} {E : XK} {m : Str} {pos apos : Pos} {e o : Expr} {es : List Expr} {ta : TE} {t : TA} {pl : Sem Bool} (he : PE X o ta) (c : Cls X.K C) (hm : Meth X.K C m f)
    (Fk : FnG X.prog X.w X.K X.mg X.base CX k f fd ps sp) (hgd : X.A.guards = some []) (hr : Room k X.A) (hb : Binds X.K fd ps []) (hx : Passes CX X E) (ha : PA X (e :: es) t)
    (hst : starEach (e :: es) X.env = (false, eval e X.env) :: starEach es X.env := by rfl) (hpl : (backTo pos (starEach es X.env)).any (·.1) = false := by rfl)
    (ht : eval (.Call (.Attribute o m apos) (e :: es) [] pos) X.env = (do
      let ov ← eval o X.env
      standAt apos.atName
      let (f, first) ← holding [ov] (getMethod ov m pl)
      callWith pos f first (backTo pos (starEach (e :: es) X.env)) (backToKw pos (keywordEach [] X.env))) := by rfl) :
    PE X (.Call (.Attribute o m apos) (e :: es) [] pos) (tMethR C m sp E ta t) := by
  refine ⟨fun pins s σ H Q I h => ?_⟩
  refine PySem.W.methodCall_KW (pl := pl) (thn (he.run pins s σ H _ I h) fun u s1 ⟨x, H1, I1, rx, a, dx, fs, ex, ea, l, q⟩ => ?_) ht
  subst ex
  obtain rfl : u = Value.ref a := rx
  refine getmeth_ok I1 ea c hm l ?_
  refine PySem.W.callWith_K (first := [.ref a]) (h₀ := X.base) I.ok.mod.kin hm.kp (thn (ha.run pos pins s1 σ H1 _ I1 q) fun us s2 ⟨vs, H2, I2, r, q2⟩ => ⟨I2.kIn, ?_⟩) hst hpl
  exact Fk.call (us := .ref a :: us) (vs := .ref a :: vs) hgd hr hb hx I2 (.cons rfl r) q2
theorem pe_methG0 {CX : CXT} {k : Nat} {C f : Addr} {fd : FuncData} {ps : List Str} {sp : Sp} {E : XK} {m : Str} {pos apos : Pos} {o : Expr} {ta : TE} {pl : Sem Bool} (he : PE X o ta) (c : Cls X.K C) (hm : Meth X.K C m f)
    (Fk : FnG X.prog X.w X.K X.mg X.base CX k f fd ps sp) (hgd : X.A.guards = some []) (hr : Room k X.A) (hb : Binds X.K fd ps []) (hx : Passes CX X E)
    (ht : eval (.Call (.Attribute o m apos) [] [] pos) X.env = (do
      let ov ← eval o X.env
      standAt apos.atName
      let (f, first) ← holding [ov] (getMethod ov m pl)
      callWith pos f first (backTo pos (starEach [] X.env)) (backToKw pos (keywordEach [] X.env))) := by rfl) :
    PE X (.Call (.Attribute o m apos) [] [] pos) (tMethR C m sp E ta tNil) := by
  refine ⟨fun pins s σ H Q I h => ?_⟩
  refine PySem.W.methodCall_KW (pl := pl) (thn (he.run pins s σ H _ I h) fun u s1 ⟨x, H1, I1, rx, a, dx, fs, ex, ea, l, q⟩ => ?_) ht
  subst ex
  obtain rfl : u = Value.ref a := rx
  refine getmeth_ok I1 ea c hm l ?_
  exact PySem.W.callWith_K0 (first := [.ref a]) I1.kIn hm.kp (Fk.call (us := [.ref a]) (vs := [.ref a]) hgd hr hb hx I1 (.cons rfl .nil) q)
/-- what an object is, looked at as self -/
def isObjD (C : Addr) (m : Str) : D → Prop
  | .obj C' fs => C' = C ∧ fs.lookup m = none
  | _ => False
theorem objD_at {K : PySem.W.Frag} {F H : Hp} {v : V} {d : D} {C : Addr} {m : Str} (e : Same F H) (h : Pk K F H v d) (q : isObjD C m d) : ∃ a dx gs, v = .ref a ∧ H a = some (.ins C dx gs) ∧ gs.lookup m = none := by
  cases d with
  | obj C' fs =>
    obtain ⟨rfl, l⟩ := q
    obtain ⟨p, dx, gs, rfl, h1, h2⟩ := h.obj e
    exact ⟨p, dx, gs, rfl, h1, h2.lookup_none l⟩
  | _ => exact q.elim
/-- o.m(..), o a thing that stays -/
def dMethV (C : Addr) (m : Str) (sp : SpD) (t : TD) (u : TAg) : TD := fun ρ Q => t ρ fun r ρ1 => isObjD C m r.dat ∧ dCall sp (fun ρ' K => u ρ' fun os ρ2 => K (.val r.dat :: os) ρ2) ρ1 Q
theorem sem_methV {C f : Addr} {m : Str} {sp : SpD} {o : Expr} {ta : TE} {tb : TA} {t : TD} {u : TAg} {E : XK} (he : DE X o ta t)
    (hu : ∀ {G : Cd} {σ : L2.St} {H F : Hp} {ρ : SL} {Q : List V → Hp → Prop} {Qd : List AOp → SL → Prop}, Rep X.K G σ H F ρ → u ρ Qd → (∀ os ρ' vs H' F', Qd os ρ' → Same F F' → Rep X.K G σ H' F' ρ' → ADens X.K F' σ vs os → Q vs H') → tb σ H Q)
    {G : Cd} {σ : L2.St} {H F : Hp} {ρ : SL} {Q : VK} {Qd : Rv → SL → Prop} (R : Rep X.K G σ H F ρ) (q : dMethV C m sp t u ρ Qd)
    (k : ∀ r ρ' v H' F', Qd r ρ' → Same F F' → Rep X.K G σ H' F' ρ' → RDen X.K G σ ρ' H' F' v r → Q v H') : tMethR C m (lift X.K sp) E ta tb σ H Q := by
  refine he.sem R q fun r ρ1 v H1 F1 q1 s1 R1 rd => ?_
  obtain ⟨F1', s1', R1', d1⟩ := R1.share rd
  obtain ⟨q0, q1⟩ := q1
  obtain ⟨a, dx, gs, rfl, h1, l1⟩ := objD_at R1'.ext (.inl d1) q0
  refine ⟨a, dx, gs, rfl, h1, l1, hu R1' q1 fun os ρ2 vs H2 F2 q2 s2 R2 d2 => ?_⟩
  exact sem_args R2 (.cons (o := .val r.dat) (d1.mono s2) d2) q2 fun r ρ' v H' F' qd s3 R3 rd3 => k _ _ _ _ _ qd (s1.trans (s1'.trans (s2.trans s3))) R3 rd3
theorem de_methV {k : Nat} {C f : Addr} {fd : FuncData} {ps : List Str} {sp : SpD} {E : XK} {CX : CXT} {m : Str} {pos apos : Pos} {e o : Expr} {es : List Expr} {ta : TE} {tb : TA} {t : TD} {u : TAg} {pl : Sem Bool} (he : DE X o ta t) (c : Cls X.K C) (hm : Meth X.K C m f)
    (Fk : FnG X.prog X.w X.K X.mg X.base CX k f fd ps (lift X.K sp)) (hgd : X.A.guards = some []) (hr : Room k X.A) (hb : Binds X.K fd ps []) (hx : Passes CX X E) (ha : DAg X (e :: es) tb u)
    (hst : starEach (e :: es) X.env = (false, eval e X.env) :: starEach es X.env := by rfl) (hpl : (backTo pos (starEach es X.env)).any (·.1) = false := by rfl)
    (ht : eval (.Call (.Attribute o m apos) (e :: es) [] pos) X.env = (do
      let ov ← eval o X.env
      standAt apos.atName
      let (f, first) ← holding [ov] (getMethod ov m pl)
      callWith pos f first (backTo pos (starEach (e :: es) X.env)) (backToKw pos (keywordEach [] X.env))) := by rfl) :
    DE X (.Call (.Attribute o m apos) (e :: es) [] pos) (tMethR C m (lift X.K sp) E ta tb) (dMethV C m sp t u) :=
  ⟨pe_methG he.pe c hm Fk hgd hr hb hx ha.pe hst hpl ht, fun R q kk => sem_methV (f := f) he ha.sem R q kk⟩
theorem de_methV0 {k : Nat} {C f : Addr} {fd : FuncData} {ps : List Str} {sp : SpD} {E : XK} {CX : CXT} {m : Str} {pos apos : Pos} {o : Expr} {ta : TE} {t : TD} {pl : Sem Bool} (he : DE X o ta t) (c : Cls X.K C) (hm : Meth X.K C m f)
    (Fk : FnG X.prog X.w X.K X.mg X.base CX k f fd ps (lift X.K sp)) (hgd : X.A.guards = some []) (hr : Room k X.A) (hb : Binds X.K fd ps []) (hx : Passes CX X E)
    (ht : eval (.Call (.Attribute o m apos) [] [] pos) X.env = (do
      let ov ← eval o X.env
      standAt apos.atName
      let (f, first) ← holding [ov] (getMethod ov m pl)
      callWith pos f first (backTo pos (starEach [] X.env)) (backToKw pos (keywordEach [] X.env))) := by rfl) :
    DE X (.Call (.Attribute o m apos) [] [] pos) (tMethR C m (lift X.K sp) E ta tNil) (dMethV C m sp t agNil) :=
  ⟨pe_methG0 he.pe c hm Fk hgd hr hb hx ht, fun R q kk => sem_methV (f := f) he (dag_nil (X := X)).sem R q kk⟩
end
end DL

namespace DL
open PySem PySem.Spec L2 PyProof.Rows
section
variable {X : Cx}
/-! ### C(..) -/
theorem run_makeG {CX : CXT} {k : Nat} {C f : Addr} {fd : FuncData} {ps : List Str} {sp : Sp} {E : XK} {pins : List (Addr × Obj)} {σ : L2.St} {H : Hp} {s : Shared} {Q : VK} {us : List Value} {vs : List V} (M : Mk X.K C f) (Fk : FnG X.prog X.w X.K X.mg X.base CX k f fd ps sp)
    (hgd : X.A.guards = some []) (hr : Room (k + 1) X.A) (hb : Binds X.K fd ps []) (hx : Passes CX X E) (I : Inv X pins σ H s) (r : Vals vs us)
    (h : ∀ x dx, H x = none → H dx = none → dx ≠ x → sp (.ref x :: vs) (upd (upd H dx (.own x)) x (.ins C dx [])) (fun v H2 => v = .non ∧ Q (.ref x) H2) E) :
    wpAny (model X.prog X.w) X.A (PySem.call (.ref C) us) (EP X pins σ Q) X.xe s := by
  have hq := h (s.heap.objs.size + 1) s.heap.objs.size (I.hok.fresh (Nat.le_succ _)) (I.hok.fresh (Nat.le_refl _)) (Nat.ne_of_lt (Nat.lt_succ_self _))
  have I2 := Inv.made (C := C) I
  have r2 : Vals (V.ref (s.heap.objs.size + 1) :: vs) (Value.ref (s.heap.objs.size + 1) :: us) := .cons rfl r
  have hl : (Value.ref (s.heap.objs.size + 1) :: us ++ []).length = ps.length := by
    have e := r2.length
    rw [Fk.len _ _ _ _ hq] at e
    rw [List.append_nil]
    exact e.symm
  have bt := hb _ (Value.ref (s.heap.objs.size + 1) :: us) I2.kIn hl
  rw [List.append_nil] at bt
  refine wpAny_call (make_map (f := f) I.kIn M.makes M.init (beq_iff_eq.mp M.fn) (codeAny_mono (Fk.run _ X.stack _ _ ⟨Value.ref (s.heap.objs.size + 1) :: us, []⟩ (Value.ref (s.heap.objs.size + 1) :: us) _ _ E (by show X.A.guards = some []; exact hgd) (hr.make C us [])
    (I2.env0.make C us []) bt r2 hq) fun r s' hq' => ?_))
  cases r with
  | error e => exact hx pins σ _ _ e s' I2 hq'
  | ok fl =>
    cases fl with
    | ret u =>
      obtain ⟨v, H', I3, rv, ev, q3⟩ := I2.after hq'
      subst ev
      exact ⟨rv, ⟨V.ref (s.heap.objs.size + 1), H', I3, rfl, q3⟩⟩
    | next => exact False.elim hq'
    | brk => exact False.elim hq'
    | cont => exact False.elim hq'
theorem pe_makeG {CX : CXT} {k : Nat} {C f : Addr} {fd : FuncData} {ps : List Str} {sp : Sp} {E : XK} {x : Str} {p pos : Pos} {e : Expr} {es : List Expr} {t : TA} (M : Mk X.K C f) (Fk : FnG X.prog X.w X.K X.mg X.base CX k f fd ps sp) (hgd : X.A.guards = some []) (hr : Room (k + 1) X.A)
    (hg : Gl X x) (hm : X.mg x = some (.ref C)) (hb : Binds X.K fd ps []) (hx : Passes CX X E)
    (ha : PA X (e :: es) t) (hdb : (x == ("__debug__" : Str)) = false := by decide) (he : starEach (e :: es) X.env = (false, eval e X.env) :: starEach es X.env := by rfl) (hpl : (backTo pos (starEach es X.env)).any (·.1) = false := by rfl) :
    PE X (.Call (.Name x p) (e :: es) [] pos) (tMake C sp [] E t) := by
  refine ⟨fun pins s σ H Q I h => ?_⟩
  refine wpAny_Call_Name_kw (ld_glob I hg hm ?_ hdb)
  refine PySem.W.callWith_K (h₀ := X.base) I.ok.mod.kin M.kp (thn (ha.run pos pins s σ H _ I h) fun us s1 ⟨vs, H1, I1, r, q⟩ => ⟨I1.kIn, ?_⟩) he hpl
  exact run_makeG M Fk hgd hr hb hx I1 r fun x dx h1 h2 h3 => by have := q x dx h1 h2 h3; rwa [List.append_nil] at this
theorem ADens.grow {K : PySem.W.Frag} {F : Hp} {σ : L2.St} {w : Option V} : ∀ {vs : List V} {os : List AOp}, ADens K F σ vs os → ADens K F (σ ++ [w]) vs os
  | _, _, .nil => .nil
  | _, _, .cons (o := o) a t => by
    refine .cons ?_ (ADens.grow t)
    cases o with
    | val d => exact a
    | bor i =>
      have a' : σ[i]? = some (some _) := a
      have hi := (List.getElem?_eq_some_iff.mp a').1
      show (σ ++ [w])[i]? = _
      rw [List.getElem?_append_left hi]
      exact a'
/-! ### properties -/
theorem pe_propG {CX : CXT} {k : Nat} {C p g : Addr} {f : Str} {fd : FuncData} {ps : List Str} {sp : Sp} {E : XK} {e : Expr} {pos : Pos} {ta : TE} (he : PE X e ta) (c : Cls X.K C) (hp : PropOf X.K C f p g) (Fk : FnG X.prog X.w X.K X.mg X.base CX k g fd ps sp) (hgd : X.A.guards = some []) (hr : Room (k + 1) X.A)
    (hb : Binds X.K fd ps []) (hx : Passes CX X.nox E) (hab : attributeBase e f X.env (eval e X.env) = eval e X.env) : PE X (.Attribute e f pos) (tProp C sp [] E ta) := by
  refine ⟨fun pins s σ H Q I h => ?_⟩
  refine attr_of hab (thn (he.run pins s σ H _ I h) fun u s1 ⟨x, H1, I1, rx, a, dx, fs, ex, ea, q⟩ => ?_)
  subst ex
  obtain rfl : u = Value.ref a := rx
  obtain ⟨mA, O, _, _, _, _⟩ := ins_get I1.hok ea
  obtain ⟨od, J, _⟩ := O.look
  obtain ⟨rest, hrec⟩ := hp.rec_
  have I2 := I1.tok (s1.toks + 1)
  have hl : ([Value.ref a] ++ []).length = ps.length := by
    rw [← Fk.len _ _ _ _ q]
    rfl
  have hc : (PySem.W.clsIn X.K C).isSome = true := by
    obtain ⟨cd, hc, _⟩ := PySem.W.any_some c.hd
    rw [hc]
    rfl
  have bt := hb _ [.ref a] I2.kIn hl
  rw [List.append_nil] at bt
  refine PySem.W.get_bind I1.kIn J (PySem.W.plainGet_of (c.get f)).1 (PySem.W.findObj_data hc hp.at_ hp.get hp.tak) (PySem.W.plainGet_of (c.get f)).2 (wpAny_call (PySem.W.prop_get (s := { s1 with toks := s1.toks + 1 }) I1.kIn hrec ?_))
  refine codeAny_mono (Fk.run X.A.in1 X.stack { s1 with toks := s1.toks + 1 } H1 ⟨[.ref a], []⟩ [.ref a] [.ref a] Q E hgd hr.in1 I2.env0.in1 bt (.cons rfl .nil) q) fun r s' hq => ?_
  cases r with
  | error er => exact False.elim (hx pins σ H1 { s1 with toks := s1.toks + 1 } er s' (I2.wish _) hq)
  | ok fl =>
    cases fl with
    | ret u =>
      obtain ⟨v, H', I3, rv, q3⟩ := I2.after hq
      show wpAny _ _ (handedOut u) _ _ _
      rw [PySem.W.handedOut_of (handed_of rv)]
      exact wpAny_pure ⟨v, H', I3, rv, q3⟩
    | next => exact False.elim hq
    | brk => exact False.elim hq
    | cont => exact False.elim hq
def dProp (C : Addr) (sp : SpD) (t : TD) : TD := fun ρ Q => t ρ fun r ρ1 => (match r.dat with | .obj C' _ => C' = C | _ => False) ∧ dCall sp (fun ρ' K => K [.val r.dat] ρ') ρ1 Q
theorem de_prop {CX : CXT} {k : Nat} {C p g : Addr} {f : Str} {fd : FuncData} {ps : List Str} {sp : SpD} {E : XK} {e : Expr} {pos : Pos} {ta : TE} {t : TD} (c : Cls X.K C) (hp : PropOf X.K C f p g) (Fk : FnG X.prog X.w X.K X.mg X.base CX k g fd ps (lift X.K sp)) (hgd : X.A.guards = some []) (hr : Room (k + 1) X.A)
    (hb : Binds X.K fd ps []) (hx : Passes CX X.nox E) (he : DE X e ta t) (hab : attributeBase e f X.env (eval e X.env) = eval e X.env := by rfl) : DE X (.Attribute e f pos) (tProp C (lift X.K sp) [] E ta) (dProp C sp t) := by
  refine ⟨pe_propG he.pe c hp Fk hgd hr hb hx hab, fun {G σ H F ρ Q Qd} R q kk => he.sem R q fun r ρ1 v H1 F1 q1 s1 R1 rd => ?_⟩
  obtain ⟨F1', s1', R1', d1⟩ := R1.share rd
  obtain ⟨q0, q1⟩ := q1
  cases hd : r.dat with
  | obj C' fs =>
    rw [hd] at q0 q1 d1
    have q0 : C' = C := q0
    subst q0
    obtain ⟨a, dx, gs, rfl, h1, h2⟩ := Pk.obj R1'.ext (.inl d1)
    refine ⟨a, dx, gs, rfl, h1, ?_⟩
    exact sem_args (vs := [.ref a]) R1' (.cons (o := .val (.obj C' fs)) d1 .nil) q1 fun r ρ' v H' F' qd s3 R3 rd3 => kk _ _ _ _ _ qd (s1.trans (s1'.trans s3)) R3 rd3
  | _ => rw [hd] at q0; exact q0.elim
/-! ### an instance called -/
end
end DL

namespace DL
open PySem L2
/-! ### repr of data with empty dicts among them -/
/-! ### repr of data with dicts of plain values among them -/
/-- entries: values that are no containers -/
inductive AtV : V → PyData → Prop
  | non : AtV .non .none
  | bl (b : Bool) : AtV (.bl b) (.bool b)
  | int (i : Int) : AtV (.int i) (.int i)
  | str (x : Str) : AtV (.str x) (.str x)
inductive DrK : List (Key × V) → List (PyData × PyData) → Prop
  | nil : DrK [] []
  | cons {k : Key} {v : V} {d : PyData} {ks : List (Key × V)} {kvs : List (PyData × PyData)} : AtV v d → DrK ks kvs → DrK ((k, v) :: ks) ((keyPy k, d) :: kvs)
mutual
inductive Dr (H : Hp) : V → PyData → Prop
  | non : Dr H .non .none
  | bl (b : Bool) : Dr H (.bl b) (.bool b)
  | int (i : Int) : Dr H (.int i) (.int i)
  | str (x : Str) : Dr H (.str x) (.str x)
  | lst {a : Addr} {xs : List V} {ds : List PyData} : H a = some (.lst xs) → DrAll H xs ds → Dr H (.ref a) (.list ds)
  | tup {a : Addr} {xs : List V} {ds : List PyData} : H a = some (.tup xs) → DrAll H xs ds → Dr H (.ref a) (.tuple ds)
  | dct {a : Addr} {ks : List (Key × V)} {kvs : List (PyData × PyData)} : H a = some (.dK ks) → DrK ks kvs → Dr H (.ref a) (.dict kvs)
inductive DrAll (H : Hp) : List V → List PyData → Prop
  | nil : DrAll H [] []
  | cons {v : V} {vs : List V} {d : PyData} {ds : List PyData} : Dr H v d → DrAll H vs ds → DrAll H (v :: vs) (d :: ds)
end
section
variable {X : Cx} {pins : List (Addr × Obj)} {σ : L2.St} {H : Hp} {s : Shared}
theorem sysOf (I : Inv X pins σ H s) {a : Addr} {ks : List (Key × V)} (h : H a = some (.dK ks)) : (a == sysModules) = false := (show ObjOk X.prog X.w H s.heap a (.dK ks) from I.hok a _ h).2.1
theorem entriesAt (I : Inv X pins σ H s) {a : Addr} {ks : List (Key × V)} (h : H a = some (.dK ks)) : ∃ o es ep vs, s.heap.get? a = some o ∧ o.cls = .type "dict" ∧ o.data = .dict es ep ∧ KV ks vs ∧ Pairs (mixKind X.prog X.w) es.toList vs := by
  obtain ⟨_, _, vs, kv, o, es, ep, h1, h2, h3, _, h5, _⟩ := (show ObjOk X.prog X.w H s.heap a (.dK ks) from I.hok a _ h)
  exact ⟨o, es, ep, vs, h1, h2.1, h3, kv, h5⟩
theorem atReads {h : Heap} {v : V} {d : PyData} {u : Value} (a : AtV v d) (r : RelV v u) : Reads h u d [] := by
  cases a with
  | non => cases r; exact Reads.none
  | bl b => cases r; exact Reads.bool b
  | int i => obtain ⟨t, rfl⟩ := r; exact Reads.int i t
  | str x => obtain ⟨t, rfl⟩ := r; exact Reads.str x t
theorem keyReads {h : Heap} {k : Key} {u : Value} (e : keyIs k u = true) : Reads h u (keyPy k) [] := by
  rcases keyIs_shape e with ⟨i, t, rfl, rfl⟩ | ⟨x, t, rfl, rfl⟩
  · exact Reads.int i t
  · exact Reads.str x t
theorem entsRead {P : Program} {w : World} {h : Heap} : ∀ {ks : List (Key × V)} {kvs : List (PyData × PyData)} {vs : List (Key × Value)} {es : List DictEntry}, DrK ks kvs → KV ks vs → Pairs (mixKind P w) es vs →
    ReadsAll h (es.map (·.key)) (kvs.map (·.1)) [] ∧ ReadsAll h (es.map (·.val)) (kvs.map (·.2)) []
  | _, _, _, _, .nil, k, p => by
    cases k; cases p
    exact ⟨ReadsAll.nil, ReadsAll.nil⟩
  | _, _, _, _, .cons a r, k, p => by
    cases k with
    | cons k1 k2 =>
      cases p with
      | cons p1 p2 p3 =>
        obtain ⟨g1, g2⟩ := entsRead (h := h) r k2 p3
        have e1 := k1.1
        simp only at e1
        have p1' : keyIs _ _ = true := p1
        rw [← e1] at p1'
        refine ⟨ReadsAll.cons (as := []) (bs := []) (keyReads p1') g1, ReadsAll.cons (as := []) (bs := []) (atReads a ?_) g2⟩
        show RelV _ (DictEntry.val _)
        rw [p2]
        exact k1.2
theorem atIs {P : Program} {w : World} {v : V} {d : PyData} {u : Value} (a : AtV v d) (r : RelV v u) (hs : d.showable = true) (hz : d.shown.length ≤ sizeLine) : ReprIs P w u d.shown := by
  cases a with
  | non => cases r; rw [PyData.shown_none]; exact ReprIs.none
  | bl b => cases r; rw [PyData.shown_bool]; exact ReprIs.bool b
  | int i => obtain ⟨t, rfl⟩ := r; rw [PyData.shown_int]; exact ReprIs.int t (by simpa [PyData.showable] using hs)
  | str x => obtain ⟨t, rfl⟩ := r; rw [PyData.shown_str] at hz ⊢; exact ReprIs.str x t hz
theorem keyReprIs {P : Program} {w : World} {k : Key} {u : Value} (e : keyIs k u = true) (hs : (keyPy k).showable = true) (hz : (keyPy k).shown.length ≤ sizeLine) : ReprIs P w u (keyPy k).shown := by
  rcases keyIs_shape e with ⟨i, t, rfl, rfl⟩ | ⟨x, t, rfl, rfl⟩
  · rw [show keyPy (.inl i) = .int i from rfl, PyData.shown_int]
    exact ReprIs.int t (by simpa [PyData.showable, keyPy] using hs)
  · rw [show keyPy (.inr x) = .str x from rfl, PyData.shown_str] at hz ⊢
    exact ReprIs.str x t hz
theorem shownKv_cons (k v : PyData) (r : List (PyData × PyData)) : PyData.shownKv ((k, v) :: r) = (k.shown ++ ": " ++ v.shown) :: PyData.shownKv r := by simp only [PyData.shownKv]
theorem entsRepr {P : Program} {w : World} {h : Heap} : ∀ {ks : List (Key × V)} {kvs : List (PyData × PyData)} {vs : List (Key × Value)} {es : List DictEntry}, DrK ks kvs → KV ks vs → Pairs (mixKind P w) es vs → PyData.showableKv kvs = true → (∀ t ∈ PyData.shownKv kvs, t.length ≤ sizeLine) →
    ReprEntriesK P w [] h 0 es (PyData.shownKv kvs)
  | _, _, _, _, .nil, k, p, _, _ => by
    cases k; cases p
    simp only [PyData.shownKv]
    exact .nil
  | _, _, _, _, .cons (d := d) a r, k, p, hs, hz => by
    cases k with
    | cons k1 k2 =>
      cases p with
      | cons p1 p2 p3 =>
        rw [PyData.showableKv, Bool.and_eq_true, Bool.and_eq_true] at hs
        rw [shownKv_cons] at hz ⊢
        have e1 := k1.1
        simp only at e1
        have p1' : keyIs _ _ = true := p1
        rw [← e1] at p1'
        have h0 := hz _ List.mem_cons_self
        rw [strLen_append, strLen_append] at h0
        refine .cons (.of_is (keyReprIs p1' hs.1.1 (by omega)) _ _ _) (.of_is (atIs a ?_ hs.1.2 (by omega)) _ _ _) (entsRepr r k2 p3 hs.2 fun t ht => hz t (List.mem_cons_of_mem _ ht))
        rw [p2]
        exact k1.2
theorem drK_depth : ∀ {ks : List (Key × V)} {kvs : List (PyData × PyData)}, DrK ks kvs → PyData.depthKv kvs = 0
  | _, _, .nil => by simp [PyData.depthKv]
  | _, _, .cons (k := k) a r => by
    rw [PyData.depthKv, drK_depth r]
    have h1 : PyData.depth (keyPy k) = 0 := by cases k <;> simp [keyPy, PyData.depth]
    rw [h1]
    cases a <;> simp [PyData.depth]
theorem shown_dictText (kvs : List (PyData × PyData)) : (PyData.dict kvs).shown = dictText (PyData.shownKv kvs) := by simp only [PyData.shown]
mutual
theorem Dr.reads (I : Inv X pins σ H s) : ∀ (d : PyData) (v : V) (u : Value), Dr H v d → RelV v u → ∃ as, Reads s.heap u d as
  | .none, _, _, h, r => by
    cases h; cases r
    exact ⟨_, Reads.none⟩
  | .bool b, _, _, h, r => by
    cases h; cases r
    exact ⟨_, Reads.bool b⟩
  | .int i, _, _, h, r => by
    cases h
    obtain ⟨t, rfl⟩ := r
    exact ⟨_, Reads.int i t⟩
  | .str x, _, _, h, r => by
    cases h
    obtain ⟨t, rfl⟩ := r
    exact ⟨_, Reads.str x t⟩
  | .list ds, _, _, h, r => by
    cases h with
    | lst hs ha =>
      cases r
      obtain ⟨its, rv, ⟨o, n, ho, hc, _, hd⟩, _⟩ := I.list (.inl (.inl hs))
      obtain ⟨as, hr⟩ := Dr.readsAll I ds _ its ha rv
      exact ⟨_, Reads.list ho hc hd hr⟩
  | .tuple ds, _, _, h, r => by
    cases h with
    | tup hs ha =>
      cases r
      obtain ⟨its, rv, ⟨o, ho, hc, n, hd⟩, _⟩ := I.tuple (.inl (.inl hs))
      obtain ⟨as, hr⟩ := Dr.readsAll I ds _ its ha rv
      exact ⟨_, Reads.tuple ho hc hd hr⟩
  | .dict ds, _, _, h, r => by
    cases h with
    | dct hs hk =>
      cases r
      obtain ⟨o, es, ep, vs, h1, h2, h3, kv, hp⟩ := entriesAt I hs
      obtain ⟨g1, g2⟩ := entsRead (h := s.heap) hk kv hp
      exact ⟨_, Reads.dict (as := []) (bs := []) h1 h2 h3 g1 g2⟩
theorem Dr.readsAll (I : Inv X pins σ H s) : ∀ (ds : List PyData) (vs : List V) (us : List Value), DrAll H vs ds → Vals vs us → ∃ as, ReadsAll s.heap us ds as
  | [], _, _, h, r => by
    cases h; cases r
    exact ⟨_, ReadsAll.nil⟩
  | d :: ds, _, _, h, r => by
    cases h with
    | cons h1 h2 =>
      cases r with
      | cons r1 r2 =>
        obtain ⟨as, q1⟩ := Dr.reads I d _ _ h1 r1
        obtain ⟨bs, q2⟩ := Dr.readsAll I ds _ _ h2 r2
        exact ⟨_, ReadsAll.cons q1 q2⟩
end
theorem shown_listText (xs : List PyData) : (PyData.list xs).shown = listText (PyData.shownAll xs) := by simp only [PyData.shown]
theorem shown_tupleText (xs : List PyData) : (PyData.tuple xs).shown = tupleText (PyData.shownAll xs) := by simp only [PyData.shown]
mutual
theorem Dr.show (I : Inv X pins σ H s) : ∀ (d : PyData) (v : V) (u : Value), Dr H v d → RelV v u → d.showable = true → d.shown.length ≤ sizeLine → ∃ bs, ReadAtMost s.heap d.depth bs ∧ ReprK X.prog X.w bs s.heap d.depth u d.shown
  | .none, v, u, h, r, hs, hz => by
    obtain ⟨as, q⟩ := Dr.reads I _ v u h r
    exact ReprK.of_reads q hs (fun z => by simp [PyData.hasDict] at z) hz
  | .bool b, v, u, h, r, hs, hz => by
    obtain ⟨as, q⟩ := Dr.reads I _ v u h r
    exact ReprK.of_reads q hs (fun z => by simp [PyData.hasDict] at z) hz
  | .int i, v, u, h, r, hs, hz => by
    obtain ⟨as, q⟩ := Dr.reads I _ v u h r
    exact ReprK.of_reads q hs (fun z => by simp [PyData.hasDict] at z) hz
  | .str x, v, u, h, r, hs, hz => by
    obtain ⟨as, q⟩ := Dr.reads I _ v u h r
    exact ReprK.of_reads q hs (fun z => by simp [PyData.hasDict] at z) hz
  | .list ds, v, u, h, r, hs, hz => by
    cases h with
    | lst hl ha =>
      cases r
      obtain ⟨its, rv, ⟨o, n, ho, hc, _, hd⟩, _⟩ := I.list (.inl (.inl hl))
      obtain ⟨as, hr⟩ := Dr.readsAll I ds _ its ha rv
      rw [shown_listText] at hz ⊢
      obtain ⟨bs, hb, hk⟩ := Dr.showAll I ds _ its ha rv (by rw [PyData.showable] at hs; exact hs) fun t ht => Nat.le_trans (listText_mem_le ht) hz
      have rr := Reads.list ho hc hd hr
      have hna := not_mem_of_deeper rr (by rw [PyData.depth]; exact Nat.lt_succ_self _) hb
      refine ⟨_ :: bs, ReadAtMost.cons rr (Nat.le_refl _) fun b m => ?_, ?_⟩
      · obtain ⟨d', as', r', hd'⟩ := hb b m
        exact ⟨d', as', r', by rw [PyData.depth]; exact Nat.le_succ_of_le hd'⟩
      · rw [PyData.depth]
        cases its with
        | nil =>
          cases rv
          cases ha
          exact ReprK.listEmpty ho hc hd
        | cons x l => exact ReprK.list ho hc hd hna hk.length_eq fun i y e => hk.item i y (by rwa [List.getElem?_toArray] at e)
  | .tuple ds, v, u, h, r, hs, hz => by
    cases h with
    | tup hl ha =>
      cases r
      obtain ⟨its, rv, ⟨o, ho, hc, n, hd⟩, _⟩ := I.tuple (.inl (.inl hl))
      obtain ⟨as, hr⟩ := Dr.readsAll I ds _ its ha rv
      rw [shown_tupleText] at hz ⊢
      obtain ⟨bs, hb, hk⟩ := Dr.showAll I ds _ its ha rv (by rw [PyData.showable] at hs; exact hs) fun t ht => Nat.le_trans (tupleText_mem_le ht) hz
      have rr := Reads.tuple ho hc hd hr
      have hna := not_mem_of_deeper rr (by rw [PyData.depth]; exact Nat.lt_succ_self _) hb
      refine ⟨_ :: bs, ReadAtMost.cons rr (Nat.le_refl _) fun b m => ?_, ?_⟩
      · obtain ⟨d', as', r', hd'⟩ := hb b m
        exact ⟨d', as', r', by rw [PyData.depth]; exact Nat.le_succ_of_le hd'⟩
      · rw [PyData.depth]
        exact ReprK.tuple ho hc hd hna hk
  | .dict kvs, v, u, h, r, hs, hz => by
    obtain ⟨as, q⟩ := Dr.reads I _ v u h r
    cases h with
    | dct hl hk =>
      cases r
      obtain ⟨o, es, ep, vs, h1, h2, h3, kv, hp⟩ := entriesAt I hl
      rw [shown_dictText] at hz ⊢
      have k := ReprK.dict (prog := X.prog) (w := X.w) (as := []) (d := 0) (ps := PyData.shownKv kvs) h1 h2 h3 (sysOf I hl) (by simp) (entsRepr hk kv hp (by rw [PyData.showable] at hs; exact hs) fun t ht => Nat.le_trans (dictText_mem_le ht) hz)
      refine ⟨[_], ReadAtMost.cons q (Nat.le_refl _) fun b m => (by cases m), ?_⟩
      have e2 : (PyData.dict kvs).depth = 0 + 1 := by rw [PyData.depth, drK_depth hk]
      rw [e2]
      exact k
theorem Dr.showAll (I : Inv X pins σ H s) : ∀ (ds : List PyData) (vs : List V) (us : List Value), DrAll H vs ds → Vals vs us → PyData.showableAll ds = true → (∀ t ∈ PyData.shownAll ds, t.length ≤ sizeLine) →
    ∃ bs, ReadAtMost s.heap (PyData.depthAll ds) bs ∧ ReprAllK X.prog X.w bs s.heap (PyData.depthAll ds) us (PyData.shownAll ds)
  | [], _, _, h, r, _, _ => by
    cases h; cases r
    exact ⟨[], fun b m => (by cases m), by rw [PyData.shownAll_nil]; exact .nil⟩
  | d :: ds, _, _, h, r, hs, hz => by
    cases h with
    | cons h1 h2 =>
      cases r with
      | cons r1 r2 =>
        rw [PyData.showableAll, Bool.and_eq_true] at hs
        rw [PyData.shownAll_cons] at hz ⊢
        obtain ⟨b1, m1, k1⟩ := Dr.show I d _ _ h1 r1 hs.1 (hz _ List.mem_cons_self)
        obtain ⟨b2, m2, k2⟩ := Dr.showAll I ds _ _ h2 r2 hs.2 fun t ht => hz t (List.mem_cons_of_mem _ ht)
        refine ⟨b1 ++ b2, fun b m => ?_, ?_⟩
        · rcases List.mem_append.mp m with m | m
          · obtain ⟨d', as', r', hd'⟩ := m1 b m
            exact ⟨d', as', r', by rw [PyData.depthAll]; omega⟩
          · obtain ⟨d', as', r', hd'⟩ := m2 b m
            exact ⟨d', as', r', by rw [PyData.depthAll]; omega⟩
        · refine .cons ((k1.more fun b m => List.mem_append_left _ m).level_le (by rw [PyData.depthAll]; omega)) ?_
          exact k2.more_le (fun b m => List.mem_append_right _ m) (by rw [PyData.depthAll]; omega)
end
/-- repr of such a thing -/
theorem repr_dr (I : Inv X pins σ H s) (hg : X.A.guards = some []) (hu : X.A.units + 64 < cLine) {a : Addr} {d : PyData} (h : Dr H (.ref a) d) (hs : d.showable = true) (hz : d.shown.length ≤ sizeLine) (hdp : d.depth ≤ 60) {Q : Value → Shared → Prop}
    (q : ∀ h' u tk, (∀ b o, s.heap.get? b = some o → h'.get? b = some o) → Q (.str d.shown u) { s with heap := h', toks := tk }) : wpAny (model X.prog X.w) X.A (PySem.call (.builtin "repr") [.ref a]) Q X.xe s := by
  have hg1 : X.A.in1.guards = some [] := hg
  have old : ∀ b o, s.heap.get? b = some o → s.heap.get? b = some o := fun _ _ e => e
  cases d with
  | list ds =>
    cases h with
    | lst hl ha =>
      obtain ⟨its, rv, ⟨o, n, ho, hc, _, hd⟩, _⟩ := I.list (.inl (.inl hl))
      obtain ⟨as, hr⟩ := Dr.readsAll I ds _ its ha rv
      rw [shown_listText] at hz q
      obtain ⟨bs, hb, hk⟩ := Dr.showAll I ds _ its ha rv (by rw [PyData.showable] at hs; exact hs) fun t ht => Nat.le_trans (listText_mem_le ht) hz
      have hna := not_mem_of_deeper (Reads.list ho hc hd hr) (by rw [PyData.depth]; exact Nat.lt_succ_self _) hb
      rw [PyData.depth] at hdp
      refine call_repr_slot (by omega) ⟨o, ho, hc⟩ F.slot_list_repr.toG ?_
      cases its with
      | nil =>
        cases rv
        cases ha
        exact call_list_repr_empty ⟨o, ho, hc⟩ ho hd ⟨_, _, rfl, q s.heap _ _ old⟩
      | cons x l =>
        exact call_list_reprK ho hc hd hna hk.length_eq (fun i y e => hk.item i y (by rwa [List.getElem?_toArray] at e)) hg1 (fun b _ => Clear.nil b) (by show X.A.units + 1 + _ < cLine; omega) old (fun h' u tk hh => ⟨_, _, rfl, q h' u tk hh⟩) hz
  | tuple ds =>
    cases h with
    | tup hl ha =>
      obtain ⟨its, rv, ⟨o, ho, hc, n, hd⟩, _⟩ := I.tuple (.inl (.inl hl))
      obtain ⟨as, hr⟩ := Dr.readsAll I ds _ its ha rv
      rw [shown_tupleText] at hz q
      obtain ⟨bs, hb, hk⟩ := Dr.showAll I ds _ its ha rv (by rw [PyData.showable] at hs; exact hs) fun t ht => Nat.le_trans (tupleText_mem_le ht) hz
      have hna := not_mem_of_deeper (Reads.tuple ho hc hd hr) (by rw [PyData.depth]; exact Nat.lt_succ_self _) hb
      rw [PyData.depth] at hdp
      refine call_repr_slot (by omega) ⟨o, ho, hc⟩ F.slot_tuple_repr ?_
      exact call_tuple_reprK ho hc hd hna hk hg1 (fun b _ => Clear.nil b) (by show X.A.units + 1 + _ < cLine; omega) old (fun h' u tk hh => ⟨_, _, rfl, q h' u tk hh⟩) hz
  | dict kvs =>
    cases h with
    | dct hl hk =>
      obtain ⟨o, es, ep, vs, h1, h2, h3, kv, hp⟩ := entriesAt I hl
      rw [shown_dictText] at hz q
      refine call_repr_slot (by omega) ⟨o, h1, h2⟩ F.slot_dict_repr ?_
      exact call_dict_reprK (as := []) (d := 0) (ps := PyData.shownKv kvs) h1 h2 h3 (sysOf I hl) (by simp) (entsRepr hk kv hp (by rw [PyData.showable] at hs; exact hs) fun t ht => Nat.le_trans (dictText_mem_le ht) hz) hg1 (fun b _ => Clear.nil b) (by show X.A.units + 1 + _ < cLine; omega) old (fun h' u tk hh => ⟨_, _, rfl, q h' u tk hh⟩) hz
  | none => cases h
  | bool _ => cases h
  | int _ => cases h
  | str _ => cases h
end
def D.atm : D → Bool
  | .non => true
  | .bl _ => true
  | .int _ => true
  | .str _ => true
  | _ => false
mutual
def D.fitR : Nat → D → Bool
  | _, .non => true
  | _, .bl _ => true
  | _, .int _ => true
  | _, .str _ => true
  | 0, .lst _ => false
  | 0, .tup _ => false
  | n + 1, .lst l => D.fitRs n l
  | n + 1, .tup l => D.fitRs n l
  | 0, .dct _ => false
  | _ + 1, .dct kvs => kvs.all fun kv => kv.2.atm
  | _, .obj _ _ => false
  | _, .scr _ => false
  | _, .rep _ => false
  | _, .at _ => false
  | _, .exc _ _ _ _ _ => false
  | _, .dx _ _ => false
  | _, .unk => false
def D.fitRs : Nat → List D → Bool
  | _, [] => true
  | n, d :: r => D.fitR n d && D.fitRs n r
end
section
variable {K : PySem.W.Frag} {F : Hp}
theorem den_at {d : D} {v : V} (h : Den K F v d) (ha : d.atm = true) (hs : D.small d = true) : AtV v d.py ∧ d.py.showable = true ∧ d.py.shown.length ≤ D.wt d := by
  have hf : D.fit 60 d = true := by cases d <;> first | rfl | simp [D.atm] at ha | simp [D.fit]
  have z1 := shown_wt (K := K) (F := F) 60 d v h hf hs
  have z2 := small_show 60 d hf hs
  refine ⟨?_, z2.1, z1⟩
  cases d with
  | non => cases h; exact .non
  | bl b => cases h; exact .bl b
  | int i => cases h; exact .int i
  | str x => cases h; exact .str x
  | _ => simp [D.atm] at ha
theorem denK_dr : ∀ {kvs : List (Key × D)} {ks : List (Key × V)}, DenK K F ks kvs → (kvs.all fun kv => kv.2.atm) = true → D.smallk kvs = true → DrK ks (D.pyk kvs) ∧ PyData.showableKv (D.pyk kvs) = true ∧ ((PyData.shownKv (D.pyk kvs)).map fun t => t.length + 2).sum ≤ D.wtk kvs
  | [], _, h, _, _ => by
    cases h
    rw [D.pyk, D.wtk]
    exact ⟨.nil, by simp [PyData.showableKv], by simp [PyData.shownKv]⟩
  | (k, d) :: r, _, h, ha, hs => by
    rw [List.all_cons, Bool.and_eq_true] at ha
    cases h with
    | cons h1 h2 h3 =>
      rw [D.pyk, PyData.showableKv, shownKv_cons, List.map_cons, List.sum_cons, strLen_append, strLen_append]
      have e2 : (Str.ofString ": ").length = 2 := rfl
      cases k with
      | inl i =>
        rw [D.smallk, Bool.and_eq_true, Bool.and_eq_true] at hs
        obtain ⟨g1, g2, g3⟩ := denK_dr h3 ha.2 hs.2
        obtain ⟨a1, a2, a3⟩ := den_at h1 ha.1 hs.1.2
        obtain ⟨_, b2, b3⟩ := den_at (K := K) (F := F) (.int i) rfl (by rw [D.small]; exact hs.1.1)
        rw [D.py] at b2 b3
        rw [D.wt] at b3
        refine ⟨.cons a1 g1, by rw [show keyPy (.inl i) = .int i from rfl, b2, a2, g2]; rfl, ?_⟩
        rw [D.wtk, show keyPy (.inl i) = .int i from rfl]
        omega
      | inr x =>
        rw [D.smallk, Bool.and_eq_true] at hs
        obtain ⟨g1, g2, g3⟩ := denK_dr h3 ha.2 hs.2
        obtain ⟨a1, a2, a3⟩ := den_at h1 ha.1 hs.1
        obtain ⟨_, b2, b3⟩ := den_at (K := K) (F := F) (.str x h2) rfl (by simp [D.small])
        rw [D.py] at b2 b3
        rw [D.wt] at b3
        refine ⟨.cons a1 g1, by rw [show keyPy (.inr x) = .str x from rfl, b2, a2, g2]; rfl, ?_⟩
        rw [D.wtk, show keyPy (.inr x) = .str x from rfl]
        omega
mutual
theorem den_dr : ∀ (n : Nat) (d : D) (v : V), Den K F v d → D.fitR n d = true → D.small d = true → Dr F v d.py ∧ d.py.showable = true ∧ d.py.depth ≤ n ∧ d.py.shown.length ≤ D.wt d
  | n, .non, v, h, _, _ => by
    cases h
    refine ⟨.non, by simp [D.py, PyData.showable], by simp [D.py, PyData.depth], ?_⟩
    rw [D.py, PyData.shown_none, D.wt]; decide +kernel
  | n, .bl b, v, h, _, _ => by
    cases h
    refine ⟨.bl _, by simp [D.py, PyData.showable], by simp [D.py, PyData.depth], ?_⟩
    rw [D.py, PyData.shown_bool, D.wt]; cases b <;> decide +kernel
  | n, .int i, v, h, hf, hs => by
    have z1 := shown_wt (K := K) (F := F) 60 (.int i) v h (by simp [D.fit]) hs
    have z2 := small_show 60 (.int i) (by simp [D.fit]) hs
    cases h
    exact ⟨.int _, z2.1, by simp [D.py, PyData.depth], z1⟩
  | n, .str x, v, h, hf, hs => by
    have z1 := shown_wt (K := K) (F := F) 60 (.str x) v h (by simp [D.fit]) hs
    cases h with
    | str _ a => exact ⟨.str _, by simp [D.py, PyData.showable], by simp [D.py, PyData.depth], z1⟩
  | 0, .lst l, v, h, hf, hs => by simp [D.fitR] at hf
  | 0, .tup l, v, h, hf, hs => by simp [D.fitR] at hf
  | n + 1, .lst l, v, h, hf, hs => by
    rw [D.fitR] at hf
    rw [D.small] at hs
    cases h with
    | lst a b =>
      obtain ⟨h1, h2, h3, h4⟩ := dens_dr n l _ b hf hs
      rw [D.py]
      refine ⟨.lst a h1, by rw [PyData.showable]; exact h2, by rw [PyData.depth]; omega, ?_⟩
      have h5 := join_le (PyData.shownAll (D.pys l))
      rw [PyData.shown_list, D.wt, strLen_append, strLen_append]
      have e1 : (Str.ofString "[").length = 1 := rfl
      have e2 : (Str.ofString "]").length = 1 := rfl
      omega
  | n + 1, .tup l, v, h, hf, hs => by
    rw [D.fitR] at hf
    rw [D.small] at hs
    cases h with
    | tup a b =>
      obtain ⟨h1, h2, h3, h4⟩ := dens_dr n l _ b hf hs
      rw [D.py]
      refine ⟨.tup a h1, by rw [PyData.showable]; exact h2, by rw [PyData.depth]; omega, ?_⟩
      have h5 := join_le (PyData.shownAll (D.pys l))
      rw [PyData.shown_tuple, D.wt, strLen_append, strLen_append]
      have e1 : (Str.ofString "(").length = 1 := rfl
      have e2 : (Str.ofString (if ((D.pys l).length == 1) = true then ",)" else ")")).length ≤ 2 := by split <;> decide
      omega
  | 0, .dct _, _, _, e, _ => by simp [D.fitR] at e
  | n + 1, .dct kvs, v, h, hf, hs => by
    rw [D.fitR] at hf
    rw [D.small] at hs
    cases h with
    | dct a b =>
      obtain ⟨h1, h2, h3⟩ := denK_dr b hf hs
      rw [D.py]
      refine ⟨.dct a h1, by rw [PyData.showable]; exact h2, by rw [PyData.depth, drK_depth h1]; omega, ?_⟩
      have h5 := join_le (PyData.shownKv (D.pyk kvs))
      rw [PyData.shown_dict, D.wt, strLen_append, strLen_append]
      have e1 : (Str.ofString "{").length = 1 := rfl
      have e2 : (Str.ofString "}").length = 1 := rfl
      omega
  | _, .obj _ _, _, _, e, _ => by simp [D.fitR] at e
  | _, .scr _, _, _, e, _ => by simp [D.fitR] at e
  | _, .rep _, _, _, e, _ => by simp [D.fitR] at e
  | _, .at _, _, _, e, _ => by simp [D.fitR] at e
  | _, .exc _ _ _ _ _, _, _, e, _ => by simp [D.fitR] at e
  | _, .dx _ _, _, _, e, _ => by simp [D.fitR] at e
  | _, .unk, _, _, e, _ => by simp [D.fitR] at e
theorem dens_dr : ∀ (n : Nat) (l : List D) (vs : List V), DenL K F vs l → D.fitRs n l = true → D.smalls l = true → DrAll F vs (D.pys l) ∧ PyData.showableAll (D.pys l) = true ∧ PyData.depthAll (D.pys l) ≤ n ∧ ((PyData.shownAll (D.pys l)).map fun t => t.length + 2).sum ≤ D.wts l
  | n, [], _, h, _, _ => by
    cases h
    refine ⟨by rw [D.pys]; exact .nil, by simp [D.pys, PyData.showableAll], by simp [D.pys, PyData.depthAll], ?_⟩
    rw [D.pys, PyData.shownAll_nil, D.wts]; exact Nat.le_refl _
  | n, d :: r, _, h, e, s => by
    rw [D.fitRs, Bool.and_eq_true] at e
    rw [D.smalls, Bool.and_eq_true] at s
    cases h with
    | cons a b =>
      obtain ⟨h1, h2, h3, h4⟩ := den_dr n d _ a e.1 s.1
      obtain ⟨g1, g2, g3, g4⟩ := dens_dr n r _ b e.2 s.2
      rw [D.pys]
      refine ⟨.cons h1 g1, by rw [PyData.showableAll, h2, g2]; rfl, by rw [PyData.depthAll]; omega, ?_⟩
      rw [PyData.shownAll_cons, D.wts, List.map_cons, List.sum_cons]
      omega
end
end
section
variable {X : Cx}
def rReprE : List V → Hp → VK → Prop := fun xs H Q => ∃ x d, xs = [x] ∧ Dr H x d ∧ d.showable = true ∧ d.depth ≤ 60 ∧ d.shown.length ≤ sizeLine ∧ Q (.str d.shown) H
theorem call_reprE (hg : X.A.guards = some []) (hu : X.A.units + 64 < cLine) : CallR X (.builtin "repr") rReprE := by
  intro pins s σ H xs us Q I r h
  obtain ⟨x, d, rfl, dp, h1, h3, h4, q⟩ := h
  obtain ⟨u, rfl, r1⟩ := vals1 r
  have dp' := dp
  cases dp with
  | non =>
    cases r1
    exact PySem.P.repr_of_none ⟨.str _, H, I.tok _, ⟨_, rfl⟩, by rw [PyData.shown_none] at q; exact q⟩
  | bl b =>
    cases r1
    exact PySem.P.repr_of_bool ⟨.str _, H, I.tok _, ⟨_, rfl⟩, by rw [PyData.shown_bool] at q; exact q⟩
  | int i =>
    obtain ⟨t, rfl⟩ := r1
    have h5 : i.natAbs.log2 < 1920 := by simpa [PyData.showable] using h1
    exact PySem.P.repr_of_int h5 ⟨.str _, H, I.tok _, ⟨_, rfl⟩, by rw [PyData.shown_int] at q; exact q⟩
  | str y =>
    obtain ⟨t, rfl⟩ := r1
    rw [PyData.shown_str] at q h4
    exact PySem.P.repr_of_str ⟨.str _, H, I.tok _, ⟨_, rfl⟩, q⟩ h4
  | lst a b =>
    cases r1
    exact repr_dr I hg hu dp' h1 h4 h3 (fun h' u tk hk => ⟨.str _, H, I.kept (t' := tk) hk, ⟨u, rfl⟩, q⟩)
  | tup a b =>
    cases r1
    exact repr_dr I hg hu dp' h1 h4 h3 (fun h' u tk hk => ⟨.str _, H, I.kept (t' := tk) hk, ⟨u, rfl⟩, q⟩)
  | dct a b =>
    cases r1
    exact repr_dr I hg hu dp' h1 h4 h3 (fun h' u tk hk => ⟨.str _, H, I.kept (t' := tk) hk, ⟨u, rfl⟩, q⟩)
def gReprE : List D → (Rv → Prop) → Prop
  | [d] => fun Q => D.fitR 60 d = true ∧ D.small d = true ∧ D.wt d ≤ 16777216 ∧ Q (.v (.rep d))
  | _ => fun _ => False
theorem sem_reprE : SemCall X.K rReprE gReprE := by
  intro G σ H F ρ xs as Q Qd R ha h k
  unfold gReprE at h
  split at h
  · rename_i d
    obtain ⟨h1, h2, h3, h⟩ := h
    obtain ⟨x, rfl, p⟩ := pks1 ha
    have dd := p.den R.ext
    obtain ⟨z1, z2, z3, z4⟩ := den_dr 60 d x dd h1 h2
    exact ⟨x, d.py, rfl, z1, z2, z3, le_size (Nat.le_trans z4 h3), k _ _ _ _ h (Same.refl _) R (.rep d)⟩
  · exact h.elim
end
end DL

namespace DL
open PySem L2
section
variable {X : Cx}
/-! ### truths among numbers -/
/-! ### str(number), tuple(list) -/
theorem strOk_ofString (s : String) : PyData.strOk (Str.ofString s) = true := by
  rw [strOk_iff, PyProof.Rows.signs_ofString]
  intro c hc
  obtain ⟨a, _, rfl⟩ := List.mem_map.mp hc
  have h := a.valid
  rcases h with h | ⟨_, h⟩
  · show a.val.toNat < _
    have : a.val.toNat < 0xd800 := h
    omega
  · exact h
end
/-! ### what repr shows -/
mutual
theorem fitR_of : ∀ (n : Nat) (d : D), D.fit n d = true → D.fitR n d = true
  | _, .non, _ => by simp [D.fitR]
  | _, .bl _, _ => by simp [D.fitR]
  | _, .int _, _ => by simp [D.fitR]
  | _, .str _, _ => by simp [D.fitR]
  | 0, .lst _, h => by simp [D.fit] at h
  | 0, .tup _, h => by simp [D.fit] at h
  | n + 1, .lst l, h => by rw [D.fit] at h; rw [D.fitR]; exact fitRs_of n l h
  | n + 1, .tup l, h => by rw [D.fit] at h; rw [D.fitR]; exact fitRs_of n l h
  | _, .dct _, h => by simp [D.fit] at h
  | _, .obj _ _, h => by simp [D.fit] at h
  | _, .scr _, h => by simp [D.fit] at h
  | _, .rep _, h => by simp [D.fit] at h
  | _, .at _, h => by simp [D.fit] at h
  | _, .exc _ _ _ _ _, h => by simp [D.fit] at h
  | _, .dx _ _, h => by simp [D.fit] at h
  | _, .unk, h => by simp [D.fit] at h
theorem fitRs_of : ∀ (n : Nat) (l : List D), D.fits n l = true → D.fitRs n l = true
  | _, [], _ => by simp [D.fitRs]
  | n, d :: r, h => by
    rw [D.fits, Bool.and_eq_true] at h
    rw [D.fitRs, fitR_of n d h.1, fitRs_of n r h.2]
    rfl
end
/-- what is compared and shown -/
def FineE (d : D) : Prop := D.fit 60 d = true ∧ D.small d = true ∧ D.wt d ≤ 16777216
theorem gReprE_of {d : D} {Q : Rv → Prop} (h : FineE d) (q : Q (.v (.rep d))) : gReprE [d] Q := ⟨fitR_of 60 d h.1, h.2.1, h.2.2, q⟩
theorem fineE_bl {b : Bool} : FineE (.bl b) := ⟨by simp [D.fit], by simp [D.small], by simp [D.wt]⟩
section
def dNew : TD := fun ρ Q => Q (.fr (.d [])) ρ
theorem de_dnew {pos : Pos} : DE X (.Dict [] [] pos) tDNewK dNew := by
  refine ⟨pe_dnewK, fun {G σ H F ρ Q Qd} R q k p hp => ?_⟩
  obtain ⟨R1, rd⟩ := R.allocFr (o := .dK []) hp (c := .d []) ⟨_, upd_same, .nil⟩
  exact k _ _ _ _ _ q (Same.refl _) R1 rd
end
end DL

/-! Piles: things of one's own that only other things hold. -/
namespace DL
open PySem L2
abbrev Pile := List (Addr × Cn)
def plOf (ρ : SL) (g : Nat) : Option Pile := match ρ[g]? with
  | some (.pl hs) => some hs
  | some .un => some []
  | _ => none
def plSet (hs : Pile) (p : Addr) (c : Cn) : Pile := hs.map fun x => if x.1 = p then (p, c) else x
theorem plSet_fst (hs : Pile) (p : Addr) (c : Cn) : (plSet hs p c).map (·.1) = hs.map (·.1) := by
  unfold plSet
  rw [List.map_map]
  apply List.map_congr_left
  intro x _
  by_cases e : x.1 = p
  · simp [e]
  · simp [e]
theorem plSet_mem {hs : Pile} {p q : Addr} {c d : Cn} (h : (q, d) ∈ plSet hs p c) : (q = p ∧ d = c ∧ ∃ c0, (p, c0) ∈ hs) ∨ (q ≠ p ∧ (q, d) ∈ hs) := by
  unfold plSet at h
  obtain ⟨⟨a, b⟩, h1, h2⟩ := List.mem_map.mp h
  by_cases e : a = p
  · subst e
    simp at h2
    obtain ⟨rfl, rfl⟩ := h2
    exact .inl ⟨rfl, rfl, b, h1⟩
  · simp [e] at h2
    obtain ⟨rfl, rfl⟩ := h2
    exact .inr ⟨e, h1⟩
theorem mem_fst {hs : Pile} {p : Addr} {c : Cn} (h : (p, c) ∈ hs) : p ∈ hs.map (·.1) := List.mem_map.mpr ⟨_, h, rfl⟩
section
variable {K : PySem.W.Frag} {G : Cd} {σ : St} {H F : Hp} {ρ : SL} {v : V} {c : Cn} {g : Nat} {p : Addr} {hs : Pile}
theorem plOf_set {hs' : Pile} (h : plOf ρ g = some hs') : plOf (ρ.set g (.pl hs)) g = some hs := by
  unfold plOf at h ⊢
  have hl : g < ρ.length := by
    cases q : ρ[g]? with
    | none => rw [q] at h; cases h
    | some s => exact (List.getElem?_eq_some_iff.mp q).1
  rw [List.getElem?_set_self hl]
/-- a slot of which nothing is known may hold an empty pile; a pile may be made smaller -/
theorem Rep.plSub {hs' : Pile} (R : Rep K G σ H F ρ) (h : plOf ρ g = some hs) (hsub : hs'.Sublist hs) : Rep K G σ H F (ρ.set g (.pl hs')) := by
  have nos : ∀ (j : Nat) (s : Sl), (ρ.set g (.pl hs'))[j]? = some s → (j = g ∧ s = .pl hs') ∨ (j ≠ g ∧ ρ[j]? = some s) := fun j s e => set_get e
  have P := R.pl
  have cas : ρ[g]? = some (.pl hs) ∨ hs = [] := by
    unfold plOf at h
    split at h
    · rename_i q; cases h; exact .inl q
    · cases h; exact .inr rfl
    · cases h
  refine ⟨by rw [List.length_set]; exact R.len, R.ext, fun i d e => ?_, fun i c e => ?_, fun i j c e => ?_, fun i j s t c c' p e1 e2 h1 h2 h3 h4 => ?_, R.fr0, R.new, R.keep, R.dom, R.bd, R.lb, ?_⟩
  · rcases nos i _ e with ⟨_, z⟩ | ⟨_, z⟩
    · cases z
    · exact R.sh i d z
  · rcases nos i _ e with ⟨_, z⟩ | ⟨_, z⟩
    · cases z
    · exact R.ow i c z
  · rcases nos i _ e with ⟨_, z⟩ | ⟨_, z⟩
    · cases z
    · exact R.bw i j c z
  · rcases nos i _ e1 with ⟨_, z⟩ | ⟨_, z⟩
    · subst z; cases h1
    · rcases nos j _ e2 with ⟨_, z2⟩ | ⟨_, z2⟩
      · subst z2; cases h2
      · exact R.sep i j s t c c' p z z2 h1 h2 h3 h4
  · have old : ∀ (i : Nat) (hs2 : Pile) (p : Addr) (c : Cn), (ρ.set g (.pl hs'))[i]? = some (.pl hs2) → (p, c) ∈ hs2 → ∃ hs3, ρ[i]? = some (.pl hs3) ∧ (p, c) ∈ hs3 := fun i hs2 p c e m => by
      rcases nos i _ e with ⟨rfl, z⟩ | ⟨_, z⟩
      · cases z
        have m2 := hsub.mem m
        rcases cas with k | k
        · exact ⟨hs, k, m2⟩
        · subst k; exact (List.not_mem_nil m2).elim
      · exact ⟨hs2, z, m⟩
    refine ⟨fun i hs2 e => ?_, fun i hs2 p c e m => ?_, fun i hs2 p c e m j s c' e1 e2 => ?_, fun i j h1 h2 p c c' e1 e2 m1 m2 => ?_⟩
    · rcases nos i _ e with ⟨rfl, z⟩ | ⟨_, z⟩
      · cases z
        rcases cas with k | k
        · exact (P.one _ _ k).sublist (hsub.map _)
        · subst k
          rw [List.sublist_nil.mp hsub]
          exact List.nodup_nil
      · exact P.one i hs2 z
    · obtain ⟨hs3, z, m2⟩ := old i hs2 p c e m
      exact P.has i hs3 p c z m2
    · obtain ⟨hs3, z, m2⟩ := old i hs2 p c e m
      rcases nos j _ e1 with ⟨_, z1⟩ | ⟨_, z1⟩
      · subst z1; cases e2
      · exact P.own i hs3 p c z m2 j s c' z1 e2
    · obtain ⟨h3, z1, n1⟩ := old i h1 p c e1 m1
      obtain ⟨h4, z2, n2⟩ := old j h2 p c' e2 m2
      exact P.two i j h3 h4 p c c' z1 z2 n1 n2
theorem Rep.plHave (R : Rep K G σ H F ρ) (h : plOf ρ g = some hs) : Rep K G σ H F (ρ.set g (.pl hs)) := R.plSub h (List.Sublist.refl _)
theorem plOf_lt (h : plOf ρ g = some hs) : g < ρ.length := by
  unfold plOf at h
  cases q : ρ[g]? with
  | none => rw [q] at h; cases h
  | some s => exact (List.getElem?_eq_some_iff.mp q).1
/-- what a pile holds -/
theorem Rep.plHas (R : Rep K G σ H F ρ) (h : plOf ρ g = some hs) (m : hs.lookup p = some c) : Has K F H p c ∧ F p = none ∧ (G.H0 p = none ∨ G.L p) := by
  have R1 := R.plHave h
  exact R1.pl.has g hs p c (List.getElem?_set_self (plOf_lt h)) (lookup_mem m)
/-- new things are put on a pile -/
theorem Rep.plAdd {hs2 : Pile} (R : Rep K G σ H F ρ) (h : plOf ρ g = some hs) (hn : (hs2.map (·.1)).Nodup) (hh : ∀ p c, (p, c) ∈ hs2 → Has K F H p c ∧ F p = none ∧ (G.H0 p = none ∨ G.L p) ∧ Lone σ ρ p) :
    (∀ p, p ∈ hs2.map (·.1) → p ∉ hs.map (·.1)) ∧ Rep K G σ H F (ρ.set g (.pl (hs2 ++ hs))) := by
  have R1 := R.plHave h
  have hg := plOf_lt h
  have cas : ρ[g]? = some (.pl hs) ∨ hs = [] := by
    unfold plOf at h
    split at h
    · rename_i q; cases h; exact .inl q
    · cases h; exact .inr rfl
    · cases h
  have dis : ∀ p, p ∈ hs2.map (·.1) → p ∉ hs.map (·.1) := fun p m1 m2 => by
    obtain ⟨⟨_, c⟩, k1, rfl⟩ := List.mem_map.mp m1
    obtain ⟨⟨q, c2⟩, k2, e⟩ := List.mem_map.mp m2
    rcases cas with k | k
    · obtain ⟨_, _, _, l⟩ := hh _ _ k1
      exact l.2 g hs c2 k (by cases e; exact k2)
    · subst k; exact (List.not_mem_nil k2).elim
  have P := R1.pl
  have nos : ∀ (j : Nat) (s : Sl), (ρ.set g (.pl (hs2 ++ hs)))[j]? = some s → (j = g ∧ s = .pl (hs2 ++ hs)) ∨ (j ≠ g ∧ ρ[j]? = some s) := fun j s e => set_get e
  have same : ∀ j, j ≠ g → (ρ.set g (.pl hs))[j]? = ρ[j]? := fun j ne => List.getElem?_set_ne (Ne.symm ne)
  have at_ : (ρ.set g (.pl hs))[g]? = some (.pl hs) := List.getElem?_set_self hg
  refine ⟨dis, ?_⟩
  refine ⟨by rw [List.length_set]; exact R.len, R.ext, fun i d e => ?_, fun i c e => ?_, fun i j c e => ?_, fun i j s t c c' p e1 e2 h1 h2 h3 h4 => ?_, R.fr0, R.new, R.keep, R.dom, R.bd, R.lb, ?_⟩
  · rcases nos i _ e with ⟨_, z⟩ | ⟨_, z⟩
    · cases z
    · exact R.sh i d z
  · rcases nos i _ e with ⟨_, z⟩ | ⟨_, z⟩
    · cases z
    · exact R.ow i c z
  · rcases nos i _ e with ⟨_, z⟩ | ⟨_, z⟩
    · cases z
    · exact R.bw i j c z
  · rcases nos i _ e1 with ⟨_, z⟩ | ⟨_, z⟩
    · subst z; cases h1
    · rcases nos j _ e2 with ⟨_, z2⟩ | ⟨_, z2⟩
      · subst z2; cases h2
      · exact R.sep i j s t c c' p z z2 h1 h2 h3 h4
  · -- where an item of a pile comes from
    have old : ∀ (i : Nat) (h3 : Pile) (p : Addr) (c : Cn), (ρ.set g (.pl (hs2 ++ hs)))[i]? = some (.pl h3) → (p, c) ∈ h3 → (i = g ∧ (p, c) ∈ hs2) ∨ ∃ h4, (ρ.set g (.pl hs))[i]? = some (.pl h4) ∧ (p, c) ∈ h4 := fun i h3 p c e m => by
      rcases nos i _ e with ⟨rfl, z⟩ | ⟨ne, z⟩
      · cases z
        rcases List.mem_append.mp m with m | m
        · exact .inl ⟨rfl, m⟩
        · exact .inr ⟨hs, at_, m⟩
      · exact .inr ⟨h3, by rw [same i ne]; exact z, m⟩
    have cross : ∀ (p : Addr) (c c' : Cn) (i : Nat) (h4 : Pile), (p, c) ∈ hs2 → (ρ.set g (.pl hs))[i]? = some (.pl h4) → (p, c') ∈ h4 → i = g → False := fun p c c' i h4 m1 e m2 hi => by
      subst hi
      rw [at_] at e; cases e
      exact dis p (mem_fst m1) (mem_fst m2)
    refine ⟨fun i h3 e => ?_, fun i h3 p c e m => ?_, fun i h3 p c e m j s c' e1 e2 => ?_, fun i j h1 h2 p c c' e1 e2 m1 m2 => ?_⟩
    · rcases nos i _ e with ⟨rfl, z⟩ | ⟨ne, z⟩
      · cases z
        rw [List.map_append]
        exact List.nodup_append.mpr ⟨hn, P.one _ _ at_, fun a ha b hb e => by subst e; exact dis a ha hb⟩
      · exact P.one i h3 (by rw [same i ne]; exact z)
    · rcases old i h3 p c e m with ⟨_, m2⟩ | ⟨h4, z, m2⟩
      · obtain ⟨a, b, d, _⟩ := hh p c m2; exact ⟨a, b, d⟩
      · exact P.has i h4 p c z m2
    · rcases nos j _ e1 with ⟨_, z1⟩ | ⟨ne1, z1⟩
      · subst z1; cases e2
      · rcases old i h3 p c e m with ⟨_, m2⟩ | ⟨h4, z, m2⟩
        · obtain ⟨_, _, _, l⟩ := hh p c m2
          exact l.1 j s c' z1 e2
        · exact P.own i h4 p c z m2 j s c' (by rw [same j ne1]; exact z1) e2
    · rcases old i h1 p c e1 m1 with ⟨i1, n1⟩ | ⟨h3, z1, n1⟩
      · rcases old j h2 p c' e2 m2 with ⟨i2, n2⟩ | ⟨h4, z2, n2⟩
        · rw [i1, i2]
        · by_cases hj : j = g
          · exact (cross p c c' j h4 n1 z2 n2 hj).elim
          · rw [same j hj] at z2
            obtain ⟨_, _, _, l⟩ := hh p c n1
            exact (l.2 j h4 c' z2 n2).elim
      · rcases old j h2 p c' e2 m2 with ⟨i2, n2⟩ | ⟨h4, z2, n2⟩
        · by_cases hi : i = g
          · exact (cross p c' c i h3 n2 z1 n1 hi).elim
          · rw [same i hi] at z1
            obtain ⟨_, _, _, l⟩ := hh p c' n2
            exact (l.2 i h3 c z1 n1).elim
        · exact P.two i j h3 h4 p c c' z1 z2 n1 n2
/-- a thing of a pile is changed -/
theorem Rep.plWrite {c' : Cn} {o : HO} (R : Rep K G σ H F ρ) (h : plOf ρ g = some hs) (m : hs.lookup p = some c) (hn : Has K F (upd H p o) p c') : Rep K G σ (upd H p o) F (ρ.set g (.pl (plSet hs p c'))) := by
  have R1 := R.plHave h
  have hg := plOf_lt h
  have P := R1.pl
  have at_ : (ρ.set g (.pl hs))[g]? = some (.pl hs) := List.getElem?_set_self hg
  obtain ⟨a1, b1, d1⟩ := P.has g hs p c at_ (lookup_mem m)
  have nos : ∀ (j : Nat) (s : Sl), (ρ.set g (.pl (plSet hs p c')))[j]? = some s → (j = g ∧ s = .pl (plSet hs p c')) ∨ (j ≠ g ∧ (ρ.set g (.pl hs))[j]? = some s) := fun j s e => by
    rcases set_get e with ⟨a, b⟩ | ⟨a, b⟩
    · exact .inl ⟨a, b⟩
    · exact .inr ⟨a, by rw [List.getElem?_set_ne (Ne.symm a)]; exact b⟩
  have oth : ∀ (j : Nat) (s : Sl) (c2 : Cn) (q : Addr), (ρ.set g (.pl hs))[j]? = some s → s.cn = some c2 → σ[j]? = some (some (.ref q)) → q ≠ p := fun j s c2 q e1 e2 e3 z => by
    subst z; exact P.own g hs q c at_ (lookup_mem m) j s c2 e1 e2 e3
  refine ⟨by rw [List.length_set]; exact R.len, fun a x e => ?_, fun i d e => ?_, fun i c2 e => ?_, fun i j c2 e => ?_, fun i j s t c2 c3 q e1 e2 h1 h2 h3 h4 => ?_, R.fr0, R.new, fun a x e nl nb => ?_, fun a x e => ?_, R.bd, R.lb, ?_⟩
  · rw [upd_ne (fun z => by subst z; rw [b1] at e; cases e)]; exact R.ext a x e
  · rcases nos i _ e with ⟨_, z⟩ | ⟨_, z⟩
    · cases z
    · exact R1.sh i d z
  · rcases nos i _ e with ⟨_, z⟩ | ⟨_, z⟩
    · cases z
    · obtain ⟨q, a, b, e2, e3⟩ := R1.ow i c2 z
      exact ⟨q, a, b.at (upd_ne (oth i _ _ q z rfl a)), e2, e3⟩
  · rcases nos i _ e with ⟨_, z⟩ | ⟨_, z⟩
    · cases z
    · obtain ⟨q, a, b, e2, e3⟩ := R1.bw i j c2 z
      exact ⟨q, a, b.at (upd_ne (oth i _ _ q z rfl a)), e2, e3⟩
  · rcases nos i _ e1 with ⟨_, z⟩ | ⟨_, z⟩
    · subst z; cases h1
    · rcases nos j _ e2 with ⟨_, z2⟩ | ⟨_, z2⟩
      · subst z2; cases h2
      · exact R1.sep i j s t c2 c3 q z z2 h1 h2 h3 h4
  · rw [upd_ne (fun z => by
      subst z
      rcases d1 with d1 | d1
      · rw [e] at d1; cases d1
      · exact nl d1)]
    exact R.keep a x e nl nb
  · obtain ⟨o', kk⟩ := R.dom a x e
    by_cases z : a = p
    · subst z; exact ⟨_, upd_same⟩
    · exact ⟨o', by rw [upd_ne z]; exact kk⟩
  · have old : ∀ (i : Nat) (h3 : Pile) (q : Addr) (c2 : Cn), (ρ.set g (.pl (plSet hs p c')))[i]? = some (.pl h3) → (q, c2) ∈ h3 → (i = g ∧ q = p ∧ c2 = c') ∨ (q ≠ p ∧ ∃ h4, (ρ.set g (.pl hs))[i]? = some (.pl h4) ∧ (q, c2) ∈ h4) := fun i h3 q c2 e m2 => by
      rcases nos i _ e with ⟨rfl, z⟩ | ⟨ne, z⟩
      · cases z
        rcases plSet_mem m2 with ⟨z1, z2, _⟩ | ⟨z1, z2⟩
        · exact .inl ⟨rfl, z1, z2⟩
        · exact .inr ⟨z1, hs, at_, z2⟩
      · refine .inr ⟨fun z2 => ?_, h3, z, m2⟩
        subst z2
        exact ne (P.two i g h3 hs q c2 c z at_ m2 (lookup_mem m))
    have any : ∀ (i : Nat) (h3 : Pile) (q : Addr) (c2 : Cn), (ρ.set g (.pl (plSet hs p c')))[i]? = some (.pl h3) → (q, c2) ∈ h3 → ∃ h4 c4, (ρ.set g (.pl hs))[i]? = some (.pl h4) ∧ (q, c4) ∈ h4 := fun i h3 q c2 e m2 => by
      rcases old i h3 q c2 e m2 with ⟨rfl, rfl, rfl⟩ | ⟨_, h4, z1, z2⟩
      · exact ⟨hs, c, at_, lookup_mem m⟩
      · exact ⟨h4, c2, z1, z2⟩
    refine ⟨fun i h3 e => ?_, fun i h3 q c2 e m2 => ?_, fun i h3 q c2 e m2 j s c3 e1 e2 => ?_, fun i j h1 h2 q c2 c3 e1 e2 m1 m2 => ?_⟩
    · rcases nos i _ e with ⟨rfl, z⟩ | ⟨ne, z⟩
      · cases z
        rw [plSet_fst]
        exact P.one _ _ at_
      · exact P.one i h3 z
    · rcases old i h3 q c2 e m2 with ⟨rfl, rfl, rfl⟩ | ⟨ne, h4, z1, z2⟩
      · exact ⟨hn, b1, d1⟩
      · obtain ⟨a, b, d⟩ := P.has i h4 q c2 z1 z2
        exact ⟨a.at (upd_ne ne), b, d⟩
    · obtain ⟨h4, c4, z1, z2⟩ := any i h3 q c2 e m2
      rcases nos j _ e1 with ⟨_, z⟩ | ⟨_, z⟩
      · subst z; cases e2
      · exact P.own i h4 q c4 z1 z2 j s c3 z e2
    · obtain ⟨h4, c4, z1, z2⟩ := any i h1 q c2 e1 m1
      obtain ⟨h5, c5, z3, z4⟩ := any j h2 q c3 e2 m2
      exact P.two i j h4 h5 q c4 c5 z1 z3 z2 z4
end
end DL

/-! Piles in expressions; calls that only look; things lent by name. -/
namespace DL
open PySem PySem.Spec L2 PyProof.Rows
section
variable {X : Cx}
/-- a new thing put on the pile g: its place is handed on (older things may be left) -/
def dKeep (g : Nat) (t : TD) : TD := fun ρ Q => t ρ fun r ρ1 => match r with
  | .v d => Q (.v d) ρ1
  | .fr c => ∃ hs hs', plOf ρ1 g = some hs ∧ hs'.Sublist hs ∧ ∀ p, p ∉ hs'.map (·.1) → Q (.v (.at p)) (ρ1.set g (.pl ((p, c) :: hs')))
  | .pt d hs2 => ∃ hs hs', plOf ρ1 g = some hs ∧ hs'.Sublist hs ∧ ((∀ p, p ∈ hs2.map (·.1) → p ∉ hs'.map (·.1)) → (hs2.map (·.1)).Nodup → Q (.v d) (ρ1.set g (.pl (hs2 ++ hs'))))
theorem de_keep (g : Nat) {e : Expr} {te : TE} {t : TD} (h : DE X e te t) : DE X e te (dKeep g t) :=
  ⟨h.pe, fun {G σ H F ρ Q Qd} R q k => h.sem R q fun r ρ1 v H1 F1 q1 s1 R1 rd => by
    cases r with
    | v d => exact k _ _ _ _ _ q1 s1 R1 rd
    | fr c =>
      obtain ⟨hs, hs', e1, e2, q1⟩ := q1
      obtain ⟨p, rfl, a, b, d, l⟩ := rd
      have R2 := R1.plSub e1 e2
      have e3 := plOf_set (hs := hs') e1
      have l2 : Lone σ (ρ1.set g (.pl hs')) p := by
        refine ⟨fun i s c' z1 z2 z3 => ?_, fun i h3 c' z1 m => ?_⟩
        · rcases set_get z1 with ⟨_, w⟩ | ⟨_, w⟩
          · subst w; cases z2
          · exact l.1 i s c' w z2 z3
        · rcases set_get z1 with ⟨rfl, w⟩ | ⟨_, w⟩
          · cases w
            have m2 := e2.mem m
            unfold plOf at e1
            split at e1
            · rename_i w2; cases e1; exact l.2 _ _ c' w2 m2
            · cases e1; exact (List.not_mem_nil m2).elim
            · cases e1
          · exact l.2 i h3 c' w m
      obtain ⟨dis, R3⟩ := R2.plAdd (hs2 := [(p, c)]) e3 (by simp) fun p' c' m => by
        cases List.mem_singleton.mp m
        exact ⟨a, b, d, l2⟩
      rw [List.set_set] at R3
      exact k _ _ _ _ _ (q1 p (dis p (by simp))) s1 R3 (.at p)
    | pt d hs2 =>
      obtain ⟨hs, hs', e1, e2, q1⟩ := q1
      obtain ⟨g1, g2, g3⟩ := rd
      have R2 := R1.plSub e1 e2
      have e3 := plOf_set (hs := hs') e1
      obtain ⟨dis, R3⟩ := R2.plAdd (hs2 := hs2) e3 g2 fun p c m => by
        obtain ⟨a, b, d, l⟩ := g3 p c m
        refine ⟨a, b, d, fun i s c' z1 z2 z3 => ?_, fun i h3 c' z1 m => ?_⟩
        · rcases set_get z1 with ⟨_, w⟩ | ⟨_, w⟩
          · subst w; cases z2
          · exact l.1 i s c' w z2 z3
        · rcases set_get z1 with ⟨rfl, w⟩ | ⟨_, w⟩
          · cases w
            have m2 := e2.mem m
            unfold plOf at e1
            split at e1
            · rename_i w2; cases e1; exact l.2 _ _ c' w2 m2
            · cases e1; exact (List.not_mem_nil m2).elim
            · cases e1
          · exact l.2 i h3 c' w m
      rw [List.set_set] at R3
      exact k _ _ _ _ _ (q1 dis g2) s1 R3 g1⟩
/-- a value as an operand, where piles are about -/
def opG (g : Nat) : D → Op
  | .at p => .pl g p
  | d => .now d
def qPl (g : Nat) (t : TD) : TQ := fun ρ Q => t ρ fun r ρ1 => Q (opG g r.dat) ρ1
theorem opG_den {K : PySem.W.Frag} {F : Hp} {σ : L2.St} {v : V} {d : D} (g : Nat) (h : Den K F v d) : OpDen K F σ v (opG g d) := by
  cases d with
  | «at» p => cases h; rfl
  | _ => exact h
theorem do_pl (g : Nat) {e : Expr} {te : TE} {t : TD} (h : DE X e te t) : DO X e te (qPl g t) :=
  ⟨h.pe, fun R q k => h.sem R q fun r ρ' v H' F' qd s1 R1 rd => by
    obtain ⟨F2, s2, R2, d2⟩ := R1.share rd
    exact k _ _ _ _ _ qd (s1.trans s2) R2 (opG_den g d2)⟩
def qVarP (g i : Nat) : TQ := fun ρ Q => match ρ[i]? with
  | some (.sh d) => Q (match d with | .at p => .pl g p | _ => .at i) ρ
  | some (.ow _) => Q (.at i) ρ
  | some (.bw _ _) => Q (.at i) ρ
  | _ => False
theorem do_varP (g : Nat) {i : Nat} {x : Str} {pos : Pos} (h : PE X (.Name x pos) (tVar i)) : DO X (.Name x pos) (tVar i) (qVarP g i) := by
  refine ⟨h, fun {G σ H F ρ Q Qd} R q k => ?_⟩
  unfold qVarP at q
  split at q
  · rename_i d e
    obtain ⟨v, a, b⟩ := R.sh i d e
    refine ⟨v, a, ?_⟩
    cases d with
    | «at» p => cases b; exact k (.pl g p) _ _ _ _ q (Same.refl _) R rfl
    | _ => exact k (.at i) _ _ _ _ q (Same.refl _) R a
  · rename_i c e
    obtain ⟨p, a, _⟩ := R.ow i _ e
    exact ⟨_, a, k (.at i) _ _ _ _ q (Same.refl _) R a⟩
  · rename_i j c e
    obtain ⟨p, a, _⟩ := R.bw i _ _ e
    exact ⟨_, a, k (.at i) _ _ _ _ q (Same.refl _) R a⟩
  · exact q.elim
/-! ### e.append(..), e[i] = .., e an expression whose value a pile holds -/
def dMutE (g : Nat) (t0 : TD) (m : List D → List D → (List D → D → Prop) → Prop) (t : TVs) : TD := fun ρ Q => t0 ρ fun r ρ0 => ∃ p, r.dat = .at p ∧ (∃ hs l, plOf ρ0 g = some hs ∧ hs.lookup p = some (.l l)) ∧
  t ρ0 fun ds ρ1 => ∃ hs l, plOf ρ1 g = some hs ∧ hs.lookup p = some (.l l) ∧ m l ds fun l' d => Q (.v d) (ρ1.set g (.pl (plSet hs p (.l l'))))
theorem de_mutE (g : Nat) {o : Expr} {to : TE} {t0 : TD} {e : Expr} {es : List Expr} {name : Str} {apos cpos : Pos} {id : String} {r : V → List V → Hp → VK → Prop} {m : List D → List D → (List D → D → Prop) → Prop} {ta : TA} {t : TVs}
    (slot : Slot "list" name id) (hty : typeOf (.builtin id) = pure (.type "method_descriptor")) (hm : MtR X id r) (hg : SemMut X.K r m) (ho : DE X o to t0) (ha : DV X (e :: es) ta t)
    (hbase : attributeBase o name X.env (eval o X.env) = eval o X.env := by rfl)
    (hfew : ((backTo cpos (starEach (e :: es) X.env)).all (fun x => !x.1) && (backToKw cpos (keywordEach [] X.env)).all (fun x => x.1.isSome)
      && decide ((e :: es).length + ([] : List Keyword).length + (if ([] : List Keyword).isEmpty then 0 else 1) < 30)) = true := by rfl)
    (hline : (apos.endLine == cpos.line) = true := by rfl) (hs : starEach (e :: es) X.env = (false, eval e X.env) :: starEach es X.env := by rfl) (hplain : (backTo cpos (starEach es X.env)).any (·.1) = false := by rfl) :
    DE X (.Call (.Attribute o name apos) (e :: es) [] cpos) (tBM X.K "list" r to ta) (dMutE g t0 m t) := by
  refine ⟨pe_bm PySem.F.plainAttrs_list slot hty hm ho.pe ha.pe hbase hfew hline hs hplain, fun {G σ H F ρ Q Qd} R q k => ?_⟩
  refine ho.sem R q fun r ρ0 v H0 F0 q0 s0 R0 rd => ?_
  obtain ⟨p, ed, ⟨hs0, l0, e1, e2⟩, q0⟩ := q0
  obtain ⟨F0', s0', R0', d0⟩ := R0.share rd
  rw [ed] at d0
  cases d0
  obtain ⟨⟨xs0, hx0, _⟩, _⟩ := R0'.plHas e1 e2
  refine .inl ⟨rfl, xs0, .inl (.inl hx0)⟩ |> fun z => ⟨z, ha.sem R0' q0 fun ds ρ1 vs H1 F1 q1 s1 R1 d1 => ?_⟩
  obtain ⟨hs1, l, f1, f2, q1⟩ := q1
  obtain ⟨⟨xs, hx, dx⟩, _⟩ := R1.plHas f1 f2
  exact hg R1.ext hx dx d1 q1 fun l' d xs' z qd d2 dz => k _ _ _ _ _ qd (s0.trans (s0'.trans s1)) (R1.plWrite f1 f2 ⟨xs', upd_same, d2⟩) dz
def dMutE0 (g : Nat) (t0 : TD) (m : List D → (List D → D → Prop) → Prop) : TD := fun ρ Q => t0 ρ fun r ρ0 => ∃ p hs l, r.dat = .at p ∧ plOf ρ0 g = some hs ∧ hs.lookup p = some (.l l) ∧ m l fun l' d => Q (.v d) (ρ0.set g (.pl (plSet hs p (.l l'))))
theorem de_mutE0 (g : Nat) {o : Expr} {to : TE} {t0 : TD} {name : Str} {apos cpos : Pos} {id : String} {r : V → List V → Hp → VK → Prop} {m : List D → (List D → D → Prop) → Prop}
    (slot : Slot "list" name id) (hty : typeOf (.builtin id) = pure (.type "method_descriptor")) (hm : MtR X id r) (hg : SemMut0 X.K r m) (ho : DE X o to t0)
    (hbase : attributeBase o name X.env (eval o X.env) = eval o X.env := by rfl) (hline : (apos.endLine == cpos.line) = true := by rfl) :
    DE X (.Call (.Attribute o name apos) [] [] cpos) (tBM0 X.K "list" r to) (dMutE0 g t0 m) := by
  refine ⟨pe_bm0 PySem.F.plainAttrs_list slot hty hm ho.pe hbase hline, fun {G σ H F ρ Q Qd} R q k => ?_⟩
  refine ho.sem R q fun r ρ0 v H0 F0 q0 s0 R0 rd => ?_
  obtain ⟨p, hs, l, ed, e1, e2, q0⟩ := q0
  obtain ⟨F0', s0', R0', d0⟩ := R0.share rd
  rw [ed] at d0
  cases d0
  obtain ⟨⟨xs, hx, dx⟩, _⟩ := R0'.plHas e1 e2
  refine ⟨.inl ⟨rfl, xs, .inl (.inl hx)⟩, hg R0'.ext hx dx q0 fun l' d xs' z qd d2 dz => ?_⟩
  exact k _ _ _ _ _ qd (s0.trans s0') (R0'.plWrite e1 e2 ⟨xs', upd_same, d2⟩) dz
end
end DL

/-! Calls that only look at what is handed in; things lent by their names. -/
namespace DL
open PySem PySem.Spec L2 PyProof.Rows
def D.atom : D → Bool
  | .non => true
  | .bl _ => true
  | .int _ => true
  | .str _ => true
  | .rep _ => true
  | _ => false
theorem atom_den {K : PySem.W.Frag} {F F' : Hp} {v : V} {d : D} (ha : d.atom = true) (h : Den K F v d) : Den K F' v d := by
  cases d with
  | non => cases h; exact .non
  | bl b => cases h; exact .bl _
  | int i => cases h; exact .int _
  | str x => cases h with | str _ a => exact .str _ a
  | rep d => cases h; exact .rep d
  | _ => cases ha
theorem Rep.grow {K : PySem.W.Frag} {G : Cd} {σ : L2.St} {H H' F : Hp} {ρ : SL} (R : Rep K G σ H F ρ) (e : Same H H') : Rep K G σ H' F ρ := by
  have hh : ∀ p c, Has K F H p c → Has K F H' p c := fun p c h => by
    obtain ⟨o, ho⟩ := h.ex
    exact h.at ((e p o ho).trans ho.symm)
  exact ⟨R.len, R.ext.trans e, R.sh, fun i c z => let ⟨p, a, b, d⟩ := R.ow i c z; ⟨p, a, hh p c b, d⟩, fun i j c z => let ⟨p, a, b, d⟩ := R.bw i j c z; ⟨p, a, hh p c b, d⟩, R.sep, R.fr0, R.new,
    fun a o z nl nb => e a o (R.keep a o z nl nb), fun a o z => let ⟨o', k⟩ := R.dom a o z; ⟨o', e a o' k⟩, R.bd, R.lb,
    R.pl.to (fun _ _ z => z) (fun j s c' q e1 e2 e3 => .inl ⟨s, c', e1, e2, e3⟩) fun i hs q c _ _ a b d => ⟨hh q c a, b, d⟩⟩
/-- arguments that are looked at alone -/
theorem sem_pure {K : PySem.W.Frag} {sp : SpD} {vs : List V} {ds : List D} {G : Cd} {σ : L2.St} {H F : Hp} {ρ : SL} {Q : VK} {E : XK} {Qd : Rv → SL → Prop} (R : Rep K G σ H F ρ) (d : DenL K H vs ds)
    (q : sp (ds.map Sl.sh) fun r _ => ∃ a, r = .v a ∧ D.atom a = true ∧ Qd (.v a) ρ)
    (k : ∀ r ρ' v H' F', Qd r ρ' → Same F F' → Rep K G σ H' F' ρ' → RDen K G σ ρ' H' F' v r → Q v H') : lift K sp vs H Q E := by
  have sl : ∀ (i : Nat) (s : Sl), (ds.map Sl.sh)[i]? = some s → ∃ d, ds[i]? = some d ∧ s = .sh d := fun i s e => by
    rw [List.getElem?_map] at e
    cases q : ds[i]? with
    | none => rw [q] at e; cases e
    | some d => rw [q] at e; cases e; exact ⟨d, rfl, rfl⟩
  refine ⟨fun _ => none, H, ds.map Sl.sh, _, ?_, q, fun r outs σ' v H' F' ⟨a, e, ha, qd⟩ RC rd => ?_⟩
  · refine ⟨by rw [List.length_map, List.length_map, d.length], Same.refl H, fun i d' e => ?_, fun i c e => ?_, fun i j c e => ?_, fun i j s t c c' p e1 e2 h1 h2 h3 h4 => ?_, Same.refl H, fun a o e => .inl e, fun a o e _ _ => e, fun a o e => ⟨o, e⟩, fun j p e => (nomatch e), fun _ _ z => z.elim, ?_⟩
    · obtain ⟨d2, e2, z⟩ := sl i _ e
      cases z
      obtain ⟨v, e3, e4⟩ := d.get e2
      exact ⟨v, by rw [List.getElem?_map, e3]; rfl, e4⟩
    · obtain ⟨d2, e2, z⟩ := sl i _ e; cases z
    · obtain ⟨d2, e2, z⟩ := sl i _ e; cases z
    · obtain ⟨d2, e2, z⟩ := sl i _ e1; subst z; cases h1
    · have no : ∀ (i : Nat) (hs : List (Addr × Cn)), (ds.map Sl.sh)[i]? ≠ some (.pl hs) := fun i hs e => by
        obtain ⟨d2, e2, z⟩ := sl i _ e; cases z
      exact ⟨fun i hs e => (no i hs e).elim, fun i hs p c e => (no i hs e).elim, fun i hs p c e => (no i hs e).elim, fun i j hs hs' p c c' e => (no i hs e).elim⟩
  · subst e
    have e : Same H H' := fun a o z => RC.keep a o z (fun z => z) (fun j z => nomatch z)
    exact k _ _ _ _ _ qd (Same.refl F) (R.grow e) (show Den K F v a from atom_den ha rd)
theorem OpDens.dens {K : PySem.W.Frag} {G : Cd} {σ : L2.St} {H F : Hp} {ρ : SL} (R : Rep K G σ H F ρ) {vs : List V} {os : List Op} {ds : List D} (h : OpDens K F σ vs os) (e : gets ρ os = some ds) : DenL K H vs ds := by
  have p := OpDens.pks R h e
  clear h e
  induction p with
  | nil => exact .nil
  | cons a _ ih => exact .cons (a.den R.ext) ih
/-! with what the pile holds put in -/
def pileOf (ρ : SL) (g : Nat) : Pile := match ρ[g]? with
  | some (.pl hs) => hs
  | _ => []
theorem pileOf_mem {ρ : SL} {g : Nat} {p : Addr} {c : Cn} (h : (p, c) ∈ pileOf ρ g) : ∃ (i : Nat) (hs : Pile), ρ[i]? = some (.pl hs) ∧ (p, c) ∈ hs := by
  unfold pileOf at h
  split at h
  · rename_i hs e
    exact ⟨g, hs, e, h⟩
  · exact (List.not_mem_nil h).elim
def Op.view (ρ : SL) (g : Nat) (o : Op) : Option D := (o.get ρ).map (D.res (pileOf ρ g))
def getsV (ρ : SL) (g : Nat) : List Op → Option (List D)
  | [] => some []
  | o :: os => match o.view ρ g, getsV ρ g os with
    | some d, some ds => some (d :: ds)
    | _, _ => none
theorem OpDens.densV {K : PySem.W.Frag} {G : Cd} {σ : L2.St} {H F : Hp} {ρ : SL} (R : Rep K G σ H F ρ) {g : Nat} : ∀ {vs : List V} {os : List Op} {ds : List D}, OpDens K F σ vs os → getsV ρ g os = some ds → DenL K H vs ds
  | _, _, _, .nil, e => by cases e; exact .nil
  | _, _, ds, .cons (o := o) (os := os) a b, e => by
    unfold getsV at e
    cases q : o.view ρ g with
    | none => rw [q] at e; cases e
    | some d =>
      rw [q] at e
      cases q2 : getsV ρ g os with
      | none => rw [q2] at e; cases e
      | some ds' =>
        rw [q2] at e
        cases e
        unfold Op.view at q
        cases q3 : o.get ρ with
        | none => rw [q3] at q; cases q
        | some d0 =>
          rw [q3] at q
          cases q
          refine .cons (Den.res (fun p c e => ?_) ((a.pk R q3).den R.ext)) (b.densV R q2)
          obtain ⟨i, hs, z1, z2⟩ := pileOf_mem (lookup_mem e)
          obtain ⟨hh, _⟩ := R.pl.has i hs p c z1 z2
          obtain ⟨o', ho⟩ := hh.ex
          exact hh.den R.ext ho ho
section
variable {X : Cx}
def dCallP (sp : SpD) (t : TAs) : TD := fun ρ Q => t ρ fun os ρ1 => match gets ρ1 os with
  | some ds => sp (ds.map Sl.sh) fun r _ => ∃ a, r = .v a ∧ D.atom a = true ∧ Q (.v a) ρ1
  | none => False
def dCallV (g : Nat) (sp : SpD) (t : TAs) : TD := fun ρ Q => t ρ fun os ρ1 => match getsV ρ1 g os with
  | some ds => sp (ds.map Sl.sh) fun r _ => ∃ a, r = .v a ∧ D.atom a = true ∧ Q (.v a) ρ1
  | none => False
theorem sem_callP {sp : SpD} {t : TAs} {es : List Expr} {ta : TA} {E : XK} (ha : DA X es ta t) {G : Cd} {σ : L2.St} {H F : Hp} {ρ : SL} {Q : VK} {Qd : Rv → SL → Prop} (R : Rep X.K G σ H F ρ) (q : dCallP sp t ρ Qd)
    (k : ∀ r ρ' v H' F', Qd r ρ' → Same F F' → Rep X.K G σ H' F' ρ' → RDen X.K G σ ρ' H' F' v r → Q v H') : ta σ H fun vs H1 => lift X.K sp vs H1 Q E := by
  refine ha.sem R q fun os ρ1 vs H1 F1 q1 s1 R1 d1 => ?_
  cases ea : gets ρ1 os with
  | none => rw [ea] at q1; exact q1.elim
  | some ds =>
    rw [ea] at q1
    exact sem_pure R1 (d1.dens R1 ea) q1 fun r ρ' v H' F' qd s2 R2 rd => k _ _ _ _ _ qd (s1.trans s2) R2 rd
theorem sem_callV {g : Nat} {sp : SpD} {t : TAs} {es : List Expr} {ta : TA} {E : XK} (ha : DA X es ta t) {G : Cd} {σ : L2.St} {H F : Hp} {ρ : SL} {Q : VK} {Qd : Rv → SL → Prop} (R : Rep X.K G σ H F ρ) (q : dCallV g sp t ρ Qd)
    (k : ∀ r ρ' v H' F', Qd r ρ' → Same F F' → Rep X.K G σ H' F' ρ' → RDen X.K G σ ρ' H' F' v r → Q v H') : ta σ H fun vs H1 => lift X.K sp vs H1 Q E := by
  refine ha.sem R q fun os ρ1 vs H1 F1 q1 s1 R1 d1 => ?_
  cases ea : getsV ρ1 g os with
  | none => rw [ea] at q1; exact q1.elim
  | some ds =>
    rw [ea] at q1
    exact sem_pure R1 (d1.densV R1 ea) q1 fun r ρ' v H' F' qd s2 R2 rd => k _ _ _ _ _ qd (s1.trans s2) R2 rd
theorem de_callP {CX : CXT} {k : Nat} {f : Addr} {fd : FuncData} {ps : List Str} {sp : SpD} {x : Str} {p pos : Pos} {e : Expr} {es : List Expr} {ta : TA} {t : TAs} {E : XK} (Fk : FnG X.prog X.w X.K X.mg X.base CX k f fd ps (lift X.K sp)) (hgd : X.A.guards = some []) (hr : Room k X.A)
    (hg : Gl X x) (hm : X.mg x = some (.ref f)) (hk : PySem.W.keepIn X.K (.ref f) = true) (hb : Binds X.K fd ps []) (hx : Passes CX X E) (ha : DA X (e :: es) ta t) (hdb : (x == ("__debug__" : Str)) = false := by decide)
    (he : starEach (e :: es) X.env = (false, eval e X.env) :: starEach es X.env := by rfl) (hpl : (backTo pos (starEach es X.env)).any (·.1) = false := by rfl) : DE X (.Call (.Name x p) (e :: es) [] pos) (tCall (lift X.K sp) [] E ta) (dCallP sp t) :=
  ⟨pe_callG Fk hgd hr hg hm hk hb hx ha.pe hdb he hpl, fun {G σ H F ρ Q Qd} R q kk => by
    have z : ta σ H (fun vs H1 => lift X.K sp vs H1 Q E) := sem_callP ha R q kk
    show ta σ H (fun vs H1 => lift X.K sp (vs ++ []) H1 Q E)
    simpa only [List.append_nil] using z⟩
theorem de_callV (g : Nat) {CX : CXT} {k : Nat} {f : Addr} {fd : FuncData} {ps : List Str} {sp : SpD} {x : Str} {p pos : Pos} {e : Expr} {es : List Expr} {ta : TA} {t : TAs} {E : XK} (Fk : FnG X.prog X.w X.K X.mg X.base CX k f fd ps (lift X.K sp)) (hgd : X.A.guards = some []) (hr : Room k X.A)
    (hg : Gl X x) (hm : X.mg x = some (.ref f)) (hk : PySem.W.keepIn X.K (.ref f) = true) (hb : Binds X.K fd ps []) (hx : Passes CX X E) (ha : DA X (e :: es) ta t) (hdb : (x == ("__debug__" : Str)) = false := by decide)
    (he : starEach (e :: es) X.env = (false, eval e X.env) :: starEach es X.env := by rfl) (hpl : (backTo pos (starEach es X.env)).any (·.1) = false := by rfl) : DE X (.Call (.Name x p) (e :: es) [] pos) (tCall (lift X.K sp) [] E ta) (dCallV g sp t) :=
  ⟨pe_callG Fk hgd hr hg hm hk hb hx ha.pe hdb he hpl, fun {G σ H F ρ Q Qd} R q kk => by
    have z : ta σ H (fun vs H1 => lift X.K sp vs H1 Q E) := sem_callV ha R q kk
    show ta σ H (fun vs H1 => lift X.K sp (vs ++ []) H1 Q E)
    simpa only [List.append_nil] using z⟩
/-! ### o.m(..) and o(..) that only look, o by its name or told -/
/-- what is looked at, the object in front -/
def isOfC (C : Addr) : D → Prop
  | .obj C' _ => C' = C
  | _ => False
theorem obj_at {K : PySem.W.Frag} {F H : Hp} {v : V} {d : D} {C : Addr} (e : Same F H) (h : Pk K F H v d) (q : isOfC C d) : ∃ a dx gs, v = .ref a ∧ H a = some (.ins C dx gs) := by
  cases d with
  | obj C' fs =>
    have q : C' = C := q
    subst q
    obtain ⟨p, dx, gs, rfl, h1, h2⟩ := h.obj e
    exact ⟨p, dx, gs, rfl, h1⟩
  | _ => exact q.elim
/-! ### an argument lent if it is one's own -/
def agAuto (i : Nat) (u : TAg) : TAg := fun ρ Q => match ρ[i]? with
  | some (.sh d) => u ρ fun os ρ2 => Q (.val d :: os) ρ2
  | some s => s.cn.isSome = true ∧ u ρ fun os ρ2 => Q (.bor i :: os) ρ2
  | none => False
theorem dag_auto {i : Nat} {x : Str} {pos : Pos} {es : List Expr} {ta : TA} {u : TAg} (h : PE X (.Name x pos) (tVar i)) (r : DAg X es ta u) (hs : starEach (.Name x pos :: es) X.env = (false, eval (.Name x pos) X.env) :: starEach es X.env := by rfl) :
    DAg X (.Name x pos :: es) (tCons (tVar i) ta) (agAuto i u) :=
  ⟨pa_cons h r.pe hs, fun {G σ H F ρ Q Qd} R q k => by
    unfold agAuto at q
    split at q
    · rename_i d e
      obtain ⟨v, a, b⟩ := R.sh i d e
      exact ⟨v, a, r.sem R q fun os ρ2 vs H2 F2 q2 s2 R2 d2 => k _ _ _ _ _ q2 s2 R2 (.cons (o := .val d) (b.mono s2) d2)⟩
    · rename_i s _ e
      obtain ⟨q0, q1⟩ := q
      obtain ⟨c, hc⟩ := Option.isSome_iff_exists.mp q0
      obtain ⟨p, a, _⟩ := R.owned e hc
      exact ⟨_, a, r.sem R q1 fun os ρ2 vs H2 F2 q2 s2 R2 d2 => k _ _ _ _ _ q2 s2 R2 (.cons (o := .bor i) a d2)⟩
    · exact q.elim⟩
end
end DL

/-! len(set(texts)). -/
namespace DL
open PySem PySem.Spec L2 PyProof.Rows
/-- the texts met so far, each once -/
def met : List Str → List Str
  | [] => []
  | x :: r => if (met r).any (· == x) = true then met r else x :: met r
def metT (xs : List Str) (i : Nat) : List Str := met (xs.take i).reverse
theorem met_le : ∀ l : List Str, (met l).length ≤ l.length
  | [] => Nat.le_refl _
  | x :: r => by
    rw [met]
    have := met_le r
    split
    · rw [List.length_cons]; omega
    · rw [List.length_cons, List.length_cons]; omega
theorem met_mem : ∀ {l : List Str} {x : Str}, x ∈ met l ↔ x ∈ l
  | [], x => by simp [met]
  | y :: r, x => by
    have ih := @met_mem r x
    have ihy := @met_mem r y
    rw [met]
    split
    · rename_i h
      have hy : y ∈ met r := by simpa using h
      rw [List.mem_cons, ih]
      constructor
      · exact .inr
      · rintro (rfl | h)
        · exact ihy.mp hy
        · exact h
    · rw [List.mem_cons, List.mem_cons, ih]
theorem met_full : ∀ l : List Str, (met l).length = l.length ↔ l.Nodup
  | [] => by simp [met]
  | x :: r => by
    have ih := met_full r
    have hle := met_le r
    have hm := @met_mem r x
    rw [met, List.nodup_cons]
    split
    · rename_i h
      have hx : x ∈ met r := by simpa using h
      rw [List.length_cons]
      constructor
      · intro e; omega
      · intro e; exact (e.1 (hm.mp hx)).elim
    · rename_i h
      have hx : x ∉ met r := by simpa using h
      rw [List.length_cons, List.length_cons, Nat.add_right_cancel_iff, ih]
      constructor
      · intro e; exact ⟨fun z => hx (hm.mpr z), e⟩
      · exact And.right
theorem metT_succ {xs : List Str} {i : Nat} (h : i < xs.length) : metT xs (i + 1) = if (metT xs i).any (· == xs[i]) = true then metT xs i else xs[i] :: metT xs i := by
  unfold metT
  rw [List.take_succ_eq_append_getElem h, List.reverse_append, List.reverse_singleton, List.singleton_append, met]
theorem metT_any {xs : List Str} {i : Nat} (h : i < xs.length) (k : Str) : ((metT xs i).any (· == k) || decide (k = xs[i])) = (metT xs (i + 1)).any (· == k) := by
  rw [metT_succ h]
  by_cases e : k = xs[i]
  · subst e
    split
    · rename_i hq; rw [hq]; rfl
    · simp
  · have hb : (xs[i] == k) = false := beq_eq_false_iff_ne.mpr (Ne.symm e)
    split
    · simp [e]
    · rw [List.any_cons, hb]; simp [e]
theorem metT_len {xs : List Str} {i : Nat} (h : i < xs.length) : (if (metT xs i).any (· == xs[i]) = true then (metT xs i).length else (metT xs i).length + 1) = (metT xs (i + 1)).length := by
  rw [metT_succ h]
  split <;> rfl
theorem metT_le (xs : List Str) (i : Nat) : (metT xs i).length ≤ i := by
  have := met_le (xs.take i).reverse
  rw [List.length_reverse, List.length_take] at this
  unfold metT
  omega
theorem metT_all (xs : List Str) : (metT xs xs.length).length = xs.length ↔ xs.Nodup := by
  unfold metT
  rw [List.take_length]
  have := met_full xs.reverse
  rw [List.length_reverse, (List.reverse_perm xs).nodup_iff] at this
  exact this
section
variable {prog : Program} {w : World} {A : Around}
/-- what a set of texts holds when i items of the list went in -/
abbrev SetAt (prog : Program) (w : World) (xs : List Str) (i : Nat) (h : Heap) (S : Addr) : Prop := h.SetOf (PySem.strKind prog w) S (fun k => (metT xs i).any (· == k)) (metT xs i).length
theorem set_loop {R : Result → Shared → Prop} {I : Addr} {fp wr : List Addr} {G : Array GenState → Array GenState → Prop} {P : Nat → Value → Prop} {St : Nat → Shared → Prop} {xs : List Str} (W : WalksS prog w A.in1 I fp wr G xs.length P St)
    (S : Addr) (hS0 : S ∉ fp) (few : xs.length + 1 < scanBound) (hP : ∀ i v, P i v → ∃ t, v = .str (xs.getD i Str.empty) t) :
    ∀ (left i : Nat) (s : Shared), i + left = xs.length → St i s → SetAt prog w xs i s.heap S →
      (∀ s', Moved (S :: wr) G s s' → SetAt prog w xs xs.length s'.heap S → R (.ok (.ret .none)) s') → codeAny (model prog w) A (.builtin "set.update.loop" ⟨[.ref S, .ref I], []⟩) R s := by
  have nw : S ∉ wr := fun z => hS0 (W.sub _ z)
  have up : ∀ b ∈ wr, b ∈ S :: wr := fun b hb => List.mem_cons_of_mem _ hb
  intro left
  induction left with
  | zero =>
    intro i s hi st hs k
    have e : i = xs.length := hi
    subst e
    refine codeAny_builtin PyProof.Rows.F.entry_set_update_loop ?_
    rw [Around.under_plainId PyProof.Rows.F.plain_set_update_loop _]
    refine wpAny_bind (m := pyNext (.ref I)) (W.done s _ _ st fun s' mv => wpAny_pure (k s' (mv.mono up) ?_))
    obtain ⟨o, es, ep, t, ho, more⟩ := hs
    exact ⟨o, es, ep, t, mv.heap S _ nw ho, more⟩
  | succ left ih =>
    intro i s hi st hs k
    have lt : i < xs.length := by omega
    refine codeAny_builtin PyProof.Rows.F.entry_set_update_loop ?_
    rw [Around.under_plainId PyProof.Rows.F.plain_set_update_loop _]
    refine wpAny_bind (m := pyNext (.ref I)) (W.item i s _ _ lt st fun v s' hv st' mv => ?_)
    obtain ⟨t, rfl⟩ := hP i v hv
    have eg : xs.getD i Str.empty = xs[i] := by rw [List.getD_eq_getElem?_getD, List.getElem?_eq_getElem lt]; rfl
    rw [eg]
    have hs' : SetAt prog w xs i s'.heap S := by
      obtain ⟨o, es, ep, tb, ho, more⟩ := hs
      exact ⟨o, es, ep, tb, mv.heap S _ nw ho, more⟩
    refine wpAny_bind (m := holding [Value.str xs[i] t] (setAdd S (.str xs[i] t))) (wpAny_holding ?_)
    unfold setAdd
    refine wpAny_holding (wpAny_bind ((PySem.strKind prog w).pyHash (k := xs[i]) (strKind_is _ _ _ _) ?_))
    have room : (metT xs i).length + 1 < scanBound := by have := metT_le xs i; omega
    refine wpAny_setAddHashed_of (knd := PySem.strKind prog w) (s := { s' with toks := s'.toks + 1 }) (strKind_is _ _ _ _) rfl hs' room fun h' same hs2 => ?_
    have hs3 : SetAt prog w xs (i + 1) h' S := SetOf_congr hs2 (fun k' => metT_any lt k') (metT_len lt)
    refine wpAny_pure ⟨plainId_quiet PyProof.Rows.F.plain_set_update_loop _, ih (i + 1) _ (by omega) (W.frame _ s' _ _ st' (Nat.le_succ _) fun b hb o e => ?_) hs3 fun s2 mv2 hs4 => ?_⟩
    · rw [same.2 b (fun z => hS0 (by rw [← z]; exact hb))]; exact e
    · refine k s2 (Moved.trans W.gtrans ((mv.mono up).then_heap (Nat.le_succ _) fun b o hb e => ?_) mv2) hs4
      rw [same.2 b (fun z => hb (by rw [z]; exact List.mem_cons_self))]; exact e
def fresh (led : Bool) : Obj := { cls := .type "set", dict := none, data := .set #[] 0 (.fresh 0 0 led) }
/-- the set of a list's texts -/
theorem set_of_texts {E : Value → Shared → Prop} {s : Shared} {l : Addr} {its : Array Value} {xs : List Str} {Q : Value → Shared → Prop} (calm : A.handled = none) (il : s.heap.IsList l its) (ix : StrsAre its.toList xs) (few : xs.length + 1 < scanBound)
    (h : ∀ (h' : Heap) (tk : Nat), SetAt prog w xs xs.length h' s.heap.objs.size → (∀ b o, b < s.heap.objs.size → s.heap.get? b = some o → h'.get? b = some o) → Q (.ref s.heap.objs.size) { s with heap := h', toks := tk }) :
    wpAny (model prog w) A (PySem.call (.type "set") [.ref l]) Q E s := by
  have hz : xs.length = its.size := by rw [← StrsAre.len_eq ix, Array.length_toList]
  generalize hS : s.heap.objs.size = S at h ⊢
  obtain ⟨mc, ml, mm⟩ := PySem.F.called_set.mro
  have g1 := PySem.F.called_set.made
  have g2 := PySem.F.called_set.sub
  refine wpAny_call (codeAny_of_tree ?_)
  change wpAny _ _ (callAny (.type "set") _) _ _ _
  refine wpAny_pure ⟨Code.quiet_builtin _ (by decide +kernel), codeAny_builtin PySem.F.entry_type_call ?_⟩
  rw [Around.under_plain (weight_type_call_type "set" [.ref l] []) rfl]
  have g3 := PySem.F.called_set.notType
  have g4 := PySem.F.called_set.canCreate
  have g5 := PySem.F.typeCall_set_1 (.ref l)
  repeat (any_goals (first | assumption | wp_step))
  refine codeAny_mono (code_set_new_1 (.ref l) (E := E) (Q₁ := fun r s1 => ∃ led : Bool, r = .ref S ∧ s1 = { s with heap := s.heap.push (fresh led) }) fun led => ⟨led, by rw [hS], rfl⟩) fun res s1 hres => ?_
  match res, hres with
  | .error e, z => exact z
  | .ok .next, z => exact z.elim
  | .ok .brk, z => exact z.elim
  | .ok .cont, z => exact z.elim
  | .ok (.ret r), ⟨led, e1, e2⟩ =>
    subst e1
    subst e2
    have hN : (s.heap.push (fresh led)).get? S = some (fresh led) := by rw [← hS]; exact Heap.get?_push_size _ rfl
    have hT : Shared.TypeIs { s with heap := s.heap.push (fresh led) } (.ref S) "set" := ⟨_, hN, rfl⟩
    have g6 := PySem.F.called_set.init.lookup
    have g7 := PySem.F.called_set.init.bind (.ref S)
    repeat (any_goals (first | assumption | wp_step))
    refine codeAny_mono (codeAny_call_builtin (R := wants (fun r s2 => r = .none ∧ ∃ h' tk, s2 = { s with heap := h', toks := tk } ∧ SetAt prog w xs xs.length h' S ∧ (∀ b o, b < S → s.heap.get? b = some o → h'.get? b = some o)) E)
      PySem.F.called_set.init.plain PySem.F.entry_set_init (check_set_init_1 hT ?_)) fun r2 s2 hr2 => ?_
    · obtain ⟨ol, hol, hcl, nl, hdl⟩ := il
      obtain ⟨ocls, odict, odata, oslots⟩ := ol
      simp only at hcl hdl
      subst hcl; subst hdl
      have hol2 : (s.heap.push (fresh led)).get? l = some { cls := .type "list", dict := odict, data := .seq its nl, slots := oslots } := Heap.get?_push_of_some _ hol
      have g8 := PySem.F.sub_list_set
      have g9 := PySem.F.sub_list_frozenset
      have ga : (Value.type "list" == Value.type "dict") = false := by decide
      have il2 : (s.heap.push (fresh led)).IsList l its := ⟨_, hol2, rfl, nl, rfl⟩
      unfold Builtin.«set.__init__» noKeywords Builtin.Frozenset.updateFrom
      generalize hPI : pyIter = PI
      wp_walk
      subst hPI
      refine wpAny_pyIter_list il2 (wpAny_bind (wpAny_runValue ?_))
      have lS : l < S := by rw [← hS]; exact Heap.lt_size hol
      have pS : (s.heap.push (fresh led)).objs.size = S + 1 := by rw [Heap.size_push, hS]
      have neI : l ≠ (s.heap.push (fresh led)).objs.size := by rw [pS]; exact Nat.ne_of_lt (Nat.lt_succ_of_lt lS)
      have outS : S ∉ [(s.heap.push (fresh led)).objs.size, l] := by
        rw [pS]
        simp only [List.mem_cons, List.not_mem_nil, or_false, not_or]
        exact ⟨Nat.ne_of_lt (Nat.lt_succ_self _), Nat.ne_of_gt lS⟩
      have c3 : A.in1.in1.in1.handled = none := by simp [calm]
      have W := (Walks.list (prog := prog) (w := w) c3 (s.heap.push (fresh led)).objs.size l neI its).toS
      rw [← hz] at W
      refine set_loop W S outS few (fun i v hv => SS.strs_at ix i v (by rw [Array.getElem?_toList]; exact hv)) xs.length 0 _ (Nat.zero_add _) ⟨⟨_, Heap.get?_push_size _ rfl, rfl, rfl⟩, (il2.push _)⟩ ?_ ?_
      · have hg : ((s.heap.push (fresh led)).push { cls := .type "list_iterator", data := .fields #[.ref l, .int 0 0] }).get? S = some (fresh led) := Heap.get?_push_of_some _ hN
        exact SetOf_congr ((setObjOf_fresh (knd := PySem.strKind prog w) led).setOf hg (by unfold scanBound; omega)) (fun _ => by simp [metT, met]) (by simp [metT, met])
      · intro s' mv hs'
        obtain ⟨h', g', d', tk', os'⟩ := s'
        have e1 : g' = s.gens := mv.gens
        have e2 : d' = s.drawn := mv.drawn
        have e3 : os' = s.os := mv.os
        subst e1; subst e2; subst e3
        change wpAny _ _ _ _ _ _
        refine wpAny_pure ?_
        change wpAny _ _ (ret Value.none) _ _ _
        refine wpAny_pure ⟨rfl, h', tk', rfl, hs', fun b o hb e => ?_⟩
        refine mv.heap b o ?_ (Heap.get?_push_of_some _ (Heap.get?_push_of_some _ e))
        rw [pS]
        simp only [List.mem_cons, List.not_mem_nil, or_false, not_or]
        exact ⟨Nat.ne_of_lt hb, Nat.ne_of_lt (Nat.lt_succ_of_lt hb)⟩
    · match r2, hr2 with
      | .error e, z => exact z
      | .ok .next, z => exact z.elim
      | .ok .brk, z => exact z.elim
      | .ok .cont, z => exact z.elim
      | .ok (.ret r), ⟨e1, h', tk, e2, hs', kp⟩ =>
        subst e1
        subst e2
        repeat (any_goals (first | assumption | wp_step))
        exact h _ _ hs' kp
end
end DL

/-! len(set(texts)), sorted(data), texts compared, stars in displays, dict comprehensions. -/
namespace DL
open PySem PySem.Spec L2 PyProof.Rows
section
variable {X : Cx}
/-! ### len(set(xs)) -/
def tLenSetN (K : PySem.W.Frag) (ta : TE) : TE := fun σ H Q => ta σ H fun x H1 => ∃ (l : Addr) (xs : List Str), x = .ref l ∧ SqL K H1 l (xs.map V.str) ∧ xs.length ≤ 4000 ∧ Q (.int ((metT xs xs.length).length : Nat)) H1
theorem strsAre_vals : ∀ {ys : List Str} {us : List Value}, Vals (ys.map V.str) us → StrsAre us ys
  | [], _, .nil => .nil
  | y :: ys, _, .cons r t => by
    obtain ⟨k, rfl⟩ := r
    exact .cons y k (strsAre_vals t)
theorem pe_lenSetN {a : Expr} {ta : TE} {p p2 q pos : Pos} (hc : X.calm = true) (hg : Gl X "len") (hm : X.mg "len" = none) (hg2 : Gl X "set") (hm2 : X.mg "set" = none) (ha : PE X a ta)
    (na : starEach [a] X.env = (false, eval a X.env) :: starEach [] X.env := by rfl) : PE X (.Call (.Name "len" p) [.Call (.Name "set" p2) [a] [] q] [] pos) (tLenSetN X.K ta) := by
  refine ⟨fun pins s σ H Q I h => ?_⟩
  refine Call_ (ld_blt I hg hm boot_len (callWith_builtin1 (args_cons ?_ rfl) rfl rfl))
  refine Call_ (ld_blt I hg2 hm2 boot_set (callWith_type1 (args_cons (thn (ha.run pins s σ H _ I h) fun v s1 ⟨x, H1, I1, r1, q1⟩ => args_nil ?_) na) na rfl))
  obtain ⟨l, xs, rfl, hq, few, q1⟩ := q1
  cases r1
  obtain ⟨its, r, pl, hz⟩ := I1.list hq
  refine set_of_texts (I1.ok.hd hc) pl.isList (by simpa using strsAre_vals r) (by unfold scanBound; omega) fun h' tk hS hk => args_nil ?_
  obtain ⟨o, es, ep, t, ho, hex, hd, _, _, _, hf, hn⟩ := hS
  have I2 : Inv X pins σ H1 { s1 with heap := h', toks := tk } := I1.kept fun b o e => hk b o (Heap.lt_size e) e
  have le := metT_le xs xs.length
  exact call_len_set ho hex hd hf (by rw [hn]; omega) ⟨.int ((metT xs xs.length).length : Nat), H1, I2.tok _, ⟨_, by rw [hn]⟩, q1⟩
def dLenSet (t : TQ) : TD := fun ρ Q => t ρ fun o ρ1 => ∃ xs : List Str, o.get ρ1 = some (.lst (xs.map D.str)) ∧ xs.length ≤ 4000 ∧ ∀ n : Int, (n = xs.length ↔ xs.Nodup) → 0 ≤ n → Q (.v (.int n)) ρ1
theorem de_lenSet {a : Expr} {ta : TE} {t : TQ} {p p2 q pos : Pos} (hc : X.calm = true) (hg : Gl X "len") (hm : X.mg "len" = none) (hg2 : Gl X "set") (hm2 : X.mg "set" = none) (ha : DO X a ta t)
    (na : starEach [a] X.env = (false, eval a X.env) :: starEach [] X.env := by rfl) : DE X (.Call (.Name "len" p) [.Call (.Name "set" p2) [a] [] q] [] pos) (tLenSetN X.K ta) (dLenSet t) :=
  ⟨pe_lenSetN hc hg hm hg2 hm2 ha.pe na, fun R q k => ha.sem R q fun o ρ1 v H1 F1 q1 s1 R1 d1 => by
    obtain ⟨xs, e, few, q1⟩ := q1
    obtain ⟨l, ys, rfl, h1, h2⟩ := (d1.pk R1 e).lst R1.ext
    obtain ⟨rfl, _⟩ := h2.txts
    refine ⟨l, xs, rfl, .inl (.inl h1), few, k _ _ _ _ _ (q1 _ ?_ (Int.natCast_nonneg _)) s1 R1 (.int _)⟩
    rw [Int.ofNat_inj]
    exact metT_all xs⟩
/-! ### sorted(xs), data of any kind -/
open PySem.W in
def rSortedD (K : PySem.W.Frag) : List V → Hp → VK → Prop := fun vs H Q => ∃ (a : Addr) (bs : List (V × PyData)), vs = [.ref a] ∧ SqL K H a (bs.map (·.1)) ∧ (∀ b ∈ bs, Dp K H b.1 b.2) ∧ AllAlike (bs.map (·.2)) ∧ Sortable (bs.map (·.2)) ∧ (∀ b ∈ bs, b.2.depth ≤ 40) ∧
  ∀ p, H p = none → Q (.ref p) (upd H p (.lst ((bs.mergeSort (dataLe false (·.2))).map (·.1))))
theorem each_vals {β : Type} (f : β → V) : ∀ {us : List Value} {bs : List β}, PySem.W.EachIs (fun u b => RelV (f b) u) us bs → Vals (bs.map f) us
  | _, _, .nil => .nil
  | _, _, .cons a t => .cons a (each_vals f t)
theorem vals_each {β : Type} (f : β → V) : ∀ {us : List Value} {bs : List β}, Vals (bs.map f) us → PySem.W.EachIs (fun u b => RelV (f b) u) us bs
  | us, [], h => by
    have h' : Vals [] us := h
    cases h'; exact .nil
  | us, b :: bs, h => by
    have h' : Vals (f b :: bs.map f) us := h
    cases h' with
    | cons a t => exact .cons a (vals_each f t)
theorem each_and {α β : Type} {R S : α → β → Prop} : ∀ {us : List α} {bs : List β}, PySem.W.EachIs R us bs → (∀ u b, b ∈ bs → R u b → S u b) → PySem.W.EachIs S us bs
  | _, _, .nil, _ => .nil
  | _, _, .cons a t, h => .cons (h _ _ List.mem_cons_self a) (each_and t fun u b m => h u b (List.mem_cons_of_mem _ m))
theorem call_sortedD (hu : X.A.units + 64 < cLine) : CallR X (.builtin "sorted") (rSortedD X.K) := by
  intro pins s σ H vs us Q I r h
  obtain ⟨a, bs, rfl, hs, hd, hal, hk, hdp, q⟩ := h
  obtain ⟨its, rv, hl, hz⟩ := I.list hs
  rw [Vals.ref1 r]
  have e : PySem.W.EachIs (fun u (b : V × PyData) => RelV b.1 u) its bs := vals_each (fun b : V × PyData => b.1) rv
  have er : PySem.W.EachIs (fun u (b : V × PyData) => ∃ as, Reads s.heap u b.2 as) its bs := each_and e fun u b m ru => Dp.reads I b.2 b.1 u (hd b m) ru
  have hlen : bs.length ≤ sizeLine := by rw [← e.length, ← rv.length]; exact hz
  refine PySem.W.sorted_data (enc := (·.2)) hl.isList e er hal hk hlen (fun b m => by have := hdp b m; omega) fun out hout eo => ?_
  obtain ⟨ep, he'⟩ := PyProof.Rows.sortedAll_at s.heap its out.toArray
  have vo := each_vals (fun b : V × PyData => b.1) eo
  refine ⟨.ref _, upd H (s.heap.objs.size + 1) (.lst ((bs.mergeSort (PySem.W.dataLe false (·.2))).map (·.1))), I.laid (t' := s.toks) (fun _ _ => PyProof.Rows.sortedAll_old) (Nat.le_succ _) ⟨?_, out, ep, vo, he'⟩, rfl, q _ (I.hok.fresh (Nat.le_succ _))⟩
  rw [List.length_map, List.length_mergeSort]
  exact hlen
/-- the order of data -/
def D.le (a b : D) : Bool := PySem.W.dataLe false D.py a b
def gSortedD : List D → (Rv → Prop) → Prop
  | [.lst l] => fun Q => D.fits 40 l = true ∧ PySem.W.AllAlike (l.map D.py) ∧ PySem.W.Sortable (l.map D.py) ∧ Q (.fr (.l (l.mergeSort D.le)))
  | _ => fun _ => False
theorem denL_zip {K : PySem.W.Frag} {F : Hp} : ∀ {vs : List V} {ds : List D}, DenL K F vs ds → (vs.zip ds).map (·.1) = vs ∧ (vs.zip ds).map (·.2) = ds ∧ ∀ b ∈ vs.zip ds, Den K F b.1 b.2
  | _, _, .nil => ⟨rfl, rfl, fun b m => (List.not_mem_nil m).elim⟩
  | _, _, .cons a t => by
    obtain ⟨h1, h2, h3⟩ := denL_zip t
    refine ⟨by rw [List.zip_cons_cons, List.map_cons, h1], by rw [List.zip_cons_cons, List.map_cons, h2], fun b m => ?_⟩
    rw [List.zip_cons_cons] at m
    rcases List.mem_cons.mp m with rfl | m
    · exact a
    · exact h3 b m
theorem den_zip {K : PySem.W.Frag} {F : Hp} : ∀ {bs : List (V × D)}, (∀ b ∈ bs, Den K F b.1 b.2) → DenL K F (bs.map (·.1)) (bs.map (·.2))
  | [], _ => .nil
  | b :: bs, h => .cons (h b List.mem_cons_self) (den_zip fun b' m => h b' (List.mem_cons_of_mem _ m))
theorem sem_sortedD : SemCall X.K (rSortedD X.K) gSortedD := by
  intro G σ H F ρ xs as Q Qd R ha h k
  unfold gSortedD at h
  split at h
  · rename_i l
    obtain ⟨hf, hal, hk, q⟩ := h
    obtain ⟨x, rfl, p⟩ := pks1 ha
    obtain ⟨a, ys, rfl, h1, h2⟩ := p.lst R.ext
    obtain ⟨z1, z2, z3⟩ := denL_zip h2
    have fit : ∀ d ∈ l, D.fit 40 d = true := fun d m => by
      rw [fits_all, List.all_eq_true] at hf
      exact hf d m
    have mem : ∀ b ∈ ys.zip l, b.2 ∈ l := fun b m => by
      have : b.2 ∈ (ys.zip l).map (fun b => b.2) := List.mem_map.mpr ⟨b, m, rfl⟩
      rw [z2] at this
      exact this
    refine ⟨a, (ys.zip l).map fun b => (b.1, b.2.py), rfl, by rw [List.map_map]; exact .inl (.inl (by rw [show ((fun b : V × PyData => b.1) ∘ fun b : V × D => (b.1, b.2.py)) = (fun b => b.1) from rfl, z1]; exact h1)), fun b m => ?_, ?_, ?_, fun b m => ?_, fun p hp => ?_⟩
    · obtain ⟨b0, m0, rfl⟩ := List.mem_map.mp m
      exact ((z3 b0 m0).mono R.ext).dp (fit _ (mem _ m0))
    · rw [List.map_map, show ((fun b : V × PyData => b.2) ∘ fun b : V × D => (b.1, b.2.py)) = (D.py ∘ fun b => b.2) from rfl, ← List.map_map, z2]
      exact hal
    · rw [List.map_map, show ((fun b : V × PyData => b.2) ∘ fun b : V × D => (b.1, b.2.py)) = (D.py ∘ fun b => b.2) from rfl, ← List.map_map, z2]
      exact hk
    · obtain ⟨b0, m0, rfl⟩ := List.mem_map.mp m
      exact (fit_lay 40 _ _ (z3 b0 m0) (fit _ (mem _ m0))).2
    · have e1 : (((ys.zip l).map fun b => (b.1, b.2.py)).mergeSort (PySem.W.dataLe false (·.2))).map (·.1) = ((ys.zip l).mergeSort (fun a b => D.le a.2 b.2)).map (·.1) := by
        rw [← List.map_mergeSort (r := fun a b => D.le a.2 b.2) (f := fun b : V × D => (b.1, b.2.py)) (hl := fun a _ b _ => rfl), List.map_map]
        rfl
      have e2 : l.mergeSort D.le = ((ys.zip l).mergeSort (fun a b => D.le a.2 b.2)).map (·.2) := by
        rw [List.map_mergeSort (s := D.le) (f := fun b : V × D => b.2) (hl := fun a _ b _ => rfl), z2]
      rw [e1]
      obtain ⟨R1, rd⟩ := R.allocFr hp (o := .lst (((ys.zip l).mergeSort (fun a b => D.le a.2 b.2)).map (·.1))) (c := .l (l.mergeSort D.le)) ⟨_, upd_same, by
        rw [e2]
        exact den_zip fun b m => z3 b (List.mem_mergeSort.mp m)⟩
      exact k _ _ _ _ q (Same.refl _) R1 rd
  · exact h.elim
end
end DL

/-! Dicts walked over, dict comprehensions, stars in displays, texts compared. -/
namespace DL
open PySem PySem.Spec L2 PyProof.Rows
section
variable {X : Cx} {tg : Expr}
/-! ### a dict of one's own is locked while an expression runs -/
/-! ### {k: v for target in .. if ..} -/
def dcL (g : TGd) (tt : TB) (tk te : TD) (vs : List Nat) (Q : List (Key × D) → SL → Prop) : List D → List (Key × D) → SL → Prop
  | [], acc, ρ => Q acc ρ
  | d :: r, acc, ρ => g d ρ fun ρ1 => tt ρ1 fun b ρ2 => if b = true then tk ρ2 fun rk ρ3 => te ρ3 fun rv ρ4 => ∃ k, rk.dat.key = some k ∧ acc.length < sizeLine ∧ dcL g tt tk te vs Q r (kPut acc k rv.dat) (wipeD ρ4 vs) else dcL g tt tk te vs Q r acc (wipeD ρ2 vs)
def dDc (t : TSrcC) (g : TGd) (tt : TB) (tk te : TD) (vs : List Nat) : TD := fun ρ Q => t ρ fun its back ρ' => dcL g tt tk te vs (fun acc ρ2 => Q (.fr (.d acc)) (back (wipeD ρ2 vs))) its [] (wipeD ρ' vs)
theorem sem_dc {kx vx iter : Expr} {ifs : List Expr} {scope : Scope} {ws : List Nat} {wi : TI} {g : TG} {tt : TT} {tk te : TE} {t : TSrcC} {gd : TGd} {dt : TB} {dk de : TD}
    (hi : DIc X tg iter wi t)
    (hg : ∀ (s : Shared) (H : Hp) (C : Addr) (cl : List (Str × Addr)) (fp : List Addr), DG (X.blk s H scope (compEnvC scope cl C X.env) fp) tg ws g gd) (ht : ∀ (s : Shared) (H : Hp) (C : Addr) (cl : List (Str × Addr)) (fp : List Addr), DTs (X.blk s H scope (compEnvC scope cl C X.env) fp) ifs tt dt)
    (hk : ∀ (s : Shared) (H : Hp) (C : Addr) (cl : List (Str × Addr)) (fp : List Addr), DE (X.blk s H scope (compEnvC scope cl C X.env) fp) kx tk dk)
    (he : ∀ (s : Shared) (H : Hp) (C : Addr) (cl : List (Str × Addr)) (fp : List Addr), DE (X.blk s H scope (compEnvC scope cl C X.env) fp) vx te de) (s0 : Shared)
    {G : Cd} {σ : L2.St} {H F : Hp} {ρ : SL} {Q : VK} {Qd : Rv → SL → Prop} (R : Rep X.K G σ H F ρ) (q : dDc t gd dt dk de ws ρ Qd)
    (k : ∀ r ρ' v H' F', Qd r ρ' → Same F F' → Rep X.K G σ H' F' ρ' → RDen X.K G σ ρ' H' F' v r → Q v H') : tDc wi g tt tk te ws σ H Q := by
  refine hi.sem R q fun its back ρ' J H1 F1 qd s1 R1 IT bk D hD => ?_
  have hG := hg s0 H 0 [] []
  have hT := ht s0 H 0 [] []
  have hK := hk s0 H 0 [] []
  have hE := he s0 H 0 [] []
  obtain ⟨RD, rd0⟩ := R1.now.allocFr hD (o := .dK []) (c := .d []) ⟨_, upd_same, .nil⟩
  refine ⟨fun i m H => m = its.length - i ∧ i ≤ its.length ∧ ∃ F ρ acc, Rep X.K (G.now σ ρ' H1 F1) (L2.wipe σ ws) H F ρ ∧ RDen X.K (G.now σ ρ' H1 F1) (L2.wipe σ ws) ρ H F (.ref D) (.fr (.d acc)) ∧
    dcL gd dt dk de ws (fun acc ρ2 => Qd (.fr (.d acc)) (back (wipeD ρ2 ws))) (its.drop i) acc ρ, ⟨_, rfl, Nat.zero_le _, F1, wipeD ρ' ws, [], RD.wipe ws, rd0.wipe ws, qd⟩, ?_⟩
  rintro i m H2 ⟨rfl, hle, F2, ρ2, acc, R2, rd2, q2⟩
  by_cases hlt : i < its.length
  · refine .inr ⟨IT.go i hlt R2, fun H => ∃ F ρ acc, Rep X.K (G.now σ ρ' H1 F1) (L2.wipe σ ws) H F ρ ∧ RDen X.K (G.now σ ρ' H1 F1) (L2.wipe σ ws) ρ H F (.ref D) (.fr (.d acc)) ∧
      dcL gd dt dk de ws (fun acc ρ2 => Qd (.fr (.d acc)) (back (wipeD ρ2 ws))) (its.drop (i + 1)) acc ρ, fun H' h => ⟨its.length - (i + 1), by omega, rfl, hlt, h⟩, fun x H3 y => ?_⟩
    have hd := List.getElem?_eq_getElem hlt
    rw [drop_get hd] at q2
    obtain ⟨F3, s3, R3, d3, hr⟩ := IT.step hd R2 y
    have rd3 := hr _ _ rd2
    refine hG.sem R3.now d3 q2 fun ρ4 σ4 q4 R4 w4 => ⟨w4.trans (wipe_twice σ ws), ?_⟩
    refine hT.sem R4 q4 fun b ρ5 H5 F5 q5 s5 R5 => ?_
    cases b with
    | false =>
      rw [if_neg Bool.false_ne_true] at q5 ⊢
      have R6 := R3.back R5
      have rd6 := rd3.hold R3 R5
      refine ⟨F5, wipeD ρ5 ws, acc, ?_, ?_, q5⟩
      · have := R6.wipe ws; rw [w4, wipe_twice] at this; exact this
      · have := rd6.wipe ws; rw [w4, wipe_twice] at this; exact this
    | true =>
      rw [if_pos rfl] at q5 ⊢
      refine hK.sem R5 q5 fun rk ρ6 u H6 F6 q6 s6 R6 rdk => ?_
      obtain ⟨F6', s6', R6', dk6⟩ := R6.share rdk
      refine hE.sem R6' q6 fun r ρ7 v H7 F7 q7 s7 R7 rd7 => ?_
      obtain ⟨F8, s8, R8, d8⟩ := R7.share rd7
      obtain ⟨kk, ek, hz, q7⟩ := q7
      have R9 := R3.back R8
      have rd9 := rd3.hold R3 R8
      obtain ⟨p, e, ⟨ks, e1, e2⟩, a2, a3, a4⟩ := id rd9
      cases e
      have pk : Pk X.K F6' H6 u rk.dat := .inl dk6
      obtain ⟨RA, rdA⟩ := R9.writeFr (o := .dK (putK ks kk v)) (c' := .d (kPut acc kk r.dat)) rd9 ⟨_, upd_same, e2.put d8 kk (pk.keyOk ek)⟩
      refine ⟨ks, kk, pk.key ek, e1, by rw [e2.length]; exact hz, F8, wipeD ρ7 ws, kPut acc kk r.dat, ?_, ?_, q7⟩
      · have := RA.wipe ws; rw [w4, wipe_twice] at this; exact this
      · have := rdA.wipe ws; rw [w4, wipe_twice] at this; exact this
  · have e : i = its.length := by omega
    subst e
    rw [List.drop_length] at q2
    have R4 := R2.unwipe
    have rd4 := rd2.unwipe
    obtain ⟨R5, rd5⟩ := bk _ _ _ _ _ R4 rd4
    exact .inl ⟨IT.stop R2, k _ _ _ _ _ q2 (s1.trans R2.fr0) R5 rd5⟩
theorem de_dc {kx vx iter : Expr} {ifs : List Expr} {scope : Scope} {own : List (Str × Nat)} {pos : Pos} {wi : TI} {g : TG} {tt : TT} {tk te : TE} {t : TSrcC} {gd : TGd} {dt : TB} {dk de : TD} (hc : X.calm = true) (hN : X.N.Nodup)
    (hi : DIc X tg iter wi t) (ok : BlkOk X.N X.env.scope scope own)
    (hg : ∀ (s : Shared) (H : Hp) (C : Addr) (cl : List (Str × Addr)) (fp : List Addr), DG (X.blk s H scope (compEnvC scope cl C X.env) fp) tg (own.map (·.2)) g gd)
    (ht : ∀ (s : Shared) (H : Hp) (C : Addr) (cl : List (Str × Addr)) (fp : List Addr), DTs (X.blk s H scope (compEnvC scope cl C X.env) fp) ifs tt dt)
    (hk : ∀ (s : Shared) (H : Hp) (C : Addr) (cl : List (Str × Addr)) (fp : List Addr), DE (X.blk s H scope (compEnvC scope cl C X.env) fp) kx tk dk)
    (he : ∀ (s : Shared) (H : Hp) (C : Addr) (cl : List (Str × Addr)) (fp : List Addr), DE (X.blk s H scope (compEnvC scope cl C X.env) fp) vx te de) (hs : ∀ x, foldedSetIterable iter X.env x = pure x := by intro _; rfl) :
    DE X (.DictComp kx vx [⟨tg, iter, ifs, 0⟩] scope pos) (tDc wi g tt tk te (own.map (·.2))) (dDc t gd dt dk de (own.map (·.2))) :=
  ⟨pe_dc hc hN hi.pe ok (fun s H C cl fp => (hg s H C cl fp).pe) (fun s H C cl fp => (ht s H C cl fp).pe) (fun s H C cl fp => (hk s H C cl fp).pe) (fun s H C cl fp => (he s H C cl fp).pe) hs, fun R q k => sem_dc hi hg ht hk he X.s_0 R q k⟩
theorem de_dcF {kx vx iter : Expr} {ifs : List Expr} {scope : Scope} {own : List (Str × Nat)} {pos : Pos} {wi : TI} {g : Bk TG} {tt : Bk TT} {tk te : Bk TE} {t : TSrcC} {gd : TGd} {dt : TB} {dk de : TD} (hc : X.calm = true) (hN : X.N.Nodup)
    (hi : DIc X tg iter wi t) (ok : BlkOk X.N X.env.scope scope own)
    (hg : ∀ (s : Shared) (H : Hp) (C : Addr) (cl : List (Str × Addr)) (fp : List Addr), DG (X.blk s H scope (compEnvC scope cl C X.env) fp) tg (own.map (·.2)) (g s H C cl fp) gd)
    (ht : ∀ (s : Shared) (H : Hp) (C : Addr) (cl : List (Str × Addr)) (fp : List Addr), DTs (X.blk s H scope (compEnvC scope cl C X.env) fp) ifs (tt s H C cl fp) dt)
    (hk : ∀ (s : Shared) (H : Hp) (C : Addr) (cl : List (Str × Addr)) (fp : List Addr), DE (X.blk s H scope (compEnvC scope cl C X.env) fp) kx (tk s H C cl fp) dk)
    (he : ∀ (s : Shared) (H : Hp) (C : Addr) (cl : List (Str × Addr)) (fp : List Addr), DE (X.blk s H scope (compEnvC scope cl C X.env) fp) vx (te s H C cl fp) de)
    (eg : ∀ s H C cl fp, g s H C cl fp = g X.s_0 (fun _ => none) 0 [] [] := by intros; rfl) (et : ∀ s H C cl fp, tt s H C cl fp = tt X.s_0 (fun _ => none) 0 [] [] := by intros; rfl)
    (ek : ∀ s H C cl fp, tk s H C cl fp = tk X.s_0 (fun _ => none) 0 [] [] := by intros; rfl) (ee : ∀ s H C cl fp, te s H C cl fp = te X.s_0 (fun _ => none) 0 [] [] := by intros; rfl)
    (hs : ∀ x, foldedSetIterable iter X.env x = pure x := by intro _; rfl) :
    DE X (.DictComp kx vx [⟨tg, iter, ifs, 0⟩] scope pos) (tDc wi (g X.s_0 (fun _ => none) 0 [] []) (tt X.s_0 (fun _ => none) 0 [] []) (tk X.s_0 (fun _ => none) 0 [] []) (te X.s_0 (fun _ => none) 0 [] []) (own.map (·.2))) (dDc t gd dt dk de (own.map (·.2))) :=
  de_dc hc hN hi ok (fun s H C cl fp => by rw [← eg s H C cl fp]; exact hg s H C cl fp) (fun s H C cl fp => by rw [← et s H C cl fp]; exact ht s H C cl fp) (fun s H C cl fp => by rw [← ek s H C cl fp]; exact hk s H C cl fp) (fun s H C cl fp => by rw [← ee s H C cl fp]; exact he s H C cl fp) hs
/-! ### [*xs, y] -/
/-! ### <, <=, >, >= of ints and of texts -/
def gCmpA (p : Int → Int → Bool) (ps : Str → Str → Bool) : D → D → (Rv → Prop) → Prop
  | .int i, .int j => fun Q => Q (.v (.bl (p i j)))
  | .str x, .str y => fun Q => Q (.v (.bl (ps x y)))
  | _, _ => fun _ => False
def rCmpA (p : Int → Int → Bool) (ps : Str → Str → Bool) : R2 := fun x y H Q => rI0 (fun i j => .bl (p i j)) x y H Q ∨ ∃ i j, x = .str i ∧ y = .str j ∧ Q (.bl (ps i j)) H
theorem sem_cmpA {p : Int → Int → Bool} {ps : Str → Str → Bool} : SemOp X.K (rCmpA p ps) (gCmpA p ps) := by
  intro G σ H F ρ x y a b Q Qd R ha hb h k
  unfold gCmpA at h
  split at h
  · cases ha.int; cases hb.int
    exact .inl ⟨_, _, rfl, rfl, k _ _ _ _ h (Same.refl _) R (.bl _)⟩
  · cases ha.str; cases hb.str
    exact .inr ⟨_, _, rfl, rfl, k _ _ _ _ h (Same.refl _) R (.bl _)⟩
  · exact h.elim
def ltS (x y : Str) : Bool := decide (x.cps.toList < y.cps.toList)
theorem op_ltA : OpR X (compareOp .Lt) (rCmpA (fun i j => decide (i < j)) ltS) := op_lt.or op_lt_str
theorem op_leA : OpR X (compareOp .LtE) (rCmpA (fun i j => decide (i ≤ j)) fun x y => !ltS y x) := op_le.or op_le_str
theorem op_gtA : OpR X (compareOp .Gt) (rCmpA (fun i j => decide (j < i)) fun x y => ltS y x) := op_gt.or op_gt_str
theorem op_geA : OpR X (compareOp .GtE) (rCmpA (fun i j => decide (j ≤ i)) fun x y => !ltS x y) := op_ge.or op_ge_str
theorem sem_ltA : SemOp X.K (rCmpA (fun i j => decide (i < j)) ltS) (gCmpA (fun i j => decide (i < j)) ltS) := sem_cmpA
theorem sem_leA : SemOp X.K (rCmpA (fun i j => decide (i ≤ j)) fun x y => !ltS y x) (gCmpA (fun i j => decide (i ≤ j)) fun x y => !ltS y x) := sem_cmpA
theorem sem_gtA : SemOp X.K (rCmpA (fun i j => decide (j < i)) fun x y => ltS y x) (gCmpA (fun i j => decide (j < i)) fun x y => ltS y x) := sem_cmpA
theorem sem_geA : SemOp X.K (rCmpA (fun i j => decide (j ≤ i)) fun x y => !ltS x y) (gCmpA (fun i j => decide (j ≤ i)) fun x y => !ltS x y) := sem_cmpA
end
end DL

/-! Methods whose object is lent or told; methods of lists that piles hold; sorted texts and pairs. -/
namespace DL
open PySem PySem.Spec L2 PyProof.Rows
/-- a method as its callers know it -/
structure CalM (P : Program) (w : World) (K : PySem.W.Frag) (mg : Str → Option Value) (base : Heap) (k : Nat) (f : Addr) (fd : FuncData) (ps : List Str) (sp : SpD) : Prop where
  b : Binds K fd ps []
  ok : FnG P w K mg base CX0 k f fd ps (lift K sp)
section
variable {X : Cx}
def dMethA (C : Addr) (m : Str) (i : Nat) (sp : SpD) (u : TAg) : TD := fun ρ Q => match ρ[i]? with
  | some (.sh d) => isObjD C m d ∧ dCall sp (fun ρ' K => u ρ' fun os ρ2 => K (.val d :: os) ρ2) ρ Q
  | some s => (match s.cn with | some (.o C' fs) => C' = C ∧ fs.lookup m = none | _ => False) ∧ dCall sp (fun ρ' K => u ρ' fun os ρ2 => K (.bor i :: os) ρ2) ρ Q
  | none => False
theorem sem_methA {i : Nat} {x : Str} {px : Pos} {C f : Addr} {m : Str} {sp : SpD} {tb : TA} {u : TAg} {E : XK}
    (hu : ∀ {G : Cd} {σ : L2.St} {H F : Hp} {ρ : SL} {Q : List V → Hp → Prop} {Qd : List AOp → SL → Prop}, Rep X.K G σ H F ρ → u ρ Qd → (∀ os ρ' vs H' F', Qd os ρ' → Same F F' → Rep X.K G σ H' F' ρ' → ADens X.K F' σ vs os → Q vs H') → tb σ H Q)
    {G : Cd} {σ : L2.St} {H F : Hp} {ρ : SL} {Q : VK} {Qd : Rv → SL → Prop} (R : Rep X.K G σ H F ρ) (q : dMethA C m i sp u ρ Qd)
    (k : ∀ r ρ' v H' F', Qd r ρ' → Same F F' → Rep X.K G σ H' F' ρ' → RDen X.K G σ ρ' H' F' v r → Q v H') : tMethR C m (lift X.K sp) E (tVar i) tb σ H Q := by
  unfold dMethA at q
  split at q
  · rename_i d e
    obtain ⟨v, a, b⟩ := R.sh i d e
    obtain ⟨q0, q1⟩ := q
    obtain ⟨p, dx, gs, rfl, h1, l1⟩ := objD_at R.ext (.inl b) q0
    refine ⟨_, a, p, dx, gs, rfl, h1, l1, hu R q1 fun os ρ2 vs H2 F2 q2 s2 R2 d2 => ?_⟩
    exact sem_args R2 (.cons (o := .val d) (b.mono s2) d2) q2 fun r ρ' v H' F' qd s3 R3 rd3 => k _ _ _ _ _ qd (s2.trans s3) R3 rd3
  · rename_i s _ e
    obtain ⟨q0, q1⟩ := q
    cases hc : s.cn with
    | none => rw [hc] at q0; exact q0.elim
    | some c =>
      rw [hc] at q0
      cases c with
      | o C' fs =>
        obtain ⟨rfl, l0⟩ := q0
        obtain ⟨p, hp, ⟨dx, gs, h1, h2⟩, _⟩ := R.owned e hc
        refine ⟨_, hp, p, dx, gs, rfl, h1, h2.lookup_none l0, hu R q1 fun os ρ2 vs H2 F2 q2 s2 R2 d2 => ?_⟩
        exact sem_args R2 (.cons (o := .bor i) hp d2) q2 fun r ρ' v H' F' qd s3 R3 rd3 => k _ _ _ _ _ qd (s2.trans s3) R3 rd3
      | _ => exact q0.elim
  · exact q.elim
theorem de_methA {i : Nat} {x : Str} {px : Pos} {k : Nat} {C f : Addr} {fd : FuncData} {ps : List Str} {sp : SpD} {E : XK} {CX : CXT} {m : Str} {pos apos : Pos} {e : Expr} {es : List Expr} {tb : TA} {u : TAg} {pl : Sem Bool} (he : PE X (.Name x px) (tVar i)) (c : Cls X.K C) (hm : Meth X.K C m f)
    (Fk : FnG X.prog X.w X.K X.mg X.base CX k f fd ps (lift X.K sp)) (hgd : X.A.guards = some []) (hr : Room k X.A) (hb : Binds X.K fd ps []) (hx : Passes CX X E) (ha : DAg X (e :: es) tb u)
    (hst : starEach (e :: es) X.env = (false, eval e X.env) :: starEach es X.env := by rfl) (hpl : (backTo pos (starEach es X.env)).any (·.1) = false := by rfl)
    (ht : eval (.Call (.Attribute (.Name x px) m apos) (e :: es) [] pos) X.env = (do
      let ov ← eval (.Name x px) X.env
      standAt apos.atName
      let (f, first) ← holding [ov] (getMethod ov m pl)
      callWith pos f first (backTo pos (starEach (e :: es) X.env)) (backToKw pos (keywordEach [] X.env))) := by rfl) :
    DE X (.Call (.Attribute (.Name x px) m apos) (e :: es) [] pos) (tMethR C m (lift X.K sp) E (tVar i) tb) (dMethA C m i sp u) :=
  ⟨pe_methG he c hm Fk hgd hr hb hx ha.pe hst hpl ht, fun R q kk => sem_methA (x := x) (px := px) (f := f) ha.sem R q kk⟩
/-! ### lists that piles hold -/
theorem de_appendE (g : Nat) {o e : Expr} {to : TE} {t0 : TD} {apos cpos : Pos} {ta : TA} {t : TVs} (ho : DE X o to t0) (ha : DV X [e] ta t)
    (hbase : attributeBase o "append" X.env (eval o X.env) = eval o X.env := by rfl)
    (hfew : ((backTo cpos (starEach [e] X.env)).all (fun x => !x.1) && (backToKw cpos (keywordEach [] X.env)).all (fun x => x.1.isSome)
      && decide (([e] : List Expr).length + ([] : List Keyword).length + (if ([] : List Keyword).isEmpty then 0 else 1) < 30)) = true := by rfl)
    (hline : (apos.endLine == cpos.line) = true := by rfl) (hs : starEach [e] X.env = (false, eval e X.env) :: starEach [] X.env := by rfl) (hplain : (backTo cpos (starEach [] X.env)).any (·.1) = false := by rfl) :
    DE X (.Call (.Attribute o "append" apos) [e] [] cpos) (tBM X.K "list" rAppend to ta) (dMutE g t0 mAppend t) :=
  de_mutE g PySem.F.slot_list_append PySem.F.type_list_append (fun pins s σ H x xs v us Q => mt_append pins s σ H x xs v us Q) sem_append ho ha hbase hfew hline hs hplain
theorem de_reverseE0 (g : Nat) {o : Expr} {to : TE} {t0 : TD} {apos cpos : Pos} (ho : DE X o to t0)
    (hbase : attributeBase o "reverse" X.env (eval o X.env) = eval o X.env := by rfl) (hline : (apos.endLine == cpos.line) = true := by rfl) :
    DE X (.Call (.Attribute o "reverse" apos) [] [] cpos) (tBM0 X.K "list" rReverse to) (dMutE0 g t0 mReverse) :=
  de_mutE0 g PySem.F.slot_list_reverse PySem.F.type_list_reverse (fun pins s σ H x xs v us Q => mt_reverse pins s σ H x xs v us Q) sem_reverse ho hbase hline
end
/-! ### the order of texts -/
theorem ltS_irrefl (x : Str) : ltS x x = false := by unfold ltS; exact decide_eq_false (List.lt_irrefl _)
theorem ltS_trans {x y z : Str} (h1 : ltS x y = true) (h2 : ltS y z = true) : ltS x z = true := by
  unfold ltS at *
  rw [decide_eq_true_eq] at *
  exact List.lt_trans h1 h2
theorem Str.ext_toList {x y : Str} (h : x.cps.toList = y.cps.toList) : x = y := PySem.W.str_of_cps h
theorem ltS_tri (x y : Str) : ltS x y = true ∨ x = y ∨ ltS y x = true := by
  unfold ltS
  simp only [decide_eq_true_eq]
  by_cases h1 : x.cps.toList < y.cps.toList
  · exact .inl h1
  · by_cases h2 : y.cps.toList < x.cps.toList
    · exact .inr (.inr h2)
    · exact .inr (.inl (Str.ext_toList (List.le_antisymm (List.not_lt.mp h2) (List.not_lt.mp h1))))
theorem ltS_asymm {x y : Str} (h : ltS x y = true) : ltS y x = false := by
  cases e : ltS y x with
  | false => rfl
  | true => have := ltS_trans h e; rw [ltS_irrefl] at this; cases this
def leS (x y : Str) : Bool := !ltS y x
theorem leS_total (x y : Str) : (leS x y || leS y x) = true := by
  unfold leS
  rcases ltS_tri x y with h | h | h
  · rw [ltS_asymm h]; rfl
  · subst h; rw [ltS_irrefl]; rfl
  · rw [ltS_asymm h]; simp
theorem leS_trans (x y z : Str) (h1 : leS x y = true) (h2 : leS y z = true) : leS x z = true := by
  unfold leS at *
  rw [Bool.not_eq_true'] at *
  cases e : ltS z x with
  | false => rfl
  | true =>
    rcases ltS_tri x y with h | h | h
    · have := ltS_trans e h; rw [h2] at this; cases this
    · subst h; rw [h2] at e; cases e
    · rw [h1] at h; cases h
theorem leS_antisymm {x y : Str} (h1 : leS x y = true) (h2 : leS y x = true) : x = y := by
  unfold leS at *
  rw [Bool.not_eq_true'] at *
  rcases ltS_tri x y with h | h | h
  · rw [h2] at h; cases h
  · exact h
  · rw [h1] at h; cases h
def sortS (xs : List Str) : List Str := xs.mergeSort leS
theorem sortS_perm (xs : List Str) : (sortS xs).Perm xs := List.mergeSort_perm xs leS
theorem sortS_sorted (xs : List Str) : (sortS xs).Pairwise (fun x y => leS x y = true) := List.pairwise_mergeSort leS_trans leS_total xs
/-- lists of one order with the same items are one list -/
theorem sorted_one {α : Type} {le : α → α → Bool} (anti : ∀ x y, le x y = true → le y x = true → x = y) : ∀ {l m : List α}, l.Perm m → l.Pairwise (fun x y => le x y = true) → m.Pairwise (fun x y => le x y = true) → l = m :=
  fun h h1 h2 => h.eq_of_pairwise (fun a b _ _ z1 z2 => anti a b z1 z2) h1 h2
/-- pairs of texts: by the first, then by the second -/
def leP (p q : Str × Str) : Bool := if p.1 = q.1 then leS p.2 q.2 else leS p.1 q.1
theorem D_le_str (x y : Str) : D.le (.str x) (.str y) = leS x y := by
  have h := PySem.W.dataLe_eq false D.py
  show PySem.W.dataLe false D.py (.str x) (.str y) = _
  rw [h]
  show (!PySem.W.dataLt (D.py (.str y)) (D.py (.str x))) = _
  rw [D.py, D.py]
  have e := congrFun (congrFun (PySem.W.dataLe_str (fun b : Str => b)) x) y
  rw [PySem.W.dataLe_eq] at e
  have e' : (!PySem.W.dataLt (.str y) (.str x)) = decide (x.cps.toList ≤ y.cps.toList) := e
  rw [e']
  unfold leS ltS
  rw [← decide_not]
  exact decide_eq_decide.mpr List.not_lt.symm
theorem mergeSort_strs (xs : List Str) : (xs.map D.str).mergeSort D.le = (sortS xs).map D.str := by
  unfold sortS
  rw [List.map_mergeSort (s := D.le) (f := D.str) (hl := fun a _ b _ => (D_le_str a b).symm)]
theorem gSorted_strs {xs : List Str} {Q : Rv → Prop} : gSortedD [.lst (xs.map D.str)] Q = Q (.fr (.l ((sortS xs).map D.str))) := by
  have h1 : D.fits 40 (xs.map D.str) = true := fits_strs 40 xs
  have hm : (xs.map D.str).map D.py = xs.map PyData.str := by rw [List.map_map]; apply List.map_congr_left; intro x _; show D.py (.str x) = _; rw [D.py]
  have h2 : PySem.W.AllAlike ((xs.map D.str).map D.py) := by rw [hm]; exact PySem.W.AllAlike.of fun b b' => by simp [PySem.W.alike]
  have h3 : PySem.W.Sortable ((xs.map D.str).map D.py) := by rw [hm]; exact PySem.W.Sortable.others fun b => ⟨by simp, by simp⟩
  show (D.fits 40 (xs.map D.str) = true ∧ PySem.W.AllAlike ((xs.map D.str).map D.py) ∧ PySem.W.Sortable ((xs.map D.str).map D.py) ∧ Q (.fr (.l ((xs.map D.str).mergeSort D.le)))) = _
  rw [mergeSort_strs]
  exact propext ⟨fun z => z.2.2.2, fun z => ⟨h1, h2, h3, z⟩⟩
/-- a pair of texts as a datum -/
def PairD (p : Str × Str) : D := .tup [.str p.1, .str p.2]
theorem dataLt_str (x y : Str) : PySem.W.dataLt (.str x) (.str y) = ltS x y := by
  have e := D_le_str y x
  unfold D.le leS at e
  rw [PySem.W.dataLe_eq] at e
  have e' : (!PySem.W.dataLt (D.py (.str x)) (D.py (.str y))) = !ltS x y := e
  rw [D.py, D.py] at e'
  exact Bool.not_inj e'
theorem D_le_pair (p q : Str × Str) : D.le (PairD p) (PairD q) = leP p q := by
  unfold D.le
  rw [PySem.W.dataLe_eq]
  show (!PySem.W.dataLt (D.py (PairD q)) (D.py (PairD p))) = _
  unfold PairD
  rw [D.py, D.pys, D.pys, D.pys, D.py, D.py, D.py, D.pys, D.pys, D.pys, D.py, D.py, PySem.W.dataLt_pair (by simp [PySem.W.alike]) (by simp [PySem.W.alike]), dataLt_str, dataLt_str]
  have ev : ∀ x y : Str, PyData.eqv (.str x) (.str y) = decide (x = y) := fun x y => by rw [PyData.eqv, Str.beq_dec]
  rw [ev, ev]
  unfold leP leS
  by_cases h : p.1 = q.1
  · rw [if_pos h, if_pos (decide_eq_true h.symm)]
    by_cases h2 : q.2 = p.2
    · rw [if_pos (decide_eq_true h2), h2, ltS_irrefl]
    · rw [if_neg (by simpa using h2)]
  · rw [if_neg h, if_neg (by simpa using fun z => h z.symm)]
def sortP (xs : List (Str × Str)) : List (Str × Str) := xs.mergeSort leP
theorem sortP_perm (xs : List (Str × Str)) : (sortP xs).Perm xs := List.mergeSort_perm xs leP
theorem pairs_fits : ∀ (n : Nat) (l : List (Str × Str)), 0 < n → D.fits n (l.map PairD) = true
  | n, [], _ => by simp [D.fits]
  | n + 1, p :: r, h => by
    rw [List.map_cons, D.fits, pairs_fits (n + 1) r h, PairD, D.fit, D.fits, D.fits, D.fits, D.fit, D.fit]
    rfl
theorem gSorted_pairs {xs : List (Str × Str)} {Q : Rv → Prop} : gSortedD [.lst (xs.map PairD)] Q = Q (.fr (.l ((sortP xs).map PairD))) := by
  have h1 : D.fits 40 (xs.map PairD) = true := pairs_fits 40 xs (by decide)
  have hp : ∀ p : Str × Str, D.py (PairD p) = .tuple [.str p.1, .str p.2] := fun p => by unfold PairD; rw [D.py, D.pys, D.pys, D.pys, D.py, D.py]
  have hm : (xs.map PairD).map D.py = xs.map fun p => PyData.tuple [.str p.1, .str p.2] := by rw [List.map_map]; apply List.map_congr_left; intro x _; exact hp x
  have h2 : PySem.W.AllAlike ((xs.map PairD).map D.py) := by rw [hm]; exact PySem.W.AllAlike.of fun b b' => by simp [PySem.W.alike, PySem.W.alikeAll]
  have h3 : PySem.W.Sortable ((xs.map PairD).map D.py) := by rw [hm]; exact PySem.W.Sortable.tuples fun b => ⟨_, _, rfl⟩
  have hs : (xs.map PairD).mergeSort D.le = (sortP xs).map PairD := by
    unfold sortP
    rw [List.map_mergeSort (s := D.le) (f := PairD) (hl := fun a _ b _ => (D_le_pair a b).symm)]
  show (D.fits 40 (xs.map PairD) = true ∧ PySem.W.AllAlike ((xs.map PairD).map D.py) ∧ PySem.W.Sortable ((xs.map PairD).map D.py) ∧ Q (.fr (.l ((xs.map PairD).mergeSort D.le)))) = _
  rw [hs]
  exact propext ⟨fun z => z.2.2.2, fun z => ⟨h1, h2, h3, z⟩⟩
/-! ### comparisons -/
theorem gCmpA_int {p : Int → Int → Bool} {ps : Str → Str → Bool} {i j : Int} {Q : Rv → Prop} : gCmpA p ps (.int i) (.int j) Q = Q (.v (.bl (p i j))) := rfl
theorem gCmpA_str {p : Int → Int → Bool} {ps : Str → Str → Bool} {i j : Str} {Q : Rv → Prop} : gCmpA p ps (.str i) (.str j) Q = Q (.v (.bl (ps i j))) := rfl
end DL

/-! Small facts for the readings. -/
namespace DL
open PySem PySem.Spec L2 PyProof.Rows
theorem slC_ow {ρ : SL} {i : Nat} {c : Cn} (h : ρ[i]? = some (.ow c)) : slC ρ i = some (.ow c, c) := by unfold slC; rw [h]; rfl
theorem slC_bw {ρ : SL} {i j : Nat} {c : Cn} (h : ρ[i]? = some (.bw j c)) : slC ρ i = some (.bw j c, c) := by unfold slC; rw [h]; rfl
section
variable {X : Cx}
def mClear (l : List D) (Q : List D → D → Prop) : Prop := Q [] .non
end
/-- a comprehension that changes nothing: what it makes -/
theorem lcL_pure {α : Type} (f e : α → D) (p : α → Bool) {g : TGd} {tt : TB} {te : TD} {vs : List Nat} {Q : List D → SL → Prop} {l : List α} {ρ : SL} (hlen : l.length ≤ 16777216)
    (hs : ∀ x ∈ l, ∀ (N : List D → SL → Prop) (acc : List D), acc.length < 16777216 → (p x = true → N (acc ++ [e x]) ρ) → (p x = false → N acc ρ) →
      g (f x) ρ fun ρ1 => tt ρ1 fun b ρ2 => if b = true then te ρ2 fun rv ρ3 => acc.length < sizeLine ∧ N (acc ++ [rv.dat]) (wipeD ρ3 vs) else N acc (wipeD ρ2 vs))
    (hQ : Q ((l.filter p).map e) ρ) : lcL g tt te vs Q (l.map f) [] ρ := by
  suffices h : ∀ (r pre : List α) (acc : List D), pre ++ r = l → acc = (pre.filter p).map e → lcL g tt te vs Q (r.map f) acc ρ from h l [] [] rfl rfl
  intro r
  induction r with
  | nil =>
    intro pre acc hp ha
    rw [List.append_nil] at hp
    subst hp; subst ha
    exact hQ
  | cons x r ih =>
    intro pre acc hp ha
    have hx : x ∈ l := by rw [← hp]; simp
    have hacc : acc.length < 16777216 := by
      subst ha
      rw [List.length_map]
      have h1 := List.length_filter_le p pre
      have h2 := congrArg List.length hp
      rw [List.length_append, List.length_cons] at h2
      omega
    refine hs x hx (fun acc ρ => lcL g tt te vs Q (r.map f) acc ρ) acc hacc (fun hpx => ?_) fun hpx => ?_
    · refine ih (pre ++ [x]) _ (by rw [List.append_assoc]; exact hp) ?_
      rw [ha, List.filter_append, List.map_append, List.filter_cons_of_pos (by exact hpx)]
      rfl
    · refine ih (pre ++ [x]) _ (by rw [List.append_assoc]; exact hp) ?_
      rw [ha, List.filter_append, List.map_append, List.filter_cons_of_neg (by rw [hpx]; decide)]
      simp
/-- the same for dicts: keys that are texts, none twice -/
theorem dcL_pure {α : Type} (f : α → D) (kf : α → Str) (e : α → D) {g : TGd} {tt : TB} {tk te : TD} {vs : List Nat} {Q : List (Key × D) → SL → Prop} {l : List α} {ρ : SL} (hlen : l.length ≤ 16777216) (hn : (l.map kf).Nodup)
    (hs : ∀ x ∈ l, ∀ (N : List (Key × D) → SL → Prop) (acc : List (Key × D)), acc.length < 16777216 → N (kPut acc (.inr (kf x)) (e x)) ρ →
      g (f x) ρ fun ρ1 => tt ρ1 fun b ρ2 => if b = true then tk ρ2 fun rk ρ3 => te ρ3 fun rv ρ4 => ∃ k, rk.dat.key = some k ∧ acc.length < sizeLine ∧ N (kPut acc k rv.dat) (wipeD ρ4 vs) else N acc (wipeD ρ2 vs))
    (hQ : Q (l.map fun x => (.inr (kf x), e x)) ρ) : dcL g tt tk te vs Q (l.map f) [] ρ := by
  suffices h : ∀ (r pre : List α) (acc : List (Key × D)), pre ++ r = l → acc = (pre.map fun x => (Sum.inr (kf x), e x)) → dcL g tt tk te vs Q (r.map f) acc ρ from h l [] [] rfl rfl
  intro r
  induction r with
  | nil =>
    intro pre acc hp ha
    rw [List.append_nil] at hp
    subst hp; subst ha
    exact hQ
  | cons x r ih =>
    intro pre acc hp ha
    have hx : x ∈ l := by rw [← hp]; simp
    have hacc : acc.length < 16777216 := by
      subst ha
      rw [List.length_map]
      have h2 := congrArg List.length hp
      rw [List.length_append, List.length_cons] at h2
      omega
    refine hs x hx (fun acc ρ => dcL g tt tk te vs Q (r.map f) acc ρ) acc hacc ?_
    refine ih (pre ++ [x]) _ (by rw [List.append_assoc]; exact hp) ?_
    have hnot : (acc.any fun kv => decide (kv.1 = (Sum.inr (kf x) : Key))) = false := by
      rw [List.any_eq_false]
      intro kv hk
      subst ha
      obtain ⟨y, hy, rfl⟩ := List.mem_map.mp hk
      simp only [decide_eq_true_eq]
      intro z
      have z' : kf y = kf x := Sum.inr.inj z
      rw [← hp, List.map_append, List.map_cons] at hn
      have := List.nodup_append.mp hn
      exact this.2.2 (kf y) (List.mem_map.mpr ⟨y, hy, rfl⟩) (kf x) List.mem_cons_self z'
    unfold kPut
    rw [hnot, ha, List.map_append]
    rfl
theorem kGet_map {α : Type} (kf : α → Str) (e : α → D) : ∀ {l : List α} {x : α}, x ∈ l → (l.map kf).Nodup → kGet (l.map fun x => ((.inr (kf x) : Key), e x)) (.inr (kf x)) = some (e x)
  | y :: l, x, hm, hn => by
    rw [List.map_cons, kGet_cons]
    rw [List.map_cons, List.nodup_cons] at hn
    rcases List.mem_cons.mp hm with rfl | hm
    · rw [if_pos rfl]
    · rw [if_neg (fun z => hn.1 (by rw [Sum.inr.inj z]; exact List.mem_map.mpr ⟨x, hm, rfl⟩))]
      exact kGet_map kf e hm hn.2
theorem str_any (l : List Str) (x : Str) : ((l.map D.str).any fun z => D.eqv z (.str x)) = decide (x ∈ l) := by
  induction l with
  | nil => simp
  | cons y r ih =>
    rw [List.map_cons, List.any_cons, ih, D.eqv, Str.beq_dec]
    simp only [List.mem_cons, Bool.decide_or]
    congr 1
    exact decide_eq_decide.mpr eq_comm
theorem gIn_strs {f : Bool → Bool} {l : List Str} {x : Str} {Q : Rv → Prop} (h : Q (.v (.bl (f (decide (x ∈ l)))))) : gIn f (.str x) (.lst (l.map D.str)) Q := by
  refine ⟨by simp [D.fit], fits_strs 59 l, ?_⟩
  rw [str_any]
  exact h
theorem pair_eqv (p : Str × Str) (x y : Str) : D.eqv (PairD p) (.tup [.str x, .str y]) = decide (p = (x, y)) := by
  rw [PairD, D.eqv, D.eqvs, D.eqvs, D.eqvs, D.eqv, D.eqv, Str.beq_dec, Str.beq_dec]
  obtain ⟨a, b⟩ := p
  simp only [Bool.and_true, Prod.mk.injEq, Bool.decide_and]
theorem pair_any (l : List (Str × Str)) (x y : Str) : ((l.map PairD).any fun z => D.eqv z (.tup [.str x, .str y])) = decide ((x, y) ∈ l) := by
  induction l with
  | nil => simp
  | cons p r ih =>
    rw [List.map_cons, List.any_cons, ih, pair_eqv]
    simp only [List.mem_cons, Bool.decide_or]
    congr 1
    exact decide_eq_decide.mpr eq_comm
theorem gIn_pair (f : Bool → Bool) (l : List (Str × Str)) (x y : Str) (Q : Rv → Prop) (h : Q (.v (.bl (f (decide ((x, y) ∈ l)))))) : gIn f (.tup [.str x, .str y]) (.lst (l.map PairD)) Q := by
  refine ⟨by simp [D.fit, D.fits], pairs_fits 59 l (by decide), ?_⟩
  rw [pair_any]
  exact h
theorem gIn_pairD {f : Bool → Bool} {l : List (Str × Str)} {p : Str × Str} {Q : Rv → Prop} (h : Q (.v (.bl (f (decide (p ∈ l)))))) : gIn f (PairD p) (.lst (l.map PairD)) Q := gIn_pair f l p.1 p.2 Q h
end DL

/-! Walks over lists that are lent: they must stand as they were at each turn. -/
namespace DL
open PySem PySem.Spec L2 PyProof.Rows
structure ItM (K : PySem.W.Frag) (G : Cd) (M : SL → Prop) (J : It) (its : List D) : Prop where
  stop : ∀ {σ : L2.St} {H F : Hp} {ρ : SL}, Rep K G σ H F ρ → M ρ → J.stop its.length H
  go : ∀ {σ : L2.St} {H F : Hp} {ρ : SL} (i : Nat), i < its.length → Rep K G σ H F ρ → M ρ → J.go i H
  yld : ∀ {σ : L2.St} {H F : Hp} {ρ : SL} (i : Nat) (d : D) (x : V) (H' : Hp), its[i]? = some d → Rep K G σ H F ρ → M ρ → J.yld i H x H' → (H' = H ∧ Den K F x d) ∨ ∃ T xs, H T = none ∧ H' = upd H T (.tup xs) ∧ Den K (upd F T (.tup xs)) x d
theorem ItM.step {K : PySem.W.Frag} {G : Cd} {M : SL → Prop} {J : It} {its : List D} (IT : ItM K G M J its) {σ : L2.St} {H F : Hp} {ρ : SL} {i : Nat} {d : D} {x : V} {H' : Hp} (hi : its[i]? = some d) (R : Rep K G σ H F ρ) (m : M ρ) (y : J.yld i H x H') :
    ∃ F3, Same F F3 ∧ Rep K G σ H' F3 ρ ∧ Den K F3 x d ∧ ∀ v c, RDen K G σ ρ H F v (.fr c) → RDen K G σ ρ H' F3 v (.fr c) := by
  rcases IT.yld i d x H' hi R m y with ⟨rfl, dd⟩ | ⟨T, xs, hT, rfl, dd⟩
  · exact ⟨F, Same.refl _, R, dd, fun _ _ h => h⟩
  · obtain ⟨s1, R1⟩ := R.alloc (o := .tup xs) hT
    refine ⟨_, s1, R1, dd, fun v c h => ?_⟩
    obtain ⟨q, e, a1, a2, a3, n⟩ := h
    obtain ⟨o', ho⟩ := a1.ex
    have ne : q ≠ T := fun z => by subst z; rw [hT] at ho; cases ho
    exact ⟨q, e, (a1.mono s1).at (upd_ne ne), by rw [upd_ne ne]; exact a2, a3, n⟩
abbrev TSrcM := SL → (List D → (SL → Prop) → SL → Prop) → Prop
structure DIm (X : Cx) (tg iter : Expr) (wi : TI) (t : TSrcM) : Prop where
  pe : PI X tg iter wi
  sem : ∀ {G : Cd} {σ : L2.St} {H F : Hp} {ρ : SL} {Q : It → Hp → Prop} {Qd : List D → (SL → Prop) → SL → Prop}, Rep X.K G σ H F ρ → t ρ Qd →
    (∀ its M ρ' J H' F', Qd its M ρ' → Same F F' → Rep X.K G σ H' F' ρ' → (∀ G' : Cd, G'.F0 = F' → G'.b = G.b → ItM X.K G' M J its) → Q J H') → wi σ H Q
section
variable {K : PySem.W.Frag}
end
section
variable {X : Cx} {tg : Expr}
def forLM (M : SL → Prop) (g : TGd) (b : TSD) (E : EndsD) : List D → SL → Prop
  | [], ρ => M ρ ∧ E.nx ρ
  | d :: r, ρ => M ρ ∧ g d ρ fun ρ1 => b { nx := forLM M g b E r, rt := E.rt, bk := E.nx, ct := forLM M g b E r, xc := E.xc, xh := E.xh } ρ1
def sForM (t : TSrcM) (g : TGd) (b : TSD) : TSD := fun E ρ => t ρ fun its M ρ' => forLM M g b E its ρ'
theorem ds_forM {iter : Expr} {body : List Stmt} {ws : List Nat} {wi : TI} {g : TG} {tb : TS} {t : TSrcM} {gd : TGd} {b : TSD} {pos : Pos} (hp : PassesOwn (model X.prog X.w) X.A X.env X.xe) (hc : X.calm = true) (hi : DIm X tg iter wi t) (hg : DG X tg ws g gd) (hb : DSs X body tb b)
    (hs : ∀ x, foldedSetIterable iter X.env x = pure x := by intro _; rfl) : DS X (.For tg iter body [] pos) (tFor wi g tb) (sForM t gd b) := by
  refine ⟨ps_for hp hc hi.pe hg.pe hb.pe hs, fun {G σ H F ρ D E} R q L => hi.sem R q fun its M ρ' J H1 F1 qd s1 R1 hJ => ?_⟩
  have IT := hJ (G.at F1) rfl rfl
  have L' := L.at R1
  have ml : ∀ {l : List DL.D} {ρ : SL}, forLM M gd b E l ρ → M ρ := fun {l ρ} h => by cases l <;> exact h.1
  refine ⟨fun i m σ H => m = its.length - i ∧ i ≤ its.length ∧ ∃ F ρ, Rep X.K (G.at F1) σ H F ρ ∧ forLM M gd b E (its.drop i) ρ, ⟨_, rfl, Nat.zero_le _, F1, ρ', R1.rebase, qd⟩, ?_⟩
  rintro i m σ2 H2 ⟨rfl, hi, F2, ρ2, R2, q2⟩
  have hM := ml q2
  by_cases hlt : i < its.length
  · refine .inr ⟨IT.go i hlt R2 hM, fun σ H => ∃ F ρ, Rep X.K (G.at F1) σ H F ρ ∧ forLM M gd b E (its.drop (i + 1)) ρ, fun σ' H' ⟨F, ρ, h1, h2⟩ => ⟨its.length - (i + 1), by omega, rfl, hlt, F, ρ, h1, h2⟩, fun x H' y => ?_⟩
    have hd := List.getElem?_eq_getElem hlt
    rw [drop_get hd] at q2
    obtain ⟨F3, s3, R3, d3, _⟩ := IT.step hd R2 hM y
    refine hg.sem R3 d3 q2.2 fun ρ4 σ4 q4 R4 _ => ?_
    exact hb.sem R4 q4 ⟨fun σ H F ρ q R => ⟨F, ρ, R, q⟩, L'.rt, fun σ H F ρ q R => L'.nx σ H F ρ q R, fun σ H F ρ q R => ⟨F, ρ, R, q⟩, L'.xc, L'.xh⟩
  · have e : i = its.length := by omega
    subst e
    rw [List.drop_length] at q2
    exact .inl ⟨IT.stop R2 hM, L'.nx _ _ _ _ q2.2 R2⟩
/-- the rule for a loop with a statement about turns -/
theorem forLM_ix {M : SL → Prop} {g : TGd} {b : TSD} {E : EndsD} (I : Nat → SL → Prop) {l : List D} {ρ : SL} (hI : I 0 ρ) (hM : ∀ i ρ, I i ρ → M ρ) (h0 : ∀ ρ, I l.length ρ → E.nx ρ)
    (hs : ∀ (i : Nat) (d : D) (ρ : SL) (N : SL → Prop), l[i]? = some d → (∀ ρ', I (i + 1) ρ' → N ρ') → I i ρ → g d ρ fun ρ1 => b { nx := N, rt := E.rt, bk := E.nx, ct := N, xc := E.xc, xh := E.xh } ρ1) : forLM M g b E l ρ := by
  suffices h : ∀ (r : List D) (i : Nat) (ρ : SL), i + r.length = l.length → l.drop i = r → I i ρ → forLM M g b E r ρ from h l 0 ρ (by simp) rfl hI
  intro r
  induction r with
  | nil =>
    intro i ρ e e2 h
    have : i = l.length := by simpa using e
    subst this
    exact ⟨hM _ _ h, h0 _ h⟩
  | cons d r ih =>
    intro i ρ e e2 h
    have hi : i < l.length := by rw [List.length_cons] at e; omega
    have hd : l[i]? = some d := by
      have := congrArg (fun x => x[0]?) e2
      simpa using this
    have hr : l.drop (i + 1) = r := by
      have := congrArg List.tail e2
      simpa using this
    exact ⟨hM _ _ h, hs i d ρ _ hd (fun ρ' h' => ih (i + 1) ρ' (by rw [List.length_cons] at e; omega) hr h') h⟩
/-! ### comprehensions over lists that are lent -/
end
end DL

/-! A new thing that will stay; what is seen of piles. -/
namespace DL
open PySem PySem.Spec L2 PyProof.Rows
section
variable {X : Cx}
def dFz (t : TD) : TD := fun ρ Q => t ρ fun r ρ1 => Q (.v r.dat) ρ1
theorem de_fz {e : Expr} {te : TE} {t : TD} (h : DE X e te t) : DE X e te (dFz t) :=
  ⟨h.pe, fun R q k => h.sem R q fun r ρ' v H' F' qd s1 R1 rd => by
    obtain ⟨F2, s2, R2, d2⟩ := R1.share rd
    exact k _ _ _ _ _ qd (s1.trans s2) R2 d2⟩
/-- the pile is there from the start -/
def sPl0 (g : Nat) (b : TSD) : TSD := fun E ρ => ∃ hs, plOf ρ g = some hs ∧ b E (ρ.set g (.pl hs))
theorem dss_pl0 (g : Nat) {st : List Stmt} {t : TS} {dt : TSD} (h : DSs X st t dt) : DSs X st t (sPl0 g dt) := ⟨h.pe, fun R q L => by
  obtain ⟨hs, e, q⟩ := q
  exact h.sem (R.plHave e) q L⟩
end
theorem ress_strs (hs : Pile) : ∀ l : List Str, D.ress hs (l.map D.str) = l.map D.str
  | [] => by rw [List.map_nil, D.ress]
  | x :: l => by rw [List.map_cons, D.ress, ress_strs hs l]; congr 1
theorem res_strs {hs : Pile} {l : List Str} : D.res hs (.lst (l.map D.str)) = .lst (l.map D.str) := by rw [D.res, ress_strs]
theorem res_tup {hs : Pile} {l : List D} : D.res hs (.tup l) = .tup (D.ress hs l) := by rw [D.res]
theorem res_lst {hs : Pile} {l : List D} : D.res hs (.lst l) = .lst (D.ress hs l) := by rw [D.res]
theorem ress_nil {hs : Pile} : D.ress hs [] = [] := by rw [D.ress]
theorem ress_cons {hs : Pile} {d : D} {l : List D} : D.ress hs (d :: l) = D.res hs d :: D.ress hs l := by rw [D.ress]
theorem res_int {hs : Pile} {i : Int} : D.res hs (.int i) = .int i := by rw [D.res] <;> (intros; contradiction)
theorem res_str {hs : Pile} {i : Str} : D.res hs (.str i) = .str i := by rw [D.res] <;> (intros; contradiction)
theorem res_bl {hs : Pile} {i : Bool} : D.res hs (.bl i) = .bl i := by rw [D.res] <;> (intros; contradiction)
theorem res_non {hs : Pile} : D.res hs .non = .non := by rw [D.res] <;> (intros; contradiction)
theorem resk_nil2 {hs : Pile} : D.resk hs [] = [] := by rw [D.resk]
theorem resk_cons {hs : Pile} {k : Key} {d : D} {l : List (Key × D)} : D.resk hs ((k, d) :: l) = (k, D.res hs d) :: D.resk hs l := by rw [D.resk]
theorem reso_nil2 {hs : Pile} : D.reso hs [] = [] := by rw [D.reso]
theorem reso_cons {hs : Pile} {k : Str} {d : D} {l : List (Str × D)} : D.reso hs ((k, d) :: l) = (k, D.res hs d) :: D.reso hs l := by rw [D.reso]
theorem res_dct {hs : Pile} {l : List (Key × D)} : D.res hs (.dct l) = .dct (D.resk hs l) := by rw [D.res]
theorem res_obj {hs : Pile} {C : Addr} {l : List (Str × D)} : D.res hs (.obj C l) = .obj C (D.reso hs l) := by rw [D.res]
theorem ress_map {α : Type} {f : α → D} (hs : Pile) (h : ∀ x, D.res hs (f x) = f x) : ∀ l : List α, D.ress hs (l.map f) = l.map f
  | [] => by rw [List.map_nil, D.ress]
  | x :: l => by rw [List.map_cons, D.ress, h x, ress_map hs h l]
theorem resk_map {α : Type} {k : α → Key} {f : α → D} (hs : Pile) (h : ∀ x, D.res hs (f x) = f x) : ∀ l : List α, D.resk hs (l.map fun x => (k x, f x)) = l.map fun x => (k x, f x)
  | [] => by rw [List.map_nil, D.resk]
  | x :: l => by rw [List.map_cons, D.resk, h x, resk_map hs h l]
theorem res_pair {hs : Pile} {p : Str × Str} : D.res hs (PairD p) = PairD p := by
  unfold PairD
  rw [res_tup, ress_cons, ress_cons, ress_nil, res_str, res_str]
theorem res_pairs {hs : Pile} {l : List (Str × Str)} : D.res hs (.lst (l.map PairD)) = .lst (l.map PairD) := by rw [res_lst, ress_map hs (fun _ => res_pair)]
theorem gEq_nil {f : Bool → Bool} {a : List Str} {Q : Rv → Prop} : gEq f (.lst (a.map D.str)) (.lst []) Q = Q (.v (.bl (f (decide (a = []))))) := gEq_strs (b := [])
end DL

/-! list(range(..)); more of dicts. -/
namespace DL
open PySem PySem.Spec L2 PyProof.Rows
/-! a comprehension inside another -/
theorem lookup_re (c : Str → NameKind → Bool) (x : Str) : ∀ l : List (Str × NameKind), (l.map fun y => if c y.1 y.2 = true then (y.1, NameKind.cell) else (y.1, y.2)).lookup x = (l.lookup x).map fun k => if c x k = true then NameKind.cell else k
  | [] => rfl
  | (n, k) :: l => by
    rw [List.map_cons]
    by_cases e : x = n
    · subst e
      by_cases h : c x k = true
      · simp only [h, if_true, List.lookup_cons, beq_self_eq_true, Option.map_some]
      · simp only [h, Bool.false_eq_true, if_false, List.lookup_cons, beq_self_eq_true, Option.map_some]
    · have e2 : (x == n) = false := beq_eq_false_iff_ne.mpr e
      by_cases h : c n k = true
      · simp only [h, if_true, List.lookup_cons, e2]
        exact lookup_re c x l
      · simp only [h, Bool.false_eq_true, if_false, List.lookup_cons, e2]
        exact lookup_re c x l
theorem blkOk_in {N : List Str} {sc scope : Scope} {own : List (Str × Nat)} {env : Env} (h : blkC N sc scope own = true) : BlkOk N (PySem.relabel sc env) scope own := by
  have b := blkOk_by h
  refine ⟨b.kind, b.uniq, b.ix, fun y hy e => ?_, b.own⟩
  have q := lookup_re (fun n k => k == .free && env.scope.kind == .function && env.kindOf n == some .cell) y.1 sc.names
  have q2 : (PySem.relabel sc env).names.lookup y.1 = (sc.names.lookup y.1).map fun k => if (k == NameKind.free && env.scope.kind == .function && env.kindOf y.1 == some .cell) = true then NameKind.cell else k := q
  rcases b.free y hy e with z | z
  · left
    rw [q2, z]
    rfl
  · rw [q2, z]
    simp only [Option.map_some]
    split
    · exact .inl rfl
    · exact .inr rfl
section
variable {X : Cx}
end
end DL

/-! Lists of places (natural numbers). -/
namespace DL
open PySem PySem.Spec L2 PyProof.Rows
end DL

/-! list(enumerate(xs)): a list of pairs. -/
namespace EnL
open PySem PySem.Spec PyProof.Rows L2
section
variable {prog : Program} {w : World} {A : Around} {E : Value → Shared → Prop} {s : Shared} {e it l S : Addr} {xs : Array Value} {i : Nat}
end
/-- the addresses as hold the pairs of number and item -/
structure EnG (xs : Array Value) (lo : Addr) (h : Heap) (as : List Addr) : Prop where
  up : as.Pairwise (· < ·)
  lo : ∀ a ∈ as, lo < a
  tup : ∀ (j : Nat) (a : Addr), as[j]? = some a → ∃ t x, xs[j]? = some x ∧ h.get? a = some { cls := .type "tuple", data := .seq #[.int j t, x] }
theorem EnG.lt {xs : Array Value} {lo : Addr} {h : Heap} {as : List Addr} (g : EnG xs lo h as) {a : Addr} (ha : a ∈ as) : a < h.objs.size := by
  obtain ⟨j, hj⟩ := List.mem_iff_getElem?.mp ha
  obtain ⟨_, _, _, q⟩ := g.tup j a hj
  exact Heap.lt_size q
section
variable {prog : Program} {w : World} {A : Around} {s : Shared} {R : Result → Shared → Prop} {e it l S : Addr} {xs : Array Value}
end
section
variable {prog : Program} {w : World} {A : Around} {E : Value → Shared → Prop} {s : Shared} {e it l : Addr} {xs : Array Value}
end
section
variable {X : Cx} {a : Expr} {te : TE}
end
end EnL

/-! list(enumerate(xs)); targets that are places of one's own lists and dicts. -/
namespace DL
open PySem PySem.Spec L2 PyProof.Rows
section
variable {X : Cx}
/-! ### targets that change things -/
end
end DL

/-! More of dicts and piles. -/
namespace DL
open PySem PySem.Spec L2 PyProof.Rows
theorem lookup_plSet_ne {p q : Addr} {c' : Cn} (h : q ≠ p) : ∀ hs : Pile, (plSet hs p c').lookup q = hs.lookup q
  | [] => rfl
  | y :: r => by
    have ih := lookup_plSet_ne (c' := c') h r
    unfold plSet at ih ⊢
    obtain ⟨b, d⟩ := y
    rw [List.map_cons]
    by_cases e : b = p
    · subst e
      rw [if_pos rfl, List.lookup_cons, List.lookup_cons, beq_false_of_ne h]
      exact ih
    · rw [if_neg e, List.lookup_cons, List.lookup_cons, ih]
theorem lookup_plSet_eq {p : Addr} {c c' : Cn} : ∀ hs : Pile, hs.lookup p = some c → (plSet hs p c').lookup p = some c'
  | [], h => by cases h
  | y :: r, h => by
    have ih := lookup_plSet_eq (p := p) (c := c) (c' := c') r
    unfold plSet at ih ⊢
    obtain ⟨b, d⟩ := y
    rw [List.map_cons]
    rw [List.lookup_cons] at h
    by_cases e : b = p
    · subst e
      rw [if_pos rfl, List.lookup_cons, beq_self_eq_true]
    · rw [beq_false_of_ne (Ne.symm e)] at h
      rw [if_neg e, List.lookup_cons, beq_false_of_ne (Ne.symm e)]
      exact ih h
end DL

/-! y = {k: v for ..}: a local name of a dict comprehension. -/
namespace DL
open PySem PySem.Spec L2 PyProof.Rows
section
variable {X : Cx} {tg : Expr}
end
end DL

/-! What may be shown and compared, put together piece by piece. -/
namespace DL
open PySem PySem.Spec L2 PyProof.Rows
/-- plain data of nesting at most k, of weight at most w -/
structure Good (k w : Nat) (d : D) : Prop where
  fit : D.fit k d = true
  small : D.small d = true
  wt : D.wt d ≤ w
theorem fit_up : ∀ {k m : Nat} {d : D}, k ≤ m → D.fit k d = true → D.fit m d = true := by
  intro k
  induction k with
  | zero =>
    intro m d _ h
    cases d <;> first | (cases m <;> simp [D.fit] <;> done) | (simp [D.fit] at h <;> done)
  | succ k ih =>
    intro m d hm h
    cases m with
    | zero => omega
    | succ m =>
      have fs : ∀ l : List D, D.fits k l = true → D.fits m l = true := fun l hl => by
        rw [fits_all, List.all_eq_true] at hl ⊢
        exact fun x hx => ih (by omega) (hl x hx)
      cases d with
      | lst l => rw [D.fit] at h ⊢; exact fs l h
      | tup l => rw [D.fit] at h ⊢; exact fs l h
      | _ => first | (simp [D.fit] <;> done) | (simp [D.fit] at h <;> done)
theorem Good.mono {k m w u : Nat} {d : D} (h : Good k w d) (h1 : k ≤ m) (h2 : w ≤ u) : Good m u d := ⟨fit_up h1 h.fit, h.small, Nat.le_trans h.wt h2⟩
theorem Good.fine {k w : Nat} {d : D} (h : Good k w d) (h1 : k ≤ 60) (h2 : w ≤ 16777216) : FineE d := ⟨fit_up h1 h.fit, h.small, Nat.le_trans h.wt h2⟩
theorem smalls_all : ∀ l : List D, D.smalls l = l.all D.small
  | [] => by simp [D.smalls]
  | d :: r => by rw [D.smalls, smalls_all r]; rfl
theorem wts_le {w : Nat} : ∀ l : List D, (∀ d ∈ l, D.wt d ≤ w) → D.wts l ≤ (w + 2) * l.length
  | [], _ => by simp [D.wts]
  | d :: r, h => by
    have := wts_le r fun x hx => h x (List.mem_cons_of_mem _ hx)
    have := h d List.mem_cons_self
    rw [D.wts, List.length_cons, Nat.mul_succ]
    omega
theorem Good.lstD {k w n : Nat} {l : List D} (hl : l.length ≤ n) (h : ∀ d ∈ l, Good k w d) : Good (k + 1) (4 + (w + 2) * n) (.lst l) := by
  refine ⟨?_, ?_, ?_⟩
  · rw [D.fit, fits_all, List.all_eq_true]; exact fun d hd => (h d hd).fit
  · rw [D.small, smalls_all, List.all_eq_true]; exact fun d hd => (h d hd).small
  · rw [D.wt]
    have := wts_le (w := w) l fun d hd => (h d hd).wt
    have := Nat.mul_le_mul_left (w + 2) hl
    omega
theorem Good.tupD {k w n : Nat} {l : List D} (hl : l.length ≤ n) (h : ∀ d ∈ l, Good k w d) : Good (k + 1) (4 + (w + 2) * n) (.tup l) := by
  refine ⟨?_, ?_, ?_⟩
  · rw [D.fit, fits_all, List.all_eq_true]; exact fun d hd => (h d hd).fit
  · rw [D.small, smalls_all, List.all_eq_true]; exact fun d hd => (h d hd).small
  · rw [D.wt]
    have := wts_le (w := w) l fun d hd => (h d hd).wt
    have := Nat.mul_le_mul_left (w + 2) hl
    omega
theorem Good.lst {α : Type} {f : α → D} {k w n : Nat} {l : List α} (hl : l.length ≤ n) (h : ∀ x ∈ l, Good k w (f x)) : Good (k + 1) (4 + (w + 2) * n) (.lst (l.map f)) := by
  refine Good.lstD (by rw [List.length_map]; exact hl) fun d hd => ?_
  obtain ⟨x, hx, rfl⟩ := List.mem_map.mp hd
  exact h x hx
theorem Good.tup {α : Type} {f : α → D} {k w n : Nat} {l : List α} (hl : l.length ≤ n) (h : ∀ x ∈ l, Good k w (f x)) : Good (k + 1) (4 + (w + 2) * n) (.tup (l.map f)) := by
  refine Good.tupD (by rw [List.length_map]; exact hl) fun d hd => ?_
  obtain ⟨x, hx, rfl⟩ := List.mem_map.mp hd
  exact h x hx
theorem good_str {x : Str} {n : Nat} (h : x.length ≤ n) : Good 0 (10 * n + 2) (.str x) := ⟨by simp [D.fit], by simp [D.small], by rw [D.wt]; omega⟩
theorem good_strs {l : List Str} {n m : Nat} (hl : l.length ≤ n) (h : ∀ x ∈ l, x.length ≤ m) : Good 1 (4 + (10 * m + 4) * n) (.lst (l.map D.str)) := Good.lst hl fun x hx => good_str (h x hx)
theorem good_two {k w : Nat} {a b : D} (ha : Good k w a) (hb : Good k w b) : Good (k + 1) (2 * w + 8) (.lst [a, b]) :=
  (Good.lstD (n := 2) (Nat.le_refl _) (fun d hd => by
    rcases List.mem_cons.mp hd with rfl | hd
    · exact ha
    · rw [List.mem_singleton.mp hd]; exact hb)).mono (Nat.le_refl _) (by omega)
theorem good_pair {k w : Nat} {a b : D} (ha : Good k w a) (hb : Good k w b) : Good (k + 1) (2 * w + 8) (.tup [a, b]) :=
  (Good.tupD (n := 2) (Nat.le_refl _) (fun d hd => by
    rcases List.mem_cons.mp hd with rfl | hd
    · exact ha
    · rw [List.mem_singleton.mp hd]; exact hb)).mono (Nat.le_refl _) (by omega)
/-! ### sorted: lists of texts -/
def setD (s : List Str) : D := .lst (s.map D.str)
/-! ### data that stands for something else, one for one -/
structure Enc {α : Type} [DecidableEq α] (k : Nat) (e : α → D) : Prop where
  fit : ∀ x, D.fit k (e x) = true
  eqv : ∀ x y, D.eqv (e x) (e y) = decide (x = y)
section
variable {α β : Type} [DecidableEq α] [DecidableEq β] {e : α → D} {g : β → D} {k : Nat}
theorem eqvs_enc (h : Enc k e) : ∀ a b : List α, D.eqvs (a.map e) (b.map e) = decide (a = b)
  | [], [] => by simp [D.eqvs]
  | [], _ :: _ => by simp [D.eqvs]
  | _ :: _, [] => by simp [D.eqvs]
  | x :: a, y :: b => by
    rw [List.map_cons, List.map_cons, D.eqvs, eqvs_enc h a b, h.eqv]
    simp only [List.cons.injEq, Bool.decide_and]
theorem fits_enc (h : Enc k e) (l : List α) : D.fits k (l.map e) = true := by
  rw [fits_all, List.all_eq_true]
  intro d hd
  obtain ⟨x, _, rfl⟩ := List.mem_map.mp hd
  exact h.fit x
theorem Enc.lst (h : Enc k e) : Enc (k + 1) fun l : List α => D.lst (l.map e) := ⟨fun l => by rw [D.fit]; exact fits_enc h l, fun a b => by rw [D.eqv]; exact eqvs_enc h a b⟩
theorem Enc.pair (h : Enc k e) (h2 : Enc k g) : Enc (k + 1) fun p : α × β => D.tup [e p.1, g p.2] := ⟨fun p => by rw [D.fit, D.fits, D.fits, D.fits, h.fit, h2.fit]; rfl, fun p q => by
  rw [D.eqv, D.eqvs, D.eqvs, D.eqvs, h.eqv, h2.eqv]
  obtain ⟨a, b⟩ := p
  obtain ⟨c, d⟩ := q
  simp only [Bool.and_true, Prod.mk.injEq, Bool.decide_and]⟩
theorem gIn_lst {f : Bool → Bool} {x : D} {ds : List D} {Q : Rv → Prop} : gIn f x (.lst ds) Q = (D.fit 60 x = true ∧ D.fits 59 ds = true ∧ Q (.v (.bl (f (ds.any fun z => D.eqv z x))))) := by
  cases x <;> rfl
end
end DL

/-! Loops and comprehensions whose state says the same before each round. -/
namespace DL
open PySem PySem.Spec L2 PyProof.Rows
theorem lcL_st {α : Type} (f e : α → D) (p : α → Bool) {g : TGd} {tt : TB} {te : TD} {vs : List Nat} {Q : List D → SL → Prop} (M : SL → Prop) {l : List α} {ρ : SL} (hlen : l.length ≤ 16777216) (hM : M ρ)
    (hs : ∀ x ∈ l, ∀ (N : List D → SL → Prop) (acc : List D) (ρ : SL), acc.length < 16777216 → M ρ → (p x = true → ∀ ρ', M ρ' → N (acc ++ [e x]) ρ') → (p x = false → ∀ ρ', M ρ' → N acc ρ') →
      g (f x) ρ fun ρ1 => tt ρ1 fun b ρ2 => if b = true then te ρ2 fun rv ρ3 => acc.length < sizeLine ∧ N (acc ++ [rv.dat]) (wipeD ρ3 vs) else N acc (wipeD ρ2 vs))
    (hQ : ∀ ρ, M ρ → Q ((l.filter p).map e) ρ) : lcL g tt te vs Q (l.map f) [] ρ := by
  refine lcL_on f (fun pre r acc ρ => acc = (pre.filter p).map e ∧ M ρ) ⟨rfl, hM⟩ ?_ ?_
  · rintro acc ρ ⟨rfl, h⟩; exact hQ ρ h
  · rintro pre x r acc ρ N hl hN ⟨rfl, h⟩
    have hacc : ((pre.filter p).map e).length < 16777216 := by
      rw [List.length_map]
      have h1 := List.length_filter_le p pre
      have h2 := congrArg List.length hl
      rw [List.length_append, List.length_cons] at h2
      omega
    refine hs x (by rw [hl]; simp) N _ ρ hacc h (fun hp ρ' h' => hN _ _ ⟨?_, h'⟩) fun hp ρ' h' => hN _ _ ⟨?_, h'⟩
    · rw [List.filter_append, List.map_append, List.filter_cons_of_pos (by exact hp)]; rfl
    · rw [List.filter_append, List.map_append, List.filter_cons_of_neg (by rw [hp]; decide)]; simp
theorem lcL_map {α : Type} (f e : α → D) {g : TGd} {tt : TB} {te : TD} {vs : List Nat} {Q : List D → SL → Prop} (M : SL → Prop) {l : List α} {ρ : SL} (hlen : l.length ≤ 16777216) (hM : M ρ)
    (hs : ∀ x ∈ l, ∀ (N : List D → SL → Prop) (acc : List D) (ρ : SL), acc.length < 16777216 → M ρ → (∀ ρ', M ρ' → N (acc ++ [e x]) ρ') →
      g (f x) ρ fun ρ1 => tt ρ1 fun b ρ2 => if b = true then te ρ2 fun rv ρ3 => acc.length < sizeLine ∧ N (acc ++ [rv.dat]) (wipeD ρ3 vs) else N acc (wipeD ρ2 vs))
    (hQ : ∀ ρ, M ρ → Q (l.map e) ρ) : lcL g tt te vs Q (l.map f) [] ρ := by
  refine lcL_st f e (fun _ => true) M hlen hM (fun x hx N acc ρ ha h h1 _ => hs x hx N acc ρ ha h (h1 rfl)) ?_
  rw [List.filter_eq_self.mpr fun _ _ => rfl]
  exact hQ
end DL

/-! More methods of lists: extend, remove, index, count. -/
namespace DL
open PySem PySem.Spec L2 PyProof.Rows
section
variable {X : Cx}
/-! ### extend -/
/-! ### remove -/
/-! ### methods that only look -/
end
/-! what these are of data that stand for things -/
section
variable {α : Type} [DecidableEq α] {e : α → D} {k : Nat}
end
end DL

/-! f(..)[k], where f hands on a tuple with a new thing in it: the thing is one's own. -/
namespace DL
open PySem PySem.Spec L2 PyProof.Rows
section
variable {X : Cx}
/-! e.remove(..), e an expression whose value a pile holds -/
end
end DL

/-! Calls that only look at their arguments and hand on something new and flat. -/
namespace DL
open PySem PySem.Spec L2 PyProof.Rows
mutual
/-- atoms, and tuples of such -/
def D.flat : D → Bool
  | .tup l => D.flats l
  | .non => true
  | .bl _ => true
  | .int _ => true
  | .str _ => true
  | .rep _ => true
  | .lst _ => false
  | .dct _ => false
  | .obj _ _ => false
  | .scr _ => false
  | .at _ => true
  | .exc _ _ _ _ _ => false
  | .dx _ _ => false
  | .unk => false
def D.flats : List D → Bool
  | [] => true
  | d :: r => D.flat d && D.flats r
end
def flatC (x : Addr × Cn) : Bool := match x.2 with
  | .l ds => D.flats ds
  | _ => false
def Rv.flat : Rv → Bool
  | .v d => d.flat
  | .fr (.l ds) => D.flats ds
  | .pt d hs => d.flat && hs.all flatC
  | _ => false
theorem flats_all : ∀ l : List D, D.flats l = l.all D.flat
  | [] => by rw [D.flats]; rfl
  | d :: r => by rw [D.flats, flats_all r]; rfl
theorem flats_map {α : Type} {f : α → D} (h : ∀ x, D.flat (f x) = true) (l : List α) : D.flats (l.map f) = true := by
  rw [flats_all, List.all_eq_true]
  intro d hd
  obtain ⟨x, _, rfl⟩ := List.mem_map.mp hd
  exact h x
theorem flats_strs (l : List Str) : D.flats (l.map D.str) = true := flats_map (fun x => by rw [D.flat]) l
section
variable {K : PySem.W.Frag} {G : Cd} {σ : L2.St} {H F H' F' : Hp} {ρ : SL}
/-- one's own things -/
def Owns (σ : L2.St) (ρ : SL) (b : Addr) : Prop := (∃ (i : Nat) (s : Sl) (c : Cn), ρ[i]? = some s ∧ s.cn = some c ∧ σ[i]? = some (some (.ref b))) ∨ ∃ (i : Nat) (hs : List (Addr × Cn)) (c : Cn), ρ[i]? = some (.pl hs) ∧ (b, c) ∈ hs
open Classical in
/-- what stays, and one's own things as they are now -/
noncomputable def frz1 (σ : L2.St) (ρ : SL) (H F : Hp) : Hp := fun b => if Owns σ ρ b then H b else F b
theorem Owns.has (R : Rep K G σ H F ρ) {b : Addr} (h : Owns σ ρ b) : F b = none ∧ ∃ c, Has K F H b c := by
  rcases h with ⟨i, s, c, h1, h2, h3⟩ | ⟨i, hs, c, h1, h2⟩
  · obtain ⟨p, a, b1, b2⟩ := R.owned h1 h2
    rw [h3] at a
    cases a
    exact ⟨b2, c, b1⟩
  · obtain ⟨a, b1, _⟩ := R.pl.has i hs b c h1 h2
    exact ⟨b1, c, a⟩
theorem frz1_ext (R : Rep K G σ H F ρ) : Same F (frz1 σ ρ H F) := fun b o e => by
  unfold frz1
  by_cases h : Owns σ ρ b
  · rw [(h.has R).1] at e; cases e
  · rw [if_neg h]; exact e
theorem frz1_sub (R : Rep K G σ H F ρ) : Same (frz1 σ ρ H F) H := fun b o e => by
  unfold frz1 at e
  by_cases h : Owns σ ρ b
  · rw [if_pos h] at e; exact e
  · rw [if_neg h] at e; exact R.ext b o e
theorem frz1_tup (R : Rep K G σ H F ρ) {b : Addr} {xs : List V} (e : frz1 σ ρ H F b = some (.tup xs)) : F b = some (.tup xs) := by
  unfold frz1 at e
  by_cases h : Owns σ ρ b
  · rw [if_pos h] at e
    obtain ⟨_, c, hc⟩ := h.has R
    cases c with
    | l ds => obtain ⟨ys, a, _⟩ := hc; rw [a] at e; cases e
    | d kvs => obtain ⟨ys, a, _⟩ := hc; rw [a] at e; cases e
    | o C fs => obtain ⟨dx, gs, a, _⟩ := hc; rw [a] at e; cases e
    | k ob ks kvs => rw [hc.1] at e; cases e
    | x w kvs => obtain ⟨ys, a, _⟩ := hc; rw [a] at e; cases e
  · rw [if_neg h] at e; exact e
theorem own_den (R : Rep K G σ H F ρ) {p : Addr} {c : Cn} (h : Has K F H p c) (ho : Owns σ ρ p) : Den K (frz1 σ ρ H F) (.ref p) c.dat := by
  obtain ⟨o, eo⟩ := h.ex
  exact h.den (frz1_ext R) eo (by unfold frz1; rw [if_pos ho]; exact eo)
theorem op_den1 (R : Rep K G σ H F ρ) {v : V} {o : Op} {d : D} (h : OpDen K F σ v o) (e : o.get ρ = some d) : Den K (frz1 σ ρ H F) v d := by
  cases o with
  | now d' => cases e; exact Den.mono (frz1_ext R) h
  | pl g p =>
    have hv : v = .ref p := h
    subst hv
    cases q : ρ[g]? with
    | none => simp only [Op.get, q] at e; cases e
    | some s =>
      cases s with
      | pl hs =>
        simp only [Op.get, q] at e
        cases q2 : hs.lookup p with
        | none => rw [q2] at e; cases e
        | some c =>
          rw [q2] at e
          cases e
          exact own_den R (R.pl.has g hs p c q (lookup_mem q2)).1 (.inr ⟨g, hs, c, q, lookup_mem q2⟩)
      | _ => simp only [Op.get, q] at e; cases e
  | «at» i =>
    have hv : σ[i]? = some (some v) := h
    cases q : ρ[i]? with
    | none => simp only [Op.get, q] at e; cases e
    | some s =>
      simp only [Op.get, q] at e
      cases s with
      | un => cases e
      | pl hs => cases e
      | sh d' =>
        cases e
        obtain ⟨w, a, b⟩ := R.sh i _ q
        rw [hv] at a
        cases a
        exact b.mono (frz1_ext R)
      | ow c =>
        cases e
        obtain ⟨p, a, b, _⟩ := R.ow i _ q
        rw [hv] at a
        cases a
        exact own_den R b (.inl ⟨i, _, c, q, rfl, hv⟩)
      | bw j c =>
        cases e
        obtain ⟨p, a, b, _⟩ := R.bw i j _ q
        rw [hv] at a
        cases a
        exact own_den R b (.inl ⟨i, _, c, q, rfl, hv⟩)
theorem Rep.grow2 (R : Rep K G σ H F ρ) {F2 : Hp} (e : Same H H') (h1 : Same F F2) (h2 : Same F2 H') (h3 : ∀ b o, F2 b = some o → F b = some o ∨ H b = none) : Rep K G σ H' F2 ρ := by
  have hh : ∀ p c, Has K F H p c → Has K F2 H' p c := fun p c h => by
    obtain ⟨o, ho⟩ := h.ex
    exact (h.at ((e p o ho).trans ho.symm)).mono h1
  have hn : ∀ p c, Has K F H p c → F p = none → F2 p = none := fun p c h hf => by
    obtain ⟨o, ho⟩ := h.ex
    cases q : F2 p with
    | none => rfl
    | some o' =>
      rcases h3 p o' q with z | z
      · rw [hf] at z; cases z
      · rw [ho] at z; cases z
  have hnew : ∀ a o, F2 a = some o → G.F0 a = some o ∨ G.H0 a = none ∨ G.L a := fun a o z => by
    rcases h3 a o z with y | y
    · exact R.new a o y
    · right; left
      cases q : G.H0 a with
      | none => rfl
      | some o' => obtain ⟨o2, z2⟩ := R.dom a o' q; rw [y] at z2; cases z2
  exact ⟨R.len, h2, fun i d z => let ⟨v, a, b⟩ := R.sh i d z; ⟨v, a, b.mono h1⟩, fun i c z => let ⟨p, a, b, d, g⟩ := R.ow i c z; ⟨p, a, hh p c b, hn p c b d, g⟩, fun i j c z => let ⟨p, a, b, d, g⟩ := R.bw i j c z; ⟨p, a, hh p c b, hn p c b d, g⟩, R.sep,
    R.fr0.trans h1, hnew, fun a o z nl nb => e a o (R.keep a o z nl nb), fun a o z => let ⟨o', k⟩ := R.dom a o z; ⟨o', e a o' k⟩, R.bd, R.lb,
    R.pl.to (fun _ _ z => z) (fun j s c' q e1 e2 e3 => .inl ⟨s, c', e1, e2, e3⟩) fun i hs q c _ _ a b d => ⟨hh q c a, hn q c a b, d⟩⟩
mutual
theorem flat_den {F2 : Hp} (ht : ∀ a xs, F' a = some (.tup xs) → F2 a = some (.tup xs)) : ∀ (d : D) (v : V), d.flat = true → Den K F' v d → Den K F2 v d
  | .tup l, v, h, e => by
    rw [D.flat] at h
    cases e with
    | tup a b => exact .tup (ht _ _ a) (flats_den ht l _ h b)
  | .non, v, h, e => by cases e; exact .non
  | .bl b, v, h, e => by cases e; exact .bl _
  | .int i, v, h, e => by cases e; exact .int _
  | .str x, v, h, e => by cases e with | str _ a => exact .str _ a
  | .rep d, v, h, e => by cases e; exact .rep d
  | .lst _, v, h, e => by rw [D.flat] at h; cases h
  | .dct _, v, h, e => by rw [D.flat] at h; cases h
  | .obj _ _, v, h, e => by rw [D.flat] at h; cases h
  | .scr _, v, h, e => by rw [D.flat] at h; cases h
  | .at _, v, h, e => by cases e; exact .at _
  | .exc _ _ _ _ _, v, h, e => by rw [D.flat] at h; cases h
  | .dx _ _, v, h, e => by rw [D.flat] at h; cases h
  | .unk, v, h, e => by rw [D.flat] at h; cases h
theorem flats_den {F2 : Hp} (ht : ∀ a xs, F' a = some (.tup xs) → F2 a = some (.tup xs)) : ∀ (ds : List D) (vs : List V), D.flats ds = true → DenL K F' vs ds → DenL K F2 vs ds
  | [], vs, _, e => by cases e; exact .nil
  | d :: r, vs, h, e => by
    rw [D.flats, Bool.and_eq_true] at h
    cases e with
    | cons a b => exact .cons (flat_den ht d _ h.1 a) (flats_den ht r _ h.2 b)
end
open Classical in
theorem sem_look {sp : SpD} {vs : List V} {ds : List D} {Q : VK} {E : XK} {Qd : Rv → SL → Prop} (R : Rep K G σ H F ρ) (d : DenL K (frz1 σ ρ H F) vs ds)
    (q : sp (ds.map Sl.sh) fun r _ => r.flat = true ∧ Qd r ρ)
    (k : ∀ r ρ' v H' F', Qd r ρ' → Same F F' → Rep K G σ H' F' ρ' → RDen K G σ ρ' H' F' v r → Q v H') : lift K sp vs H Q E := by
  have sl : ∀ (i : Nat) (s : Sl), (ds.map Sl.sh)[i]? = some s → ∃ d, ds[i]? = some d ∧ s = .sh d := fun i s e => by
    rw [List.getElem?_map] at e
    cases q : ds[i]? with
    | none => rw [q] at e; cases e
    | some d => rw [q] at e; cases e; exact ⟨d, rfl, rfl⟩
  refine ⟨fun _ => none, frz1 σ ρ H F, ds.map Sl.sh, _, ?_, q, fun r outs σ' v H' F' ⟨ha, qd⟩ RC rd => ?_⟩
  · refine ⟨by rw [List.length_map, List.length_map, d.length], frz1_sub R, fun i d' e => ?_, fun i c e => ?_, fun i j c e => ?_, fun i j s t c c' p e1 e2 h1 h2 h3 h4 => ?_, Same.refl _, fun a o e => .inl e, fun a o e _ _ => e, fun a o e => ⟨o, e⟩, fun j p e => (nomatch e), fun _ _ z => z.elim, ?_⟩
    · obtain ⟨d2, e2, z⟩ := sl i _ e
      cases z
      obtain ⟨v, e3, e4⟩ := d.get e2
      exact ⟨v, by rw [List.getElem?_map, e3]; rfl, e4⟩
    · obtain ⟨d2, e2, z⟩ := sl i _ e; cases z
    · obtain ⟨d2, e2, z⟩ := sl i _ e; cases z
    · obtain ⟨d2, e2, z⟩ := sl i _ e1; subst z; cases h1
    · have no : ∀ (i : Nat) (hs : List (Addr × Cn)), (ds.map Sl.sh)[i]? ≠ some (.pl hs) := fun i hs e => by
        obtain ⟨d2, e2, z⟩ := sl i _ e; cases z
      exact ⟨fun i hs e => (no i hs e).elim, fun i hs p c e => (no i hs e).elim, fun i hs p c e => (no i hs e).elim, fun i j hs hs' p c c' e => (no i hs e).elim⟩
  · have e : Same H H' := fun a o z => RC.keep a o z (fun z => z) (fun j z => nomatch z)
    let F2 : Hp := fun b => if H b = none then F' b else F b
    have f1 : Same F F2 := fun b o z => by
      show (if H b = none then F' b else F b) = some o
      rw [if_neg (by rw [R.ext b o z]; exact fun w => nomatch w)]
      exact z
    have f2 : Same F2 H' := fun b o z => by
      have z' : (if H b = none then F' b else F b) = some o := z
      by_cases c : H b = none
      · rw [if_pos c] at z'; exact RC.ext b o z'
      · rw [if_neg c] at z'; exact e b o (R.ext b o z')
    have f3 : ∀ b o, F2 b = some o → F b = some o ∨ H b = none := fun b o z => by
      have z' : (if H b = none then F' b else F b) = some o := z
      by_cases c : H b = none
      · exact .inr c
      · rw [if_neg c] at z'; exact .inl z'
    have R2 := R.grow2 e f1 f2 f3
    have ht : ∀ a xs, F' a = some (.tup xs) → F2 a = some (.tup xs) := fun a xs z => by
      show (if H a = none then F' a else F a) = some _
      by_cases c : H a = none
      · rw [if_pos c]; exact z
      · rw [if_neg c]
        rcases RC.new a _ z with y | y | y
        · exact frz1_tup R y
        · exact (c y).elim
        · exact y.elim
    refine k _ _ _ _ _ qd f1 R2 ?_
    cases r with
    | v d => exact flat_den ht d v ha rd
    | fr c =>
      cases c with
      | l ds2 =>
        obtain ⟨p, rfl, ⟨xs, h1, h2⟩, h3, h4, _⟩ := rd
        have hp : H p = none := by
          rcases h4 with z | z
          · exact z
          · exact z.elim
        refine ⟨p, rfl, ⟨xs, h1, flats_den ht ds2 xs ha h2⟩, ?_, ?_, ?_⟩
        · show (if H p = none then F' p else F p) = none
          rw [if_pos hp]; exact h3
        · left
          cases q2 : G.H0 p with
          | none => rfl
          | some o' => obtain ⟨o2, z2⟩ := R.dom p o' q2; rw [hp] at z2; cases z2
        · refine ⟨fun i s c' z1 z2 z3 => ?_, fun i hs c z1 z2 => ?_⟩
          · obtain ⟨p', a, b, _⟩ := R.owned z1 z2
            rw [z3] at a
            cases a
            obtain ⟨o, ho⟩ := b.ex
            rw [hp] at ho; cases ho
          · obtain ⟨b, _⟩ := R.pl.has i hs p c z1 z2
            obtain ⟨o, ho⟩ := b.ex
            rw [hp] at ho; cases ho
      | _ => cases ha
    | pt d hs =>
      have ha' : (d.flat && hs.all flatC) = true := ha
      rw [Bool.and_eq_true, List.all_eq_true] at ha'
      obtain ⟨ha1, ha2⟩ := ha'
      obtain ⟨g1, g2, g3⟩ := rd
      refine ⟨flat_den ht d v ha1 g1, g2, fun p c m => ?_⟩
      obtain ⟨h1, h3, h4, _⟩ := g3 p c m
      have hc := ha2 _ m
      have hp : H p = none := by
        rcases h4 with z | z
        · exact z
        · exact z.elim
      cases c with
      | l ds2 =>
        obtain ⟨xs, h1, h2⟩ := h1
        have hc : D.flats ds2 = true := hc
        refine ⟨⟨xs, h1, flats_den ht ds2 xs hc h2⟩, ?_, ?_, ?_⟩
        · show (if H p = none then F' p else F p) = none
          rw [if_pos hp]; exact h3
        · left
          cases q2 : G.H0 p with
          | none => rfl
          | some o' => obtain ⟨o2, z2⟩ := R.dom p o' q2; rw [hp] at z2; cases z2
        · refine ⟨fun i s c' z1 z2 z3 => ?_, fun i hs c z1 z2 => ?_⟩
          · obtain ⟨p', a, b, _⟩ := R.owned z1 z2
            rw [z3] at a
            cases a
            obtain ⟨o, ho⟩ := b.ex
            rw [hp] at ho; cases ho
          · obtain ⟨b, _⟩ := R.pl.has i hs p c z1 z2
            obtain ⟨o, ho⟩ := b.ex
            rw [hp] at ho; cases ho
      | _ => cases hc
end
section
variable {X : Cx}
/-! ### [x, y] == z and repr([x, y]): what is displayed is only looked at -/
end
end DL

/-! a or b, of values of any kind. -/
namespace DL
open PySem PySem.Spec L2 PyProof.Rows
section
variable {X : Cx}
end
end DL

/-! An own error, made: its __init__ says super().__init__(text) and keeps one field. -/
namespace DL
open PySem PySem.W PySem.Calls PyProof.Rows PySem.HandSPX
def xA (par : Str) (p1 p2 : Pos) : Arguments := { posonlyargs := [], args := [{ arg := "self", annotation := none, pos := p1 }, { arg := par, annotation := none, pos := p2 }], vararg := none, kwonlyargs := [], kw_defaults := [], kwarg := none, defaults := [] }
def xB (txt : Str) (fld par : Str) (a1 a2 a3 a4 a5 a6 b1 b2 b3 b4 : Pos) : List Stmt :=
  [.Expr (.Call (.Attribute (.Call (.Name "super" a1) [] [] a2) "__init__" a3) [.Constant (.str txt) 0 a4] [] a5) a6, .Assign [.Attribute (.Name "self" b1) fld b2] (.Name par b3) b4]
def xS (par : Str) : Scope := { kind := .function, names := [(PySem.Str.ofString "self", .local), (par, .local), (PySem.Str.ofString "__class__", .free), (PySem.Str.ofString "super", .globalImplicit)], isGenerator := false, isCoroutine := false, more := [] }
theorem xcall_eq (env : Env) (a1 a2 a3 a4 a5 : Pos) (txt : Str) (h : (a3.endLine == a5.line) = true) :
    eval (.Call (.Attribute (.Call (.Name "super" a1) [] [] a2) "__init__" a3) [.Constant (.str txt) 0 a4] [] a5) env = (do
      let ov ← attributeBase (.Call (.Name "super" a1) [] [] a2) "__init__" env (eval (.Call (.Name "super" a1) [] [] a2) env)
      standAt a3.atName
      let (f, first) ← holding [ov] (getMethod ov "__init__" (do return (← importBound (.Call (.Name "super" a1) [] [] a2) env).getD true))
      callWith a5 f first (backTo a5 (starEach [.Constant (.str txt) 0 a4] env)) []) := by
  rw [eval]
  unfold methodCall methodCallPos
  rw [h]
  rfl
/-- what the written part says of an own error's class at C and of its __init__ at fI -/
structure XcT (prog : Program) (K : Frag) (mg : Str → Option Value) (x : Str) (C fI : Addr) (fld : Str) : Prop where
  gC : mg x = some (.ref C)
  cls : ∃ nm q N bs bm sn sub ab col dd k0 k1 k2 k3 k5, K.lookup C = some (excClassObj nm q C N bs bm true sn sub ab col dd k0 k1 k2 k3 k5 "ValueError.__new__") ∧ refsVE bm = true
  sa : findIn K (.ref C) "__setattr__" = some (some (.builtin "object.__setattr__"))
  noN : findIn K (.ref C) fld = some none
  iC : findIn K (.ref C) "__init__" = some (some (.ref fI))
  tC : typeIn K (.ref fI) = some (.type "function")
  kC : keepIn K (.ref C) = true
  exC : subIn K (.ref C) (.type "BaseException") = some true
  tyC : typeIn K (.ref C) = some (.type "type")
  sup : ks_superIn K C C "__init__" = some (some (.builtin "ValueError.__init__"))
  subV : subIn K (.ref C) (.type "ValueError") = some true
  selfC : mroIn K C (.ref C) = some true
  opq : nsIn K cStatics "thirdparty.any" = some none
  noS : mg "super" = none
  fn : ∃ (oc : Value) (od : Option Addr) (doc pm : Value) (an : Option Addr) (cda cc : Addr) (ct : Value) (osl : Array (Option Value)) (txt par q : Str) (p1 p2 a1 a2 a3 a4 a5 a6 b1 b2 b3 b4 : Pos),
    K.lookup fI = some ⟨oc, od, .func (ksFn "__init__" q (xA par p1 p2) (xB txt fld par a1 a2 a3 a4 a5 a6 b1 b2 b3 b4) (xS par) .none .none doc pm an (.ref cda) ct cc), osl⟩ ∧ codeIn K (.ref cda) q = true ∧
    (∃ ccl cdd vs ccs file tf, K.lookup cda = some ⟨ccl, cdd, .fields vs, ccs⟩ ∧ vs[2]? = some (.str file tf) ∧ ((prog.main.file : Str) == file) = true) ∧
    (∃ cl cld csl, K.lookup cc = some ⟨cl, cld, .cell (some (.ref C)), csl⟩) ∧
    (∀ (s : Shared) (a b : Value), BindsTo s (ksFn "__init__" q (xA par p1 p2) (xB txt fld par a1 a2 a3 a4 a5 a6 b1 b2 b3 b4) (xS par) .none .none doc pm an (.ref cda) ct cc) ⟨[a, b], []⟩ [("self", a), (par, b)]) ∧
    (a3.endLine == a5.line) = true ∧ (par == ("self" : Str)) = false ∧ (par == ("__class__" : Str)) = false ∧ (par == ("super" : Str)) = false ∧ (par == ("__debug__" : Str)) = false
  top : (prog.main.scope.names.lookup ("super" : Str)).isSome = false
section
variable {prog : Program} {w : World} {A : Around} {E : Value → Shared → Prop} {h : Heap} {g : Array GenState} {d : Drawn} {t : Nat} {os : OsState}
variable {nm q : Str} {C N : Addr} {bs bm : List Value} {hdct : Bool} {sn : List Str} {sub : List Value} {ab : Bool} {col : Option Bool} {dd : Option Addr} {k0 k1 k2 k3 k5 : Option Value}
/-- ValueError.__init__ bound to a new error, called -/
theorem xcall_mw {u e t0 : Addr} {rest : List Value} {Q : Value → Shared → Prop}
    (hC : h.get? C = some (excClassObj nm q C N bs bm hdct sn sub ab col dd k0 k1 k2 k3 k5 "ValueError.__new__")) (he : h.get? e = some (excO C t0)) (hu : h.get? u = some (kxs_mw "ValueError.__init__" e)) (hrest : rest.length ≤ sizeLine)
    (hq : ∀ h' t1, (∀ b o, b ≠ e → h.get? b = some o → h'.get? b = some o) → h'.get? e = some (excO C t1) → Q .none ⟨h', g, d, t, os⟩) :
    wpAny (model prog w) A (call (.ref u) rest) Q E ⟨h, g, d, t, os⟩ := by
  refine wpAny_call (codeAny_of_tree ?_)
  show wpAny _ A.in1 (callAny (.ref u) ⟨rest, []⟩) _ _ _
  simp only [callAny]
  refine wpAny_bind (wpAny_load hu ?_)
  simp only [kxs_mw, show (Value.type "method-wrapper" == Value.type "method" || Value.type "method-wrapper" == Value.type "builtin_function_or_method" || Value.type "method-wrapper" == Value.type "method-wrapper") = true by decide, if_true]
  refine KFB.if_so (by decide) ?_
  refine wpAny_bind (check_bound_init F.excBase_ValueError.toExcCallFacts hC he rfl ?_)
  refine wpAny_bind (wpAny_pure (wpAny_pure ?_))
  refine ⟨plainId_quiet F.excBase_ValueError.init.plain _, codeAny_builtin F.excBase_ValueError.initEntry ?_⟩
  exact exc_init_tree (cls := .ref C) (t0 := t0) (dv := none) (c2 := .none) (c3 := .none) (b4 := .bool false) he hrest fun h' k e1 _ => hq h' _ k e1
end
/-- what __init__ leaves of a fresh error at x -/
structure XEnd (h h' : Heap) (x C dx t1 : Addr) (fld : Str) (v : Value) : Prop where
  keep : ∀ b o, b ≠ x → h.get? b = some o → h'.get? b = some o
  obj : h'.get? x = some { cls := .ref C, dict := some dx, data := .fields #[.ref t1, .none, .none, .none, .bool false, .none] }
  dbig : h.objs.size ≤ dx
  dne : dx ≠ x
  ns : h'.Ns1 dx (fun y => if y = fld then some v else none)
theorem one_size (v : Value) : [v].length ≤ sizeLine := by
  rw [sizeLine_eq]
  exact (by decide : 1 ≤ 16777216)
section
variable {prog : Program} {w : World} {A : Around} {E : Value → Shared → Prop} {R : Result → Shared → Prop} {s : Shared} {K : Frag} {mg : Str → Option Value} {C fI : Addr} {nm fld : Str}
theorem lk1 {par : Str} (h1 : (par == ("super" : Str)) = false) : (xS par).names.lookup ("super" : Str) = some .globalImplicit := by
  have h1' : (("super" : Str) == par) = false := by rw [beq_eq_false_iff_ne] at *; exact fun z => h1 z.symm
  simp only [xS, List.lookup_cons]
  rw [show ((("super" : Str)) == PySem.Str.ofString "self") = false from by decide, h1']
  rfl
theorem lk2 {par : Str} (h1 : (par == ("__class__" : Str)) = false) : (xS par).names.lookup ("__class__" : Str) = some .free := by
  have h1' : (("__class__" : Str) == par) = false := by rw [beq_eq_false_iff_ne] at *; exact fun z => h1 z.symm
  simp only [xS, List.lookup_cons]
  rw [show ((("__class__" : Str)) == PySem.Str.ofString "self") = false from by decide, h1']
  rfl
theorem lk3 {par : Str} : (xS par).names.lookup ("self" : Str) = some .local := by
  simp only [xS, List.lookup_cons]
  rfl
theorem lk4 {par : Str} (h1 : (par == ("self" : Str)) = false) : (xS par).names.lookup par = some .local := by
  simp only [xS, List.lookup_cons]
  have e : (par == PySem.Str.ofString "self") = false := h1
  rw [e, beq_self_eq_true]
theorem bl1 {par : Str} {a b : Value} (h1 : (par == ("self" : Str)) = false) : ([(("self" : Str), a), (par, b)] : List (Str × Value)).reverse.lookup ("self" : Str) = some a := by
  have h1' : (("self" : Str) == par) = false := by rw [beq_eq_false_iff_ne] at *; exact fun z => h1 z.symm
  show List.lookup ("self" : Str) [(par, b), (("self" : Str), a)] = some a
  rw [List.lookup_cons, h1', List.lookup_cons, beq_self_eq_true]
theorem bl2 {par : Str} {a b : Value} : ([(("self" : Str), a), (par, b)] : List (Str × Value)).reverse.lookup par = some b := by
  show List.lookup par [(par, b), (("self" : Str), a)] = some b
  rw [List.lookup_cons, beq_self_eq_true]
theorem xinit (T : XcT prog K mg nm C fI fld) {x t0 : Addr} {v : Value} {mb : Str → Option Value} (X : K.In s.heap) (hlim : s.heap.NoLimit) (hg : s.heap.Ns mainGlobals mg) (hb : s.heap.Ns builtinsNs mb) (hbv : mb "super" = some (.type "super"))
    (hx : s.heap.get? x = some (excO C t0)) (hnx : K.lookup x = none) (hroom : A.depth < recursionLimit)
    (hq : ∀ h' tk dx t1, XEnd s.heap h' x C dx t1 fld v → R (.ok (.ret .none)) { s with heap := h', toks := tk }) :
    codeAny (model prog w) A (.call (.ref fI) ⟨[.ref x, v], []⟩) R s := by
  obtain ⟨oc, od, doc, pm, an, cda, cc, ct, osl, txt, par, q, p1, p2, a1, a2, a3, a4, a5, a6, b1, b2, b3, b4, ho, hcd, ⟨ccl, cdd, vs, ccs, file, tf, hcode, hvs, hfile⟩, ⟨cl, cld, csl, hcell⟩, hbind, hpos, n1, n2, n3, n4⟩ := T.fn
  obtain ⟨nm', q', N, bs, bm, sn, sub, ab, col, dd, k0, k1, k2, k3, k5, hC, hbm⟩ := T.cls
  have hcl : clsIn K C = some { name := nm', bases := bs, mro := .ref C :: bm, ns := N, qualname := q', hasDict := true, slotNames := sn, subclasses := sub, abstract := ab, collection := col, hasDel := false } := by unfold clsIn; rw [hC] <;> rfl
  refine ks_codeAny_call_defAt (fd := ksFn "__init__" q (xA par p1 p2) (xB txt fld par a1 a2 a3 a4 a5 a6 b1 b2 b3 b4) (xS par) .none .none doc pm an (.ref cda) ct cc) (body := xB txt fld par a1 a2 a3 a4 a5 a6 b1 b2 b3 b4) (binds := [("self", .ref x), (par, v)])
    hroom (X _ _ ho) rfl hlim (codeRec_of X hcd) rfl (hbind s (.ref x) v) ?_ ?_ (fun h₁ hns k₁ => ?_)
  · intro y hy
    simp only [ksFn, fnX, xS, List.mem_cons, List.not_mem_nil, or_false] at hy
    rcases hy with rfl | rfl | rfl | rfl <;> intro z <;> cases z
  · intro y hy
    simp only [List.mem_cons, List.not_mem_nil, or_false] at hy
    rcases hy with rfl | rfl
    · exact lk3
    · exact lk4 n1
  · have X₁ : K.In h₁ := X.keeps k₁
    have hx₁ := k₁ _ _ hx
    refine ks_wpAt_execs_cons (ks_wpAt_Expr_any (ks_wpAt_MethodCall ?_ (xcall_eq _ _ _ _ _ _ _ hpos)))
    refine ks_wpAt_super_base (env := ksEnv q (xS par) s.heap.objs.size fI (.ref cda) cc) (lk1 n3) (lk2 n2) (by decide) rfl (X₁ _ _ ho) rfl (ar := { arg := "self", annotation := none, pos := p1 }) rfl rfl (X₁ _ _ hcode) rfl hvs hfile T.top ?_
    refine ks_loadName_global rfl (lk1 n3) (loadGlobal_builtin (env := ksEnv q (xS par) s.heap.objs.size fI (.ref cda) cc) (hg.keeps k₁) T.noS (hb.keeps k₁) hbv ⟨rfl, ?_⟩)
    refine wpAny_loadName_free rfl (lk2 n2) rfl ⟨_, X₁ _ _ hcell, rfl⟩ ?_
    refine wpAny_loadName_local rfl lk3 hns (v := .ref x) ?_ ?_
    · exact bl1 n1
    have hD : h₁.get? C = some _ := X₁ _ _ hC
    refine ks_wpAny_isType_cls hD rfl ⟨rfl, ?_⟩
    refine ks_wpAny_call_super hD rfl hx₁ rfl (fun c z => nomatch z) (looks_mroIn X₁ T.selfC) (fun h₂ hso k₂ => ?_)
    have X₂ : K.In h₂ := X₁.keeps k₂
    have hx₂ := k₂ _ _ hx₁
    have I₂ : InstAt h₂ x (excO C t0) C none := ⟨hx₂, rfl, rfl, trivial⟩
    have hI : Looks (model prog w) h₂ (isInstance (.ref x) (.type "ValueError")) true := I₂.type.andThen (looks_subIn X₂ T.subV)
    have hsup := T.sup
    unfold ks_superIn at hsup
    rw [hcl] at hsup
    refine kxs_getMethod kxs_ValueError hso (looks_opaque X₂ T.opq) (l₀ := .ref C :: bm) ?_ rfl X₂ hsup hI (ks_ne X₂ I₂ hcl) (by decide) ?_
    · exact fun A Q E s k q => wpAny_bind ((looks_clsIn X₂ hcl) A _ E s k (wpAny_pure q))
    have k₃ : ∀ b o, h₂.get? b = some o → (h₂.push (kxs_mw "ValueError.__init__" x)).get? b = some o := fun b o e => Heap.get?_push_of_some _ e
    have hu : (h₂.push (kxs_mw "ValueError.__init__" x)).get? h₂.objs.size = some (kxs_mw "ValueError.__init__" x) := Heap.get?_push_at rfl rfl
    refine kxs_callWith (i := "ValueError.__init__") (x := x) rfl ?_
    refine evalArgs_plain ?_
    refine spliced_more (Calls.Constant_str ?_) rfl
    refine spliced_none ?_
    refine ⟨hu, ?_⟩
    refine xcall_mw (k₃ _ _ (X₂ _ _ hC)) (k₃ _ _ hx₂) hu (one_size _) fun h₄ t1 k₄ hx₄ => ?_
    have kk : ∀ b o, b ≠ x → s.heap.get? b = some o → h₄.get? b = some o := fun b o hb e => k₄ b o hb (k₃ b o (k₂ b o (k₁ b o e)))
    have X₄ : K.In h₄ := fun b o e => k₄ b o (fun z => by rw [z, hnx] at e; cases e) (k₃ b o (X₂ b o e))
    have hxL : s.heap.objs.size ≠ x := Nat.ne_of_gt (Heap.lt_size hx)
    have hns₄ : h₄.Ns s.heap.objs.size (fun y => ([(("self" : Str), Value.ref x), (par, v)] : List (Str × Value)).reverse.lookup y) := by
      obtain ⟨oL, es, ep, hL, r⟩ := hns
      exact ⟨oL, es, ep, k₄ _ _ hxL (k₃ _ _ (k₂ _ _ hL)), r⟩
    refine wpAt_of_wpAny ?_
    refine wpAny_execs_cons (plainObj_wpAny_Assign_Attribute ?_)
    refine wpAny_Name (wpAny_loadName_local rfl (lk4 n1) hns₄ (v := v) bl2 ?_) n4
    refine wpAny_Name (wpAny_loadName_local rfl lk3 hns₄ (v := .ref x) (bl1 n1) ?_) (by decide)
    refine set_plain X₄ (ox := excO C t1) (od := none) ⟨hx₄, rfl, rfl, trivial⟩ T.sa ?_
    refine exc_osa X₄ hx₄ hcl (show refsVE (.ref C :: bm) = true from hbm) rfl T.noN (fun h₃ tk₃ dx k₃' dn dne hx₃ hn₃ => ?_)
    show wpAny _ _ (execs _ _) _ _ _
    have z4 : s.heap.objs.size < h₄.objs.size := hns₄.lt
    exact wpAny_execs_nil (hq h₃ tk₃ dx t1 ⟨fun b o hb e => k₃' b o hb (kk b o hb e), hx₃, Nat.le_of_lt (Nat.lt_of_lt_of_le z4 dn), dne, hn₃⟩)
end
/-- a made error -/
structure XMade (h h' : Heap) (e C d : Addr) (fld : Str) (v : Value) : Prop where
  keep : ∀ b o, h.get? b = some o → h'.get? b = some o
  new : h.objs.size ≤ e
  obj : ∃ oe vs, h'.get? e = some oe ∧ oe.cls = .ref C ∧ oe.dict = some d ∧ oe.data = .fields vs ∧ vs[1]? = some .none ∧ vs[2]? = some .none ∧ 4 < vs.size
  dbig : h.objs.size ≤ d
  dne : d ≠ e
  ns : h'.Ns1 d (fun y => if y = fld then some v else none)
section
variable {prog : Program} {w : World} {A : Around} {E : Value → Shared → Prop} {R : Result → Shared → Prop} {s : Shared} {K : Frag} {mg : Str → Option Value} {C fI : Addr} {nm fld : Str}
theorem xmade (T : XcT prog K mg nm C fI fld) {v : Value} {mb : Str → Option Value} (X : K.In s.heap) (hlim : s.heap.NoLimit) (hg : s.heap.Ns mainGlobals mg) (hb : s.heap.Ns builtinsNs mb) (hbv : mb "super" = some (.type "super")) (hroom : A.depth + 1 < recursionLimit)
    (hq : ∀ h' tk e d, XMade s.heap h' e C d fld v → R (.ok (.ret (.ref e))) { s with heap := h', toks := tk }) :
    codeAny (model prog w) A (.call (.ref C) ⟨[v], []⟩) R s := by
  obtain ⟨nm, q, N, bs, bm, sn, sub, ab, col, dd, k0, k1, k2, k3, k5, hC, hbm⟩ := T.cls
  obtain ⟨hp, g, dr, tk, os⟩ := s
  have k : ∀ b o, hp.get? b = some o → ((hp.push (kdv_tup [v])).push (excO C hp.objs.size)).get? b = some o := fun b o e => Heap.get?_push_of_some _ (Heap.get?_push_of_some _ e)
  have hget : ((hp.push (kdv_tup [v])).push (excO C hp.objs.size)).get? (hp.objs.size + 1) = some (excO C hp.objs.size) := by heap_get
  have hnx : K.lookup (hp.objs.size + 1) = none := by
    cases e : K.lookup (hp.objs.size + 1) with
    | none => rfl
    | some o =>
      have z : hp.get? (hp.objs.size + 1) = some o := X _ _ e
      exact absurd (Nat.lt_of_succ_lt (Heap.lt_size z)) (Nat.lt_irrefl _)
  refine call_own F.excBase_ValueError (fun X => refsVE_contains X bm hbm) (X _ _ hC) (looks_findIn X T.iC) (fun self => bind_fn X self T.tC) (one_size v) ?_
  refine xinit (s := ⟨(hp.push (kdv_tup [v])).push (excO C hp.objs.size), g, dr, tk, os⟩) T (X.keeps k) (hlim.keeps k) (hg.keeps k) (hb.keeps k) hbv hget hnx ?_ fun h' tk' dx t1 ⟨k', hx, dn, dne, hns⟩ => ?_
  · show A.depth + 1 < recursionLimit
    exact hroom
  · have old : ∀ b o, hp.get? b = some o → h'.get? b = some o := fun b o e => k' b o (Nat.ne_of_lt (Nat.lt_succ_of_lt (Heap.lt_size e))) (k b o e)
    have z : hp.objs.size + 1 + 1 ≤ dx := by
      first
        | (simpa only [Heap.size_push] using dn)
        | exact dn
        | (have q := dn; rw [Heap.size_push, Heap.size_push] at q; exact q)
    exact ⟨rfl, hq h' tk' (hp.objs.size + 1) dx ⟨old, Nat.le_succ _, ⟨_, _, hx, rfl, rfl, rfl, rfl, rfl, by show 4 < 6; decide⟩, Nat.le_trans (Nat.le_trans (Nat.le_succ _) (Nat.le_succ _)) z, dne, hns⟩⟩
end
end DL
namespace DL
open PySem PySem.Spec PyProof.Rows L2
theorem relO_x {v : V} {v' : Value} (r : RelV v v') (fld f : Str) : RelO (List.lookup f [(fld, v)]) (if f = fld then some v' else none) := by
  by_cases hw : f = fld
  · subst hw
    rw [if_pos rfl]
    have q : List.lookup f [(f, v)] = some v := by simp [List.lookup]
    rw [q]
    exact r
  · rw [if_neg hw]
    have qw : (f == fld) = false := by simpa using hw
    have q2 : List.lookup f [(fld, v)] = none := by simp [List.lookup, qw]
    rw [q2]
    trivial
section
variable {X : Cx} {C fI : Addr} {nm fld : Str}
/-- Own(e) -/
def tMkX (C : Addr) (fld : Str) (ta : TA) : L2.St → Hp → XK → Prop := fun σ H Q => ta σ H fun vs H1 => ∃ v, vs = [v] ∧ ∀ d, H1 d = none → Q (.ref C) (some d) (upd H1 d (.xd [(fld, v)]))
theorem pmk_x {a : Expr} {ta : TA} {p pos : Pos} {k : Nat} (T : XcT X.prog X.K X.mg nm C fI fld) (hr : Room (k + 1) X.A) (ha : PA X [a] ta) (hg : Gl X nm) (hdb : (nm == ("__debug__" : Str)) = false := by decide)
    (he : starEach (a :: []) X.env = (false, eval a X.env) :: starEach [] X.env := by rfl) (hpl : (backTo pos (starEach [] X.env)).any (·.1) = false := by rfl) :
    L2H.PMk5 X (.Call (.Name nm p) [a] [] pos) (tMkX C fld ta) := by
  intro pins s σ H Q I h
  refine wpAny_Call_Name_kw (ld_glob I hg T.gC ?_ hdb)
  refine PySem.W.callWith_K (h₀ := X.base) I.ok.mod.kin T.kC (thn (ha.run pos pins s σ H _ I h) fun us s1 hh => ?_) he hpl
  obtain ⟨vs, H1, I1, r1, v, ev, q1⟩ := hh
  subst ev
  refine ⟨I1.kIn, ?_⟩
  cases r1 with
  | cons rv rn =>
    rename_i v' us'
    cases rn
    show wpAny _ _ (call (.ref C) [v']) _ _ _
    have hlim := I1.nolimit
    have hgl := I1.mod.glob.keeps I1.bk
    obtain ⟨mb, hb1, hb2⟩ := I1.mod.blt
    have hbl := hb1.keeps I1.bk
    obtain ⟨hp, g, dr, tk, os⟩ := s1
    refine wpAny_call (xmade T I1.kIn hlim hgl hbl ((hb2 _ (by decide)).trans (by first | boot_by_name | rfl | kernel_rfl)) (by have := hr.dp; omega) fun h' tk' e d M => ?_)
    show L2N.MkP X pins σ Q (.ref e) ⟨h', g, dr, tk', os⟩ ∧ L2H.Six (.ref e) ⟨h', g, dr, tk', os⟩
    obtain ⟨oe, fv, hoe, hc, hd, hdat, h1, h2, h5⟩ := M.obj
    refine ⟨?_, fun a' oe' vs' ea hg hd' => by
      cases ea
      have hg' : h'.get? e = some oe' := hg
      rw [hoe] at hg'
      cases hg'
      rw [hdat] at hd'
      cases hd'
      exact h5⟩
    have hns := M.ns
    obtain ⟨G', g1, g2⟩ := restrict h' fun b => decide (b ≠ e)
    have gk : ∀ b, b ≠ e → G'.get? b = h'.get? b := fun b hb => g1 b (decide_eq_true hb)
    have ge : G'.get? e = none := g2 e (by simp)
    have old : ∀ b o, hp.get? b = some o → G'.get? b = some o := fun b o q => (gk b (Nat.ne_of_lt (Nat.lt_of_lt_of_le (Heap.lt_size q) M.new))).trans (M.keep b o q)
    have ob : ObjOk X.prog X.w (upd H1 d (.xd [(fld, v)])) G' d (.xd [(fld, v)]) :=
      ⟨_, hns.at (fun o q => (gk d M.dne).trans q), fun f => relO_x rv fld f⟩
    have J : Inv X pins σ (upd H1 d (.xd [(fld, v)])) ⟨G', g, dr, tk', os⟩ := I1.laid (t' := tk') old M.dbig ob
    refine ⟨e, oe, fv, ⟨G', g, dr, tk', os⟩, _, .ref C, some d, rfl, J, fun b o q => ?_, ge, hoe, ⟨hc, hd, fun vs' hv => by rw [hdat] at hv; cases hv; exact h2⟩, hdat, h1, ?_, rfl, I1.bare, raises_own T.exC T.tyC, q1 d (I1.hok.fresh M.dbig)⟩
    · by_cases hb : b = e
      · have q' : G'.get? b = some o := q
        rw [hb, ge] at q'; cases q'
      · exact (gk b hb).symm.trans q
    · rw [upd_ne (Ne.symm M.dne)]
      exact I1.hok.fresh M.new
end
end DL

/-! isinstance of a caught error that has its own dict. -/
namespace PySem.W
open PySem PySem.Spec PySem.Calls PyProof.Rows
section
variable {prog : Program} {w : World} {A : Around} {E : Value → Shared → Prop} {s : Shared} {K : Frag} {x D : Addr} {ox : Obj} {od : Option Obj}
theorem kin_classD {Q : Option Value → Shared → Prop} (C : L2.ExcC K D) (X : K.In s.heap) (I : InstAt s.heap x ox D od) (h : Q (some (.ref D)) { s with toks := s.toks + 1 }) : wpAny (model prog w) A (getAttr? (.ref x) "__class__") Q E s := by
  have hf : findObj K D od "__class__" = some (.bind (.builtin "getset_descriptor.__get__") (.builtin "object.__class__")) := by
    have q : (clsIn K D).isSome = true := by obtain ⟨cd, hc, _⟩ := any_some C.hd; rw [hc]; rfl
    cases od with
    | none => exact findObj_dataN q C.ha C.hn C.ht
    | some o => exact findObj_data q C.ha C.hn C.ht
  obtain ⟨hp, g, d, t, os⟩ := s
  have L0 := I.type (M := model prog w)
  have L1 := looks_findIn (M := model prog w) X C.hg
  have L2 := looks_findIn (M := model prog w) X C.hk
  have L3 := looks_find (M := model prog w) X I hf
  have sub : Looks (model prog w) hp (isInstance (.ref x) (.type "BaseException")) true := L0.andThen (looks_subIn X C.hs)
  have hx0 : (false && onTheHeap (Value.builtin "BaseException.__getattribute__")) = false := rfl
  have hx2 : (Value.builtin "BaseException.__getattribute__" == Value.builtin "object.__getattribute__") = false := by decide +kernel
  have hx1 : (onTheHeap (Value.ref D) && Value.builtin "BaseException.__getattribute__" == Value.builtin "object.__getattribute__") = false := by rw [hx2]; rfl
  unfold getAttr? getAttrBy? getAttrBy
  refine wpAny_bind (wpAny_mkText (wpAny_bind (wpAny_attempt (wpAny_holding (wpAny_bind (L0.at (wpAny_bind (L1.at ?_))))))))
  show wpAny _ _ (if (onTheHeap (Value.ref D) && Value.builtin "BaseException.__getattribute__" == Value.builtin "object.__getattribute__") = true then _ else _) _ _ _
  rw [hx1, if_neg Bool.false_ne_true]
  unfold getAttrByItsOwn hookBefore
  refine wpAny_bind ?_
  rw [if_pos (show onTheHeap (Value.ref D) = true from rfl)]
  refine L2.at ?_
  refine wpAny_bind (wpAny_attempt (wpAny_holding ?_))
  unfold callGetattribute
  rw [hx0, if_neg Bool.false_ne_true]
  unfold boundAndCalled
  rw [PySem.F.excAttr_ValueError.ga.bind (.ref x)]
  refine wpAny_bind (wpAny_pure ?_)
  show wpAny _ _ (call (.builtin "BaseException.__getattribute__") [.ref x, .str "__class__" t]) _ _ _
  refine wpAny_call (codeAny_call_builtin PySem.F.excAttr_ValueError.ga.plain PySem.F.entry_bexc_ga ?_)
  refine @check_slot (model prog w) _ _ ⟨hp, g, d, t + 1, os⟩ "BaseException.__getattribute__" "BaseException" "__getattribute__" (.ref x) [.str "__class__" t] [] _ (by decide +kernel) (by decide +kernel) sub (PySem.F.args_bexc_ga (.ref x) (.str "__class__" t)) ?_
  unfold Builtin.«object.__getattribute__»
  refine wpAny_bind (wpAny_of_eq (a := ((Value.ref x : Value), [Value.str "__class__" t])) (by first | rfl | (simp only [slotArgs]; rfl)) ?_)
  refine wpAny_bind (wpAny_pure (wpAny_bind (L0.at (wpAny_bind (L3.at ?_)))))
  show wpAny _ _ (holding [Value.builtin "object.__class__"] (call (.builtin "getset_descriptor.__get__") [.builtin "object.__class__", .ref x, .ref D]) >>= ret) _ _ _
  refine wpAny_bind (wpAny_holding (wpAny_call (class_get (s := ⟨hp, g, d, t + 1, os⟩) (ox := ox) (od := od) X I C.hm ?_)))
  refine wpAny_pure ?_
  show wpAny _ _ (handedOut (.ref D)) _ _ _
  rw [handedOut_of (v := .ref D) rfl]
  first
    | exact wpAny_pure (wpAny_pure h)
    | exact wpAny_pure h
    | exact wpAny_pure (wpAny_bind (wpAny_pure (wpAny_pure h)))
theorem kitx_excD (C : L2.ExcC K D) : KitX K (.ref x) (.ref D) (fun h => ∃ od, InstAt h x ox D od) where
  ty := fun _ _ _ ⟨_, I⟩ => I.type
  it := fun _ _ X _ => by
    obtain ⟨cdD, hcD, _⟩ := any_some C.hd
    unfold clsIn at hcD
    split at hcD
    · rename_i c' d' cd' sl' ho
      intro A' Q' E' s' k q
      unfold isType loadHead
      exact wpAny_bind (wpAny_loadPart (k _ _ (X _ _ ho)) (wpAny_pure q))
    · cases hcD
  ne := fun h tp dd its n sl X htp => by
    obtain ⟨cdD, hcD, _⟩ := any_some C.hd
    refine Bool.eq_false_iff.mpr fun q => ?_
    have e : D = tp := Value.ref.inj (beq_iff_eq.mp q)
    subst e
    unfold clsIn at hcD
    split at hcD
    · rename_i c' d' cd' sl' ho
      have z := (X _ _ ho).symm.trans htp
      cases z
    · cases hcD
  ca := fun X ⟨_, I⟩ k => kin_classD C X I k
end
end PySem.W
namespace L2
open PySem PySem.Spec PyProof.Rows
/-- the error's own dict lies there -/
def XAt (H : Hp) (d : Option Addr) : Prop := match d with
  | none => True
  | some dd => ∃ fs, H dd = some (.xd fs)
def rIsX (K : PySem.W.Frag) (D a : Addr) (d : Option Addr) : List V → Hp → VK → Prop := fun xs H Q => ∃ (c : V) (cv : Value) (b : Bool), xs = [.ref a, c] ∧ ClsV c cv ∧ XAt H d ∧ PySem.W.kitOne K (.ref D) cv = some b ∧ Q (.bl b) H
section
variable {X : Cx} {a D : Addr} {d : Option Addr} {oe : Obj} {pn : List (Addr × Obj)} {pins : List (Addr × Obj)} {σ : St} {H : Hp} {s : Shared}
theorem instX (hz : Zc (.ref D) d oe) (hf : ∃ vs, oe.data = .fields vs) (I : Inv (X.suite a ((a, oe) :: pn)) pins σ H s) (hd : XAt H d) : ∃ od, PySem.W.InstAt s.heap a oe D od := by
  obtain ⟨hget, _⟩ := I.pin (a, oe) (List.mem_append.mpr (.inl List.mem_cons_self))
  obtain ⟨vs, hv⟩ := hf
  cases d with
  | none => exact ⟨none, hget, hz.1, by unfold PySem.W.notCls; rw [hv] <;> rfl, by rw [hz.2]; trivial⟩
  | some dd =>
    obtain ⟨fs, ea⟩ := hd
    have hx : ObjOk X.prog X.w H s.heap dd (.xd fs) := I.hok dd _ ea
    obtain ⟨mA, hns, hr⟩ := hx
    obtain ⟨od, ho, hl⟩ := lookIn_ns hns
    exact ⟨some od, hget, hz.1, by unfold PySem.W.notCls; rw [hv] <;> rfl, by rw [hz.2]; exact ho⟩
theorem call_isX (C : ExcC X.K D) (hz : Zc (.ref D) d oe) (hf : ∃ vs, oe.data = .fields vs) : CallR (X.suite a ((a, oe) :: pn)) (.builtin "isinstance") (rIsX X.K D a d) := by
  intro pins s σ H xs us Q I r h
  obtain ⟨c, cv, b, rfl, hcv, hd, e, q⟩ := h
  cases r with
  | cons rx rr =>
    cases rr with
    | cons rt rr =>
      cases rr
      cases rx
      have ec := hcv.eq rt
      subst ec
      exact PySem.W.kia_one (PySem.W.kitx_excD C) I.kIn (instX hz hf I hd) e (fun z => nomatch z) fun tk => ⟨.bl b, H, I.kept (t' := tk) fun _ _ z => z, rfl, q⟩
end
end L2

/-! Defs that raise, told over data; raise; calls of such defs. -/
namespace DL
open PySem PySem.Spec L2 PyProof.Rows
/-- a raising def's promise over data: the wanted end, the wanted error (its class, its one field or none, the lent things) -/
abbrev SpX := SL → (Rv → SL → Prop) → WXD → Prop
def liftX (K : PySem.W.Frag) (sp : SpX) : Sp := fun vs H Q E => ∃ (b : Nat → Option Addr) (F : Hp) (as : SL) (Qd : Rv → SL → Prop) (Ed : WXD), Rep K ⟨b, fun _ => False, H, F⟩ (vs.map some) H F as ∧ sp as Qd Ed ∧
  (∀ r outs σ' v H' F', Qd r outs → Rep K ⟨b, fun _ => False, H, F⟩ σ' H' F' outs → RDen K ⟨b, fun _ => False, H, F⟩ σ' outs H' F' v r → Q v H') ∧
  ∀ C o outs σ' dd H' F', Ed C o outs → Rep K ⟨b, fun _ => False, H, F⟩ σ' H' F' outs → XDen K F' o dd → E (.ref C) dd H'
/-- the wish over data is the context's -/
def LinkW (X : Cx) (G : Cd) (Wd : WXD) : Prop := ∀ σ H F ρ C o dd, Wd C o ρ → Rep X.K G σ H F ρ → XDen X.K F o dd → wOf X (.ref C) dd σ H
/-- an expression that may raise -/
structure DEX (X : Cx) (e : Expr) (te : TE) (t : WXD → TD) : Prop where
  pe : PE X e te
  sem : ∀ {G : Cd} {σ : L2.St} {H F : Hp} {ρ : SL} {Q : VK} {Qd : Rv → SL → Prop} {Wd : WXD}, Rep X.K G σ H F ρ → t Wd ρ Qd → LinkW X G Wd →
    (∀ r ρ' v H' F', Qd r ρ' → Same F F' → Rep X.K G σ H' F' ρ' → RDen X.K G σ ρ' H' F' v r → Q v H') → te σ H Q
theorem LinkW.at {X : Cx} {G : Cd} {Wd : WXD} {σ : L2.St} {H F : Hp} {ρ : SL} (L : LinkW X G Wd) (R : Rep X.K G σ H F ρ) : LinkW X (G.at F) Wd :=
  fun _ _ _ _ _ _ _ q R' xd => L _ _ _ _ _ _ _ q (R.unbase R') xd
section
variable {X : Cx}
/-! ### raise -/
def sRaise (C : Addr) (fld : Str) (t : TD) : TSD := fun E ρ => t ρ fun r ρ1 => E.xc C (some (fld, r.dat)) ρ1
theorem ds_raise {C fI : Addr} {nm fld : Str} {a : Expr} {te : TE} {t : TD} {p pos pos2 : Pos} {k : Nat} (hc : X.calm = true) (T : XcT X.prog X.K X.mg nm C fI fld) (hr : Room (k + 1) X.A) (ha : DE X a te t) (hg : Gl X nm) (hdb : (nm == ("__debug__" : Str)) = false := by decide)
    (hs : starEach (a :: []) X.env = (false, eval a X.env) :: starEach [] X.env := by rfl)
    (he : starEach (a :: []) X.env = (false, eval a X.env) :: starEach [] X.env := by rfl) (hpl : (backTo pos (starEach [] X.env)).any (·.1) = false := by rfl) :
    DS X (.Raise (some (.Call (.Name nm p) [a] [] pos)) none pos2) (fun _ σ H => tMkX C fld (tCons te tNil) σ H fun cls d H' => wOf X cls d σ H') (sRaise C fld t) := by
  refine ⟨L2N.ps_raise hc (takes_wOf X) (pmk_x T hr (pa_cons ha.pe pa_nil hs) hg hdb he hpl).pmk, fun {G σ H F ρ D E} R q L => ?_⟩
  refine ha.sem R q fun r ρ1 v H1 F1 q1 s1 R1 rd => ?_
  refine ⟨v, rfl, fun dd hd => ?_⟩
  obtain ⟨F2, s2, R2, d2⟩ := R1.share rd
  obtain ⟨s3, R3⟩ := R2.alloc (o := .xd [(fld, v)]) hd
  exact L.xc _ _ _ _ C (some (fld, r.dat)) (some dd) q1 R3 ⟨dd, v, rfl, upd_same, d2.mono s3⟩
/-! ### calls -/
theorem Rep.afterCall {K : PySem.W.Frag} {G : Cd} {σ : L2.St} {H F : Hp} {ρ : SL} (R : Rep K G σ H F ρ) {vs : List V} {os : List AOp} {sl outs : SL} {σ' : L2.St} {H' F' : Hp} {ρ2 : SL} (d : ADens K F σ vs os) (hm : mkArgs ρ 0 os = some sl) (hn : (bors os).Nodup)
    (hb : giveB ρ 0 (wipeD ρ (bors os)) os outs = some ρ2) (R' : Rep K ⟨bOf' σ os, fun _ => False, H, F⟩ σ' H' F' outs) : Rep K G σ H' F' ρ2 := by
  have RB := R.behind d hm R'
  have own : ∀ (k i : Nat), os[k]? = some (.bor i) → ∃ s c, ρ[i]? = some s ∧ s.cn = some c := fun k i e => by
    obtain ⟨l1, g1⟩ := mkArgs_get hm
    have hj : k < os.length := (List.getElem?_eq_some_iff.mp e).1
    rw [← l1] at hj
    rcases g1 k _ (List.getElem?_eq_getElem hj) with ⟨d', z1, z⟩ | ⟨i', s', c', z1, z2, z3, z4⟩
    · rw [e] at z1; cases z1
    · rw [e] at z1; cases z1
      exact ⟨s', c', z2, z3⟩
  exact R.gives R' (j := 0) hb (fun k s e => by rw [Nat.zero_add]; exact e) (fun k i p e1 e2 => by
    rw [Nat.zero_add] at e2
    unfold bOf' at e2
    rw [e1] at e2
    simp only at e2
    split at e2
    · rename_i q hq
      cases e2; exact hq
    · cases e2) own hn RB (fun k s c e hc => by
      rcases wipeD_get e with z | ⟨z, w⟩
      · subst z; cases hc
      · exact ⟨w, s, c, z, hc⟩) fun k hs e => by
      rcases wipeD_get e with z | ⟨z, _⟩
      · cases z
      · exact z
theorem Rep.afterVal {K : PySem.W.Frag} {G : Cd} {σ : L2.St} {H F : Hp} {ρ : SL} (R : Rep K G σ H F ρ) {vs : List V} {os : List AOp} {sl outs : SL} {σ' : L2.St} {H' F' : Hp} {ρ2 : SL} {v : V} {r : Rv} (d : ADens K F σ vs os) (hm : mkArgs ρ 0 os = some sl) (hn : (bors os).Nodup)
    (hb : giveB ρ 0 (wipeD ρ (bors os)) os outs = some ρ2) (rd : RDen K ⟨bOf' σ os, fun _ => False, H, F⟩ σ' outs H' F' v r) : RDen K G σ ρ2 H' F' v r := by
  have own : ∀ (k i : Nat), os[k]? = some (.bor i) → ∃ s c, ρ[i]? = some s ∧ s.cn = some c := fun k i e => by
    obtain ⟨l1, g1⟩ := mkArgs_get hm
    have hj : k < os.length := (List.getElem?_eq_some_iff.mp e).1
    rw [← l1] at hj
    rcases g1 k _ (List.getElem?_eq_getElem hj) with ⟨d', z1, z⟩ | ⟨i', s', c', z1, z2, z3, z4⟩
    · rw [e] at z1; cases z1
    · rw [e] at z1; cases z1
      exact ⟨s', c', z2, z3⟩
  have lone : ∀ p, H p = none → Lone σ ρ2 p := fun p hpn => by
    refine ⟨fun i s c' e1 e2 e3 => ?_, fun i hs c' e1 m => ?_⟩
    · obtain ⟨c2, z⟩ := giveB_owned hb i s c' e1 e2
      have : ∃ s0 c0, ρ[i]? = some s0 ∧ s0.cn = some c0 := by
        rcases z with z | ⟨s0, z1, z2⟩
        · rcases wipeD_get z with w | ⟨w, _⟩
          · subst w; cases e2
          · exact ⟨s, c', w, e2⟩
        · subst z2
          obtain ⟨c0, h0⟩ := Sl.cn_with e2
          exact ⟨s0, c0, z1, h0⟩
      obtain ⟨s0, c0, z1, z2⟩ := this
      obtain ⟨p', b1, b2, _⟩ := R.owned z1 z2
      rw [e3] at b1; cases b1
      obtain ⟨o, ho⟩ := b2.ex
      rw [hpn] at ho; cases ho
    · have e2 := giveB_pl hb (fun i2 m2 => by
        obtain ⟨k2, ek⟩ := bors_get m2
        exact own k2 i2 ek) i hs e1
      rcases wipeD_get e2 with z | ⟨z, _⟩
      · cases z
      · obtain ⟨a, _⟩ := R.pl.has i hs p c' z m
        obtain ⟨o, ho⟩ := a.ex
        rw [hpn] at ho; cases ho
  have fresh : ∀ p, (H p = none ∨ False) → H p = none := fun p z => z.elim id False.elim
  cases r with
  | v d => exact rd
  | fr c =>
    obtain ⟨p, e, a1, a2, a3, a4⟩ := rd
    have hpn := fresh p a3
    exact ⟨p, e, a1, a2, .inl (R.fresh hpn).2, lone p hpn⟩
  | pt d hs =>
    obtain ⟨g1, g2, g3⟩ := rd
    refine ⟨g1, g2, fun p c m => ?_⟩
    obtain ⟨a1, a2, a3, _⟩ := g3 p c m
    have hpn := fresh p a3
    exact ⟨a1, a2, .inl (R.fresh hpn).2, lone p hpn⟩
/-- a raising call's reading, whatever calls -/
theorem sem_argsX {sp : SpX} {vs : List V} {os : List AOp} {G : Cd} {σ : L2.St} {H F : Hp} {ρ : SL} {Q : VK} {Qd : Rv → SL → Prop} {Wd : WXD} (R : Rep X.K G σ H F ρ) (d : ADens X.K F σ vs os)
    (q : ∃ sl, mkArgs ρ 0 os = some sl ∧ (bors os).Nodup ∧ sp sl (fun r outs => ∃ ρ2, giveB ρ 0 (wipeD ρ (bors os)) os outs = some ρ2 ∧ Qd r ρ2) fun C o outs => ∃ ρ2, giveB ρ 0 (wipeD ρ (bors os)) os outs = some ρ2 ∧ Wd C o ρ2)
    (L : LinkW X G Wd) (k : ∀ r ρ' v H' F', Qd r ρ' → Same F F' → Rep X.K G σ H' F' ρ' → RDen X.K G σ ρ' H' F' v r → Q v H') : liftX X.K sp vs H Q (WE (wOf X) σ) := by
  obtain ⟨sl, hm, hn, q⟩ := q
  refine ⟨bOf' σ os, F, sl, _, _, R.toCall d hm hn, q, fun r outs σ' v H' F' ⟨ρ2, hb, qd⟩ R' rd => ?_, fun C o outs σ' dd H' F' ⟨ρ2, hb, qd⟩ R' xd => L _ _ _ _ _ _ _ qd (R.afterCall d hm hn hb R') xd⟩
  exact k r ρ2 v H' F' qd R'.fr0 (R.afterCall d hm hn hb R') (R.afterVal d hm hn hb rd)
def dCallX (sp : SpX) (t : TAg) : WXD → TD := fun Wd ρ Q => t ρ fun os ρ1 => ∃ sl, mkArgs ρ1 0 os = some sl ∧ (bors os).Nodup ∧ sp sl (fun r outs => ∃ ρ2, giveB ρ1 0 (wipeD ρ1 (bors os)) os outs = some ρ2 ∧ Q r ρ2) fun C o outs => ∃ ρ2, giveB ρ1 0 (wipeD ρ1 (bors os)) os outs = some ρ2 ∧ Wd C o ρ2
end
/-! ### calls that only look -/
section
variable {K : PySem.W.Frag} {G : Cd} {σ : L2.St} {H F F' : Hp} {ρ : SL}
end
section
variable {X : Cx}
/-! ### expressions around such a call -/
/-! ### statements -/
theorem ds_retX {e : Expr} {te : TE} {t : WXD → TD} {pos : Pos} (h : DEX X e te t) : DS X (.Return (some e) pos) (tRet te) (fun E ρ => t E.xc ρ E.rt) :=
  ⟨ps_ret h.pe, fun R q L => h.sem R q L.xc fun r ρ' v H' F' qd s1 R1 rd => L.rt _ _ _ _ _ _ qd R1 rd⟩
end
/-! ### a raising def's body keeps its promise -/
open PySem.Spec PyProof.Rows in
theorem fnX {P : Program} {w : World} {K : PySem.W.Frag} {mg : Str → Option Value} {base : Heap} {x qual : Str} {st : Stmt} {f : Addr} {fd : FuncData} {N ps : List Str} {k : Nat} {sp : SpX} (Fn : Fun K x qual st f fd) (S : FnScope N ps (defScope st))
    (len : ∀ as Q E, sp as Q E → as.length = ps.length)
    (hbody : ∀ (cdv : Value) (A : Around) (outer : List Env) (s : Shared) (H : Hp) (E : XK), (A.deeper (PyProof.Rows.envOfC qual (defScope st) s.heap.objs.size f cdv)).guards = some [] → Room k (A.deeper (PyProof.Rows.envOfC qual (defScope st) s.heap.objs.size f cdv)) →
      ∃ ts t, DSs (cxOf (L2N.CX P w) P w K mg base N qual (defScope st) f cdv A outer s H E) (defBody st) ts t ∧
        ∀ as Q Ed, sp as Q Ed → t { nx := fun ρ' => Q (.v .non) (clean (ρ'.take as.length)), rt := fun r ρ' => Q r (clean (ρ'.take as.length)), xc := fun C o ρ' => Ed C o (clean (ρ'.take as.length)) } (as ++ List.replicate (N.length - as.length) .un)) : FnG P w K mg base (L2N.CX P w) (k + 1) f fd ps (liftX K sp) := by
  have lenV : ∀ vs H Q E, liftX K sp vs H Q E → vs.length = ps.length := fun vs H Q E ⟨b, F, as, Qd, Ed, R, h, _⟩ => by
    have := R.len
    rw [List.length_map] at this
    rw [← this, len as _ _ h]
  refine fnG_of Fn S lenV fun cdv A outer s H vs Q E hgd hr h => ?_
  obtain ⟨ts, t, hD, hd⟩ := hbody cdv A outer s H E hgd hr
  refine ⟨ts, hD.pe, ?_⟩
  obtain ⟨b, F, as, Qd, Ed, R, q, kk, ke⟩ := h
  have hl : as.length = vs.length := by have := R.len; rw [List.length_map] at this; exact this
  have R0 : Rep K ⟨b, fun _ => False, H, F⟩ (L2.start N vs) H F (as ++ List.replicate (N.length - as.length) .un) := by
    have gl : ∀ (i : Nat) (s : Sl), (as ++ List.replicate (N.length - as.length) .un)[i]? = some s → s = .un ∨ (as[i]? = some s ∧ (L2.start N vs)[i]? = (vs.map some)[i]?) := fun i s e => by
      by_cases hi : i < as.length
      · rw [List.getElem?_append_left hi] at e
        refine .inr ⟨e, ?_⟩
        unfold L2.start
        rw [List.getElem?_append_left (by rw [List.length_map, ← hl]; exact hi)]
      · rw [List.getElem?_append_right (Nat.le_of_not_lt hi)] at e
        exact .inl (List.eq_of_mem_replicate (List.mem_of_getElem? e))
    exact R.slots (by unfold L2.start; simp [hl]) gl
  have cl : ∀ {σ' : L2.St} {H' F' : Hp} {ρ' : SL}, Rep K ⟨b, fun _ => False, H, F⟩ σ' H' F' ρ' → Rep K ⟨b, fun _ => False, H, F⟩ (σ'.take as.length) H' F' (clean (ρ'.take as.length)) ∧
      ∀ v r, RDen K ⟨b, fun _ => False, H, F⟩ σ' ρ' H' F' v r → RDen K ⟨b, fun _ => False, H, F⟩ (σ'.take as.length) (clean (ρ'.take as.length)) H' F' v r := fun {σ' H' F' ρ'} R' => by
    have gl : ∀ (i : Nat) (s : Sl), (clean (ρ'.take as.length))[i]? = some s → s = .un ∨ (ρ'[i]? = some s ∧ (σ'.take as.length)[i]? = σ'[i]?) := fun i s e => by
      rcases clean_get e with z | z
      · exact .inl z
      · by_cases hi : i < as.length
        · rw [List.getElem?_take_of_lt hi] at z
          exact .inr ⟨z, List.getElem?_take_of_lt hi⟩
        · rw [List.getElem?_take_eq_none (Nat.le_of_not_lt hi)] at z
          cases z
    exact ⟨R'.slots (by unfold clean; rw [List.length_map, List.length_take, List.length_take, R'.len]) gl, fun v r rd => rd.slots gl⟩
  refine hD.sem R0 (hd as Qd Ed q) ⟨fun σ' H' F' ρ' e R' => ?_, fun σ' H' F' ρ' r v e R' rd => ?_, fun _ _ _ _ e _ => e.elim, fun _ _ _ _ e _ => e.elim, fun σ' H' F' ρ' C o dd e R' xd => ?_, fun _ _ _ _ _ _ _ e _ _ => e.elim⟩
  · exact kk _ _ _ _ _ _ e (cl R').1 .non
  · exact kk _ _ _ _ _ _ e (cl R').1 ((cl R').2 _ _ rd)
  · exact wOf_of (L2N.takes_of rfl rfl rfl rfl) (ke _ _ _ _ _ _ _ e (cl R').1 xd)
end DL

/-! try .. except, told over data; what an except suite reads of the error. -/
namespace DL
open PySem PySem.Spec L2 PyProof.Rows
/-- the caught error's datum -/
def excD (a C : Addr) (o : Option (Str × D)) (d : Option Addr) : D := match o, d with
  | some (f, dv), some dd => .exc a dd C f dv
  | _, _ => .at a
section
variable {X : Cx}
/-- e.f -/
def dXf (a C : Addr) (d : Option Addr) (n : Str) (t : TD) : TD := fun ρ Q => t ρ fun r ρ1 => match r.dat with
  | .exc a' dd C' f dv => a' = a ∧ C' = C ∧ d = some dd ∧ f = n ∧ Q (.v dv) ρ1
  | _ => False
theorem de_xf {a C : Addr} {oe : Obj} {d : Option Addr} {pn : List (Addr × Obj)} {e : Expr} {te : TE} {t : TD} {pos : Pos} {n : Str} (T : XfC X.K C) (hno : PySem.W.findIn X.K (.ref C) n = some none)
    (hz : Zc (.ref C) d oe) (hf : ∃ vs, oe.data = .fields vs) (he : DE (X.suite a ((a, oe) :: pn)) e te t) (hb : attributeBase e n X.env (eval e X.env) = eval e X.env := by rfl) :
    DE (X.suite a ((a, oe) :: pn)) (.Attribute e n pos) (tXf a (.ref C) d C n te) (dXf a C d n t) :=
  ⟨pe_xf T hno hz hf he.pe hb, fun {G σ H F ρ Q Qd} R q k => by
    refine he.sem R q fun r ρ1 v H1 F1 q1 s1 R1 rd => ?_
    obtain ⟨F2, s2, R2, d2⟩ := R1.share rd
    cases hr : r.dat with
    | exc a' dd C' f dv =>
      rw [hr] at q1 d2
      obtain ⟨rfl, rfl, rfl, rfl, q1⟩ := q1
      cases d2 with
      | exc h1 h2 =>
        rename_i v'
        refine ⟨rfl, rfl, dd, [(f, v')], v', rfl, R2.ext _ _ h1, by simp [List.lookup], ?_⟩
        exact k _ _ _ _ _ q1 (s1.trans s2) R2 h2
    | _ => rw [hr] at q1; exact q1.elim⟩
/-- it is the caught error -/
def isErr (a : Addr) (d : Option Addr) : D → Prop
  | .exc a' dd _ _ _ => a' = a ∧ d = some dd
  | .at a' => a' = a ∧ d = none
  | _ => False
/-- isinstance(e, c), c one class -/
def dIsX (K : PySem.W.Frag) (a C : Addr) (d : Option Addr) (cv : Value) (t : TD) : TD := fun ρ Q => t ρ fun r ρ1 => isErr a d r.dat ∧ ∃ b, PySem.W.kitOne K (.ref C) cv = some b ∧ Q (.v (.bl b)) ρ1
theorem isX_pre {K : PySem.W.Frag} {F H : Hp} {v : V} {D0 : D} {a : Addr} {d : Option Addr} (e : Same F H) (h : Den K F v D0) (q : isErr a d D0) : v = .ref a ∧ XAt H d := by
  cases D0 with
  | exc a' dd C f dv =>
    obtain ⟨rfl, rfl⟩ := q
    cases h with
    | exc h1 h2 => exact ⟨rfl, _, e _ _ h1⟩
  | «at» a' =>
    obtain ⟨rfl, rfl⟩ := q
    cases h
    exact ⟨rfl, trivial⟩
  | _ => exact q.elim
theorem sem_isX {a C : Addr} {d : Option Addr} {c : V} {cv : Value} {e : Expr} {te : TE} {t : TD} {X' : Cx} (he : DE X' e te t) (hc : ClsV c cv) {G : Cd} {σ : L2.St} {H F : Hp} {ρ : SL} {Q : VK} {Qd : Rv → SL → Prop} (R : Rep X'.K G σ H F ρ) (q : dIsX X'.K a C d cv t ρ Qd)
    (k : ∀ r ρ' v H' F', Qd r ρ' → Same F F' → Rep X'.K G σ H' F' ρ' → RDen X'.K G σ ρ' H' F' v r → Q v H') : tCB (rIsX X'.K C a d) (tCons te (tCons (tC c) tNil)) σ H Q := by
  refine he.sem R q fun r ρ1 v H1 F1 q1 s1 R1 rd => ?_
  obtain ⟨F2, s2, R2, d2⟩ := R1.share rd
  obtain ⟨q1, b, hb, qd⟩ := q1
  obtain ⟨rfl, hx⟩ := isX_pre R2.ext d2 q1
  exact ⟨c, cv, b, rfl, hc, hx, hb, k _ _ _ _ _ qd (s1.trans s2) R2 (.bl b)⟩
theorem de_isX {a C : Addr} {oe : Obj} {d : Option Addr} {pn : List (Addr × Obj)} {x y : Str} {p p1 p2 pos : Pos} {Cc : Addr} {te : TE} {t : TD} (T : ExcC X.K C) (hz : Zc (.ref C) d oe) (hf : ∃ vs, oe.data = .fields vs)
    (he : DE (X.suite a ((a, oe) :: pn)) (.Name x p1) te t) (hg : Gl X "isinstance") (hm : X.mg "isinstance" = none) (hgy : Gl X y) (hmy : X.mg y = some (.ref Cc)) (hdy : (y == ("__debug__" : Str)) = false := by decide)
    (hs : starEach (.Name x p1 :: [.Name y p2]) X.env = (false, eval (.Name x p1) X.env) :: starEach [.Name y p2] X.env := by rfl) (hs2 : starEach (.Name y p2 :: []) X.env = (false, eval (.Name y p2) X.env) :: starEach [] X.env := by rfl)
    (hpl : (backTo pos (starEach [.Name y p2] X.env)).any (·.1) = false := by rfl) :
    DE (X.suite a ((a, oe) :: pn)) (.Call (.Name "isinstance" p) [.Name x p1, .Name y p2] [] pos) (tCB (rIsX X.K C a d) (tCons te (tCons (tC (.ref Cc)) tNil))) (dIsX X.K a C d (.ref Cc) t) :=
  ⟨pe_callB (call_isX T hz hf) hg hm PyProof.Rows.boot_isinstance (pa_cons he.pe (pa_cons (pe_glob hgy hmy rfl hdy) pa_nil hs2) hs) (by decide) (by decide) hs hpl,
    fun R q k => sem_isX (X' := X.suite a ((a, oe) :: pn)) he (.own Cc) R q k⟩
theorem de_isXb {a C : Addr} {oe : Obj} {d : Option Addr} {pn : List (Addr × Obj)} {x y : Str} {p p1 p2 pos : Pos} {ty : String} {te : TE} {t : TD} (T : ExcC X.K C) (hz : Zc (.ref C) d oe) (hf : ∃ vs, oe.data = .fields vs)
    (he : DE (X.suite a ((a, oe) :: pn)) (.Name x p1) te t) (hg : Gl X "isinstance") (hm : X.mg "isinstance" = none) (hgy : Gl X y) (hmy : X.mg y = none) (hv : bootBuiltins y = some (.type ty)) (hny : y ≠ "__name__" := by decide) (hdy : (y == ("__debug__" : Str)) = false := by decide)
    (hs : starEach (.Name x p1 :: [.Name y p2]) X.env = (false, eval (.Name x p1) X.env) :: starEach [.Name y p2] X.env := by rfl) (hs2 : starEach (.Name y p2 :: []) X.env = (false, eval (.Name y p2) X.env) :: starEach [] X.env := by rfl)
    (hpl : (backTo pos (starEach [.Name y p2] X.env)).any (·.1) = false := by rfl) :
    DE (X.suite a ((a, oe) :: pn)) (.Call (.Name "isinstance" p) [.Name x p1, .Name y p2] [] pos) (tCB (rIsX X.K C a d) (tCons te (tCons (tC (.ty ty)) tNil))) (dIsX X.K a C d (.type ty) t) :=
  ⟨pe_callB (call_isX T hz hf) hg hm PyProof.Rows.boot_isinstance (pa_cons he.pe (pa_cons (pe_bltn hgy hmy hv rfl hny hdy) pa_nil hs2) hs) (by decide) (by decide) hs hpl,
    fun R q k => sem_isX (X' := X.suite a ((a, oe) :: pn)) he (.ty ty) R q k⟩
/-- names of own classes -/
inductive ClsN (X : Cx) : List Expr → List Addr → TA → Prop
  | nil : ClsN X [] [] tNil
  | cons {y : Str} {p : Pos} {es : List Expr} {C : Addr} {Cs : List Addr} {ta : TA} (hg : Gl X y) (hm : X.mg y = some (.ref C)) (hd : (y == ("__debug__" : Str)) = false) (hs : starEach (.Name y p :: es) X.env = (false, eval (.Name y p) X.env) :: starEach es X.env) (r : ClsN X es Cs ta) :
      ClsN X (.Name y p :: es) (C :: Cs) (tCons (tC (.ref C)) ta)
theorem ClsN.run {es : List Expr} {Cs : List Addr} {ta : TA} (h : ClsN X es Cs ta) {σ : L2.St} {H : Hp} {Q : List V → Hp → Prop} (q : Q (Cs.map V.ref) H) : ta σ H Q := by
  induction h generalizing Q with
  | nil => exact q
  | cons hg hm hd hs r ih => exact ih q
theorem ClsN.suite {es : List Expr} {Cs : List Addr} {ta : TA} (h : ClsN X es Cs ta) (a : Addr) (pn : List (Addr × Obj)) : ClsN (X.suite a pn) es Cs ta := by
  induction h with
  | nil => exact .nil
  | cons hg hm hd hs r ih => exact .cons hg hm hd hs ih
theorem ClsN.len {es : List Expr} {Cs : List Addr} {ta : TA} (h : ClsN X es Cs ta) : es.length = Cs.length := by
  induction h with
  | nil => rfl
  | cons _ _ _ _ _ ih => rw [List.length_cons, List.length_cons, ih]
/-! ### try -/
/-- behind 'except c as e' (slot i): what is wanted of an error of the body -/
def xAs (K : PySem.W.Frag) (KX : Addr → Prop) (cv : Value) (i : Nat) (ts : Addr → Addr → Option Addr → TSD) (E : EndsD) : WXD := fun C o ρ =>
  ∃ b, PySem.W.exmOne K (.ref C) cv = some b ∧ (b = true → KX C ∧ ∀ (a : Addr) (dd : Option Addr), (o.isSome = dd.isSome) → ts a C dd { nx := fun ρ' => E.nx (ρ'.set i .un), rt := E.rt, bk := fun ρ' => E.bk (ρ'.set i .un), ct := fun ρ' => E.ct (ρ'.set i .un) } (ρ.set i (.sh (excD a C o dd)))) ∧
    (b = false → E.xh C o ρ)
def sTryAs (K : PySem.W.Frag) (KX : Addr → Prop) (cv : Value) (i : Nat) (tb : TSD) (ts : Addr → Addr → Option Addr → TSD) : TSD := fun E ρ => tb { E with xc := xAs K KX cv i ts E, xh := xAs K KX cv i ts E } ρ
theorem pss_weak {st : List Stmt} {t t' : TS} (h : PSs X st t') (w : ∀ D σ H, t D σ H → t' D σ H) : PSs X st t := ⟨fun pins s σ H D I q => h.run pins s σ H D I (w _ _ _ q)⟩
theorem excD_den {K : PySem.W.Frag} {F : Hp} {a C : Addr} {o : Option (Str × D)} {d : Option Addr} (h : XDen K F o d) : Den K F (.ref a) (excD a C o d) ∧ o.isSome = d.isSome := by
  cases o with
  | none =>
    have h : d = none := h
    subst h
    exact ⟨.at a, rfl⟩
  | some x =>
    obtain ⟨dd, v, rfl, h2, h3⟩ := h
    exact ⟨.exc h2 h3, rfl⟩
theorem ds_tryAs (KX : Addr → Prop) {x n : Str} {cv : Value} {i : Nat} {body suite : List Stmt} {b₀ : Stmt} {np pos pos' : Pos} {tsb : List (Addr × Obj) → (Value → Shared → Prop) → TS} {tbd : TSD} {tss : Addr → Addr → Option Addr → Obj → List (Addr × Obj) → TS} {tsd : Addr → Addr → Option Addr → TSD}
    (hs : X.stack = X.env :: X.outer) (hf : X.env.frame = some X.env.locals) (hN : X.N.Nodup) (hi : X.N[i]? = some n) (hln : X.env.kindOf n = some .local) (hc : L2.Names X x cv)
    (hb : ∀ (pn : List (Addr × Obj)) (xe : Value → Shared → Prop), PassesOwn (model X.prog X.w) X.A X.env xe → DSs (X.tr pn xe) body (tsb pn xe) tbd)
    (hsu : ∀ (a C : Addr) (d : Option Addr) (oe : Obj) (pn : List (Addr × Obj)), KX C → Zc (.ref C) d oe → (∃ vs, oe.data = .fields vs) → DSs (X.suite a ((a, oe) :: pn)) (b₀ :: suite) (tss a C d oe pn) (tsd a C d)) :
    DS X (.Try body [.ExceptHandler (some (.Name x np)) (some n) (b₀ :: suite) pos'] [] [] pos)
      (fun D σ H => (fun (W : WX) (D : Ends) σ H => ∀ pn xe, PassesOwn (model X.prog X.w) X.A X.env xe → Takes (X.tr pn xe) W → tsb pn xe D σ H)
        (wAs X.K cv i (fun a cls d D σ H => ∃ C, cls = .ref C ∧ KX C ∧ ∀ oe pn, Zc (.ref C) d oe → (∃ vs, oe.data = .fields vs) → tss a C d oe pn D σ H) (wOfH X) D) D σ H)
      (sTryAs X.K KX cv i tbd tsd) := by
  refine ⟨ps_try_as (tb := fun (W : WX) (D : Ends) σ H => ∀ pn xe, PassesOwn (model X.prog X.w) X.A X.env xe → Takes (X.tr pn xe) W → tsb pn xe D σ H) (ts := fun a cls d D σ H => ∃ C, cls = .ref C ∧ KX C ∧ ∀ oe pn, Zc (.ref C) d oe → (∃ vs, oe.data = .fields vs) → tss a C d oe pn D σ H)
    hs hf hN hi hln hc (takes_wOfH X) (fun W pn xe tk po => pss_weak (hb pn xe po).pe fun D σ H q => q pn xe po tk) (fun a oe cls d pn hz hv => ?_), fun {G σ H F ρ D E} R q L pn xe po tk => ?_⟩
  · by_cases hcl : ∃ C, cls = .ref C ∧ KX C
    · obtain ⟨C, rfl, hk⟩ := hcl
      refine pss_weak (hsu a C d oe pn hk hz hv).pe fun D σ H ⟨C', e, _, q⟩ => ?_
      cases e
      exact q oe pn hz hv
    · exact ⟨fun pins s σ H D I ⟨C', e, k, q⟩ => (hcl ⟨C', e, k⟩).elim⟩
  · refine (hb pn xe po).sem R q ⟨L.nx, L.rt, L.bk, L.ct, fun σ' H' F' ρ' C o dd h R' xd => wOf_ofL tk ?_, fun σ' H' F' ρ' C o dd h R' xd => wOfH_of tk ?_⟩
    all_goals
      obtain ⟨b, e1, h1, h2⟩ := h
      refine ⟨b, e1, fun hb1 a na => ⟨C, rfl, (h1 hb1).1, fun oe pn2 hz hv => ?_⟩, fun hb0 => L.xh _ _ _ _ _ _ _ (h2 hb0) R' xd⟩
      obtain ⟨de, ds⟩ := excD_den (a := a) (C := C) xd
      refine (hsu a C dd oe pn2 (h1 hb1).1 hz hv).sem (R'.setSh de i) ((h1 hb1).2 a dd ds) ⟨fun σ2 H2 F2 ρ2 q2 R2 => ?_, fun σ2 H2 F2 ρ2 r v q2 R2 rd => L.rt _ _ _ _ _ _ q2 R2 rd, fun σ2 H2 F2 ρ2 q2 R2 => ?_, fun σ2 H2 F2 ρ2 q2 R2 => ?_, fun _ _ _ _ _ _ _ e _ _ => e.elim, fun _ _ _ _ _ _ _ e _ _ => e.elim⟩
      · exact L.nx _ _ _ _ q2 (R2.setUn i none)
      · exact L.bk _ _ _ _ q2 (R2.setUn i none)
      · exact L.ct _ _ _ _ q2 (R2.setUn i none)
end
theorem xf_of {K : PySem.W.Frag} {C : Addr} (h : ExcC K C) : XfC K C := ⟨h.hg, h.hk, h.hs, h.hd⟩
end DL

/-! == and != of what stands on a pile, or holds such things. -/
namespace DL
open PySem PySem.Spec L2 PyProof.Rows
section
variable {X : Cx}
def dCmpV (g : Nat) (f : Bool → Bool) (ta tb : TQ) : TD := fun ρ Q => ta ρ fun oa ρ1 => tb ρ1 fun ob ρ2 => match getsV ρ2 g [oa, ob] with
  | some [a, b] => D.fit 60 a = true ∧ D.fit 60 b = true ∧ Q (.v (.bl (f (D.eqv a b)))) ρ2
  | _ => False
theorem sem_cmpV (g : Nat) {r : R2} {f : Bool → Bool} {ta tb : TE} {a b : Expr} {da db : TQ} (ha : DO X a ta da) (hb : DO X b tb db)
    (hr : ∀ {H : Hp} {x y : V} {a b : D} {Q : VK}, Den X.K H x a → Den X.K H y b → D.fit 60 a = true → D.fit 60 b = true → Q (.bl (f (D.eqv a b))) H → r x y H Q)
    {G : Cd} {σ : L2.St} {H F : Hp} {ρ : SL} {Q : VK} {Qd : Rv → SL → Prop} (R : Rep X.K G σ H F ρ) (q : dCmpV g f da db ρ Qd)
    (k : ∀ r ρ' v H' F', Qd r ρ' → Same F F' → Rep X.K G σ H' F' ρ' → RDen X.K G σ ρ' H' F' v r → Q v H') : tOp r ta tb σ H Q := by
  refine ha.sem R q fun oa ρ1 v H1 F1 q1 s1 R1 d1 => ?_
  refine hb.sem R1 q1 fun ob ρ2 u H2 F2 q2 s2 R2 d2 => ?_
  cases e : getsV ρ2 g [oa, ob] with
  | none => rw [e] at q2; exact q2.elim
  | some l =>
    have dl := OpDens.densV R2 (g := g) (.cons (d1.mono s2) (.cons d2 .nil)) e
    rw [e] at q2
    cases dl with
    | cons x1 t1 =>
      cases t1 with
      | cons x2 t2 =>
        cases t2
        obtain ⟨h1, h2, q2⟩ := q2
        exact hr x1 x2 h1 h2 (k _ _ _ _ _ q2 (s1.trans s2) R2 (.bl _))
end
end DL

/-! What is shown is a good text; f-strings; repr of an object by its own __repr__. -/
namespace DL
open PySem L2
theorem char_lt (c : Char) : c.toNat < 0x110000 := by
  have := c.valid
  unfold Char.toNat
  rcases this with h | h
  · exact Nat.lt_trans h (by decide)
  · exact h.2
theorem reprChar_ok {q c : Nat} (h : c < 0x110000) : ∀ x ∈ Builtin.Str.reprChar q c, x < 0x110000 := by
  have hd : ∀ k, ∀ x ∈ (List.replicate (k - ((Nat.toDigits 16 c).map Char.toNat).length) 48 ++ (Nat.toDigits 16 c).map Char.toNat), x < 0x110000 := fun k x z => by
    rcases List.mem_append.mp z with z | z
    · rw [List.eq_of_mem_replicate z]; decide
    · obtain ⟨d, _, rfl⟩ := List.mem_map.mp z
      exact char_lt d
  have two : ∀ a b : Nat, a < 0x110000 → b < 0x110000 → ∀ x ∈ [a, b], x < 0x110000 := fun a b ha hb x hx => by
    rcases List.mem_cons.mp hx with z | z
    · omega
    · have := List.mem_singleton.mp z; omega
  have app : ∀ (a b : Nat) (l : List Nat), a < 0x110000 → b < 0x110000 → (∀ x ∈ l, x < 0x110000) → ∀ x ∈ [a, b] ++ l, x < 0x110000 := fun a b l ha hb hl x hx => by
    rcases List.mem_append.mp hx with z | z
    · exact two a b ha hb x z
    · exact hl x z
  unfold Builtin.Str.reprChar
  simp only
  split
  · exact two _ _ (by decide) h
  · split
    · exact two _ _ (by decide) (by decide)
    · split
      · exact two _ _ (by decide) (by decide)
      · split
        · exact two _ _ (by decide) (by decide)
        · split
          · intro x hx; have := List.mem_singleton.mp hx; omega
          · split
            · exact app _ _ _ (by decide) (by decide) (hd 2)
            · split
              · exact app _ _ _ (by decide) (by decide) (hd 4)
              · exact app _ _ _ (by decide) (by decide) (hd 8)
theorem fold_repr_ok (q : Nat) : ∀ (l : List Nat) (acc : Array Nat), (∀ c ∈ l, c < 0x110000) → (∀ c ∈ acc.toList, c < 0x110000) → ∀ c ∈ (l.foldl (fun out c => out ++ (Builtin.Str.reprChar q c).toArray) acc).toList, c < 0x110000
  | [], acc, _, h => h
  | c :: r, acc, h, ha => by
    rw [List.foldl_cons]
    refine fold_repr_ok q r _ (fun x hx => h x (List.mem_cons_of_mem _ hx)) fun x hx => ?_
    rw [Array.toList_append] at hx
    rcases List.mem_append.mp hx with z | z
    · exact ha x z
    · exact reprChar_ok (h c List.mem_cons_self) x z
theorem reprQuote_lt (x : Str) : reprQuote x < 0x110000 := by
  unfold reprQuote
  split <;> decide
theorem strOk_reprText {x : Str} (h : PyData.strOk x = true) : PyData.strOk (reprText x) = true := by
  rw [strOk_iff] at *
  unfold reprText
  intro c hc
  rw [Array.toList_push, ← Array.foldl_toList] at hc
  rcases List.mem_append.mp hc with z | z
  · refine fold_repr_ok _ _ _ h (fun c hc => ?_) c z
    have : c = reprQuote x := by simpa using hc
    rw [this]; exact reprQuote_lt x
  · rw [List.mem_singleton.mp z]; exact reprQuote_lt x
theorem strOk_strJoin {sep : Str} (hs : PyData.strOk sep = true) : ∀ l : List Str, (∀ x ∈ l, PyData.strOk x = true) → PyData.strOk (Str.join sep l) = true
  | [], _ => strOk_iff.mpr fun c hc => by cases hc
  | [x], h => h x List.mem_cons_self
  | x :: y :: r, h => by
    rw [Str.join]
    exact strOk_append (strOk_append (h x List.mem_cons_self) hs) (strOk_strJoin hs (y :: r) fun z hz => h z (List.mem_cons_of_mem _ hz))
    all_goals (intro h2; cases h2)

section
variable {K : PySem.W.Frag} {F : Hp}
theorem at_ok {d : D} {v : V} (h : Den K F v d) (ha : d.atm = true) : PyData.strOk d.py.shown = true := by
  cases d with
  | non => rw [D.py, PyData.shown_none]; exact strOk_ofString _
  | bl b => rw [D.py, PyData.shown_bool]; cases b <;> exact strOk_ofString _
  | int i => rw [D.py, PyData.shown_int]; exact strOk_ofString _
  | str x =>
    rw [D.py, PyData.shown_str]
    cases h with
    | str _ a => exact strOk_reprText a
  | _ => simp [D.atm] at ha
theorem shownK_ok : ∀ {kvs : List (Key × D)} {ks : List (Key × V)}, DenK K F ks kvs → (kvs.all fun kv => kv.2.atm) = true → ∀ t ∈ PyData.shownKv (D.pyk kvs), PyData.strOk t = true
  | [], _, h, _ => by intro t ht; rw [D.pyk] at ht; simp [PyData.shownKv] at ht
  | (k, d) :: r, _, h, ha => by
    rw [List.all_cons, Bool.and_eq_true] at ha
    cases h with
    | cons h1 h2 h3 =>
      intro t ht
      rw [D.pyk, shownKv_cons] at ht
      rcases List.mem_cons.mp ht with z | z
      · rw [z]
        refine strOk_append (strOk_append ?_ (strOk_ofString _)) (at_ok h1 ha.1)
        cases k with
        | inl i => exact at_ok (K := K) (F := F) (d := .int i) (.int i) rfl
        | inr x => exact at_ok (K := K) (F := F) (d := .str x) (.str x h2) rfl
      · exact shownK_ok h3 ha.2 t z
mutual
theorem shown_ok : ∀ (n : Nat) (d : D) (v : V), Den K F v d → D.fitR n d = true → PyData.strOk d.py.shown = true
  | n, .non, v, h, _ => by rw [D.py, PyData.shown_none]; exact strOk_ofString _
  | n, .bl b, v, h, _ => by rw [D.py, PyData.shown_bool]; cases b <;> exact strOk_ofString _
  | n, .int i, v, h, hf => by rw [D.py, PyData.shown_int]; exact strOk_ofString _
  | n, .str x, v, h, hf => by
    rw [D.py, PyData.shown_str]
    cases h with
    | str _ a => exact strOk_reprText a
  | 0, .lst l, v, h, hf => by simp [D.fitR] at hf
  | 0, .tup l, v, h, hf => by simp [D.fitR] at hf
  | n + 1, .lst l, v, h, hf => by
    rw [D.fitR] at hf
    cases h with
    | lst a b =>
      rw [D.py, PyData.shown_list]
      exact strOk_append (strOk_append (strOk_ofString _) (strOk_strJoin (strOk_ofString _) _ (showns_ok n l _ b hf))) (strOk_ofString _)
  | n + 1, .tup l, v, h, hf => by
    rw [D.fitR] at hf
    cases h with
    | tup a b =>
      rw [D.py, PyData.shown_tuple]
      exact strOk_append (strOk_append (strOk_ofString _) (strOk_strJoin (strOk_ofString _) _ (showns_ok n l _ b hf))) (strOk_ofString _)
  | 0, .dct _, _, _, e => by simp [D.fitR] at e
  | n + 1, .dct kvs, v, h, hf => by
    rw [D.fitR] at hf
    cases h with
    | dct a b =>
      rw [D.py, PyData.shown_dict]
      exact strOk_append (strOk_append (strOk_ofString _) (strOk_strJoin (strOk_ofString _) _ (shownK_ok b hf))) (strOk_ofString _)
  | 0, .obj _ _, _, _, e => by simp [D.fitR] at e
  | _ + 1, .obj _ _, _, _, e => by simp [D.fitR] at e
  | 0, .scr _, _, _, e => by simp [D.fitR] at e
  | _ + 1, .scr _, _, _, e => by simp [D.fitR] at e
  | 0, .rep _, _, _, e => by simp [D.fitR] at e
  | _ + 1, .rep _, _, _, e => by simp [D.fitR] at e
  | 0, .at _, _, _, e => by simp [D.fitR] at e
  | _ + 1, .at _, _, _, e => by simp [D.fitR] at e
  | 0, .exc _ _ _ _ _, _, _, e => by simp [D.fitR] at e
  | 0, .dx _ _, _, _, e => by simp [D.fitR] at e
  | _ + 1, .dx _ _, _, _, e => by simp [D.fitR] at e
  | _ + 1, .exc _ _ _ _ _, _, _, e => by simp [D.fitR] at e
  | 0, .unk, _, _, e => by simp [D.fitR] at e
  | _ + 1, .unk, _, _, e => by simp [D.fitR] at e
theorem showns_ok : ∀ (n : Nat) (l : List D) (vs : List V), DenL K F vs l → D.fitRs n l = true → ∀ t ∈ PyData.shownAll (D.pys l), PyData.strOk t = true
  | n, [], vs, h, _ => by intro t ht; rw [D.pys, PyData.shownAll_nil] at ht; cases ht
  | n, d :: r, vs, h, hf => by
    rw [D.fitRs, Bool.and_eq_true] at hf
    cases h with
    | cons a b =>
      intro t ht
      rw [D.pys, PyData.shownAll_cons] at ht
      rcases List.mem_cons.mp ht with z | z
      · rw [z]; exact shown_ok n d _ a hf.1
      · exact showns_ok n r _ b hf.2 t z
end
end
section
variable {X : Cx} {pins : List (Addr × Obj)} {σ : L2.St} {H : Hp} {s : Shared}
theorem reprObj_dr (I : Inv X pins σ H s) (hg : X.A.guards = some []) (hu : X.A.units + 64 < cLine) {a : Addr} {d : PyData} (h : Dr H (.ref a) d) (hs : d.showable = true) (hz : d.shown.length ≤ sizeLine) (hdp : d.depth ≤ 60) {Q : Value → Shared → Prop}
    (q : ∀ h' u tk, (∀ b o, s.heap.get? b = some o → h'.get? b = some o) → Q (.str d.shown u) { s with heap := h', toks := tk }) : wpAny (model X.prog X.w) X.A (pyReprObj (.ref a)) Q X.xe s := by
  have old : ∀ b o, s.heap.get? b = some o → s.heap.get? b = some o := fun _ _ e => e
  cases d with
  | list ds =>
    cases h with
    | lst hl ha =>
      obtain ⟨its, rv, ⟨o, n, ho, hc, _, hd⟩, _⟩ := I.list (.inl (.inl hl))
      obtain ⟨as, hr⟩ := Dr.readsAll I ds _ its ha rv
      rw [shown_listText] at hz q
      obtain ⟨bs, hb, hk⟩ := Dr.showAll I ds _ its ha rv (by rw [PyData.showable] at hs; exact hs) fun t ht => Nat.le_trans (listText_mem_le ht) hz
      have hna := not_mem_of_deeper (Reads.list ho hc hd hr) (by rw [PyData.depth]; exact Nat.lt_succ_self _) hb
      rw [PyData.depth] at hdp
      refine wpAny_pyReprObj_slot (by omega) ⟨o, ho, hc⟩ F.slot_list_repr.toG ?_
      cases its with
      | nil =>
        cases rv
        cases ha
        exact call_list_repr_empty ⟨o, ho, hc⟩ ho hd ⟨_, _, rfl, q s.heap _ _ old⟩
      | cons x l =>
        exact call_list_reprK ho hc hd hna hk.length_eq (fun i y e => hk.item i y (by rwa [List.getElem?_toArray] at e)) hg (fun b _ => Clear.nil b) (by omega) old (fun h' u tk hh => ⟨_, _, rfl, q h' u tk hh⟩) hz
  | tuple ds =>
    cases h with
    | tup hl ha =>
      obtain ⟨its, rv, ⟨o, ho, hc, n, hd⟩, _⟩ := I.tuple (.inl (.inl hl))
      obtain ⟨as, hr⟩ := Dr.readsAll I ds _ its ha rv
      rw [shown_tupleText] at hz q
      obtain ⟨bs, hb, hk⟩ := Dr.showAll I ds _ its ha rv (by rw [PyData.showable] at hs; exact hs) fun t ht => Nat.le_trans (tupleText_mem_le ht) hz
      have hna := not_mem_of_deeper (Reads.tuple ho hc hd hr) (by rw [PyData.depth]; exact Nat.lt_succ_self _) hb
      rw [PyData.depth] at hdp
      refine wpAny_pyReprObj_slot (by omega) ⟨o, ho, hc⟩ F.slot_tuple_repr ?_
      exact call_tuple_reprK ho hc hd hna hk hg (fun b _ => Clear.nil b) (by omega) old (fun h' u tk hh => ⟨_, _, rfl, q h' u tk hh⟩) hz
  | dict kvs =>
    cases h with
    | dct hl hk =>
      obtain ⟨o, es, ep, vs, h1, h2, h3, kv, hp⟩ := entriesAt I hl
      rw [shown_dictText] at hz q
      refine wpAny_pyReprObj_slot (by omega) ⟨o, h1, h2⟩ F.slot_dict_repr ?_
      exact call_dict_reprK (as := []) (d := 0) (ps := PyData.shownKv kvs) h1 h2 h3 (sysOf I hl) (by simp) (entsRepr hk kv hp (by rw [PyData.showable] at hs; exact hs) fun t ht => Nat.le_trans (dictText_mem_le ht) hz) hg (fun b _ => Clear.nil b) (by omega) old (fun h' u tk hh => ⟨_, _, rfl, q h' u tk hh⟩) hz
  | none => cases h
  | bool _ => cases h
  | int _ => cases h
  | str _ => cases h
/-! ### {x!r} -/
def tFmtRE (te : TE) : TE := fun σ H Q => te σ H fun x H1 => ∃ d, Dr H1 x d ∧ d.showable = true ∧ d.depth ≤ 60 ∧ d.shown.length ≤ sizeLine ∧ Q (.str d.shown) H1
theorem pe_fmtRE (hg : X.A.guards = some []) (hu : X.A.units + 64 < cLine) {e : Expr} {te : TE} {pos : Pos} (he : PE X e te) : PE X (.FormattedValue e 114 none pos) (tFmtRE te) := by
  refine ⟨fun pins s σ H Q I h => ?_⟩
  refine wpAny_FormattedValue_repr (thn (he.run pins s σ H _ I h) fun v s1 hv => ?_)
  obtain ⟨x, H1, I1, r1, d, dp, h1, h3, h4, q⟩ := hv
  have dp' := dp
  cases dp with
  | non =>
    cases r1
    exact pyReprObj_none (wpAny_formatField_str ⟨.str _, H1, I1.tok _, ⟨_, rfl⟩, by rw [PyData.shown_none] at q; exact q⟩ ⟨.str _, H1, I1.tok _, ⟨_, rfl⟩, by rw [PyData.shown_none] at q; exact q⟩ (by rw [PyData.shown_none] at h4; exact h4))
  | bl b =>
    cases r1
    exact pyReprObj_bool (wpAny_formatField_str ⟨.str _, H1, I1.tok _, ⟨_, rfl⟩, by rw [PyData.shown_bool] at q; exact q⟩ ⟨.str _, H1, I1.tok _, ⟨_, rfl⟩, by rw [PyData.shown_bool] at q; exact q⟩ (by rw [PyData.shown_bool] at h4; exact h4))
  | int i =>
    obtain ⟨t, rfl⟩ := r1
    have h5 : i.natAbs.log2 < 1920 := by simpa [PyData.showable] using h1
    exact pyReprObj_int h5 (wpAny_formatField_str ⟨.str _, H1, I1.tok _, ⟨_, rfl⟩, by rw [PyData.shown_int] at q; exact q⟩ ⟨.str _, H1, I1.tok _, ⟨_, rfl⟩, by rw [PyData.shown_int] at q; exact q⟩ (int_text_fits h5))
  | str y =>
    obtain ⟨t, rfl⟩ := r1
    rw [PyData.shown_str] at q h4
    exact pyReprObj_str (wpAny_formatField_str ⟨.str _, H1, I1.tok _, ⟨_, rfl⟩, q⟩ ⟨.str _, H1, I1.tok _, ⟨_, rfl⟩, q⟩ h4) h4
  | lst a b =>
    cases r1
    exact reprObj_dr I1 hg hu dp' h1 h4 h3 (fun h' u tk hk => wpAny_formatField_str ⟨.str _, H1, I1.kept (t' := tk) hk, ⟨u, rfl⟩, q⟩ ⟨.str _, H1, I1.kept (t' := tk + 1) hk, ⟨_, rfl⟩, q⟩ h4)
  | tup a b =>
    cases r1
    exact reprObj_dr I1 hg hu dp' h1 h4 h3 (fun h' u tk hk => wpAny_formatField_str ⟨.str _, H1, I1.kept (t' := tk) hk, ⟨u, rfl⟩, q⟩ ⟨.str _, H1, I1.kept (t' := tk + 1) hk, ⟨_, rfl⟩, q⟩ h4)
  | dct a b =>
    cases r1
    exact reprObj_dr I1 hg hu dp' h1 h4 h3 (fun h' u tk hk => wpAny_formatField_str ⟨.str _, H1, I1.kept (t' := tk) hk, ⟨u, rfl⟩, q⟩ ⟨.str _, H1, I1.kept (t' := tk + 1) hk, ⟨_, rfl⟩, q⟩ h4)
def dFmtR (t : TQ) : TD := fun ρ Q => t ρ fun o ρ' => match o.get ρ' with
  | some d => D.fitR 60 d = true ∧ D.small d = true ∧ D.wt d ≤ 16777216 ∧ Q (.v (.str d.py.shown)) ρ'
  | none => False
theorem de_fmtR (hg : X.A.guards = some []) (hu : X.A.units + 64 < cLine) {e : Expr} {te : TE} {t : TQ} {pos : Pos} (he : DO X e te t) : DE X (.FormattedValue e 114 none pos) (tFmtRE te) (dFmtR t) := by
  refine ⟨pe_fmtRE hg hu he.pe, fun {G σ H F ρ Q Qd} R q k => he.sem R q fun o ρ1 v H1 F1 q1 s1 R1 od => ?_⟩
  cases hd : o.get ρ1 with
  | none => rw [hd] at q1; exact q1.elim
  | some d =>
    rw [hd] at q1
    obtain ⟨h1, h2, h3, q1⟩ := q1
    have dd := (od.pk R1 hd).den R1.ext
    obtain ⟨z1, z2, z3, z4⟩ := den_dr 60 d v dd h1 h2
    exact ⟨d.py, z1, z2, z3, le_size (Nat.le_trans z4 h3), k _ _ _ _ _ q1 s1 R1 (.str _ (shown_ok 60 d v dd h1))⟩
/-! ### f'..' -/
inductive DJ (X : Cx) : List Expr → List TE → List TD → Prop
  | nil : DJ X [] [] []
  | cons {e : Expr} {te : TE} {t : TD} {es : List Expr} {tes : List TE} {ts : List TD} (h : DE X e te t) (r : DJ X es tes ts) : DJ X (e :: es) (te :: tes) (t :: ts)
theorem DJ.pj {es : List Expr} {tes : List TE} {ts : List TD} (h : DJ X es tes ts) : PJ X es tes := by
  induction h with
  | nil => exact .nil
  | cons h _ ih => exact .cons h.pe ih
def dJs : List TD → Str → SL → (Str → SL → Prop) → Prop
  | [], acc, ρ, Q => Q acc ρ
  | t :: ts, acc, ρ, Q => t ρ fun r ρ1 => ∃ y, r.dat = .str y ∧ (acc ++ y).length ≤ sizeLine ∧ dJs ts (acc ++ y) ρ1 Q
def dJoined (ts : List TD) : TD := fun ρ Q => dJs ts Str.empty ρ fun out ρ1 => Q (.v (.str out)) ρ1
theorem DJ.sem {es : List Expr} {tes : List TE} {ts : List TD} (h : DJ X es tes ts) : ∀ {G : Cd} {σ : L2.St} {H F : Hp} {ρ : SL} {acc : Str} {Q : Str → Hp → Prop} {Qd : Str → SL → Prop}, Rep X.K G σ H F ρ → PyData.strOk acc = true → dJs ts acc ρ Qd →
    (∀ out ρ' H' F', Qd out ρ' → PyData.strOk out = true → Same F F' → Rep X.K G σ H' F' ρ' → Q out H') → tJs tes acc σ H Q := by
  induction h with
  | nil => intro G σ H F ρ acc Q Qd R ha q k; exact k _ _ _ _ q ha (Same.refl _) R
  | @cons e te t es tes ts h _ ih =>
    intro G σ H F ρ acc Q Qd R ha q k
    refine h.sem R q fun r ρ1 v H1 F1 q1 s1 R1 rd => ?_
    obtain ⟨F2, s2, R2, d2⟩ := R1.share rd
    obtain ⟨y, ey, hz, q1⟩ := q1
    rw [ey] at d2
    cases d2 with
    | str _ a => exact ⟨y, rfl, hz, ih R2 (strOk_append ha a) q1 fun out ρ' H' F' q2 ho s3 R3 => k _ _ _ _ q2 ho (s1.trans (s2.trans s3)) R3⟩
theorem de_joined {v1 v2 : Expr} {rest : List Expr} {tes : List TE} {ts : List TD} {pos : Pos} (h : DJ X (v1 :: v2 :: rest) tes ts) : DE X (.JoinedStr (v1 :: v2 :: rest) pos) (fun σ H Q => tJs tes Str.empty σ H fun out H1 => Q (.str out) H1) (dJoined ts) :=
  ⟨pe_joined h.pj, fun {G σ H F ρ Q Qd} R q k => h.sem R (strOk_iff.mpr fun c hc => by cases hc) q fun out ρ' H' F' q1 ho s1 R1 => k _ _ _ _ _ q1 s1 R1 (.str _ ho)⟩
end
/-! ### repr(x), x an object with its own __repr__ -/
section
variable {prog : Program} {w : World} {A : Around} {E : Value → Shared → Prop} {s : Shared} {K : PySem.W.Frag} {x C f : Addr} {ox : Obj} {od : Option Obj}
theorem repr_ownK {Q : Value → Shared → Prop} (hu : A.in1.units < cLine) (X : K.In s.heap) (I : PySem.W.InstAt s.heap x ox C od) (hs : PySem.W.findIn K (.ref C) "__repr__" = some (some (.ref f))) (hf : PySem.W.isFn K (.ref f) = true)
    (h : wpAny (model prog w) A.in1 (PySem.call (.ref f) [.ref x]) (fun r s' => ∃ m tk, r = .str m tk ∧ Q (.str m tk) s') E s) : wpAny (model prog w) A (PySem.call (.builtin "repr") [.ref x]) Q E s := by
  refine Calls.call_function_entry F.kind_repr F.plain_repr F.entry_repr (F.args_repr1 _) ?_
  unfold Builtin.«repr»
  refine wpAny_bind (m := oneArg "repr" _) (wpAny_pure ?_)
  refine wpAny_bind (m := cRoomFor _ _) (wpAny_cRoomFor hu ?_)
  refine wpAny_bind (wpAny_bind (I.type.here ((PySem.W.looks_findIn X hs).here ?_)))
  show wpAny _ _ (if (some (Value.ref f)).isNone = true then _ else _) _ _ _
  rw [if_neg (by simp)]
  refine wpAny_bind (m := callSpecialIfBound? (.ref x) (Str.ofString "__repr__") _) (PySem.W.ifBound_K X I hs hf (wpAny_mono h (fun r s' hr => ?_) fun _ _ y => y))
  obtain ⟨m, tk, rfl, hq⟩ := hr
  refine wpAny_bind (wpAny_isInstance (T := "str") (b := true) (typeIs_str _ _ _) isSubtype_str_str ?_)
  first
    | exact wpAny_pure ⟨_, rfl, hq⟩
    | (rw [if_pos rfl]; exact wpAny_pure ⟨_, rfl, hq⟩)
    | (simp only [if_true]; exact wpAny_pure ⟨_, rfl, hq⟩)
end
section
variable {X : Cx}
def rReprO (K : PySem.W.Frag) (C : Addr) (sp : Sp) (E : XK) : List V → Hp → VK → Prop := fun xs H Q => ∃ a dx fs, xs = [.ref a] ∧ H a = some (.ins C dx fs) ∧ sp [.ref a] H (fun v H' => ∃ y, v = .str y ∧ Q v H') E
theorem call_reprO {CX : CXT} {k : Nat} {C g : Addr} {fd : FuncData} {ps : List Str} {sp : Sp} {E : XK} (m : Meth X.K C "__repr__" g) (Fk : FnG X.prog X.w X.K X.mg X.base CX k g fd ps sp) (hgd : X.A.guards = some []) (hr : Room (k + 1) X.A)
    (hb : Binds X.K fd ps []) (hx : Passes CX X.nox E) : CallR X (.builtin "repr") (rReprO X.K C sp E) := by
  intro pins s σ H xs us Q I r h
  obtain ⟨a, dx, fs, rfl, ea, q⟩ := h
  obtain ⟨u, rfl, r1⟩ := vals1 r
  obtain rfl : u = Value.ref a := r1
  obtain ⟨mA, O, _, _, _, _⟩ := ins_get I.hok ea
  obtain ⟨od, J, _⟩ := O.look
  have hl : ([Value.ref a] ++ []).length = ps.length := by
    rw [← Fk.len _ _ _ _ q]
    rfl
  have bt := hb s [.ref a] I.kIn hl
  rw [List.append_nil] at bt
  refine repr_ownK (by have := hr.un; show X.A.units + 1 < _; omega) I.kIn J m.at_ m.fn ?_
  refine wpAny_call (codeAny_mono (Fk.run X.A.in1 X.stack s H ⟨[.ref a], []⟩ [.ref a] [.ref a] _ E hgd hr.in1 I.env0.in1 bt (.cons rfl .nil) q) fun r s' hq => ?_)
  cases r with
  | error er => exact False.elim (hx pins σ H s er s' (I.wish _) hq)
  | ok fl =>
    cases fl with
    | ret u =>
      obtain ⟨v, H', I3, rv, y, rfl, q3⟩ := I.after hq
      obtain ⟨tk, rfl⟩ := rv
      exact ⟨y, tk, rfl, .str y, H', I3, ⟨tk, rfl⟩, q3⟩
    | next => exact False.elim hq
    | brk => exact False.elim hq
    | cont => exact False.elim hq
def gReprO (C : Addr) (sp : SpD) : List D → (Rv → Prop) → Prop
  | [d] => fun Q => isOfC C d ∧ sp [.sh d] fun r _ => ∃ a, r = .v a ∧ D.atom a = true ∧ ∃ y, Rv.v a = .v (.str y) ∧ Q (.v a)
  | _ => fun _ => False
theorem sem_reprO {C : Addr} {sp : SpD} {E : XK} : SemCall X.K (rReprO X.K C (lift X.K sp) E) (gReprO C sp) := by
  intro G σ H F ρ xs as Q Qd R ha h k
  unfold gReprO at h
  split at h
  · rename_i d
    obtain ⟨h1, h⟩ := h
    obtain ⟨x, rfl, p⟩ := pks1 ha
    obtain ⟨a, dx, gs, rfl, e1⟩ := obj_at R.ext p h1
    refine ⟨a, dx, gs, rfl, e1, ?_⟩
    have e : (fun (r : Rv) (_ : SL) => ∃ a, r = .v a ∧ D.atom a = true ∧ ∃ y, Rv.v a = .v (.str y) ∧ Qd (.v a)) = fun r _ => ∃ a, r = .v a ∧ D.atom a = true ∧ (ρ = ρ ∧ ∃ y, Rv.v a = .v (.str y) ∧ Qd (.v a)) := by
      funext r o
      simp only [true_and]
    rw [e] at h
    exact sem_pure (ds := [d]) (Qd := fun r ρ' => ρ' = ρ ∧ ∃ y, r = .v (.str y) ∧ Qd r) R (.cons (p.den R.ext) .nil) h fun r ρ' v H' F' ⟨e2, y, e, q⟩ s1 R1 rd => by
      subst e e2
      have rd : Den X.K F' v (.str y) := rd
      cases rd with
      | str _ b => exact ⟨y, rfl, k _ _ _ _ q s1 R1 (.str _ b)⟩
  · exact h.elim
end
/-! how long a shown text is, by the data alone -/
mutual
def D.oks : D → Bool
  | .str x => PyData.strOk x
  | .lst l => D.okss l
  | .tup l => D.okss l
  | _ => true
def D.okss : List D → Bool
  | [] => true
  | d :: r => D.oks d && D.okss r
end
theorem okss_all : ∀ l : List D, D.okss l = l.all D.oks
  | [] => rfl
  | d :: r => by rw [D.okss, List.all_cons, okss_all r]
mutual
theorem shown_wtP : ∀ (n : Nat) (d : D), d.oks = true → D.fit n d = true → D.small d = true → d.py.shown.length ≤ D.wt d ∧ PyData.strOk d.py.shown = true
  | _, .non, _, _, _ => by rw [D.py, PyData.shown_none, D.wt]; exact ⟨by decide +kernel, strOk_ofString _⟩
  | _, .bl b, _, _, _ => by rw [D.py, PyData.shown_bool, D.wt]; exact ⟨by cases b <;> decide +kernel, by cases b <;> exact strOk_ofString _⟩
  | _, .int i, _, _, h => by
    have h1 : i.natAbs < 2 ^ 240 := by simpa [D.small] using h
    rw [D.py, PyData.shown_int, D.wt, ofString_length]
    have := int_text_length_le (a := i) (k := 240) (by decide) (by
      by_cases h0 : i.natAbs = 0
      · rw [h0]; decide
      · exact (Nat.log2_lt h0).mpr h1)
    exact ⟨by omega, strOk_ofString _⟩
  | _, .str x, a, _, _ => by
    rw [D.oks] at a
    rw [D.py, PyData.shown_str, D.wt]; exact ⟨reprText_len a, strOk_reprText a⟩
  | 0, .lst _, _, e, _ => by simp [D.fit] at e
  | 0, .tup _, _, e, _ => by simp [D.fit] at e
  | n + 1, .lst l, a, e, h => by
    rw [D.fit] at e
    rw [D.small] at h
    rw [D.oks] at a
    obtain ⟨h1, h3⟩ := showns_wtP n l a e h
    have h2 := join_le (PyData.shownAll (D.pys l))
    rw [D.py, PyData.shown_list, D.wt, strLen_append, strLen_append]
    have e1 : (Str.ofString "[").length = 1 := rfl
    have e2 : (Str.ofString "]").length = 1 := rfl
    exact ⟨by omega, strOk_append (strOk_append (strOk_ofString _) (strOk_strJoin (strOk_ofString _) _ h3)) (strOk_ofString _)⟩
  | n + 1, .tup l, a, e, h => by
    rw [D.fit] at e
    rw [D.small] at h
    rw [D.oks] at a
    obtain ⟨h1, h3⟩ := showns_wtP n l a e h
    have h2 := join_le (PyData.shownAll (D.pys l))
    rw [D.py, PyData.shown_tuple, D.wt, strLen_append, strLen_append]
    have e1 : (Str.ofString "(").length = 1 := rfl
    have e2 : (Str.ofString (if ((D.pys l).length == 1) = true then ",)" else ")")).length ≤ 2 := by split <;> decide
    exact ⟨by omega, strOk_append (strOk_append (strOk_ofString _) (strOk_strJoin (strOk_ofString _) _ h3)) (strOk_ofString _)⟩
  | _, .dct _, _, e, _ => by simp [D.fit] at e
  | _, .obj _ _, _, e, _ => by simp [D.fit] at e
  | _, .scr _, _, e, _ => by simp [D.fit] at e
  | _, .rep _, _, e, _ => by simp [D.fit] at e
  | _, .at _, _, e, _ => by simp [D.fit] at e
  | _, .exc _ _ _ _ _, _, e, _ => by simp [D.fit] at e
  | _, .dx _ _, _, e, _ => by simp [D.fit] at e
  | _, .unk, _, e, _ => by simp [D.fit] at e
theorem showns_wtP : ∀ (n : Nat) (l : List D), D.okss l = true → D.fits n l = true → D.smalls l = true → ((PyData.shownAll (D.pys l)).map fun t => t.length + 2).sum ≤ D.wts l ∧ ∀ t ∈ PyData.shownAll (D.pys l), PyData.strOk t = true
  | _, [], _, _, _ => by rw [D.pys, PyData.shownAll_nil, D.wts]; exact ⟨Nat.le_refl _, fun t ht => nomatch ht⟩
  | n, d :: r, a, e, s => by
    rw [D.okss, Bool.and_eq_true] at a
    rw [D.fits, Bool.and_eq_true] at e
    rw [D.smalls, Bool.and_eq_true] at s
    obtain ⟨h1, h3⟩ := shown_wtP n d a.1 e.1 s.1
    obtain ⟨h2, h4⟩ := showns_wtP n r a.2 e.2 s.2
    rw [D.pys, PyData.shownAll_cons, D.wts, List.map_cons, List.sum_cons]
    refine ⟨by omega, fun t ht => ?_⟩
    rcases List.mem_cons.mp ht with z | z
    · rw [z]; exact h3
    · exact h4 t z
end
theorem Good.shown_le {k w : Nat} {d : D} (h : Good k w d) (o : d.oks = true) (hk : k ≤ 60) : d.py.shown.length ≤ w :=
  Nat.le_trans (shown_wtP 60 d o (fit_up hk h.fit) h.small).1 h.wt
end DL

/-! The order of lists of texts. -/
namespace DL
open PySem L2
end DL

/-! Comparisons by views as tests; stores into things that a pile holds. -/
namespace DL
open PySem L2
section
variable {X : Cx}
theorem dt_neV (g : Nat) (hu : X.A.units + 64 < cLine) {ta tb : TE} {a b : Expr} {da db : TQ} {pos : Pos} (ha : DO X a ta da) (hb : DO X b tb db) (hm : behindInMarks .NotEq b = false) : DT X (.Compare a [.NotEq] [b] pos) (tTest (tOp (rNeA X.K) ta tb)) (bOf (dCmpV g not da db)) :=
  ⟨pt_cmpR (op_neA hu) ha.pe hb.pe hm, fun R q k => sem_bOf (fun R q kk => sem_cmpV g ha hb (fun {H x y a b Q} da db fa fb q => .inl ⟨a.py, b.py, Den.dp da fa, Den.dp db fb, shaped_of da fa, shaped_of db fb, by rw [eqv_py a b 60 60 fa fb]; exact q⟩) R q kk) R q k⟩
/-! ### e[i] = v, e an expression whose value a pile holds -/
theorem sem_storeP {K : PySem.W.Frag} {G : Cd} {σ : L2.St} {H F : Hp} {ρ : SL} {g : Nat} {hs : Pile} {c : Cn} {p : Addr} {x v : V} {a d : D} {Q : Hp → Prop} {Qd : Cn → Prop} (R : Rep K G σ H F ρ) (h : plOf ρ g = some hs) (hl : hs.lookup p = some c)
    (hx : Pk K F H x a) (hv : Den K F v d) (q : cnSet c a d Qd) (k : ∀ c' o, Qd c' → Rep K G σ (upd H p o) F (ρ.set g (.pl (plSet hs p c'))) → Q (upd H p o)) : rSetA (.ref p) x v H Q := by
  obtain ⟨hh, _⟩ := R.plHas h hl
  unfold cnSet at q
  split at q
  · obtain ⟨j, e, q⟩ := q
    cases hx.int
    obtain ⟨xs, a1, a2⟩ := hh
    exact .inl ⟨p, xs, _, j, rfl, rfl, a1, by rw [a2.length]; exact e, k _ _ q (R.plWrite h hl ⟨_, upd_same, DenL.set hv j a2⟩)⟩
  · obtain ⟨k1, e, hz, q⟩ := q
    obtain ⟨ks, a1, a2⟩ := hh
    have ko := hx.keyOk e
    have := hx.key e
    subst this
    exact .inr ⟨p, _, rfl, DPut.k a1 (by rw [a2.length]; exact hz), k _ _ q (R.plWrite h hl ⟨_, upd_same, a2.put hv k1 ko⟩)⟩
  · exact q.elim
def sStoreP (g : Nat) (te t0 : TD) (ti : TQ) : TSD := fun E ρ => te ρ fun r ρ1 => t0 ρ1 fun r0 ρ2 => ti ρ2 fun o ρ3 => ∃ p hs c a, r0.dat = .at p ∧ plOf ρ3 g = some hs ∧ hs.lookup p = some c ∧ o.get ρ3 = some a ∧ cnSet c a r.dat fun c' => E.nx (ρ3.set g (.pl (plSet hs p c')))
theorem ds_storeP (g : Nat) {tpos pos : Pos} {b ix e : Expr} {te ti tb : TE} {t t0 : TD} {u : TQ} (hu : X.A.units + 1 < cLine) (hb : DE X b tb t0) (hi : DO X ix ti u) (he : DE X e te t)
    (hpg : PG X (.Subscript b ix tpos) (gSub tb ti rSetA))
    (hs : swapsWithSole [.Subscript b ix tpos] e pos.line X.env = pure false := by rfl) (hw : swappedStores [.Subscript b ix tpos] e X.env = pure none := by rfl)
    (h1 : (assignEach [.Subscript b ix tpos] X.env).map (·.2) = [assign (.Subscript b ix tpos) X.env] := by rfl) :
    DS X (.Assign [.Subscript b ix tpos] e pos) (tAsg te (gSub tb ti rSetA)) (sStoreP g t t0 u) := by
  refine ⟨ps_asg he.pe hpg hs hw h1, fun R q L => he.sem R q fun r ρ1 v H1 F1 q1 s1 R1 rd => ?_⟩
  obtain ⟨F1', s1', R1', d1⟩ := R1.share rd
  refine hb.sem R1' q1 fun r0 ρ2 w H2 F2 q2 s2 R2 rd2 => ?_
  obtain ⟨F2', s2', R2', d2⟩ := R2.share rd2
  refine hi.sem R2' q2 fun o ρ3 y H3 F3 q3 s3 R3 d3 => ?_
  obtain ⟨p, hs, c, a, e1, e2, e3, e4, q3⟩ := q3
  rw [e1] at d2
  cases d2
  exact sem_storeP R3 e2 e3 (d3.pk R3 e4) (d1.mono (s2.trans (s2'.trans s3))) q3 fun c' o' qd R4 => L.nx _ _ _ _ qd R4
end
end DL

/-! sorted(set(texts)). -/
namespace DL
open PySem PySem.Spec L2 PyProof.Rows
/-! ### sets of texts, with what a walk over them wants -/
def TxE (P : Program) (w : World) (e : Int × Value) : Prop := ∃ (x : Str) (k : Tok), e.2 = .str x k ∧ e.1 = (PySem.strKind P w).hash x
def txOf (e : Int × Value) : Str := match e.2 with
  | .str x _ => x
  | _ => Str.empty
def SetX (P : Program) (w : World) (h : Heap) (a : Addr) (S : Str → Bool) (n : Nat) : Prop :=
  ∃ o es ep t, h.get? a = some o ∧ o.ExactSet ∧ o.data = .set es ep t ∧ (∀ e ∈ es.toList, TxE P w e) ∧ (es.toList.map txOf).Nodup ∧ (∀ x, S x = true ↔ x ∈ es.toList.map txOf) ∧
    es.size < scanBound ∧ t.fits es.size = true ∧ es.size = n ∧ Ris t.place.toList ∧ (w.params.followText "set-order" = true ∨ t.led = true)
section
variable {P : Program} {w : World} {h h' : Heap} {a : Addr} {S S' : Str → Bool} {n : Nat}
theorem SetX.eqv (R : SetX P w h a S n) (e : ∀ k, S' k = S k) {m : Nat} (hm : m = n) : SetX P w h a S' m := by
  rw [show S' = S from funext e, hm]; exact R
end
section
variable {P : Program} {w : World} {A : Around} {E : Value → Shared → Prop} {s : Shared} {a : Addr} {S : Str → Bool} {n : Nat}
/-! ### sorted of such a set -/
end
/-! ### the texts of a list, each once, in order -/
section
variable {X : Cx}
end
end DL

/-! dict(pairs), dict(d). -/
namespace DL
open PySem L2
def pairsD : List D → Option (List (Key × D))
  | [] => some []
  | .tup [k, d] :: r => match k.key, pairsD r with
    | some k, some r => some ((k, d) :: r)
    | _, _ => none
  | _ :: _ => none
theorem DenL.pairs {K : PySem.W.Frag} {F : Hp} : ∀ {l : List D} {vs : List V} {kvs : List (Key × D)}, DenL K F vs l → pairsD l = some kvs → ∃ (ps : List Addr) (ks : List (Key × V)), vs = ps.map V.ref ∧ Paired (fun p (kv : Key × V) => F p = some (.tup [kV kv.1, kv.2])) ps ks ∧ DenK K F ks kvs
  | [], _, kvs, h, e => by
    cases h
    rw [pairsD] at e
    cases e
    exact ⟨[], [], rfl, .nil, .nil⟩
  | d :: r, _, kvs, h, e => by
    unfold pairsD at e
    split at e
    · rename_i heq
      cases heq
    · rename_i k d' r' heq
      cases heq
      cases ek : k.key with
      | none => simp only [ek] at e; cases e
      | some k1 =>
        cases er : pairsD r with
        | none => simp only [ek, er] at e; cases e
        | some kvs' =>
          simp only [ek, er] at e
          cases e
          cases h with
          | cons a t =>
            obtain ⟨ps, ks, rfl, h1, h2⟩ := t.pairs er
            cases a with
            | @tup p xs _ hp hx =>
              cases hx with
              | cons x1 t1 =>
                cases t1 with
                | cons x2 t2 =>
                  cases t2
                  have hpk : Pk K F F _ k := .inl x1
                  have ko := hpk.keyOk ek
                  have kx := hpk.key ek
                  subst kx
                  exact ⟨p :: ps, (k1, _) :: ks, rfl, .cons hp h1, .cons x2 ko h2⟩
    · cases e
section
variable {X : Cx}
end
end DL

/-! a, b, .. = a list. -/
namespace DL
open PySem L2
section
variable {X : Cx}
end
end DL

/-! sorted(set(ints)). -/
namespace DL
namespace SI
open PySem PySem.Spec L2 PyProof.Rows
/-- the texts met so far, each once -/
def met : List Int → List Int
  | [] => []
  | x :: r => if (met r).any (· == x) = true then met r else x :: met r
def metT (xs : List Int) (i : Nat) : List Int := met (xs.take i).reverse
theorem metT_succ {xs : List Int} {i : Nat} (h : i < xs.length) : metT xs (i + 1) = if (metT xs i).any (· == xs[i]) = true then metT xs i else xs[i] :: metT xs i := by
  unfold metT
  rw [List.take_succ_eq_append_getElem h, List.reverse_append, List.reverse_singleton, List.singleton_append, met]
section
variable {P : Program} {w : World} {A : Around} {E : Value → Shared → Prop} {s : Shared} {a : Addr} {S : Int → Bool} {n : Nat}
end
/-! ### the texts of a list, each once, in order -/
section
variable {X : Cx}
end
end SI
end DL

/-! zip of a lent list and another variable's. -/
namespace DL
open PySem PySem.Spec L2 PyProof.Rows
section
variable {K : PySem.W.Frag}
end
section
variable {X : Cx}
end
end DL

/-! a list compared with an empty one: by lengths alone, whatever the items are. -/
namespace DL
open PySem PySem.Spec L2 PyProof.Rows
section
variable {X : Cx}
end
end DL

/-! comprehensions over a call that may raise; such a list backward. -/
namespace DL
open PySem L2
section
variable {X : Cx} {tg : Expr}
end
end DL

/-! x == y, both of a class with its own __eq__. -/
namespace DL
open PySem L2
section
variable {X : Cx}
end
end DL

/-! repr(x) where x holds things of the pile. -/
namespace DL
open PySem L2
section
variable {X : Cx}
end
end DL

/-! xs.pop() of a list of one's own. -/
namespace DL
open PySem L2
section
variable {X : Cx}
end
end DL

/-! repr(x) as a text (to be a key, say). -/
namespace DL
open PySem L2
section
variable {X : Cx}
def gReprS : List D → (Rv → Prop) → Prop
  | [d] => fun Q => D.fitR 60 d = true ∧ D.small d = true ∧ D.wt d ≤ 16777216 ∧ Q (.v (.str d.py.shown))
  | _ => fun _ => False
theorem sem_reprS : SemCall X.K rReprE gReprS := by
  intro G σ H F ρ xs as Q Qd R ha h k
  unfold gReprS at h
  split at h
  · rename_i d
    obtain ⟨h1, h2, h3, h⟩ := h
    obtain ⟨x, rfl, p⟩ := pks1 ha
    have dd := p.den R.ext
    obtain ⟨z1, z2, z3, z4⟩ := den_dr 60 d x dd h1 h2
    exact ⟨x, d.py, rfl, z1, z2, z3, le_size (Nat.le_trans z4 h3), k _ _ _ _ h (Same.refl _) R (.str _ (shown_ok 60 d x dd h1))⟩
  · exact h.elim
end
end DL

/-! a or b, where a new thing stays one's own. -/
namespace DL
open PySem PySem.Spec L2 PyProof.Rows
section
variable {X : Cx}
theorem np_fr {c : Cn} : (Rv.fr c).np = True := rfl
theorem np_v {d : D} : (Rv.v d).np = True := rfl
end
end DL

/-! x == y, x of a class with its own __eq__, y any thing; isinstance(y, C) of any thing. -/
namespace DL
open PySem L2
section
variable {X : Cx}
end
end DL

/-! x[::-1] of a tuple. -/
namespace DL
open PySem PySem.Spec PyProof.Rows L2
open PySem.SeqAt PySem.Calls
section
variable {prog : Program} {w : World} {A : Around} {E : Value → Shared → Prop} {s : Shared}
end
section
variable {X : Cx}
/-! ### at the data -/
end
end DL

/-! len(x), x of a class with its own __len__. -/
namespace DL
open PySem PySem.Spec PyProof.Rows L2
section
variable {prog : Program} {w : World} {A : Around} {E : Value → Shared → Prop} {s : Shared} {K : PySem.W.Frag} {x C f : Addr} {ox : Obj} {od : Option Obj}
theorem len_ownK {Q : Value → Shared → Prop} (X : K.In s.heap) (I : PySem.W.InstAt s.heap x ox C od) (hs : PySem.W.findIn K (.ref C) "__len__" = some (some (.ref f))) (hf : PySem.W.isFn K (.ref f) = true)
    (h : wpAny (model prog w) A.in1 (PySem.call (.ref f) [.ref x]) (fun r s' => ∃ (n : Int) (tk : Tok), r = .int n tk ∧ 0 ≤ n ∧ n < 2 ^ 63 ∧ Q (.int n s'.toks) { s' with toks := s'.toks + 1 }) E s) : wpAny (model prog w) A (PySem.call (.builtin "len") [.ref x]) Q E s := by
  refine Calls.call_function_entry kind_len plain_len entry_len (args_len1 _) ?_
  unfold Builtin.«len»
  refine wpAny_bind (m := oneArg "len" _) (wpAny_pure ?_)
  refine wpAny_bind (m := callSpecial? (.ref x) (PySem.Str.ofString "__len__")) (PySem.W.special_fn X I hs (beq_iff_eq.mp hf) (wpAny_mono h (fun r s' hr => ?_) fun _ _ y => y))
  obtain ⟨n, tk, rfl, h0, h1, hq⟩ := hr
  refine wpAny_bind (wpAny_holding (wpAny_pure ?_))
  refine wpAny_bind (wpAny_letGo ?_)
  show wpAny _ _ (if n < 0 then _ else _) _ _ _
  rw [if_neg (by omega)]
  show wpAny _ _ (if n ≥ 2 ^ 63 then _ else _) _ _ _
  rw [if_neg (by omega)]
  exact wpAny_bind (wpAny_mkInt (wpAny_pure ⟨_, rfl, hq⟩))
end
section
variable {X : Cx}
def rLenO (K : PySem.W.Frag) (C : Addr) (sp : Sp) (E : XK) : List V → Hp → VK → Prop := fun xs H Q => ∃ a dx fs, xs = [.ref a] ∧ H a = some (.ins C dx fs) ∧ sp [.ref a] H (fun v H' => ∃ n : Int, v = .int n ∧ 0 ≤ n ∧ n < 2 ^ 63 ∧ Q v H') E
theorem call_lenO {CX : CXT} {k : Nat} {C g : Addr} {fd : FuncData} {ps : List Str} {sp : Sp} {E : XK} (m : Meth X.K C "__len__" g) (Fk : FnG X.prog X.w X.K X.mg X.base CX k g fd ps sp) (hgd : X.A.guards = some []) (hr : Room (k + 1) X.A)
    (hb : Binds X.K fd ps []) (hx : Passes CX X.nox E) : CallR X (.builtin "len") (rLenO X.K C sp E) := by
  intro pins s σ H xs us Q I r h
  obtain ⟨a, dx, fs, rfl, ea, q⟩ := h
  obtain ⟨u, rfl, r1⟩ := vals1 r
  obtain rfl : u = Value.ref a := r1
  obtain ⟨mA, O, _, _, _, _⟩ := ins_get I.hok ea
  obtain ⟨od, J, _⟩ := O.look
  have hl : ([Value.ref a] ++ []).length = ps.length := by
    rw [← Fk.len _ _ _ _ q]
    rfl
  have bt := hb s [.ref a] I.kIn hl
  rw [List.append_nil] at bt
  refine len_ownK I.kIn J m.at_ m.fn ?_
  refine wpAny_call (codeAny_mono (Fk.run X.A.in1 X.stack s H ⟨[.ref a], []⟩ [.ref a] [.ref a] _ E hgd hr.in1 I.env0.in1 bt (.cons rfl .nil) q) fun r s' hq => ?_)
  cases r with
  | error er => exact False.elim (hx pins σ H s er s' (I.wish _) hq)
  | ok fl =>
    cases fl with
    | ret u =>
      obtain ⟨v, H', I3, rv, n, rfl, h0, h1, q3⟩ := I.after hq
      obtain ⟨tk, rfl⟩ := rv
      exact ⟨n, tk, rfl, h0, h1, .int n, H', I3.tok _, ⟨_, rfl⟩, q3⟩
    | next => exact False.elim hq
    | brk => exact False.elim hq
    | cont => exact False.elim hq
def gLenO (C : Addr) (sp : SpD) : List D → (Rv → Prop) → Prop
  | [d] => fun Q => isOfC C d ∧ sp [.sh d] fun r _ => ∃ a, r = .v a ∧ D.atom a = true ∧ ∃ n : Int, Rv.v a = .v (.int n) ∧ 0 ≤ n ∧ n < 2 ^ 63 ∧ Q (.v a)
  | _ => fun _ => False
theorem sem_lenO {C : Addr} {sp : SpD} {E : XK} : SemCall X.K (rLenO X.K C (lift X.K sp) E) (gLenO C sp) := by
  intro G σ H F ρ xs as Q Qd R ha h k
  unfold gLenO at h
  split at h
  · rename_i d
    obtain ⟨h1, h⟩ := h
    obtain ⟨x, rfl, p⟩ := pks1 ha
    obtain ⟨a, dx, gs, rfl, e1⟩ := obj_at R.ext p h1
    refine ⟨a, dx, gs, rfl, e1, ?_⟩
    have e : (fun (r : Rv) (_ : SL) => ∃ a, r = .v a ∧ D.atom a = true ∧ ∃ n : Int, Rv.v a = .v (.int n) ∧ 0 ≤ n ∧ n < 2 ^ 63 ∧ Qd (.v a)) = fun r _ => ∃ a, r = .v a ∧ D.atom a = true ∧ (ρ = ρ ∧ ∃ n : Int, Rv.v a = .v (.int n) ∧ 0 ≤ n ∧ n < 2 ^ 63 ∧ Qd (.v a)) := by
      funext r o
      simp only [true_and]
    rw [e] at h
    exact sem_pure (ds := [d]) (Qd := fun r ρ' => ρ' = ρ ∧ ∃ n : Int, r = .v (.int n) ∧ 0 ≤ n ∧ n < 2 ^ 63 ∧ Qd r) R (.cons (p.den R.ext) .nil) h fun r ρ' v H' F' ⟨e2, n, e, h0, h1, q⟩ s1 R1 rd => by
      subst e e2
      have rd : Den X.K F' v (.int n) := rd
      cases rd with
      | int _ => exact ⟨n, rfl, h0, h1, k _ _ _ _ q s1 R1 (.int _)⟩
  · exact h.elim
end
end DL

/-! generator defs: for loops inside. -/
namespace PySem
open Sem (wp)
section
variable {prog : Program} {w : World} {A : Around} {R : GenEnd} {Y : Protocol} {n : Nat} {s₀ : Shared} {c : Code} {fs : List Frame} {s : Shared} {env : Env}
  {K : Flow → Sem Fin} {H : Value → Sem Fin} {gd : Bool → Bool} {lv : List Value → List Value}
end
end PySem
namespace L2
open PySem PySem.Spec PyProof.Rows GenW
section
variable {X : Cx}
end
end L2

/-! C(..), its __init__ may raise. -/
namespace DL
open PySem PySem.Spec L2 PyProof.Rows
section
variable {X : Cx}
end
end DL

/-! a dict looked for among texts. -/
namespace DL
open PySem PySem.Spec PyProof.Rows L2
open PySem.SeqAt PySem.Calls
open PySem.AutoSeq1 (wpAny_loadPart')
section
theorem dict_eq_declines_str (l : Addr) (dd : Option Addr) (da : Data) (sl : Array (Option Value)) (b : Str) (u : Tok) :
    Meets (Builtin.«dict.__eq__» ⟨[.ref l, .str b u], []⟩) (fun _ R s => s.heap.get? l = some { cls := .type "dict", dict := dd, data := da, slots := sl } ∧ R (.ok (.ret .notImplemented)) s) :=
  .of_wp fun prog w A R s h => by
    obtain ⟨hp, g, d, tk, os⟩ := s
    obtain ⟨hl, h⟩ := h
    have f1 := F.sub_str_dict
    wp_walk using wpAny_loadPart' hl, wpAny_load hl
    exact ⟨_, rfl, h⟩
theorem str_eq_declines_dict (b : Str) (u : Tok) (l : Addr) (c : Value) (dd : Option Addr) (es : Array DictEntry) (ep : Nat) (sl : Array (Option Value)) :
    Meets (Builtin.«str.__eq__» ⟨[.str b u, .ref l], []⟩) (fun _ R s => s.heap.get? l = some { cls := c, dict := dd, data := .dict es ep, slots := sl } ∧ R (.ok (.ret .notImplemented)) s) :=
  .of_wp fun prog w A R s h => by
    obtain ⟨hp, g, d, tk, os⟩ := s
    obtain ⟨hl, h⟩ := h
    wp_walk using wpAny_loadPart' hl, wpAny_load hl
    exact ⟨_, rfl, h⟩
theorem rc_str_dict {A : Around} {s : Shared} {l : Addr} {o : Obj} {es : Array DictEntry} {ep : Nat} (b : Str) (u : Tok) (ho : s.heap.get? l = some o) (hc : o.cls = .type "dict") (hd : o.data = .dict es ep) (hu : A.units < cLine) : RcAt A s (.str b u) (.ref l) false := fun prog w E Q h => by
  obtain ⟨cls, dd, data, sl⟩ := o
  simp only at hc hd
  subst hc hd
  exact rc_eq_decline_or (k := false) (typeIs_str s b u) ⟨_, ho, rfl⟩ (by decide) (by rw [isSubtype_type]; kernel_rfl) F.slot_str_eq F.slot_dict_eq_refl
    (fun _ hq => call_meets F.slot_str_eq (typeIs_str s b u) F.entry_str_eq (F.args_str_eq_2 _ _) (str_eq_declines_dict b u l (.type "dict") dd es ep sl) ⟨ho, hq⟩)
    (fun _ hq => call_meets F.slot_dict_eq_refl ⟨_, ho, rfl⟩ F.entry_dict_eq (F.args_dict_eq_2 _ _) (dict_eq_declines_str l dd (.dict es ep) sl b u) ⟨ho, hq⟩)
    (fun _ hq => wpAny_of_eq (rfl : isSame (.str b u) (.ref l) = pure false) hq) (.inr hu) h
theorem eq_str_dict {A : Around} {s : Shared} {l : Addr} {o : Obj} {es : Array DictEntry} {ep : Nat} (b : Str) (u : Tok) (ho : s.heap.get? l = some o) (hc : o.cls = .type "dict") (hd : o.data = .dict es ep) (hu : A.units < cLine) : EqAt A s (.str b u) (.ref l) false := fun prog w E Q h => by
  unfold eqBool
  refine wpAny_holding ?_
  refine wpAny_ite_split (fun hab => absurd (eq_of_beq hab) nofun) (fun _ => ?_)
  exact wpAny_bind (rc_str_dict b u ho hc hd hu prog w E _ (wpAny_truthy_bool h))
end
section
variable {X : Cx}
/-- x a dict, y a list of texts -/
def rInK (K : PySem.W.Frag) (f : Bool → Bool) : R2 := fun x y H Q => ∃ (a p : Addr) (kvs : List (Key × V)) (ys : List Str), x = .ref a ∧ y = .ref p ∧ H a = some (.dK kvs) ∧ SqL K H p (ys.map V.str) ∧ Q (.bl (f false)) H
theorem strs_valsK : ∀ {ys : List Str} {us : List Value}, Vals (ys.map V.str) us → ∀ u ∈ us, ∃ z t, u = .str z t
  | [], _, h => fun u hu => by cases h; cases hu
  | y :: r, _, h => fun u hu => by
    rw [List.map_cons] at h
    cases h with
    | cons a b =>
      rcases List.mem_cons.mp hu with rfl | hu
      · obtain ⟨t, rfl⟩ := a; exact ⟨_, _, rfl⟩
      · exact strs_valsK b u hu
theorem dict_at {pins : List (Addr × Obj)} {σ : L2.St} {H : Hp} {s : Shared} {a : Addr} {kvs : List (Key × V)} (I : Inv X pins σ H s) (h : H a = some (.dK kvs)) : ∃ o es ep, s.heap.get? a = some o ∧ o.cls = .type "dict" ∧ o.data = .dict es ep := by
  obtain ⟨_, _, vs, _, o, es, ep, h1, h2, h3, _⟩ := (show ObjOk X.prog X.w H s.heap a (.dK kvs) from I.hok a _ h)
  exact ⟨o, es, ep, h1, h2.1, h3⟩
theorem op_inK (hu : X.A.units + 65 < cLine) : OpR X (compareOp .In) (rInK X.K id) := by
  intro pins s σ H x y v u Q I rx ry h
  obtain ⟨a, p, kvs, ys, rfl, rfl, ha, hp, q⟩ := h
  cases rx
  cases ry
  obtain ⟨its, r, pl, hz⟩ := I.list hp
  obtain ⟨o, es, ep, h1, h2, h3⟩ := dict_at I ha
  refine SeqAt.in_listAt (fun _ => false) pl.isList (fun w hw => ?_) ⟨.bl false, H, I, ?_, q⟩
  · obtain ⟨z, t, rfl⟩ := strs_valsK r w (by simpa using hw)
    exact eq_str_dict z t h1 h2 h3 (by show X.A.units + 1 < cLine; omega)
  · show _ = Value.bool false
    simp
theorem op_notInK (hu : X.A.units + 65 < cLine) : OpR X (compareOp .NotIn) (rInK X.K not) := by
  intro pins s σ H x y v u Q I rx ry h
  obtain ⟨a, p, kvs, ys, rfl, rfl, ha, hp, q⟩ := h
  cases rx
  cases ry
  obtain ⟨its, r, pl, hz⟩ := I.list hp
  obtain ⟨o, es, ep, h1, h2, h3⟩ := dict_at I ha
  refine SeqAt.notIn_listAt (fun _ => false) pl.isList (fun w hw => ?_) ⟨.bl true, H, I, ?_, q⟩
  · obtain ⟨z, t, rfl⟩ := strs_valsK r w (by simpa using hw)
    exact eq_str_dict z t h1 h2 h3 (by show X.A.units + 1 < cLine; omega)
  · show _ = Value.bool true
    simp
def rInX (K : PySem.W.Frag) : R2 := fun x y H Q => rInK K id x y H Q ∨ rInA K x y H Q
def rNotInX (K : PySem.W.Frag) : R2 := fun x y H Q => rInK K not x y H Q ∨ rNotInA K x y H Q
theorem op_inX (hu : X.A.units + 65 < cLine) : OpR X (compareOp .In) (rInX X.K) := (op_inK hu).or (op_inA hu)
theorem op_notInX (hu : X.A.units + 65 < cLine) : OpR X (compareOp .NotIn) (rNotInX X.K) := (op_notInK hu).or (op_notInA hu)
def gInX (f : Bool → Bool) (a b : D) (Q : Rv → Prop) : Prop := (∃ (kvs : List (Key × D)) (ys : List Str), a = .dct kvs ∧ b = .lst (ys.map D.str) ∧ Q (.v (.bl (f false)))) ∨ gIn f a b Q
theorem denL_strs {K : PySem.W.Frag} {F : Hp} : ∀ {ys : List Str} {vs : List V}, DenL K F vs (ys.map D.str) → vs = ys.map V.str
  | [], _, h => by cases h; rfl
  | y :: r, _, h => by
    rw [List.map_cons] at h
    cases h with
    | cons a b => cases a; rw [List.map_cons, denL_strs b]
theorem sem_inX : SemOp X.K (rInX X.K) (gInX id) := by
  intro G σ H F ρ x y a b Q Qd R ha hb h k
  rcases h with ⟨kvs, ys, rfl, rfl, q⟩ | h
  · obtain ⟨p, ks, rfl, h1, _⟩ := ha.dct R.ext
    obtain ⟨l, xs, rfl, h2, d2⟩ := hb.lst R.ext
    exact .inl ⟨p, l, ks, ys, rfl, rfl, h1, by rw [← denL_strs d2]; exact .inl (.inl h2), k _ _ _ _ q (Same.refl _) R (.bl _)⟩
  · exact .inr (sem_in R ha hb h k)
theorem sem_notInX : SemOp X.K (rNotInX X.K) (gInX not) := by
  intro G σ H F ρ x y a b Q Qd R ha hb h k
  rcases h with ⟨kvs, ys, rfl, rfl, q⟩ | h
  · obtain ⟨p, ks, rfl, h1, _⟩ := ha.dct R.ext
    obtain ⟨l, xs, rfl, h2, d2⟩ := hb.lst R.ext
    exact .inl ⟨p, l, ks, ys, rfl, rfl, h1, by rw [← denL_strs d2]; exact .inl (.inl h2), k _ _ _ _ q (Same.refl _) R (.bl _)⟩
  · exact .inr (sem_notIn R ha hb h k)
end
/-- a method whose body may raise -/
structure CalMX (P : Program) (w : World) (K : PySem.W.Frag) (mg : Str → Option Value) (base : Heap) (k : Nat) (f : Addr) (fd : FuncData) (ps : List Str) (sp : SpX) : Prop where
  b : Binds K fd ps []
  ok : FnG P w K mg base (L2N.CX P w) k f fd ps (liftX K sp)
end DL

/-! defs with one keyword-only parameter that has an int for its default. -/
namespace DL
open PySem PySem.Spec L2 PyProof.Rows
section
variable {X : Cx}
end
end DL

/-! more places where an expression may raise: arguments, operands, branches, targets. -/
namespace DL
open PySem PySem.Spec L2 PyProof.Rows
section
variable {X : Cx}
end
end DL

/-! truths in all places of sums, differences, products; a truth turned about. -/
namespace DL
open PySem PySem.Spec L2 PyProof.Rows
section
variable {prog : Program} {w : World} {A : Around} {E : Value → Shared → Prop} {s : Shared}
end
section
variable {X : Cx}
end
end DL

/-! sum of a tuple; a def with a keyword-only parameter called in look mode. -/
namespace DL
open PySem PySem.Spec L2 PyProof.Rows
section
variable {X : Cx}
end
end DL

/-! Dicts whose keys are tuples of texts, numbers and such tuples: k in d, d[k], d[k] = v, len(d), {k: v}. -/
namespace DL
open PySem L2 PySem.W

/-! ### at the level of things -/
section
variable {P : Program} {w : World} {H : Hp} {h : Heap} {a : Addr}
abbrev YL := List (NestedKey × Addr × V)
abbrev XL := List (NestedKey × Addr × Value)
abbrev YR : YL → XL → Prop := Paired fun (p : NestedKey × Addr × V) (q : NestedKey × Addr × Value) => p.1 = q.1 ∧ p.2.1 = q.2.1 ∧ RelV p.2.2 q.2.2
/-- the keys are there -/
def YK (H : Hp) (ys : YL) : Prop := ∀ y ∈ ys, DN H (.ref y.2.1) y.1 ∧ y.1.depth ≤ 8
def yGet (ys : YL) (k : NestedKey) : Option V := (ys.find? fun y => decide (y.1 = k)).map (·.2.2)
def yPut (ys : YL) (k : NestedKey) (b : Addr) (v : V) : YL := if (ys.any fun y => decide (y.1 = k)) = true then ys.map fun y => if y.1 = k then (y.1, y.2.1, v) else y else ys ++ [(k, b, v)]
theorem YR.get {ys : YL} {xs : XL} (k : NestedKey) (r : YR ys xs) : (yGet ys k = none ∧ atKey xs k = none) ∨ ∃ v p, yGet ys k = some v ∧ atKey xs k = some p ∧ RelV v p.2 := by
  unfold yGet atKey
  induction r with
  | nil => exact .inl ⟨rfl, rfl⟩
  | @cons p q ps qs hq t ih =>
    by_cases e : p.1 = k
    · refine .inr ⟨p.2.2, q.2, ?_, ?_, hq.2.2⟩
      · rw [List.find?_cons_of_pos (by simpa using e)]; rfl
      · rw [List.find?_cons_of_pos (by rw [← hq.1]; simpa using e)]; rfl
    · rw [List.find?_cons_of_neg (by simpa using e), List.find?_cons_of_neg (by rw [← hq.1]; simpa using e)]
      exact ih
theorem YR.any {ys : YL} {xs : XL} (k : NestedKey) (r : YR ys xs) : (atKey xs k).isSome = (ys.any fun y => decide (y.1 = k)) := by
  unfold atKey
  induction r with
  | nil => rfl
  | @cons p q ps qs hq t ih =>
    by_cases e : p.1 = k
    · rw [List.find?_cons_of_pos (by rw [← hq.1]; simpa using e), List.any_cons, decide_eq_true e]; rfl
    · rw [List.find?_cons_of_neg (by rw [← hq.1]; simpa using e), List.any_cons, decide_eq_false e, Bool.false_or]
      exact ih
theorem YR.app {ys ys2 : YL} {xs xs2 : XL} (r : YR ys xs) (r2 : YR ys2 xs2) : YR (ys ++ ys2) (xs ++ xs2) := by
  induction r with
  | nil => exact r2
  | cons h t ih => exact .cons h ih
theorem YR.mapPut {k : NestedKey} {v : V} {u : Value} (rv : RelV v u) {ys : YL} {xs : XL} (r : YR ys xs) : YR (ys.map fun y => if y.1 = k then (y.1, y.2.1, v) else y) (xs.map (putAt k u)) := by
  induction r with
  | nil => exact .nil
  | @cons p q ps qs hq t ih =>
    rw [List.map_cons, List.map_cons]
    refine .cons ?_ ih
    unfold putAt
    by_cases e : p.1 = k
    · rw [if_pos e, if_pos (by rw [← hq.1]; exact e)]; exact ⟨hq.1, hq.2.1, rv⟩
    · rw [if_neg e, if_neg (by rw [← hq.1]; exact e)]; exact hq
theorem YR.put {k : NestedKey} {b : Addr} {v : V} {u : Value} (rv : RelV v u) {ys : YL} {xs : XL} (r : YR ys xs) : YR (yPut ys k b v) (storedH xs k b u) := by
  unfold yPut storedH
  rw [r.any k]
  by_cases e : (ys.any fun y => decide (y.1 = k)) = true
  · rw [if_pos e, if_pos e]; exact r.mapPut rv
  · rw [if_neg e, if_neg e]; exact r.app (.cons ⟨rfl, rfl, rv⟩ .nil)
theorem YK.put {ys : YL} {k : NestedKey} {b : Addr} {v : V} (hk : YK H ys) (h1 : DN H (.ref b) k) (h2 : k.depth ≤ 8) : YK H (yPut ys k b v) := by
  unfold yPut
  split
  · intro y hy
    obtain ⟨z, hz, rfl⟩ := List.mem_map.mp hy
    by_cases e : z.1 = k
    · simp only [if_pos e]; exact hk z hz
    · simp only [if_neg e]; exact hk z hz
  · intro y hy
    rcases List.mem_append.mp hy with hy | hy
    · exact hk y hy
    · rw [List.mem_singleton.mp hy]; exact ⟨h1, h2⟩
end

/-! ### at the level of data -/
section
variable {K : PySem.W.Frag} {F H : Hp}
def nGet (kvs : List (NestedKey × D)) (k : NestedKey) : Option D := (kvs.find? fun y => decide (y.1 = k)).map (·.2)
def nPut (kvs : List (NestedKey × D)) (k : NestedKey) (d : D) : List (NestedKey × D) := if (kvs.any fun y => decide (y.1 = k)) = true then kvs.map fun y => if y.1 = k then (y.1, d) else y else kvs ++ [(k, d)]
theorem DenX.yk (e : Same F H) : ∀ {ys : YL} {kvs : List (NestedKey × D)}, DenX K F ys kvs → YK H ys
  | _, _, .nil => fun y hy => nomatch hy
  | _, _, .cons a dp b t => fun y hy => by
    rcases List.mem_cons.mp hy with rfl | hy
    · exact ⟨a.mono e, dp⟩
    · exact t.yk e y hy
theorem DenX.length : ∀ {ys : YL} {kvs : List (NestedKey × D)}, DenX K F ys kvs → ys.length = kvs.length
  | _, _, .nil => rfl
  | _, _, .cons _ _ _ t => by rw [List.length_cons, List.length_cons, t.length]
theorem DenX.get (k : NestedKey) : ∀ {ys : YL} {kvs : List (NestedKey × D)}, DenX K F ys kvs → (yGet ys k = none ∧ nGet kvs k = none) ∨ ∃ v d, yGet ys k = some v ∧ nGet kvs k = some d ∧ Den K F v d
  | _, _, .nil => .inl ⟨rfl, rfl⟩
  | _, _, .cons (k := k2) (v := v) (d := d) a dp b t => by
    unfold yGet nGet
    by_cases e : k2 = k
    · refine .inr ⟨v, d, ?_, ?_, b⟩
      · rw [List.find?_cons_of_pos (by simpa using e)]; rfl
      · rw [List.find?_cons_of_pos (by simpa using e)]; rfl
    · rw [List.find?_cons_of_neg (by simpa using e), List.find?_cons_of_neg (by simpa using e)]
      exact t.get k
theorem DenX.any (k : NestedKey) : ∀ {ys : YL} {kvs : List (NestedKey × D)}, DenX K F ys kvs → (ys.any fun y => decide (y.1 = k)) = kvs.any fun y => decide (y.1 = k)
  | _, _, .nil => rfl
  | _, _, .cons a dp b t => by rw [List.any_cons, List.any_cons, t.any k]
theorem DenX.app : ∀ {ys ys2 : YL} {kvs kvs2 : List (NestedKey × D)}, DenX K F ys kvs → DenX K F ys2 kvs2 → DenX K F (ys ++ ys2) (kvs ++ kvs2)
  | _, _, _, _, .nil, h => h
  | _, _, _, _, .cons a dp b t, h => .cons a dp b (t.app h)
theorem DenX.mapPut {k : NestedKey} {v : V} {d : D} (r : Den K F v d) : ∀ {ys : YL} {kvs : List (NestedKey × D)}, DenX K F ys kvs →
    DenX K F (ys.map fun y => if y.1 = k then (y.1, y.2.1, v) else y) (kvs.map fun y => if y.1 = k then (y.1, d) else y)
  | _, _, .nil => .nil
  | _, _, .cons (k := k2) a dp b t => by
    rw [List.map_cons, List.map_cons]
    by_cases e : k2 = k
    · rw [if_pos e, if_pos e]; exact .cons a dp r (t.mapPut r)
    · rw [if_neg e, if_neg e]; exact .cons a dp b (t.mapPut r)
theorem DenX.put {k : NestedKey} {b : Addr} {v : V} {d : D} {ys : YL} {kvs : List (NestedKey × D)} (h : DenX K F ys kvs) (h1 : DN F (.ref b) k) (h2 : k.depth ≤ 8) (r : Den K F v d) : DenX K F (yPut ys k b v) (nPut kvs k d) := by
  unfold yPut nPut
  rw [h.any k]
  by_cases e : (kvs.any fun y => decide (y.1 = k)) = true
  · rw [if_pos e, if_pos e]; exact h.mapPut r
  · rw [if_neg e, if_neg e]; exact h.app (.cons h1 h2 r .nil)
end

section
variable {X : Cx}
/-! ### the rules -/
theorem YR.isSome {ys : YL} {xs : XL} (k : NestedKey) (r : YR ys xs) : (atKey xs k).isSome = (yGet ys k).isSome := by
  rcases r.get k with ⟨e1, e2⟩ | ⟨v, p, e1, e2, _⟩
  · rw [e1, e2]; rfl
  · rw [e1, e2]; rfl
/-! d[k] -/
/-! d[k] = v -/
/-! {k: v, ..} -/
end
end DL

/-! f(..)[k] where f(..) may raise. -/
namespace DL
open PySem PySem.Spec L2 PyProof.Rows
section
variable {X : Cx}
end
end DL

/-! Calls and operators that only look at what is handed in and hand on something new that holds atoms alone: objects with + - *, op=. -/
namespace DL
open PySem PySem.Spec PyProof.Rows L2
section
variable {K : PySem.W.Frag} {F F' : Hp}
end
/-! ### operators of own classes, both of one class -/
section
variable {prog : Program} {w : World} {A : Around} {E : Value → Shared → Prop} {s : Shared} {K : PySem.W.Frag} {x C L f : Addr} {h₀ : Heap} {m : Str → Option Value} {ox : Obj} {od : Option Obj}
end
section
variable {X : Cx}
inductive OpN : Operator → Str → Prop
  | add : OpN .Add "__add__"
  | sub : OpN .Sub "__sub__"
  | mul : OpN .Mult "__mul__"
theorem OpN.obj {K : PySem.W.Frag} {op : Operator} {n : Str} (h : OpN op n) : PySem.W.findIn K (.type "object") (PySem.dunderI op.info.2) = some none := by
  cases h <;> kernel_rfl
/-! ### calls that look -/
end
end DL

/-! bool(x): x a number, a truth, an object of a class with its own __bool__. -/
namespace DL
open PySem PySem.Spec PyProof.Rows L2
section
variable {prog : Program} {w : World} {A : Around} {E : Value → Shared → Prop} {s : Shared} {K : PySem.W.Frag} {x C L f : Addr} {h₀ : Heap} {m : Str → Option Value} {ox : Obj} {od : Option Obj}
end
section
variable {X : Cx}
end
end DL

/-! // by divisors of either sign, powers of great numbers, str of great numbers. -/
namespace DL
open PySem PySem.Spec PyProof.Rows L2
section
open PySem.Builtin PySem.Builtin.Str PySem.Builtin.Int
variable {prog : Program} {w : World} {A : Around} {E : Value → Shared → Prop} {s : Shared} {K : PySem.W.Frag} {a : Int} {t : Tok}
end
section
variable {X : Cx}
end
end DL

/-! A thing of a pile, told by a variable, is one's own for the time of an expression (so that it can be lent). -/
namespace DL
open PySem L2
section
variable {X : Cx}
end
end DL

/-! [x, y] != z as a condition. -/
namespace DL
open PySem L2
section
variable {X : Cx}
end
end DL

/-! isinstance(x, (A, B)); x in ([], ()). -/
namespace DL
open PySem PySem.Spec L2 PyProof.Rows
open PySem.SeqAt PySem.Calls
open PySem.AutoSeq1 (wpAny_loadPart')
section
variable {X : Cx}
def gIsiT (T1 T2 : String) : D → (Rv → Prop) → Prop := fun d Q => ∃ t, d.ty = some t ∧ Q (.v (.bl (isTy t T1 || isTy t T2)))
theorem gIsiT_non {T1 T2 : String} {Q : Rv → Prop} : gIsiT T1 T2 .non Q = Q (.v (.bl (isTy "NoneType" T1 || isTy "NoneType" T2))) := by unfold gIsiT; simp [D.ty]
theorem gIsiT_bl {T1 T2 : String} {b : Bool} {Q : Rv → Prop} : gIsiT T1 T2 (.bl b) Q = Q (.v (.bl (isTy "bool" T1 || isTy "bool" T2))) := by unfold gIsiT; simp [D.ty]
theorem gIsiT_int {T1 T2 : String} {b : Int} {Q : Rv → Prop} : gIsiT T1 T2 (.int b) Q = Q (.v (.bl (isTy "int" T1 || isTy "int" T2))) := by unfold gIsiT; simp [D.ty]
theorem gIsiT_str {T1 T2 : String} {b : Str} {Q : Rv → Prop} : gIsiT T1 T2 (.str b) Q = Q (.v (.bl (isTy "str" T1 || isTy "str" T2))) := by unfold gIsiT; simp [D.ty]
theorem gIsiT_lst {T1 T2 : String} {b : List D} {Q : Rv → Prop} : gIsiT T1 T2 (.lst b) Q = Q (.v (.bl (isTy "list" T1 || isTy "list" T2))) := by unfold gIsiT; simp [D.ty]
theorem gIsiT_tup {T1 T2 : String} {b : List D} {Q : Rv → Prop} : gIsiT T1 T2 (.tup b) Q = Q (.v (.bl (isTy "tuple" T1 || isTy "tuple" T2))) := by unfold gIsiT; simp [D.ty]
theorem gIsiT_dct {T1 T2 : String} {b : List (Key × D)} {Q : Rv → Prop} : gIsiT T1 T2 (.dct b) Q = Q (.v (.bl (isTy "dict" T1 || isTy "dict" T2))) := by unfold gIsiT; simp [D.ty]
/-! ### x in ([], ()), x a list or a tuple -/
/-! ### x != i, x any thing -/
end
end DL

/-! Dicts with nested tuple keys: how many keys; a key put in by itself (for dict comprehensions). -/
namespace DL
open PySem PySem.Spec L2 PyProof.Rows
section
variable {X : Cx}
end
end DL

/-! Dict comprehensions over any kind of dict: what the new dict is and how a pair is put in are given from outside. -/
namespace DL
open PySem PySem.Spec L2 PyProof.Rows
section
variable {X : Cx}
end
end DL

/-! {key: value for .. in ..} with nested tuple keys. -/
namespace DL
open PySem PySem.Spec L2 PyProof.Rows
section
variable {X : Cx}
end
end DL

/-! Promises that are kept whatever repr is under way (they may be called in a generator's body). -/
namespace DL
open PySem PySem.Spec L2 PyProof.Rows
section
variable {X : Cx}
end
end DL

/-! Generator defs told over data: what they hand out, all of it taken by list(..). -/
namespace DL
open PySem PySem.Spec L2 PyProof.Rows GenW
structure EndsG where
  nx : List D → SL → Prop
  bk : List D → SL → Prop := fun _ _ => False
  ct : List D → SL → Prop := fun _ _ => False
structure LinkG (X : Cx) (G : Cd) (D : GEnds) (E : EndsG) : Prop where
  nx : ∀ ys ds σ H F ρ, E.nx ds ρ → Rep X.K G σ H F ρ → DenL X.K F ys ds → D.nx ys σ H
  bk : ∀ ys ds σ H F ρ, E.bk ds ρ → Rep X.K G σ H F ρ → DenL X.K F ys ds → D.bk ys σ H
  ct : ∀ ys ds σ H F ρ, E.ct ds ρ → Rep X.K G σ H F ρ → DenL X.K F ys ds → D.ct ys σ H
theorem LinkG.at {X : Cx} {G : Cd} {D : GEnds} {E : EndsG} {σ : L2.St} {H F : Hp} {ρ : SL} (L : LinkG X G D E) (R : Rep X.K G σ H F ρ) : LinkG X (G.at F) D E :=
  ⟨fun _ _ _ _ _ _ q R' h => L.nx _ _ _ _ _ _ q (R.unbase R') h, fun _ _ _ _ _ _ q R' h => L.bk _ _ _ _ _ _ q (R.unbase R') h, fun _ _ _ _ _ _ q R' h => L.ct _ _ _ _ _ _ q (R.unbase R') h⟩
section
variable {X : Cx}
end
/-! ### a generator def's promise -/
section
variable {X : Cx}
end
end DL

/-! Walks over lists that a pile holds; sorted of a list of things that a pile holds. -/
namespace DL
open PySem PySem.Spec L2 PyProof.Rows
/-- the pile holds the list ds at q -/
def HeldP (g : Nat) (q : Addr) (ds : List D) (ρ : SL) : Prop := ∃ hs, plOf ρ g = some hs ∧ hs.lookup q = some (.l ds)
section
variable {K : PySem.W.Frag}
end
section
variable {X : Cx} {tg : Expr}
end
end DL

/-! Views of piled things two levels deep: a call that only looks, and a comparison. -/
namespace DL
open PySem PySem.Spec L2 PyProof.Rows
def Op.viewVV (ρ : SL) (g : Nat) (o : Op) : Option D := (o.view ρ g).map (D.res (pileOf ρ g))
def getsVV (ρ : SL) (g : Nat) : List Op → Option (List D)
  | [] => some []
  | o :: os => match o.viewVV ρ g, getsVV ρ g os with
    | some d, some ds => some (d :: ds)
    | _, _ => none
theorem OpDens.densVV {K : PySem.W.Frag} {G : Cd} {σ : L2.St} {H F : Hp} {ρ : SL} (R : Rep K G σ H F ρ) {g : Nat} : ∀ {vs : List V} {os : List Op} {ds : List D}, OpDens K F σ vs os → getsVV ρ g os = some ds → DenL K H vs ds
  | _, _, _, .nil, e => by cases e; exact .nil
  | _, _, ds, .cons (o := o) (os := os) a b, e => by
    unfold getsVV at e
    cases q : o.viewVV ρ g with
    | none => rw [q] at e; cases e
    | some d =>
      rw [q] at e
      cases q2 : getsVV ρ g os with
      | none => rw [q2] at e; cases e
      | some ds' =>
        rw [q2] at e
        cases e
        unfold Op.viewVV Op.view at q
        have hp : ∀ (p : Addr) (c : Cn), (pileOf ρ g).lookup p = some c → Den K H (.ref p) c.dat := fun p c e => by
          obtain ⟨i, hs, z1, z2⟩ := pileOf_mem (lookup_mem e)
          obtain ⟨hh, _⟩ := R.pl.has i hs p c z1 z2
          obtain ⟨o', ho⟩ := hh.ex
          exact hh.den R.ext ho ho
        cases q3 : o.get ρ with
        | none => rw [q3] at q; cases q
        | some d0 =>
          rw [q3] at q
          cases q
          exact .cons (Den.res hp (Den.res hp ((a.pk R q3).den R.ext))) (b.densVV R q2)
section
variable {X : Cx}
def dCallW (g : Nat) (sp : SpD) (t : TAs) : TD := fun ρ Q => t ρ fun os ρ1 => match getsVV ρ1 g os with
  | some ds => sp (ds.map Sl.sh) fun r _ => ∃ a, r = .v a ∧ D.atom a = true ∧ Q (.v a) ρ1
  | none => False
theorem sem_callW {g : Nat} {sp : SpD} {t : TAs} {es : List Expr} {ta : TA} {E : XK} (ha : DA X es ta t) {G : Cd} {σ : L2.St} {H F : Hp} {ρ : SL} {Q : VK} {Qd : Rv → SL → Prop} (R : Rep X.K G σ H F ρ) (q : dCallW g sp t ρ Qd)
    (k : ∀ r ρ' v H' F', Qd r ρ' → Same F F' → Rep X.K G σ H' F' ρ' → RDen X.K G σ ρ' H' F' v r → Q v H') : ta σ H fun vs H1 => lift X.K sp vs H1 Q E := by
  refine ha.sem R q fun os ρ1 vs H1 F1 q1 s1 R1 d1 => ?_
  cases ea : getsVV ρ1 g os with
  | none => rw [ea] at q1; exact q1.elim
  | some ds =>
    rw [ea] at q1
    exact sem_pure R1 (d1.densVV R1 ea) q1 fun r ρ' v H' F' qd s2 R2 rd => k _ _ _ _ _ qd (s1.trans s2) R2 rd
theorem de_callW (g : Nat) {CX : CXT} {k : Nat} {f : Addr} {fd : FuncData} {ps : List Str} {sp : SpD} {x : Str} {p pos : Pos} {e : Expr} {es : List Expr} {ta : TA} {t : TAs} {E : XK} (Fk : FnG X.prog X.w X.K X.mg X.base CX k f fd ps (lift X.K sp)) (hgd : X.A.guards = some []) (hr : Room k X.A)
    (hg : Gl X x) (hm : X.mg x = some (.ref f)) (hk : PySem.W.keepIn X.K (.ref f) = true) (hb : Binds X.K fd ps []) (hx : Passes CX X E) (ha : DA X (e :: es) ta t) (hdb : (x == ("__debug__" : Str)) = false := by decide)
    (he : starEach (e :: es) X.env = (false, eval e X.env) :: starEach es X.env := by rfl) (hpl : (backTo pos (starEach es X.env)).any (·.1) = false := by rfl) : DE X (.Call (.Name x p) (e :: es) [] pos) (tCall (lift X.K sp) [] E ta) (dCallW g sp t) :=
  ⟨pe_callG Fk hgd hr hg hm hk hb hx ha.pe hdb he hpl, fun {G σ H F ρ Q Qd} R q kk => by
    have z : ta σ H (fun vs H1 => lift X.K sp vs H1 Q E) := sem_callW ha R q kk
    show ta σ H (fun vs H1 => lift X.K sp (vs ++ []) H1 Q E)
    simpa only [List.append_nil] using z⟩
end
section
variable {X : Cx}
def dCmpW (g : Nat) (f : Bool → Bool) (ta tb : TQ) : TD := fun ρ Q => ta ρ fun oa ρ1 => tb ρ1 fun ob ρ2 => match getsVV ρ2 g [oa, ob] with
  | some [a, b] => D.fit 60 a = true ∧ D.fit 60 b = true ∧ Q (.v (.bl (f (D.eqv a b)))) ρ2
  | _ => False
theorem sem_cmpW (g : Nat) {r : R2} {f : Bool → Bool} {ta tb : TE} {a b : Expr} {da db : TQ} (ha : DO X a ta da) (hb : DO X b tb db)
    (hr : ∀ {H : Hp} {x y : V} {a b : D} {Q : VK}, Den X.K H x a → Den X.K H y b → D.fit 60 a = true → D.fit 60 b = true → Q (.bl (f (D.eqv a b))) H → r x y H Q)
    {G : Cd} {σ : L2.St} {H F : Hp} {ρ : SL} {Q : VK} {Qd : Rv → SL → Prop} (R : Rep X.K G σ H F ρ) (q : dCmpW g f da db ρ Qd)
    (k : ∀ r ρ' v H' F', Qd r ρ' → Same F F' → Rep X.K G σ H' F' ρ' → RDen X.K G σ ρ' H' F' v r → Q v H') : tOp r ta tb σ H Q := by
  refine ha.sem R q fun oa ρ1 v H1 F1 q1 s1 R1 d1 => ?_
  refine hb.sem R1 q1 fun ob ρ2 u H2 F2 q2 s2 R2 d2 => ?_
  cases e : getsVV ρ2 g [oa, ob] with
  | none => rw [e] at q2; exact q2.elim
  | some l =>
    have dl := OpDens.densVV R2 (g := g) (.cons (d1.mono s2) (.cons d2 .nil)) e
    rw [e] at q2
    cases dl with
    | cons x1 t1 =>
      cases t1 with
      | cons x2 t2 =>
        cases t2
        obtain ⟨h1, h2, q2⟩ := q2
        exact hr x1 x2 h1 h2 (k _ _ _ _ _ q2 (s1.trans s2) R2 (.bl _))
theorem dt_neW (g : Nat) (hu : X.A.units + 64 < cLine) {ta tb : TE} {a b : Expr} {da db : TQ} {pos : Pos} (ha : DO X a ta da) (hb : DO X b tb db) (hm : behindInMarks .NotEq b = false) : DT X (.Compare a [.NotEq] [b] pos) (tTest (tOp (rNeA X.K) ta tb)) (bOf (dCmpW g not da db)) :=
  ⟨pt_cmpR (op_neA hu) ha.pe hb.pe hm, fun R q k => sem_bOf (fun R q kk => sem_cmpW g ha hb (fun {H x y a b Q} da db fa fb q => .inl ⟨a.py, b.py, Den.dp da fa, Den.dp db fb, shaped_of da fa, shaped_of db fb, by rw [eqv_py a b 60 60 fa fb]; exact q⟩) R q kk) R q k⟩
end
end DL

/-! A text looked for in a tuple of texts. -/
namespace DL
open PySem PySem.Spec PyProof.Rows L2
open PySem.SeqAt PySem.Calls
section
variable {X : Cx}
end
end DL

/-! A call without arguments. -/
namespace DL
open PySem PySem.Spec L2 PyProof.Rows
section
variable {X : Cx}
end
end DL

/-! Texts set against lists, tuples and dicts of any content: text != x, x (not) in texts. -/
namespace DL
open PySem PySem.Spec PyProof.Rows L2
open PySem.SeqAt PySem.Calls
open PySem.AutoSeq1 (wpAny_loadPart')
section
end
section
variable {X : Cx}
end
end DL

/-! xs[:] = ys -/
namespace DL
open PySem PySem.Spec PyProof.Rows L2
open PySem.SeqAt PySem.Calls
section
variable {prog : Program} {w : World} {A : Around} {E : Value → Shared → Prop} {s : Shared}
end
section
variable {X : Cx}
/-! ### at the data -/
end
end DL

/-! repr([x, y]): what is displayed is only looked at. -/
namespace DL
open PySem L2
section
variable {X : Cx}
end
end DL

/-! sorted(truths and numbers). -/
namespace DL.SB
open PySem PySem.Spec L2 PyProof.Rows SrtO Srt
section
variable {prog : Program} {w : World} {A : Around} {E : Value → Shared → Prop} {s : Shared}
end
section
variable {X : Cx}
end
end DL.SB

/-! list(zip(xs, ys)): a list of pairs. -/
namespace ZipL
open PySem PySem.Spec PyProof.Rows L2
section
variable {prog : Program} {w : World} {A : Around} {E : Value → Shared → Prop} {s : Shared} {Z : Zp} {S : Addr} {xs ys : Array Value} {i : Nat}
end
/-- the addresses as hold the pairs -/
structure ZpG (xs ys : Array Value) (lo : Addr) (h : Heap) (as : List Addr) : Prop where
  up : as.Pairwise (· < ·)
  lo : ∀ a ∈ as, lo < a
  tup : ∀ (j : Nat) (a : Addr), as[j]? = some a → ∃ x y, xs[j]? = some x ∧ ys[j]? = some y ∧ IsPair h a x y
theorem ZpG.lt {xs ys : Array Value} {lo : Addr} {h : Heap} {as : List Addr} (g : ZpG xs ys lo h as) {a : Addr} (ha : a ∈ as) : a < h.objs.size := by
  obtain ⟨j, hj⟩ := List.mem_iff_getElem?.mp ha
  obtain ⟨_, _, _, _, q⟩ := g.tup j a hj
  exact Heap.lt_size q
section
variable {prog : Program} {w : World} {A : Around} {s : Shared} {R : Result → Shared → Prop} {Z : Zp} {S : Addr} {xs ys : Array Value}
end
section
variable {prog : Program} {w : World} {A : Around} {E : Value → Shared → Prop} {s : Shared} {Z : Zp} {xs ys : Array Value}
end
section
variable {X : Cx} {a a2 : Expr} {ta : TA}
end
end ZipL
namespace DL
open PySem PySem.Spec L2 PyProof.Rows
section
variable {X : Cx}
end
end DL

/-! The pile goes along to calls. -/
namespace DL
open PySem PySem.Spec L2 PyProof.Rows
section
variable {K : PySem.W.Frag} {G : Cd} {σ : L2.St} {H F : Hp} {ρ : SL}
theorem bOf_lent {os : List AOp} {sl : SL} (hm : mkArgs ρ 0 os = some sl) {j : Nat} {p : Addr} (e : bOf' σ os j = some p) : ∃ i s c, i ∈ bors os ∧ ρ[i]? = some s ∧ s.cn = some c ∧ σ[i]? = some (some (.ref p)) := by
  unfold bOf' at e
  split at e
  · rename_i i hi
    split at e
    · rename_i q hq
      cases e
      obtain ⟨l1, g1⟩ := mkArgs_get hm
      have hj : j < os.length := (List.getElem?_eq_some_iff.mp hi).1
      rw [← l1] at hj
      rcases g1 j _ (List.getElem?_eq_getElem hj) with ⟨d', z1, z⟩ | ⟨i', s', c', z1, z2, z3, z4⟩
      · rw [hi] at z1; cases z1
      · rw [hi] at z1; cases z1
        exact ⟨i, s', c', mem_bors hi, z2, z3, hq⟩
    · cases e
  · cases e
theorem mkArgs_un {g : Nat} (hg : ∀ s, ρ[g]? = some s → s.cn = none) : ∀ {os : List AOp} {j : Nat} {sl : SL}, mkArgs ρ j os = some sl → mkArgs (ρ.set g .un) j os = some sl
  | [], _, _, h => h
  | .val d :: r, j, sl, h => by
    unfold mkArgs at h ⊢
    cases q : mkArgs ρ (j + 1) r with
    | none => rw [q] at h; cases h
    | some l => rw [q] at h; rw [mkArgs_un hg q]; exact h
  | .bor i :: r, j, sl, h => by
    unfold mkArgs at h ⊢
    cases q0 : ρ[i]? with
    | none => rw [q0] at h; cases h
    | some s' =>
      rw [q0] at h
      cases q1 : s'.cn with
      | none => simp only [q1] at h; cases h
      | some c =>
        have hne : i ≠ g := fun z => by subst z; rw [hg s' q0] at q1; cases q1
        simp only [q1] at h
        cases q : mkArgs ρ (j + 1) r with
        | none => rw [q] at h; cases h
        | some l =>
          rw [q] at h
          rw [List.getElem?_set_ne (Ne.symm hne), q0, mkArgs_un hg q]
          simp only [q1]
          exact h
/-- to the call: the pile is the last slot -/
theorem Rep.toCallP {g : Nat} {hs : Pile} (R : Rep K G σ H F ρ) {vs : List V} {os : List AOp} {sl : SL} (h : ADens K F σ vs os) (hm : mkArgs ρ 0 os = some sl) (hn : (bors os).Nodup) (hg : plOf ρ g = some hs) :
    Rep K ⟨bOf' σ os, fun p => p ∈ hs.map (·.1), H, F⟩ (vs.map some ++ [none]) H F (sl ++ [.pl hs]) := by
  have R0 := R.toCall h hm hn
  have R1 := R.plHave hg
  have hlt := plOf_lt hg
  have at_ : (ρ.set g (.pl hs))[g]? = some (.pl hs) := List.getElem?_set_self hlt
  have l0 : sl.length = (vs.map some).length := R0.len
  have gn : ∀ s, ρ[g]? = some s → s.cn = none := fun s e => by
    unfold plOf at hg
    rw [e] at hg
    cases s with
    | pl _ => rfl
    | un => rfl
    | _ => cases hg
  have sp : ∀ (i : Nat) (s : Sl), (sl ++ [Sl.pl hs])[i]? = some s → (sl[i]? = some s ∧ (vs.map some ++ [none])[i]? = (vs.map some)[i]?) ∨ (i = sl.length ∧ s = .pl hs) := fun i s e => by
    by_cases hi : i < sl.length
    · rw [List.getElem?_append_left hi] at e
      exact .inl ⟨e, List.getElem?_append_left (by rw [← l0]; exact hi)⟩
    · rw [List.getElem?_append_right (Nat.le_of_not_lt hi)] at e
      have hi0 : i - sl.length = 0 := by
        cases q : i - sl.length with
        | zero => rfl
        | succ n => rw [q] at e; simp at e
      rw [hi0] at e
      cases e
      exact .inr ⟨by omega, rfl⟩
  have nl : ∀ (j : Nat) (p : Addr), bOf' σ os j = some p → ∀ c, (p, c) ∉ hs := fun j p e c m => by
    obtain ⟨i, s, c', _, a1, a2, a3⟩ := bOf_lent hm e
    have hne : i ≠ g := fun z => by subst z; rw [gn s a1] at a2; cases a2
    exact R1.pl.own g hs p c at_ m i s c' (by rw [List.getElem?_set_ne (Ne.symm hne)]; exact a1) a2 a3
  refine ⟨by rw [List.length_append, List.length_append, l0, List.length_singleton, List.length_singleton], R.ext, fun i d e => ?_, fun i c e => ?_, fun i j c e => ?_, fun i j s t c c' p e1 e2 h1 h2 h3 h4 => ?_, Same.refl F, fun a o e => .inl e, fun a o e _ _ => e, fun a o e => ⟨o, e⟩, R0.bd, fun j p hL e => ?_, ?_⟩
  · rcases sp i _ e with ⟨z, w⟩ | ⟨_, z⟩
    · rw [w]; exact R0.sh i d z
    · cases z
  · rcases sp i _ e with ⟨z, w⟩ | ⟨_, z⟩
    · obtain ⟨p, a, b, d, e4⟩ := R0.ow i c z
      exact ⟨p, by rw [w]; exact a, b, d, e4.elim .inl False.elim⟩
    · cases z
  · rcases sp i _ e with ⟨z, w⟩ | ⟨_, z⟩
    · rw [w]; exact R0.bw i j c z
    · cases z
  · rcases sp i _ e1 with ⟨z1, w1⟩ | ⟨_, z1⟩
    · rcases sp j _ e2 with ⟨z2, w2⟩ | ⟨_, z2⟩
      · exact R0.sep i j s t c c' p z1 z2 h1 h2 (by rw [← w1]; exact h3) (by rw [← w2]; exact h4)
      · subst z2; cases h2
    · subst z1; cases h1
  · obtain ⟨⟨_, c⟩, m, rfl⟩ := List.mem_map.mp hL
    exact nl j _ e c m
  · have only : ∀ (i : Nat) (h2 : Pile), (sl ++ [Sl.pl hs])[i]? = some (.pl h2) → i = sl.length ∧ h2 = hs := fun i h2 e => by
      rcases sp i _ e with ⟨z, _⟩ | ⟨z, w⟩
      · obtain ⟨l1, g1⟩ := mkArgs_get hm
        rcases g1 i _ z with ⟨d', _, z⟩ | ⟨i', s', c', _, _, _, z4⟩
        · cases z
        · cases z4
      · cases w; exact ⟨z, rfl⟩
    refine ⟨fun i h2 e => ?_, fun i h2 p c e m => ?_, fun i h2 p c e m j s c' e1 e2 e3 => ?_, fun i j h2 h3 p c c' e1 e2 _ _ => ?_⟩
    · obtain ⟨_, rfl⟩ := only i h2 e
      exact R1.pl.one g h2 at_
    · obtain ⟨_, rfl⟩ := only i h2 e
      obtain ⟨a, b, _⟩ := R1.pl.has g h2 p c at_ m
      exact ⟨a, b, .inr (mem_fst m)⟩
    · obtain ⟨_, rfl⟩ := only i h2 e
      rcases sp j _ e1 with ⟨z, w⟩ | ⟨_, z⟩
      · rw [w] at e3
        cases s with
        | bw k c2 =>
          obtain ⟨q, a1, _, _, a4⟩ := R0.bw j k c2 z
          rw [a1] at e3; cases e3
          exact nl k _ a4 c m
        | ow c2 =>
          obtain ⟨l1, g1⟩ := mkArgs_get hm
          rcases g1 j _ z with ⟨d', _, z⟩ | ⟨i', s', c', _, _, _, z4⟩
          · cases z
          · cases z4
        | _ => cases e2
      · subst z; cases e2
    · obtain ⟨a, _⟩ := only i h2 e1
      obtain ⟨b, _⟩ := only j h3 e2
      rw [a, b]
/-- behind the call, what was not lent -/
theorem Rep.behindL {L : Addr → Prop} (hL : ∀ p, L p → G.H0 p = none ∨ G.L p) (hLo : ∀ (i : Nat) (s : Sl) (c : Cn) (p : Addr), ρ[i]? = some s → s.cn = some c → σ[i]? = some (some (.ref p)) → ¬ L p) (hLp : ∀ (i : Nat) (hs : Pile) (p : Addr) (c : Cn), ρ[i]? = some (.pl hs) → (p, c) ∈ hs → ¬ L p) (R : Rep K G σ H F ρ) {vs : List V} {os : List AOp} {σ' : L2.St} {H' F' : Hp} {sl outs : SL} (hd : ADens K F σ vs os) (hm : mkArgs ρ 0 os = some sl) (R' : Rep K ⟨bOf' σ os, L, H, F⟩ σ' H' F' outs) : Rep K G σ H' F' (wipeD ρ (bors os)) := by
  have lt : ∀ (j : Nat) (p : Addr), bOf' σ os j = some p → ∃ i s c, i ∈ bors os ∧ ρ[i]? = some s ∧ s.cn = some c ∧ σ[i]? = some (some (.ref p)) := by
    intro j p e
    unfold bOf' at e
    split at e
    · rename_i i hi
      split at e
      · rename_i q hq
        cases e
        obtain ⟨l1, g1⟩ := mkArgs_get hm
        have hj : j < os.length := (List.getElem?_eq_some_iff.mp hi).1
        rw [← l1] at hj
        rcases g1 j _ (List.getElem?_eq_getElem hj) with ⟨d', z1, z⟩ | ⟨i', s', c', z1, z2, z3, z4⟩
        · rw [hi] at z1; cases z1
        · rw [hi] at z1; cases z1
          exact ⟨i, s', c', mem_bors hi, z2, z3, hq⟩
      · cases e
    · cases e
  have nb : ∀ (i : Nat) (s : Sl) (c : Cn) (p : Addr), ρ[i]? = some s → s.cn = some c → σ[i]? = some (some (.ref p)) → i ∉ bors os → ∀ j, bOf' σ os j ≠ some p := by
    intro i s c p e1 e2 e3 hi j e
    obtain ⟨i2, s2, c2, m, a1, a2, a3⟩ := lt j p e
    have := R.sep i i2 s s2 c c2 p e1 a1 e2 a2 e3 a3
    subst this
    exact hi m
  have kp : ∀ (i : Nat) (s : Sl) (c : Cn) (p : Addr), ρ[i]? = some s → s.cn = some c → σ[i]? = some (some (.ref p)) → i ∉ bors os → Has K F H p c → F p = none → Has K F' H' p c ∧ F' p = none := by
    intro i s c p e1 e2 e3 hi hh hF
    obtain ⟨o, ho⟩ := hh.ex
    have k1 := R'.keep p o ho (hLo i s c p e1 e2 e3) (nb i s c p e1 e2 e3 hi)
    refine ⟨(hh.mono R'.fr0).at (k1.trans ho.symm), ?_⟩
    cases q : F' p with
    | none => rfl
    | some u =>
      rcases R'.new p u q with z | z | z
      · have z' : F p = some u := z
        rw [hF] at z'; cases z'
      · have z' : H p = none := z
        rw [ho] at z'; cases z'
      · exact (hLo i s c p e1 e2 e3 z).elim
  refine ⟨by rw [wipeD_length]; exact R.len, R'.ext, fun i d e => ?_, fun i c e => ?_, fun i j c e => ?_, fun i j s t c c' p e1 e2 h1 h2 h3 h4 => ?_, R.fr0.trans R'.fr0, fun a o e => ?_, fun a o e nl nb2 => ?_, fun a o e => ?_, R.bd, R.lb, R.pl.to (fun i hs e => ?_) (fun j s c' q e1 e2 e3 => ?_) fun i hs p c e m a b d => ?_⟩
  · rcases wipeD_get e with z | ⟨z, w⟩
    · cases z
    · obtain ⟨v, a, b⟩ := R.sh i d z; exact ⟨v, a, b.mono R'.fr0⟩
  · rcases wipeD_get e with z | ⟨z, w⟩
    · cases z
    · obtain ⟨p, a, b, e2, e3⟩ := R.ow i c z
      obtain ⟨k1, k2⟩ := kp i _ c p z rfl a w b e2
      exact ⟨p, a, k1, k2, e3⟩
  · rcases wipeD_get e with z | ⟨z, w⟩
    · cases z
    · obtain ⟨p, a, b, e2, e3⟩ := R.bw i j c z
      obtain ⟨k1, k2⟩ := kp i _ c p z rfl a w b e2
      exact ⟨p, a, k1, k2, e3⟩
  · rcases wipeD_get e1 with z | ⟨z, _⟩
    · subst z; cases h1
    · rcases wipeD_get e2 with z2 | ⟨z2, _⟩
      · subst z2; cases h2
      · exact R.sep i j s t c c' p z z2 h1 h2 h3 h4
  · rcases R'.new a o e with z | z | z
    · exact R.new a o z
    · exact .inr (.inl (R.fresh z).2)
    · exact .inr (hL a z)
  · refine R'.keep a o (R.keep a o e nl nb2) (fun z => (hL a z).elim (fun w => by rw [e] at w; cases w) nl) fun j z => ?_
    obtain ⟨i2, s2, c2, m, a1, a2, a3⟩ := lt j a z
    cases s2 with
    | un => cases a2
    | pl _ => cases a2
    | sh d => cases a2
    | ow c3 =>
      obtain ⟨q, b1, _, _, b4⟩ := R.ow i2 c3 a1
      rw [a3] at b1; cases b1
      rcases b4 with b4 | b4
      · rw [e] at b4; cases b4
      · exact nl b4
    | bw k c3 =>
      obtain ⟨q, b1, _, _, b4⟩ := R.bw i2 k c3 a1
      rw [a3] at b1; cases b1
      exact nb2 k b4
  · obtain ⟨o', k1⟩ := R.dom a o e
    exact R'.dom a o' k1
  · rcases wipeD_get e with z | ⟨z, _⟩
    · cases z
    · exact z
  · rcases wipeD_get e1 with z | ⟨z, _⟩
    · subst z; cases e2
    · exact .inl ⟨s, c', z, e2, e3⟩
  · have e' : ρ[i]? = some (.pl hs) := by
      rcases wipeD_get e with z | ⟨z, _⟩
      · cases z
      · exact z
    obtain ⟨o, ho⟩ := a.ex
    have k1 := R'.keep p o ho (hLp i hs p c e' m) fun j z => by
      obtain ⟨i2, s2, c2, _, a1, a2, a3⟩ := lt j p z
      exact R.pl.own i hs p c e' m i2 s2 c2 a1 a2 a3
    refine ⟨(a.mono R'.fr0).at (k1.trans ho.symm), ?_, d⟩
    cases q : F' p with
    | none => rfl
    | some u =>
      rcases R'.new p u q with z | z | z
      · have z' : F p = some u := z
        rw [b] at z'; cases z'
      · have z' : H p = none := z
        rw [ho] at z'; cases z'
      · exact (hLp i hs p c e' m z).elim
theorem Rep.givesL {L : Addr → Prop} (R : Rep K G σ H F ρ) {H' F' : Hp} {σ' : L2.St} {oouts : SL} {b : Nat → Option Addr} (RC : Rep K ⟨b, L, H, F⟩ σ' H' F' oouts) :
    ∀ {os : List AOp} {outs : SL} {j : Nat} {ρ' ρ2 : SL}, giveB ρ j ρ' os outs = some ρ2 → (∀ (k : Nat) (s : Sl), outs[k]? = some s → oouts[j + k]? = some s) → (∀ (k i : Nat) (p : Addr), os[k]? = some (.bor i) → b (j + k) = some p → σ[i]? = some (some (.ref p))) →
      (∀ (k i : Nat), os[k]? = some (.bor i) → ∃ s c, ρ[i]? = some s ∧ s.cn = some c) → (bors os).Nodup → Rep K G σ H' F' ρ' → (∀ (k : Nat) (s : Sl) (c : Cn), ρ'[k]? = some s → s.cn = some c → k ∉ bors os ∧ ∃ s0 c0, ρ[k]? = some s0 ∧ s0.cn = some c0) → (∀ (k : Nat) (hs : List (Addr × Cn)), ρ'[k]? = some (.pl hs) → ρ[k]? = some (.pl hs)) →
      Rep K G σ H' F' ρ2
  | [], outs, j, ρ', ρ2, h, _, _, _, _, R', _, _ => by
    unfold giveB at h
    cases h; exact R'
  | .val d :: os, [], j, ρ', ρ2, h, _, _, _, _, _, _, _ => by simp [giveB] at h
  | .val d :: os, o :: outs, j, ρ', ρ2, h, ho, hb, hs, hn, R', hk, hq => by
    unfold giveB at h
    refine Rep.givesL R RC (j := j + 1) h (fun k s e => by have := ho (k + 1) s e; rw [show j + (k + 1) = j + 1 + k by omega] at this; exact this) (fun k i p e1 e2 => hb (k + 1) i p e1 (by rw [show j + (k + 1) = j + 1 + k by omega]; exact e2)) (fun k i e => hs (k + 1) i e) hn R' hk hq
  | .bor i :: os, [], j, ρ', ρ2, h, _, _, _, _, _, _, _ => by simp [giveB] at h
  | .bor i :: os, .un :: outs, j, ρ', ρ2, h, _, _, _, _, _, _, _ => by simp [giveB] at h
  | .bor i :: os, .sh _ :: outs, j, ρ', ρ2, h, _, _, _, _, _, _, _ => by simp [giveB] at h
  | .bor i :: os, .ow _ :: outs, j, ρ', ρ2, h, _, _, _, _, _, _, _ => by simp [giveB] at h
  | .bor i :: os, .pl _ :: outs, j, ρ', ρ2, h, _, _, _, _, _, _, _ => by simp [giveB] at h
  | .bor i :: os, .bw k c :: outs, j, ρ', ρ2, h, ho, hb, hs, hn, R', hk, hq => by
    unfold giveB at h
    by_cases hkj : k = j
    · subst hkj
      rw [if_pos rfl] at h
      obtain ⟨s, c0, e1, e2⟩ := hs 0 i rfl
      rw [e1] at h
      have eo := ho 0 _ rfl
      obtain ⟨p, a1, a2, a3, a4⟩ := RC.bw (k + 0) k c eo
      have a4' : b (k + 0) = some p := a4
      have hp := hb 0 i p rfl a4'
      have hn' := List.nodup_cons.mp hn
      have R2 := R.give (c := c) R' e1 e2 hp a2 a3 ⟨fun l t c1 e3 e4 e5 => by
        obtain ⟨m1, s0, c2, e6, e7⟩ := hk l t c1 e3 e4
        have := R.sep l i s0 s c2 c0 p e6 e1 e7 e2 e5 hp
        subst this
        exact m1 List.mem_cons_self, fun l hs2 c2 e3 m => R.pl.own l hs2 p c2 (hq l hs2 e3) m i s c0 e1 e2 hp⟩
      refine Rep.givesL R RC (j := k + 1) h (fun l s e => by have := ho (l + 1) s e; rw [show k + (l + 1) = k + 1 + l by omega] at this; exact this) (fun l i p e1 e2 => hb (l + 1) i p e1 (by rw [show k + (l + 1) = k + 1 + l by omega]; exact e2)) (fun l i e => hs (l + 1) i e) hn'.2 R2 (fun l t c1 e3 e4 => ?_) fun l hs2 e3 => ?_
      · rcases set_get e3 with ⟨rfl, q⟩ | ⟨ne, q⟩
        · exact ⟨hn'.1, s, c0, e1, e2⟩
        · obtain ⟨m1, m2⟩ := hk l t c1 q e4
          exact ⟨fun z => m1 (List.mem_cons_of_mem _ z), m2⟩
      · rcases set_get e3 with ⟨_, q⟩ | ⟨_, q⟩
        · have q2 := congrArg Sl.cn q
          rw [Sl.with_cn e2] at q2; cases q2
        · exact hq l hs2 q
    · rw [if_neg hkj] at h; cases h

theorem giveB_other {g : Nat} : ∀ {os : List AOp} {outs : SL} {j : Nat} {ρ' ρ2 : SL}, giveB ρ j ρ' os outs = some ρ2 → g ∉ bors os → ρ2[g]? = ρ'[g]?
  | [], outs, j, ρ', ρ2, h, _ => by
    unfold giveB at h
    cases h; rfl
  | .val d :: os, [], j, ρ', ρ2, h, _ => by simp [giveB] at h
  | .val d :: os, o :: outs, j, ρ', ρ2, h, hb => by
    unfold giveB at h
    exact giveB_other (os := os) h hb
  | .bor i :: os, [], j, ρ', ρ2, h, _ => by simp [giveB] at h
  | .bor i :: os, .un :: outs, j, ρ', ρ2, h, _ => by simp [giveB] at h
  | .bor i :: os, .sh _ :: outs, j, ρ', ρ2, h, _ => by simp [giveB] at h
  | .bor i :: os, .ow _ :: outs, j, ρ', ρ2, h, _ => by simp [giveB] at h
  | .bor i :: os, .pl _ :: outs, j, ρ', ρ2, h, _ => by simp [giveB] at h
  | .bor i :: os, .bw l c1 :: outs, j, ρ', ρ2, h, hb => by
    unfold giveB at h
    by_cases hkj : l = j
    · rw [if_pos hkj] at h
      cases q : ρ[i]? with
      | none => rw [q] at h; cases h
      | some s0 =>
        rw [q] at h
        have := giveB_other (os := os) h fun z => hb (List.mem_cons_of_mem _ z)
        rw [this, List.getElem?_set_ne fun z => hb (by subst z; exact List.mem_cons_self)]
    · rw [if_neg hkj] at h; cases h
/-- a promise over data with the pile as the last slot -/
def liftP (K : PySem.W.Frag) (sp : SpD) : Sp := fun vs H Q _ => ∃ (b : Nat → Option Addr) (L : Addr → Prop) (F : Hp) (as : SL) (Qd : Rv → SL → Prop), Rep K ⟨b, L, H, F⟩ (vs.map some ++ [none]) H F as ∧ sp as Qd ∧
  ∀ r outs σ' v H' F', Qd r outs → Rep K ⟨b, L, H, F⟩ σ' H' F' outs → RDen K ⟨b, L, H, F⟩ σ' outs H' F' v r → Q v H'
def qCallP (g : Nat) (sp : SpD) (os : List AOp) (ρ : SL) (Q : Rv → SL → Prop) : Prop := ∃ hs sl, plOf ρ g = some hs ∧ mkArgs ρ 0 os = some sl ∧ (bors os).Nodup ∧
  sp (sl ++ [.pl hs]) fun r outs => ∃ hs' ρ2, outs[os.length]? = some (.pl hs') ∧ giveB (ρ.set g .un) 0 (wipeD (ρ.set g .un) (bors os)) os outs = some ρ2 ∧ Q r (ρ2.set g (.pl hs'))
theorem sem_argsP {g : Nat} {sp : SpD} {vs : List V} {os : List AOp} {Q : VK} {E : XK} {Qd : Rv → SL → Prop} (R : Rep K G σ H F ρ) (d : ADens K F σ vs os) (q : qCallP g sp os ρ Qd)
    (k : ∀ r ρ' v H' F', Qd r ρ' → Same F F' → Rep K G σ H' F' ρ' → RDen K G σ ρ' H' F' v r → Q v H') : liftP K sp vs H Q E := by
  obtain ⟨hs, sl, hg, hm, hn, q⟩ := q
  refine ⟨bOf' σ os, fun p => p ∈ hs.map (·.1), F, sl ++ [.pl hs], _, R.toCallP d hm hn hg, q, fun r outs σ' v H' F' ⟨hs', ρ2, ho, hb, qd⟩ R' rd => ?_⟩
  have gn : ∀ s, ρ[g]? = some s → s.cn = none := fun s e => by
    unfold plOf at hg
    rw [e] at hg
    cases s with
    | pl _ => rfl
    | un => rfl
    | _ => cases hg
  have hlt := plOf_lt hg
  have R1 := R.plHave hg
  have at_ : (ρ.set g (.pl hs))[g]? = some (.pl hs) := List.getElem?_set_self hlt
  have hmu := mkArgs_un gn hm
  have Ru := R.unSlot g
  have cas : ρ[g]? = some (.pl hs) ∨ hs = [] := by
    unfold plOf at hg
    split at hg
    · rename_i q; cases hg; exact .inl q
    · cases hg; exact .inr rfl
    · cases hg
  have hL : ∀ p, p ∈ hs.map (·.1) → G.H0 p = none ∨ G.L p := fun p m => by
    obtain ⟨⟨_, c⟩, m2, rfl⟩ := List.mem_map.mp m
    exact (R1.pl.has g hs _ c at_ m2).2.2
  have hLo : ∀ (i : Nat) (s : Sl) (c : Cn) (p : Addr), (ρ.set g .un)[i]? = some s → s.cn = some c → σ[i]? = some (some (.ref p)) → ¬ p ∈ hs.map (·.1) := fun i s c p e1 e2 e3 m => by
    obtain ⟨⟨_, c0⟩, m2, rfl⟩ := List.mem_map.mp m
    rcases set_get e1 with ⟨_, z⟩ | ⟨ne, z⟩
    · subst z; cases e2
    · exact R1.pl.own g hs _ c0 at_ m2 i s c (by rw [List.getElem?_set_ne (Ne.symm ne)]; exact z) e2 e3
  have hLp : ∀ (i : Nat) (h2 : Pile) (p : Addr) (c : Cn), (ρ.set g .un)[i]? = some (.pl h2) → (p, c) ∈ h2 → ¬ p ∈ hs.map (·.1) := fun i h2 p c e1 m1 m => by
    obtain ⟨⟨_, c0⟩, m2, rfl⟩ := List.mem_map.mp m
    rcases set_get e1 with ⟨_, z⟩ | ⟨ne, z⟩
    · cases z
    · exact ne (R1.pl.two i g h2 hs _ c c0 (by rw [List.getElem?_set_ne (Ne.symm ne)]; exact z) at_ m1 m2)
  have RB := Ru.behindL hL hLo hLp d hmu R'
  have own : ∀ (k i : Nat), os[k]? = some (.bor i) → ∃ s c, (ρ.set g .un)[i]? = some s ∧ s.cn = some c := fun k i e => by
    obtain ⟨l1, g1⟩ := mkArgs_get hmu
    have hj : k < os.length := (List.getElem?_eq_some_iff.mp e).1
    rw [← l1] at hj
    rcases g1 k _ (List.getElem?_eq_getElem hj) with ⟨d', z1, z⟩ | ⟨i', s', c', z1, z2, z3, z4⟩
    · rw [e] at z1; cases z1
    · rw [e] at z1; cases z1
      exact ⟨s', c', z2, z3⟩
  have hgb : g ∉ bors os := fun m => by
    obtain ⟨k2, ek⟩ := bors_get m
    obtain ⟨s, c, z1, z2⟩ := own k2 g ek
    rw [List.getElem?_set_self hlt] at z1
    cases z1; cases z2
  have R2 := Ru.givesL R' (j := 0) hb (fun k s e => by rw [Nat.zero_add]; exact e) (fun k i p e1 e2 => by
    rw [Nat.zero_add] at e2
    unfold bOf' at e2
    rw [e1] at e2
    simp only at e2
    split at e2
    · rename_i q hq
      cases e2; exact hq
    · cases e2) own hn RB (fun k s c e hc => by
      rcases wipeD_get e with z | ⟨z, w⟩
      · subst z; cases hc
      · exact ⟨w, s, c, z, hc⟩) fun k hs e => by
      rcases wipeD_get e with z | ⟨z, _⟩
      · cases z
      · exact z
  -- the slots that own, behind
  have ownB : ∀ (i : Nat) (s : Sl) (c' : Cn), ρ2[i]? = some s → s.cn = some c' → ∃ s0 c0, (ρ.set g .un)[i]? = some s0 ∧ s0.cn = some c0 := fun i s c' e1 e2 => by
    obtain ⟨c2, z⟩ := giveB_owned hb i s c' e1 e2
    rcases z with z | ⟨s0, z1, z2⟩
    · rcases wipeD_get z with w | ⟨w, _⟩
      · subst w; cases e2
      · exact ⟨s, c', w, e2⟩
    · subst z2
      obtain ⟨c0, h0⟩ := Sl.cn_with e2
      exact ⟨s0, c0, z1, h0⟩
  have lone2 : ∀ p, (H p = none ∨ p ∈ hs.map (·.1)) → Lone σ ρ2 p := fun p hp => by
    refine ⟨fun i s c' e1 e2 e3 => ?_, fun i h2 c' e1 m => ?_⟩
    · obtain ⟨s0, c0, z1, z2⟩ := ownB i s c' e1 e2
      rcases hp with hp | hp
      · obtain ⟨p', b1, b2, _⟩ := Ru.owned z1 z2
        rw [e3] at b1; cases b1
        obtain ⟨o, ho⟩ := b2.ex
        rw [hp] at ho; cases ho
      · exact hLo i s0 c0 p z1 z2 e3 hp
    · have e2 := giveB_pl hb (fun i2 m2 => by
        obtain ⟨k2, ek⟩ := bors_get m2
        exact own k2 i2 ek) i h2 e1
      rcases wipeD_get e2 with z | ⟨z, _⟩
      · cases z
      · rcases hp with hp | hp
        · obtain ⟨a, _⟩ := Ru.pl.has i h2 p c' z m
          obtain ⟨o, ho⟩ := a.ex
          rw [hp] at ho; cases ho
        · exact hLp i h2 p c' z m hp
  have gat : plOf ρ2 g = some [] := by
    have e1 := giveB_other hb hgb
    have hl2 : g < (ρ.set g Sl.un).length := by rw [List.length_set]; exact hlt
    have e2 : (wipeD (ρ.set g .un) (bors os))[g]? = some .un := by
      have hl3 : g < (wipeD (ρ.set g .un) (bors os)).length := by rw [wipeD_length]; exact hl2
      rcases wipeD_get (List.getElem?_eq_getElem hl3) with z | ⟨z, _⟩
      · rw [List.getElem?_eq_getElem hl3, z]
      · rw [List.getElem?_set_self hlt] at z
        rw [List.getElem?_eq_getElem hl3, ← z]
    unfold plOf
    rw [e1, e2]
  have P' := R'.pl
  have old : ∀ p, (H p = none ∨ p ∈ hs.map (·.1)) → G.H0 p = none ∨ G.L p := fun p hp => hp.elim (fun z => .inl (R.fresh z).2) (hL p)
  obtain ⟨_, R3⟩ := R2.plAdd gat (P'.one _ _ ho) fun p c m => by
    obtain ⟨a, b, d⟩ := P'.has _ hs' p c ho m
    exact ⟨a, b, old p d, lone2 p d⟩
  rw [List.append_nil] at R3
  refine k r _ v H' F' qd R'.fr0 R3 ?_
  have lone3 : ∀ p, (H p = none ∨ p ∈ hs.map (·.1)) → Lone σ' outs p → Lone σ (ρ2.set g (.pl hs')) p := fun p hp hl => by
    have l2 := lone2 p hp
    refine ⟨fun i s c' e1 e2 e3 => ?_, fun i h2 c' e1 m => ?_⟩
    · rcases set_get e1 with ⟨_, z⟩ | ⟨_, z⟩
      · subst z; cases e2
      · exact l2.1 i s c' z e2 e3
    · rcases set_get e1 with ⟨_, z⟩ | ⟨_, z⟩
      · cases z; exact hl.2 _ _ c' ho m
      · exact l2.2 i h2 c' z m
  cases r with
  | v d => exact rd
  | fr c =>
    obtain ⟨p, e, a1, a2, a3, a4⟩ := rd
    exact ⟨p, e, a1, a2, old p a3, lone3 p a3 a4⟩
  | pt d h2 =>
    obtain ⟨g1, g2, g3⟩ := rd
    refine ⟨g1, g2, fun p c m => ?_⟩
    obtain ⟨a1, a2, a3, a4⟩ := g3 p c m
    exact ⟨a1, a2, old p a3, lone3 p a3 a4⟩
end
section
variable {X : Cx}
end
/-- what a def hands back of its slots: the lent ones and the pile -/
def cleanP : SL → SL := List.map fun s => match s with
  | .bw j c => .bw j c
  | .pl hs => .pl hs
  | _ => .un
theorem cleanP_get {ρ : SL} {i : Nat} {s : Sl} (h : (cleanP ρ)[i]? = some s) : s = .un ∨ ρ[i]? = some s := by
  unfold cleanP at h
  rw [List.getElem?_map] at h
  cases q : ρ[i]? with
  | none => rw [q] at h; cases h
  | some t =>
    rw [q] at h
    cases t with
    | bw j c => cases h; exact .inr rfl
    | pl _ => cases h; exact .inr rfl
    | un => cases h; exact .inl rfl
    | sh d => cases h; exact .inl rfl
    | ow c => cases h; exact .inl rfl
theorem fnDP {P : Program} {w : World} {K : PySem.W.Frag} {mg : Str → Option Value} {base : Heap} {x qual : Str} {st : Stmt} {f : Addr} {fd : FuncData} {N ps : List Str} {k : Nat} {sp : SpD} (Fn : Fun K x qual st f fd) (S : FnScope N ps (defScope st)) (hN : ps.length < N.length)
    (len : ∀ as Q, sp as Q → as.length = ps.length + 1)
    (hbody : ∀ (cdv : Value) (A : Around) (outer : List Env) (s : Shared) (H : Hp), (A.deeper (PyProof.Rows.envOfC qual (defScope st) s.heap.objs.size f cdv)).guards = some [] → Room k (A.deeper (PyProof.Rows.envOfC qual (defScope st) s.heap.objs.size f cdv)) →
      ∃ ts t, DSs (cxOf CX0 P w K mg base N qual (defScope st) f cdv A outer s H E0).nox (defBody st) ts t ∧
        ∀ as Q, sp as Q → t { nx := fun ρ' => Q (.v .non) (cleanP (ρ'.take as.length)), rt := fun r ρ' => Q r (cleanP (ρ'.take as.length)) } (as ++ List.replicate (N.length - as.length) .un)) : FnG P w K mg base CX0 (k + 1) f fd ps (liftP K sp) := by
  have lenV : ∀ vs H Q E, liftP K sp vs H Q E → vs.length = ps.length := fun vs H Q E ⟨b, L, F, as, Qd, R, h, _⟩ => by
    have := R.len
    rw [List.length_append, List.length_map, len as _ h, List.length_singleton] at this
    omega
  refine fnG_of Fn S lenV fun cdv A outer s H vs Q E hgd hr h => ?_
  have hv := lenV _ _ _ _ h
  obtain ⟨ts, t, hD, hd⟩ := hbody cdv A outer s H hgd hr
  refine ⟨ts, hD.pe.nox, ?_⟩
  obtain ⟨b, L, F, as, Qd, R, q, kk⟩ := h
  have hl : as.length = vs.length + 1 := by have := R.len; rw [List.length_append, List.length_map] at this; exact this
  have R0 : Rep K ⟨b, L, H, F⟩ (L2.start N vs) H F (as ++ List.replicate (N.length - as.length) .un) := by
    have gl : ∀ (i : Nat) (s : Sl), (as ++ List.replicate (N.length - as.length) .un)[i]? = some s → s = .un ∨ (as[i]? = some s ∧ (L2.start N vs)[i]? = (vs.map some ++ [none])[i]?) := fun i s e => by
      by_cases hi : i < as.length
      · rw [List.getElem?_append_left hi] at e
        refine .inr ⟨e, ?_⟩
        unfold L2.start
        by_cases hi2 : i < vs.length
        · rw [List.getElem?_append_left (by rw [List.length_map]; exact hi2), List.getElem?_append_left (by rw [List.length_map]; exact hi2)]
        · have hi3 : i = vs.length := by omega
          subst hi3
          rw [List.getElem?_append_right (by rw [List.length_map]; exact Nat.le_refl _), List.getElem?_append_right (by rw [List.length_map]; exact Nat.le_refl _), List.length_map, Nat.sub_self]
          rw [List.getElem?_replicate, if_pos (by omega)]
          rfl
      · rw [List.getElem?_append_right (Nat.le_of_not_lt hi)] at e
        exact .inl (List.eq_of_mem_replicate (List.mem_of_getElem? e))
    exact R.slots (by unfold L2.start; simp [hl]; omega) gl
  have cl : ∀ {σ' : L2.St} {H' F' : Hp} {ρ' : SL}, Rep K ⟨b, L, H, F⟩ σ' H' F' ρ' → Rep K ⟨b, L, H, F⟩ (σ'.take as.length) H' F' (cleanP (ρ'.take as.length)) ∧
      ∀ v r, RDen K ⟨b, L, H, F⟩ σ' ρ' H' F' v r → RDen K ⟨b, L, H, F⟩ (σ'.take as.length) (cleanP (ρ'.take as.length)) H' F' v r := fun {σ' H' F' ρ'} R' => by
    have gl : ∀ (i : Nat) (s : Sl), (cleanP (ρ'.take as.length))[i]? = some s → s = .un ∨ (ρ'[i]? = some s ∧ (σ'.take as.length)[i]? = σ'[i]?) := fun i s e => by
      rcases cleanP_get e with z | z
      · exact .inl z
      · by_cases hi : i < as.length
        · rw [List.getElem?_take_of_lt hi] at z
          exact .inr ⟨z, List.getElem?_take_of_lt hi⟩
        · rw [List.getElem?_take_eq_none (Nat.le_of_not_lt hi)] at z
          cases z
    exact ⟨R'.slots (by unfold cleanP; rw [List.length_map, List.length_take, List.length_take, R'.len]) gl, fun v r rd => rd.slots gl⟩
  refine hD.sem R0 (hd as Qd q) ⟨fun σ' H' F' ρ' e R' => ?_, fun σ' H' F' ρ' r v e R' rd => ?_, fun _ _ _ _ e _ => e.elim, fun _ _ _ _ e _ => e.elim, fun _ _ _ _ _ _ _ e _ _ => e.elim, fun _ _ _ _ _ _ _ e _ _ => e.elim⟩
  · exact kk _ _ _ _ _ _ e (cl R').1 .non
  · exact kk _ _ _ _ _ _ e (cl R').1 ((cl R').2 _ _ rd)
end DL

/-! The pile goes along to methods and to new objects; fields of things that a pile holds; walks over fields. -/
namespace DL
open PySem PySem.Spec L2 PyProof.Rows
structure CalMZ (P : Program) (w : World) (K : PySem.W.Frag) (mg : Str → Option Value) (base : Heap) (k : Nat) (f : Addr) (fd : FuncData) (ps : List Str) (sp : SpD) : Prop where
  b : Binds K fd ps []
  ok : FnG P w K mg base CX0 k f fd ps (liftP K sp)
section
variable {X : Cx}
/-! ### C(..), whose fields a pile holds -/
def dMakeZ (g : Nat) (C : Addr) (sp : SpD) (u : TAg) : TD := fun ρ Q => u ρ fun os ρ1 => qCallP g sp (.bor ρ1.length :: os) (ρ1 ++ [.ow (.o C [])]) fun r ρ2 => r = .v .non ∧ ρ2.length = ρ1.length + 1 ∧ match ρ2[ρ1.length]? with
  | some (.ow c) => Q (.fr c) (ρ2.take ρ1.length)
  | _ => False
theorem de_makeZ (g : Nat) {CX : CXT} {k : Nat} {C f : Addr} {fd : FuncData} {ps : List Str} {sp : SpD} {E : XK} {x : Str} {p pos : Pos} {e : Expr} {es : List Expr} {ta : TA} {u : TAg} (M : Mk X.K C f) (Fk : FnG X.prog X.w X.K X.mg X.base CX k f fd ps (liftP X.K sp)) (hgd : X.A.guards = some []) (hr : Room (k + 1) X.A)
    (hg : Gl X x) (hm : X.mg x = some (.ref C)) (hb : Binds X.K fd ps []) (hx : Passes CX X E) (ha : DAg X (e :: es) ta u)
    (hdb : (x == ("__debug__" : Str)) = false := by decide) (he : starEach (e :: es) X.env = (false, eval e X.env) :: starEach es X.env := by rfl) (hpl : (backTo pos (starEach es X.env)).any (·.1) = false := by rfl) :
    DE X (.Call (.Name x p) (e :: es) [] pos) (tMake C (liftP X.K sp) [] E ta) (dMakeZ g C sp u) := by
  refine ⟨pe_makeG M Fk hgd hr hg hm hb hx ha.pe hdb he hpl, fun {G σ H F ρ Q Qd} R q kk => ha.sem R q fun os ρ1 vs H1 F1 q1 s1 R1 d1 => fun a dx ha0 hdx ne => ?_⟩
  rw [List.append_nil]
  have R2 := R1.junk (o := .own a) hdx
  have ha1 : (upd H1 dx (.own a)) a = none := by rw [upd_ne (Ne.symm ne)]; exact ha0
  obtain ⟨R3, rd3⟩ := R2.allocFr (o := .ins C dx []) ha1 (c := .o C []) ⟨dx, [], upd_same, .nil⟩
  have gl : ∀ (i : Nat) (s : Sl), (ρ1 ++ [Sl.un])[i]? = some s → s = .un ∨ (ρ1[i]? = some s ∧ (σ ++ [none])[i]? = σ[i]?) := fun i s e => by
    by_cases hi : i < ρ1.length
    · rw [List.getElem?_append_left hi] at e
      exact .inr ⟨e, List.getElem?_append_left (by rw [← R1.len]; exact hi)⟩
    · rw [List.getElem?_append_right (by omega)] at e
      have := List.mem_of_getElem? e
      simp only [List.mem_singleton] at this
      exact .inl this
  have R4 := R3.slots (σ' := σ ++ [none]) (ρ' := ρ1 ++ [Sl.un]) (by rw [List.length_append, List.length_append, R1.len]; rfl) gl
  have rd4 := rd3.slots (σ' := σ ++ [none]) (ρ' := ρ1 ++ [Sl.un]) gl
  have R5 := R4.setOw rd4 ρ1.length
  have e1 : (σ ++ [none]).set ρ1.length (some (V.ref a)) = σ ++ [some (V.ref a)] := by
    rw [R1.len, List.set_append_right _ _ (Nat.le_refl _), Nat.sub_self]
    rfl
  have e2 : (ρ1 ++ [Sl.un]).set ρ1.length (.ow (.o C [])) = ρ1 ++ [.ow (.o C [])] := by
    rw [List.set_append_right _ _ (Nat.le_refl _), Nat.sub_self]
    rfl
  rw [e1, e2] at R5
  have hget : (σ ++ [some (V.ref a)])[ρ1.length]? = some (some (V.ref a)) := by
    rw [R1.len, List.getElem?_append_right (Nat.le_refl _), Nat.sub_self]
    rfl
  refine sem_argsP R5 (.cons (o := .bor ρ1.length) hget (ADens.grow d1)) q1 fun r ρ2 v H' F' qd s3 R6 rd6 => ?_
  obtain ⟨rfl, hlen, qd⟩ := qd
  cases rd6
  refine ⟨rfl, ?_⟩
  split at qd
  · rename_i c hc
    obtain ⟨R7, rd7⟩ := R6.take hc hget
    have gl2 : ∀ (i : Nat) (s : Sl), (ρ2.take ρ1.length)[i]? = some s → s = .un ∨ ((ρ2.set ρ1.length .un)[i]? = some s ∧ σ[i]? = (σ ++ [some (V.ref a)])[i]?) := fun i s e => by
      have hi : i < ρ1.length := by
        have := (List.getElem?_eq_some_iff.mp e).1
        rw [List.length_take] at this
        omega
      rw [List.getElem?_take_of_lt hi] at e
      refine .inr ⟨?_, (List.getElem?_append_left (by rw [← R1.len]; exact hi)).symm⟩
      rw [List.getElem?_set_ne (by omega)]
      exact e
    have R8 := R7.slots (σ' := σ) (ρ' := ρ2.take ρ1.length) (by rw [List.length_take, hlen, ← R1.len]; omega) gl2
    exact kk _ _ _ _ _ qd (s1.trans s3) R8 (rd7.slots gl2)
  · exact qd.elim
/-! ### o.f = e, o a thing that the pile holds -/
end
/-! ### walks over what a pile holds, told by an expression -/
section
variable {K : PySem.W.Frag}
theorem itm_plE {G : Cd} {g : Nat} {q : Addr} {ds : List D} : ItM K G (HeldP g q ds) (Ite K q) (enumD ds) := by
  have hH : ∀ {σ : L2.St} {H F : Hp} {ρ : SL}, Rep K G σ H F ρ → HeldP g q ds ρ → ∃ xs, H q = some (.lst xs) ∧ DenL K F xs ds := fun R ⟨hs, e, e2⟩ => by
    obtain ⟨⟨xs, h1, h2⟩, _⟩ := R.plHas e e2
    exact ⟨xs, h1, h2⟩
  refine ⟨fun R m => ?_, fun i hi R m => ?_, fun {σ H F ρ} i d x H' hi R m y => ?_⟩
  · obtain ⟨xs, h1, h2⟩ := hH R m
    exact ⟨xs, .inl (.inl h1), by rw [h2.length]; unfold enumD; rw [List.length_mapIdx]; exact Nat.le_refl _⟩
  · obtain ⟨xs, h1, h2⟩ := hH R m
    unfold enumD at hi
    rw [List.length_mapIdx, ← h2.length] at hi
    exact ⟨xs, xs[i], .inl (.inl h1), List.getElem?_eq_getElem hi⟩
  · obtain ⟨xs, h1, h2⟩ := hH R m
    obtain ⟨T, z, rfl, nT, rfl, y⟩ := y
    obtain ⟨d', e, dd⟩ := h2.get' (y xs (.inl (.inl h1)))
    unfold enumD at hi
    rw [List.getElem?_mapIdx, e] at hi
    cases hi
    obtain ⟨s1, R1⟩ := R.alloc (o := .tup [.int (i : Nat), z]) nT
    exact .inr ⟨T, _, nT, rfl, .tup upd_same (.cons (.int _) (.cons (dd.mono s1) .nil))⟩
end
section
variable {X : Cx} {tg : Expr}
def srcPlX (en : List D → List D) (g : Nat) (t : TD) : TSrcM := fun ρ Q => t ρ fun r ρ1 => ∃ q hs ds, r.dat = .at q ∧ plOf ρ1 g = some hs ∧ hs.lookup q = some (.l ds) ∧ Q (en ds) (HeldP g q ds) ρ1
theorem dim_enumX (g : Nat) {e : Expr} {te : TE} {t : TD} {p pos tpos : Pos} {elts : List Expr} {kk : Nat} (hg : Gl X "enumerate") (hm : X.mg "enumerate" = none) (h : DE X e te t) (hs : starEach [e] X.env = [(false, eval e X.env)] := by rfl) :
    DIm X (.Tuple elts kk tpos) (.Call (.Name "enumerate" p) [e] [] pos) (iEnum X.K (tCons te tNil)) (srcPlX enumD g t) := by
  refine ⟨pi_enum hg hm (pa_cons h.pe pa_nil hs) hs, fun {G σ H F ρ Q Qd} R q k => h.sem R q fun r ρ1 v H1 F1 q1 s1 R1 rd => ?_⟩
  obtain ⟨F2, s2, R2, d2⟩ := R1.share rd
  obtain ⟨p, hs, ds, e0, e1, e2, q1⟩ := q1
  rw [e0] at d2
  cases d2
  obtain ⟨⟨xs, h1, h2⟩, _⟩ := R2.plHas e1 e2
  exact ⟨_, _, rfl, .inl (.inl h1), k _ _ _ _ _ _ q1 (s1.trans s2) R2 fun G' _ _ => itm_plE⟩
end
end DL

/-! Methods, properties, len and == of things that a pile holds, seen n levels deep; what comes out is new and flat. -/
namespace DL
open PySem PySem.Spec L2 PyProof.Rows
def resN (hs : Pile) : Nat → D → D
  | 0, d => d
  | n + 1, d => resN hs n (D.res hs d)
def Op.viewN (n : Nat) (ρ : SL) (g : Nat) (o : Op) : Option D := (o.get ρ).map (resN (pileOf ρ g) n)
def getsN (n : Nat) (ρ : SL) (g : Nat) : List Op → Option (List D)
  | [] => some []
  | o :: os => match o.viewN n ρ g, getsN n ρ g os with
    | some d, some ds => some (d :: ds)
    | _, _ => none
theorem Den.resN {K : PySem.W.Frag} {F : Hp} {hs : Pile} (hh : ∀ p c, hs.lookup p = some c → Den K F (.ref p) c.dat) : ∀ (n : Nat) {d : D} {v : V}, Den K F v d → Den K F v (DL.resN hs n d)
  | 0, _, _, h => h
  | n + 1, _, _, h => Den.resN hh n (Den.res hh h)
section
variable {K : PySem.W.Frag} {G : Cd} {σ : L2.St} {H F H' F' : Hp} {ρ : SL}
theorem ops_denN (R : Rep K G σ H F ρ) {n g : Nat} : ∀ {vs : List V} {os : List Op} {ds : List D}, OpDens K F σ vs os → getsN n ρ g os = some ds → DenL K (frz1 σ ρ H F) vs ds
  | _, _, _, .nil, e => by cases e; exact .nil
  | _, _, ds, .cons (o := o) (os := os) a b, e => by
    unfold getsN at e
    cases q : o.viewN n ρ g with
    | none => rw [q] at e; cases e
    | some d =>
      rw [q] at e
      cases q2 : getsN n ρ g os with
      | none => rw [q2] at e; cases e
      | some ds' =>
        rw [q2] at e
        cases e
        unfold Op.viewN at q
        cases q3 : o.get ρ with
        | none => rw [q3] at q; cases q
        | some d0 =>
          rw [q3] at q
          cases q
          refine .cons (Den.resN (fun p c e => ?_) n (op_den1 R a q3)) (ops_denN R b q2)
          obtain ⟨i, hs, z1, z2⟩ := pileOf_mem (lookup_mem e)
          exact own_den R (R.pl.has i hs p c z1 z2).1 (.inr ⟨i, hs, c, z1, z2⟩)
end
section
variable {X : Cx}
def dCallN (n g : Nat) (sp : SpD) (t : TAs) : TD := fun ρ Q => t ρ fun os ρ1 => match getsN n ρ1 g os with
  | some ds => sp (ds.map Sl.sh) fun r _ => r.flat = true ∧ Q r ρ1
  | none => False
theorem de_callN (n g : Nat) {CX : CXT} {k : Nat} {f : Addr} {fd : FuncData} {ps : List Str} {sp : SpD} {x : Str} {p pos : Pos} {e : Expr} {es : List Expr} {ta : TA} {t : TAs} {E : XK} (Fk : FnG X.prog X.w X.K X.mg X.base CX k f fd ps (lift X.K sp)) (hgd : X.A.guards = some []) (hr : Room k X.A)
    (hg : Gl X x) (hm : X.mg x = some (.ref f)) (hk : PySem.W.keepIn X.K (.ref f) = true) (hb : Binds X.K fd ps []) (hx : Passes CX X E) (ha : DA X (e :: es) ta t) (hdb : (x == ("__debug__" : Str)) = false := by decide)
    (he : starEach (e :: es) X.env = (false, eval e X.env) :: starEach es X.env := by rfl) (hpl : (backTo pos (starEach es X.env)).any (·.1) = false := by rfl) : DE X (.Call (.Name x p) (e :: es) [] pos) (tCall (lift X.K sp) [] E ta) (dCallN n g sp t) :=
  ⟨pe_callG Fk hgd hr hg hm hk hb hx ha.pe hdb he hpl, fun {G σ H F ρ Q Qd} R q kk => by
    have z : ta σ H (fun vs H1 => lift X.K sp vs H1 Q E) := by
      refine ha.sem R q fun os ρ1 vs H1 F1 q1 s1 R1 d1 => ?_
      cases ea : getsN n ρ1 g os with
      | none => rw [ea] at q1; exact q1.elim
      | some ds =>
        rw [ea] at q1
        exact sem_look R1 (ops_denN R1 d1 ea) q1 fun r ρ' v H' F' qd s2 R2 rd => kk _ _ _ _ _ qd (s1.trans s2) R2 rd
    show ta σ H (fun vs H1 => lift X.K sp (vs ++ []) H1 Q E)
    simpa only [List.append_nil] using z⟩
def dMethN (n g : Nat) (C : Addr) (m : Str) (sp : SpD) (t0 : TQ) (t : TAs) : TD := fun ρ Q => t0 ρ fun o ρ1 => (∃ d, o.get ρ1 = some d ∧ isObjD C m d) ∧ t ρ1 fun os ρ2 => match getsN n ρ2 g (o :: os) with
  | some ds => sp (ds.map Sl.sh) fun r _ => r.flat = true ∧ Q r ρ2
  | none => False
theorem sem_methN {n g : Nat} {C : Addr} {m : Str} {sp : SpD} {o : Expr} {ta : TE} {t0 : TQ} {tb : TA} {t : TAs} {E : XK} (he : DO X o ta t0)
    (hu : ∀ {G : Cd} {σ : L2.St} {H F : Hp} {ρ : SL} {Q : List V → Hp → Prop} {Qd : List Op → SL → Prop}, Rep X.K G σ H F ρ → t ρ Qd → (∀ os ρ' vs H' F', Qd os ρ' → Same F F' → Rep X.K G σ H' F' ρ' → OpDens X.K F' σ vs os → Q vs H') → tb σ H Q)
    {G : Cd} {σ : L2.St} {H F : Hp} {ρ : SL} {Q : VK} {Qd : Rv → SL → Prop} (R : Rep X.K G σ H F ρ) (q : dMethN n g C m sp t0 t ρ Qd)
    (k : ∀ r ρ' v H' F', Qd r ρ' → Same F F' → Rep X.K G σ H' F' ρ' → RDen X.K G σ ρ' H' F' v r → Q v H') : tMethR C m (lift X.K sp) E ta tb σ H Q := by
  refine he.sem R q fun o1 ρ1 v H1 F1 q1 s1 R1 d1 => ?_
  obtain ⟨⟨d0, e0, q0⟩, q1⟩ := q1
  obtain ⟨a, dx, gs, rfl, h1, l1⟩ := objD_at R1.ext (d1.pk R1 e0) q0
  refine ⟨a, dx, gs, rfl, h1, l1, hu R1 q1 fun os ρ2 vs H2 F2 q2 s2 R2 d2 => ?_⟩
  cases ea : getsN n ρ2 g (o1 :: os) with
  | none => rw [ea] at q2; exact q2.elim
  | some ds =>
    rw [ea] at q2
    exact sem_look R2 (ops_denN R2 (.cons (d1.mono s2) d2) ea) q2 fun r ρ' v H' F' qd s3 R3 rd => k _ _ _ _ _ qd (s1.trans (s2.trans s3)) R3 rd
theorem de_methN (n g : Nat) {k : Nat} {C f : Addr} {fd : FuncData} {ps : List Str} {sp : SpD} {E : XK} {CX : CXT} {m : Str} {pos apos : Pos} {e o : Expr} {es : List Expr} {ta : TE} {tb : TA} {t0 : TQ} {t : TAs} {pl : Sem Bool} (he : DO X o ta t0) (c : Cls X.K C) (hm : Meth X.K C m f)
    (Fk : FnG X.prog X.w X.K X.mg X.base CX k f fd ps (lift X.K sp)) (hgd : X.A.guards = some []) (hr : Room k X.A) (hb : Binds X.K fd ps []) (hx : Passes CX X E) (ha : DA X (e :: es) tb t)
    (hst : starEach (e :: es) X.env = (false, eval e X.env) :: starEach es X.env := by rfl) (hpl : (backTo pos (starEach es X.env)).any (·.1) = false := by rfl)
    (ht : eval (.Call (.Attribute o m apos) (e :: es) [] pos) X.env = (do
      let ov ← eval o X.env
      standAt apos.atName
      let (f, first) ← holding [ov] (getMethod ov m pl)
      callWith pos f first (backTo pos (starEach (e :: es) X.env)) (backToKw pos (keywordEach [] X.env))) := by rfl) :
    DE X (.Call (.Attribute o m apos) (e :: es) [] pos) (tMethR C m (lift X.K sp) E ta tb) (dMethN n g C m sp t0 t) :=
  ⟨pe_methG he.pe c hm Fk hgd hr hb hx ha.pe hst hpl ht, fun R q kk => sem_methN he ha.sem R q kk⟩
end
end DL

/-! try: .. whose body does not raise. -/
namespace DL
open PySem PySem.Spec L2 PyProof.Rows
section
variable {X : Cx}
end
end DL

/-! o.f(..), f a field that holds an instance with its own __call__. -/
namespace DL
open PySem PySem.Spec L2 PyProof.Rows
section
variable {X : Cx}
end
end DL

/-! What holds nothing of a pile is seen as it is. -/
namespace DL
open PySem PySem.Spec L2 PyProof.Rows
mutual
/-- nothing of a pile in it -/
def D.clo : D → Bool
  | .at _ => false
  | .lst l => D.clos l
  | .tup l => D.clos l
  | .dct l => D.clok l
  | .obj _ l => D.cloo l
  | .non => true
  | .bl _ => true
  | .int _ => true
  | .str _ => true
  | .rep _ => true
  | .scr _ => true
  | .exc _ _ _ _ _ => true
  | .dx _ _ => true
  | .unk => true
def D.clos : List D → Bool
  | [] => true
  | d :: r => D.clo d && D.clos r
def D.clok : List (Key × D) → Bool
  | [] => true
  | (_, d) :: r => D.clo d && D.clok r
def D.cloo : List (Str × D) → Bool
  | [] => true
  | (_, d) :: r => D.clo d && D.cloo r
end
mutual
theorem res_clo {hs : Pile} : ∀ d : D, d.clo = true → D.res hs d = d
  | .at p, h => by rw [D.clo] at h; cases h
  | .lst l, h => by rw [D.clo] at h; rw [D.res, ress_clo l h]
  | .tup l, h => by rw [D.clo] at h; rw [D.res, ress_clo l h]
  | .dct l, h => by rw [D.clo] at h; rw [D.res, resk_clo l h]
  | .obj C l, h => by rw [D.clo] at h; rw [D.res, reso_clo l h]
  | .int _, _ => res_int
  | .str _, _ => res_str
  | .bl _, _ => res_bl
  | .non, _ => res_non
  | .scr _, _ => by rw [D.res] <;> (intros; contradiction)
  | .rep _, _ => by rw [D.res] <;> (intros; contradiction)
  | .exc _ _ _ _ _, _ => by rw [D.res] <;> (intros; contradiction)
  | .dx _ _, _ => by rw [D.res] <;> (intros; contradiction)
  | .unk, _ => by rw [D.res] <;> (intros; contradiction)
theorem ress_clo {hs : Pile} : ∀ l : List D, D.clos l = true → D.ress hs l = l
  | [], _ => by rw [D.ress]
  | d :: r, h => by
    rw [D.clos, Bool.and_eq_true] at h
    rw [D.ress, res_clo d h.1, ress_clo r h.2]
theorem resk_clo {hs : Pile} : ∀ l : List (Key × D), D.clok l = true → D.resk hs l = l
  | [], _ => by rw [D.resk]
  | (k, d) :: r, h => by
    rw [D.clok, Bool.and_eq_true] at h
    rw [D.resk, res_clo d h.1, resk_clo r h.2]
theorem reso_clo {hs : Pile} : ∀ l : List (Str × D), D.cloo l = true → D.reso hs l = l
  | [], _ => by rw [D.reso]
  | (k, d) :: r, h => by
    rw [D.cloo, Bool.and_eq_true] at h
    rw [D.reso, res_clo d h.1, reso_clo r h.2]
end
theorem clos_map {α : Type} {f : α → D} (h : ∀ x, (f x).clo = true) : ∀ l : List α, D.clos (l.map f) = true
  | [] => by rw [List.map_nil, D.clos]
  | x :: r => by rw [List.map_cons, D.clos, h x, clos_map h r]; rfl
theorem clo_str (x : Str) : D.clo (.str x) = true := by rw [D.clo]
end DL

/-! d.get(k, x). -/
namespace DL
open PySem PySem.Spec L2 PyProof.Rows
section
variable {X : Cx}
end
end DL

/-! sorted(d), d a dict whose keys are texts. -/
namespace DL
open PySem PySem.Spec L2 PyProof.Rows
section
variable {prog : Program} {w : World} {A : Around} {E : Value → Shared → Prop} {s : Shared} {T : String} {r d : Addr} {n : Nat} {P : Nat → Value → Prop} {OK : Heap → Prop}
end
section
variable {X : Cx}
end
end DL

/-! sorted(a tuple of texts), text.join(a tuple), text.split(text). -/
namespace DL
open PySem PySem.Spec L2 PyProof.Rows
section
variable {prog : Program} {w : World} {A : Around} {E : Value → Shared → Prop} {s : Shared}
end
section
variable {X : Cx}
/-! ### text.join(x), x a list or a tuple of texts -/
/-! ### text.split(text) -/
end
end DL

/-! Defs that take the pile along and raise. -/
namespace DL
open PySem PySem.Spec L2 PyProof.Rows
section
variable {K : PySem.W.Frag} {G : Cd} {σ : L2.St} {H F : Hp} {ρ : SL}
end
section
variable {X : Cx}
/-! ### methods that raise -/
end
end DL

/-! An own error without a field, made: its __init__ says super().__init__(text). -/
namespace DL
open PySem PySem.W PySem.Calls PyProof.Rows PySem.HandSPX
section
variable {prog : Program} {w : World} {A : Around} {E : Value → Shared → Prop} {R : Result → Shared → Prop} {s : Shared} {K : Frag} {mg : Str → Option Value} {C fI : Addr} {nm : Str}
end
section
variable {prog : Program} {w : World} {A : Around} {E : Value → Shared → Prop} {R : Result → Shared → Prop} {s : Shared} {K : Frag} {mg : Str → Option Value} {C fI : Addr} {nm : Str}
end
end DL
namespace DL
open PySem PySem.Spec PyProof.Rows L2
section
variable {X : Cx} {C fI : Addr} {nm : Str}
end
end DL

/-! Targets and changes of what a pile holds: o.f in a tuple of targets, x[:] = ys, x.pop(), x.clear(). -/
namespace DL
open PySem PySem.Spec L2 PyProof.Rows
section
variable {X : Cx}
theorem sem_clear : SemMut0 X.K rClear mClear := by
  intro F H p xs l Q Qd e hp dl h k
  exact ⟨p, xs, rfl, rfl, hp, k _ _ _ _ h .nil .non⟩
theorem de_clearE0 (g : Nat) {o : Expr} {to : TE} {t0 : TD} {apos cpos : Pos} (ho : DE X o to t0)
    (hbase : attributeBase o "clear" X.env (eval o X.env) = eval o X.env := by rfl) (hline : (apos.endLine == cpos.line) = true := by rfl) :
    DE X (.Call (.Attribute o "clear" apos) [] [] cpos) (tBM0 X.K "list" rClear to) (dMutE0 g t0 mClear) :=
  de_mutE0 g PySem.F.slot_list_clear PySem.F.type_list_clear (fun pins s σ H x xs v us Q => mt_clear pins s σ H x xs v us Q) sem_clear ho hbase hline
end
end DL

/-! An integer looked for in a tuple of integers. -/
namespace DL
open PySem PySem.Spec PyProof.Rows L2
open PySem.SeqAt PySem.Calls
section
variable {X : Cx}
end
end DL

/-! x == y and isinstance(y, C), where y may be of another own class. -/
namespace DL
open PySem L2
section
variable {X : Cx}
end
end DL

/-! `except (A, B): raise C(..) from None`; defs whose errors may have been raised while another one was handled (hot), with the pile. -/
namespace L2H
open PySem PySem.Spec PyProof.Rows L2 HotX
section
variable {X : Cx} {x1 x2 : Str} {c1 c2 : Value} {body suite : List Stmt} {b₀ : Stmt} {p1 p2 tpos pos pos' : Pos} {kk : Nat} {tb : WX → TS} {ts : Addr → Value → Option Addr → TS} {Wout : WX}
end
end L2H
namespace DL
open PySem PySem.Spec L2 PyProof.Rows
section
variable {X : Cx}
/-! ### raise C(..) from None, in an except suite -/
/-! ### try: .. except (A, B): .. -/
/-! ### hot errors -/
def LinkWH (X : Cx) (G : Cd) (Wd : WXD) : Prop := ∀ σ H F ρ C o dd, Wd C o ρ → Rep X.K G σ H F ρ → XDen X.K F o dd → wOfH X (.ref C) dd σ H
theorem LinkWH.calm {G : Cd} {Wd : WXD} (L : LinkWH X G Wd) : LinkW X G Wd := fun σ H F ρ C o dd q R xd => wOf_ofL (takes_wOfH X) (L σ H F ρ C o dd q R xd)
end
end DL

/-! An integer not in a tuple of integers. -/
namespace DL
open PySem PySem.Spec PyProof.Rows L2
open PySem.SeqAt PySem.Calls
section
variable {X : Cx}
end
end DL

/-! try, with the clauses' wish kept shut while the body is run. -/
namespace DL
open PySem PySem.Spec L2 PyProof.Rows
/-- a reading that asks of its errors no more than they give -/
theorem sTryAs_go {K : PySem.W.Frag} {KX : Addr → Prop} {cv : Value} {i : Nat} {tb : TSD} {ts : Addr → Addr → Option Addr → TSD} {E : EndsD} {ρ : SL}
    (h : ∀ W : WXD, (∀ C o ρ', xAs K KX cv i ts E C o ρ' → W C o ρ') → tb { nx := E.nx, rt := E.rt, bk := E.bk, ct := E.ct, xc := W, xh := W } ρ) : sTryAs K KX cv i tb ts E ρ := h _ fun _ _ _ z => z
end DL

/-! A tuple and a tuple, joined; no one of them empty. -/
namespace DL
open PySem PySem.Spec PyProof.Rows L2
section
variable {X : Cx}
end
end DL

/-! y in x, x of a class with its own __contains__. -/
namespace DL
open PySem PySem.Spec PyProof.Rows L2
section
variable {prog : Program} {w : World} {A : Around} {E : Value → Shared → Prop} {s : Shared} {K : PySem.W.Frag} {x C f : Addr} {ox : Obj} {od : Option Obj}
theorem contains_own {y : Value} {Q : Bool → Shared → Prop} (X : K.In s.heap) (I : PySem.W.InstAt s.heap x ox C od) (hs : PySem.W.findIn K (.ref C) "__contains__" = some (some (.ref f))) (hf : PySem.W.typeIn K (.ref f) = some (.type "function"))
    (h : wpAny (model prog w) A (PySem.call (.ref f) [.ref x, y]) (fun r s' => ∃ z, r = .bool z ∧ Q z s') E s) : wpAny (model prog w) A (contains (.ref x) y) Q E s := by
  unfold contains
  refine wpAny_holding ?_
  rw [show stdlibNamesSay? (.ref x) y = none by cases y <;> rfl]
  refine wpAny_bind (wpAny_bind (I.type.here ((PySem.W.looks_findIn X hs).here ?_)))
  show wpAny _ A (if (some (Value.ref f) == some Value.none) = true then _ else _) Q E s
  rw [if_neg (by simp)]
  refine wpAny_bind ?_
  unfold callSpecialUnlessNone?
  refine wpAny_bind (wpAny_bind (I.type.here ((PySem.W.looks_findIn X hs).here ?_)))
  refine wpAny_holding (wpAny_bind ((PySem.W.bind_fn X _ hf).here ?_))
  show wpAny _ A (if (Value.ref f == Value.none) = true then _ else _) _ E s
  rw [if_neg (by simp)]
  refine wpAny_bind (wpAny_mono h (fun v s' h' => wpAny_pure ?_) fun _ _ e => e)
  obtain ⟨z, rfl, q⟩ := h'
  show wpAny _ A (truthy (.bool z)) Q E s'
  unfold truthy
  exact wpAny_pure q
end
section
variable {X : Cx}
def rInS (C : Addr) (sp : Sp) (E : XK) : R2 := fun x y H Q => ∃ a dx fs, y = .ref a ∧ H a = some (.ins C dx fs) ∧ sp [.ref a, x] H (fun v H' => ∃ z, v = .bl z ∧ Q v H') E
theorem op_inS {CX : CXT} {k : Nat} {C g : Addr} {fd : FuncData} {ps : List Str} {sp : Sp} {E : XK} (m : Meth X.K C "__contains__" g) (Fk : FnG X.prog X.w X.K X.mg X.base CX k g fd ps sp) (hgd : X.A.guards = some []) (hr : Room k X.A)
    (hb : Binds X.K fd ps []) (hx : Passes CX X.nox E) : OpR X (compareOp .In) (rInS C sp E) := by
  intro pins s σ H x y v u Q I rx ry h
  obtain ⟨a, dx, fs, rfl, ea, q⟩ := h
  obtain rfl : u = Value.ref a := ry
  obtain ⟨mA, J, _⟩ := ins_get I.hok ea
  obtain ⟨od, J, _⟩ := J.look
  show wpAny (model X.prog X.w) X.A (contains (.ref a) v >>= fun r => pure (Value.bool r)) (EP X pins σ Q) X.xe s
  refine wpAny_bind (contains_own I.kIn J m.at_ (beq_iff_eq.mp m.fn) ?_)
  have hl := Fk.len _ _ _ _ q
  have bt := hb s [.ref a, v] I.kIn (by simpa using hl)
  rw [List.append_nil] at bt
  refine wpAny_call (codeAny_mono (Fk.run X.A X.stack s H ⟨[.ref a, v], []⟩ [.ref a, v] [.ref a, x] _ E hgd hr I.env0 bt (.cons rfl (.cons rx .nil)) q) fun r s' hq => ?_)
  cases r with
  | error er => exact False.elim (hx pins σ H s er s' (I.wish _) hq)
  | ok fl =>
    cases fl with
    | ret u =>
      obtain ⟨v, H', I3, rv, z, rfl, q3⟩ := I.after hq
      obtain rfl : u = Value.bool z := rv
      exact ⟨z, rfl, wpAny_pure ⟨.bl z, H', I3, rfl, q3⟩⟩
    | next => exact False.elim hq
    | brk => exact False.elim hq
    | cont => exact False.elim hq
def gInS (C : Addr) (sp : SpD) : D → D → (Rv → Prop) → Prop := fun d e Q => isOfC C e ∧ sp [.sh e, .sh d] fun r _ => ∃ a, r = .v a ∧ D.atom a = true ∧ ∃ z, Rv.v a = .v (.bl z) ∧ Q (.v a)
theorem sem_inS {C : Addr} {sp : SpD} {E : XK} : SemOp X.K (rInS C (lift X.K sp) E) (gInS C sp) := by
  intro G σ H F ρ x y a b Q Qd R ha hb h k
  obtain ⟨h1, h⟩ := h
  obtain ⟨p, dx, fs, rfl, e1⟩ := obj_at R.ext hb h1
  refine ⟨p, dx, fs, rfl, e1, ?_⟩
  have e : (fun (r : Rv) (_ : SL) => ∃ a, r = .v a ∧ D.atom a = true ∧ ∃ z, Rv.v a = .v (.bl z) ∧ Qd (.v a)) = fun r _ => ∃ a, r = .v a ∧ D.atom a = true ∧ (ρ = ρ ∧ ∃ z, Rv.v a = .v (.bl z) ∧ Qd (.v a)) := by
    funext r o
    simp only [true_and]
  rw [e] at h
  exact sem_pure (ds := [b, a]) (Qd := fun r ρ' => ρ' = ρ ∧ ∃ z, r = .v (.bl z) ∧ Qd r) R (.cons (hb.den R.ext) (.cons (ha.den R.ext) .nil)) h fun r ρ' v H' F' ⟨e2, y, e, q⟩ s1 R1 rd => by
    subst e e2
    have rd : Den X.K F' v (.bl y) := rd
    cases rd with
    | bl _ => exact ⟨y, rfl, k _ _ _ _ q s1 R1 (.bl _)⟩
end
end DL

/-! x(a, ..) in a try, x of a class with its own __call__ that raises. -/
namespace DL
open PySem PySem.Spec PyProof.Rows L2
section
variable {X : Cx}
def tCallOS (X : Cx) (C : Addr) (sp : Sp) (E : L2.St → XK) (tf : TE) (t : TA) : TE := fun σ H Q => tf σ H fun y H1 => ∃ a, y = V.ref a ∧ t σ H1 fun vs H2 => StX.InsC X H2 a C ∧ sp (V.ref a :: vs) H2 Q (E σ)
theorem pe_callOGS {CX : CXT} {k : Nat} {C g : Addr} {fd : FuncData} {ps : List Str} {sp : Sp} {E : L2.St → XK} {fe e : Expr} {es : List Expr} {pos : Pos} {tf : TE} {t : TA} (hf : PE X fe tf) (c : StX.CallO X.K C g) (Fk : FnG X.prog X.w X.K X.mg X.base CX k g fd ps sp) (hgd : X.A.guards = some []) (hr : Room k X.A)
    (hb : Binds X.K fd ps []) (hx : ∀ σ, PassesAt CX X σ (E σ)) (ha : PA X (e :: es) t)
    (ht : eval (.Call fe (e :: es) [] pos) X.env = (do callWith pos (← eval fe X.env) [] (backTo pos (starEach (e :: es) X.env)) (backToKw pos (keywordEach [] X.env))) := by rfl)
    (he : starEach (e :: es) X.env = (false, eval e X.env) :: starEach es X.env := by rfl) (hpl : (backTo pos (starEach es X.env)).any (·.1) = false := by rfl) : PE X (.Call fe (e :: es) [] pos) (tCallOS X C sp E tf t) := by
  refine ⟨fun pins s σ H Q I h => ?_⟩
  refine Call_ (thn (hf.run pins s σ H _ I h) fun u s1 ⟨y, H1, I1, ry, a, ey, q⟩ => ?_) ht
  subst ey
  obtain rfl : u = Value.ref a := ry
  refine StX.callO_with (thn (ha.run pos pins s1 σ H1 _ I1 q) fun us s2 ⟨vs, H2, I2, r, hi, q2⟩ => ?_) he hpl
  obtain ⟨ox, od, J, hd⟩ := StX.insC_at I2 hi
  refine ⟨⟨C, ox, od, J, hd⟩, ?_⟩
  have hl : (Value.ref a :: us ++ []).length = ps.length := by
    rw [List.append_nil, ← Fk.len _ _ _ _ q2]
    show us.length + 1 = vs.length + 1
    rw [r.length]
  have bt := hb s2 (Value.ref a :: us) I2.kIn hl
  rw [List.append_nil] at bt
  refine wpAny_call (PySem.W.kco_code I2.kIn J hd c.at_ c.fn c.fi (codeAny_mono (Fk.run X.A X.stack s2 H2 ⟨.ref a :: us, []⟩ (.ref a :: us) (.ref a :: vs) Q (E σ) hgd hr I2.env0 bt (.cons rfl r) q2) fun r s' hq => ?_))
  match r, hq with
  | .error e, hq => exact hx σ pins H2 s2 e s' I2 hq
  | .ok (.ret u), hq => exact I2.after hq
  | .ok .next, hq => exact False.elim hq
  | .ok .brk, hq => exact False.elim hq
  | .ok .cont, hq => exact False.elim hq
def dCallOX (C : Addr) (sp : SpX) (t : TD) (u : TAg) : WXD → TD := fun Wd ρ Q => t ρ fun r ρ1 => (match r.dat with | .obj C' _ => C' = C | _ => False) ∧ dCallX sp (fun ρ' K => u ρ' fun os ρ2 => K (.val r.dat :: os) ρ2) Wd ρ1 Q
theorem dex_callO {k : Nat} {C g : Addr} {fd : FuncData} {ps : List Str} {sp : SpX} {fe e : Expr} {es : List Expr} {pos : Pos} {tf : TE} {ta : TA} {t : TD} {u : TAg} (hf : DE X fe tf t) (c : StX.CallO X.K C g) (Fk : FnG X.prog X.w X.K X.mg X.base (L2N.CX X.prog X.w) k g fd ps (liftX X.K sp)) (hgd : X.A.guards = some []) (hr : Room k X.A)
    (hb : Binds X.K fd ps []) (ha : DAg X (e :: es) ta u)
    (ht : eval (.Call fe (e :: es) [] pos) X.env = (do callWith pos (← eval fe X.env) [] (backTo pos (starEach (e :: es) X.env)) (backToKw pos (keywordEach [] X.env))) := by rfl)
    (he : starEach (e :: es) X.env = (false, eval e X.env) :: starEach es X.env := by rfl) (hpl : (backTo pos (starEach es X.env)).any (·.1) = false := by rfl) : DEX X (.Call fe (e :: es) [] pos) (tCallOS X C (liftX X.K sp) (WE (wOf X)) tf ta) (dCallOX C sp t u) := by
  refine ⟨pe_callOGS hf.pe c Fk hgd hr hb (fun σ => L2N.passAt (takes_wOf X) σ) ha.pe ht he hpl, fun {G σ H F ρ Q Qd Wd} R q L kk => hf.sem R q fun r ρ1 v H1 F1 q1 s1 R1 rd => ?_⟩
  obtain ⟨F1', s1', R1', d1⟩ := R1.share rd
  obtain ⟨q0, q1⟩ := q1
  cases hd : r.dat with
  | obj C' fs =>
    rw [hd] at q0 q1 d1
    have q0 : C' = C := q0
    subst q0
    obtain ⟨a, dx, gs, rfl, h1, h2⟩ := Pk.obj R1'.ext (.inl d1)
    refine ⟨a, rfl, ha.sem R1' q1 fun os ρ2 vs H2 F2 q2 s2 R2 d2 => ⟨.inr ?_, ?_⟩⟩
    · obtain ⟨a', dx', gs', e, h3, _⟩ := Pk.obj R2.ext (.inl (d1.mono s2))
      cases e
      exact ⟨dx', gs', h3⟩
    · exact sem_argsX (vs := .ref a :: vs) R2 (.cons (o := .val (.obj C' fs)) (d1.mono s2) d2) q2 L fun r ρ' v H' F' qd s3 R3 rd3 => kk _ _ _ _ _ qd (s1.trans (s1'.trans (s2.trans s3))) R3 rd3
  | _ => rw [hd] at q0; exact q0.elim
end
end DL

/-! min and max of two texts. -/
namespace DL
open PySem PySem.Spec PyProof.Rows L2
inductive StrV : Value → Prop
  | str (x t) : StrV (.str x t)
def ltT : Value → Value → Bool
  | .str a _, .str b _ => decide (a.cps.toList < b.cps.toList)
  | _, _ => false
section
variable {prog : Program} {w : World} {A : Around} {E : Value → Shared → Prop} {s : Shared} {Q : Value → Shared → Prop} {a b : Value}
theorem lt_txt (ha : StrV a) (hb : StrV b) (h : Q (.bool (ltT a b)) s) : wpAny (model prog w) A (richCompare .Lt a b) Q E s := by
  cases ha; cases hb
  exact PySem.P.lt_str h
theorem gt_txt (ha : StrV a) (hb : StrV b) (h : Q (.bool (ltT b a)) s) : wpAny (model prog w) A (richCompare .Gt a b) Q E s := by
  cases ha; cases hb
  exact PySem.P.gt_str h
end
theorem cmpOfT_lt {prog : Program} {w : World} {A : Around} (vs : Array Value) (hn : ∀ v ∈ vs, StrV v) :
    CmpOf prog w A .Lt (fun i v => vs[i]? = some v) (fun i j => ltT (vs.getD i .none) (vs.getD j .none)) := fun i j vi vj s Q E hi hj h => by
  have e1 : vs.getD i .none = vi := by simp [Array.getD_eq_getD_getElem?, hi]
  have e2 : vs.getD j .none = vj := by simp [Array.getD_eq_getD_getElem?, hj]
  simp only [e1, e2] at h
  exact lt_txt (hn _ (Array.mem_of_getElem? hi)) (hn _ (Array.mem_of_getElem? hj)) h
theorem cmpOfT_gt {prog : Program} {w : World} {A : Around} (vs : Array Value) (hn : ∀ v ∈ vs, StrV v) :
    CmpOf prog w A .Gt (fun i v => vs[i]? = some v) (fun i j => ltT (vs.getD j .none) (vs.getD i .none)) := fun i j vi vj s Q E hi hj h => by
  have e1 : vs.getD i .none = vi := by simp [Array.getD_eq_getD_getElem?, hi]
  have e2 : vs.getD j .none = vj := by simp [Array.getD_eq_getD_getElem?, hj]
  simp only [e1, e2] at h
  exact gt_txt (hn _ (Array.mem_of_getElem? hi)) (hn _ (Array.mem_of_getElem? hj)) h
theorem max_two_txt {prog : Program} {w : World} {A : Around} {E : Value → Shared → Prop} {s : Shared} {Q : Value → Shared → Prop} {a b : Value} (hh : A.handled = none) (ha : StrV a) (hb : StrV b)
    (h : ∀ h' tk, (∀ c o, s.heap.get? c = some o → h'.get? c = some o) → Q (if ltT a b then b else a) { s with heap := h', toks := tk }) :
    wpAny (model prog w) A (call (.builtin "max") [a, b]) Q E s := by
  have hT : (s.heap.push { cls := .type "tuple", data := .seq #[a, b] }).IsTuple s.heap.objs.size #[a, b] := ⟨_, Heap.get?_push_size _ rfl, rfl, 0, rfl⟩
  refine call_max_two (wpAny_pyIter_tuple hT ?_)
  have hsz : (s.heap.push { cls := .type "tuple", data := .seq #[a, b] }).objs.size = s.heap.objs.size + 1 := Heap.size_push ..
  refine ⟨_, [_, s.heap.objs.size], [_], _, _, _, _, rfl, Walks.tuple (A := A.in1) hh _ s.heap.objs.size (by rw [hsz]; exact Nat.ne_of_lt (Nat.lt_succ_self _)) #[a, b],
    ⟨⟨_, Heap.get?_push_size _ rfl, rfl, rfl⟩, hT.push _⟩, fun c hc => ?_, by simp, cmpOfT_gt #[a, b] (by simp [ha, hb]), fun v h' tk hP hk => ?_⟩
  · show c < ((s.heap.push _).push _).objs.size
    rw [Heap.size_push, hsz]
    rcases List.mem_cons.mp hc with rfl | hc
    · rw [hsz]; exact Nat.lt_succ_self _
    · rcases List.mem_cons.mp hc with rfl | hc
      · exact Nat.lt_succ_of_lt (Nat.lt_succ_self _)
      · cases hc
  · have hold : ∀ c o, s.heap.get? c = some o → h'.get? c = some o := fun c o e => by
      refine hk c o (fun hm => ?_) (Heap.get?_push_of_some _ (Heap.get?_push_of_some _ e))
      rcases List.mem_cons.mp hm with e1 | hm
      · have := Heap.lt_size e; rw [e1, hsz] at this; exact Nat.lt_irrefl _ (Nat.lt_of_succ_lt this)
      · cases hm
    have := h h' tk hold
    have hv : v = if ltT a b then b else a := by
      cases hc : ltT a b <;> simp [argBest, hc] at hP <;> simp [hP]
    rw [hv]; exact this
theorem min_two_txt {prog : Program} {w : World} {A : Around} {E : Value → Shared → Prop} {s : Shared} {Q : Value → Shared → Prop} {a b : Value} (hh : A.handled = none) (ha : StrV a) (hb : StrV b)
    (h : ∀ h' tk, (∀ c o, s.heap.get? c = some o → h'.get? c = some o) → Q (if ltT b a then b else a) { s with heap := h', toks := tk }) :
    wpAny (model prog w) A (call (.builtin "min") [a, b]) Q E s := by
  have hT : (s.heap.push { cls := .type "tuple", data := .seq #[a, b] }).IsTuple s.heap.objs.size #[a, b] := ⟨_, Heap.get?_push_size _ rfl, rfl, 0, rfl⟩
  refine call_min_two (wpAny_pyIter_tuple hT ?_)
  have hsz : (s.heap.push { cls := .type "tuple", data := .seq #[a, b] }).objs.size = s.heap.objs.size + 1 := Heap.size_push ..
  refine ⟨_, [_, s.heap.objs.size], [_], _, _, _, _, rfl, Walks.tuple (A := A.in1) hh _ s.heap.objs.size (by rw [hsz]; exact Nat.ne_of_lt (Nat.lt_succ_self _)) #[a, b],
    ⟨⟨_, Heap.get?_push_size _ rfl, rfl, rfl⟩, hT.push _⟩, fun c hc => ?_, by simp, cmpOfT_lt #[a, b] (by simp [ha, hb]), fun v h' tk hP hk => ?_⟩
  · show c < ((s.heap.push _).push _).objs.size
    rw [Heap.size_push, hsz]
    rcases List.mem_cons.mp hc with rfl | hc
    · rw [hsz]; exact Nat.lt_succ_self _
    · rcases List.mem_cons.mp hc with rfl | hc
      · exact Nat.lt_succ_of_lt (Nat.lt_succ_self _)
      · cases hc
  · have hold : ∀ c o, s.heap.get? c = some o → h'.get? c = some o := fun c o e => by
      refine hk c o (fun hm => ?_) (Heap.get?_push_of_some _ (Heap.get?_push_of_some _ e))
      rcases List.mem_cons.mp hm with e1 | hm
      · have := Heap.lt_size e; rw [e1, hsz] at this; exact Nat.lt_irrefl _ (Nat.lt_of_succ_lt this)
      · cases hm
    have := h h' tk hold
    have hv : v = if ltT b a then b else a := by
      cases hc : ltT b a <;> simp [argBest, hc] at hP <;> simp [hP]
    rw [hv]; exact this
section
variable {X : Cx}
theorem call_minT (hc : X.calm = true) : CallR X (.builtin "min") (fun xs H Q => ∃ i j, xs = [.str i, .str j] ∧ Q (.str (if ltS j i = true then j else i)) H) := by
  intro pins s σ H xs us Q I r h
  obtain ⟨i, j, rfl, q⟩ := h
  obtain ⟨u, w', rfl, ⟨t, rfl⟩, ⟨t', rfl⟩⟩ := vals2 r
  refine min_two_txt (I.ok.hd hc) (.str _ _) (.str _ _) fun h' tk k => ⟨_, H, I.kept k, ?_, q⟩
  show RelV _ (if ltS j i = true then _ else _)
  by_cases hj : ltS j i = true
  · rw [if_pos hj, if_pos hj]; exact ⟨_, rfl⟩
  · rw [if_neg hj, if_neg hj]; exact ⟨_, rfl⟩
theorem call_maxT (hc : X.calm = true) : CallR X (.builtin "max") (fun xs H Q => ∃ i j, xs = [.str i, .str j] ∧ Q (.str (if ltS i j = true then j else i)) H) := by
  intro pins s σ H xs us Q I r h
  obtain ⟨i, j, rfl, q⟩ := h
  obtain ⟨u, w', rfl, ⟨t, rfl⟩, ⟨t', rfl⟩⟩ := vals2 r
  refine max_two_txt (I.ok.hd hc) (.str _ _) (.str _ _) fun h' tk k => ⟨_, H, I.kept k, ?_, q⟩
  show RelV _ (if ltS i j = true then _ else _)
  by_cases hj : ltS i j = true
  · rw [if_pos hj, if_pos hj]; exact ⟨_, rfl⟩
  · rw [if_neg hj, if_neg hj]; exact ⟨_, rfl⟩
def gMinT : List D → (Rv → Prop) → Prop
  | [.str i, .str j] => fun Q => Q (.v (.str (if ltS j i = true then j else i)))
  | _ => fun _ => False
def gMaxT : List D → (Rv → Prop) → Prop
  | [.str i, .str j] => fun Q => Q (.v (.str (if ltS i j = true then j else i)))
  | _ => fun _ => False
theorem sem_minT : SemCall X.K (fun xs H Q => ∃ i j, xs = [.str i, .str j] ∧ Q (.str (if ltS j i = true then j else i)) H) gMinT := by
  intro G σ H F ρ xs as Q Qd R ha h k
  unfold gMinT at h
  split at h
  · rename_i i j
    obtain ⟨x, y, rfl, p, q⟩ := pks2 ha
    have k1 := p.den R.ext
    have k2 := q.den R.ext
    cases k1 with
    | str k1 =>
    cases k2 with
    | str k2 => exact ⟨_, _, rfl, k _ _ _ _ h (Same.refl _) R (show Den _ _ _ _ from .str _ (by split <;> assumption))⟩
  · exact h.elim
theorem sem_maxT : SemCall X.K (fun xs H Q => ∃ i j, xs = [.str i, .str j] ∧ Q (.str (if ltS i j = true then j else i)) H) gMaxT := by
  intro G σ H F ρ xs as Q Qd R ha h k
  unfold gMaxT at h
  split at h
  · rename_i i j
    obtain ⟨x, y, rfl, p, q⟩ := pks2 ha
    have k1 := p.den R.ext
    have k2 := q.den R.ext
    cases k1 with
    | str k1 =>
    cases k2 with
    | str k2 => exact ⟨_, _, rfl, k _ _ _ _ h (Same.refl _) R (show Den _ _ _ _ from .str _ (by split <;> assumption))⟩
  · exact h.elim
end
end DL

/-! What a statement has put into a local goes onto the pile: x = [.. for ..] that is shared later. -/
namespace DL
open PySem PySem.Spec L2 PyProof.Rows
section
variable {X : Cx}
theorem keepRep {K : PySem.W.Frag} {G : Cd} {σ : L2.St} {H F : Hp} {ρ1 : SL} {g : Nat} {hs hs' : Pile} {v : V} {c : Cn} (R1 : Rep K G σ H F ρ1) (rd : RDen K G σ ρ1 H F v (.fr c)) (e1 : plOf ρ1 g = some hs) (e2 : hs'.Sublist hs) :
    ∃ p, v = .ref p ∧ p ∉ hs'.map (·.1) ∧ Rep K G σ H F (ρ1.set g (.pl ((p, c) :: hs'))) := by
  obtain ⟨p, rfl, a, b, d, l⟩ := rd
  have R2 := R1.plSub e1 e2
  have e3 := plOf_set (hs := hs') e1
  have l2 : Lone σ (ρ1.set g (.pl hs')) p := by
    refine ⟨fun i s c' z1 z2 z3 => ?_, fun i h3 c' z1 m => ?_⟩
    · rcases set_get z1 with ⟨_, w⟩ | ⟨_, w⟩
      · subst w; cases z2
      · exact l.1 i s c' w z2 z3
    · rcases set_get z1 with ⟨rfl, w⟩ | ⟨_, w⟩
      · cases w
        have m2 := e2.mem m
        unfold plOf at e1
        split at e1
        · rename_i w2; cases e1; exact l.2 _ _ c' w2 m2
        · cases e1; exact (List.not_mem_nil m2).elim
        · cases e1
      · exact l.2 i h3 c' w m
  obtain ⟨dis, R3⟩ := R2.plAdd (hs2 := [(p, c)]) e3 (by simp) fun p' c' m => by
    cases List.mem_singleton.mp m
    exact ⟨a, b, d, l2⟩
  rw [List.set_set] at R3
  exact ⟨p, rfl, dis p (by simp), R3⟩
def sKeepS (g i : Nat) (s : TSD) : TSD := fun E ρ => s { E with nx := fun ρ' => ∃ c hs hs', ρ'[i]? = some (.ow c) ∧ plOf (ρ'.set i .un) g = some hs ∧ hs'.Sublist hs ∧ ∀ p, p ∉ hs'.map (·.1) → E.nx (((ρ'.set i .un).set g (.pl ((p, c) :: hs'))).set i (.sh (.at p))) } ρ
theorem ds_keepS (g i : Nat) {st : Stmt} {ts : TS} {s : TSD} (h : DS X st ts s) : DS X st ts (sKeepS g i s) := by
  refine ⟨h.pe, fun {G σ H F ρ D E} R q L => h.sem R q ⟨fun σ H F ρ q R => ?_, L.rt, L.bk, L.ct, L.xc, L.xh⟩⟩
  obtain ⟨c, hs, hs', e0, e1, e2, q1⟩ := q
  obtain ⟨p, hv, _⟩ := R.ow i c e0
  obtain ⟨R1, rd⟩ := R.take e0 hv
  obtain ⟨p', ep, hp, R2⟩ := keepRep R1 rd e1 e2
  cases ep
  have R3 := R2.setSh (d := .at p) (v := .ref p) (.at p) i
  have es : σ.set i (some (V.ref p)) = σ := by
    refine List.ext_getElem? fun j => ?_
    rw [List.getElem?_set]
    by_cases c : i = j
    · subst c
      rw [if_pos rfl, if_pos (List.getElem?_eq_some_iff.mp hv).1, hv]
    · rw [if_neg c]
  rw [es] at R3
  exact L.nx _ _ _ _ (q1 p hp) R3
end
end DL

/-! ### the text of the law -/
namespace LW
open PySem L2 DL
local macro_rules | `(tactic| simp_arith) => `(tactic| try simp only [gInS, dCallOX, gMinT, gMaxT, qCallP, dMakeZ, srcPlX, dCallN, dMethN, getsN, Op.viewN, resN, cleanP, gLenO, sSeq, sNext, sSet, sRet, sIf, sDrop, sPar, sFor, sStore, sAugI, dC, dVar, dTake, qVar, qE, aNil, aCons, dOp, dUn, dCallB, gets, Op.get, put, puts, dat_sh, dat_ow, dat_bw, dat_un, ty0, ty1, ty2, ty3, ty4, ty5, ty6, ty7, ty8, ty9, ty10, ty11, ty12, ty13, ty14, ty15, ty16, ty17, ty18, ty19, ty20, ty21, ty22, ty23, ty24, ty25, ty26, ty27, ty28, ty29, ty30, ty31, ty32, ty33, ty34, ty35, ty36, ty37, ty38, ty39, ty40, ty41, dNew, gIsi_non, gIsiT_non, gIsiT_bl, gIsiT_int, gIsiT_str, gIsiT_lst, gIsiT_tup, gIsiT_dct, gIsi_bl, gIsi_int, gIsi_str, gIsi_lst, gIsi_tup, gIsi_dct, mReverse, gEq_bl, gEq_strs, eq_self, Sl.cn, Sl.with, Cn.dat, Rv.dat, bOf, asB, bTr, gTruth, bAnd, bOr, bNot, dAnd, dOr, dIf, dChain, vNil, vCons, dTup, dLst, dDisp, psNil, psCons, keyed, D.key, gN, gT, gsNil, gsCons, rNil, rCons, srcE, srcR1, srcC, srcV, itsOf, dLc, bYes, wipeD, agNil, agVal, agBor, mkArgs, bors, giveB, dCall, clean, dMut, slL, mAppend, mInsert, slC, cnSet, gAdd, gSubI, gDiv, gMod, gNeg, gCmpA_int, gCmpA_str, gIx, dSl, oNo, oE, gSl, dRev, dJoin, gAbs, gLen, gInt, gList, Option.map_some, List.map_cons, List.map_nil, List.getElem?_cons_zero, List.getElem?_cons_succ, List.getElem?_nil, List.set_cons_zero, List.set_cons_succ, List.length_cons, List.length_nil, List.cons_append, List.nil_append, List.take_succ_cons, List.take_zero, List.replicate_succ, List.replicate_zero, gMin2, gMax2, gMax3, nodup1, List.nodup_nil, gEq_int, gEq_str, atI_0, atI_1, atI_2, atI_3, atI_4, atI_5, ixN_40, ixN_41, ixN_42, gMul, sForM, dFz, res_strs, gEq_nil, List.append_nil, List.nil_append, dMethA, dMethV, dCallP, dCallV, dProp, gAttr, sSetF, putFD, slC_ow, slC_bw, agAuto, dKeep, sKeepS, qPl, opG, qVarP, dMutE, dMutE0, mClear, dDc, plOf, getsV, Op.view, pileOf, gSorted_strs, gSorted_pairs, np_fr, np_v, sRaise, dXf, isErr, dIsX, dCallX, excD, xAs, sTryAs, dCmpV, dCmpW, dCallW, getsVV, Op.viewVV, dFmtR, dJoined, dJs, gReprO, sStoreP, List.lookup_cons, beq_self_eq_true, dLenSet, isObjD, isOfC, Rv.fl, Rv.v.injEq, D.atom, Bool.not_true, Bool.not_false, Nat.reduceAdd, Nat.reduceSub, Nat.zero_add, Option.isSome_some, true_and, and_true, Option.some.injEq, exists_and_left, exists_eq_left, exists_eq_left', id_eq, ite_true, ite_false, reduceIte, Bool.false_eq_true, decide_eq_true_eq]) | `(tactic| simp_arith [$xs,*]) => `(tactic| try simp only [gInS, dCallOX, gMinT, gMaxT, qCallP, dMakeZ, srcPlX, dCallN, dMethN, getsN, Op.viewN, resN, cleanP, gLenO, sSeq, sNext, sSet, sRet, sIf, sDrop, sPar, sFor, sStore, sAugI, dC, dVar, dTake, qVar, qE, aNil, aCons, dOp, dUn, dCallB, gets, Op.get, put, puts, dat_sh, dat_ow, dat_bw, dat_un, ty0, ty1, ty2, ty3, ty4, ty5, ty6, ty7, ty8, ty9, ty10, ty11, ty12, ty13, ty14, ty15, ty16, ty17, ty18, ty19, ty20, ty21, ty22, ty23, ty24, ty25, ty26, ty27, ty28, ty29, ty30, ty31, ty32, ty33, ty34, ty35, ty36, ty37, ty38, ty39, ty40, ty41, dNew, gIsi_non, gIsiT_non, gIsiT_bl, gIsiT_int, gIsiT_str, gIsiT_lst, gIsiT_tup, gIsiT_dct, gIsi_bl, gIsi_int, gIsi_str, gIsi_lst, gIsi_tup, gIsi_dct, mReverse, gEq_bl, gEq_strs, eq_self, Sl.cn, Sl.with, Cn.dat, Rv.dat, bOf, asB, bTr, gTruth, bAnd, bOr, bNot, dAnd, dOr, dIf, dChain, vNil, vCons, dTup, dLst, dDisp, psNil, psCons, keyed, D.key, gN, gT, gsNil, gsCons, rNil, rCons, srcE, srcR1, srcC, srcV, itsOf, dLc, bYes, wipeD, agNil, agVal, agBor, mkArgs, bors, giveB, dCall, clean, dMut, slL, mAppend, mInsert, slC, cnSet, gAdd, gSubI, gDiv, gMod, gNeg, gCmpA_int, gCmpA_str, gIx, dSl, oNo, oE, gSl, dRev, dJoin, gAbs, gLen, gInt, gList, Option.map_some, List.map_cons, List.map_nil, List.getElem?_cons_zero, List.getElem?_cons_succ, List.getElem?_nil, List.set_cons_zero, List.set_cons_succ, List.length_cons, List.length_nil, List.cons_append, List.nil_append, List.take_succ_cons, List.take_zero, List.replicate_succ, List.replicate_zero, gMin2, gMax2, gMax3, nodup1, List.nodup_nil, gEq_int, gEq_str, atI_0, atI_1, atI_2, atI_3, atI_4, atI_5, ixN_40, ixN_41, ixN_42, gMul, sForM, dFz, res_strs, gEq_nil, List.append_nil, List.nil_append, dMethA, dMethV, dCallP, dCallV, dProp, gAttr, sSetF, putFD, slC_ow, slC_bw, agAuto, dKeep, sKeepS, qPl, opG, qVarP, dMutE, dMutE0, mClear, dDc, plOf, getsV, Op.view, pileOf, gSorted_strs, gSorted_pairs, np_fr, np_v, sRaise, dXf, isErr, dIsX, dCallX, excD, xAs, sTryAs, dCmpV, dCmpW, dCallW, getsVV, Op.viewVV, dFmtR, dJoined, dJs, gReprO, sStoreP, List.lookup_cons, beq_self_eq_true, dLenSet, isObjD, isOfC, Rv.fl, Rv.v.injEq, D.atom, Bool.not_true, Bool.not_false, Nat.reduceAdd, Nat.reduceSub, Nat.zero_add, Option.isSome_some, true_and, and_true, Option.some.injEq, exists_and_left, exists_eq_left, exists_eq_left', id_eq, ite_true, ite_false, reduceIte, Bool.false_eq_true, decide_eq_true_eq, $xs,*])
local macro_rules | `(tactic| simp_arith!) => `(tactic| try simp only [Sl.pl.injEq, gInS, dCallOX, gMinT, gMaxT, qCallP, dMakeZ, srcPlX, dCallN, dMethN, getsN, Op.viewN, resN, cleanP, gLenO, sSeq, sNext, sSet, sRet, sIf, sDrop, sPar, sFor, sStore, sAugI, dC, dVar, dTake, qVar, qE, aNil, aCons, dOp, dUn, dCallB, gets, Op.get, put, puts, dat_sh, dat_ow, dat_bw, dat_un, ty0, ty1, ty2, ty3, ty4, ty5, ty6, ty7, ty8, ty9, ty10, ty11, ty12, ty13, ty14, ty15, ty16, ty17, ty18, ty19, ty20, ty21, ty22, ty23, ty24, ty25, ty26, ty27, ty28, ty29, ty30, ty31, ty32, ty33, ty34, ty35, ty36, ty37, ty38, ty39, ty40, ty41, dNew, gIsi_non, gIsiT_non, gIsiT_bl, gIsiT_int, gIsiT_str, gIsiT_lst, gIsiT_tup, gIsiT_dct, gIsi_bl, gIsi_int, gIsi_str, gIsi_lst, gIsi_tup, gIsi_dct, mReverse, gEq_bl, gEq_strs, eq_self, Sl.cn, Sl.with, Cn.dat, Rv.dat, bOf, asB, bTr, gTruth, bAnd, bOr, bNot, dAnd, dOr, dIf, dChain, vNil, vCons, dTup, dLst, dDisp, psNil, psCons, keyed, D.key, gN, gT, gsNil, gsCons, rNil, rCons, srcE, srcR1, srcC, srcV, itsOf, dLc, bYes, wipeD, agNil, agVal, agBor, mkArgs, bors, giveB, dCall, clean, dMut, slL, mAppend, mInsert, slC, cnSet, gAdd, gSubI, gDiv, gMod, gNeg, gCmpA_int, gCmpA_str, gIx, dSl, oNo, oE, gSl, dRev, dJoin, gAbs, gLen, gInt, gList, Option.map_some, List.map_cons, List.map_nil, List.getElem?_cons_zero, List.getElem?_cons_succ, List.getElem?_nil, List.set_cons_zero, List.set_cons_succ, List.length_cons, List.length_nil, List.cons_append, List.nil_append, List.take_succ_cons, List.take_zero, List.replicate_succ, List.replicate_zero, gMin2, gMax2, gMax3, nodup1, List.nodup_nil, gEq_int, gEq_str, atI_0, atI_1, atI_2, atI_3, atI_4, atI_5, ixN_40, ixN_41, ixN_42, gMul, sForM, dFz, res_strs, gEq_nil, List.append_nil, List.nil_append, dMethA, dMethV, dCallP, dCallV, dProp, gAttr, sSetF, putFD, slC_ow, slC_bw, agAuto, dKeep, sKeepS, qPl, opG, qVarP, dMutE, dMutE0, mClear, dDc, plOf, getsV, Op.view, pileOf, gSorted_strs, gSorted_pairs, np_fr, np_v, sRaise, dXf, isErr, dIsX, dCallX, excD, xAs, sTryAs, dCmpV, dCmpW, dCallW, getsVV, Op.viewVV, dFmtR, dJoined, dJs, gReprO, sStoreP, List.lookup_cons, beq_self_eq_true, dLenSet, isObjD, isOfC, Rv.fl, Rv.v.injEq, D.atom, Bool.not_true, Bool.not_false, Nat.reduceAdd, Nat.reduceSub, Nat.zero_add, Option.isSome_some, true_and, and_true, Option.some.injEq, exists_and_left, exists_eq_left, exists_eq_left', id_eq, ite_true, ite_false, reduceIte, Bool.false_eq_true, decide_eq_true_eq]) | `(tactic| simp_arith! [$xs,*]) => `(tactic| try simp only [Sl.pl.injEq, gInS, dCallOX, gMinT, gMaxT, qCallP, dMakeZ, srcPlX, dCallN, dMethN, getsN, Op.viewN, resN, cleanP, gLenO, sSeq, sNext, sSet, sRet, sIf, sDrop, sPar, sFor, sStore, sAugI, dC, dVar, dTake, qVar, qE, aNil, aCons, dOp, dUn, dCallB, gets, Op.get, put, puts, dat_sh, dat_ow, dat_bw, dat_un, ty0, ty1, ty2, ty3, ty4, ty5, ty6, ty7, ty8, ty9, ty10, ty11, ty12, ty13, ty14, ty15, ty16, ty17, ty18, ty19, ty20, ty21, ty22, ty23, ty24, ty25, ty26, ty27, ty28, ty29, ty30, ty31, ty32, ty33, ty34, ty35, ty36, ty37, ty38, ty39, ty40, ty41, dNew, gIsi_non, gIsiT_non, gIsiT_bl, gIsiT_int, gIsiT_str, gIsiT_lst, gIsiT_tup, gIsiT_dct, gIsi_bl, gIsi_int, gIsi_str, gIsi_lst, gIsi_tup, gIsi_dct, mReverse, gEq_bl, gEq_strs, eq_self, Sl.cn, Sl.with, Cn.dat, Rv.dat, bOf, asB, bTr, gTruth, bAnd, bOr, bNot, dAnd, dOr, dIf, dChain, vNil, vCons, dTup, dLst, dDisp, psNil, psCons, keyed, D.key, gN, gT, gsNil, gsCons, rNil, rCons, srcE, srcR1, srcC, srcV, itsOf, dLc, bYes, wipeD, agNil, agVal, agBor, mkArgs, bors, giveB, dCall, clean, dMut, slL, mAppend, mInsert, slC, cnSet, gAdd, gSubI, gDiv, gMod, gNeg, gCmpA_int, gCmpA_str, gIx, dSl, oNo, oE, gSl, dRev, dJoin, gAbs, gLen, gInt, gList, Option.map_some, List.map_cons, List.map_nil, List.getElem?_cons_zero, List.getElem?_cons_succ, List.getElem?_nil, List.set_cons_zero, List.set_cons_succ, List.length_cons, List.length_nil, List.cons_append, List.nil_append, List.take_succ_cons, List.take_zero, List.replicate_succ, List.replicate_zero, gMin2, gMax2, gMax3, nodup1, List.nodup_nil, gEq_int, gEq_str, atI_0, atI_1, atI_2, atI_3, atI_4, atI_5, ixN_40, ixN_41, ixN_42, gMul, sForM, dFz, res_strs, gEq_nil, List.append_nil, List.nil_append, dMethA, dMethV, dCallP, dCallV, dProp, gAttr, sSetF, putFD, slC_ow, slC_bw, agAuto, dKeep, sKeepS, qPl, opG, qVarP, dMutE, dMutE0, mClear, dDc, plOf, getsV, Op.view, pileOf, gSorted_strs, gSorted_pairs, np_fr, np_v, sRaise, dXf, isErr, dIsX, dCallX, excD, xAs, sTryAs, dCmpV, dCmpW, dCallW, getsVV, Op.viewVV, dFmtR, dJoined, dJs, gReprO, sStoreP, List.lookup_cons, beq_self_eq_true, dLenSet, isObjD, isOfC, Rv.fl, Rv.v.injEq, D.atom, Bool.not_true, Bool.not_false, Nat.reduceAdd, Nat.reduceSub, Nat.zero_add, Option.isSome_some, true_and, and_true, Option.some.injEq, exists_and_left, exists_eq_left, exists_eq_left', id_eq, ite_true, ite_false, reduceIte, Bool.false_eq_true, decide_eq_true_eq, $xs,*])
def topS (i : Nat) : Stmt := PySem.Challenge.pw_suitedpairs_k13_relations_told.main.body.getD i (.Pass ⟨0, 0, 0, 0⟩)
abbrev s__law_bag : Stmt := topS 19
theorem sc__law_bag : FnScope ["_law_script", "_law_cell"] ["_law_script"] (defScope s__law_bag) := ⟨rfl, rfl, rfl, by decide +kernel, rfl, by decide +kernel, by decide +kernel⟩
abbrev s__law_take : Stmt := topS 20
theorem sc__law_take : FnScope ["_law_bag_here", "_law_many", "_law_cell", "_law_value", "_law_begin", "_law_second"] ["_law_bag_here", "_law_many"] (defScope s__law_take) := ⟨rfl, rfl, rfl, by decide +kernel, rfl, by decide +kernel, by decide +kernel⟩
abbrev s__law_names : Stmt := topS 21
theorem sc__law_names : FnScope ["_law_bag_here", "_law_many", "_law_letters", "_law_way", "_law_turn", "_law_words", "_law_base", "_law_at", "_law_k"] ["_law_bag_here", "_law_many"] (defScope s__law_names) := ⟨rfl, rfl, rfl, by decide +kernel, rfl, by decide +kernel, by decide +kernel⟩
abbrev s__law_plan : Stmt := topS 22
theorem sc__law_plan : FnScope ["_law_bag_here", "_law_most", "_law_many", "_law_kinds", "_law_pairs", "_law_style", "_law_loops", "_law_k", "_law_j", "_law_near", "_law_odds", "_law_pair"] ["_law_bag_here", "_law_most"] (defScope s__law_plan) := ⟨rfl, rfl, rfl, by decide +kernel, rfl, by decide +kernel, by decide +kernel⟩
abbrev s_are_different : Stmt := topS 15
theorem sc_are_different : FnScope ["items"] ["items"] (defScope s_are_different) := ⟨rfl, rfl, rfl, by decide +kernel, rfl, by decide +kernel, by decide +kernel⟩
abbrev s_is_kind : Stmt := topS 10
theorem sc_is_kind : FnScope ["thing", "letter"] ["thing"] (defScope s_is_kind) := ⟨rfl, rfl, rfl, by decide +kernel, rfl, by decide +kernel, by decide +kernel⟩
abbrev s_are_kinds : Stmt := topS 11
theorem sc_are_kinds : FnScope ["thing", "item"] ["thing"] (defScope s_are_kinds) := ⟨rfl, rfl, rfl, by decide +kernel, rfl, by decide +kernel, by decide +kernel⟩
abbrev s_in_order : Stmt := topS 16
theorem sc_in_order : FnScope ["one", "other"] ["one", "other"] (defScope s_in_order) := ⟨rfl, rfl, rfl, by decide +kernel, rfl, by decide +kernel, by decide +kernel⟩
abbrev s_Suits_mates_in : Stmt := inClass (topS 17) 1
theorem sc_Suits_mates_in : FnScope ["self", "pairs", "kind", "other"] ["self", "pairs", "kind"] (defScope s_Suits_mates_in) := ⟨rfl, rfl, rfl, by decide +kernel, rfl, by decide +kernel, by decide +kernel⟩
abbrev s_Suits___init__ : Stmt := inClass (topS 17) 0
theorem sc_Suits___init__ : FnScope ["self", "kinds", "pairs", "0pile", "found", "at", "item", "pair", "kind"] ["self", "kinds", "pairs"] (defScope s_Suits___init__) := ⟨rfl, rfl, rfl, by decide +kernel, rfl, by decide +kernel, by decide +kernel⟩
abbrev s_Suits_mates : Stmt := inClass (topS 17) 8
theorem sc_Suits_mates : FnScope ["self", "kinds", "kind", "other"] ["self", "kinds"] (defScope s_Suits_mates) := ⟨rfl, rfl, rfl, by decide +kernel, rfl, by decide +kernel, by decide +kernel⟩
abbrev s_Suits_pairs : Stmt := inClass (topS 17) 6
theorem sc_Suits_pairs : FnScope ["self"] ["self"] (defScope s_Suits_pairs) := ⟨rfl, rfl, rfl, by decide +kernel, rfl, by decide +kernel, by decide +kernel⟩
abbrev s_Suits_lonely : Stmt := inClass (topS 17) 7
theorem sc_Suits_lonely : FnScope ["self", "kind"] ["self"] (defScope s_Suits_lonely) := ⟨rfl, rfl, rfl, by decide +kernel, rfl, by decide +kernel, by decide +kernel⟩
abbrev s_Suits_kinds : Stmt := inClass (topS 17) 5
theorem sc_Suits_kinds : FnScope ["self"] ["self"] (defScope s_Suits_kinds) := ⟨rfl, rfl, rfl, by decide +kernel, rfl, by decide +kernel, by decide +kernel⟩
abbrev s__law_fit : Stmt := topS 25
theorem sc__law_fit : FnScope ["_law_plan_here", "_law_one", "_law_other"] ["_law_plan_here", "_law_one", "_law_other"] (defScope s__law_fit) := ⟨rfl, rfl, rfl, by decide +kernel, rfl, by decide +kernel, by decide +kernel⟩
abbrev s__law_mates : Stmt := topS 26
theorem sc__law_mates : FnScope ["_law_plan_here", "_law_kinds", "_law_kind", "_law_one"] ["_law_plan_here", "_law_kinds"] (defScope s__law_mates) := ⟨rfl, rfl, rfl, by decide +kernel, rfl, by decide +kernel, by decide +kernel⟩
abbrev s__law_alike : Stmt := topS 24
theorem sc__law_alike : FnScope ["_law_found", "_law_due"] ["_law_found", "_law_due"] (defScope s__law_alike) := ⟨rfl, rfl, rfl, by decide +kernel, rfl, by decide +kernel, by decide +kernel⟩
abbrev s__law_elder_right : Stmt := topS 33
theorem sc__law_elder_right : FnScope ["_law_plan_here", "_law_suits_here", "_law_found", "_law_lists", "_law_due", "_law_one", "_law_kind", "0pile"] ["_law_plan_here", "_law_suits_here"] (defScope s__law_elder_right) := ⟨rfl, rfl, rfl, by decide +kernel, rfl, by decide +kernel, by decide +kernel⟩
abbrev s__law_sorted_pairs : Stmt := topS 27
theorem sc__law_sorted_pairs : FnScope ["_law_plan_here", "_law_pair"] ["_law_plan_here"] (defScope s__law_sorted_pairs) := ⟨rfl, rfl, rfl, by decide +kernel, rfl, by decide +kernel, by decide +kernel⟩
abbrev s_Suits___len__ : Stmt := inClass (topS 17) 15
theorem sc_Suits___len__ : FnScope ["self"] ["self"] (defScope s_Suits___len__) := ⟨rfl, rfl, rfl, by decide +kernel, rfl, by decide +kernel, by decide +kernel⟩
abbrev s_Suits_many : Stmt := inClass (topS 17) 4
theorem sc_Suits_many : FnScope ["self"] ["self"] (defScope s_Suits_many) := ⟨rfl, rfl, rfl, by decide +kernel, rfl, by decide +kernel, by decide +kernel⟩
abbrev s_Suits___repr__ : Stmt := inClass (topS 17) 14
theorem sc_Suits___repr__ : FnScope ["self"] ["self"] (defScope s_Suits___repr__) := ⟨rfl, rfl, rfl, by decide +kernel, rfl, by decide +kernel, by decide +kernel⟩
abbrev s__law_lists_right : Stmt := topS 30
theorem sc__law_lists_right : FnScope ["_law_plan_here", "_law_suits_here", "_law_kinds", "_law_due", "_law_found", "_law_one", "_law_kind", "0pile"] ["_law_plan_here", "_law_suits_here"] (defScope s__law_lists_right) := ⟨rfl, rfl, rfl, by decide +kernel, rfl, by decide +kernel, by decide +kernel⟩
abbrev s__law_mates_right : Stmt := topS 34
theorem sc__law_mates_right : FnScope ["_law_bag_here", "_law_plan_here", "_law_suits_here", "_law_k", "_law_some", "_law_asked", "_law_shown", "_law_found", "_law_kind", "0pile"] ["_law_bag_here", "_law_plan_here", "_law_suits_here"] (defScope s__law_mates_right) := ⟨rfl, rfl, rfl, by decide +kernel, rfl, by decide +kernel, by decide +kernel⟩
abbrev s_Suits___call__ : Stmt := inClass (topS 17) 11
theorem sc_Suits___call__ : FnScope ["self", "one", "other", "kind"] ["self", "one", "other"] (defScope s_Suits___call__) := ⟨rfl, rfl, rfl, by decide +kernel, rfl, by decide +kernel, by decide +kernel⟩
abbrev s__law_told : Stmt := topS 28
theorem sc__law_told : FnScope ["_law_suits_here", "_law_one", "_law_other", "e"] ["_law_suits_here", "_law_one", "_law_other"] (defScope s__law_told) := ⟨rfl, rfl, rfl, by decide +kernel, rfl, by decide +kernel, by decide +kernel⟩
abbrev s_Suits___contains__ : Stmt := inClass (topS 17) 12
theorem sc_Suits___contains__ : FnScope ["self", "thing"] ["self", "thing"] (defScope s_Suits___contains__) := ⟨rfl, rfl, rfl, by decide +kernel, rfl, by decide +kernel, by decide +kernel⟩
abbrev s__law_two_right : Stmt := topS 29
theorem sc__law_two_right : FnScope ["_law_plan_here", "_law_suits_here", "_law_one", "_law_other", "_law_names_here", "_law_strange", "_law_due", "_law_name"] ["_law_plan_here", "_law_suits_here", "_law_one", "_law_other"] (defScope s__law_two_right) := ⟨rfl, rfl, rfl, by decide +kernel, rfl, by decide +kernel, by decide +kernel⟩
abbrev s__law_first_right : Stmt := topS 31
theorem sc__law_first_right : FnScope ["_law_plan_here", "_law_suits_here", "_law_way", "_law_some", "_law_kinds", "_law_one", "_law_other", "_law_shown", "_law_kind"] ["_law_plan_here", "_law_suits_here", "_law_way", "_law_some"] (defScope s__law_first_right) := ⟨rfl, rfl, rfl, by decide +kernel, rfl, by decide +kernel, by decide +kernel⟩
abbrev s__law_anew_right : Stmt := topS 32
theorem sc__law_anew_right : FnScope ["_law_bag_here", "_law_plan_here", "_law_handed", "_law_ways", "_law_suits_here", "_law_kind", "_law_way", "_law_some", "_law_one", "0pile"] ["_law_bag_here", "_law_plan_here"] (defScope s__law_anew_right) := ⟨rfl, rfl, rfl, by decide +kernel, rfl, by decide +kernel, by decide +kernel⟩
abbrev s_law : Stmt := topS 35
theorem sc_law : FnScope ["_law_script", "_law_bag_here", "_law_turn", "_law_plan_here", "_law_handed", "_law_suits_here", "_law_once", "_law_names_here", "_law_one", "_law_kind", "_law_things", "_law_other", "_law_thing", "0pile"] ["_law_script"] (defScope s_law) := ⟨rfl, rfl, rfl, by decide +kernel, rfl, by decide +kernel, by decide +kernel⟩
section
variable {P : Program} {w : World} {K : PySem.W.Frag} {mg : Str → Option Value} {base : Heap}
/-- the law's bag: n takes may still come -/
def Bag (n : Nat) (c : Cn) : Prop := ∃ (a b : Int) (k : Nat) (cells : List Int), c = .l [.int a, .int b, .int k, .lst (cells.map D.int)] ∧ 0 ≤ a ∧ 0 ≤ b ∧ b < 2147483647 ∧ k + n ≤ 1000000000 ∧ ∀ x ∈ cells, 0 ≤ x
theorem Bag.le {n m : Nat} {c : Cn} (h : Bag n c) (e : m ≤ n) : Bag m c := by
  obtain ⟨a, b, k, cells, h1, h2, h3, h4, h5, h6⟩ := h
  exact ⟨a, b, k, cells, h1, h2, h3, h4, by omega, h6⟩
def sp__law_bag : SpD := fun as Q => ∃ ns : List Int, as = [.sh (.scr ns)] ∧ ns.length ≤ 63 ∧ ∀ c, Bag 1000000000 c → Q (.fr c) [.un]
theorem len__law_bag {as : SL} {Q : Rv → SL → Prop} (h : sp__law_bag as Q) : as.length = 1 := by
  obtain ⟨_, rfl, _⟩ := h
  rfl
theorem ok__law_bag {f : Addr} {fd : FuncData} (Fn : Fun K "_law_bag" "_law_bag" s__law_bag f fd) (z_abs : mg "abs" = none) : FnG P w K mg base CX0 1 f fd ["_law_script"] (lift K sp__law_bag) := by
  have nd := sc__law_bag.nd
  refine fnD Fn sc__law_bag (fun as Q h => ?len) (fun cdv A outer s H hgd hr => ⟨_, _,
    (dss_one (ds_ret (de_lst (dv_cons de_int (dv_cons de_int (dv_cons de_int (dv_cons (de_lcF rfl nd (dic_of (di_e (de_slice (do_var (pv 0)) dop_none (dop_some de_int)))) (blkOk_by (own := [("_law_cell", 1)]) (N := ["_law_script", "_law_cell"]) (sc := defScope s__law_bag) (by decide +kernel)) (fun _ _ _ _ _ => (dg_name (i := 1) nd rfl (.inl rfl))) (fun _ _ _ _ _ => dts_nil) (fun _ _ _ _ _ => (de_callB call_abs sem_abs (by rfl) z_abs (by decide +kernel) (da_cons (do_var (pv 1)) da_nil)))) dv_nil))))))), fun as Q h => ?_⟩)
  case len => exact len__law_bag h
  · obtain ⟨ns, rfl, hl, h⟩ := h
    simp_arith
    have hc := cut_le ns none (some 63)
    refine lcL_on D.int (fun p r acc ρ => ρ = [Sl.sh (D.scr ns), Sl.un] ∧ ∃ ds : List Int, acc = ds.map D.int ∧ ds.length = p.length ∧ ∀ x ∈ ds, 0 ≤ x) ⟨rfl, [], rfl, rfl, fun x hx => by cases hx⟩ ?_ ?_
    · rintro acc ρ ⟨rfl, ds, rfl, hl2, hp⟩
      exact ⟨le_size (by decide), h _ ⟨0, 1234567891, 0, ds, rfl, by decide, by decide, by decide, by decide, hp⟩⟩
    · rintro p x r acc ρ N e hN ⟨rfl, ds, rfl, hl2, hp⟩
      simp_arith
      have := congrArg List.length e
      rw [List.length_append, List.length_cons] at this
      refine ⟨lt_size (by rw [List.length_map]; omega), hN _ _ ⟨rfl, ds ++ [if x < 0 then -x else x], by simp, by simp [hl2], fun y hy => ?_⟩⟩
      rcases List.mem_append.mp hy with z | z
      · exact hp y z
      · rw [List.mem_singleton.mp z]
        split <;> omega
def sp__law_take : SpD := fun as Q => ∃ (n : Nat) (c : Cn) (m : Int), as = [.bw 0 c, .sh (.int m)] ∧ Bag (n + 1) c ∧ 0 < m ∧ m < 2 ^ 200 ∧ ∀ v c', Bag n c' → 0 ≤ v → v < m → Q (.v (.int v)) [.bw 0 c', .un]
theorem len__law_take {as : SL} {Q : Rv → SL → Prop} (h : sp__law_take as Q) : as.length = 2 := by
  obtain ⟨_, _, _, rfl, _⟩ := h
  rfl
theorem ok__law_take {f : Addr} {fd : FuncData} (Fn : Fun K "_law_take" "_law_take" s__law_take f fd) (z_len : mg "len" = none) : FnG P w K mg base CX0 1 f fd ["_law_bag_here", "_law_many"] (lift K sp__law_take) := by
  have nd := sc__law_take.nd
  refine fnD Fn sc__law_take (fun as Q h => ?len) (fun cdv A outer s H hgd hr => ⟨_, _,
    (dss_cons (ds_if (dt_cmp (op_eqA (hu64 hr)) sem_eq (do_e (de_ix (hu1 hr) (do_var (pv 0)) (do_e de_int))) (do_e de_int) (nomark _)) (dss_cons (ds_set (i := 2) nd rfl (.inl rfl) de_int)
      (dss_cons (ds_if (dt_cmp op_ltA sem_ltA (do_e (de_ix (hu1 hr) (do_var (pv 0)) (do_e de_int))) (do_e (de_callB call_lenA sem_len (by rfl) z_len (by decide +kernel) (da_cons (do_e (de_ix (hu1 hr) (do_var (pv 0)) (do_e de_int))) da_nil))) (nomark _)) (dss_one (ds_set (i := 2) nd rfl (.inl rfl) (de_ix (hu1 hr) (do_e (de_ix (hu1 hr) (do_var (pv 0)) (do_e de_int))) (do_e (de_ix (hu1 hr) (do_var (pv 0)) (do_e de_int)))))) dss_nil)
      (dss_cons (ds_augI (hu1 hr) (pv 0) (do_e de_int) de_int ip_add)
      (dss_cons (ds_if (dt_cmp op_geA sem_geA (do_var (pv 2)) (do_e de_int) (nomark _)) (dss_one (ds_store (hu1 hr) (pv 0) (do_e de_int) (de_var (pv 2)) (pg_sub (pv 0) (do_e de_int).pe (set_any (hu1 hr))))) dss_nil)
      (dss_one (ds_store (hu1 hr) (pv 0) (do_e de_int) (de_op op_mod sem_mod (do_e (de_op op_addA sem_addA (do_e (de_op op_addA sem_addA (do_e (de_op op_mulA sem_mulA (do_e (de_ix (hu1 hr) (do_var (pv 0)) (do_e de_int))) (do_e de_int))) (do_e (de_op op_mod sem_mod (do_var (pv 2)) (do_e de_int))))) (do_e (de_op op_mulA sem_mulA (do_e de_int) (do_e (de_ix (hu1 hr) (do_var (pv 0)) (do_e de_int))))))) (do_e de_int)) (pg_sub (pv 0) (do_e de_int).pe (set_any (hu1 hr))))))))) dss_nil)
      (dss_cons (ds_if (dt_cmp op_gtA sem_gtA (do_e (de_ix (hu1 hr) (do_var (pv 0)) (do_e de_int))) (do_e de_int) (nomark _)) (dss_cons (ds_set (i := 3) nd rfl (.inl rfl) (de_op op_mod sem_mod (do_e (de_ix (hu1 hr) (do_var (pv 0)) (do_e de_int))) (do_var (pv 1))))
      (dss_cons (ds_store (hu1 hr) (pv 0) (do_e de_int) (de_op op_fdivW sem_div (do_e (de_ix (hu1 hr) (do_var (pv 0)) (do_e de_int))) (do_var (pv 1))) (pg_sub (pv 0) (do_e de_int).pe (set_any (hu1 hr))))
      (dss_one (ds_ret (de_take (pv 3)))))) dss_nil)
      (dss_cons (ds_set (i := 4) nd rfl (.inl rfl) (de_op op_mod sem_mod (do_e (de_op op_mulA sem_mulA (do_e (de_op op_addA sem_addA (do_e (de_ix (hu1 hr) (do_var (pv 0)) (do_e de_int))) (do_e de_int))) (do_e de_int))) (do_e de_int)))
      (dss_cons (ds_set (i := 5) nd rfl (.inl rfl) (de_op op_mod sem_mod (do_e (de_op op_mulA sem_mulA (do_e (de_op op_mod sem_mod (do_e (de_op op_mulA sem_mulA (do_var (pv 4)) (do_var (pv 4)))) (do_e de_int))) (do_e de_int))) (do_e de_int)))
      (dss_cons (ds_if (dt_cmp op_gtA sem_gtA (do_var (pv 1)) (do_e de_int) (nomark _)) (dss_one (ds_ret (de_op op_mod sem_mod (do_e (de_op op_addA sem_addA (do_e (de_op op_mulA sem_mulA (do_var (pv 5)) (do_e de_int))) (do_var (pv 4)))) (do_var (pv 1))))) dss_nil)
      (dss_one (ds_ret (de_op op_mod sem_mod (do_e (de_op op_fdivW sem_div (do_var (pv 5)) (do_e de_int))) (do_var (pv 1)))))))))), fun as Q h => ?_⟩)
  case len => exact len__law_take h
  · obtain ⟨n, c, m, rfl, ⟨a, b, k, cells, rfl, ha, hb, hb2, hk, hc⟩, hm, hm2, h⟩ := h
    simp only [List.length_cons, List.length_nil, Nat.reduceAdd, Nat.reduceSub, List.replicate_succ, List.replicate_zero, List.cons_append, List.nil_append]
    refine sSeq_cut (fun ρ' => ∃ (a b : Int) (k : Nat) (s : Sl), ρ' = [.bw 0 (.l [.int a, .int b, .int k, .lst (cells.map D.int)]), .sh (.int m), s, .un, .un, .un] ∧ 0 ≤ a ∧ 0 ≤ b ∧ b < 2147483647 ∧ k + n ≤ 1000000000) (fun N hN => ?_) ?_
    · refine sIf_go fun T hT hF => ?_
      simp_arith
      by_cases h0 : a = 0
      · rw [decide_eq_true h0]
        refine hT _ ?_
        refine sSeq_go fun N2 h2 => ?_
        simp_arith
        refine h2 _ ?_
        refine sSeq_cut (fun ρ' => ∃ x : Int, 0 ≤ x ∧ ρ' = [.bw 0 (.l [.int a, .int b, .int k, .lst (cells.map D.int)]), .sh (.int m), .sh (.int x), .un, .un, .un]) (fun N3 h3 => ?_) ?_
        · refine sIf_go fun T hT hF => ?_
          simp_arith [List.length_map]
          by_cases h1 : (k : Int) < cells.length
          · rw [decide_eq_true h1]
            refine hT _ ?_
            simp_arith
            have hkl : k < cells.length := by omega
            refine ⟨_, atI_int (x := D.int cells[k]) (by omega) (by rw [Int.toNat_natCast, List.getElem?_map, List.getElem?_eq_getElem hkl]; rfl), h3 _ ⟨_, hc _ (List.getElem_mem hkl), rfl⟩⟩
          · rw [decide_eq_false h1]
            refine hF _ ?_
            simp_arith
            exact h3 _ ⟨0, by decide, rfl⟩
        · rintro ρ' ⟨x, hx, rfl⟩
          refine sSeq_go fun N4 h4 => ?_
          simp_arith
          refine h4 _ ?_
          refine sSeq_cut (fun ρ' => ∃ a : Int, 0 ≤ a ∧ ρ' = [.bw 0 (.l [.int a, .int b, .int (k + 1), .lst (cells.map D.int)]), .sh (.int m), .sh (.int x), .un, .un, .un]) (fun N5 h5 => ?_) ?_
          · refine sIf_go fun T hT hF => ?_
            simp_arith
            by_cases h1 : (1000000000000000000 : Int) ≤ x
            · rw [decide_eq_true h1]
              refine hT _ ?_
              simp_arith
              exact h5 _ ⟨x, hx, rfl⟩
            · rw [decide_eq_false h1]
              refine hF _ ?_
              simp_arith
              exact h5 _ ⟨a, ha, rfl⟩
          · rintro ρ' ⟨a', ha', rfl⟩
            simp_arith
            refine ⟨cMul_of (by omega) (by decide), by decide, cMul_of (by decide) (by omega), by decide, hN _ ⟨a', _, k + 1, _, rfl, ha', Int.emod_nonneg _ (by decide), Int.emod_lt_of_pos _ (by decide), by omega⟩⟩
      · rw [decide_eq_false h0]
        refine hF _ ?_
        simp_arith
        exact hN _ ⟨a, b, k, _, rfl, ha, hb, hb2, by omega⟩
    · rintro ρ' ⟨a, b, k, s, rfl, ha, hb, hb2, hk⟩
      refine sSeq_cut (fun ρ' => ρ' = [.bw 0 (.l [.int a, .int b, .int k, .lst (cells.map D.int)]), .sh (.int m), s, .un, .un, .un]) (fun N hN => ?_) ?_
      · refine sIf_go fun T hT hF => ?_
        simp_arith
        by_cases h1 : (0 : Int) < a
        · rw [decide_eq_true h1]
          refine hT _ ?_
          simp_arith
          refine ⟨hm, cDiv_of hm (by omega), ?_⟩
          exact h _ _ ⟨_, b, k, cells, rfl, Int.ediv_nonneg ha (by omega), hb, hb2, hk, hc⟩ (Int.emod_nonneg _ (by omega)) (Int.emod_lt_of_pos _ hm)
        · rw [decide_eq_false h1]
          refine hF _ ?_
          simp_arith
          exact hN _ rfl
      · rintro ρ' rfl
        have hB : Bag n (.l [.int a, .int b, .int k, .lst (cells.map D.int)]) := ⟨a, b, k, cells, rfl, ha, hb, hb2, hk, hc⟩
        refine sSeq_go fun N h2 => ?_
        simp_arith
        refine ⟨cMul_of (by omega) (by decide), by decide, h2 _ ?_⟩
        have g1 := Int.emod_nonneg ((b + 1) * 39373) (b := 1000000007) (by decide)
        have g2 := Int.emod_lt_of_pos ((b + 1) * 39373) (b := 1000000007) (by decide)
        generalize (b + 1) * 39373 % 1000000007 = z at g1 g2 ⊢
        refine sSeq_go fun N h2 => ?_
        simp_arith
        have g3 := Int.emod_nonneg (z * z) (b := 998244353) (by decide)
        have g4 := Int.emod_lt_of_pos (z * z) (b := 998244353) (by decide)
        refine ⟨cMul_of (by omega) (by omega), by decide, cMul_of (by omega) (by decide), by decide, h2 _ ?_⟩
        have g5 := Int.emod_nonneg (z * z % 998244353 * 30011) (b := 998244353) (by decide)
        have g6 := Int.emod_lt_of_pos (z * z % 998244353 * 30011) (b := 998244353) (by decide)
        generalize z * z % 998244353 * 30011 % 998244353 = y at g5 g6 ⊢
        refine sSeq_go fun N h2 => ?_
        refine sIf_go fun T hT hF => ?_
        simp_arith
        by_cases h1 : (1000000 : Int) < m
        · rw [decide_eq_true h1]
          refine hT _ ?_
          simp_arith
          exact ⟨cMul_of (by omega) (by decide), hm, h _ _ hB (Int.emod_nonneg _ (by omega)) (Int.emod_lt_of_pos _ hm)⟩
        · rw [decide_eq_false h1]
          refine hF _ ?_
          simp_arith
          refine h2 _ ?_
          simp_arith
          exact ⟨cDiv_of (by decide) (by decide), hm, h _ _ hB (Int.emod_nonneg _ (by omega)) (Int.emod_lt_of_pos _ hm)⟩
/-! ### relations -/
def IsKind (x : Str) : Prop := 1 ≤ x.length ∧ x.length ≤ 8 ∧ ∀ c ∈ x.cps.toList, 97 ≤ c ∧ c ≤ 122
def inOrd (p : Str × Str) : Str × Str := if leS p.1 p.2 = true then p else (p.2, p.1)
structure Rel (names : List Str) (pairs : List (Str × Str)) : Prop where
  ne : 0 < names.length
  le : names.length ≤ 8
  nd : names.Nodup
  kd : ∀ x ∈ names, IsKind x
  pl : pairs.length ≤ 36
  mem : ∀ p ∈ pairs, p.1 ∈ names ∧ p.2 ∈ names
  one : (pairs.map inOrd).Nodup
def fits (pairs : List (Str × Str)) (x y : Str) : Bool := decide ((x, y) ∈ pairs ∨ (y, x) ∈ pairs)
theorem fits_symm (pairs : List (Str × Str)) (x y : Str) : fits pairs x y = fits pairs y x := decide_eq_decide.mpr Or.comm
theorem inOrd_eq (x y : Str) : inOrd (x, y) = inOrd (y, x) := by
  unfold inOrd
  rcases ltS_tri x y with h | h | h
  · have h2 := ltS_asymm h
    have e1 : leS x y = true := by unfold leS; rw [h2]; rfl
    have e2 : leS y x = false := by unfold leS; rw [h]; rfl
    simp only [e1, e2, if_true, Bool.false_eq_true, if_false]
  · subst h; rfl
  · have h2 := ltS_asymm h
    have e1 : leS y x = true := by unfold leS; rw [h2]; rfl
    have e2 : leS x y = false := by unfold leS; rw [h]; rfl
    simp only [e1, e2, if_true, Bool.false_eq_true, if_false]
theorem inOrd_or (p : Str × Str) : inOrd p = p ∨ inOrd p = (p.2, p.1) := by
  unfold inOrd
  split
  · exact .inl rfl
  · exact .inr rfl
theorem inOrd_fits (pairs : List (Str × Str)) (x y : Str) : inOrd (x, y) ∈ pairs.map inOrd ↔ fits pairs x y = true := by
  unfold fits
  rw [decide_eq_true_eq, List.mem_map]
  constructor
  · rintro ⟨⟨a, b⟩, h, e⟩
    rcases inOrd_or (a, b) with h1 | h1 <;> rcases inOrd_or (x, y) with h2 | h2 <;> rw [h1, h2] at e <;> simp only [Prod.mk.injEq] at e <;> obtain ⟨rfl, rfl⟩ := e
    · exact .inl h
    · exact .inr h
    · exact .inr h
    · exact .inl h
  · rintro (h | h)
    · exact ⟨_, h, rfl⟩
    · exact ⟨_, h, inOrd_eq _ _⟩
theorem fits_mem {names : List Str} {pairs : List (Str × Str)} (h : Rel names pairs) {x y : Str} (f : fits pairs x y = true) : x ∈ names ∧ y ∈ names := by
  unfold fits at f
  rw [decide_eq_true_eq] at f
  rcases f with f | f
  · exact h.mem _ f
  · exact (h.mem _ f).symm
/-- the kinds that suit one, in order -/
def matesOf (names : List Str) (pairs : List (Str × Str)) (x : Str) : List Str := (sortS names).filter fun y => fits pairs x y
def SuitsF (names : List Str) (pairs : List (Str × Str)) : List (Str × D) := [("its_kinds", .lst ((sortS names).map D.str)), ("its_pairs", .lst ((sortP (pairs.map inOrd)).map PairD)),
  ("its_mates", .dct ((sortS names).map fun x => (.inr x, .lst ((matesOf names pairs x).map D.str))))]
def SuitsD (C : Addr) (names : List Str) (pairs : List (Str × Str)) : D := .obj C (SuitsF names pairs)
theorem mem_sortS {l : List Str} {x : Str} : x ∈ sortS l ↔ x ∈ l := (sortS_perm l).mem_iff
theorem nodup_sortS {l : List Str} : (sortS l).Nodup ↔ l.Nodup := (sortS_perm l).nodup_iff
theorem length_sortS (l : List Str) : (sortS l).length = l.length := (sortS_perm l).length_eq
theorem look_kinds {names : List Str} {pairs : List (Str × Str)} : (SuitsF names pairs).lookup ("its_kinds" : Str) = some (.lst ((sortS names).map D.str)) := rfl
theorem look_pairs {names : List Str} {pairs : List (Str × Str)} : (SuitsF names pairs).lookup ("its_pairs" : Str) = some (.lst ((sortP (pairs.map inOrd)).map PairD)) := rfl
theorem look_mates {names : List Str} {pairs : List (Str × Str)} : (SuitsF names pairs).lookup ("its_mates" : Str) = some (.dct ((sortS names).map fun x => (.inr x, .lst ((matesOf names pairs x).map D.str)))) := rfl
theorem mem_matesOf {names : List Str} {pairs : List (Str × Str)} (h : Rel names pairs) {x y : Str} : y ∈ matesOf names pairs x ↔ fits pairs x y = true := by
  unfold matesOf
  rw [List.mem_filter, mem_sortS]
  exact ⟨And.right, fun f => ⟨(fits_mem h f).2, f⟩⟩
theorem kGet_mates {names : List Str} {pairs : List (Str × Str)} (h : names.Nodup) {x : Str} (hx : x ∈ names) :
    kGet ((sortS names).map fun x => ((.inr x : Key), D.lst ((matesOf names pairs x).map D.str))) (.inr x) = some (.lst ((matesOf names pairs x).map D.str)) :=
  kGet_map (fun x => x) (fun x => D.lst ((matesOf names pairs x).map D.str)) (mem_sortS.mpr hx) (by rw [List.map_id']; exact nodup_sortS.mpr h)
/-- a thing that is looked at alone: how it comes back -/
def back1 : Sl → Sl
  | .bw j c => .bw j c
  | _ => .un
theorem res_suits {hs : Pile} {C : Addr} {names : List Str} {pairs : List (Str × Str)} : D.res hs (SuitsD C names pairs) = SuitsD C names pairs := by
  unfold SuitsD SuitsF
  rw [res_obj, reso_cons, reso_cons, reso_cons, reso_nil2, res_strs, res_pairs, res_dct, resk_map hs fun _ => res_strs]
def LL : Str := "abcdefghijklmnopqrstuvwxyz"
def WW : List Str := ["come", "go", "late", "cut", "back", "line", "more", "alike"]
theorem LL_list : LL.cps.toList = (List.range 26).map (· + 97) := by decide +kernel
theorem LL_at {i : Int} (h0 : 0 ≤ i) (h1 : i < 26) : atI LL.cps.toList i = some (97 + i.toNat) := by
  rw [LL_list]
  refine atI_int h0 ?_
  rw [List.getElem?_map, List.getElem?_range (by omega)]
  simp only [Option.map_some]
  congr 1
  omega
theorem LL_len : LL.length ≤ sizeLine := by rw [sizeLine_eq]; decide +kernel
theorem len_one (c : Nat) : (⟨#[c]⟩ : Str).length = 1 := rfl
theorem len_reps (x : Str) (n : Nat) : (Str.reps x n).length = n * x.length := by
  unfold Str.reps Str.length
  simp
theorem len_append (x y : Str) : (x ++ y).length = x.length + y.length := by
  have := congrArg List.length (Str.append_list x y)
  rw [List.length_append] at this
  simpa [Str.length] using this
theorem len_cutS (x : Str) (lo hi : Option Int) : (cutS x lo hi).length ≤ x.length := by
  unfold cutS Str.length
  simp
  omega
theorem len_cutS_to (x : Str) (k : Nat) : (cutS x none (some (k : Int))).length = min k x.length := by
  unfold cutS
  rw [HT.sIx_none, HT.sIx_nat]
  unfold Str.length
  simp
theorem len_cutS_from (x : Str) (k : Nat) : (cutS x (some (k : Int)) none).length = x.length - k := by
  unfold cutS
  rw [HT.sIx_none, HT.sIx_nat]
  unfold Str.length
  simp
  omega
theorem fold_size (a : List Str) : ∀ b : Array Nat, (a.foldl (fun acc p => acc ++ (Str.ofString "").cps ++ p.cps) b).size = b.size + (a.map (·.length)).sum := by
  induction a with
  | nil => intro b; simp
  | cons x r ih =>
    intro b
    rw [List.foldl_cons, ih, List.map_cons, List.sum_cons]
    have : (Str.ofString "").cps.size = 0 := by decide +kernel
    simp only [Array.size_append, this, Str.length]
    omega
theorem len_join (l : List Str) : (Txt.join "" l).length = (l.map (·.length)).sum := by
  cases l with
  | nil => rfl
  | cons x r =>
    show (r.foldl (fun acc p => acc ++ (Str.ofString "").cps ++ p.cps) x.cps).size = _
    rw [fold_size, List.map_cons, List.sum_cons]
    rfl
/-- m different kinds -/
def Named (m : Int) (l : List Str) : Prop := (l.length : Int) = m ∧ (∀ x ∈ l, x.length ≤ 8) ∧ l.Nodup ∧ ∀ x ∈ l, IsKind x
theorem named_of {m : Int} {l : List Str} (h : (l.length : Int) = m) (hn : l.Nodup) (hk : ∀ x ∈ l, IsKind x) : Named m l := ⟨h, fun x hx => (hk x hx).2.1, hn, hk⟩
theorem named_range {m : Int} {n : Nat} (f : Nat → Str) (h : (n : Int) = m) (hm : m ≤ 8) (hk : ∀ k, k < 8 → IsKind (f k)) (inj : ∀ a b, a < 8 → b < 8 → f a = f b → a = b) : Named m ((List.range n).map f) := by
  refine named_of (by rw [List.length_map, List.length_range]; exact h) ?_ fun x hx => ?_
  · rw [List.nodup_iff_pairwise_ne, List.pairwise_map]
    refine (List.nodup_range (n := n)).imp_of_mem fun {a b} ha hb ne e => ne (inj a b ?_ ?_ e)
    · have := List.mem_range.mp ha; omega
    · have := List.mem_range.mp hb; omega
  · obtain ⟨k, hk2, rfl⟩ := List.mem_map.mp hx
    have := List.mem_range.mp hk2
    exact hk k (by omega)
theorem kind_one {j : Int} (h0 : 0 ≤ j) (h1 : j < 26) : IsKind ⟨#[97 + j.toNat]⟩ := by
  refine ⟨by rw [len_one]; decide, by rw [len_one]; decide, fun c hc => ?_⟩
  have : c = 97 + j.toNat := by simpa using hc
  omega
theorem kind_reps {j : Int} (h0 : 0 ≤ j) (h1 : j < 26) {n : Nat} (hn : 1 ≤ n) (h8 : n ≤ 8) : IsKind (Str.reps ⟨#[97 + j.toNat]⟩ n) := by
  refine ⟨by rw [len_reps, len_one]; omega, by rw [len_reps, len_one]; omega, fun c hc => ?_⟩
  unfold Str.reps at hc
  simp at hc
  omega
theorem cutS_to_list (x : Str) (k : Nat) : (cutS x none (some (k : Int))).cps.toList = x.cps.toList.take k := by
  unfold cutS
  rw [HT.sIx_none, HT.sIx_nat]
  have : x.cps.toList.length = x.length := by simp [Str.length]
  simp only [List.drop_zero, Nat.sub_zero]
  rw [List.take_eq_take_iff]
  omega
theorem cutS_from_list (x : Str) (k : Nat) : (cutS x (some (k : Int)) none).cps.toList = x.cps.toList.drop k := by
  unfold cutS
  rw [HT.sIx_none, HT.sIx_nat]
  have : x.cps.toList.length = x.length := by simp [Str.length]
  simp only
  rw [List.take_of_length_le (by rw [List.length_drop]; omega)]
  by_cases h : k ≤ x.length
  · rw [Nat.min_eq_left h]
  · rw [Nat.min_eq_right (by omega), List.drop_eq_nil_of_le (by omega), List.drop_eq_nil_of_le (by omega)]
/-- the letters of a text are small ones -/
def AZ (x : Str) : Prop := ∀ c ∈ x.cps.toList, 97 ≤ c ∧ c ≤ 122
def swapC (base : Str) (u : Nat) (t : Int) (k : Nat) : Str := cutS base none (some (u : Int)) ++ ⟨#[97 + ((t + 5 * (0 + (k : Int) * 1)) % 26).toNat]⟩ ++ cutS base (some ((u : Int) + 1)) none
theorem swapC_list (base : Str) (u : Nat) (t : Int) (k : Nat) : (swapC base u t k).cps.toList = base.cps.toList.take u ++ [97 + ((t + 5 * (0 + (k : Int) * 1)) % 26).toNat] ++ base.cps.toList.drop (u + 1) := by
  unfold swapC
  rw [Str.append_list, Str.append_list, cutS_to_list]
  have := cutS_from_list base (u + 1)
  rw [Int.natCast_add] at this
  rw [show ((u : Int) + 1) = (u : Int) + ((1 : Nat) : Int) from rfl, this]
theorem swapC_kind {base : Str} {u : Nat} {t : Int} {k : Nat} (hz : AZ base) (h8 : base.length ≤ 8) (hu : u < base.length) : IsKind (swapC base u t k) := by
  have hl : base.cps.toList.length = base.length := by simp [Str.length]
  have hs : (swapC base u t k).length = (swapC base u t k).cps.toList.length := by simp [Str.length]
  have e := swapC_list base u t k
  refine ⟨?_, ?_, fun c hc => ?_⟩
  · rw [hs, e, List.length_append, List.length_append, List.length_take, List.length_drop, List.length_singleton]; omega
  · rw [hs, e, List.length_append, List.length_append, List.length_take, List.length_drop, List.length_singleton]; omega
  · rw [e] at hc
    rcases List.mem_append.mp hc with hc | hc
    · rcases List.mem_append.mp hc with hc | hc
      · exact hz c (List.mem_of_mem_take hc)
      · have := List.mem_singleton.mp hc; omega
    · exact hz c (List.mem_of_mem_drop hc)
theorem swapC_inj {base : Str} {u : Nat} {t : Int} {a b : Nat} (ha : a < 8) (hb : b < 8) (e : swapC base u t a = swapC base u t b) : a = b := by
  have h : (swapC base u t a).cps.toList = (swapC base u t b).cps.toList := congrArg (fun x : Str => x.cps.toList) e
  rw [swapC_list, swapC_list, List.append_assoc, List.append_assoc, List.append_cancel_left_eq] at h
  have := (List.cons.inj h).1
  omega
theorem fold_list (a : List Str) : ∀ b : Array Nat, (a.foldl (fun acc p => acc ++ (Str.ofString "").cps ++ p.cps) b).toList = b.toList ++ (a.map fun x => x.cps.toList).flatten := by
  induction a with
  | nil => intro b; simp
  | cons x r ih =>
    intro b
    rw [List.foldl_cons, ih, List.map_cons, List.flatten_cons]
    have : (Str.ofString "").cps.toList = [] := by decide +kernel
    simp only [Array.toList_append, this, List.append_nil, List.append_assoc]
theorem az_join (l : List Str) (h : ∀ x ∈ l, AZ x) : AZ (Txt.join "" l) := by
  cases l with
  | nil => intro c hc; exact (List.not_mem_nil hc).elim
  | cons x r =>
    intro c hc
    have e : (Txt.join "" (x :: r)).cps.toList = x.cps.toList ++ (r.map fun x => x.cps.toList).flatten := fold_list r x.cps
    rw [e] at hc
    rcases List.mem_append.mp hc with hc | hc
    · exact h x List.mem_cons_self c hc
    · obtain ⟨l2, h1, h2⟩ := List.mem_flatten.mp hc
      obtain ⟨y, hy, rfl⟩ := List.mem_map.mp h1
      exact h y (List.mem_cons_of_mem _ hy) c h2
def sp__law_names : SpD := fun as Q => ∃ (n : Nat) (c : Cn) (m : Int), as = [.bw 0 c, .sh (.int m)] ∧ Bag (n + 20) c ∧ 0 < m ∧ m ≤ 8 ∧ ∀ (l : List Str) c', Bag n c' → Named m l → Q (.fr (.l (l.map D.str))) [.bw 0 c', .un]
theorem len__law_names {as : SL} {Q : Rv → SL → Prop} (h : sp__law_names as Q) : as.length = 2 := by
  obtain ⟨_, _, _, rfl, _⟩ := h
  rfl
theorem WW_kinds : ∀ x ∈ WW, IsKind x := by
  have h : ∀ x ∈ WW, 1 ≤ x.length ∧ x.length ≤ 8 ∧ (x.cps.toList.all fun c => decide (97 ≤ c) && decide (c ≤ 122)) = true := by decide +kernel
  intro x hx
  obtain ⟨h1, h2, h3⟩ := h x hx
  exact ⟨h1, h2, fun c hc => by simpa using List.all_eq_true.mp h3 c hc⟩
theorem WW_rot {m k : Int} (h0 : 0 ≤ k) (h1 : k < 8) (m0 : 0 < m) (m1 : m ≤ 8) : Named m (cut (cut WW (some k) none ++ cut WW none (some k)) none (some m)) := by
  obtain ⟨k, rfl⟩ := Int.eq_ofNat_of_zero_le h0
  obtain ⟨m, rfl⟩ := Int.eq_ofNat_of_zero_le (Int.le_of_lt m0)
  rw [cut_to, cut_from, cut_to]
  have hl : WW.length = 8 := rfl
  refine named_of (by rw [List.length_take, List.length_append, List.length_drop, List.length_take]; omega) ?_ fun x hx => ?_
  · refine List.Sublist.nodup (List.take_sublist _ _) ?_
    have hn : WW.Nodup := by decide +kernel
    rw [← List.take_append_drop k WW] at hn
    exact (List.perm_append_comm.nodup_iff).mp hn
  · have := List.mem_of_mem_take hx
    rcases List.mem_append.mp this with z | z
    · exact WW_kinds x (List.mem_of_mem_drop z)
    · exact WW_kinds x (List.mem_of_mem_take z)
theorem range_snoc {α : Type} (f : Nat → α) (i : Nat) : (List.range (i + 1)).map f = (List.range i).map f ++ [f i] := by rw [List.range_succ, List.map_append]; rfl
theorem ok__law_names {f : Addr} {fd : FuncData} (Fn : Fun K "_law_names" "_law_names" s__law_names f fd) {a__law_take : Addr} {d__law_take : FuncData} (f__law_take : Cal P w K mg base 1 "_law_take" a__law_take d__law_take ["_law_bag_here", "_law_many"] sp__law_take) (z_range : mg "range" = none) (z_len : mg "len" = none) : FnG P w K mg base CX0 2 f fd ["_law_bag_here", "_law_many"] (lift K sp__law_names) := by
  have nd := sc__law_names.nd
  refine fnD Fn sc__law_names (fun as Q h => ?len) (fun cdv A outer s H hgd hr => ⟨_, _,
    (dss_cons (ds_set (i := 2) nd rfl (.inr rfl) de_str)
      (dss_cons (ds_parT rfl (nm_cons (i := 3) nd rfl (.inl rfl) (nm_cons (i := 4) nd rfl (.inr rfl) nm_nil)) (dr_cons (de_call f__law_take.ok hgd (hr.mono (by decide)) (by rfl) f__law_take.g f__law_take.kp f__law_take.b pass0 (dag_bor (pv 0) (dag_val de_int dag_nil))) (dr_cons (de_call f__law_take.ok hgd (hr.mono (by decide)) (by rfl) f__law_take.g f__law_take.kp f__law_take.b pass0 (dag_bor (pv 0) (dag_val de_int dag_nil))) dr_nil)))
      (dss_cons (ds_if (dt_cmp (op_eqA (hu64 hr)) sem_eq (do_var (pv 3)) (do_e de_int) (nomark _)) (dss_cons (ds_set (i := 5) nd rfl (.inl rfl) (de_lst (dv_cons de_str (dv_cons de_str (dv_cons de_str (dv_cons de_str (dv_cons de_str (dv_cons de_str (dv_cons de_str (dv_cons de_str dv_nil))))))))))
      (dss_one (ds_ret (de_slice (do_e (de_op op_addA sem_addA (do_e (de_slice (do_var (pv 5)) (dop_some (de_op op_mod sem_mod (do_var (pv 4)) (do_e de_int))) dop_none)) (do_e (de_slice (do_var (pv 5)) dop_none (dop_some (de_op op_mod sem_mod (do_var (pv 4)) (do_e de_int))))))) dop_none (dop_some (de_var (pv 1))))))) dss_nil)
      (dss_cons (ds_if (dt_cmp (op_eqA (hu64 hr)) sem_eq (do_var (pv 3)) (do_e de_int) (nomark _)) (dss_one (ds_ret (de_lcF rfl nd (dic_of (di_r1 (by rfl) z_range (dv_cons (de_var (pv 1)) dv_nil))) (blkOk_by (own := [("_law_k", 8)]) (N := ["_law_bag_here", "_law_many", "_law_letters", "_law_way", "_law_turn", "_law_words", "_law_base", "_law_at", "_law_k"]) (sc := defScope s__law_names) (by decide +kernel)) (fun _ _ _ _ _ => (dg_name (i := 8) nd rfl (.inl rfl))) (fun _ _ _ _ _ => dts_nil) (fun _ _ _ _ _ => (de_ix (hu1 hr) (do_var (pv 2)) (do_e (de_op op_mod sem_mod (do_e (de_op op_addA sem_addA (do_var (pv 4)) (do_e (de_op op_mulA sem_mulA (do_e de_int) (do_var (pv 8)))))) (do_e de_int)))))))) dss_nil)
      (dss_cons (ds_if (dt_cmp (op_eqA (hu64 hr)) sem_eq (do_var (pv 3)) (do_e de_int) (nomark _)) (dss_one (ds_ret (de_lcF rfl nd (dic_of (di_r1 (by rfl) z_range (dv_cons (de_var (pv 1)) dv_nil))) (blkOk_by (own := [("_law_k", 8)]) (N := ["_law_bag_here", "_law_many", "_law_letters", "_law_way", "_law_turn", "_law_words", "_law_base", "_law_at", "_law_k"]) (sc := defScope s__law_names) (by decide +kernel)) (fun _ _ _ _ _ => (dg_name (i := 8) nd rfl (.inl rfl))) (fun _ _ _ _ _ => dts_nil) (fun _ _ _ _ _ => (de_op op_mulA sem_mulA (do_e (de_ix (hu1 hr) (do_var (pv 2)) (do_var (pv 4)))) (do_e (de_op op_addA sem_addA (do_var (pv 8)) (do_e de_int)))))))) dss_nil)
      (dss_cons (ds_set (i := 6) nd rfl (.inr rfl) (de_join (do_e (de_lcF rfl nd (dic_of (di_r1 (by rfl) z_range (dv_cons (de_op op_addA sem_addA (do_e de_int) (do_e (de_call f__law_take.ok hgd (hr.mono (by decide)) (by rfl) f__law_take.g f__law_take.kp f__law_take.b pass0 (dag_bor (pv 0) (dag_val de_int dag_nil))))) dv_nil))) (blkOk_by (own := [("_law_k", 8)]) (N := ["_law_bag_here", "_law_many", "_law_letters", "_law_way", "_law_turn", "_law_words", "_law_base", "_law_at", "_law_k"]) (sc := defScope s__law_names) (by decide +kernel)) (fun _ _ _ _ _ => (dg_name (i := 8) nd rfl (.inl rfl))) (fun _ _ _ _ _ => dts_nil) (fun _ _ _ _ _ => (de_ix (hu1 hr) (do_var (pv 2)) (do_e (de_call f__law_take.ok hgd (hr.mono (by decide)) (by rfl) f__law_take.g f__law_take.kp f__law_take.b pass0 (dag_bor (pv 0) (dag_val de_int dag_nil))))))))))
      (dss_cons (ds_set (i := 7) nd rfl (.inr rfl) (de_call f__law_take.ok hgd (hr.mono (by decide)) (by rfl) f__law_take.g f__law_take.kp f__law_take.b pass0 (dag_bor (pv 0) (dag_val (de_callB call_lenA sem_len (by rfl) z_len (by decide +kernel) (da_cons (do_var (pv 6)) da_nil)) dag_nil))))
      (dss_one (ds_ret (de_lcF rfl nd (dic_of (di_r1 (by rfl) z_range (dv_cons (de_var (pv 1)) dv_nil))) (blkOk_by (own := [("_law_k", 8)]) (N := ["_law_bag_here", "_law_many", "_law_letters", "_law_way", "_law_turn", "_law_words", "_law_base", "_law_at", "_law_k"]) (sc := defScope s__law_names) (by decide +kernel)) (fun _ _ _ _ _ => (dg_name (i := 8) nd rfl (.inl rfl))) (fun _ _ _ _ _ => dts_nil) (fun _ _ _ _ _ => (de_op op_addA sem_addA (do_e (de_op op_addA sem_addA (do_e (de_slice (do_var (pv 6)) dop_none (dop_some (de_var (pv 7))))) (do_e (de_ix (hu1 hr) (do_var (pv 2)) (do_e (de_op op_mod sem_mod (do_e (de_op op_addA sem_addA (do_var (pv 4)) (do_e (de_op op_mulA sem_mulA (do_e de_int) (do_var (pv 8)))))) (do_e de_int))))))) (do_e (de_slice (do_var (pv 6)) (dop_some (de_op op_addA sem_addA (do_var (pv 7)) (do_e de_int))) dop_none)))))))))))))), fun as Q h => ?_⟩)
  case len => exact len__law_names h
  · obtain ⟨n, c, m, rfl, hB, hm0, hm1, h⟩ := h
    simp only [List.length_cons, List.length_nil, Nat.reduceAdd, Nat.reduceSub, List.replicate_succ, List.replicate_zero, List.cons_append, List.nil_append]
    refine sSeq_go fun N0 h0 => ?_
    simp_arith
    refine h0 _ ?_
    clear h0
    refine sSeq_go fun N0 h0 => ?_
    simp_arith
    refine ⟨n + 19, c, 5, rfl, hB.le (by omega), by decide, by decide, fun w c1 hB1 hw0 hw1 => ?_⟩
    simp_arith
    refine ⟨n + 18, c1, 26, rfl, hB1.le (by omega), by decide, by decide, fun t c2 hB2 ht0 ht1 => ?_⟩
    simp_arith
    refine h0 _ ?_
    clear h0
    refine sSeq_go fun N1 h1 => ?_
    refine sIf_go fun T hT hF => ?_
    simp_arith
    by_cases hw : w = 0
    · rw [decide_eq_true hw]
      refine hT _ ?_
      clear hT hF h1
      refine sSeq_go fun N2 h2 => ?_
      simp_arith
      refine ⟨le_size (by decide), h2 _ ?_⟩
      clear h2
      have hr0 := Int.emod_nonneg t (b := 8) (by decide)
      have hr1 := Int.emod_lt_of_pos t (b := 8) (by decide)
      have e3 := WW_rot hr0 hr1 hm0 hm1
      simp_arith
      refine ⟨by decide, by decide, ?_, ?_⟩
      · have z1 := cut_le WW (some (t % 8)) none
        have z2 := cut_le WW none (some (t % 8))
        have z3 : WW.length = 8 := rfl
        have y1 := congrArg List.length (cut_map D.str WW (some (t % 8)) none)
        have y2 := congrArg List.length (cut_map D.str WW none (some (t % 8)))
        rw [List.length_map] at y1 y2
        simp only [WW, List.map_cons, List.map_nil] at y1 y2 z1 z2 z3
        exact le_size (by omega)
      · have := h _ c2 (hB2.le (by omega)) e3
        rw [← cut_map, List.map_append, ← cut_map, ← cut_map] at this
        exact this
    · rw [decide_eq_false hw]
      refine hF _ ?_
      simp only [sNext]
      refine h1 _ ?_
      clear hT hF h1
      refine sSeq_go fun N1 h1 => ?_
      refine sIf_go fun T hT hF => ?_
      simp_arith
      by_cases hw : w = 1
      · rw [decide_eq_true hw]
        refine hT _ ?_
        clear hT hF h1
        simp_arith [big]
        refine ⟨by omega, by omega, ?_⟩
        refine lcL_rng (fun i acc ρ => ρ = [.bw 0 c2, .sh (.int m), .sh (.str LL), .sh (.int w), .sh (.int t), .un, .un, .un, .un] ∧ acc = ((List.range i).map fun k : Nat => (⟨#[97 + ((t + 3 * (0 + (k : Int) * 1)) % 26).toNat]⟩ : Str)).map D.str) ⟨rfl, rfl⟩ ?_ ?_
        · rintro acc ρ ⟨rfl, rfl⟩
          simp_arith
          refine h _ _ (hB2.le (by omega)) (named_range _ (by omega) hm1 (fun k _ => kind_one (Int.emod_nonneg _ (by decide)) (Int.emod_lt_of_pos _ (by decide))) fun a b ha hb e => ?_)
          have := congrArg (fun x : Str => x.cps) e
          simp at this
          omega
        · rintro i acc ρ N hi hN ⟨rfl, rfl⟩
          simp_arith
          have hc := LL_at (Int.emod_nonneg (t + 3 * (0 + (i : Int) * 1)) (b := 26) (by decide)) (Int.emod_lt_of_pos _ (by decide))
          refine ⟨cMul_of (by decide) (by omega), by decide, LL_len, _, hc, lt_size (by rw [List.length_map, List.length_map, List.length_range]; omega), hN _ _ ⟨rfl, ?_⟩⟩
          rw [range_snoc, List.map_append]
          rfl
      · rw [decide_eq_false hw]
        refine hF _ ?_
        simp only [sNext]
        refine h1 _ ?_
        clear hT hF h1
        refine sSeq_go fun N1 h1 => ?_
        refine sIf_go fun T hT hF => ?_
        simp_arith
        by_cases hw : w = 2
        · rw [decide_eq_true hw]
          refine hT _ ?_
          clear hT hF h1
          simp_arith [big]
          refine ⟨by omega, by omega, ?_⟩
          refine lcL_rng (fun i acc ρ => ρ = [.bw 0 c2, .sh (.int m), .sh (.str LL), .sh (.int w), .sh (.int t), .un, .un, .un, .un] ∧ acc = ((List.range i).map fun k : Nat => Str.reps ⟨#[97 + t.toNat]⟩ (0 + (k : Int) * 1 + 1).toNat).map D.str) ⟨rfl, rfl⟩ ?_ ?_
          · rintro acc ρ ⟨rfl, rfl⟩
            simp_arith
            refine h _ _ (hB2.le (by omega)) (named_range _ (by omega) hm1 (fun k hk => kind_reps ht0 ht1 (by omega) (by omega)) fun a b ha hb e => ?_)
            have := congrArg Str.length e
            rw [len_reps, len_reps, len_one] at this
            omega
          · rintro i acc ρ N hi hN ⟨rfl, rfl⟩
            simp_arith
            have hc := LL_at ht0 ht1
            refine ⟨LL_len, _, hc, by omega, by rw [len_one]; exact le_size (by omega), by rw [sizeLine_eq]; omega, lt_size (by rw [List.length_map, List.length_map, List.length_range]; omega), hN _ _ ⟨rfl, ?_⟩⟩
            rw [range_snoc, List.map_append]
            rfl
        · rw [decide_eq_false hw]
          refine hF _ ?_
          simp only [sNext]
          refine h1 _ ?_
          clear hT hF h1
          refine sSeq_go fun N1 h1 => ?_
          simp_arith [big]
          refine ⟨n + 17, c2, 8, rfl, hB2.le (by omega), by decide, by decide, fun v c3 hB3 hv0 hv1 => ?_⟩
          simp_arith [big]
          refine ⟨by omega, by omega, ?_⟩
          refine lcL_rng (fun i acc ρ => ∃ c' : Cn, ρ = [.bw 0 c', .sh (.int m), .sh (.str LL), .sh (.int w), .sh (.int t), .un, .un, .un, .un] ∧ Bag (n + (17 - i)) c' ∧ ∃ l : List Str, acc = l.map D.str ∧ l.length = i ∧ ∀ x ∈ l, x.length = 1 ∧ AZ x) ⟨c3, rfl, hB3, [], rfl, rfl, by simp⟩ ?_ ?_
          · rintro acc ρ ⟨c4, rfl, hB4, l, rfl, hl, hx⟩
            simp_arith
            have hs : (l.map (·.length)).sum = l.length := by
              clear hl
              induction l with
              | nil => rfl
              | cons a r ih =>
                rw [List.map_cons, List.sum_cons, ih fun x hx2 => hx x (List.mem_cons_of_mem _ hx2), (hx a List.mem_cons_self).1, List.length_cons]
                omega
            refine ⟨l, rfl, by rw [hs]; have : (Str.ofString "").length = 0 := by decide +kernel
                               rw [this]; omega, h1 _ ?_⟩
            clear h1
            have hz : (Txt.join "" l).length = l.length := by rw [len_join, hs]
            have hA := az_join l fun x hx2 => (hx x hx2).2
            generalize Txt.join "" l = base at hz hA ⊢
            refine sSeq_go fun N2 h2 => ?_
            simp_arith
            refine ⟨le_size (by omega), n, c4, _, rfl, hB4.le (by omega), by omega, by omega, fun u c5 hB5 hu0 hu1 => ?_⟩
            simp_arith
            refine h2 _ ?_
            clear h2
            simp_arith [big]
            refine ⟨by omega, by omega, ?_⟩
            obtain ⟨k, rfl⟩ := Int.eq_ofNat_of_zero_le hu0
            refine lcL_rng (fun i acc ρ => ρ = [.bw 0 c5, .sh (.int m), .sh (.str LL), .sh (.int w), .sh (.int t), .un, .sh (.str base), .sh (.int (k : Int)), .un] ∧ acc = ((List.range i).map (swapC base k t)).map D.str) ⟨rfl, rfl⟩ ?_ ?_
            · rintro acc ρ ⟨rfl, rfl⟩
              simp_arith
              exact h _ _ hB5 (named_range _ (by omega) hm1 (fun j _ => swapC_kind hA (by omega) (by omega)) fun a b ha hb e => swapC_inj ha hb e)
            · rintro i acc ρ N hi hN ⟨rfl, rfl⟩
              simp_arith
              have hc := LL_at (Int.emod_nonneg (t + 5 * (0 + (i : Int) * 1)) (b := 26) (by decide)) (Int.emod_lt_of_pos _ (by decide))
              generalize hch : 97 + ((t + 5 * (0 + (i : Int) * 1)) % 26).toNat = ch at hc
              have g1 := len_cutS_to base k
              have g2 := len_cutS_from base (k + 1)
              rw [Int.natCast_add] at g2
              have g3 : (cutS base none (some (k : Int)) ++ ⟨#[ch]⟩ : Str).length = min k base.length + 1 := by rw [len_append, g1, len_one]
              refine ⟨le_size (by omega), cMul_of (by decide) (by omega), by decide, LL_len, ch, hc, le_size (by rw [g1, len_one]; omega), le_size (by omega), ?_, lt_size (by rw [List.length_map, List.length_map, List.length_range]; omega), hN _ _ ⟨rfl, ?_⟩⟩
              · rw [g3]
                refine le_size ?_
                have := len_cutS base (some ((k : Int) + 1)) none
                omega
              · rw [range_snoc, List.map_append]
                unfold swapC
                rw [hch]
                rfl
          · rintro i acc ρ N hi hN ⟨c4, rfl, hB4, l, rfl, hl, hx⟩
            simp_arith
            refine ⟨n + (17 - (i + 1)), c4, 26, rfl, hB4.le (by omega), by decide, by decide, fun u c5 hB5 hu0 hu1 => ?_⟩
            simp_arith
            have hc := LL_at hu0 hu1
            refine ⟨LL_len, _, hc, lt_size (by rw [List.length_map]; omega), hN _ _ ⟨c5, rfl, hB5, l ++ [⟨#[97 + u.toNat]⟩], by simp, by simp [hl], fun x hx2 => ?_⟩⟩
            rcases List.mem_append.mp hx2 with z | z
            · exact hx x z
            · rw [List.mem_singleton.mp z, len_one]
              exact ⟨rfl, (kind_one hu0 hu1).2.2⟩
/-- the plan: names, and pairs of names -/
def Plan (names : List Str) (pairs : List (Str × Str)) : List (Key × D) := [(.inr "kinds", .lst (names.map D.str)), (.inr "pairs", .lst (pairs.map PairD))]
theorem kGet_kinds {names : List Str} {pairs : List (Str × Str)} : kGet (Plan names pairs) (.inr "kinds") = some (.lst (names.map D.str)) := by unfold Plan; rw [kGet_cons, if_pos rfl]
theorem kGet_pairs {names : List Str} {pairs : List (Str × Str)} : kGet (Plan names pairs) (.inr "pairs") = some (.lst (pairs.map PairD)) := by unfold Plan; rw [kGet_cons, if_neg (by decide), kGet_cons, if_pos rfl]
theorem res_plan {hs : Pile} {names : List Str} {pairs : List (Str × Str)} : D.res hs (.dct (Plan names pairs)) = .dct (Plan names pairs) := by
  unfold Plan
  rw [res_dct, resk_cons, resk_cons, resk_nil2, res_strs, res_pairs]
/-- the plan that the law makes up -/
def PlanOk (m : Int) (names : List Str) (pairs : List (Str × Str)) : Prop := 0 < names.length ∧ (names.length : Int) ≤ m ∧ (∀ x ∈ names, x.length ≤ 8) ∧ (∀ p ∈ pairs, p.1 ∈ names ∧ p.2 ∈ names) ∧ pairs.length ≤ 100 ∧ Rel names pairs
/-- what is made of pairs when the i-th name has met the first j ones -/
structure Made (names : List Str) (i j : Nat) (pairs : List (Str × Str)) : Prop where
  nd : (pairs.map inOrd).Nodup
  at_ : ∀ p ∈ pairs, ∃ (a b : Nat) (x y : Str), b ≤ a ∧ (a < i ∨ (a = i ∧ b < j)) ∧ names[a]? = some x ∧ names[b]? = some y ∧ (p = (x, y) ∨ p = (y, x))
  len : 2 * pairs.length ≤ i * (i + 1) + 2 * j
theorem Made.up {names : List Str} {i : Nat} {pairs : List (Str × Str)} (h : Made names i (i + 1) pairs) : Made names (i + 1) 0 pairs := by
  refine ⟨h.nd, fun p hp => ?_, ?_⟩
  · obtain ⟨a, b, x, y, h1, h2, h3⟩ := h.at_ p hp
    exact ⟨a, b, x, y, h1, by omega, h3⟩
  · have := h.len
    have e : (i + 1) * (i + 1 + 1) = i * (i + 1) + 2 * (i + 1) := by rw [Nat.mul_add, Nat.mul_one, Nat.add_mul, Nat.one_mul]; omega
    omega
theorem Made.skip {names : List Str} {i j : Nat} {pairs : List (Str × Str)} (h : Made names i j pairs) : Made names i (j + 1) pairs := by
  refine ⟨h.nd, fun p hp => ?_, by have := h.len; omega⟩
  obtain ⟨a, b, x, y, h1, h2, h3⟩ := h.at_ p hp
  exact ⟨a, b, x, y, h1, by omega, h3⟩
theorem inOrd_pair {p q : Str × Str} (h : inOrd p = inOrd q) : p = q ∨ p = (q.2, q.1) := by
  obtain ⟨a, b⟩ := p
  obtain ⟨c, d⟩ := q
  rcases inOrd_or (a, b) with h1 | h1 <;> rcases inOrd_or (c, d) with h2 | h2 <;> rw [h1, h2] at h <;> simp only [Prod.mk.injEq] at h <;> obtain ⟨rfl, rfl⟩ := h
  · exact .inl rfl
  · exact .inr rfl
  · exact .inr rfl
  · exact .inl rfl
theorem Made.put {names : List Str} {i j : Nat} {pairs : List (Str × Str)} {x y : Str} {p : Str × Str} {u : Nat} (h : Made names i j pairs) (hn : names.Nodup) (hj : j ≤ i) (hx : names[i]? = some x) (hy : names[j]? = some y) (hp : p = (x, y) ∨ p = (y, x)) :
    Made names i (j + 1) (pairs.take u ++ [p] ++ pairs.drop u) := by
  have pm : (pairs.take u ++ [p] ++ pairs.drop u).Perm (p :: pairs) := by
    have := List.perm_middle (a := p) (l₁ := pairs.take u) (l₂ := pairs.drop u)
    rw [List.take_append_drop] at this
    rw [List.append_assoc]
    exact this
  refine ⟨((pm.map inOrd).nodup_iff).mpr (List.nodup_cons.mpr ⟨fun z => ?_, h.nd⟩), fun q hq => ?_, ?_⟩
  · obtain ⟨q, hq, e⟩ := List.mem_map.mp z
    obtain ⟨a, b, x2, y2, h1, h2, h3, h4, h5⟩ := h.at_ q hq
    have inj : ∀ {k l : Nat} {z : Str}, names[k]? = some z → names[l]? = some z → k = l := fun {k l z} e1 e2 => by
      exact (List.getElem?_inj (List.getElem?_eq_some_iff.mp e1).1 hn).mp (e1.trans e2.symm)
    have c : (x2 = x ∧ y2 = y) ∨ (x2 = y ∧ y2 = x) := by
      rcases inOrd_pair e with e | e <;> rcases h5 with rfl | rfl <;> rcases hp with rfl | rfl <;> simp only [Prod.mk.injEq] at e <;> obtain ⟨rfl, rfl⟩ := e <;> simp
    rcases c with ⟨rfl, rfl⟩ | ⟨rfl, rfl⟩
    · have k1 := inj h3 hx
      have k2 := inj h4 hy
      omega
    · have k1 := inj h3 hy
      have k2 := inj h4 hx
      omega
  · rcases List.mem_cons.mp (pm.mem_iff.mp hq) with rfl | hq
    · exact ⟨i, j, x, y, hj, by omega, hx, hy, hp⟩
    · obtain ⟨a, b, x2, y2, h1, h2, h3⟩ := h.at_ q hq
      exact ⟨a, b, x2, y2, h1, by omega, h3⟩
  · rw [pm.length_eq, List.length_cons]
    have := h.len
    omega
theorem Made.rel {names : List Str} {pairs : List (Str × Str)} (h : Made names names.length 0 pairs) (h0 : 0 < names.length) (h8 : names.length ≤ 8) (hn : names.Nodup) (hk : ∀ x ∈ names, IsKind x) : Rel names pairs := by
  refine ⟨h0, h8, hn, hk, ?_, fun p hp => ?_, h.nd⟩
  · have := h.len
    have : names.length * (names.length + 1) ≤ 8 * 9 := Nat.mul_le_mul h8 (by omega)
    omega
  · obtain ⟨a, b, x, y, _, _, h3, h4, h5⟩ := h.at_ p hp
    have m1 := List.mem_of_getElem? h3
    have m2 := List.mem_of_getElem? h4
    rcases h5 with rfl | rfl
    · exact ⟨m1, m2⟩
    · exact ⟨m2, m1⟩
def sp__law_plan : SpD := fun as Q => ∃ (n : Nat) (c : Cn) (m : Int), as = [.bw 0 c, .sh (.int m)] ∧ Bag (n + 300) c ∧ 0 < m ∧ m ≤ 8 ∧
  ∀ (names : List Str) (pairs : List (Str × Str)) c', Bag n c' → PlanOk m names pairs → Q (.fr (.d (Plan names pairs))) [.bw 0 c', .un]
theorem len__law_plan {as : SL} {Q : Rv → SL → Prop} (h : sp__law_plan as Q) : as.length = 2 := by
  obtain ⟨_, _, _, rfl, _⟩ := h
  rfl
theorem ok__law_plan {f : Addr} {fd : FuncData} (Fn : Fun K "_law_plan" "_law_plan" s__law_plan f fd) {a__law_take : Addr} {d__law_take : FuncData} (f__law_take : Cal P w K mg base 1 "_law_take" a__law_take d__law_take ["_law_bag_here", "_law_many"] sp__law_take) (z_min : mg "min" = none) {a__law_names : Addr} {d__law_names : FuncData} (f__law_names : Cal P w K mg base 2 "_law_names" a__law_names d__law_names ["_law_bag_here", "_law_many"] sp__law_names) (z_range : mg "range" = none) (z_int : mg "int" = none) (z_len : mg "len" = none) : FnG P w K mg base CX0 3 f fd ["_law_bag_here", "_law_most"] (lift K sp__law_plan) := by
  have nd := sc__law_plan.nd
  refine fnD Fn sc__law_plan (fun as Q h => ?len) (fun cdv A outer s H hgd hr => ⟨_, _,
    (dss_cons (ds_set (i := 2) nd rfl (.inl rfl) (de_op op_addA sem_addA (do_e de_int) (do_e (de_call f__law_take.ok hgd (hr.mono (by decide)) (by rfl) f__law_take.g f__law_take.kp f__law_take.b pass0 (dag_bor (pv 0) (dag_val (de_ix (hu1 hr) (do_e (de_lst (dv_cons (de_callB (call_minA rfl) sem_min (by rfl) z_min (by decide +kernel) (da_cons (do_e de_int) (da_cons (do_var (pv 1)) da_nil))) (dv_cons (de_var (pv 1)) dv_nil)))) (do_e (de_call f__law_take.ok hgd (hr.mono (by decide)) (by rfl) f__law_take.g f__law_take.kp f__law_take.b pass0 (dag_bor (pv 0) (dag_val de_int dag_nil))))) dag_nil))))))
      (dss_cons (ds_par (i := 3) (j := 4) rfl nd rfl rfl (by decide) rfl rfl (dr_cons (de_call f__law_names.ok hgd (hr.mono (by decide)) (by rfl) f__law_names.g f__law_names.kp f__law_names.b pass0 (dag_bor (pv 0) (dag_val (de_var (pv 2)) dag_nil))) (dr_cons (de_lst dv_nil) dr_nil)) (by rfl))
      (dss_cons (ds_par (i := 5) (j := 6) rfl nd rfl rfl (by decide) rfl rfl (dr_cons (de_call f__law_take.ok hgd (hr.mono (by decide)) (by rfl) f__law_take.g f__law_take.kp f__law_take.b pass0 (dag_bor (pv 0) (dag_val de_int dag_nil))) (dr_cons (de_call f__law_take.ok hgd (hr.mono (by decide)) (by rfl) f__law_take.g f__law_take.kp f__law_take.b pass0 (dag_bor (pv 0) (dag_val de_int dag_nil))) dr_nil)) (by rfl))
      (dss_cons (ds_for PassesOwn.never rfl (di_r1 (by rfl) z_range (dv_cons (de_var (pv 2)) dv_nil)) (dg_name (i := 7) nd rfl (.inl rfl))
      (dss_one (ds_for PassesOwn.never rfl (di_r1 (by rfl) z_range (dv_cons (de_op op_addA sem_addA (do_var (pv 7)) (do_e de_int)) dv_nil)) (dg_name (i := 8) nd rfl (.inl rfl))
      (dss_cons (ds_set (i := 9) nd rfl (.inl rfl) (de_or (de_cmp (op_eqA (hu64 hr)) sem_eq (do_e (de_op op_sub sem_sub (do_var (pv 7)) (do_var (pv 8)))) (do_e de_int) (nomark _)) (de_one (de_and (de_cmp (op_eqA (hu64 hr)) sem_eq (do_var (pv 5)) (do_e de_int) (nomark _)) (de_and (de_cmp (op_eqA (hu64 hr)) sem_eq (do_var (pv 8)) (do_e de_int) (nomark _)) (de_one (de_cmp (op_eqA (hu64 hr)) sem_eq (do_var (pv 7)) (do_e (de_op op_sub sem_sub (do_var (pv 2)) (do_e de_int))) (nomark _))))))))
      (dss_cons (ds_set (i := 10) nd rfl (.inl rfl) (de_ix (hu1 hr) (do_e (de_lst (dv_cons (de_op op_mulA sem_mulA (do_e de_int) (do_e (de_callTy call_intA sem_intA (by rfl) z_int (by decide +kernel) (da_cons (do_var (pv 9)) da_nil)))) (dv_cons (de_op op_mulA sem_mulA (do_e de_int) (do_e (de_callTy call_intA sem_intA (by rfl) z_int (by decide +kernel) (da_cons (do_var (pv 9)) da_nil)))) (dv_cons de_int (dv_cons de_int (dv_cons de_int (dv_cons de_int dv_nil)))))))) (do_var (pv 5))))
      (dss_cons (ds_if (dt_cmp (op_eqA (hu64 hr)) sem_eq (do_var (pv 8)) (do_var (pv 7)) (nomark _)) (dss_one (ds_set (i := 10) nd rfl (.inl rfl) (de_ix (hu1 hr) (do_e (de_lst (dv_cons de_int (dv_cons de_int (dv_cons de_int dv_nil))))) (do_var (pv 6))))) dss_nil)
      (dss_one (ds_if (dt_cmp op_ltA sem_ltA (do_e (de_call f__law_take.ok hgd (hr.mono (by decide)) (by rfl) f__law_take.g f__law_take.kp f__law_take.b pass0 (dag_bor (pv 0) (dag_val de_int dag_nil)))) (do_var (pv 10)) (nomark _)) (dss_cons (ds_set (i := 11) nd rfl (.inl rfl) (de_ix (hu1 hr) (do_e (de_lst (dv_cons (de_tup (dv_cons (de_ix (hu1 hr) (do_var (pv 3)) (do_var (pv 8))) (dv_cons (de_ix (hu1 hr) (do_var (pv 3)) (do_var (pv 7))) dv_nil))) (dv_cons (de_tup (dv_cons (de_ix (hu1 hr) (do_var (pv 3)) (do_var (pv 7))) (dv_cons (de_ix (hu1 hr) (do_var (pv 3)) (do_var (pv 8))) dv_nil))) dv_nil)))) (do_e (de_call f__law_take.ok hgd (hr.mono (by decide)) (by rfl) f__law_take.g f__law_take.kp f__law_take.b pass0 (dag_bor (pv 0) (dag_val de_int dag_nil))))))
      (dss_one (ds_expr (de_insert (pv 4) (dv_cons (de_call f__law_take.ok hgd (hr.mono (by decide)) (by rfl) f__law_take.g f__law_take.kp f__law_take.b pass0 (dag_bor (pv 0) (dag_val (de_op op_addA sem_addA (do_e (de_callB call_lenA sem_len (by rfl) z_len (by decide +kernel) (da_cons (do_var (pv 4)) da_nil))) (do_e de_int)) dag_nil))) (dv_cons (de_var (pv 11)) dv_nil)))))) dss_nil))))))))
      (dss_one (ds_ret (de_disp (dps_cons de_str (de_var (pv 3)) (dps_cons de_str (de_var (pv 4)) dps_nil)) (by rfl) (by rfl) (fun z => by cases z) (by decide)))))))), fun as Q h => ?_⟩)
  case len => exact len__law_plan h
  · obtain ⟨n, c, m, rfl, hB, hm0, hm1, h⟩ := h
    simp only [List.length_cons, List.length_nil, Nat.reduceAdd, Nat.reduceSub, List.replicate_succ, List.replicate_zero, List.cons_append, List.nil_append]
    refine sSeq_cut (fun ρ' => ∃ (c' : Cn) (q : Int), ρ' = [.bw 0 c', .sh (.int m), .sh (.int q), .un, .un, .un, .un, .un, .un, .un, .un, .un] ∧ Bag (n + 298) c' ∧ 1 ≤ q ∧ q ≤ m) (fun N hN => ?_) ?_
    · simp_arith
      refine ⟨le_size (by decide), n + 299, c, 2, rfl, hB.le (by omega), by decide, by decide, fun v c1 hB1 hv0 hv1 => ?_⟩
      simp_arith
      have hv : v = 0 ∨ v = 1 := by omega
      have st : ∀ x : Int, 0 < x → x ≤ m → (∃ n c m_1, [Sl.bw 0 c1, Sl.sh (D.int x)] = [Sl.bw 0 c, Sl.sh (D.int m_1)] ∧ Bag (n + 1) c ∧ 0 < m_1 ∧ m_1 < 2 ^ 200 ∧ ∀ v c', Bag n c' → 0 ≤ v → v < m_1 → N [Sl.bw 0 c', Sl.sh (D.int m), Sl.sh (D.int (1 + v)), .un, .un, .un, .un, .un, .un, .un, .un, .un]) := fun x hx0 hx1 =>
        ⟨n + 298, c1, x, rfl, hB1.le (by omega), hx0, by omega, fun v c' hB2 hv0 hv1 => hN _ ⟨c', 1 + v, rfl, hB2, by omega, by omega⟩⟩
      rcases hv with rfl | rfl
      · refine ⟨_, atI_0, ?_⟩
        obtain ⟨a, b, c, e, h1, h2, h3, h4⟩ := st (min 4 m) (by omega) (by omega)
        refine ⟨a, b, c, e, h1, h2, h3, fun v c' hB2 hv0 hv1 => ?_⟩
        simp_arith
        exact h4 v c' hB2 hv0 hv1
      · refine ⟨_, atI_1, ?_⟩
        obtain ⟨a, b, c, e, h1, h2, h3, h4⟩ := st m (by omega) (by omega)
        refine ⟨a, b, c, e, h1, h2, h3, fun v c' hB2 hv0 hv1 => ?_⟩
        simp_arith
        exact h4 v c' hB2 hv0 hv1
    · rintro ρ' ⟨c1, q, rfl, hB1, hq0, hq1⟩
      refine sSeq_go fun N0 h0 => ?_
      simp_arith
      refine ⟨n + 278, c1, q, rfl, hB1.le (by omega), by omega, by omega, fun names c2 hB2 hNm => ?_⟩
      simp_arith
      refine ⟨le_size (by decide), h0 _ ?_⟩
      clear h0
      refine sSeq_go fun N0 h0 => ?_
      simp_arith
      refine ⟨n + 277, c2, 6, rfl, hB2.le (by omega), by decide, by decide, fun style c3 hB3 hs0 hs1 => ?_⟩
      simp_arith
      refine ⟨n + 276, c3, 3, rfl, hB3.le (by omega), by decide, by decide, fun loops c4 hB4 ho0 ho1 => ?_⟩
      simp_arith
      refine h0 _ ?_
      clear h0
      obtain ⟨hn1, hn2, hn3, hn4⟩ := hNm
      refine sSeq_cut (fun ρ' => ∃ (c' : Cn) (pairs : List (Str × Str)) (s7 s8 s9 s10 s11 : Sl), ρ' = [.bw 0 c', .sh (.int m), .sh (.int q), .ow (.l (names.map D.str)), .ow (.l (pairs.map PairD)), .sh (.int style), .sh (.int loops), s7, s8, s9, s10, s11] ∧ Bag n c' ∧ PlanOk m names pairs) (fun N hN => ?_) ?_
      · simp_arith [big]
        refine ⟨by omega, by omega, forL_rng (fun i ρ => ∃ (c' : Cn) (pairs : List (Str × Str)) (s7 s8 s9 s10 s11 : Sl), ρ = [.bw 0 c', .sh (.int m), .sh (.int q), .ow (.l (names.map D.str)), .ow (.l (pairs.map PairD)), .sh (.int style), .sh (.int loops), s7, s8, s9, s10, s11] ∧
          Bag (n + (276 - 30 * i)) c' ∧ Made names i 0 pairs) ⟨c4, [], _, _, _, _, _, rfl, hB4, ⟨List.nodup_nil, fun p hp => (List.not_mem_nil hp).elim, by simp⟩⟩ ?_ ?_⟩
        · rintro ρ ⟨c', pairs, s7, s8, s9, s10, s11, rfl, hB5, hM⟩
          rw [show q.toNat = names.length by omega] at hM
          have hR := hM.rel (by omega) (by omega) hn3 hn4
          exact hN _ ⟨c', pairs, s7, s8, s9, s10, s11, rfl, hB5.le (by omega), by omega, by omega, hn2, hR.mem, by have := hR.pl; omega, hR⟩
        · rintro i ρ N3 hi hN3 ⟨c', pairs, s7, s8, s9, s10, s11, rfl, hB5, hM⟩
          simp_arith [big]
          refine ⟨by omega, by omega, forL_rng (fun j ρ => ∃ (c' : Cn) (pairs : List (Str × Str)) (s8 s9 s10 s11 : Sl), ρ = [.bw 0 c', .sh (.int m), .sh (.int q), .ow (.l (names.map D.str)), .ow (.l (pairs.map PairD)), .sh (.int style), .sh (.int loops), .sh (.int (0 + (i : Int) * 1)), s8, s9, s10, s11] ∧
            Bag (n + (276 - 30 * i - 3 * j)) c' ∧ Made names i j pairs) ⟨c', pairs, _, _, _, _, rfl, hB5, hM⟩ ?_ ?_⟩
          · rintro ρ ⟨c', pairs, s8, s9, s10, s11, rfl, hB5, hM⟩
            rw [show (0 + (i : Int) * 1 + 1).toNat = i + 1 by omega] at hM
            exact hN3 _ ⟨c', pairs, _, _, _, _, _, rfl, hB5.le (by omega), hM.up⟩
          · rintro j ρ N4 hj hN4 ⟨c', pairs, s8, s9, s10, s11, rfl, hB5, hM⟩
            simp only [gN, List.set_cons_succ, List.set_cons_zero]
            generalize hK : (0 + (i : Int) * 1) = K at hN4 ⊢
            generalize hJ : (0 + (j : Int) * 1) = J
            refine sSeq_cut (fun ρ' => ∃ b : Bool, ρ' = [.bw 0 c', .sh (.int m), .sh (.int q), .ow (.l (names.map D.str)), .ow (.l (pairs.map PairD)), .sh (.int style), .sh (.int loops), .sh (.int K), .sh (.int J), .sh (.bl b), s10, s11]) (fun N5 hN5 => ?_) ?_
            · simp_arith
              repeat' split
              all_goals exact hN5 _ ⟨_, rfl⟩
            · rintro ρ' ⟨b, rfl⟩
              refine sSeq_cut (fun ρ' => ∃ o : Int, ρ' = [.bw 0 c', .sh (.int m), .sh (.int q), .ow (.l (names.map D.str)), .ow (.l (pairs.map PairD)), .sh (.int style), .sh (.int loops), .sh (.int K), .sh (.int J), .sh (.bl b), .sh (.int o), s11]) (fun N5 hN5 => ?_) ?_
              · simp_arith
                have hcm : CMulW 4 (if b = true then 1 else 0) := by cases b <;> exact cMul_of (by decide) (by decide)
                refine ⟨hcm, hcm, le_size (by decide), ?_⟩
                have hs : style = 0 ∨ style = 1 ∨ style = 2 ∨ style = 3 ∨ style = 4 ∨ style = 5 := by omega
                rcases hs with rfl | rfl | rfl | rfl | rfl | rfl
                · exact ⟨_, atI_0, hN5 _ ⟨_, rfl⟩⟩
                · exact ⟨_, atI_1, hN5 _ ⟨_, rfl⟩⟩
                · exact ⟨_, atI_2, hN5 _ ⟨_, rfl⟩⟩
                · exact ⟨_, atI_3, hN5 _ ⟨_, rfl⟩⟩
                · exact ⟨_, atI_4, hN5 _ ⟨_, rfl⟩⟩
                · exact ⟨_, atI_5, hN5 _ ⟨_, rfl⟩⟩
              · rintro ρ' ⟨o, rfl⟩
                refine sSeq_cut (fun ρ' => ∃ o : Int, ρ' = [.bw 0 c', .sh (.int m), .sh (.int q), .ow (.l (names.map D.str)), .ow (.l (pairs.map PairD)), .sh (.int style), .sh (.int loops), .sh (.int K), .sh (.int J), .sh (.bl b), .sh (.int o), s11]) (fun N5 hN5 => ?_) ?_
                · refine sIf_go fun T hT hF => ?_
                  simp_arith
                  by_cases e : J = K
                  · rw [decide_eq_true e]
                    refine hT _ ?_
                    simp_arith
                    refine ⟨le_size (by decide), ?_⟩
                    have hs : loops = 0 ∨ loops = 1 ∨ loops = 2 := by omega
                    rcases hs with rfl | rfl | rfl
                    · exact ⟨_, atI_0, hN5 _ ⟨_, rfl⟩⟩
                    · exact ⟨_, atI_1, hN5 _ ⟨_, rfl⟩⟩
                    · exact ⟨_, atI_2, hN5 _ ⟨_, rfl⟩⟩
                  · rw [decide_eq_false e]
                    refine hF _ ?_
                    exact hN5 _ ⟨_, rfl⟩
                · rintro ρ' ⟨o, rfl⟩
                  refine sIf_go fun T hT hF => ?_
                  simp_arith
                  refine ⟨n + (276 - 30 * i - 3 * j - 1), c', 4, rfl, hB5.le (by omega), by decide, by decide, fun v c5 hB6 hv0 hv1 => ?_⟩
                  simp_arith
                  by_cases e : v < o
                  · rw [decide_eq_true e]
                    refine hT _ ?_
                    have hi' : i < names.length := by omega
                    have hj' : j < names.length := by omega
                    have aI : atI (names.map D.str) K = some (.str names[i]) := atI_int (by omega) (by rw [← hK, show (0 + (i : Int) * 1).toNat = i by omega, List.getElem?_map, List.getElem?_eq_getElem hi']; rfl)
                    have aJ : atI (names.map D.str) J = some (.str names[j]) := atI_int (by omega) (by rw [← hJ, show (0 + (j : Int) * 1).toNat = j by omega, List.getElem?_map, List.getElem?_eq_getElem hj']; rfl)
                    have mI := List.getElem?_eq_getElem hi'
                    have mJ := List.getElem?_eq_getElem hj'
                    have hji : j ≤ i := by omega
                    have hml := hM.len
                    have hmi : i * (i + 1) ≤ 8 * 9 := Nat.mul_le_mul (by omega) (by omega)
                    generalize names[i] = x at aI mI
                    generalize names[j] = y at aJ mJ
                    refine sSeq_cut (fun ρ' => ∃ (c' : Cn) (p : Str × Str), ρ' = [.bw 0 c', .sh (.int m), .sh (.int q), .ow (.l (names.map D.str)), .ow (.l (pairs.map PairD)), .sh (.int style), .sh (.int loops), .sh (.int K), .sh (.int J), .sh (.bl b), .sh (.int o), .sh (PairD p)] ∧ Bag (n + (276 - 30 * i - 3 * j - 2)) c' ∧ (p = (x, y) ∨ p = (y, x))) (fun N6 hN6 => ?_) ?_
                    · simp_arith [aI, aJ]
                      refine ⟨le_size (by decide), le_size (by decide), le_size (by decide), n + (276 - 30 * i - 3 * j - 2), c5, 2, rfl, hB6.le (by omega), by decide, by decide, fun u c6 hB7 hu0 hu1 => ?_⟩
                      simp_arith
                      have hu : u = 0 ∨ u = 1 := by omega
                      rcases hu with rfl | rfl
                      · exact ⟨_, atI_0, hN6 _ ⟨c6, (y, x), rfl, hB7, .inr rfl⟩⟩
                      · exact ⟨_, atI_1, hN6 _ ⟨c6, (x, y), rfl, hB7, .inl rfl⟩⟩
                    · rintro ρ' ⟨c6, p, rfl, hB7, hp1⟩
                      simp_arith [List.length_map]
                      refine ⟨n + (276 - 30 * i - 3 * j - 3), c6, _, rfl, hB7.le (by omega), by omega, by omega, fun u c7 hB8 hu0 hu1 => ?_⟩
                      simp_arith [List.length_map]
                      refine ⟨lt_size (by omega), hu0, by omega, hN4 _ ⟨c7, pairs.take u.toNat ++ [p] ++ pairs.drop u.toNat, _, _, _, _, by rw [List.map_append, List.map_append, List.map_take, List.map_drop]; rfl, hB8.le (by omega), hM.put hn3 hji mI mJ hp1⟩⟩
                  · rw [decide_eq_false e]
                    refine hF _ ?_
                    simp only [sNext]
                    exact hN4 _ ⟨c5, pairs, _, _, _, _, rfl, hB6.le (by omega), hM.skip⟩
      · rintro ρ' ⟨c', pairs, s7, s8, s9, s10, s11, rfl, hB5, hP⟩
        simp_arith
        exact ⟨by decide, h _ _ _ hB5 hP⟩
def sp_are_different : SpD := fun as Q => ∃ l : List Str, as = [.sh (.lst (l.map D.str))] ∧ l.length ≤ 1000 ∧ ∀ b : Bool, (b = true ↔ l.Nodup) → Q (.v (.bl b)) [.un]
theorem len_are_different {as : SL} {Q : Rv → SL → Prop} (h : sp_are_different as Q) : as.length = 1 := by
  obtain ⟨_, rfl, _⟩ := h
  rfl
theorem ok_are_different {f : Addr} {fd : FuncData} (Fn : Fun K "are_different" "are_different" s_are_different f fd) (z_len : mg "len" = none) (z_set : mg "set" = none) : FnG P w K mg base CX0 1 f fd ["items"] (lift K sp_are_different) := by
  have nd := sc_are_different.nd
  refine fnD Fn sc_are_different (fun as Q h => ?len) (fun cdv A outer s H hgd hr => ⟨_, _,
    (dss_one (ds_ret (de_cmp (op_eqA (hu64 hr)) sem_eq (do_e (de_lenSet rfl (by rfl) z_len (by rfl) z_set (do_var (pv 0)))) (do_e (de_callB call_lenA sem_len (by rfl) z_len (by decide +kernel) (da_cons (do_var (pv 0)) da_nil))) (nomark _)))), fun as Q h => ?_⟩)
  case len => exact len_are_different h
  · obtain ⟨l, rfl, hl, h⟩ := h
    simp_arith [List.length_map]
    refine ⟨l, rfl, by omega, fun n hn _ => ?_⟩
    exact h _ (by rw [decide_eq_true_eq]; exact hn)
def sp_is_kind : SpD := fun as Q => ∃ x : Str, as = [.sh (.str x)] ∧ x.length ≤ 1000 ∧ ∀ b : Bool, (b = true ↔ IsKind x) → Q (.v (.bl b)) [.un]
theorem len_is_kind {as : SL} {Q : Rv → SL → Prop} (h : sp_is_kind as Q) : as.length = 1 := by
  obtain ⟨_, rfl, _⟩ := h
  rfl
theorem abc_mem (c : Nat) : c ∈ ("abcdefghijklmnopqrstuvwxyz" : Str).cps.toList ↔ 97 ≤ c ∧ c ≤ 122 := by
  have e : ("abcdefghijklmnopqrstuvwxyz" : Str).cps.toList = (List.range 26).map (· + 97) := by decide +kernel
  rw [e, List.mem_map]
  constructor
  · rintro ⟨a, h, rfl⟩
    rw [List.mem_range] at h
    omega
  · rintro ⟨h1, h2⟩
    exact ⟨c - 97, List.mem_range.mpr (by omega), by omega⟩
theorem ok_is_kind {f : Addr} {fd : FuncData} (Fn : Fun K "is_kind" "is_kind" s_is_kind f fd) (z_len : mg "len" = none) {t_MOST_LETTERS : Tok} (c_MOST_LETTERS : mg "MOST_LETTERS" = some (.int 8 t_MOST_LETTERS)) (z_isinstance : mg "isinstance" = none) (z_str : mg "str" = none) (z_all : mg "all" = none) {t_LETTERS : Tok} (c_LETTERS : mg "LETTERS" = some (.str "abcdefghijklmnopqrstuvwxyz" t_LETTERS)) : FnG P w K mg base CX0 1 f fd ["thing"] (lift K sp_is_kind) := by
  have nd := sc_is_kind.nd
  refine fnD Fn sc_is_kind (fun as Q h => ?len) (fun cdv A outer s H hgd hr => ⟨_, _,
    (dss_cons (ds_if (dw_pt (dw_or (dt_not (dt_tr (do_e (de_isi (T := "str") (by rfl) z_isinstance (do_var (pv 0)) (by rfl) z_str (by decide +kernel) (by decide))))) (dw_or1 (dt_not (dt_chain op_leA op_leA sem_leA sem_leA (do_e de_int) (do_e (de_callB call_lenA sem_len (by rfl) z_len (by decide +kernel) (da_cons (do_var (pv 0)) da_nil))) (do_e (de_globI (by rfl) c_MOST_LETTERS))))))) (dss_one (ds_ret de_bl)) dss_nil)
      (dss_one (ds_ret (de_callB (cr_all rfl) sem_all (by rfl) z_all (by decide +kernel) (da_cons (do_e (de_lcF rfl nd (dic_var (pv 0)) (blkOk_by (own := [("letter", 1)]) (N := ["thing", "letter"]) (sc := defScope s_is_kind) (by decide +kernel)) (fun _ _ _ _ _ => (dg_name (i := 1) nd rfl (.inl rfl))) (fun _ _ _ _ _ => dts_nil) (fun _ _ _ _ _ => (de_cmp (op_inA (hu65 hr)) sem_in (do_var (pv 1)) (do_e (de_globS (by rfl) c_LETTERS)) (by rfl))))) da_nil))))), fun as Q h => ?_⟩)
  case len => exact len_is_kind h
  · obtain ⟨x, rfl, hx, h⟩ := h
    have hz : x.length ≤ sizeLine := le_size (by omega)
    have cl : x.cps.toList.length = x.length := by simp [Str.length]
    have no : ¬ IsKind x → Q (.v (.bl false)) [.un] := fun z => h false ⟨fun w => (nomatch w), fun w => (z w).elim⟩
    simp only [List.length_cons, List.length_nil, Nat.reduceAdd, Nat.reduceSub, List.replicate_succ, List.replicate_zero, List.cons_append, List.nil_append]
    refine sSeq_cut (fun ρ' => ρ' = [.sh (.str x), .un] ∧ 1 ≤ x.length ∧ x.length ≤ 8) (fun N hN => ?_) ?_
    · refine sIf_go fun T hT hF => ?_
      simp_arith [Bool.not_true, hz]
      by_cases h1 : (1 : Int) ≤ x.length
      · rw [if_pos h1]
        by_cases h2 : (x.length : Int) ≤ 8
        · rw [decide_eq_true h2]
          exact hF _ (hN _ ⟨rfl, by omega, by omega⟩)
        · rw [decide_eq_false h2]
          refine hT _ ?_
          simp_arith
          exact no fun z => h2 (by have := z.2.1; omega)
      · rw [if_neg h1]
        refine hT _ ?_
        simp_arith
        exact no fun z => h1 (by have := z.1; omega)
    · rintro ρ' ⟨rfl, h1, h2⟩
      simp_arith [chars]
      refine lcL_pure (fun c => D.str ⟨#[c]⟩) (fun c => D.bl (decide (97 ≤ c ∧ c ≤ 122))) (fun _ => true) (by rw [cl]; omega) ?_ ?_
      · intro c hc N acc hacc hN _
        simp_arith [gIn]
        refine ⟨c, rfl, lt_size hacc, ?_⟩
        have e : decide (c ∈ ("abcdefghijklmnopqrstuvwxyz" : Str).cps.toList) = decide (97 ≤ c ∧ c ≤ 122) := decide_eq_decide.mpr (abc_mem c)
        rw [e]
        exact hN rfl
      · rw [List.filter_eq_self.mpr fun _ _ => rfl]
        simp_arith [gAny]
        refine ⟨x.cps.toList.map fun c => decide (97 ≤ c ∧ c ≤ 122), by rw [List.map_map]; rfl, h _ ?_⟩
        rw [List.all_map, List.all_eq_true]
        simp only [Function.comp, id_eq, decide_eq_true_eq]
        exact ⟨fun z => ⟨h1, h2, z⟩, fun z => z.2.2⟩
def sp_are_kinds : SpD := fun as Q => ∃ l : List Str, as = [.sh (.lst (l.map D.str))] ∧ l.length ≤ 1000 ∧ (∀ x ∈ l, x.length ≤ 1000) ∧ ∀ b : Bool, (b = true ↔ ∀ x ∈ l, IsKind x) → Q (.v (.bl b)) [.un]
theorem len_are_kinds {as : SL} {Q : Rv → SL → Prop} (h : sp_are_kinds as Q) : as.length = 1 := by
  obtain ⟨_, rfl, _⟩ := h
  rfl
theorem ok_are_kinds {f : Addr} {fd : FuncData} (Fn : Fun K "are_kinds" "are_kinds" s_are_kinds f fd) (z_all : mg "all" = none) {a_is_kind : Addr} {d_is_kind : FuncData} (f_is_kind : Cal P w K mg base 1 "is_kind" a_is_kind d_is_kind ["thing"] sp_is_kind) (z_isinstance : mg "isinstance" = none) (z_list : mg "list" = none) : FnG P w K mg base CX0 2 f fd ["thing"] (lift K sp_are_kinds) := by
  have nd := sc_are_kinds.nd
  refine fnD Fn sc_are_kinds (fun as Q h => ?len) (fun cdv A outer s H hgd hr => ⟨_, _,
    (dss_one (ds_ret (de_and (de_isi (T := "list") (by rfl) z_isinstance (do_var (pv 0)) (by rfl) z_list (by decide +kernel) (by decide)) (de_one (de_callB (cr_all rfl) sem_all (by rfl) z_all (by decide +kernel) (da_cons (do_e (de_lcF rfl nd (dic_var (pv 0)) (blkOk_by (own := [("item", 1)]) (N := ["thing", "item"]) (sc := defScope s_are_kinds) (by decide +kernel)) (fun _ _ _ _ _ => (dg_name (i := 1) nd rfl (.inl rfl))) (fun _ _ _ _ _ => dts_nil) (fun _ _ _ _ _ => (de_callP f_is_kind.ok hgd (hr.mono (by decide)) (by rfl) f_is_kind.g f_is_kind.kp f_is_kind.b pass0 (da_cons (do_var (pv 1)) da_nil))))) da_nil)))))), fun as Q h => ?_⟩)
  case len => exact len_are_kinds h
  · obtain ⟨l, rfl, hl, hx, h⟩ := h
    simp only [List.length_cons, List.length_nil, Nat.reduceAdd, Nat.reduceSub, List.replicate_succ, List.replicate_zero, List.cons_append, List.nil_append]
    simp_arith
    refine lcL_on D.str (fun p r acc ρ => ρ = [.sh (.lst (l.map D.str)), .un] ∧ ∃ bs : List Bool, acc = bs.map D.bl ∧ bs.length = p.length ∧ (bs.all id = true ↔ ∀ x ∈ p, IsKind x)) ⟨rfl, [], rfl, rfl, by simp⟩ ?_ ?_
    · rintro acc ρ ⟨rfl, bs, rfl, _, hb⟩
      simp_arith [gAny]
      exact ⟨bs, rfl, h _ hb⟩
    · rintro p x r acc ρ N e hN ⟨rfl, bs, rfl, hbl, hb⟩
      simp_arith
      have hm : x ∈ l := by rw [e]; simp
      have := congrArg List.length e
      rw [List.length_append, List.length_cons] at this
      refine ⟨x, rfl, hx x hm, fun b hbb => ?_⟩
      simp_arith [List.length_map]
      refine ⟨lt_size (by omega), hN _ _ ⟨rfl, bs ++ [b], by simp, by simp [hbl], ?_⟩⟩
      rw [List.all_append, Bool.and_eq_true, hb]
      simp only [List.all_cons, List.all_nil, id_eq, Bool.and_true, hbb, List.mem_append, List.mem_singleton]
      exact ⟨fun ⟨g1, g2⟩ y hy => hy.elim (g1 y) fun z => z ▸ g2, fun g => ⟨fun y hy => g y (.inl hy), g x (.inr rfl)⟩⟩
def sp_in_order : SpD := fun as Q => ∃ x y : Str, as = [.sh (.str x), .sh (.str y)] ∧ Q (.v (PairD (inOrd (x, y)))) [.un, .un]
theorem len_in_order {as : SL} {Q : Rv → SL → Prop} (h : sp_in_order as Q) : as.length = 2 := by
  obtain ⟨_, _, rfl, _⟩ := h
  rfl
theorem ok_in_order {f : Addr} {fd : FuncData} (Fn : Fun K "in_order" "in_order" s_in_order f fd)  : FnG P w K mg base CX0 1 f fd ["one", "other"] (lift K sp_in_order) := by
  have nd := sc_in_order.nd
  refine fnD Fn sc_in_order (fun as Q h => ?len) (fun cdv A outer s H hgd hr => ⟨_, _,
    (dss_one (ds_ret (de_if (dt_cmp op_leA sem_leA (do_var (pv 0)) (do_var (pv 1)) (nomark _)) (de_tup (dv_cons (de_var (pv 0)) (dv_cons (de_var (pv 1)) dv_nil))) (de_tup (dv_cons (de_var (pv 1)) (dv_cons (de_var (pv 0)) dv_nil)))))), fun as Q h => ?_⟩)
  case len => exact len_in_order h
  · obtain ⟨x, y, rfl, h⟩ := h
    simp_arith
    unfold inOrd leS at h
    cases e : ltS y x with
    | true =>
      rw [e] at h
      exact ⟨le_size (by decide), h⟩
    | false =>
      rw [e] at h
      exact ⟨le_size (by decide), h⟩
def sp_Suits_mates_in (C_Suits : Addr) : SpD := fun as Q => ∃ (s t : Sl) (fs : List (Str × D)) (ks : List Str) (ps : List (Str × Str)) (x : Str), as = [s, t, .sh (.str x)] ∧ s.dat = some (.obj C_Suits fs) ∧ t.dat = some (.lst (ps.map PairD)) ∧ fs.lookup ("its_kinds" : Str) = some (.lst (ks.map D.str)) ∧ ks.length ≤ 1000 ∧
  Q (.fr (.l ((ks.filter fun y => decide (inOrd (x, y) ∈ ps)).map D.str))) [back1 s, back1 t, .un]
theorem len_Suits_mates_in {C : Addr} {as : SL} {Q : Rv → SL → Prop} (h : sp_Suits_mates_in C as Q) : as.length = 3 := by
  obtain ⟨_, _, _, _, _, _, rfl, _⟩ := h
  rfl
theorem ok_Suits_mates_in {f : Addr} {fd : FuncData} (Fn : Fun K "mates_in" "Suits.mates_in" s_Suits_mates_in f fd) {C_Suits : Addr} (cl_Suits : Cls K C_Suits) (na_Suits_its_kinds : NoAttr K C_Suits "its_kinds") {a_in_order : Addr} {d_in_order : FuncData} (f_in_order : Cal P w K mg base 1 "in_order" a_in_order d_in_order ["one", "other"] sp_in_order) : FnG P w K mg base CX0 2 f fd ["self", "pairs", "kind"] (lift K (sp_Suits_mates_in C_Suits)) := by
  have nd := sc_Suits_mates_in.nd
  refine fnD Fn sc_Suits_mates_in (fun as Q h => ?len) (fun cdv A outer s H hgd hr => ⟨_, _,
    (dss_one (ds_ret (de_lcF rfl nd (dic_of (di_e (de_attr cl_Suits na_Suits_its_kinds (do_var (pv 0))))) (blkOk_by (own := [("other", 3)]) (N := ["self", "pairs", "kind", "other"]) (sc := defScope s_Suits_mates_in) (by decide +kernel)) (fun _ _ _ _ _ => (dg_name (i := 3) nd rfl (.inl rfl))) (fun _ _ _ _ _ => (dts_one (dt_cmp (op_inA (hu65 hr)) sem_in (do_e (de_call f_in_order.ok hgd (hr.mono (by decide)) (by rfl) f_in_order.g f_in_order.kp f_in_order.b pass0 (dag_val (de_var (pv 2)) (dag_val (de_var (pv 3)) dag_nil)))) (do_var (pv 1)) (by rfl)))) (fun _ _ _ _ _ => (de_var (pv 3)))))), fun as Q h => ?_⟩)
  case len => exact len_Suits_mates_in h
  · obtain ⟨s, t, fs, ks, ps, x, rfl, hs, ht, hk, hl, h⟩ := h
    simp only [List.length_cons, List.length_nil, Nat.reduceAdd, Nat.reduceSub, List.replicate_succ, List.replicate_zero, List.cons_append, List.nil_append]
    simp_arith [hs]
    refine ⟨_, hk, ?_⟩
    simp_arith
    refine lcL_pure D.str D.str (fun y => decide (inOrd (x, y) ∈ ps)) (by omega) ?_ ?_
    · intro y hy N acc hacc h1 h2
      simp_arith
      refine ⟨x, y, rfl, ?_⟩
      simp_arith [ht]
      refine gIn_pairD ?_
      cases e : decide (inOrd (x, y) ∈ ps) with
      | true =>
        simp_arith [e]
        exact ⟨lt_size hacc, h1 e⟩
      | false =>
        simp_arith [e]
        exact h2 e
    · simp_arith
      cases s <;> cases t <;> exact h
def sp_Suits___init__ (C_Suits : Addr) : SpD := fun as Q => ∃ (names : List Str) (pairs : List (Str × Str)) (p q : Addr) (hs : Pile), as = [.bw 0 (.o C_Suits []), .sh (.at p), .sh (.at q), .pl hs] ∧ hs.lookup p = some (.l (names.map D.str)) ∧ hs.lookup q = some (.l (pairs.map PairD)) ∧ Rel names pairs ∧ Q (.v .non) [.bw 0 (.o C_Suits (SuitsF names pairs)), .un, .un, .pl hs]
theorem len_Suits___init__ {C : Addr} {as : SL} {Q : Rv → SL → Prop} (h : sp_Suits___init__ C as Q) : as.length = 4 := by
  obtain ⟨_, _, _, _, _, rfl, _⟩ := h
  rfl
theorem ok_Suits___init__ {f : Addr} {fd : FuncData} (Fn : Fun K "__init__" "Suits.__init__" s_Suits___init__ f fd) {C_Suits : Addr} {a_are_different : Addr} {d_are_different : FuncData} (f_are_different : Cal P w K mg base 1 "are_different" a_are_different d_are_different ["items"] sp_are_different) (z_len : mg "len" = none) {t_MOST_KINDS : Tok} (c_MOST_KINDS : mg "MOST_KINDS" = some (.int 8 t_MOST_KINDS)) {a_are_kinds : Addr} {d_are_kinds : FuncData} (f_are_kinds : Cal P w K mg base 2 "are_kinds" a_are_kinds d_are_kinds ["thing"] sp_are_kinds) {t_MOST_PAIRS : Tok} (c_MOST_PAIRS : mg "MOST_PAIRS" = some (.int 36 t_MOST_PAIRS)) (z_isinstance : mg "isinstance" = none) (z_list : mg "list" = none) (z_enumerate : mg "enumerate" = none) (z_tuple : mg "tuple" = none) {a_in_order : Addr} {d_in_order : FuncData} (f_in_order : Cal P w K mg base 1 "in_order" a_in_order d_in_order ["one", "other"] sp_in_order) (cl_Suits : Cls K C_Suits) (na_Suits_its_kinds : NoAttr K C_Suits "its_kinds") (z_sorted : mg "sorted" = none) (na_Suits_its_pairs : NoAttr K C_Suits "its_pairs") (na_Suits_its_mates : NoAttr K C_Suits "its_mates") {a_Suits_mates_in : Addr} {d_Suits_mates_in : FuncData} (f_Suits_mates_in : CalM P w K mg base 2 a_Suits_mates_in d_Suits_mates_in ["self", "pairs", "kind"] (sp_Suits_mates_in C_Suits)) (me_Suits_mates_in : Meth K C_Suits "mates_in" a_Suits_mates_in) : FnG P w K mg base CX0 3 f fd ["self", "kinds", "pairs"] (liftP K (sp_Suits___init__ C_Suits)) := by
  have nd := sc_Suits___init__.nd
  refine fnDP Fn sc_Suits___init__ (by decide) (fun as Q h => ?len) (fun cdv A outer s H hgd hr => ⟨_, _,
    (dss_cons (ds_if (dw_pt (dw_or (dt_not (dt_tr (do_pl 3 (de_callV 3 f_are_kinds.ok hgd (hr.mono (by decide)) (by rfl) f_are_kinds.g f_are_kinds.kp f_are_kinds.b pass0 (da_cons (do_varP 3 (pv 1)) da_nil))))) (dw_or (dt_not (dt_chain op_leA op_leA sem_leA sem_leA (do_pl 3 de_int) (do_pl 3 (de_callB call_lenA sem_len (by rfl) z_len (by decide +kernel) (da_cons (do_varP 3 (pv 1)) da_nil))) (do_pl 3 (de_globI (by rfl) c_MOST_KINDS)))) (dw_or1 (dt_not (dt_tr (do_pl 3 (de_callV 3 f_are_different.ok hgd (hr.mono (by decide)) (by rfl) f_are_different.g f_are_different.kp f_are_different.b pass0 (da_cons (do_varP 3 (pv 1)) da_nil))))))))) (dss_one ds_dead) dss_nil)
      (dss_cons (ds_if (dw_pt (dw_or (dt_not (dt_tr (do_pl 3 (de_isi (T := "list") (by rfl) z_isinstance (do_varP 3 (pv 2)) (by rfl) z_list (by decide +kernel) (by decide))))) (dw_or1 (dt_cmp op_gtA sem_gtA (do_pl 3 (de_callB call_lenA sem_len (by rfl) z_len (by decide +kernel) (da_cons (do_varP 3 (pv 2)) da_nil))) (do_pl 3 (de_globI (by rfl) c_MOST_PAIRS)) (nomark _))))) (dss_one ds_dead) dss_nil)
      (dss_cons (ds_set (i := 4) nd rfl (.inr rfl) (de_lst dv_nil))
      (dss_cons (ds_forM PassesOwn.never rfl (dim_enumX 3 (by rfl) z_enumerate (de_var (pv 2))) (dg_tup (n := 2) rfl (dgs_cons (dg_name (i := 5) nd rfl (.inl rfl)) (dgs_cons (dg_name (i := 6) nd rfl (.inl rfl)) dgs_nil)))
      (dss_cons (ds_if (dw_pt (dw_or (dt_not (dt_tr (do_pl 3 (de_isi (T := "tuple") (by rfl) z_isinstance (do_varP 3 (pv 6)) (by rfl) z_tuple (by decide +kernel) (by decide))))) (dw_or (dt_cmp (op_neA (hu64 hr)) sem_ne (do_pl 3 (de_callB call_lenA sem_len (by rfl) z_len (by decide +kernel) (da_cons (do_varP 3 (pv 6)) da_nil))) (do_pl 3 de_int) (nomark _)) (dw_or (dt_cmp (op_notInA (hu65 hr)) sem_notIn (do_pl 3 (de_ix (hu1 hr) (do_varP 3 (pv 6)) (do_pl 3 de_int))) (do_varP 3 (pv 1)) (by rfl)) (dw_or1 (dt_cmp (op_notInA (hu65 hr)) sem_notIn (do_pl 3 (de_ix (hu1 hr) (do_varP 3 (pv 6)) (do_pl 3 de_int))) (do_varP 3 (pv 1)) (by rfl))))))) (dss_one ds_dead) dss_nil)
      (dss_cons (ds_set (i := 7) nd rfl (.inl rfl) (de_call f_in_order.ok hgd (hr.mono (by decide)) (by rfl) f_in_order.g f_in_order.kp f_in_order.b pass0 (dag_val (de_ix (hu1 hr) (do_varP 3 (pv 6)) (do_pl 3 de_int)) (dag_val (de_ix (hu1 hr) (do_varP 3 (pv 6)) (do_pl 3 de_int)) dag_nil))))
      (dss_cons (ds_if (dt_cmp (op_inA (hu65 hr)) sem_in (do_varP 3 (pv 7)) (do_varP 3 (pv 4)) (by rfl)) (dss_one ds_dead) dss_nil)
      (dss_one (ds_expr (de_append (pv 4) (dv_cons (de_var (pv 7)) dv_nil))))))))
      (dss_cons (ds_setF cl_Suits na_Suits_its_kinds (pv 0) (de_callB (call_sortedD (hu64 hr)) sem_sortedD (by rfl) z_sorted (by decide +kernel) (da_cons (do_varP 3 (pv 1)) da_nil)))
      (dss_cons (ds_setF cl_Suits na_Suits_its_pairs (pv 0) (de_callB (call_sortedD (hu64 hr)) sem_sortedD (by rfl) z_sorted (by decide +kernel) (da_cons (do_varP 3 (pv 4)) da_nil)))
      (dss_one (ds_setF cl_Suits na_Suits_its_mates (pv 0) (de_dcF rfl nd (dic_of (di_e (de_attr cl_Suits na_Suits_its_kinds (do_varP 3 (pv 0))))) (blkOk_by (own := [("kind", 8)]) (N := ["self", "kinds", "pairs", "0pile", "found", "at", "item", "pair", "kind"]) (sc := defScope s_Suits___init__) (by decide +kernel)) (fun _ _ _ _ _ => (dg_name (i := 8) nd rfl (.inl rfl))) (fun _ _ _ _ _ => dts_nil) (fun _ _ _ _ _ => (de_var (pv 8))) (fun _ _ _ _ _ => (de_methA (pv 0) cl_Suits me_Suits_mates_in f_Suits_mates_in.ok hgd (hr.mono (by decide)) f_Suits_mates_in.b pass0 (dag_auto (pv 4) (dag_val (de_var (pv 8)) dag_nil))))))))))))), fun as Q h => ?_⟩)
  case len => exact len_Suits___init__ h
  · obtain ⟨names, pairs, ap, aq, hs, rfl, lp, lq, hR, h⟩ := h
    have hle := hR.le
    have hpl := hR.pl
    simp only [List.length_cons, List.length_nil, Nat.reduceAdd, Nat.reduceSub, List.replicate_succ, List.replicate_zero, List.cons_append, List.nil_append]
    refine sSeq_cut (fun ρ' => ρ' = [.bw 0 (.o C_Suits []), .sh (.at ap), .sh (.at aq), .pl hs, .un, .un, .un, .un, .un]) (fun N hN => ?_) ?_
    · refine sIf_go fun T hT hF => ?_
      simp_arith! [lp, lq, List.length_map]
      refine ⟨names, rfl, by omega, fun x hx => by have := (hR.kd x hx).2.1; omega, fun b hb => ?_⟩
      have : b = true := hb.mpr hR.kd
      subst this
      simp_arith! [lp, lq, Bool.not_true, Bool.not_false, List.length_map]
      rw [if_pos (show (1 : Int) ≤ names.length by have := hR.ne; omega), decide_eq_true (show (names.length : Int) ≤ 8 by omega)]
      simp_arith! [lp, lq, Bool.not_true]
      refine ⟨names, rfl, by omega, fun b hb => ?_⟩
      have : b = true := hb.mpr hR.nd
      subst this
      simp_arith! [lp, lq, Bool.not_true]
      exact hF _ (hN _ rfl)
    · rintro ρ' rfl
      refine sSeq_cut (fun ρ' => ρ' = [.bw 0 (.o C_Suits []), .sh (.at ap), .sh (.at aq), .pl hs, .un, .un, .un, .un, .un]) (fun N hN => ?_) ?_
      · refine sIf_go fun T hT hF => ?_
        simp_arith! [lp, lq, Bool.not_true, Bool.not_false, List.length_map]
        rw [decide_eq_false (show ¬ (36 : Int) < pairs.length by omega)]
        exact hF _ (hN _ rfl)
      · rintro ρ' rfl
        refine sSeq_go fun N0 h0 => ?_
        simp_arith! [lp, lq]
        refine ⟨le_size (by decide), h0 _ ?_⟩
        clear h0
        refine sSeq_cut (fun ρ' => ∃ (s_at s_item s_pair s_kind : Sl),  ρ' = [.bw 0 (.o C_Suits []), .sh (.at ap), .sh (.at aq), .pl hs, .ow (.l ((pairs.map inOrd).map PairD)), s_at, s_item, s_pair, s_kind]) (fun N hN => ?_) ?_
        · simp_arith! [lp, lq]
          refine ⟨aq, rfl, _, lq, ?_⟩
          refine forLM_ix (fun i ρ => ∃ (s_at s_item s_pair s_kind : Sl),  ρ = [.bw 0 (.o C_Suits []), .sh (.at ap), .sh (.at aq), .pl hs, .ow (.l (((pairs.take i).map inOrd).map PairD)), s_at, s_item, s_pair, s_kind]) ⟨_, _, _, _, rfl⟩ ?_ ?_ ?_
          · rintro i ρ ⟨s_at, s_item, s_pair, s_kind, rfl⟩
            exact ⟨hs, rfl, lq⟩
          · rintro ρ ⟨s_at, s_item, s_pair, s_kind, rfl⟩
            refine hN _ ⟨s_at, s_item, s_pair, s_kind, ?_⟩
            rw [enumD, List.length_mapIdx, List.length_map, List.take_length]
          · rintro i d ρ N2 hd hN2 ⟨s_at, s_item, s_pair, s_kind, rfl⟩
            rw [enumD, List.getElem?_mapIdx, List.getElem?_map] at hd
            cases e : pairs[i]? with
            | none => rw [e] at hd; cases hd
            | some p =>
              rw [e] at hd
              cases hd
              have hi := (List.getElem?_eq_some_iff.mp e).1
              obtain ⟨m1, m2⟩ := hR.mem p (List.mem_of_getElem? e)
              simp_arith! [lp, lq, Int.cast_ofNat_Int, Int.natCast_one, Int.natCast_zero, decide_true, decide_false, eq_self, reduceIte, PairD]
              refine gIn_strs ?_
              rw [decide_eq_true m1]
              simp_arith! [lp, lq, Bool.not_true]
              refine gIn_strs ?_
              rw [decide_eq_true m2]
              simp_arith! [lp, lq, Bool.not_true]
              refine ⟨p.1, p.2, rfl, ?_⟩
              simp_arith! [lp, lq]
              refine gIn_pairD ?_
              have nin : inOrd (p.1, p.2) ∉ (pairs.take i).map inOrd := fun z => by
                have hn := hR.one
                rw [← List.take_append_drop i pairs, drop_get e, List.map_append, List.map_cons] at hn
                exact (List.nodup_append.mp hn).2.2 _ z _ List.mem_cons_self rfl
              rw [decide_eq_false nin]
              simp_arith! [lp, lq]
              refine ⟨lt_size (by simp only [List.length_map, List.length_take]; omega), hN2 _ ?_⟩
              have et : (pairs.take (i + 1)).map inOrd = (pairs.take i).map inOrd ++ [inOrd (p.1, p.2)] := by
                rw [List.take_succ_eq_append_getElem hi, List.map_append, (List.getElem?_eq_some_iff.mp e).2]
                rfl
              rw [et, List.map_append]
              exact ⟨_, _, _, _, rfl⟩
        · rintro ρ' ⟨s_at, s_item, s_pair, s_kind, rfl⟩
          refine sSeq_go fun N0 h0 => ?_
          simp_arith! [lp, lq]
          refine ⟨by decide, h0 _ ?_⟩
          clear h0
          refine sSeq_go fun N0 h0 => ?_
          simp_arith! [lp, lq]
          refine ⟨by decide, h0 _ ?_⟩
          clear h0
          simp_arith! [lp, lq]
          rw [if_neg (by decide)]
          refine ⟨_, rfl, ?_⟩
          simp_arith! [lp, lq]
          refine dcL_pure D.str (fun x => x) (fun x => D.lst ((matesOf names pairs x).map D.str)) (by rw [length_sortS]; omega) (by rw [List.map_id']; exact nodup_sortS.mpr hR.nd) ?_ ?_
          · intro x hx N acc hacc hN
            simp_arith! [lp, lq]
            refine ⟨rfl, by decide, _, _, _, _, pairs.map inOrd, x, rfl, rfl, rfl, rfl, by rw [length_sortS]; omega, ?_⟩
            simp_arith! [lp, lq, back1]
            refine ⟨lt_size hacc, ?_⟩
            have e : (sortS names).filter (fun y => decide (inOrd (x, y) ∈ pairs.map inOrd)) = matesOf names pairs x := by
              unfold matesOf
              apply List.filter_congr
              intro y _
              rw [Bool.eq_iff_iff, decide_eq_true_eq]
              exact inOrd_fits pairs x y
            rw [e]
            exact hN
          · simp_arith! [lp, lq]
            rw [if_neg (by decide), if_neg (by decide)]
            exact ⟨by decide, h⟩
theorem sortS_filter (p : Str → Bool) (l : List Str) : sortS (l.filter p) = (sortS l).filter p :=
  sorted_one (le := leS) (fun _ _ => leS_antisymm) ((sortS_perm _).trans ((sortS_perm l).symm.filter p)) (sortS_sorted _) ((sortS_sorted l).filter p)
/-- the kinds that suit one of these -/
def matesAll (names : List Str) (pairs : List (Str × Str)) (ks : List Str) : List Str := (sortS names).filter fun x => (matesOf names pairs x).any fun y => decide (y ∈ ks)
theorem mem_matesAll {names : List Str} {pairs : List (Str × Str)} (h : Rel names pairs) {ks : List Str} {x : Str} : x ∈ matesAll names pairs ks ↔ ∃ y ∈ ks, fits pairs x y = true := by
  unfold matesAll
  rw [List.mem_filter, mem_sortS, List.any_eq_true]
  constructor
  · rintro ⟨_, y, h1, h2⟩
    exact ⟨y, of_decide_eq_true h2, (mem_matesOf h).mp h1⟩
  · rintro ⟨y, h1, h2⟩
    exact ⟨(fits_mem h h2).1, y, (mem_matesOf h).mpr h2, decide_eq_true h1⟩
theorem matesOf_len {names : List Str} {pairs : List (Str × Str)} (x : Str) : (matesOf names pairs x).length ≤ names.length := by
  unfold matesOf
  exact Nat.le_trans (List.length_filter_le _ _) (by rw [length_sortS]; exact Nat.le_refl _)
theorem matesAll_len {names : List Str} {pairs : List (Str × Str)} (ks : List Str) : (matesAll names pairs ks).length ≤ names.length := by
  unfold matesAll
  exact Nat.le_trans (List.length_filter_le _ _) (by rw [length_sortS]; exact Nat.le_refl _)
theorem matesS_eq {names : List Str} {pairs : List (Str × Str)} (h : Rel names pairs) (ks : List Str) : sortS (names.filter fun x => ks.any fun y => fits pairs x y) = matesAll names pairs ks := by
  rw [sortS_filter]
  unfold matesAll
  apply List.filter_congr
  intro x hx
  rw [Bool.eq_iff_iff, List.any_eq_true, List.any_eq_true]
  constructor
  · rintro ⟨y, h1, h2⟩; exact ⟨y, (mem_matesOf h).mpr h2, decide_eq_true h1⟩
  · rintro ⟨y, h1, h2⟩; exact ⟨y, of_decide_eq_true h2, (mem_matesOf h).mp h1⟩
def sp_Suits_mates (C_Suits : Addr) : SpD := fun as Q => ∃ (names : List Str) (pairs : List (Str × Str)) (ks : List Str), as = [.sh (SuitsD C_Suits names pairs), .sh (.lst (ks.map D.str))] ∧ Rel names pairs ∧ ks.length ≤ 1000 ∧
  Q (.fr (.l ((matesAll names pairs ks).map D.str))) [.un, .un]
theorem len_Suits_mates {C : Addr} {as : SL} {Q : Rv → SL → Prop} (h : sp_Suits_mates C as Q) : as.length = 2 := by
  obtain ⟨_, _, _, rfl, _⟩ := h
  rfl
theorem ok_Suits_mates {f : Addr} {fd : FuncData} (Fn : Fun K "mates" "Suits.mates" s_Suits_mates f fd) {C_Suits : Addr} (cl_Suits : Cls K C_Suits) (na_Suits_its_kinds : NoAttr K C_Suits "its_kinds") (z_any : mg "any" = none) (na_Suits_its_mates : NoAttr K C_Suits "its_mates") : FnG P w K mg base CX0 1 f fd ["self", "kinds"] (lift K (sp_Suits_mates C_Suits)) := by
  have nd := sc_Suits_mates.nd
  refine fnD Fn sc_Suits_mates (fun as Q h => ?len) (fun cdv A outer s H hgd hr => ⟨_, _,
    (dss_one (ds_ret (de_lcF rfl nd (dic_of (di_e (de_attr cl_Suits na_Suits_its_kinds (do_var (pv 0))))) (blkOk_by (own := [("kind", 2)]) (N := ["self", "kinds", "kind", "other"]) (sc := defScope s_Suits_mates) (by decide +kernel)) (fun _ _ _ _ _ => (dg_name (i := 2) nd rfl (.inl rfl))) (fun _ _ _ _ _ => (dts_one (dt_tr (do_e (de_callB (cr_any rfl) sem_any (by rfl) z_any (by decide +kernel) (da_cons (do_e (de_lcF rfl nd (dic_of (di_e (de_ix (hu1 hr) (do_e (de_attr cl_Suits na_Suits_its_mates (do_var (pv 0)))) (do_var (pv 2))))) (blkOk_in (own := [("other", 3)]) (N := ["self", "kinds", "kind", "other"]) (by decide +kernel)) (fun _ _ _ _ _ => (dg_name (i := 3) nd rfl (.inl rfl))) (fun _ _ _ _ _ => dts_nil) (fun _ _ _ _ _ => (de_cmp (op_inA (hu65 hr)) sem_in (do_var (pv 3)) (do_var (pv 1)) (by rfl))))) da_nil)))))) (fun _ _ _ _ _ => (de_var (pv 2)))))), fun as Q h => ?_⟩)
  case len => exact len_Suits_mates h
  · obtain ⟨names, pairs, ks, rfl, hR, hz, h⟩ := h
    have hle := hR.le
    simp only [List.length_cons, List.length_nil, Nat.reduceAdd, Nat.reduceSub, List.replicate_succ, List.replicate_zero, List.cons_append, List.nil_append]
    simp_arith [SuitsD, look_kinds, look_mates]
    refine lcL_pure D.str D.str (fun x => (matesOf names pairs x).any fun y => decide (y ∈ ks)) (by rw [length_sortS]; omega) ?_ ?_
    · intro x hx N acc hacc h1 h2
      have hxn := mem_sortS.mp hx
      have hml := matesOf_len (names := names) (pairs := pairs) x
      simp_arith [look_mates, kGet_mates hR.nd hxn]
      refine lcL_pure D.str (fun y => D.bl (decide (y ∈ ks))) (fun _ => true) (by omega) ?_ ?_
      · intro y hy N acc hacc h3 _
        simp_arith
        refine gIn_strs ?_
        simp_arith
        exact ⟨lt_size hacc, h3 rfl⟩
      · rw [List.filter_eq_self.mpr fun _ _ => rfl]
        simp_arith [gAny]
        refine ⟨(matesOf names pairs x).map fun y => decide (y ∈ ks), by rw [List.map_map]; rfl, ?_⟩
        have e : ((matesOf names pairs x).map fun y => decide (y ∈ ks)).any id = (matesOf names pairs x).any fun y => decide (y ∈ ks) := by rw [List.any_map]; rfl
        cases e2 : (matesOf names pairs x).any fun y => decide (y ∈ ks) with
        | true =>
          rw [if_pos (e.trans e2)]
          exact ⟨lt_size hacc, h1 e2⟩
        | false =>
          rw [if_neg (by rw [e.trans e2]; decide)]
          exact h2 e2
    · simp_arith
      exact h
def sp_Suits_pairs (C_Suits : Addr) : SpD := fun as Q => ∃ (names : List Str) (pairs : List (Str × Str)), as = [.sh (SuitsD C_Suits names pairs)] ∧ Q (.fr (.l ((sortP (pairs.map inOrd)).map PairD))) [.un]
theorem len_Suits_pairs {C : Addr} {as : SL} {Q : Rv → SL → Prop} (h : sp_Suits_pairs C as Q) : as.length = 1 := by
  obtain ⟨_, _, rfl, _⟩ := h
  rfl
theorem ok_Suits_pairs {f : Addr} {fd : FuncData} (Fn : Fun K "pairs" "Suits.pairs" s_Suits_pairs f fd) {C_Suits : Addr} (z_list : mg "list" = none) (cl_Suits : Cls K C_Suits) (na_Suits_its_pairs : NoAttr K C_Suits "its_pairs") : FnG P w K mg base CX0 1 f fd ["self"] (lift K (sp_Suits_pairs C_Suits)) := by
  have nd := sc_Suits_pairs.nd
  refine fnD Fn sc_Suits_pairs (fun as Q h => ?len) (fun cdv A outer s H hgd hr => ⟨_, _,
    (dss_one (ds_ret (de_callTy call_list_of sem_list (by rfl) z_list (by decide +kernel) (da_cons (do_e (de_attr cl_Suits na_Suits_its_pairs (do_var (pv 0)))) da_nil)))), fun as Q h => ?_⟩)
  case len => exact len_Suits_pairs h
  · obtain ⟨names, pairs, rfl, h⟩ := h
    simp only [List.length_cons, List.length_nil, Nat.reduceAdd, Nat.reduceSub, List.replicate_succ, List.replicate_zero, List.cons_append, List.nil_append]
    simp_arith [SuitsD, look_pairs]
    exact h
/-! ### the kinds that nobody suits -/
def lonelyOf (names : List Str) (pairs : List (Str × Str)) : List Str := (sortS names).filter fun x => decide (matesOf names pairs x = [])
def sp_Suits_lonely (C_Suits : Addr) : SpD := fun as Q => ∃ (names : List Str) (pairs : List (Str × Str)), as = [.sh (SuitsD C_Suits names pairs)] ∧ Rel names pairs ∧ Q (.fr (.l ((lonelyOf names pairs).map D.str))) [.un]
theorem len_Suits_lonely {C : Addr} {as : SL} {Q : Rv → SL → Prop} (h : sp_Suits_lonely C as Q) : as.length = 1 := by
  obtain ⟨_, _, rfl, _⟩ := h
  rfl
theorem ok_Suits_lonely {f : Addr} {fd : FuncData} (Fn : Fun K "lonely" "Suits.lonely" s_Suits_lonely f fd) {C_Suits : Addr} (cl_Suits : Cls K C_Suits) (na_Suits_its_kinds : NoAttr K C_Suits "its_kinds") (na_Suits_its_mates : NoAttr K C_Suits "its_mates") : FnG P w K mg base CX0 1 f fd ["self"] (lift K (sp_Suits_lonely C_Suits)) := by
  have nd := sc_Suits_lonely.nd
  refine fnD Fn sc_Suits_lonely (fun as Q h => ?len) (fun cdv A outer s H hgd hr => ⟨_, _,
    (dss_one (ds_ret (de_lcF rfl nd (dic_of (di_e (de_attr cl_Suits na_Suits_its_kinds (do_var (pv 0))))) (blkOk_by (own := [("kind", 1)]) (N := ["self", "kind"]) (sc := defScope s_Suits_lonely) (by decide +kernel)) (fun _ _ _ _ _ => (dg_name (i := 1) nd rfl (.inl rfl))) (fun _ _ _ _ _ => (dts_one (dt_cmp (op_eqA (hu64 hr)) sem_eq (do_e (de_ix (hu1 hr) (do_e (de_attr cl_Suits na_Suits_its_mates (do_var (pv 0)))) (do_var (pv 1)))) (do_e (de_lst dv_nil)) (nomark _)))) (fun _ _ _ _ _ => (de_var (pv 1)))))), fun as Q h => ?_⟩)
  case len => exact len_Suits_lonely h
  · obtain ⟨names, pairs, rfl, hR, h⟩ := h
    have hle := hR.le
    simp only [List.length_cons, List.length_nil, Nat.reduceAdd, Nat.reduceSub, List.replicate_succ, List.replicate_zero, List.cons_append, List.nil_append]
    simp_arith [SuitsD, look_kinds, look_mates]
    refine lcL_pure D.str D.str (fun x => decide (matesOf names pairs x = [])) (by rw [length_sortS]; omega) ?_ ?_
    · intro x hx N acc hacc h1 h2
      simp_arith [look_mates, kGet_mates hR.nd (mem_sortS.mp hx)]
      refine ⟨le_size (by decide), ?_⟩
      by_cases q : matesOf names pairs x = []
      · rw [if_pos q]
        exact ⟨lt_size hacc, h1 (decide_eq_true q)⟩
      · rw [if_neg q]
        exact h2 (decide_eq_false q)
    · simp_arith
      exact h
def sp_Suits_kinds (C_Suits : Addr) : SpD := fun as Q => ∃ (names : List Str) (pairs : List (Str × Str)), as = [.sh (SuitsD C_Suits names pairs)] ∧ Q (.fr (.l ((sortS names).map D.str))) [.un]
theorem len_Suits_kinds {C : Addr} {as : SL} {Q : Rv → SL → Prop} (h : sp_Suits_kinds C as Q) : as.length = 1 := by
  obtain ⟨_, _, rfl, _⟩ := h
  rfl
theorem ok_Suits_kinds {f : Addr} {fd : FuncData} (Fn : Fun K "kinds" "Suits.kinds" s_Suits_kinds f fd) {C_Suits : Addr} (z_list : mg "list" = none) (cl_Suits : Cls K C_Suits) (na_Suits_its_kinds : NoAttr K C_Suits "its_kinds") : FnG P w K mg base CX0 1 f fd ["self"] (lift K (sp_Suits_kinds C_Suits)) := by
  have nd := sc_Suits_kinds.nd
  refine fnD Fn sc_Suits_kinds (fun as Q h => ?len) (fun cdv A outer s H hgd hr => ⟨_, _,
    (dss_one (ds_ret (de_callTy call_list_of sem_list (by rfl) z_list (by decide +kernel) (da_cons (do_e (de_attr cl_Suits na_Suits_its_kinds (do_var (pv 0)))) da_nil)))), fun as Q h => ?_⟩)
  case len => exact len_Suits_kinds h
  · obtain ⟨names, pairs, rfl, h⟩ := h
    simp only [List.length_cons, List.length_nil, Nat.reduceAdd, Nat.reduceSub, List.replicate_succ, List.replicate_zero, List.cons_append, List.nil_append]
    simp_arith [SuitsD, look_kinds]
    exact h
def sp__law_fit : SpD := fun as Q => ∃ (names : List Str) (pairs : List (Str × Str)) (x y : Str), as = [.sh (.dct (Plan names pairs)), .sh (.str x), .sh (.str y)] ∧ Q (.v (.bl (decide ((x, y) ∈ pairs ∨ (y, x) ∈ pairs)))) [.un, .un, .un]
theorem len__law_fit {as : SL} {Q : Rv → SL → Prop} (h : sp__law_fit as Q) : as.length = 3 := by
  obtain ⟨_, _, _, _, rfl, _⟩ := h
  rfl
theorem ok__law_fit {f : Addr} {fd : FuncData} (Fn : Fun K "_law_fit" "_law_fit" s__law_fit f fd)  : FnG P w K mg base CX0 1 f fd ["_law_plan_here", "_law_one", "_law_other"] (lift K sp__law_fit) := by
  have nd := sc__law_fit.nd
  refine fnD Fn sc__law_fit (fun as Q h => ?len) (fun cdv A outer s H hgd hr => ⟨_, _,
    (dss_one (ds_ret (de_or (de_cmp (op_inA (hu65 hr)) sem_in (do_e (de_tup (dv_cons (de_var (pv 1)) (dv_cons (de_var (pv 2)) dv_nil)))) (do_e (de_ix (hu1 hr) (do_var (pv 0)) (do_e de_str))) (by rfl)) (de_one (de_cmp (op_inA (hu65 hr)) sem_in (do_e (de_tup (dv_cons (de_var (pv 2)) (dv_cons (de_var (pv 1)) dv_nil)))) (do_e (de_ix (hu1 hr) (do_var (pv 0)) (do_e de_str))) (by rfl)))))), fun as Q h => ?_⟩)
  case len => exact len__law_fit h
  · obtain ⟨names, pairs, x, y, rfl, h⟩ := h
    simp_arith [kGet_pairs]
    refine ⟨by decide, gIn_pair _ _ _ _ _ ?_⟩
    by_cases h1 : (x, y) ∈ pairs
    · rw [decide_eq_true h1]
      rw [decide_eq_true (.inl h1)] at h
      exact h
    · rw [decide_eq_false h1]
      simp_arith [kGet_pairs]
      refine ⟨by decide, gIn_pair _ _ _ _ _ ?_⟩
      rw [decide_eq_decide.mpr (show ((x, y) ∈ pairs ∨ (y, x) ∈ pairs) ↔ (y, x) ∈ pairs from ⟨fun z => z.resolve_left h1, .inr⟩)] at h
      exact h
def sp__law_mates : SpD := fun as Q => ∃ (names : List Str) (pairs : List (Str × Str)) (ks : List Str), as = [.sh (.dct (Plan names pairs)), .sh (.lst (ks.map D.str))] ∧ Rel names pairs ∧ ks.length ≤ 1000 ∧ Q (.fr (.l ((matesAll names pairs ks).map D.str))) [.un, .un]
theorem len__law_mates {as : SL} {Q : Rv → SL → Prop} (h : sp__law_mates as Q) : as.length = 2 := by
  obtain ⟨_, _, _, rfl, _⟩ := h
  rfl
theorem ok__law_mates {f : Addr} {fd : FuncData} (Fn : Fun K "_law_mates" "_law_mates" s__law_mates f fd) (z_sorted : mg "sorted" = none) (z_any : mg "any" = none) {a__law_fit : Addr} {d__law_fit : FuncData} (f__law_fit : Cal P w K mg base 1 "_law_fit" a__law_fit d__law_fit ["_law_plan_here", "_law_one", "_law_other"] sp__law_fit) : FnG P w K mg base CX0 2 f fd ["_law_plan_here", "_law_kinds"] (lift K sp__law_mates) := by
  have nd := sc__law_mates.nd
  refine fnD Fn sc__law_mates (fun as Q h => ?len) (fun cdv A outer s H hgd hr => ⟨_, _,
    (dss_one (ds_ret (de_callB (call_sortedD (hu64 hr)) sem_sortedD (by rfl) z_sorted (by decide +kernel) (da_cons (do_e (de_lcF rfl nd (dic_of (di_e (de_ix (hu1 hr) (do_var (pv 0)) (do_e de_str)))) (blkOk_by (own := [("_law_kind", 2)]) (N := ["_law_plan_here", "_law_kinds", "_law_kind", "_law_one"]) (sc := defScope s__law_mates) (by decide +kernel)) (fun _ _ _ _ _ => (dg_name (i := 2) nd rfl (.inr rfl))) (fun _ _ _ _ _ => (dts_one (dt_tr (do_e (de_callB (cr_any rfl) sem_any (by rfl) z_any (by decide +kernel) (da_cons (do_e (de_lcF rfl nd (dic_var (pv 1)) (blkOk_in (own := [("_law_one", 3)]) (N := ["_law_plan_here", "_law_kinds", "_law_kind", "_law_one"]) (by decide +kernel)) (fun _ _ _ _ _ => (dg_name (i := 3) nd rfl (.inl rfl))) (fun _ _ _ _ _ => dts_nil) (fun _ _ _ _ _ => (de_callP f__law_fit.ok hgd (hr.mono (by decide)) (by rfl) f__law_fit.g f__law_fit.kp f__law_fit.b pass0 (da_cons (do_var (pv 0)) (da_cons (do_var (pv 2)) (da_cons (do_var (pv 3)) da_nil))))))) da_nil)))))) (fun _ _ _ _ _ => (de_var (pv 2))))) da_nil)))), fun as Q h => ?_⟩)
  case len => exact len__law_mates h
  · obtain ⟨names, pairs, ks, rfl, hR, hz, h⟩ := h
    have hle := hR.le
    simp only [List.length_cons, List.length_nil, Nat.reduceAdd, Nat.reduceSub, List.replicate_succ, List.replicate_zero, List.cons_append, List.nil_append]
    simp_arith [kGet_kinds]
    refine lcL_pure D.str D.str (fun x => ks.any fun y => fits pairs x y) (by omega) ?_ ?_
    · intro x hx N acc hacc h1 h2
      simp_arith
      refine lcL_pure D.str (fun y => D.bl (fits pairs x y)) (fun _ => true) (by omega) ?_ ?_
      · intro y hy N acc hacc h3 _
        simp_arith
        refine ⟨names, pairs, x, y, rfl, ?_⟩
        simp_arith
        exact ⟨lt_size hacc, h3 rfl⟩
      · rw [List.filter_eq_self.mpr fun _ _ => rfl]
        simp_arith [gAny]
        refine ⟨ks.map fun y => fits pairs x y, by rw [List.map_map]; rfl, ?_⟩
        have e : (ks.map fun y => fits pairs x y).any id = ks.any fun y => fits pairs x y := by rw [List.any_map]; rfl
        cases e2 : ks.any fun y => fits pairs x y with
        | true =>
          rw [if_pos (e.trans e2)]
          exact ⟨lt_size hacc, h1 e2⟩
        | false =>
          rw [if_neg (by rw [e.trans e2]; decide)]
          exact h2 e2
    · simp_arith
      rw [matesS_eq hR]
      exact h
def sp__law_alike : SpD := fun as Q => ∃ d : D, as = [.sh d, .sh d] ∧ FineE d ∧ Q (.v (.bl true)) [.un, .un]
theorem len__law_alike {as : SL} {Q : Rv → SL → Prop} (h : sp__law_alike as Q) : as.length = 2 := by
  obtain ⟨_, rfl, _⟩ := h
  rfl
theorem ok__law_alike {f : Addr} {fd : FuncData} (Fn : Fun K "_law_alike" "_law_alike" s__law_alike f fd) (z_repr : mg "repr" = none) : FnG P w K mg base CX0 1 f fd ["_law_found", "_law_due"] (lift K sp__law_alike) := by
  have nd := sc__law_alike.nd
  refine fnD Fn sc__law_alike (fun as Q h => ?len) (fun cdv A outer s H hgd hr => ⟨_, _,
    (dss_one (ds_ret (de_and (de_cmp (op_eqA (hu64 hr)) sem_eq (do_var (pv 0)) (do_var (pv 1)) (nomark _)) (de_one (de_cmp (op_eqA (hu64 hr)) sem_eq (do_e (de_callB (call_reprE hgd (hu64 hr)) sem_reprE (by rfl) z_repr (by decide +kernel) (da_cons (do_var (pv 0)) da_nil))) (do_e (de_callB (call_reprE hgd (hu64 hr)) sem_reprE (by rfl) z_repr (by decide +kernel) (da_cons (do_var (pv 1)) da_nil))) (nomark _)))))), fun as Q h => ?_⟩)
  case len => exact len__law_alike h
  · obtain ⟨d, rfl, hf, h⟩ := h
    simp_arith
    refine gEq_self hf.1 ?_
    simp_arith
    refine gReprE_of hf ?_
    simp_arith
    refine gReprE_of hf ?_
    simp_arith
    exact gEq_rep h
/-! ### what a relation shows -/
def shownS (names : List Str) (pairs : List (Str × Str)) : Str := ((((Str.empty ++ "Suits(") ++ (D.lst ((sortS names).map D.str)).py.shown) ++ ", ") ++ (D.lst ((sortP (pairs.map inOrd)).map PairD)).py.shown) ++ ")"
theorem kinds_good {names : List Str} {pairs : List (Str × Str)} (h : Rel names pairs) : Good 1 700 (.lst ((sortS names).map D.str)) :=
  (good_strs (n := 8) (m := 8) (by rw [length_sortS]; exact h.le) fun x hx => (h.kd x (mem_sortS.mp hx)).2.1).mono (by decide) (by decide)
theorem mem_inOrd {names : List Str} {pairs : List (Str × Str)} (h : Rel names pairs) {p : Str × Str} (hp : p ∈ sortP (pairs.map inOrd)) : p.1 ∈ names ∧ p.2 ∈ names := by
  rw [(sortP_perm _).mem_iff] at hp
  obtain ⟨q, hq, rfl⟩ := List.mem_map.mp hp
  have := h.mem q hq
  rcases inOrd_or q with e | e <;> rw [e]
  · exact this
  · exact this.symm
theorem pairs_good {names : List Str} {pairs : List (Str × Str)} (h : Rel names pairs) : Good 2 7000 (.lst ((sortP (pairs.map inOrd)).map PairD)) := by
  refine (Good.lst (f := PairD) (k := 1) (w := 172) (n := 36) (by rw [(sortP_perm _).length_eq, List.length_map]; exact h.pl) fun p hp => ?_).mono (by decide) (by decide)
  have := mem_inOrd h hp
  exact (good_pair (good_str (n := 8) (h.kd _ this.1).2.1) (good_str (n := 8) (h.kd _ this.2).2.1)).mono (by decide) (by decide)
theorem isKind_ok {x : Str} (h : IsKind x) : PyData.strOk x = true := by
  rw [strOk_iff]
  intro c hc
  have := h.2.2 c hc
  omega
theorem kinds_oks {names : List Str} {pairs : List (Str × Str)} (h : Rel names pairs) : (D.lst ((sortS names).map D.str)).oks = true := by
  rw [D.oks, okss_all, List.all_eq_true]
  intro d hd
  obtain ⟨x, hx, rfl⟩ := List.mem_map.mp hd
  rw [D.oks]
  exact isKind_ok (h.kd x (mem_sortS.mp hx))
theorem pairs_oks {names : List Str} {pairs : List (Str × Str)} (h : Rel names pairs) : (D.lst ((sortP (pairs.map inOrd)).map PairD)).oks = true := by
  rw [D.oks, okss_all, List.all_eq_true]
  intro d hd
  obtain ⟨p, hp, rfl⟩ := List.mem_map.mp hd
  have := mem_inOrd h hp
  rw [PairD, D.oks, D.okss, D.okss, D.okss, D.oks, D.oks, isKind_ok (h.kd _ this.1), isKind_ok (h.kd _ this.2)]
  rfl
theorem shownS_le {names : List Str} {pairs : List (Str × Str)} (h : Rel names pairs) : (shownS names pairs).length ≤ 8000 := by
  have h1 := (kinds_good h).shown_le (kinds_oks h) (by decide)
  have h2 := (pairs_good h).shown_le (pairs_oks h) (by decide)
  unfold shownS
  rw [strLen_append, strLen_append, strLen_append, strLen_append, strLen_append]
  have e0 : Str.empty.length = 0 := rfl
  have e1 : (Str.ofString "Suits(").length = 6 := rfl
  have e2 : (Str.ofString ", ").length = 2 := rfl
  have e3 : (Str.ofString ")").length = 1 := rfl
  omega
/-! ### lists that a pile holds, one by one -/
def PileIs (hs : Pile) (ps : List Addr) (S : List (List Str)) : Prop := ps.length = S.length ∧ ∀ (j : Nat) (p : Addr) (s : List Str), ps[j]? = some p → S[j]? = some s → hs.lookup p = some (.l (s.map D.str))
theorem PileIs.nil (hs : Pile) : PileIs hs [] [] := ⟨rfl, fun j p s h => by cases h⟩
theorem PileIs.up {hs : Pile} {ps : List Addr} {S : List (List Str)} (h : PileIs hs ps S) {q : Addr} {c : Cn} (hq : q ∉ hs.map (·.1)) : PileIs ((q, c) :: hs) ps S := by
  refine ⟨h.1, fun j p s h1 h2 => ?_⟩
  have hl := h.2 j p s h1 h2
  have hp : p ≠ q := fun e => by
    subst e
    exact hq (List.mem_map.mpr ⟨_, lookup_mem hl, rfl⟩)
  rw [List.lookup_cons]
  rw [show (p == q) = false by simpa using hp]
  exact hl
theorem PileIs.snoc {hs : Pile} {ps : List Addr} {S : List (List Str)} (h : PileIs hs ps S) {q : Addr} {s : List Str} (hq : hs.lookup q = some (.l (s.map D.str))) : PileIs hs (ps ++ [q]) (S ++ [s]) := by
  refine ⟨by rw [List.length_append, List.length_append, h.1]; rfl, fun j p t h1 h2 => ?_⟩
  by_cases c : j < ps.length
  · rw [List.getElem?_append_left c] at h1
    rw [List.getElem?_append_left (by rw [← h.1]; exact c)] at h2
    exact h.2 j p t h1 h2
  · rw [List.getElem?_append_right (by omega)] at h1
    rw [List.getElem?_append_right (by rw [← h.1]; omega), ← h.1] at h2
    have : j - ps.length = 0 := by
      by_cases z : j - ps.length = 0
      · exact z
      · rw [List.getElem?_eq_none (by simp; omega)] at h1; cases h1
    rw [this] at h1 h2
    cases h1
    cases h2
    exact hq
theorem PileIs.at {hs : Pile} {ps : List Addr} {S : List (List Str)} (h : PileIs hs ps S) {j : Nat} {s : List Str} (e : S[j]? = some s) : ∃ p, ps[j]? = some p ∧ hs.lookup p = some (.l (s.map D.str)) := by
  have hj : j < ps.length := by rw [h.1]; exact (List.getElem?_eq_some_iff.mp e).1
  exact ⟨_, List.getElem?_eq_getElem hj, h.2 j _ s (List.getElem?_eq_getElem hj) e⟩
theorem pileIs_ress : ∀ {hs : Pile} {ps : List Addr} {S : List (List Str)}, PileIs hs ps S → D.ress hs (ps.map D.at) = S.map setD
  | hs, [], [], _ => by rw [List.map_nil, D.ress]; rfl
  | hs, p :: ps, s :: S, h => by
    have h0 := h.2 0 p s rfl rfl
    have ht : PileIs hs ps S := ⟨by have := h.1; simpa using this, fun j q t h1 h2 => h.2 (j + 1) q t (by rw [List.getElem?_cons_succ]; exact h1) (by rw [List.getElem?_cons_succ]; exact h2)⟩
    rw [List.map_cons, D.ress, pileIs_ress ht, D.res, h0]
    rfl
  | _, [], _ :: _, h => by have := h.1; cases this
  | _, _ :: _, [], h => by have := h.1; cases this
def sp__law_elder_right (C_Suits : Addr) : SpD := fun as Q => ∃ (names : List Str) (pairs : List (Str × Str)), as = [.sh (.dct (Plan names pairs)), .sh (SuitsD C_Suits names pairs)] ∧ Rel names pairs ∧ Q (.v (.bl true)) [.un, .un]
theorem len__law_elder_right {C : Addr} {as : SL} {Q : Rv → SL → Prop} (h : sp__law_elder_right C as Q) : as.length = 2 := by
  obtain ⟨_, _, rfl, _⟩ := h
  rfl
theorem ok__law_elder_right {f : Addr} {fd : FuncData} (Fn : Fun K "_law_elder_right" "_law_elder_right" s__law_elder_right f fd) {C_Suits : Addr} (cl_Suits : Cls K C_Suits) {a_Suits_mates : Addr} {d_Suits_mates : FuncData} (f_Suits_mates : CalM P w K mg base 1 a_Suits_mates d_Suits_mates ["self", "kinds"] (sp_Suits_mates C_Suits)) {a_Suits_pairs : Addr} {d_Suits_pairs : FuncData} (f_Suits_pairs : CalM P w K mg base 1 a_Suits_pairs d_Suits_pairs ["self"] (sp_Suits_pairs C_Suits)) {a_Suits_lonely : Addr} {d_Suits_lonely : FuncData} (f_Suits_lonely : CalM P w K mg base 1 a_Suits_lonely d_Suits_lonely ["self"] (sp_Suits_lonely C_Suits)) {a_Suits_kinds : Addr} {d_Suits_kinds : FuncData} (f_Suits_kinds : CalM P w K mg base 1 a_Suits_kinds d_Suits_kinds ["self"] (sp_Suits_kinds C_Suits)) {a__law_mates : Addr} {d__law_mates : FuncData} (f__law_mates : Cal P w K mg base 2 "_law_mates" a__law_mates d__law_mates ["_law_plan_here", "_law_kinds"] sp__law_mates) {a__law_alike : Addr} {d__law_alike : FuncData} (f__law_alike : Cal P w K mg base 1 "_law_alike" a__law_alike d__law_alike ["_law_found", "_law_due"] sp__law_alike) (me_Suits_mates : Meth K C_Suits "mates" a_Suits_mates) (me_Suits_pairs : Meth K C_Suits "pairs" a_Suits_pairs) (me_Suits_lonely : Meth K C_Suits "lonely" a_Suits_lonely) (me_Suits_kinds : Meth K C_Suits "kinds" a_Suits_kinds) : FnG P w K mg base CX0 3 f fd ["_law_plan_here", "_law_suits_here"] (lift K (sp__law_elder_right C_Suits)) := by
  have nd := sc__law_elder_right.nd
  refine fnD Fn sc__law_elder_right (fun as Q h => ?len) (fun cdv A outer s H hgd hr => ⟨_, _,
    (dss_pl0 7 (dss_cons (ds_setLcF (i := 2) rfl nd rfl rfl (sw_true rfl rfl rfl (by decide +kernel)) (dic_of (di_e (de_ix (hu1 hr) (do_varP 7 (pv 0)) (do_pl 7 de_str)))) (blkOk_by (own := [("_law_kind", 6)]) (N := ["_law_plan_here", "_law_suits_here", "_law_found", "_law_lists", "_law_due", "_law_one", "_law_kind", "0pile"]) (sc := defScope s__law_elder_right) (by decide +kernel)) (fun _ _ _ _ _ => (dg_name (i := 6) nd rfl (.inl rfl))) (fun _ _ _ _ _ => dts_nil) (fun _ _ _ _ _ => (de_keep 7 (de_methV (de_var (pv 1)) cl_Suits me_Suits_mates f_Suits_mates.ok hgd (hr.mono (by decide)) f_Suits_mates.b pass0 (dag_val (de_lst (dv_cons (de_var (pv 6)) dv_nil)) dag_nil)))))
      (dss_cons (ds_set (i := 3) nd rfl (.inl rfl) (de_lst (dv_cons (de_keep 7 (de_methV0 (de_var (pv 1)) cl_Suits me_Suits_kinds f_Suits_kinds.ok hgd (hr.mono (by decide)) f_Suits_kinds.b pass0)) (dv_cons (de_keep 7 (de_methV0 (de_var (pv 1)) cl_Suits me_Suits_lonely f_Suits_lonely.ok hgd (hr.mono (by decide)) f_Suits_lonely.b pass0)) (dv_cons (de_keep 7 (de_methV0 (de_var (pv 1)) cl_Suits me_Suits_pairs f_Suits_pairs.ok hgd (hr.mono (by decide)) f_Suits_pairs.b pass0)) dv_nil)))))
      (dss_cons (ds_setLcF (i := 4) rfl nd rfl rfl (sw_true rfl rfl rfl (by decide +kernel)) (dic_of (di_e (de_ix (hu1 hr) (do_varP 7 (pv 0)) (do_pl 7 de_str)))) (blkOk_by (own := [("_law_kind", 6)]) (N := ["_law_plan_here", "_law_suits_here", "_law_found", "_law_lists", "_law_due", "_law_one", "_law_kind", "0pile"]) (sc := defScope s__law_elder_right) (by decide +kernel)) (fun _ _ _ _ _ => (dg_name (i := 6) nd rfl (.inl rfl))) (fun _ _ _ _ _ => dts_nil) (fun _ _ _ _ _ => (de_call f__law_mates.ok hgd (hr.mono (by decide)) (by rfl) f__law_mates.g f__law_mates.kp f__law_mates.b pass0 (dag_val (de_var (pv 0)) (dag_val (de_lst (dv_cons (de_var (pv 6)) dv_nil)) dag_nil)))))
      (dss_cons (ds_if (dw_pt (dw_or (dt_not (dt_tr (do_pl 7 (de_callW 7 f__law_alike.ok hgd (hr.mono (by decide)) (by rfl) f__law_alike.g f__law_alike.kp f__law_alike.b pass0 (da_cons (do_varP 7 (pv 2)) (da_cons (do_varP 7 (pv 4)) da_nil)))))) (dw_or1 (dt_not (dt_tr (do_pl 7 (de_callV 7 f__law_alike.ok hgd (hr.mono (by decide)) (by rfl) f__law_alike.g f__law_alike.kp f__law_alike.b pass0 (da_cons (do_pl 7 (de_methN 1 7 (do_varP 7 (pv 1)) cl_Suits me_Suits_mates f_Suits_mates.ok hgd (hr.mono (by decide)) f_Suits_mates.b pass0 (da_cons (do_pl 7 (de_ix (hu1 hr) (do_varP 7 (pv 2)) (do_pl 7 de_int))) da_nil))) (da_cons (do_pl 7 (de_call f__law_mates.ok hgd (hr.mono (by decide)) (by rfl) f__law_mates.g f__law_mates.kp f__law_mates.b pass0 (dag_val (de_var (pv 0)) (dag_val (de_ix (hu1 hr) (do_varP 7 (pv 4)) (do_pl 7 de_int)) dag_nil)))) da_nil))))))))) (dss_one (ds_ret de_bl)) dss_nil)
      (dss_cons (ds_for PassesOwn.never rfl (di_e (de_op op_addA sem_addA (do_varP 7 (pv 2)) (do_varP 7 (pv 3)))) (dg_name (i := 5) nd rfl (.inl rfl))
      (dss_cons (ds_expr (de_appendE 7 (de_var (pv 5)) (dv_cons de_str dv_nil)))
      (dss_one (ds_expr (de_reverseE0 7 (de_var (pv 5)))))))
      (dss_one (ds_ret (de_callW 7 f__law_alike.ok hgd (hr.mono (by decide)) (by rfl) f__law_alike.g f__law_alike.kp f__law_alike.b pass0 (da_cons (do_pl 7 (de_lcF rfl nd (dic_of (di_e (de_ix (hu1 hr) (do_varP 7 (pv 0)) (do_pl 7 de_str)))) (blkOk_by (own := [("_law_kind", 6)]) (N := ["_law_plan_here", "_law_suits_here", "_law_found", "_law_lists", "_law_due", "_law_one", "_law_kind", "0pile"]) (sc := defScope s__law_elder_right) (by decide +kernel)) (fun _ _ _ _ _ => (dg_name (i := 6) nd rfl (.inl rfl))) (fun _ _ _ _ _ => dts_nil) (fun _ _ _ _ _ => (de_keep 7 (de_methV (de_var (pv 1)) cl_Suits me_Suits_mates f_Suits_mates.ok hgd (hr.mono (by decide)) f_Suits_mates.b pass0 (dag_val (de_lst (dv_cons (de_var (pv 6)) dv_nil)) dag_nil)))))) (da_cons (do_varP 7 (pv 4)) da_nil))))))))))), fun as Q h => ?_⟩)
  case len => exact len__law_elder_right h
  · obtain ⟨names, pairs, rfl, hR, h⟩ := h
    simp only [List.length_cons, List.length_nil, Nat.reduceAdd, Nat.reduceSub, List.replicate_succ, List.replicate_zero, List.cons_append, List.nil_append]
    refine ⟨[], rfl, ?_⟩
    simp only [List.set_cons_succ, List.set_cons_zero]
    have hle := hR.le
    refine sSeq_cut (fun ρ' => ∃ (hs : Pile) (ps : List Addr), PileIs hs ps (names.map fun x => matesAll names pairs [x]) ∧ ∃ (s_law_lists s_law_due s_law_one s_law_kind : Sl), ρ' = [.sh (.dct (Plan names pairs)), .sh (SuitsD C_Suits names pairs), .ow (.l (ps.map D.at)), s_law_lists, s_law_due, s_law_one, s_law_kind, .pl hs]) (fun N hN => ?_) ?_
    · simp_arith [kGet_kinds]
      refine lcL_on D.str (fun pre r acc ρ => ∃ (hs : Pile) (ps : List Addr), acc = ps.map D.at ∧ PileIs hs ps (pre.map fun x => matesAll names pairs [x]) ∧ ∃ (s_law_found s_law_lists s_law_due s_law_one s_law_kind : Sl), ρ = [.sh (.dct (Plan names pairs)), .sh (SuitsD C_Suits names pairs), s_law_found, s_law_lists, s_law_due, s_law_one, s_law_kind, .pl hs]) ⟨[], [], rfl, PileIs.nil _, _, _, _, _, _, rfl⟩ ?_ ?_
      · rintro acc ρ ⟨hs, ps, rfl, hp, s_law_found, s_law_lists, s_law_due, s_law_one, s_law_kind, rfl⟩
        exact hN _ ⟨hs, ps, hp, _, _, _, _, rfl⟩
      · rintro pre x r acc ρ N2 hl hN2 ⟨hs, ps, rfl, hp, s_law_found, s_law_lists, s_law_due, s_law_one, s_law_kind, rfl⟩
        have hpl : ps.length ≤ 8 := by
          have h1 := hp.1
          have h2 := congrArg List.length hl
          simp only [List.length_map, List.length_append, List.length_cons] at h1 h2
          omega
        simp_arith
        refine ⟨⟨rfl, rfl⟩, le_size (by decide), names, pairs, [x], rfl, hR, by simp, ?_⟩
        simp_arith
        refine ⟨hs, List.Sublist.refl _, fun q hq => ⟨lt_size (by rw [List.length_map]; omega), hN2 _ _ ⟨(q, _) :: hs, ps ++ [q], by rw [List.map_append]; rfl, ?_, _, _, _, _, _, rfl⟩⟩⟩
        rw [List.map_append]
        exact (hp.up hq).snoc (by rw [List.lookup_cons, beq_self_eq_true])
    rintro ρ' ⟨hs, ps, hp, s_law_lists, s_law_due, s_law_one, s_law_kind, rfl⟩
    have hpl : ps.length ≤ 8 := by
      have h1 := hp.1
      rw [List.length_map] at h1
      omega
    refine sSeq_cut (fun ρ' => ∃ (hs : Pile) (p0 p1 p2 : Addr), PileIs hs ps (names.map fun x => matesAll names pairs [x]) ∧ (∀ q ∈ [p0, p1, p2], ∃ ds, hs.lookup q = some (.l ds) ∧ ds.length ≤ 100) ∧ ∃ (s_law_due s_law_one s_law_kind : Sl), ρ' = [.sh (.dct (Plan names pairs)), .sh (SuitsD C_Suits names pairs), .ow (.l (ps.map D.at)), .ow (.l [.at p0, .at p1, .at p2]), s_law_due, s_law_one, s_law_kind, .pl hs]) (fun N hN => ?_) ?_
    · obtain ⟨X2, hX2⟩ : ∃ X, vCons (dKeep 7 (dMethV C_Suits (Str.ofString "pairs") (sp_Suits_pairs C_Suits) (dVar 1) agNil)) vNil = X := ⟨_, rfl⟩
      rw [hX2]
      obtain ⟨X1, hX1⟩ : ∃ X, vCons (dKeep 7 (dMethV C_Suits (Str.ofString "lonely") (sp_Suits_lonely C_Suits) (dVar 1) agNil)) X2 = X := ⟨_, rfl⟩
      rw [hX1]
      simp_arith
      refine ⟨⟨rfl, rfl⟩, names, pairs, rfl, ?_⟩
      simp_arith
      refine ⟨hs, List.Sublist.refl _, fun p0 h0 => ?_⟩
      rw [← hX1]
      simp_arith
      refine ⟨⟨rfl, rfl⟩, names, pairs, rfl, hR, ?_⟩
      simp_arith
      refine ⟨_, List.Sublist.refl _, fun p1 h1 => ?_⟩
      rw [← hX2]
      simp_arith
      refine ⟨⟨rfl, rfl⟩, names, pairs, rfl, ?_⟩
      simp_arith
      refine ⟨_, List.Sublist.refl _, fun p2 h2 => ?_⟩
      have b1 : (p0 == p2) = false := beq_false_of_ne fun e => h2 (by simp [e])
      have b2 : (p0 == p1) = false := beq_false_of_ne fun e => h1 (by simp [e])
      have b3 : (p1 == p2) = false := beq_false_of_ne fun e => h2 (by simp [e])
      have hpl := hR.pl
      refine ⟨le_size (by decide), hN _ ⟨_, p0, p1, p2, ((hp.up h0).up h1).up h2, fun q hq => ?_, _, _, _, rfl⟩⟩
      simp only [List.mem_cons, List.not_mem_nil, or_false] at hq
      rcases hq with e | e | e
      all_goals rw [e]
      · exact ⟨(sortS names).map D.str, by simp only [List.lookup, b1, b2, beq_self_eq_true], by rw [List.length_map, length_sortS]; omega⟩
      · exact ⟨(lonelyOf names pairs).map D.str, by simp only [List.lookup, b3, beq_self_eq_true], by rw [List.length_map]; exact Nat.le_trans (List.length_filter_le _ _) (by rw [length_sortS]; omega)⟩
      · exact ⟨(sortP (pairs.map inOrd)).map PairD, by simp only [List.lookup, beq_self_eq_true], by rw [List.length_map, (sortP_perm _).length_eq, List.length_map]; omega⟩
    clear hp hs
    rintro ρ' ⟨hs, p0, p1, p2, hp, hq, s_law_due, s_law_one, s_law_kind, rfl⟩
    refine sSeq_cut (fun ρ' => ∃ (s_law_one s_law_kind : Sl), ρ' = [.sh (.dct (Plan names pairs)), .sh (SuitsD C_Suits names pairs), .ow (.l (ps.map D.at)), .ow (.l [.at p0, .at p1, .at p2]), .ow (.l (names.map fun x => D.lst ((matesAll names pairs [x]).map D.str))), s_law_one, s_law_kind, .pl hs]) (fun N hN => ?_) ?_
    · simp_arith [kGet_kinds]
      refine lcL_on D.str (fun pre r acc ρ => acc = (pre.map fun x => D.lst ((matesAll names pairs [x]).map D.str)) ∧ ∃ (s_law_due s_law_one s_law_kind : Sl), ρ = [.sh (.dct (Plan names pairs)), .sh (SuitsD C_Suits names pairs), .ow (.l (ps.map D.at)), .ow (.l [.at p0, .at p1, .at p2]), s_law_due, s_law_one, s_law_kind, .pl hs]) ⟨rfl, _, _, _, rfl⟩ ?_ ?_
      · rintro acc ρ ⟨rfl, s_law_due, s_law_one, s_law_kind, rfl⟩
        exact hN _ ⟨_, _, rfl⟩
      · rintro pre x r acc ρ N2 hl hN2 ⟨rfl, s_law_due, s_law_one, s_law_kind, rfl⟩
        have hp8 : pre.length ≤ 8 := by
          have h2 := congrArg List.length hl
          simp only [List.length_append, List.length_cons] at h2
          omega
        simp_arith
        refine ⟨le_size (by decide), names, pairs, [x], rfl, hR, by simp, ?_⟩
        simp_arith
        refine ⟨lt_size (by rw [List.length_map]; omega), hN2 _ _ ⟨by rw [List.map_append]; rfl, _, _, _, rfl⟩⟩
    rintro ρ' ⟨s_law_one, s_law_kind, rfl⟩
    have e0 : (names.map fun x => D.lst ((matesAll names pairs [x]).map D.str)) = (names.map fun x => matesAll names pairs [x]).map setD := by
      rw [List.map_map]
      rfl
    have e2 : ∀ hs : Pile, D.res hs (D.lst (names.map fun x => D.lst ((matesAll names pairs [x]).map D.str))) = D.lst (names.map fun x => D.lst ((matesAll names pairs [x]).map D.str)) := fun hs => res_clo _ (by
      rw [D.clo, clos_map]
      intro x
      rw [D.clo]
      exact clos_map clo_str _)
    have e1 : ∀ (hs : Pile) (ps : List Addr), PileIs hs ps (names.map fun x => matesAll names pairs [x]) → D.res hs (D.res hs (D.lst (ps.map D.at))) = D.lst (names.map fun x => D.lst ((matesAll names pairs [x]).map D.str)) := fun hs ps hp => by
      have : D.res hs (D.lst (ps.map D.at)) = D.lst (names.map fun x => D.lst ((matesAll names pairs [x]).map D.str)) := by
        rw [e0, D.res, pileIs_ress hp]
      rw [this, e2]
    have hfm : ∀ ks, FineE (.lst ((matesAll names pairs ks).map D.str)) := fun ks => (good_strs (n := 8) (m := 8) (Nat.le_trans (matesAll_len ks) hle) fun x hx => (hR.kd x (mem_sortS.mp (List.mem_filter.mp hx).1)).2.1).fine (by decide) (by decide)
    have hfine : FineE (.lst (names.map fun x => D.lst ((matesAll names pairs [x]).map D.str))) := by
      refine (Good.lstD (k := 2) (w := 2500) (n := 8) (by rw [List.length_map]; exact hle) fun d hd => ?_).fine (by decide) (by decide)
      obtain ⟨x, hx, rfl⟩ := List.mem_map.mp hd
      exact (good_strs (n := 8) (m := 8) (Nat.le_trans (matesAll_len _) hle) fun x hx => (hR.kd x (mem_sortS.mp (List.mem_filter.mp hx).1)).2.1).mono (by decide) (by decide)
    obtain ⟨k0, nr, hk0⟩ : ∃ k0 nr, names = k0 :: nr := by
      have := hR.ne
      cases names with
      | nil => simp at this
      | cons k0 nr => exact ⟨k0, nr, rfl⟩
    obtain ⟨p9, g1, g2⟩ := hp.at (j := 0) (s := matesAll names pairs [k0]) (by rw [hk0]; rfl)
    have a1 : atI (ps.map D.at) 0 = some (.at p9) := by
      obtain ⟨r, hr⟩ : ∃ r, ps = p9 :: r := by
        cases ps with
        | nil => cases g1
        | cons q r => cases g1; exact ⟨r, rfl⟩
      rw [hr]
      exact atI_0
    have a2 : atI (names.map fun x => D.lst ((matesAll names pairs [x]).map D.str)) 0 = some (D.lst ((matesAll names pairs [k0]).map D.str)) := by
      rw [hk0]
      exact atI_0
    have hml : (matesAll names pairs [k0]).length ≤ 1000 := Nat.le_trans (matesAll_len _) (by omega)
    obtain ⟨fs, hfs⟩ : ∃ fs, SuitsD C_Suits names pairs = .obj C_Suits fs := ⟨_, rfl⟩
    have hlk : fs.lookup (Str.ofString "mates") = none := by
      cases hfs
      rfl
    have hrs : ∀ hs, D.res hs (.obj C_Suits fs) = .obj C_Suits fs := fun hs => by
      rw [← hfs]
      exact res_suits
    refine sSeq_cut (fun ρ' => ∃ (s_law_one s_law_kind : Sl), ρ' = [.sh (.dct (Plan names pairs)), .sh (SuitsD C_Suits names pairs), .ow (.l (ps.map D.at)), .ow (.l [.at p0, .at p1, .at p2]), .ow (.l (names.map fun x => D.lst ((matesAll names pairs [x]).map D.str))), s_law_one, s_law_kind, .pl hs]) (fun N hN => ?_) ?_
    · refine sIf_go fun T hT hF => ?_
      simp_arith
      rw [e1 hs ps hp, e2, e2]
      refine ⟨_, rfl, hfine, ?_⟩
      simp_arith [a1, a2]
      rw [hfs]
      simp_arith [List.lookup_nil, g2, hrs, Cn.dat]
      rw [← hfs]
      refine ⟨hlk, names, pairs, _, rfl, hR, hml, flats_strs _, ?_⟩
      refine ⟨names, pairs, _, rfl, hR, hml, ?_⟩
      simp_arith
      refine ⟨_, rfl, hfm _, ?_⟩
      simp_arith
      exact hF _ (hN _ ⟨_, _, rfl⟩)
    rintro ρ' ⟨s_law_one, s_law_kind, rfl⟩
    refine sSeq_cut (fun ρ' => ∃ hs, ∃ (s_law_one s_law_kind : Sl), ρ' = [.sh (.dct (Plan names pairs)), .sh (SuitsD C_Suits names pairs), .ow (.l (ps.map D.at)), .ow (.l [.at p0, .at p1, .at p2]), .ow (.l (names.map fun x => D.lst ((matesAll names pairs [x]).map D.str))), s_law_one, s_law_kind, .pl hs]) (fun N hN => ?_) ?_
    · have ea : List.map D.at ps ++ [D.at p0, D.at p1, D.at p2] = (ps ++ [p0, p1, p2]).map D.at := by
        rw [List.map_append]
        rfl
      simp_arith
      rw [ea]
      have hap : (∀ q ∈ ps ++ [p0, p1, p2], ∃ ds, hs.lookup q = some (.l ds) ∧ ds.length ≤ 100) := fun q hm => by
        rcases List.mem_append.mp hm with hm | hm
        · obtain ⟨j, hj, e⟩ := List.getElem_of_mem hm
          have hj2 : j < (names.map fun x => matesAll names pairs [x]).length := by rw [← hp.1]; exact hj
          refine ⟨_, hp.2 j q _ (by rw [List.getElem?_eq_getElem hj, e]) (List.getElem?_eq_getElem hj2), ?_⟩
          rw [List.getElem_map, List.length_map]
          exact Nat.le_trans (matesAll_len _) (by omega)
        · exact hq q hm
      refine ⟨le_size (by rw [List.length_map]; omega), ?_⟩
      refine forL_on D.at (l := ps ++ [p0, p1, p2]) (fun p r ρ => ∃ hs, (∀ q ∈ ps ++ [p0, p1, p2], ∃ ds, hs.lookup q = some (.l ds) ∧ ds.length ≤ 100 + p.length) ∧ ∃ (s_law_one s_law_kind : Sl), ρ = [.sh (.dct (Plan names pairs)), .sh (SuitsD C_Suits names pairs), .ow (.l (ps.map D.at)), .ow (.l [.at p0, .at p1, .at p2]), .ow (.l (names.map fun x => D.lst ((matesAll names pairs [x]).map D.str))), s_law_one, s_law_kind, .pl hs]) ⟨_, hap, _, _, rfl⟩ ?_ ?_
      · rintro ρ ⟨hs, _, s_law_one, s_law_kind, rfl⟩
        exact hN _ ⟨hs, _, _, rfl⟩
      · rintro p q r ρ N2 e hN2 ⟨hs, h2, s_law_one, s_law_kind, rfl⟩
        have hpl : p.length < 11 := by
          have := congrArg List.length e
          simp only [List.length_append, List.length_cons, List.length_nil] at this
          omega
        obtain ⟨ds, h3, h4⟩ := h2 q (by rw [e]; simp)
        simp_arith
        refine ⟨q, rfl, ⟨_, h3⟩, _, h3, lt_size (by omega), q, rfl, _, lookup_plSet_eq _ h3, hN2 _ ⟨_, fun q' hq' => ?_, _, _, rfl⟩⟩
        by_cases c : q' = q
        · subst c
          exact ⟨_, lookup_plSet_eq _ (lookup_plSet_eq _ h3), by simp only [List.length_reverse, List.length_append, List.length_singleton]; omega⟩
        · obtain ⟨ds', h5, h6⟩ := h2 q' hq'
          exact ⟨ds', by rw [lookup_plSet_ne c, lookup_plSet_ne c]; exact h5, by simp only [List.length_append, List.length_singleton]; omega⟩
    rintro ρ' ⟨hs, s_law_one, s_law_kind, rfl⟩
    simp_arith [kGet_kinds]
    refine lcL_on D.str (fun pre r acc ρ => ∃ (hs : Pile) (rs : List Addr), acc = rs.map D.at ∧ PileIs hs rs (pre.map fun x => matesAll names pairs [x]) ∧ ∃ (s_law_one s_law_kind : Sl), ρ = [.sh (.dct (Plan names pairs)), .sh (SuitsD C_Suits names pairs), .ow (.l (ps.map D.at)), .ow (.l [.at p0, .at p1, .at p2]), .ow (.l (names.map fun x => D.lst ((matesAll names pairs [x]).map D.str))), s_law_one, s_law_kind, .pl hs]) ⟨hs, [], rfl, PileIs.nil _, _, _, rfl⟩ ?_ ?_
    · rintro acc ρ ⟨hs, rs, rfl, hp, s_law_one, s_law_kind, rfl⟩
      simp_arith
      rw [e1 hs rs hp, e2, e2]
      refine ⟨_, rfl, hfine, ?_⟩
      simp_arith
      exact h
    · rintro pre x r acc ρ N2 hl hN2 ⟨hs, rs, rfl, hp, s_law_one, s_law_kind, rfl⟩
      have hpl : rs.length ≤ 8 := by
        have h1 := hp.1
        have h2 := congrArg List.length hl
        simp only [List.length_map, List.length_append, List.length_cons] at h1 h2
        omega
      simp_arith
      refine ⟨⟨rfl, rfl⟩, le_size (by decide), names, pairs, [x], rfl, hR, by simp, ?_⟩
      simp_arith
      refine ⟨hs, List.Sublist.refl _, fun q hq => ⟨lt_size (by rw [List.length_map]; omega), hN2 _ _ ⟨(q, _) :: hs, rs ++ [q], by rw [List.map_append]; rfl, ?_, _, _, rfl⟩⟩⟩
      rw [List.map_append]
      exact (hp.up hq).snoc (by rw [List.lookup_cons, beq_self_eq_true])
def sp__law_sorted_pairs : SpD := fun as Q => ∃ (names : List Str) (pairs : List (Str × Str)), as = [.sh (.dct (Plan names pairs))] ∧ Rel names pairs ∧ Q (.fr (.l ((sortP (pairs.map inOrd)).map PairD))) [.un]
theorem len__law_sorted_pairs {as : SL} {Q : Rv → SL → Prop} (h : sp__law_sorted_pairs as Q) : as.length = 1 := by
  obtain ⟨_, _, rfl, _⟩ := h
  rfl
theorem ok__law_sorted_pairs {f : Addr} {fd : FuncData} (Fn : Fun K "_law_sorted_pairs" "_law_sorted_pairs" s__law_sorted_pairs f fd) (z_sorted : mg "sorted" = none) (z_max : mg "max" = none) (z_min : mg "min" = none) : FnG P w K mg base CX0 1 f fd ["_law_plan_here"] (lift K sp__law_sorted_pairs) := by
  have nd := sc__law_sorted_pairs.nd
  refine fnD Fn sc__law_sorted_pairs (fun as Q h => ?len) (fun cdv A outer s H hgd hr => ⟨_, _,
    (dss_one (ds_ret (de_callB (call_sortedD (hu64 hr)) sem_sortedD (by rfl) z_sorted (by decide +kernel) (da_cons (do_e (de_lcF rfl nd (dic_of (di_e (de_ix (hu1 hr) (do_var (pv 0)) (do_e de_str)))) (blkOk_by (own := [("_law_pair", 1)]) (N := ["_law_plan_here", "_law_pair"]) (sc := defScope s__law_sorted_pairs) (by decide +kernel)) (fun _ _ _ _ _ => (dg_name (i := 1) nd rfl (.inl rfl))) (fun _ _ _ _ _ => dts_nil) (fun _ _ _ _ _ => (de_tup (dv_cons (de_callB (call_minT rfl) sem_minT (by rfl) z_min (by decide +kernel) (da_cons (do_e (de_ix (hu1 hr) (do_var (pv 1)) (do_e de_int))) (da_cons (do_e (de_ix (hu1 hr) (do_var (pv 1)) (do_e de_int))) da_nil))) (dv_cons (de_callB (call_maxT rfl) sem_maxT (by rfl) z_max (by decide +kernel) (da_cons (do_e (de_ix (hu1 hr) (do_var (pv 1)) (do_e de_int))) (da_cons (do_e (de_ix (hu1 hr) (do_var (pv 1)) (do_e de_int))) da_nil))) dv_nil)))))) da_nil)))), fun as Q h => ?_⟩)
  case len => exact len__law_sorted_pairs h
  · obtain ⟨names, pairs, rfl, hR, h⟩ := h
    simp only [List.length_cons, List.length_nil, Nat.reduceAdd, Nat.reduceSub, List.replicate_succ, List.replicate_zero, List.cons_append, List.nil_append]
    have hpl := hR.pl
    have emin : ∀ p : Str × Str, (if ltS p.2 p.1 = true then p.2 else p.1) = (inOrd p).1 := fun p => by
      unfold inOrd leS
      cases q : ltS p.2 p.1 <;> rfl
    have emax : ∀ p : Str × Str, (if ltS p.1 p.2 = true then p.2 else p.1) = (inOrd p).2 := fun p => by
      unfold inOrd leS
      rcases ltS_tri p.1 p.2 with q | q | q
      · rw [ltS_asymm q, if_pos q]; rfl
      · obtain ⟨a, b⟩ := p
        have q : a = b := q
        subst q
        rw [ltS_irrefl]; rfl
      · rw [q, if_neg (by rw [ltS_asymm q]; decide)]; rfl
    simp_arith [kGet_pairs]
    refine lcL_map PairD (fun p => PairD (inOrd p)) (fun ρ => ∃ (s_law_pair : Sl), ρ = [.sh (.dct (Plan names pairs)), s_law_pair]) (by omega) ⟨_, rfl⟩ ?_ ?_
    · rintro p hp N4 acc ρ hacc ⟨s_law_pair, rfl⟩ hn
      have hn2 := hn
      unfold PairD at hn2 ⊢
      rw [← emin, ← emax] at hn2
      simp_arith
      exact ⟨le_size (by decide), lt_size hacc, hn2 _ ⟨_, rfl⟩⟩
    · rintro ρ ⟨s_law_pair, rfl⟩
      rw [show (pairs.map fun p => PairD (inOrd p)) = (pairs.map inOrd).map PairD by rw [List.map_map]; rfl, gSorted_pairs]
      simp_arith
      exact h
def sp_Suits___len__ (C_Suits : Addr) : SpD := fun as Q => ∃ (names : List Str) (pairs : List (Str × Str)), as = [.sh (SuitsD C_Suits names pairs)] ∧ Q (.v (.int names.length)) [.un]
theorem len_Suits___len__ {C : Addr} {as : SL} {Q : Rv → SL → Prop} (h : sp_Suits___len__ C as Q) : as.length = 1 := by
  obtain ⟨_, _, rfl, _⟩ := h
  rfl
theorem ok_Suits___len__ {f : Addr} {fd : FuncData} (Fn : Fun K "__len__" "Suits.__len__" s_Suits___len__ f fd) {C_Suits : Addr} (z_len : mg "len" = none) (cl_Suits : Cls K C_Suits) (na_Suits_its_kinds : NoAttr K C_Suits "its_kinds") : FnG P w K mg base CX0 1 f fd ["self"] (lift K (sp_Suits___len__ C_Suits)) := by
  have nd := sc_Suits___len__.nd
  refine fnD Fn sc_Suits___len__ (fun as Q h => ?len) (fun cdv A outer s H hgd hr => ⟨_, _,
    (dss_one (ds_ret (de_callB call_lenA sem_len (by rfl) z_len (by decide +kernel) (da_cons (do_e (de_attr cl_Suits na_Suits_its_kinds (do_var (pv 0)))) da_nil)))), fun as Q h => ?_⟩)
  case len => exact len_Suits___len__ h
  · obtain ⟨names, pairs, rfl, h⟩ := h
    simp only [List.length_cons, List.length_nil, Nat.reduceAdd, Nat.reduceSub, List.replicate_succ, List.replicate_zero, List.cons_append, List.nil_append]
    simp_arith [SuitsD, look_kinds, List.length_map, length_sortS]
    exact h
def sp_Suits_many (C_Suits : Addr) : SpD := fun as Q => ∃ (names : List Str) (pairs : List (Str × Str)), as = [.sh (SuitsD C_Suits names pairs)] ∧ Q (.v (.int pairs.length)) [.un]
theorem len_Suits_many {C : Addr} {as : SL} {Q : Rv → SL → Prop} (h : sp_Suits_many C as Q) : as.length = 1 := by
  obtain ⟨_, _, rfl, _⟩ := h
  rfl
theorem ok_Suits_many {f : Addr} {fd : FuncData} (Fn : Fun K "many" "Suits.many" s_Suits_many f fd) {C_Suits : Addr} (z_len : mg "len" = none) (cl_Suits : Cls K C_Suits) (na_Suits_its_pairs : NoAttr K C_Suits "its_pairs") : FnG P w K mg base CX0 1 f fd ["self"] (lift K (sp_Suits_many C_Suits)) := by
  have nd := sc_Suits_many.nd
  refine fnD Fn sc_Suits_many (fun as Q h => ?len) (fun cdv A outer s H hgd hr => ⟨_, _,
    (dss_one (ds_ret (de_callB call_lenA sem_len (by rfl) z_len (by decide +kernel) (da_cons (do_e (de_attr cl_Suits na_Suits_its_pairs (do_var (pv 0)))) da_nil)))), fun as Q h => ?_⟩)
  case len => exact len_Suits_many h
  · obtain ⟨names, pairs, rfl, h⟩ := h
    simp only [List.length_cons, List.length_nil, Nat.reduceAdd, Nat.reduceSub, List.replicate_succ, List.replicate_zero, List.cons_append, List.nil_append]
    simp_arith [SuitsD, look_pairs, List.length_map, (sortP_perm _).length_eq]
    exact h
def sp_Suits___repr__ (C_Suits : Addr) : SpD := fun as Q => ∃ (names : List Str) (pairs : List (Str × Str)), as = [.sh (SuitsD C_Suits names pairs)] ∧ Rel names pairs ∧ Q (.v (.str (shownS names pairs))) [.un]
theorem len_Suits___repr__ {C : Addr} {as : SL} {Q : Rv → SL → Prop} (h : sp_Suits___repr__ C as Q) : as.length = 1 := by
  obtain ⟨_, _, rfl, _⟩ := h
  rfl
theorem ok_Suits___repr__ {f : Addr} {fd : FuncData} (Fn : Fun K "__repr__" "Suits.__repr__" s_Suits___repr__ f fd) {C_Suits : Addr} (cl_Suits : Cls K C_Suits) (na_Suits_its_pairs : NoAttr K C_Suits "its_pairs") (na_Suits_its_kinds : NoAttr K C_Suits "its_kinds") : FnG P w K mg base CX0 1 f fd ["self"] (lift K (sp_Suits___repr__ C_Suits)) := by
  have nd := sc_Suits___repr__.nd
  refine fnD Fn sc_Suits___repr__ (fun as Q h => ?len) (fun cdv A outer s H hgd hr => ⟨_, _,
    (dss_one (ds_ret (de_joined (DJ.cons de_str (DJ.cons (de_fmtR hgd (hu64 hr) (do_e (de_attr cl_Suits na_Suits_its_kinds (do_var (pv 0))))) (DJ.cons de_str (DJ.cons (de_fmtR hgd (hu64 hr) (do_e (de_attr cl_Suits na_Suits_its_pairs (do_var (pv 0))))) (DJ.cons de_str DJ.nil)))))))), fun as Q h => ?_⟩)
  case len => exact len_Suits___repr__ h
  · obtain ⟨names, pairs, rfl, hR, h⟩ := h
    simp only [List.length_cons, List.length_nil, Nat.reduceAdd, Nat.reduceSub, List.replicate_succ, List.replicate_zero, List.cons_append, List.nil_append]
    simp_arith [SuitsD, look_kinds, look_pairs]
    have hz := shownS_le hR
    have k1 := kinds_good hR
    have k2 := pairs_good hR
    unfold shownS at hz h
    have l5 := hz
    rw [strLen_append] at l5
    have l4 := l5
    rw [strLen_append] at l4
    have l3 := l4
    rw [strLen_append] at l3
    have l2 := l3
    rw [strLen_append] at l2
    exact ⟨_, rfl, le_size (by omega), fitR_of 60 _ (fit_up (by decide) k1.fit), k1.small, Nat.le_trans k1.wt (by decide), _, rfl, le_size (by omega), _, rfl, le_size (by omega), fitR_of 60 _ (fit_up (by decide) k2.fit), k2.small, Nat.le_trans k2.wt (by decide), _, rfl, le_size (by omega), _, rfl, le_size (by omega), h⟩
def sp__law_lists_right (C_Suits : Addr) : SpD := fun as Q => ∃ (names : List Str) (pairs : List (Str × Str)), as = [.sh (.dct (Plan names pairs)), .sh (SuitsD C_Suits names pairs)] ∧ Rel names pairs ∧ Q (.v (.bl true)) [.un, .un]
theorem len__law_lists_right {C : Addr} {as : SL} {Q : Rv → SL → Prop} (h : sp__law_lists_right C as Q) : as.length = 2 := by
  obtain ⟨_, _, rfl, _⟩ := h
  rfl
theorem ok__law_lists_right {f : Addr} {fd : FuncData} (Fn : Fun K "_law_lists_right" "_law_lists_right" s__law_lists_right f fd) {C_Suits : Addr} (z_sorted : mg "sorted" = none) {a__law_mates : Addr} {d__law_mates : FuncData} (f__law_mates : Cal P w K mg base 2 "_law_mates" a__law_mates d__law_mates ["_law_plan_here", "_law_kinds"] sp__law_mates) {a__law_sorted_pairs : Addr} {d__law_sorted_pairs : FuncData} (f__law_sorted_pairs : Cal P w K mg base 1 "_law_sorted_pairs" a__law_sorted_pairs d__law_sorted_pairs ["_law_plan_here"] sp__law_sorted_pairs) (cl_Suits : Cls K C_Suits) {a_Suits_lonely : Addr} {d_Suits_lonely : FuncData} (f_Suits_lonely : CalM P w K mg base 1 a_Suits_lonely d_Suits_lonely ["self"] (sp_Suits_lonely C_Suits)) {a_Suits_pairs : Addr} {d_Suits_pairs : FuncData} (f_Suits_pairs : CalM P w K mg base 1 a_Suits_pairs d_Suits_pairs ["self"] (sp_Suits_pairs C_Suits)) {a_Suits_kinds : Addr} {d_Suits_kinds : FuncData} (f_Suits_kinds : CalM P w K mg base 1 a_Suits_kinds d_Suits_kinds ["self"] (sp_Suits_kinds C_Suits)) (z_len : mg "len" = none) {a_Suits___len__ : Addr} {d_Suits___len__ : FuncData} (f_Suits___len__ : CalM P w K mg base 1 a_Suits___len__ d_Suits___len__ ["self"] (sp_Suits___len__ C_Suits)) {a_Suits_many : Addr} {d_Suits_many : FuncData} (f_Suits_many : CalM P w K mg base 1 a_Suits_many d_Suits_many ["self"] (sp_Suits_many C_Suits)) {a__law_alike : Addr} {d__law_alike : FuncData} (f__law_alike : Cal P w K mg base 1 "_law_alike" a__law_alike d__law_alike ["_law_found", "_law_due"] sp__law_alike) (z_repr : mg "repr" = none) {a_Suits___repr__ : Addr} {d_Suits___repr__ : FuncData} (f_Suits___repr__ : CalM P w K mg base 1 a_Suits___repr__ d_Suits___repr__ ["self"] (sp_Suits___repr__ C_Suits)) (me_Suits_lonely : Meth K C_Suits "lonely" a_Suits_lonely) (me_Suits_pairs : Meth K C_Suits "pairs" a_Suits_pairs) (me_Suits_kinds : Meth K C_Suits "kinds" a_Suits_kinds) (me_Suits___len__ : Meth K C_Suits "__len__" a_Suits___len__) {p_Suits_many : Addr} (pr_Suits_many : PropOf K C_Suits "many" p_Suits_many a_Suits_many) (me_Suits___repr__ : Meth K C_Suits "__repr__" a_Suits___repr__) : FnG P w K mg base CX0 3 f fd ["_law_plan_here", "_law_suits_here"] (lift K (sp__law_lists_right C_Suits)) := by
  have nd := sc__law_lists_right.nd
  refine fnD Fn sc__law_lists_right (fun as Q h => ?len) (fun cdv A outer s H hgd hr => ⟨_, _,
    (dss_pl0 7 (dss_cons (ds_set (i := 2) nd rfl (.inl rfl) (de_callB (call_sortedD (hu64 hr)) sem_sortedD (by rfl) z_sorted (by decide +kernel) (da_cons (do_pl 7 (de_ix (hu1 hr) (do_varP 7 (pv 0)) (do_pl 7 de_str))) da_nil)))
      (dss_cons (ds_set (i := 3) nd rfl (.inl rfl) (de_lst (dv_cons (de_var (pv 2)) (dv_cons (de_call f__law_sorted_pairs.ok hgd (hr.mono (by decide)) (by rfl) f__law_sorted_pairs.g f__law_sorted_pairs.kp f__law_sorted_pairs.b pass0 (dag_val (de_var (pv 0)) dag_nil)) (dv_cons (de_lcF rfl nd (dic_var (pv 2)) (blkOk_by (own := [("_law_kind", 6)]) (N := ["_law_plan_here", "_law_suits_here", "_law_kinds", "_law_due", "_law_found", "_law_one", "_law_kind", "0pile"]) (sc := defScope s__law_lists_right) (by decide +kernel)) (fun _ _ _ _ _ => (dg_name (i := 6) nd rfl (.inl rfl))) (fun _ _ _ _ _ => (dts_one (dt_cmp (op_eqA (hu64 hr)) sem_eq (do_pl 7 (de_call f__law_mates.ok hgd (hr.mono (by decide)) (by rfl) f__law_mates.g f__law_mates.kp f__law_mates.b pass0 (dag_val (de_var (pv 0)) (dag_val (de_lst (dv_cons (de_var (pv 6)) dv_nil)) dag_nil)))) (do_pl 7 (de_lst dv_nil)) (nomark _)))) (fun _ _ _ _ _ => (de_var (pv 6)))) dv_nil)))))
      (dss_cons (ds_set (i := 4) nd rfl (.inl rfl) (de_lst (dv_cons (de_keep 7 (de_methV0 (de_var (pv 1)) cl_Suits me_Suits_kinds f_Suits_kinds.ok hgd (hr.mono (by decide)) f_Suits_kinds.b pass0)) (dv_cons (de_keep 7 (de_methV0 (de_var (pv 1)) cl_Suits me_Suits_pairs f_Suits_pairs.ok hgd (hr.mono (by decide)) f_Suits_pairs.b pass0)) (dv_cons (de_keep 7 (de_methV0 (de_var (pv 1)) cl_Suits me_Suits_lonely f_Suits_lonely.ok hgd (hr.mono (by decide)) f_Suits_lonely.b pass0)) dv_nil)))))
      (dss_cons (ds_if (dw_pt (dw_or (dt_not (dt_tr (do_pl 7 (de_callW 7 f__law_alike.ok hgd (hr.mono (by decide)) (by rfl) f__law_alike.g f__law_alike.kp f__law_alike.b pass0 (da_cons (do_varP 7 (pv 4)) (da_cons (do_varP 7 (pv 3)) da_nil)))))) (dw_or (dt_cmp (op_neA (hu64 hr)) sem_ne (do_pl 7 (de_prop cl_Suits pr_Suits_many f_Suits_many.ok hgd (hr.mono (by decide)) f_Suits_many.b pass0 (de_var (pv 1)))) (do_pl 7 (de_callB call_lenA sem_len (by rfl) z_len (by decide +kernel) (da_cons (do_pl 7 (de_ix (hu1 hr) (do_varP 7 (pv 0)) (do_pl 7 de_str))) da_nil))) (nomark _)) (dw_or1 (dt_cmp (op_neA (hu64 hr)) sem_ne (do_pl 7 (de_callB (call_lenO me_Suits___len__ f_Suits___len__.ok hgd (hr.mono (by decide)) f_Suits___len__.b pass0) sem_lenO (by rfl) z_len (by decide +kernel) (da_cons (do_varP 7 (pv 1)) da_nil))) (do_pl 7 (de_callB call_lenA sem_len (by rfl) z_len (by decide +kernel) (da_cons (do_varP 7 (pv 2)) da_nil))) (nomark _)))))) (dss_one (ds_ret de_bl)) dss_nil)
      (dss_cons (ds_for PassesOwn.never rfl (di_e (de_var (pv 4))) (dg_name (i := 5) nd rfl (.inl rfl))
      (dss_cons (ds_expr (de_appendE 7 (de_var (pv 5)) (dv_cons de_str dv_nil)))
      (dss_one (ds_expr (de_reverseE0 7 (de_var (pv 5)))))))
      (dss_one (ds_ret (de_cmp (op_eqA (hu64 hr)) sem_eq (do_pl 7 (de_callB (call_reprO me_Suits___repr__ f_Suits___repr__.ok hgd (hr.mono (by decide)) f_Suits___repr__.b pass0) sem_reprO (by rfl) z_repr (by decide +kernel) (da_cons (do_varP 7 (pv 1)) da_nil))) (do_pl 7 (de_op op_addA sem_addA (do_pl 7 (de_op op_addA sem_addA (do_pl 7 (de_op op_addA sem_addA (do_pl 7 (de_op op_addA sem_addA (do_pl 7 de_str) (do_pl 7 (de_callB (call_reprE hgd (hu64 hr)) sem_reprS (by rfl) z_repr (by decide +kernel) (da_cons (do_pl 7 (de_ix (hu1 hr) (do_varP 7 (pv 3)) (do_pl 7 de_int))) da_nil))))) (do_pl 7 de_str))) (do_pl 7 (de_callB (call_reprE hgd (hu64 hr)) sem_reprS (by rfl) z_repr (by decide +kernel) (da_cons (do_pl 7 (de_ix (hu1 hr) (do_varP 7 (pv 3)) (do_pl 7 de_int))) da_nil))))) (do_pl 7 de_str))) (nomark _)))))))))), fun as Q h => ?_⟩)
  case len => exact len__law_lists_right h
  · obtain ⟨names, pairs, rfl, hR, h⟩ := h
    simp only [List.length_cons, List.length_nil, Nat.reduceAdd, Nat.reduceSub, List.replicate_succ, List.replicate_zero, List.cons_append, List.nil_append]
    refine ⟨[], rfl, ?_⟩
    simp only [List.set_cons_succ, List.set_cons_zero]
    have hle := hR.le
    have elon : (sortS names).filter (fun x => decide (matesAll names pairs [x] = [])) = lonelyOf names pairs := by
      unfold lonelyOf
      refine List.filter_congr fun x hx => decide_eq_decide.mpr ⟨fun e => List.eq_nil_iff_forall_not_mem.mpr fun z hz => ?_, fun e => List.eq_nil_iff_forall_not_mem.mpr fun z hz => ?_⟩
      · have : z ∈ matesAll names pairs [x] := (mem_matesAll hR).mpr ⟨x, by simp, by rw [fits_symm]; exact (mem_matesOf hR).mp hz⟩
        rw [e] at this
        cases this
      · obtain ⟨y, hy, hf⟩ := (mem_matesAll hR).mp hz
        rw [List.mem_singleton.mp hy] at hf
        have : z ∈ matesOf names pairs x := (mem_matesOf hR).mpr (by rw [fits_symm]; exact hf)
        rw [e] at this
        cases this
    refine sSeq_cut (fun ρ' => ∃ (s_law_due s_law_found s_law_one s_law_kind : Sl), ρ' = [.sh (.dct (Plan names pairs)), .sh (SuitsD C_Suits names pairs), .ow (.l ((sortS names).map D.str)), s_law_due, s_law_found, s_law_one, s_law_kind, .pl []]) (fun N hN => ?_) ?_
    · simp_arith [kGet_kinds]
      exact hN _ ⟨_, _, _, _, rfl⟩
    rintro ρ' ⟨s_law_due, s_law_found, s_law_one, s_law_kind, rfl⟩
    refine sSeq_cut (fun ρ' => ∃ (s_law_found s_law_one s_law_kind : Sl), ρ' = [.sh (.dct (Plan names pairs)), .sh (SuitsD C_Suits names pairs), .sh (.lst ((sortS names).map D.str)), .ow (.l [.lst ((sortS names).map D.str), .lst ((sortP (pairs.map inOrd)).map PairD), .lst ((lonelyOf names pairs).map D.str)]), s_law_found, s_law_one, s_law_kind, .pl []]) (fun N hN => ?_) ?_
    · simp_arith
      refine ⟨names, pairs, rfl, hR, ?_⟩
      simp_arith
      refine lcL_st D.str D.str (fun x => decide (matesAll names pairs [x] = [])) (fun ρ => ∃ (s_law_due s_law_found s_law_one s_law_kind : Sl), ρ = [.sh (.dct (Plan names pairs)), .sh (SuitsD C_Suits names pairs), .sh (.lst ((sortS names).map D.str)), s_law_due, s_law_found, s_law_one, s_law_kind, .pl []]) (by rw [length_sortS]; omega) ⟨_, _, _, _, rfl⟩ ?_ ?_
      · rintro x hx N4 acc ρ hacc ⟨s_law_due, s_law_found, s_law_one, s_law_kind, rfl⟩ hT hF
        simp_arith
        refine ⟨le_size (by decide), names, pairs, [x], rfl, hR, by simp, ?_⟩
        simp_arith
        refine ⟨Nat.zero_le _, ?_⟩
        by_cases q : matesAll names pairs [x] = []
        · rw [if_pos q]
          exact ⟨lt_size hacc, hT (decide_eq_true q) _ ⟨_, _, _, _, rfl⟩⟩
        · rw [if_neg q]
          exact hF (decide_eq_false q) _ ⟨_, _, _, _, rfl⟩
      · rintro ρ ⟨s_law_due, s_law_found, s_law_one, s_law_kind, rfl⟩
        rw [elon]
        exact ⟨le_size (by decide), hN _ ⟨_, _, _, rfl⟩⟩
    rintro ρ' ⟨s_law_found, s_law_one, s_law_kind, rfl⟩
    refine sSeq_cut (fun ρ' => ∃ p0 p1 p2 : Addr, p1 ≠ p0 ∧ p2 ≠ p0 ∧ p2 ≠ p1 ∧ ∃ (s_law_one s_law_kind : Sl), ρ' = [.sh (.dct (Plan names pairs)), .sh (SuitsD C_Suits names pairs), .sh (.lst ((sortS names).map D.str)), .ow (.l [.lst ((sortS names).map D.str), .lst ((sortP (pairs.map inOrd)).map PairD), .lst ((lonelyOf names pairs).map D.str)]), .ow (.l [.at p0, .at p1, .at p2]), s_law_one, s_law_kind, .pl [(p2, .l ((lonelyOf names pairs).map D.str)), (p1, .l ((sortP (pairs.map inOrd)).map PairD)), (p0, .l ((sortS names).map D.str))]]) (fun N hN => ?_) ?_
    · obtain ⟨X2, hX2⟩ : ∃ X, vCons (dKeep 7 (dMethV C_Suits (Str.ofString "lonely") (sp_Suits_lonely C_Suits) (dVar 1) agNil)) vNil = X := ⟨_, rfl⟩
      rw [hX2]
      obtain ⟨X1, hX1⟩ : ∃ X, vCons (dKeep 7 (dMethV C_Suits (Str.ofString "pairs") (sp_Suits_pairs C_Suits) (dVar 1) agNil)) X2 = X := ⟨_, rfl⟩
      rw [hX1]
      simp_arith
      refine ⟨⟨rfl, rfl⟩, names, pairs, rfl, ?_⟩
      simp_arith
      refine ⟨[], List.Sublist.refl _, fun p0 h0 => ?_⟩
      rw [← hX1]
      simp_arith
      refine ⟨⟨rfl, rfl⟩, names, pairs, rfl, ?_⟩
      simp_arith
      refine ⟨_, List.Sublist.refl _, fun p1 h1 => ?_⟩
      rw [← hX2]
      simp_arith
      refine ⟨⟨rfl, rfl⟩, names, pairs, rfl, hR, ?_⟩
      simp_arith
      refine ⟨_, List.Sublist.refl _, fun p2 h2 => ?_⟩
      exact ⟨le_size (by decide), hN _ ⟨p0, p1, p2, fun e => h1 (by simp [e]), fun e => h2 (by simp [e]), fun e => h2 (by simp [e]), _, _, rfl⟩⟩
    rintro ρ' ⟨p0, p1, p2, n10, n20, n21, s_law_one, s_law_kind, rfl⟩
    have e1 : D.res [(p2, .l ((lonelyOf names pairs).map D.str)), (p1, .l ((sortP (pairs.map inOrd)).map PairD)), (p0, .l ((sortS names).map D.str))] (.lst [.at p0, .at p1, .at p2]) = .lst [.lst ((sortS names).map D.str), .lst ((sortP (pairs.map inOrd)).map PairD), .lst ((lonelyOf names pairs).map D.str)] := by
      have b1 : (p0 == p2) = false := beq_false_of_ne fun e => n20 e.symm
      have b2 : (p0 == p1) = false := beq_false_of_ne fun e => n10 e.symm
      have b3 : (p1 == p2) = false := beq_false_of_ne fun e => n21 e.symm
      simp only [D.res, D.ress, List.lookup, b1, b2, b3, beq_self_eq_true, Option.map_some, Cn.dat]
    have e2 : ∀ hs, D.res hs (.lst [.lst ((sortS names).map D.str), .lst ((sortP (pairs.map inOrd)).map PairD), .lst ((lonelyOf names pairs).map D.str)]) = .lst [.lst ((sortS names).map D.str), .lst ((sortP (pairs.map inOrd)).map PairD), .lst ((lonelyOf names pairs).map D.str)] := fun hs => res_clo _ (by
      have c1 : ∀ l : List Str, D.clos (l.map D.str) = true := fun l => clos_map clo_str l
      simp only [D.clo, D.clos, c1, clos_map (f := PairD) (fun _ => rfl), Bool.and_self])
    have hfine : FineE (.lst [.lst ((sortS names).map D.str), .lst ((sortP (pairs.map inOrd)).map PairD), .lst ((lonelyOf names pairs).map D.str)]) := by
      refine (Good.lstD (k := 2) (w := 7000) (n := 3) (by simp) fun d hd => ?_).fine (by decide) (by decide)
      simp only [List.mem_cons, List.not_mem_nil, or_false] at hd
      rcases hd with rfl | rfl | rfl
      · exact (kinds_good hR).mono (by decide) (by decide)
      · exact pairs_good hR
      · exact (good_strs (n := 8) (m := 8) (Nat.le_trans (List.length_filter_le _ _) (by rw [length_sortS]; exact hle)) fun x hx => (hR.kd x (mem_sortS.mp (List.mem_filter.mp hx).1)).2.1).mono (by decide) (by decide)
    refine sSeq_go fun N3 hN3 => ?_
    refine sIf_go fun T hT hF => ?_
    simp_arith
    rw [e1, e2, e2]
    refine ⟨_, rfl, hfine, ?_⟩
    simp_arith
    refine ⟨rfl, names, pairs, rfl, ?_⟩
    simp_arith [kGet_pairs, List.length_map]
    refine ⟨rfl, names, pairs, rfl, ?_⟩
    simp_arith [List.length_map, length_sortS]
    refine ⟨_, rfl, Int.natCast_nonneg _, by omega, ?_⟩
    rw [decide_eq_true trivial]
    refine hF _ ?_
    simp only [sNext]
    refine hN3 _ ?_
    clear hN3 hT hF
    refine sSeq_cut (fun ρ' => ∃ hs, ∃ (s_law_kinds s_law_found s_law_one s_law_kind : Sl), ρ' = [.sh (.dct (Plan names pairs)), .sh (SuitsD C_Suits names pairs), s_law_kinds, .ow (.l [.lst ((sortS names).map D.str), .lst ((sortP (pairs.map inOrd)).map PairD), .lst ((lonelyOf names pairs).map D.str)]), s_law_found, s_law_one, s_law_kind, .pl hs]) (fun N hN => ?_) ?_
    · simp_arith
      refine forL_on D.at (l := [p0, p1, p2]) (fun p r ρ => ∃ hs, (∀ q ∈ [p0, p1, p2], ∃ ds, hs.lookup q = some (.l ds) ∧ ds.length ≤ 100 + p.length) ∧ ∃ (s_law_kinds s_law_found s_law_one s_law_kind : Sl), ρ = [.sh (.dct (Plan names pairs)), .sh (SuitsD C_Suits names pairs), s_law_kinds, .ow (.l [.lst ((sortS names).map D.str), .lst ((sortP (pairs.map inOrd)).map PairD), .lst ((lonelyOf names pairs).map D.str)]), s_law_found, s_law_one, s_law_kind, .pl hs]) ⟨_, fun q hq => ?_, _, _, _, _, rfl⟩ ?_ ?_
      · have b1 : (p0 == p2) = false := beq_false_of_ne fun e => n20 e.symm
        have b2 : (p0 == p1) = false := beq_false_of_ne fun e => n10 e.symm
        have b3 : (p1 == p2) = false := beq_false_of_ne fun e => n21 e.symm
        have hpl := hR.pl
        simp only [List.mem_cons, List.not_mem_nil, or_false] at hq
        rcases hq with e | e | e
        all_goals rw [e]
        · exact ⟨(sortS names).map D.str, by simp only [List.lookup, b1, b2, beq_self_eq_true], by rw [List.length_map, length_sortS]; omega⟩
        · exact ⟨(sortP (pairs.map inOrd)).map PairD, by simp only [List.lookup, b3, beq_self_eq_true], by rw [List.length_map, (sortP_perm _).length_eq, List.length_map]; omega⟩
        · exact ⟨(lonelyOf names pairs).map D.str, by simp only [List.lookup, beq_self_eq_true], by rw [List.length_map]; exact Nat.le_trans (List.length_filter_le _ _) (by rw [length_sortS]; omega)⟩
      · rintro ρ ⟨hs, _, s_law_kinds, s_law_found, s_law_one, s_law_kind, rfl⟩
        exact hN _ ⟨hs, _, _, _, _, rfl⟩
      · rintro p q r ρ N2 e hN2 ⟨hs, h2, s_law_kinds, s_law_found, s_law_one, s_law_kind, rfl⟩
        have hpl : p.length < 3 := by
          have := congrArg List.length e
          simp only [List.length_append, List.length_cons, List.length_nil] at this
          omega
        obtain ⟨ds, h3, h4⟩ := h2 q (by rw [e]; simp)
        simp_arith
        refine ⟨q, rfl, ⟨_, h3⟩, _, h3, lt_size (by omega), q, rfl, _, lookup_plSet_eq _ h3, hN2 _ ⟨_, fun q' hq' => ?_, _, _, _, _, rfl⟩⟩
        by_cases c : q' = q
        · subst c
          exact ⟨_, lookup_plSet_eq _ (lookup_plSet_eq _ h3), by simp only [List.length_reverse, List.length_append, List.length_singleton]; omega⟩
        · obtain ⟨ds', h5, h6⟩ := h2 q' hq'
          exact ⟨ds', by rw [lookup_plSet_ne c, lookup_plSet_ne c]; exact h5, by simp only [List.length_append, List.length_singleton]; omega⟩
    rintro ρ' ⟨hs, s_law_kinds, s_law_found, s_law_one, s_law_kind, rfl⟩
    unfold SuitsD
    simp_arith
    refine ⟨names, pairs, rfl, hR, ?_⟩
    simp_arith
    refine ⟨_, rfl, ?_⟩
    have k1 := kinds_good hR
    have k2 := pairs_good hR
    have hz := shownS_le hR
    have es : shownS names pairs = (((Str.ofString "Suits(" ++ (D.lst ((sortS names).map D.str)).py.shown) ++ Str.ofString ", ") ++ (D.lst ((sortP (pairs.map inOrd)).map PairD)).py.shown) ++ Str.ofString ")" := by
      unfold shownS
      rw [show Str.empty ++ Str.ofString "Suits(" = Str.ofString "Suits(" by decide +kernel]
    rw [es] at hz ⊢
    have l5 := hz
    rw [strLen_append] at l5
    have l4 := l5
    rw [strLen_append] at l4
    have l3 := l4
    rw [strLen_append] at l3
    have l2 := l3
    rw [strLen_append] at l2
    refine ⟨fitR_of 60 _ (fit_up (by decide) k1.fit), k1.small, Nat.le_trans k1.wt (by decide), ?_⟩
    simp_arith
    refine ⟨le_size (by omega), le_size (by omega), ?_⟩
    refine ⟨fitR_of 60 _ (fit_up (by decide) k2.fit), k2.small, Nat.le_trans k2.wt (by decide), ?_⟩
    simp_arith
    refine ⟨le_size (by omega), le_size (by omega), ?_⟩
    rw [decide_eq_true trivial]
    exact h
/-! ### kinds and lists of kinds among any things -/
/-! ### names among any things -/
/-- the thing is one of the names -/
def inB (names : List Str) (d : D) : Bool := names.any fun z => D.eqv (.str z) d
theorem inB_str {names : List Str} {x : Str} : inB names (.str x) = decide (x ∈ names) := by
  have := str_any names x
  rwa [List.any_map] at this
theorem inB_no {names : List Str} {d : D} (h : ∀ x, d ≠ .str x) : inB names d = false := by
  unfold inB
  rw [List.any_eq_false]
  intro z _
  cases d with
  | str x => exact (h x rfl).elim
  | _ => simp [D.eqv]
theorem inB_true {names : List Str} {d : D} (h : inB names d = true) : ∃ x, d = .str x ∧ x ∈ names := by
  by_cases hs : ∃ x, d = .str x
  · obtain ⟨x, rfl⟩ := hs
    rw [inB_str, decide_eq_true_eq] at h
    exact ⟨x, rfl, h⟩
  · rw [inB_no fun x e => hs ⟨x, e⟩] at h
    cases h
theorem inB_sort {names : List Str} {d : D} : inB (sortS names) d = inB names d := by
  unfold inB
  rw [Bool.eq_iff_iff, List.any_eq_true, List.any_eq_true]
  constructor
  · rintro ⟨z, hz, e⟩; exact ⟨z, mem_sortS.mp hz, e⟩
  · rintro ⟨z, hz, e⟩; exact ⟨z, mem_sortS.mpr hz, e⟩
theorem gIn_inB {f : Bool → Bool} {names : List Str} {d : D} {Q : Rv → Prop} (hd : D.fit 60 d = true) (h : Q (.v (.bl (f (inB names d))))) : gIn f d (.lst (names.map D.str)) Q := by
  rw [gIn_lst]
  refine ⟨hd, fits_strs 59 names, ?_⟩
  rw [List.any_map]
  exact h
/-! ### relations changed -/
/-! ### relations refused -/
def asPair (names : List Str) : D → Option (Str × Str)
  | .tup [.str x, .str y] => if x ∈ names ∧ y ∈ names then some (x, y) else none
  | _ => none
/-- what a part of a pair may be -/
def InK (d : D) : Prop := D.fit 60 d = true ∨ ∃ kvs, d = .dct kvs
theorem gInX_inB {f : Bool → Bool} {names : List Str} {d : D} {Q : Rv → Prop} (hd : InK d) (h : Q (.v (.bl (f (inB names d))))) : gInX f d (.lst (names.map D.str)) Q := by
  rcases hd with hd | ⟨kvs, rfl⟩
  · exact .inr (gIn_inB hd h)
  · refine .inl ⟨kvs, names, rfl, rfl, ?_⟩
    rwa [inB_no fun x e => by cases e] at h
/-- what an item may be -/
def ItP (d : D) : Prop := d.ty.isSome = true ∧ ∀ l, d = .tup l → ∀ x ∈ l, InK x
theorem inK_nil : ∀ x ∈ ([] : List D), InK x := fun x hx => (List.not_mem_nil hx).elim
theorem inK_cons {d : D} {l : List D} (h : InK d) (h2 : ∀ x ∈ l, InK x) : ∀ x ∈ d :: l, InK x := fun x hx => (List.mem_cons.mp hx).elim (fun e => e ▸ h) (h2 x)
theorem len_strange : (Str.ofString "strange").length = 7 := by decide +kernel
theorem len_aA : (Str.ofString "a").length = 1 := by decide +kernel
theorem len_nilS : (Str.ofString "").length = 0 := by decide +kernel
theorem inK_dct {kvs : List (Key × D)} : InK (.dct kvs) := .inr ⟨kvs, rfl⟩
theorem inK_fit {d : D} (h : D.fit 60 d = true) : InK d := .inl h
theorem cut_last13 {α : Type} (l : List α) (x : α) : cut (l ++ [x]) (some (-1)) none = [x] := by
  have e : HT.sIx (l ++ [x]).length 0 (some (-1)) = l.length := by
    rw [List.length_append, List.length_singleton]
    show (if (-1 : Int) < 0 then ((-1 : Int) + ((l.length + 1 : Nat) : Int)).toNat else min (-1 : Int).toNat (l.length + 1)) = l.length
    rw [if_pos (by decide)]
    omega
  unfold cut
  rw [e, HT.sIx_none]
  simp
def sp__law_mates_right (C_Suits : Addr) : SpD := fun as Q => ∃ (names : List Str) (pairs : List (Str × Str)) (n : Nat) (c : Cn), as = [.bw 0 c, .sh (.dct (Plan names pairs)), .sh (SuitsD C_Suits names pairs)] ∧ Rel names pairs ∧ Bag (n + 100) c ∧ ∀ c', Bag n c' → Q (.v (.bl true)) [.bw 0 c', .un, .un]
theorem len__law_mates_right {C : Addr} {as : SL} {Q : Rv → SL → Prop} (h : sp__law_mates_right C as Q) : as.length = 3 := by
  obtain ⟨_, _, _, _, rfl, _⟩ := h
  rfl
theorem ok__law_mates_right {f : Addr} {fd : FuncData} (Fn : Fun K "_law_mates_right" "_law_mates_right" s__law_mates_right f fd) {C_Suits : Addr} (z_range : mg "range" = none) {a__law_take : Addr} {d__law_take : FuncData} (f__law_take : Cal P w K mg base 1 "_law_take" a__law_take d__law_take ["_law_bag_here", "_law_many"] sp__law_take) (z_list : mg "list" = none) (cl_Suits : Cls K C_Suits) {a_Suits_mates : Addr} {d_Suits_mates : FuncData} (f_Suits_mates : CalM P w K mg base 1 a_Suits_mates d_Suits_mates ["self", "kinds"] (sp_Suits_mates C_Suits)) {a__law_alike : Addr} {d__law_alike : FuncData} (f__law_alike : Cal P w K mg base 1 "_law_alike" a__law_alike d__law_alike ["_law_found", "_law_due"] sp__law_alike) {a__law_mates : Addr} {d__law_mates : FuncData} (f__law_mates : Cal P w K mg base 2 "_law_mates" a__law_mates d__law_mates ["_law_plan_here", "_law_kinds"] sp__law_mates) (me_Suits_mates : Meth K C_Suits "mates" a_Suits_mates) : FnG P w K mg base CX0 3 f fd ["_law_bag_here", "_law_plan_here", "_law_suits_here"] (lift K (sp__law_mates_right C_Suits)) := by
  have nd := sc__law_mates_right.nd
  refine fnD Fn sc__law_mates_right (fun as Q h => ?len) (fun cdv A outer s H hgd hr => ⟨_, _,
    (dss_pl0 9 (dss_cons (ds_for PassesOwn.never rfl (di_r1 (by rfl) z_range (dv_cons de_int dv_nil)) (dg_name (i := 3) nd rfl (.inl rfl))
      (dss_cons (ds_keepS 9 4 (ds_setLcF (i := 4) rfl nd rfl rfl (sw_true rfl rfl rfl (by decide +kernel)) (dic_of (di_e (de_ix (hu1 hr) (do_varP 9 (pv 1)) (do_pl 9 de_str)))) (blkOk_by (own := [("_law_kind", 8)]) (N := ["_law_bag_here", "_law_plan_here", "_law_suits_here", "_law_k", "_law_some", "_law_asked", "_law_shown", "_law_found", "_law_kind", "0pile"]) (sc := defScope s__law_mates_right) (by decide +kernel)) (fun _ _ _ _ _ => (dg_name (i := 8) nd rfl (.inl rfl))) (fun _ _ _ _ _ => (dts_one (dt_cmp (op_eqA (hu64 hr)) sem_eq (do_pl 9 (de_call f__law_take.ok hgd (hr.mono (by decide)) (by rfl) f__law_take.g f__law_take.kp f__law_take.b pass0 (dag_bor (pv 0) (dag_val de_int dag_nil)))) (do_pl 9 de_int) (nomark _)))) (fun _ _ _ _ _ => (de_var (pv 8)))))
      (dss_cons (ds_set (i := 5) nd rfl (.inl rfl) (de_ix (hu1 hr) (do_pl 9 (de_lst (dv_cons (de_var (pv 4)) (dv_cons (de_keep 9 (de_rev (do_varP 9 (pv 4)))) (dv_cons (de_keep 9 (de_op op_addA sem_addA (do_varP 9 (pv 4)) (do_pl 9 (de_slice (do_varP 9 (pv 4)) dop_none (dop_some de_int))))) dv_nil))))) (do_pl 9 (de_call f__law_take.ok hgd (hr.mono (by decide)) (by rfl) f__law_take.g f__law_take.kp f__law_take.b pass0 (dag_bor (pv 0) (dag_val de_int dag_nil))))))
      (dss_cons (ds_set (i := 6) nd rfl (.inl rfl) (de_callTy call_list_of sem_list (by rfl) z_list (by decide +kernel) (da_cons (do_varP 9 (pv 5)) da_nil)))
      (dss_cons (ds_set (i := 7) nd rfl (.inl rfl) (de_methN 1 9 (do_varP 9 (pv 2)) cl_Suits me_Suits_mates f_Suits_mates.ok hgd (hr.mono (by decide)) f_Suits_mates.b pass0 (da_cons (do_varP 9 (pv 5)) da_nil)))
      (dss_cons (ds_if (dw_pt (dw_or (dt_not (dt_tr (do_pl 9 (de_callV 9 f__law_alike.ok hgd (hr.mono (by decide)) (by rfl) f__law_alike.g f__law_alike.kp f__law_alike.b pass0 (da_cons (do_varP 9 (pv 7)) (da_cons (do_pl 9 (de_callN 1 9 f__law_mates.ok hgd (hr.mono (by decide)) (by rfl) f__law_mates.g f__law_mates.kp f__law_mates.b pass0 (da_cons (do_varP 9 (pv 1)) (da_cons (do_varP 9 (pv 4)) da_nil)))) da_nil)))))) (dw_or1 (dt_neV 9 (hu64 hr) (do_varP 9 (pv 5)) (do_varP 9 (pv 6)) (nomark _))))) (dss_one (ds_ret de_bl)) dss_nil)
      (dss_cons (ds_expr (de_append (pv 7) (dv_cons de_str dv_nil)))
      (dss_cons (ds_expr (de_appendE 9 (de_var (pv 5)) (dv_cons (de_ix (hu1 hr) (do_pl 9 (de_ix (hu1 hr) (do_varP 9 (pv 1)) (do_pl 9 de_str))) (do_pl 9 (de_un un_neg sem_neg (do_pl 9 de_int)))) dv_nil)))
      (dss_one (ds_if (dt_not (dt_tr (do_pl 9 (de_callV 9 f__law_alike.ok hgd (hr.mono (by decide)) (by rfl) f__law_alike.g f__law_alike.kp f__law_alike.b pass0 (da_cons (do_pl 9 (de_methN 1 9 (do_varP 9 (pv 2)) cl_Suits me_Suits_mates f_Suits_mates.ok hgd (hr.mono (by decide)) f_Suits_mates.b pass0 (da_cons (do_varP 9 (pv 5)) da_nil))) (da_cons (do_pl 9 (de_call f__law_mates.ok hgd (hr.mono (by decide)) (by rfl) f__law_mates.g f__law_mates.kp f__law_mates.b pass0 (dag_val (de_var (pv 1)) (dag_val (de_op op_addA sem_addA (do_varP 9 (pv 4)) (do_pl 9 (de_slice (do_pl 9 (de_ix (hu1 hr) (do_varP 9 (pv 1)) (do_pl 9 de_str))) (dop_some (de_un un_neg sem_neg (do_pl 9 de_int))) dop_none))) dag_nil)))) da_nil)))))) (dss_one (ds_ret de_bl)) dss_nil))))))))))
      (dss_one (ds_ret de_bl)))), fun as Q h => ?_⟩)
  case len => exact len__law_mates_right h
  · obtain ⟨names, pairs, n, c, rfl, hR, hB, h⟩ := h
    simp only [List.length_cons, List.length_nil, Nat.reduceAdd, Nat.reduceSub, List.replicate_succ, List.replicate_zero, List.cons_append, List.nil_append]
    refine ⟨[], rfl, ?_⟩
    simp only [List.set_cons_succ, List.set_cons_zero]
    have hle := hR.le
    simp_arith [big]
    refine ⟨by omega, by omega, forL_rng (fun i ρ => ∃ (c : Cn) (hs : Pile), Bag (n + (100 - 10 * i)) c ∧ ∃ (s_law_k s_law_some s_law_asked s_law_shown s_law_found s_law_kind : Sl), ρ = [.bw 0 c, .sh (.dct (Plan names pairs)), .sh (SuitsD C_Suits names pairs), s_law_k, s_law_some, s_law_asked, s_law_shown, s_law_found, s_law_kind, .pl hs]) ⟨c, [], hB, _, _, _, _, _, _, rfl⟩ ?_ ?_⟩
    · rintro ρ ⟨c, hs, hB3, s_law_k, s_law_some, s_law_asked, s_law_shown, s_law_found, s_law_kind, rfl⟩
      simp_arith
      exact h _ (hB3.le (by omega))
    rintro i ρ N2 hi hN2 ⟨c1, hs, hB1, s_law_k, s_law_some, s_law_asked, s_law_shown, s_law_found, s_law_kind, rfl⟩
    have hi4 : i < 4 := by simpa using hi
    refine sSeq_cut (fun ρ' => ∃ (c : Cn) (ks : List Str) (p : Addr) (hs : Pile), Bag (n + (91 - 10 * i)) c ∧ ks.length ≤ 8 ∧ hs.lookup p = some (.l (ks.map D.str)) ∧ ∃ (s_law_k s_law_asked s_law_shown s_law_found s_law_kind : Sl), ρ' = [.bw 0 c, .sh (.dct (Plan names pairs)), .sh (SuitsD C_Suits names pairs), s_law_k, .sh (.at p), s_law_asked, s_law_shown, s_law_found, s_law_kind, .pl hs]) (fun N hN => ?_) ?_
    · simp_arith [kGet_kinds]
      refine lcL_on D.str (fun pr r acc ρ => ∃ (c : Cn) (ks : List Str), Bag (n + (100 - 10 * i - pr.length)) c ∧ acc = ks.map D.str ∧ ks.length ≤ pr.length ∧ ∃ (s_law_k s_law_some s_law_asked s_law_shown s_law_found s_law_kind : Sl), ρ = [.bw 0 c, .sh (.dct (Plan names pairs)), .sh (SuitsD C_Suits names pairs), s_law_k, s_law_some, s_law_asked, s_law_shown, s_law_found, s_law_kind, .pl hs]) ⟨c1, [], hB1, rfl, Nat.le_refl _, _, _, _, _, _, _, rfl⟩ ?_ ?_
      · rintro acc ρ ⟨c, ks, hB5, rfl, hks, s_law_k, s_law_some, s_law_asked, s_law_shown, s_law_found, s_law_kind, rfl⟩
        refine ⟨_, rfl, hs, rfl, hs, List.Sublist.refl _, fun p hp => hN _ ⟨c, ks, p, (p, .l (ks.map D.str)) :: hs, hB5.le (by omega), by omega, by rw [List.lookup_cons, beq_self_eq_true], _, _, _, _, _, rfl⟩⟩
      · rintro pr x r acc ρ N4 hl hN4 ⟨c, ks, hB5, rfl, hks, s_law_k, s_law_some, s_law_asked, s_law_shown, s_law_found, s_law_kind, rfl⟩
        have hp8 : pr.length < 8 := by
          have h2 := congrArg List.length hl
          simp only [List.length_append, List.length_cons] at h2
          omega
        simp_arith
        refine ⟨n + (100 - 10 * i - (pr.length + 1)), c, 2, rfl, hB5.le (by omega), by decide, by decide, fun v c6 hB6 hv0 hv1 => ?_⟩
        simp_arith
        have hlen : (pr ++ [x]).length = pr.length + 1 := by rw [List.length_append]; rfl
        by_cases e0 : v = 0
        · rw [if_pos e0]
          refine ⟨lt_size (by rw [List.length_map]; omega), hN4 _ _ ⟨c6, ks ++ [x], by rw [hlen]; exact hB6, by rw [List.map_append]; rfl, by rw [List.length_append, hlen]; exact Nat.add_le_add_right hks 1, _, _, _, _, _, _, rfl⟩⟩
        · rw [if_neg e0]
          exact hN4 _ _ ⟨c6, ks, by rw [hlen]; exact hB6, rfl, by rw [hlen]; omega, _, _, _, _, _, _, rfl⟩
    clear hB1 c1 hs
    rintro ρ' ⟨c1, ks, p, hs, hB1, hks, lp, s_law_k, s_law_asked, s_law_shown, s_law_found, s_law_kind, rfl⟩
    refine sSeq_cut (fun ρ' => ∃ (c : Cn) (as : List Str) (q : Addr) (hs : Pile), Bag (n + (90 - 10 * i)) c ∧ as.length ≤ 20 ∧ hs.lookup p = some (.l (ks.map D.str)) ∧ hs.lookup q = some (.l (as.map D.str)) ∧ (∀ x, x ∈ as ↔ x ∈ ks) ∧ ∃ (s_law_k s_law_shown s_law_found s_law_kind : Sl), ρ' = [.bw 0 c, .sh (.dct (Plan names pairs)), .sh (SuitsD C_Suits names pairs), s_law_k, .sh (.at p), .sh (.at q), s_law_shown, s_law_found, s_law_kind, .pl hs]) (fun N hN => ?_) ?_
    · simp_arith [lp, Cn.dat]
      refine ⟨hs, List.Sublist.refl _, fun p1 h1 => ?_⟩
      have n1 : p ≠ p1 := fun e => h1 (List.mem_map.mpr ⟨_, lookup_mem lp, e⟩)
      have b1 : (p == p1) = false := beq_false_of_ne n1
      simp_arith [b1, lp, Cn.dat]
      have ecut : cut (ks.map D.str) none (some 1) = (ks.take 1).map D.str := by
        rw [show (some (1 : Int)) = some ((1 : Nat) : Int) by rfl, cut_to, List.map_take]
      rw [ecut, ← List.map_append, ← List.map_reverse]
      have lt1 : (ks.take 1).length ≤ 1 := by rw [List.length_take]; omega
      refine ⟨le_size (by rw [List.length_map, List.length_map]; omega), _, List.Sublist.refl _, fun p2 h2 => ?_⟩
      have n2 : p ≠ p2 := fun e => h2 (List.mem_cons_of_mem _ (List.mem_map.mpr ⟨_, lookup_mem lp, e⟩))
      have n3 : p1 ≠ p2 := fun e => h2 (by simp [e])
      have b2 : (p == p2) = false := beq_false_of_ne n2
      have b3 : (p1 == p2) = false := beq_false_of_ne n3
      refine ⟨le_size (by decide), n + (90 - 10 * i), c1, 3, rfl, hB1.le (by omega), by decide, by decide, fun v c6 hB6 hv0 hv1 => ?_⟩
      simp_arith
      have hv : v = 0 ∨ v = 1 ∨ v = 2 := by omega
      rcases hv with rfl | rfl | rfl
      · exact ⟨_, atI_0, hN _ ⟨c6, ks, p, _, hB6, by omega, by simp only [List.lookup, b1, b2]; exact lp, by simp only [List.lookup, b1, b2]; exact lp, fun x => Iff.rfl, _, _, _, _, rfl⟩⟩
      · exact ⟨_, atI_1, hN _ ⟨c6, ks.reverse, p1, _, hB6, by rw [List.length_reverse]; omega, by simp only [List.lookup, b1, b2]; exact lp, by simp only [List.lookup, b3, beq_self_eq_true], fun x => List.mem_reverse, _, _, _, _, rfl⟩⟩
      · exact ⟨_, atI_2, hN _ ⟨c6, ks ++ ks.take 1, p2, _, hB6, by rw [List.length_append]; omega, by simp only [List.lookup, b1, b2]; exact lp, by simp only [List.lookup, beq_self_eq_true], fun x => ⟨fun hx => (List.mem_append.mp hx).elim id List.mem_of_mem_take, fun hx => List.mem_append_left _ hx⟩, _, _, _, _, rfl⟩⟩
    clear hB1 c1 lp hs
    rintro ρ' ⟨c1, as, q, hs, hB1, has, lp, lq, hmem, s_law_k, s_law_shown, s_law_found, s_law_kind, rfl⟩
    refine sSeq_cut (fun ρ' => ∃ (s_law_k s_law_found s_law_kind : Sl), ρ' = [.bw 0 c1, .sh (.dct (Plan names pairs)), .sh (SuitsD C_Suits names pairs), s_law_k, .sh (.at p), .sh (.at q), .ow (.l (as.map D.str)), s_law_found, s_law_kind, .pl hs]) (fun N hN => ?_) ?_
    · simp_arith [lq, Cn.dat]
      exact hN _ ⟨_, _, _, rfl⟩
    rintro ρ' ⟨s_law_k, s_law_found, s_law_kind, rfl⟩
    have emem : matesAll names pairs as = matesAll names pairs ks := by
      unfold matesAll
      refine List.filter_congr fun x _ => ?_
      congr 1
      funext y
      exact decide_eq_decide.mpr (hmem y)
    obtain ⟨fs, hfs⟩ : ∃ fs, SuitsD C_Suits names pairs = .obj C_Suits fs := ⟨_, rfl⟩
    have hlk : fs.lookup (Str.ofString "mates") = none := by
      cases hfs
      rfl
    have hrs : ∀ hs, D.res hs (.obj C_Suits fs) = .obj C_Suits fs := fun hs => by
      rw [← hfs]
      exact res_suits
    have hfm : ∀ ks, FineE (.lst ((matesAll names pairs ks).map D.str)) := fun ks => (good_strs (n := 8) (m := 8) (Nat.le_trans (matesAll_len ks) hle) fun x hx => (hR.kd x (mem_sortS.mp (List.mem_filter.mp hx).1)).2.1).fine (by decide) (by decide)
    refine sSeq_cut (fun ρ' => ∃ (s_law_k s_law_kind : Sl), ρ' = [.bw 0 c1, .sh (.dct (Plan names pairs)), .sh (SuitsD C_Suits names pairs), s_law_k, .sh (.at p), .sh (.at q), .ow (.l (as.map D.str)), .ow (.l ((matesAll names pairs ks).map D.str)), s_law_kind, .pl hs]) (fun N hN => ?_) ?_
    · rw [hfs]
      simp_arith [List.lookup_nil, lq, hrs, Cn.dat]
      rw [← hfs]
      refine ⟨hlk, names, pairs, as, rfl, hR, by omega, ?_⟩
      simp_arith
      refine ⟨flats_strs _, ?_⟩
      rw [emem]
      exact hN _ ⟨_, _, rfl⟩
    rintro ρ' ⟨s_law_k, s_law_kind, rfl⟩
    refine sSeq_cut (fun ρ' => ∃ (s_law_k s_law_kind : Sl), ρ' = [.bw 0 c1, .sh (.dct (Plan names pairs)), .sh (SuitsD C_Suits names pairs), s_law_k, .sh (.at p), .sh (.at q), .ow (.l (as.map D.str)), .ow (.l ((matesAll names pairs ks).map D.str)), s_law_kind, .pl hs]) (fun N hN => ?_) ?_
    · refine sIf_go fun T hT hF => ?_
      simp_arith [lp, lq, Cn.dat, res_plan]
      refine ⟨names, pairs, ks, rfl, hR, by omega, flats_strs _, ?_⟩
      simp_arith
      refine ⟨_, rfl, hfm _, ?_⟩
      simp_arith
      refine ⟨fit_strs _, fit_strs _, ?_⟩
      rw [eqv_self _ ⟨_, fit_strs as⟩]
      exact hF _ (hN _ ⟨_, _, rfl⟩)
    rintro ρ' ⟨s_law_k, s_law_kind, rfl⟩
    refine sSeq_cut (fun ρ' => ∃ (s_law_k s_law_found s_law_kind : Sl), ρ' = [.bw 0 c1, .sh (.dct (Plan names pairs)), .sh (SuitsD C_Suits names pairs), s_law_k, .sh (.at p), .sh (.at q), .ow (.l (as.map D.str)), s_law_found, s_law_kind, .pl hs]) (fun N hN => ?_) ?_
    · simp_arith
      refine ⟨lt_size (by have := matesAll_len (names := names) (pairs := pairs) ks; rw [List.length_map]; omega), hN _ ⟨_, _, _, rfl⟩⟩
    rintro ρ' ⟨s_law_k, s_law_found, s_law_kind, rfl⟩
    obtain ⟨k1, hk1, hm1⟩ : ∃ k1, atI (names.map D.str) (-1) = some (.str k1) ∧ cut (names.map D.str) (some (-1)) none = [.str k1] := by
      obtain ⟨l, k1, e⟩ : ∃ l k1, names = l ++ [k1] := by
        have hne : names ≠ [] := fun e => by have := hR.ne; rw [e] at this; simp at this
        exact ⟨names.dropLast, names.getLast hne, (List.dropLast_concat_getLast hne).symm⟩
      refine ⟨k1, atI_last (by rw [e, List.map_append]; simp), ?_⟩
      rw [e, List.map_append]
      exact cut_last13 (l.map D.str) (.str k1)
    refine sSeq_go fun N3 hN3 => ?_
    simp_arith [kGet_kinds]
    refine ⟨q, rfl, ⟨_, lq⟩, _, hk1, _, lq, lt_size (by rw [List.length_map]; omega), hN3 _ ?_⟩
    clear hN3
    have eas : as.map D.str ++ [D.str k1] = (as ++ [k1]).map D.str := by rw [List.map_append]; rfl
    rw [eas]
    have eas2 : ∀ l : List Str, l.map D.str ++ [D.str k1] = (l ++ [k1]).map D.str := fun l => by rw [List.map_append]; rfl
    obtain ⟨ks2, hk2, hk3, lp2⟩ : ∃ ks2 : List Str, ks2.length ≤ 21 ∧ (∀ x, x ∈ ks2 ++ [k1] ↔ x ∈ ks ++ [k1]) ∧ (plSet hs q (Cn.l ((as ++ [k1]).map D.str))).lookup p = some (Cn.l (ks2.map D.str)) := by
      by_cases e : p = q
      · subst e
        refine ⟨as ++ [k1], by rw [List.length_append]; exact Nat.add_le_add_right has 1, fun x => ?_, lookup_plSet_eq _ lp⟩
        simp only [List.mem_append, List.mem_singleton, hmem x]
        constructor
        · rintro ((h | h) | h)
          · exact .inl h
          · exact .inr h
          · exact .inr h
        · rintro (h | h)
          · exact .inl (.inl h)
          · exact .inr h
      · exact ⟨ks, by omega, fun x => Iff.rfl, by rw [lookup_plSet_ne e]; exact lp⟩
    have lq2 := lookup_plSet_eq (c' := Cn.l ((as ++ [k1]).map D.str)) _ lq
    generalize plSet hs q (Cn.l ((as ++ [k1]).map D.str)) = hs2 at lp2 lq2 ⊢
    have emem2 : matesAll names pairs (as ++ [k1]) = matesAll names pairs (ks2 ++ [k1]) := by
      unfold matesAll
      refine List.filter_congr fun x _ => ?_
      congr 1
      funext y
      refine decide_eq_decide.mpr ?_
      rw [hk3, List.mem_append, List.mem_append, hmem y]
    refine sIf_go fun T hT hF => ?_
    rw [hfs]
    simp_arith [List.lookup_nil, lp2, lq2, hrs, Cn.dat, kGet_kinds]
    rw [hm1, eas2]
    rw [← hfs]
    refine ⟨hlk, names, pairs, as ++ [k1], rfl, hR, by rw [List.length_append]; exact Nat.le_trans (Nat.add_le_add_right has 1) (by decide), flats_strs _, ?_⟩
    refine ⟨le_size (by rw [List.length_map, List.length_singleton]; omega), names, pairs, ks2 ++ [k1], rfl, hR, by rw [List.length_append]; exact Nat.le_trans (Nat.add_le_add_right hk2 1) (by decide), ?_⟩
    simp_arith
    rw [emem2]
    refine ⟨_, rfl, hfm _, ?_⟩
    simp_arith
    refine hF _ ?_
    simp_arith
    exact hN2 _ ⟨c1, hs2, hB1.le (by omega), _, _, _, _, _, _, rfl⟩
/-- the first that is no kind -/
def strangeK (names : List Str) (x y : Str) : Option Str := if x ∈ names then (if y ∈ names then none else some y) else some x
def sp_Suits___call__ (C_Suits : Addr) (C_NoKind : Addr) : SpX := fun as Q E => ∃ (names : List Str) (pairs : List (Str × Str)) (x y : Str), as = [.sh (SuitsD C_Suits names pairs), .sh (.str x), .sh (.str y)] ∧ Rel names pairs ∧
  (strangeK names x y = none → Q (.v (.bl (fits pairs x y))) [.un, .un, .un]) ∧ ∀ z, strangeK names x y = some z → E C_NoKind (some ("kind", .str z)) [.un, .un, .un]
theorem len_Suits___call__ {C C2 : Addr} {as : SL} {Q : Rv → SL → Prop} {E : WXD} (h : sp_Suits___call__ C C2 as Q E) : as.length = 3 := by
  obtain ⟨_, _, _, _, rfl, _⟩ := h
  rfl
theorem ok_Suits___call__ {f : Addr} {fd : FuncData} (Fn : Fun K "__call__" "Suits.__call__" s_Suits___call__ f fd) {C_Suits C_NoKind : Addr} (cl_Suits : Cls K C_Suits) (na_Suits_its_kinds : NoAttr K C_Suits "its_kinds") {fx_NoKind : Addr} (xc_NoKind : XcT P K mg "NoKind" C_NoKind fx_NoKind "kind") (na_Suits_its_mates : NoAttr K C_Suits "its_mates") : FnG P w K mg base (L2N.CX P w) 2 f fd ["self", "one", "other"] (liftX K (sp_Suits___call__ C_Suits C_NoKind)) := by
  have nd := sc_Suits___call__.nd
  refine fnX Fn sc_Suits___call__ (fun as Q Ed h => ?len) (fun cdv A outer s H E hgd hr => ⟨_, _,
    (dss_cons (ds_for (passes_of rfl) rfl (di_e (de_tup (dv_cons (de_var (pv 1)) (dv_cons (de_var (pv 2)) dv_nil)))) (dg_name (i := 3) nd rfl (.inl rfl))
      (dss_one (ds_if (dt_cmp (op_notInA (hu65 hr)) sem_notIn (do_var (pv 3)) (do_e (de_attr cl_Suits na_Suits_its_kinds (do_var (pv 0)))) (by rfl)) (dss_one (ds_raise (k := 0) rfl xc_NoKind (hr.mono (by decide)) (de_var (pv 3)) rfl)) dss_nil)))
      (dss_one (ds_ret (de_cmp (op_inA (hu65 hr)) sem_in (do_var (pv 2)) (do_e (de_ix (hu1 hr) (do_e (de_attr cl_Suits na_Suits_its_mates (do_var (pv 0)))) (do_var (pv 1)))) (by rfl))))), fun as Q Ed h => ?_⟩)
  case len => exact len_Suits___call__ h
  · obtain ⟨names, pairs, x, y, rfl, hR, h, hE⟩ := h
    simp only [List.length_cons, List.length_nil, Nat.reduceAdd, Nat.reduceSub, List.replicate_succ, List.replicate_zero, List.cons_append, List.nil_append]
    refine sSeq_cut (fun ρ' => x ∈ names ∧ y ∈ names ∧ ∃ (s_kind : Sl),  ρ' = [.sh (SuitsD C_Suits names pairs), .sh (.str x), .sh (.str y), s_kind]) (fun N hN => ?_) ?_
    · simp_arith
      refine ⟨by decide, ?_⟩
      refine forL_on D.str (l := [x, y]) (fun p r ρ => (∀ z ∈ p, z ∈ names) ∧ ∃ (s_kind : Sl),  ρ = [.sh (SuitsD C_Suits names pairs), .sh (.str x), .sh (.str y), s_kind]) ⟨by simp, _, rfl⟩ ?_ ?_
      · rintro ρ ⟨hz, s_kind, rfl⟩
        exact hN _ ⟨hz x (by simp), hz y (by simp), _, rfl⟩
      · rintro p z r ρ N2 e hN2 ⟨hz, s_kind, rfl⟩
        simp_arith [SuitsD]
        refine ⟨_, look_kinds, gIn_strs ?_⟩
        by_cases hzm : z ∈ names
        · rw [decide_eq_true (mem_sortS.mpr hzm)]
          simp_arith
          refine hN2 _ ⟨fun w hw => ?_, _, rfl⟩
          rcases List.mem_append.mp hw with hw | hw
          · exact hz w hw
          · rw [List.mem_singleton.mp hw]; exact hzm
        · rw [decide_eq_false fun q => hzm (mem_sortS.mp q)]
          simp_arith
          refine hE z ?_
          unfold strangeK
          cases p with
          | nil => cases e; rw [if_neg hzm]
          | cons a p =>
            cases p with
            | nil => cases e; rw [if_pos (hz _ (by simp)), if_neg hzm]
            | cons b p => simp at e
    · rintro ρ' ⟨hx, hy, s_kind, rfl⟩
      have h := h (by unfold strangeK; rw [if_pos hx, if_pos hy])
      simp_arith [SuitsD]
      refine ⟨_, look_mates, ?_⟩
      simp_arith [D.key]
      refine ⟨_, kGet_mates hR.nd hx, gIn_strs ?_⟩
      have e : decide (y ∈ matesOf names pairs x) = fits pairs x y := by
        rw [Bool.eq_iff_iff, decide_eq_true_eq]
        exact mem_matesOf hR
      rw [e]
      exact h
/-- what is told of two kinds -/
def toldK (names : List Str) (pairs : List (Str × Str)) (x y : Str) : D := match strangeK names x y with
  | none => .bl (fits pairs x y)
  | some z => .tup [.str "none", .str z]
def sp__law_told (C_Suits : Addr) : SpD := fun as Q => ∃ (names : List Str) (pairs : List (Str × Str)) (x y : Str), as = [.sh (SuitsD C_Suits names pairs), .sh (.str x), .sh (.str y)] ∧ Rel names pairs ∧ Q (.v (toldK names pairs x y)) [.un, .un, .un]
theorem len__law_told {C : Addr} {as : SL} {Q : Rv → SL → Prop} (h : sp__law_told C as Q) : as.length = 3 := by
  obtain ⟨_, _, _, _, rfl, _⟩ := h
  rfl
theorem ok__law_told {f : Addr} {fd : FuncData} (Fn : Fun K "_law_told" "_law_told" s__law_told f fd) {C_SuitError C_NoKind C_Suits C_Lonely : Addr} (gc_SuitError : mg "SuitError" = some (.ref C_SuitError)) (xk_NoKind : ExcC K C_NoKind) (xm_NoKind_SuitError : PySem.W.exmOne K (.ref C_NoKind) (.ref C_SuitError) = some true) {a_Suits___call__ : Addr} {d_Suits___call__ : FuncData} (f_Suits___call__ : CalMX P w K mg base 2 a_Suits___call__ d_Suits___call__ ["self", "one", "other"] (sp_Suits___call__ C_Suits C_NoKind)) (z_isinstance : mg "isinstance" = none) (ki_NoKind_ValueError : PySem.W.kitOne K (.ref C_NoKind) (.type "ValueError") = some true) (z_ValueError : mg "ValueError" = none) (ki_NoKind_Lonely : PySem.W.kitOne K (.ref C_NoKind) (.ref C_Lonely) = some false) (gc_Lonely : mg "Lonely" = some (.ref C_Lonely)) (ki_NoKind_NoKind : PySem.W.kitOne K (.ref C_NoKind) (.ref C_NoKind) = some true) (gc_NoKind : mg "NoKind" = some (.ref C_NoKind)) (xn_NoKind_kind : PySem.W.findIn K (.ref C_NoKind) "kind" = some none) (co_Suits___call__ : StX.CallO K C_Suits a_Suits___call__) : FnG P w K mg base CX0 3 f fd ["_law_suits_here", "_law_one", "_law_other"] (lift K (sp__law_told C_Suits)) := by
  have nd := sc__law_told.nd
  refine fnD Fn sc__law_told (fun as Q h => ?len) (fun cdv A outer s H hgd hr => ⟨_, _,
    (dss_cons (ds_tryAs (fun C => C = C_NoKind) (i := 3) rfl rfl nd rfl rfl ⟨rfl, by decide, .inl gc_SuitError⟩ (fun pn xe po => (dss_one (ds_retX (dex_callO (de_var (pv 0)) co_Suits___call__ f_Suits___call__.ok hgd (hr.mono (by decide)) f_Suits___call__.b (dag_val (de_var (pv 1)) (dag_val (de_var (pv 2)) dag_nil))))))
      (fun a C d oe pn hk hz hf => (dss_one (ds_if (dw_pt (dw_and (dt_tr (do_e (de_isX (C := C) (d := d) (by rcases hk with rfl <;> assumption) hz hf (de_var (pv 3)) (by rfl) z_isinstance (by rfl) gc_NoKind))) (dw_and (dt_not (dt_tr (do_e (de_isX (C := C) (d := d) (by rcases hk with rfl <;> assumption) hz hf (de_var (pv 3)) (by rfl) z_isinstance (by rfl) gc_Lonely)))) (dw_and1 (dt_tr (do_e (de_isXb (C := C) (d := d) (ty := "ValueError") (by rcases hk with rfl <;> assumption) hz hf (de_var (pv 3)) (by rfl) z_isinstance (by rfl) z_ValueError (by decide +kernel)))))))) (dss_one (ds_ret (de_tup (dv_cons de_str (dv_cons (de_xf (C := C) (d := d) (xf_of (by rcases hk with rfl <;> assumption)) (by rcases hk with rfl <;> assumption) hz hf (de_var (pv 3))) dv_nil))))) dss_nil))))
      (dss_one (ds_ret de_str))), fun as Q h => ?_⟩)
  case len => exact len__law_told h
  · obtain ⟨names, pairs, x, y, rfl, hR, h⟩ := h
    simp only [List.length_cons, List.length_nil, Nat.reduceAdd, Nat.reduceSub, List.replicate_succ, List.replicate_zero, List.cons_append, List.nil_append]
    refine sSeq_cut (fun ρ' => False) (fun N hN => ?_) (fun ρ' z => z.elim)
    refine sTryAs_go fun W hW => ?_
    simp_arith [SuitsD]
    refine ⟨names, pairs, x, y, rfl, hR, fun e => ?_, fun z e => ?_⟩
    · simp_arith
      unfold toldK at h
      rw [e] at h
      exact h
    · simp_arith
      unfold toldK at h
      rw [e] at h
      refine hW _ _ _ ⟨_, xm_NoKind_SuitError, fun _ => ⟨rfl, fun a2 dd hd => ?_⟩, fun z => nomatch z⟩
      cases dd with
      | none => cases hd
      | some dd =>
        simp_arith
        refine ⟨_, ki_NoKind_NoKind, ?_⟩
        rw [if_pos rfl]
        refine ⟨_, ki_NoKind_Lonely, ?_⟩
        rw [if_pos (by decide)]
        refine ⟨_, ki_NoKind_ValueError, ?_⟩
        rw [if_pos rfl]
        exact ⟨le_size (by decide), h⟩
/-- a thing among the pairs that suit -/
def contB (names : List Str) (pairs : List (Str × Str)) (d : D) : Bool := match d with
  | .tup [.str x, .str y] => decide (x ∈ names) && fits pairs x y
  | _ => false
def sp_Suits___contains__ (C_Suits : Addr) : SpD := fun as Q => ∃ (names : List Str) (pairs : List (Str × Str)) (d : D), as = [.sh (SuitsD C_Suits names pairs), .sh d] ∧ Rel names pairs ∧ ItP d ∧ Q (.v (.bl (contB names pairs d))) [.un, .un]
theorem len_Suits___contains__ {C : Addr} {as : SL} {Q : Rv → SL → Prop} (h : sp_Suits___contains__ C as Q) : as.length = 2 := by
  obtain ⟨_, _, _, rfl, _⟩ := h
  rfl
theorem ok_Suits___contains__ {f : Addr} {fd : FuncData} (Fn : Fun K "__contains__" "Suits.__contains__" s_Suits___contains__ f fd) {C_Suits : Addr} (cl_Suits : Cls K C_Suits) (na_Suits_its_kinds : NoAttr K C_Suits "its_kinds") (z_len : mg "len" = none) (z_isinstance : mg "isinstance" = none) (z_tuple : mg "tuple" = none) (na_Suits_its_mates : NoAttr K C_Suits "its_mates") : FnG P w K mg base CX0 1 f fd ["self", "thing"] (lift K (sp_Suits___contains__ C_Suits)) := by
  have nd := sc_Suits___contains__.nd
  refine fnD Fn sc_Suits___contains__ (fun as Q h => ?len) (fun cdv A outer s H hgd hr => ⟨_, _,
    (dss_cons (ds_if (dw_pt (dw_or (dt_not (dt_tr (do_e (de_isi (T := "tuple") (by rfl) z_isinstance (do_var (pv 1)) (by rfl) z_tuple (by decide +kernel) (by decide))))) (dw_or (dt_cmp (op_neA (hu64 hr)) sem_ne (do_e (de_callB call_lenA sem_len (by rfl) z_len (by decide +kernel) (da_cons (do_var (pv 1)) da_nil))) (do_e de_int) (nomark _)) (dw_or1 (dt_cmp (op_notInX (hu65 hr)) sem_notInX (do_e (de_ix (hu1 hr) (do_var (pv 1)) (do_e de_int))) (do_e (de_attr cl_Suits na_Suits_its_kinds (do_var (pv 0)))) (by rfl)))))) (dss_one (ds_ret de_bl)) dss_nil)
      (dss_one (ds_ret (de_cmp (op_inX (hu65 hr)) sem_inX (do_e (de_ix (hu1 hr) (do_var (pv 1)) (do_e de_int))) (do_e (de_ix (hu1 hr) (do_e (de_attr cl_Suits na_Suits_its_mates (do_var (pv 0)))) (do_e (de_ix (hu1 hr) (do_var (pv 1)) (do_e de_int))))) (by rfl))))), fun as Q h => ?_⟩)
  case len => exact len_Suits___contains__ h
  · obtain ⟨names, pairs, d, rfl, hR, hI, h⟩ := h
    simp only [List.length_cons, List.length_nil, Nat.reduceAdd, Nat.reduceSub, List.replicate_succ, List.replicate_zero, List.cons_append, List.nil_append]
    obtain ⟨hty, hit⟩ := hI
    refine sSeq_cut (fun ρ' => ∃ x a, d = .tup [.str x, a] ∧ x ∈ names ∧ InK a ∧ ρ' = [.sh (SuitsD C_Suits names pairs), .sh d]) (fun N hN => ?_) ?_
    · refine sIf_go fun T hT hF => ?_
      have goT : contB names pairs d = false → T true [.sh (SuitsD C_Suits names pairs), .sh d] := fun e => by
        refine hT _ ?_
        simp_arith
        rw [e] at h
        exact h
      by_cases ht : ∃ l, d = .tup l
      · obtain ⟨l, rfl⟩ := ht
        simp_arith
        by_cases h2 : (l.length : Int) = 2
        · obtain ⟨a, b, rfl⟩ : ∃ a b, l = [a, b] := by
            match l, h2 with
            | [a, b], _ => exact ⟨a, b, rfl⟩
            | [], z => exact absurd z (by simp)
            | [_], z => exact absurd z (by simp)
            | _ :: _ :: _ :: _, z => exact absurd z (by simp only [List.length_cons]; omega)
          have iA := hit _ rfl a (by simp)
          have iB := hit _ rfl b (by simp)
          rw [decide_eq_true h2, if_neg (by decide)]
          refine ⟨_, atI_0, ?_⟩
          unfold SuitsD
          simp_arith
          refine ⟨_, look_kinds, gInX_inB iA ?_⟩
          rw [inB_sort]
          cases hA : inB names a with
          | false =>
            simp_arith
            refine goT ?_
            unfold contB
            cases a with
            | str x =>
              cases b with
              | str y =>
                rw [inB_str] at hA
                show (decide (x ∈ names) && _) = false
                rw [hA]
                rfl
              | _ => rfl
            | _ => rfl
          | true =>
            obtain ⟨x, rfl, hx⟩ := inB_true hA
            simp_arith
            exact hF _ (hN _ ⟨x, b, rfl, hx, iB, rfl⟩)
        · rw [decide_eq_false h2, if_pos (by decide)]
          refine goT ?_
          unfold contB
          split
          · rename_i e
            cases e
            exact absurd rfl h2
          · rfl
      · have hn : ∀ l, d ≠ .tup l := fun l e => ht ⟨l, e⟩
        have hc : contB names pairs d = false := by
          unfold contB
          split
          · exact (hn _ rfl).elim
          · rfl
        cases d with
        | tup l => exact (hn l rfl).elim
        | non => simp_arith; exact goT hc
        | bl b => simp_arith; exact goT hc
        | int b => simp_arith; exact goT hc
        | str b => simp_arith; exact goT hc
        | lst b => simp_arith; exact goT hc
        | dct b => simp_arith; exact goT hc
        | _ => cases hty
    rintro ρ' ⟨x, a, rfl, hx, hA, rfl⟩
    simp_arith [SuitsD]
    refine ⟨_, look_mates, ?_⟩
    simp_arith [D.key]
    refine ⟨_, kGet_mates hR.nd hx, gInX_inB hA ?_⟩
    have e : contB names pairs (.tup [.str x, a]) = inB (matesOf names pairs x) a := by
      by_cases ha : ∃ y, a = .str y
      · obtain ⟨y, rfl⟩ := ha
        rw [inB_str]
        show (decide (x ∈ names) && fits pairs x y) = _
        rw [decide_eq_true hx, Bool.true_and, Bool.eq_iff_iff, decide_eq_true_eq]
        exact (mem_matesOf hR).symm
      · rw [inB_no fun y e => ha ⟨y, e⟩]
        cases a with
        | str y => exact (ha ⟨y, rfl⟩).elim
        | _ => rfl
    rw [e] at h
    exact h
def sp__law_two_right (C_Suits : Addr) : SpD := fun as Q => ∃ (names : List Str) (pairs : List (Str × Str)) (x y : Str), as = [.sh (.dct (Plan names pairs)), .sh (SuitsD C_Suits names pairs), .sh (.str x), .sh (.str y)] ∧ Rel names pairs ∧ x.length ≤ 1000 ∧ y.length ≤ 1000 ∧ Q (.v (.bl true)) [.un, .un, .un, .un]
theorem len__law_two_right {C : Addr} {as : SL} {Q : Rv → SL → Prop} (h : sp__law_two_right C as Q) : as.length = 4 := by
  obtain ⟨_, _, _, _, rfl, _⟩ := h
  rfl
theorem ok__law_two_right {f : Addr} {fd : FuncData} (Fn : Fun K "_law_two_right" "_law_two_right" s__law_two_right f fd) {C_Suits : Addr} {a__law_fit : Addr} {d__law_fit : FuncData} (f__law_fit : Cal P w K mg base 1 "_law_fit" a__law_fit d__law_fit ["_law_plan_here", "_law_one", "_law_other"] sp__law_fit) {a__law_alike : Addr} {d__law_alike : FuncData} (f__law_alike : Cal P w K mg base 1 "_law_alike" a__law_alike d__law_alike ["_law_found", "_law_due"] sp__law_alike) {a__law_told : Addr} {d__law_told : FuncData} (f__law_told : Cal P w K mg base 3 "_law_told" a__law_told d__law_told ["_law_suits_here", "_law_one", "_law_other"] (sp__law_told C_Suits)) {a_Suits___contains__ : Addr} {d_Suits___contains__ : FuncData} (f_Suits___contains__ : CalM P w K mg base 1 a_Suits___contains__ d_Suits___contains__ ["self", "thing"] (sp_Suits___contains__ C_Suits)) (me_Suits___contains__ : Meth K C_Suits "__contains__" a_Suits___contains__) : FnG P w K mg base CX0 4 f fd ["_law_plan_here", "_law_suits_here", "_law_one", "_law_other"] (lift K (sp__law_two_right C_Suits)) := by
  have nd := sc__law_two_right.nd
  refine fnD Fn sc__law_two_right (fun as Q h => ?len) (fun cdv A outer s H hgd hr => ⟨_, _,
    (dss_cons (ds_set (i := 4) nd rfl (.inr rfl) (de_ix (hu1 hr) (do_var (pv 0)) (do_e de_str)))
      (dss_cons (ds_setLcF (i := 5) rfl nd rfl rfl (sw_true rfl rfl rfl (by decide +kernel)) (dic_of (di_e (de_lst (dv_cons (de_var (pv 2)) (dv_cons (de_var (pv 3)) dv_nil))))) (blkOk_by (own := [("_law_name", 7)]) (N := ["_law_plan_here", "_law_suits_here", "_law_one", "_law_other", "_law_names_here", "_law_strange", "_law_due", "_law_name"]) (sc := defScope s__law_two_right) (by decide +kernel)) (fun _ _ _ _ _ => (dg_name (i := 7) nd rfl (.inl rfl))) (fun _ _ _ _ _ => (dts_one (dt_cmp (op_notInA (hu65 hr)) sem_notIn (do_var (pv 7)) (do_var (pv 4)) (by rfl)))) (fun _ _ _ _ _ => (de_var (pv 7))))
      (dss_cons (ds_set (i := 6) nd rfl (.inl rfl) (de_if (dt_cmp (op_neA (hu64 hr)) sem_ne (do_var (pv 5)) (do_e (de_lst dv_nil)) (nomark _)) (de_tup (dv_cons de_str (dv_cons (de_ix (hu1 hr) (do_var (pv 5)) (do_e de_int)) dv_nil))) (de_callP f__law_fit.ok hgd (hr.mono (by decide)) (by rfl) f__law_fit.g f__law_fit.kp f__law_fit.b pass0 (da_cons (do_var (pv 0)) (da_cons (do_var (pv 2)) (da_cons (do_var (pv 3)) da_nil))))))
      (dss_cons (ds_if (dt_not (dt_tr (do_e (de_callP f__law_alike.ok hgd (hr.mono (by decide)) (by rfl) f__law_alike.g f__law_alike.kp f__law_alike.b pass0 (da_cons (do_e (de_call f__law_told.ok hgd (hr.mono (by decide)) (by rfl) f__law_told.g f__law_told.kp f__law_told.b pass0 (dag_val (de_var (pv 1)) (dag_val (de_var (pv 2)) (dag_val (de_var (pv 3)) dag_nil))))) (da_cons (do_var (pv 6)) da_nil)))))) (dss_one (ds_ret de_bl)) dss_nil)
      (dss_one (ds_ret (de_callP f__law_alike.ok hgd (hr.mono (by decide)) (by rfl) f__law_alike.g f__law_alike.kp f__law_alike.b pass0 (da_cons (do_e (de_cmp (op_inS me_Suits___contains__ f_Suits___contains__.ok hgd (hr.mono (by decide)) f_Suits___contains__.b pass0) sem_inS (do_e (de_tup (dv_cons (de_var (pv 2)) (dv_cons (de_var (pv 3)) dv_nil)))) (do_var (pv 1)) (by rfl))) (da_cons (do_e (de_and (de_cmp (op_eqA (hu64 hr)) sem_eq (do_var (pv 5)) (do_e (de_lst dv_nil)) (nomark _)) (de_one (de_callP f__law_fit.ok hgd (hr.mono (by decide)) (by rfl) f__law_fit.g f__law_fit.kp f__law_fit.b pass0 (da_cons (do_var (pv 0)) (da_cons (do_var (pv 2)) (da_cons (do_var (pv 3)) da_nil))))))) da_nil))))))))), fun as Q h => ?_⟩)
  case len => exact len__law_two_right h
  · obtain ⟨names, pairs, x, y, rfl, hR, hx, hy, h⟩ := h
    simp only [List.length_cons, List.length_nil, Nat.reduceAdd, Nat.reduceSub, List.replicate_succ, List.replicate_zero, List.cons_append, List.nil_append]
    have hfz : ∀ z : Str, z.length ≤ 1000 → FineE (.tup [.str "none", .str z]) := fun z hz =>
      ((Good.tupD (k := 1) (w := 12000) (n := 2) (l := [.str "none", .str z]) (by simp) fun w hw => by
        simp only [List.mem_cons, List.not_mem_nil, or_false] at hw
        rcases hw with rfl | rfl
        · exact (good_str (n := 10) (by decide)).mono (by decide) (by decide)
        · exact (good_str (n := 1000) hz).mono (by decide) (by decide))).fine (by decide) (by decide)
    have hI : ItP (.tup [.str x, .str y]) := ⟨rfl, fun l e z hz => by
      cases e
      simp only [List.mem_cons, List.not_mem_nil, or_false] at hz
      rcases hz with rfl | rfl <;> exact .inl (by simp [D.fit])⟩
    refine sSeq_cut (fun ρ' => ∃ (s_law_strange s_law_due s_law_name : Sl), ρ' = [.sh (.dct (Plan names pairs)), .sh (SuitsD C_Suits names pairs), .sh (.str x), .sh (.str y), .sh (.lst (names.map D.str)), s_law_strange, s_law_due, s_law_name]) (fun N hN => ?_) ?_
    · simp_arith [kGet_kinds]
      exact hN _ ⟨_, _, _, rfl⟩
    rintro ρ' ⟨s_law_strange, s_law_due, s_law_name, rfl⟩
    refine sSeq_cut (fun ρ' => ∃ (s_law_names_here s_law_due s_law_name : Sl), ρ' = [.sh (.dct (Plan names pairs)), .sh (SuitsD C_Suits names pairs), .sh (.str x), .sh (.str y), s_law_names_here, .ow (.l (([x, y].filter fun z => !decide (z ∈ names)).map D.str)), s_law_due, s_law_name]) (fun N hN => ?_) ?_
    · simp_arith
      refine ⟨le_size (by decide), ?_⟩
      refine lcL_st (l := [x, y]) D.str D.str (fun z => !decide (z ∈ names)) (fun ρ => ∃ (s_law_strange s_law_due s_law_name : Sl), ρ = [.sh (.dct (Plan names pairs)), .sh (SuitsD C_Suits names pairs), .sh (.str x), .sh (.str y), .sh (.lst (names.map D.str)), s_law_strange, s_law_due, s_law_name]) (by simp) ⟨_, _, _, rfl⟩ ?_ ?_
      · rintro z hz N4 acc ρ hacc ⟨s_law_strange, s_law_due, s_law_name, rfl⟩ hT hF
        simp_arith
        refine gIn_strs ?_
        cases q : decide (z ∈ names) with
        | true =>
          simp_arith
          exact hF (by rw [q]; rfl) _ ⟨_, _, _, rfl⟩
        | false =>
          simp_arith
          exact ⟨lt_size hacc, hT (by rw [q]; rfl) _ ⟨_, _, _, rfl⟩⟩
      · rintro ρ ⟨s_law_strange, s_law_due, s_law_name, rfl⟩
        exact hN _ ⟨_, _, _, rfl⟩
    rintro ρ' ⟨s_law_names_here, s_law_due, s_law_name, rfl⟩
    have efit : decide ((x, y) ∈ pairs ∨ (y, x) ∈ pairs) = fits pairs x y := rfl
    have key : (∃ z r, ([x, y].filter fun z => !decide (z ∈ names)) = z :: r ∧ z.length ≤ 1000 ∧ toldK names pairs x y = .tup [.str "none", .str z] ∧ contB names pairs (.tup [.str x, .str y]) = false) ∨ (([x, y].filter fun z => !decide (z ∈ names)) = [] ∧ x ∈ names ∧ y ∈ names) := by
      by_cases hxn : x ∈ names
      · by_cases hyn : y ∈ names
        · exact .inr ⟨by simp [hxn, hyn], hxn, hyn⟩
        · refine .inl ⟨y, [], by simp [hxn, hyn], hy, by unfold toldK strangeK; rw [if_pos hxn, if_neg hyn], ?_⟩
          show (decide (x ∈ names) && fits pairs x y) = false
          have : fits pairs x y = false := by
            cases q : fits pairs x y with
            | false => rfl
            | true => exact (hyn (fits_mem hR q).2).elim
          rw [this, Bool.and_false]
      · have e1 : toldK names pairs x y = .tup [.str "none", .str x] := by unfold toldK strangeK; rw [if_neg hxn]
        have e2 : contB names pairs (.tup [.str x, .str y]) = false := by show (decide (x ∈ names) && _) = false; rw [decide_eq_false hxn]; rfl
        by_cases hyn : y ∈ names
        · exact .inl ⟨x, [], by simp [hxn, hyn], hx, e1, e2⟩
        · exact .inl ⟨x, [y], by simp [hxn, hyn], hx, e1, e2⟩
    rcases key with ⟨z, r, e0, hz, e1, e2⟩ | ⟨e0, hxn, hyn⟩
    · rw [e0]
      have hne : ∀ {f : Bool → Bool} {Q : Rv → Prop}, gEq f (.lst (D.str z :: r.map D.str)) (.lst []) Q = Q (.v (.bl (f false))) := by
        intro f Q
        have := gEq_nil (f := f) (a := z :: r) (Q := Q)
        rw [decide_eq_false (by simp)] at this
        exact this
      refine sSeq_cut (fun ρ' => ∃ (s_law_names_here s_law_name : Sl), ρ' = [.sh (.dct (Plan names pairs)), .sh (SuitsD C_Suits names pairs), .sh (.str x), .sh (.str y), s_law_names_here, .ow (.l ((z :: r).map D.str)), .sh (.tup [.str "none", .str z]), s_law_name]) (fun N hN => ?_) ?_
      · simp_arith
        refine ⟨Nat.zero_le _, ?_⟩
        rw [hne]
        simp_arith
        exact ⟨le_size (by decide), hN _ ⟨_, _, rfl⟩⟩
      rintro ρ' ⟨s_law_names_here, s_law_name, rfl⟩
      refine sSeq_cut (fun ρ' => ∃ (s_law_names_here s_law_due s_law_name : Sl), ρ' = [.sh (.dct (Plan names pairs)), .sh (SuitsD C_Suits names pairs), .sh (.str x), .sh (.str y), s_law_names_here, .ow (.l ((z :: r).map D.str)), s_law_due, s_law_name]) (fun N hN => ?_) ?_
      · refine sIf_go fun T hT hF => ?_
        simp_arith
        refine ⟨names, pairs, x, y, rfl, hR, ?_⟩
        simp_arith
        rw [e1]
        simp_arith
        refine ⟨_, rfl, hfz z hz, ?_⟩
        simp_arith
        refine hF _ ?_
        simp only [sNext]
        exact hN _ ⟨_, _, _, rfl⟩
      rintro ρ' ⟨s_law_names_here, s_law_due, s_law_name, rfl⟩
      simp_arith
      refine ⟨le_size (by decide), rfl, names, pairs, _, rfl, hR, hI, ?_⟩
      simp_arith
      rw [e2]
      refine ⟨_, rfl, Nat.zero_le _, ?_⟩
      rw [hne]
      simp_arith
      refine ⟨_, rfl, fineE_bl, ?_⟩
      simp_arith
      exact h
    · rw [e0]
      have e1 : toldK names pairs x y = .bl (fits pairs x y) := by unfold toldK strangeK; rw [if_pos hxn, if_pos hyn]
      have e2 : contB names pairs (.tup [.str x, .str y]) = fits pairs x y := by show (decide (x ∈ names) && _) = _; rw [decide_eq_true hxn]; rfl
      refine sSeq_cut (fun ρ' => ∃ (s_law_names_here s_law_name : Sl), ρ' = [.sh (.dct (Plan names pairs)), .sh (SuitsD C_Suits names pairs), .sh (.str x), .sh (.str y), s_law_names_here, .ow (.l []), .sh (.bl (fits pairs x y)), s_law_name]) (fun N hN => ?_) ?_
      · simp_arith [List.map_nil]
        refine ⟨Nat.zero_le _, ?_⟩
        refine gEq_self (by rfl) ?_
        simp_arith
        refine ⟨names, pairs, x, y, rfl, ?_⟩
        simp_arith
        exact hN _ ⟨_, _, rfl⟩
      rintro ρ' ⟨s_law_names_here, s_law_name, rfl⟩
      refine sSeq_cut (fun ρ' => ∃ (s_law_names_here s_law_due s_law_name : Sl), ρ' = [.sh (.dct (Plan names pairs)), .sh (SuitsD C_Suits names pairs), .sh (.str x), .sh (.str y), s_law_names_here, .ow (.l []), s_law_due, s_law_name]) (fun N hN => ?_) ?_
      · refine sIf_go fun T hT hF => ?_
        simp_arith
        refine ⟨names, pairs, x, y, rfl, hR, ?_⟩
        simp_arith
        rw [e1]
        simp_arith
        refine ⟨_, rfl, fineE_bl, ?_⟩
        simp_arith
        refine hF _ ?_
        simp only [sNext]
        exact hN _ ⟨_, _, _, rfl⟩
      rintro ρ' ⟨s_law_names_here, s_law_due, s_law_name, rfl⟩
      simp_arith
      refine ⟨le_size (by decide), rfl, names, pairs, _, rfl, hR, hI, ?_⟩
      simp_arith
      rw [e2]
      refine ⟨_, rfl, Nat.zero_le _, ?_⟩
      refine gEq_self (by rfl) ?_
      simp_arith
      refine ⟨names, pairs, x, y, rfl, ?_⟩
      simp_arith
      refine ⟨_, rfl, fineE_bl, ?_⟩
      simp_arith
      exact h
theorem atI_neg13 {α : Type} {l : List α} {k : Nat} {x : α} (h : l.reverse[k]? = some x) : atI l (-1 - (k : Int)) = some x := by
  have hk : k < l.length := by
    have := (List.getElem?_eq_some_iff.mp h).1
    rwa [List.length_reverse] at this
  rw [List.getElem?_reverse hk] at h
  unfold atI ixN
  rw [if_neg (by omega), if_pos (by omega)]
  have e : ((-1 - (k : Int)) + l.length).toNat = l.length - 1 - k := by omega
  show l[((-1 - (k : Int)) + l.length).toNat]? = some x
  rw [e]
  exact h
def sp__law_first_right (C_Suits : Addr) : SpD := fun as Q => ∃ (names : List Str) (pairs : List (Str × Str)) (w : Int) (ks : List Str), as = [.sh (.dct (Plan names pairs)), .sh (SuitsD C_Suits names pairs), .sh (.int w), .sh (.lst (ks.map D.str))] ∧ Rel names pairs ∧ ks.length ≤ 1000 ∧ 0 ≤ w ∧ w < 7 ∧ Q (.v (.bl true)) [.un, .un, .un, .un]
theorem len__law_first_right {C : Addr} {as : SL} {Q : Rv → SL → Prop} (h : sp__law_first_right C as Q) : as.length = 4 := by
  obtain ⟨_, _, _, _, rfl, _⟩ := h
  rfl
theorem ok__law_first_right {f : Addr} {fd : FuncData} (Fn : Fun K "_law_first_right" "_law_first_right" s__law_first_right f fd) {C_Suits : Addr} (z_sorted : mg "sorted" = none) {a__law_alike : Addr} {d__law_alike : FuncData} (f__law_alike : Cal P w K mg base 1 "_law_alike" a__law_alike d__law_alike ["_law_found", "_law_due"] sp__law_alike) {a__law_mates : Addr} {d__law_mates : FuncData} (f__law_mates : Cal P w K mg base 2 "_law_mates" a__law_mates d__law_mates ["_law_plan_here", "_law_kinds"] sp__law_mates) (cl_Suits : Cls K C_Suits) {a_Suits_mates : Addr} {d_Suits_mates : FuncData} (f_Suits_mates : CalM P w K mg base 1 a_Suits_mates d_Suits_mates ["self", "kinds"] (sp_Suits_mates C_Suits)) {a__law_sorted_pairs : Addr} {d__law_sorted_pairs : FuncData} (f__law_sorted_pairs : Cal P w K mg base 1 "_law_sorted_pairs" a__law_sorted_pairs d__law_sorted_pairs ["_law_plan_here"] sp__law_sorted_pairs) {a_Suits_pairs : Addr} {d_Suits_pairs : FuncData} (f_Suits_pairs : CalM P w K mg base 1 a_Suits_pairs d_Suits_pairs ["self"] (sp_Suits_pairs C_Suits)) {a_Suits_lonely : Addr} {d_Suits_lonely : FuncData} (f_Suits_lonely : CalM P w K mg base 1 a_Suits_lonely d_Suits_lonely ["self"] (sp_Suits_lonely C_Suits)) (z_repr : mg "repr" = none) {a_Suits___repr__ : Addr} {d_Suits___repr__ : FuncData} (f_Suits___repr__ : CalM P w K mg base 1 a_Suits___repr__ d_Suits___repr__ ["self"] (sp_Suits___repr__ C_Suits)) (z_len : mg "len" = none) {a_Suits___len__ : Addr} {d_Suits___len__ : FuncData} (f_Suits___len__ : CalM P w K mg base 1 a_Suits___len__ d_Suits___len__ ["self"] (sp_Suits___len__ C_Suits)) {a_Suits_many : Addr} {d_Suits_many : FuncData} (f_Suits_many : CalM P w K mg base 1 a_Suits_many d_Suits_many ["self"] (sp_Suits_many C_Suits)) {a__law_two_right : Addr} {d__law_two_right : FuncData} (f__law_two_right : Cal P w K mg base 4 "_law_two_right" a__law_two_right d__law_two_right ["_law_plan_here", "_law_suits_here", "_law_one", "_law_other"] (sp__law_two_right C_Suits)) {a_Suits_kinds : Addr} {d_Suits_kinds : FuncData} (f_Suits_kinds : CalM P w K mg base 1 a_Suits_kinds d_Suits_kinds ["self"] (sp_Suits_kinds C_Suits)) (me_Suits_mates : Meth K C_Suits "mates" a_Suits_mates) (me_Suits_pairs : Meth K C_Suits "pairs" a_Suits_pairs) (me_Suits_lonely : Meth K C_Suits "lonely" a_Suits_lonely) (me_Suits___repr__ : Meth K C_Suits "__repr__" a_Suits___repr__) (me_Suits___len__ : Meth K C_Suits "__len__" a_Suits___len__) {p_Suits_many : Addr} (pr_Suits_many : PropOf K C_Suits "many" p_Suits_many a_Suits_many) (me_Suits_kinds : Meth K C_Suits "kinds" a_Suits_kinds) : FnG P w K mg base CX0 5 f fd ["_law_plan_here", "_law_suits_here", "_law_way", "_law_some"] (lift K (sp__law_first_right C_Suits)) := by
  have nd := sc__law_first_right.nd
  refine fnD Fn sc__law_first_right (fun as Q h => ?len) (fun cdv A outer s H hgd hr => ⟨_, _,
    (dss_cons (ds_set (i := 4) nd rfl (.inl rfl) (de_callB (call_sortedD (hu64 hr)) sem_sortedD (by rfl) z_sorted (by decide +kernel) (da_cons (do_e (de_ix (hu1 hr) (do_var (pv 0)) (do_e de_str))) da_nil)))
      (dss_cons (ds_par (i := 5) (j := 6) rfl nd rfl rfl (by decide) rfl rfl (dr_cons (de_ix (hu1 hr) (do_e (de_ix (hu1 hr) (do_var (pv 0)) (do_e de_str))) (do_e de_int)) (dr_cons (de_ix (hu1 hr) (do_e (de_ix (hu1 hr) (do_var (pv 0)) (do_e de_str))) (do_e (de_un un_neg sem_neg (do_e de_int)))) dr_nil)) (by rfl))
      (dss_cons (ds_if (dt_cmp (op_eqA (hu64 hr)) sem_eq (do_var (pv 2)) (do_e de_int) (nomark _)) (dss_one (ds_ret (de_callP f__law_alike.ok hgd (hr.mono (by decide)) (by rfl) f__law_alike.g f__law_alike.kp f__law_alike.b pass0 (da_cons (do_e (de_methV (de_var (pv 1)) cl_Suits me_Suits_mates f_Suits_mates.ok hgd (hr.mono (by decide)) f_Suits_mates.b pass0 (dag_val (de_var (pv 3)) dag_nil))) (da_cons (do_e (de_call f__law_mates.ok hgd (hr.mono (by decide)) (by rfl) f__law_mates.g f__law_mates.kp f__law_mates.b pass0 (dag_val (de_var (pv 0)) (dag_val (de_var (pv 3)) dag_nil)))) da_nil))))) dss_nil)
      (dss_cons (ds_if (dt_cmp (op_eqA (hu64 hr)) sem_eq (do_var (pv 2)) (do_e de_int) (nomark _)) (dss_one (ds_ret (de_callP f__law_alike.ok hgd (hr.mono (by decide)) (by rfl) f__law_alike.g f__law_alike.kp f__law_alike.b pass0 (da_cons (do_e (de_methV0 (de_var (pv 1)) cl_Suits me_Suits_pairs f_Suits_pairs.ok hgd (hr.mono (by decide)) f_Suits_pairs.b pass0)) (da_cons (do_e (de_call f__law_sorted_pairs.ok hgd (hr.mono (by decide)) (by rfl) f__law_sorted_pairs.g f__law_sorted_pairs.kp f__law_sorted_pairs.b pass0 (dag_val (de_var (pv 0)) dag_nil))) da_nil))))) dss_nil)
      (dss_cons (ds_if (dt_cmp (op_eqA (hu64 hr)) sem_eq (do_var (pv 2)) (do_e de_int) (nomark _)) (dss_one (ds_ret (de_callP f__law_alike.ok hgd (hr.mono (by decide)) (by rfl) f__law_alike.g f__law_alike.kp f__law_alike.b pass0 (da_cons (do_e (de_methV0 (de_var (pv 1)) cl_Suits me_Suits_lonely f_Suits_lonely.ok hgd (hr.mono (by decide)) f_Suits_lonely.b pass0)) (da_cons (do_e (de_lcF rfl nd (dic_var (pv 4)) (blkOk_by (own := [("_law_kind", 8)]) (N := ["_law_plan_here", "_law_suits_here", "_law_way", "_law_some", "_law_kinds", "_law_one", "_law_other", "_law_shown", "_law_kind"]) (sc := defScope s__law_first_right) (by decide +kernel)) (fun _ _ _ _ _ => (dg_name (i := 8) nd rfl (.inl rfl))) (fun _ _ _ _ _ => (dts_one (dt_cmp (op_eqA (hu64 hr)) sem_eq (do_e (de_call f__law_mates.ok hgd (hr.mono (by decide)) (by rfl) f__law_mates.g f__law_mates.kp f__law_mates.b pass0 (dag_val (de_var (pv 0)) (dag_val (de_lst (dv_cons (de_var (pv 8)) dv_nil)) dag_nil)))) (do_e (de_lst dv_nil)) (nomark _)))) (fun _ _ _ _ _ => (de_var (pv 8))))) da_nil))))) dss_nil)
      (dss_cons (ds_if (dt_cmp (op_eqA (hu64 hr)) sem_eq (do_var (pv 2)) (do_e de_int) (nomark _)) (dss_cons (ds_set (i := 7) nd rfl (.inl rfl) (de_lst (dv_cons (de_callB (call_reprE hgd (hu64 hr)) sem_reprS (by rfl) z_repr (by decide +kernel) (da_cons (do_var (pv 4)) da_nil)) (dv_cons (de_callB (call_reprE hgd (hu64 hr)) sem_reprS (by rfl) z_repr (by decide +kernel) (da_cons (do_e (de_call f__law_sorted_pairs.ok hgd (hr.mono (by decide)) (by rfl) f__law_sorted_pairs.g f__law_sorted_pairs.kp f__law_sorted_pairs.b pass0 (dag_val (de_var (pv 0)) dag_nil))) da_nil)) dv_nil))))
      (dss_one (ds_ret (de_cmp (op_eqA (hu64 hr)) sem_eq (do_e (de_callB (call_reprO me_Suits___repr__ f_Suits___repr__.ok hgd (hr.mono (by decide)) f_Suits___repr__.b pass0) sem_reprO (by rfl) z_repr (by decide +kernel) (da_cons (do_var (pv 1)) da_nil))) (do_e (de_op op_addA sem_addA (do_e (de_op op_addA sem_addA (do_e de_str) (do_e (de_join (do_var (pv 7)))))) (do_e de_str))) (nomark _))))) dss_nil)
      (dss_cons (ds_if (dt_cmp (op_eqA (hu64 hr)) sem_eq (do_var (pv 2)) (do_e de_int) (nomark _)) (dss_one (ds_ret (de_and (de_cmp (op_eqA (hu64 hr)) sem_eq (do_e (de_prop cl_Suits pr_Suits_many f_Suits_many.ok hgd (hr.mono (by decide)) f_Suits_many.b pass0 (de_var (pv 1)))) (do_e (de_callB call_lenA sem_len (by rfl) z_len (by decide +kernel) (da_cons (do_e (de_ix (hu1 hr) (do_var (pv 0)) (do_e de_str))) da_nil))) (nomark _)) (de_one (de_cmp (op_eqA (hu64 hr)) sem_eq (do_e (de_callB (call_lenO me_Suits___len__ f_Suits___len__.ok hgd (hr.mono (by decide)) f_Suits___len__.b pass0) sem_lenO (by rfl) z_len (by decide +kernel) (da_cons (do_var (pv 1)) da_nil))) (do_e (de_callB call_lenA sem_len (by rfl) z_len (by decide +kernel) (da_cons (do_var (pv 4)) da_nil))) (nomark _)))))) dss_nil)
      (dss_cons (ds_if (dt_cmp (op_eqA (hu64 hr)) sem_eq (do_var (pv 2)) (do_e de_int) (nomark _)) (dss_one (ds_ret (de_and (de_call f__law_two_right.ok hgd (hr.mono (by decide)) (by rfl) f__law_two_right.g f__law_two_right.kp f__law_two_right.b pass0 (dag_val (de_var (pv 0)) (dag_val (de_var (pv 1)) (dag_val (de_var (pv 5)) (dag_val (de_var (pv 6)) dag_nil))))) (de_one (de_call f__law_two_right.ok hgd (hr.mono (by decide)) (by rfl) f__law_two_right.g f__law_two_right.kp f__law_two_right.b pass0 (dag_val (de_var (pv 0)) (dag_val (de_var (pv 1)) (dag_val (de_var (pv 6)) (dag_val (de_var (pv 5)) dag_nil))))))))) dss_nil)
      (dss_one (ds_ret (de_callP f__law_alike.ok hgd (hr.mono (by decide)) (by rfl) f__law_alike.g f__law_alike.kp f__law_alike.b pass0 (da_cons (do_e (de_methV0 (de_var (pv 1)) cl_Suits me_Suits_kinds f_Suits_kinds.ok hgd (hr.mono (by decide)) f_Suits_kinds.b pass0)) (da_cons (do_var (pv 4)) da_nil))))))))))))), fun as Q h => ?_⟩)
  case len => exact len__law_first_right h
  · obtain ⟨names, pairs, w, ks, rfl, hR, hks, hw0, hw1, h⟩ := h
    simp only [List.length_cons, List.length_nil, Nat.reduceAdd, Nat.reduceSub, List.replicate_succ, List.replicate_zero, List.cons_append, List.nil_append]
    have hle := hR.le
    refine sSeq_cut (fun ρ' => ∃ (s_law_one s_law_other s_law_shown s_law_kind : Sl), ρ' = [.sh (.dct (Plan names pairs)), .sh (SuitsD C_Suits names pairs), .sh (.int w), .sh (.lst (ks.map D.str)), .ow (.l ((sortS names).map D.str)), s_law_one, s_law_other, s_law_shown, s_law_kind]) (fun N hN => ?_) ?_
    · simp_arith [kGet_kinds]
      exact hN _ ⟨_, _, _, _, rfl⟩
    rintro ρ' ⟨s_law_one, s_law_other, s_law_shown, s_law_kind, rfl⟩
    obtain ⟨k0, nr, hk0⟩ : ∃ k0 nr, names = k0 :: nr := by
      have := hR.ne
      cases names with
      | nil => simp at this
      | cons k0 nr => exact ⟨k0, nr, rfl⟩
    obtain ⟨k1, hk1, hm1⟩ : ∃ k1, atI (names.map D.str) (-1) = some (.str k1) ∧ k1 ∈ names := by
      have hlen : 0 < names.reverse.length := by rw [List.length_reverse]; exact hR.ne
      refine ⟨names.reverse[0], atI_neg13 (k := 0) ?_, List.mem_reverse.mp (List.getElem_mem hlen)⟩
      rw [← List.map_reverse, List.getElem?_map, List.getElem?_eq_getElem hlen]
      rfl
    have a1 : atI (names.map D.str) 0 = some (.str k0) := by rw [hk0]; exact atI_0
    refine sSeq_cut (fun ρ' => ∃ (s_law_shown s_law_kind : Sl), ρ' = [.sh (.dct (Plan names pairs)), .sh (SuitsD C_Suits names pairs), .sh (.int w), .sh (.lst (ks.map D.str)), .ow (.l ((sortS names).map D.str)), .sh (.str k0), .sh (.str k1), s_law_shown, s_law_kind]) (fun N hN => ?_) ?_
    · simp_arith [kGet_kinds, a1, hk1]
      exact hN _ ⟨_, _, rfl⟩
    rintro ρ' ⟨s_law_shown, s_law_kind, rfl⟩
    have hl0 : k0.length ≤ 1000 := by have := (hR.kd k0 (by rw [hk0]; simp)).2.1; omega
    have hl1 : k1.length ≤ 1000 := by have := (hR.kd k1 hm1).2.1; omega
    have elon : (sortS names).filter (fun x => decide (matesAll names pairs [x] = [])) = lonelyOf names pairs := by
      unfold lonelyOf
      refine List.filter_congr fun x hx => decide_eq_decide.mpr ⟨fun e => List.eq_nil_iff_forall_not_mem.mpr fun z hz => ?_, fun e => List.eq_nil_iff_forall_not_mem.mpr fun z hz => ?_⟩
      · have : z ∈ matesAll names pairs [x] := (mem_matesAll hR).mpr ⟨x, by simp, by rw [fits_symm]; exact (mem_matesOf hR).mp hz⟩
        rw [e] at this
        cases this
      · obtain ⟨y, hy, hf⟩ := (mem_matesAll hR).mp hz
        rw [List.mem_singleton.mp hy] at hf
        have : z ∈ matesOf names pairs x := (mem_matesOf hR).mpr (by rw [fits_symm]; exact hf)
        rw [e] at this
        cases this
    have hfm : ∀ l : List Str, l.length ≤ 8 → (∀ x ∈ l, x ∈ names) → FineE (.lst (l.map D.str)) := fun l hl hx => (good_strs (n := 8) (m := 8) hl fun x hm => (hR.kd x (hx x hm)).2.1).fine (by decide) (by decide)
    have hfk : FineE (.lst ((sortS names).map D.str)) := (kinds_good hR).fine (by decide) (by decide)
    have hfp : FineE (.lst ((sortP (pairs.map inOrd)).map PairD)) := (pairs_good hR).fine (by decide) (by decide)
    have hfa : FineE (.lst ((matesAll names pairs ks).map D.str)) := hfm _ (Nat.le_trans (matesAll_len ks) hle) fun x hx => mem_sortS.mp (List.mem_filter.mp hx).1
    have hfl : FineE (.lst ((lonelyOf names pairs).map D.str)) := hfm _ (Nat.le_trans (List.length_filter_le _ _) (by rw [length_sortS]; exact hle)) fun x hx => mem_sortS.mp (List.mem_filter.mp hx).1
    refine sSeq_cut (fun ρ' => w ≠ 0 ∧ ∃ (s_law_shown s_law_kind : Sl), ρ' = [.sh (.dct (Plan names pairs)), .sh (SuitsD C_Suits names pairs), .sh (.int w), .sh (.lst (ks.map D.str)), .ow (.l ((sortS names).map D.str)), .sh (.str k0), .sh (.str k1), s_law_shown, s_law_kind]) (fun N hN => ?_) ?_
    · refine sIf_go fun T hT hF => ?_
      simp_arith
      by_cases e : w = 0
      · rw [decide_eq_true e]
        refine hT _ ?_
        simp_arith
        refine ⟨⟨rfl, rfl⟩, names, pairs, ks, rfl, hR, hks, ?_⟩
        simp_arith
        refine ⟨names, pairs, ks, rfl, hR, hks, ?_⟩
        simp_arith
        refine ⟨_, rfl, hfa, ?_⟩
        simp_arith
        exact h
      · rw [decide_eq_false e]
        exact hF _ (hN _ ⟨e, _, _, rfl⟩)
    rintro ρ' ⟨n0, s_law_shown, s_law_kind, rfl⟩
    refine sSeq_cut (fun ρ' => w ≠ 1 ∧ ∃ (s_law_shown s_law_kind : Sl), ρ' = [.sh (.dct (Plan names pairs)), .sh (SuitsD C_Suits names pairs), .sh (.int w), .sh (.lst (ks.map D.str)), .ow (.l ((sortS names).map D.str)), .sh (.str k0), .sh (.str k1), s_law_shown, s_law_kind]) (fun N hN => ?_) ?_
    · refine sIf_go fun T hT hF => ?_
      simp_arith
      by_cases e : w = 1
      · rw [decide_eq_true e]
        refine hT _ ?_
        simp_arith
        refine ⟨⟨rfl, rfl⟩, names, pairs, rfl, ?_⟩
        simp_arith
        refine ⟨names, pairs, rfl, hR, ?_⟩
        simp_arith
        refine ⟨_, rfl, hfp, ?_⟩
        simp_arith
        exact h
      · rw [decide_eq_false e]
        exact hF _ (hN _ ⟨e, _, _, rfl⟩)
    rintro ρ' ⟨n1, s_law_shown, s_law_kind, rfl⟩
    refine sSeq_cut (fun ρ' => w ≠ 2 ∧ ∃ (s_law_shown s_law_kind : Sl), ρ' = [.sh (.dct (Plan names pairs)), .sh (SuitsD C_Suits names pairs), .sh (.int w), .sh (.lst (ks.map D.str)), .ow (.l ((sortS names).map D.str)), .sh (.str k0), .sh (.str k1), s_law_shown, s_law_kind]) (fun N hN => ?_) ?_
    · refine sIf_go fun T hT hF => ?_
      simp_arith
      by_cases e : w = 2
      · rw [decide_eq_true e]
        refine hT _ ?_
        simp_arith
        refine ⟨⟨rfl, rfl⟩, names, pairs, rfl, hR, ?_⟩
        simp_arith
        refine lcL_st D.str D.str (fun x => decide (matesAll names pairs [x] = [])) (fun ρ => ∃ (s_law_shown s_law_kind : Sl), ρ = [.sh (.dct (Plan names pairs)), .sh (SuitsD C_Suits names pairs), .sh (.int w), .sh (.lst (ks.map D.str)), .un, .sh (.str k0), .sh (.str k1), s_law_shown, s_law_kind]) (by rw [length_sortS]; omega) ⟨_, _, rfl⟩ ?_ ?_
        · rintro x hx N4 acc ρ hacc ⟨s_law_shown, s_law_kind, rfl⟩ hT hF
          simp_arith
          refine ⟨le_size (by decide), names, pairs, [x], rfl, hR, by simp, ?_⟩
          simp_arith
          refine ⟨Nat.zero_le _, ?_⟩
          by_cases q : matesAll names pairs [x] = []
          · rw [if_pos q]
            exact ⟨lt_size hacc, hT (decide_eq_true q) _ ⟨_, _, rfl⟩⟩
          · rw [if_neg q]
            exact hF (decide_eq_false q) _ ⟨_, _, rfl⟩
        · rintro ρ ⟨s_law_shown, s_law_kind, rfl⟩
          rw [elon]
          refine ⟨_, rfl, hfl, ?_⟩
          simp_arith
          exact h
      · rw [decide_eq_false e]
        exact hF _ (hN _ ⟨e, _, _, rfl⟩)
    rintro ρ' ⟨n2, s_law_shown, s_law_kind, rfl⟩
    refine sSeq_cut (fun ρ' => w ≠ 3 ∧ ∃ (s_law_shown s_law_kind : Sl), ρ' = [.sh (.dct (Plan names pairs)), .sh (SuitsD C_Suits names pairs), .sh (.int w), .sh (.lst (ks.map D.str)), .ow (.l ((sortS names).map D.str)), .sh (.str k0), .sh (.str k1), s_law_shown, s_law_kind]) (fun N hN => ?_) ?_
    · refine sIf_go fun T hT hF => ?_
      simp_arith
      by_cases e : w = 3
      · rw [decide_eq_true e]
        refine hT _ ?_
        simp_arith
        have k1g := kinds_good hR
        have k2g := pairs_good hR
        refine ⟨fitR_of 60 _ (fit_up (by decide) k1g.fit), k1g.small, Nat.le_trans k1g.wt (by decide), ?_⟩
        simp_arith
        refine ⟨names, pairs, rfl, hR, ?_⟩
        simp_arith
        refine ⟨fitR_of 60 _ (fit_up (by decide) k2g.fit), k2g.small, Nat.le_trans k2g.wt (by decide), ?_⟩
        simp_arith
        refine ⟨le_size (by decide), ?_⟩
        refine ⟨rfl, names, pairs, rfl, hR, ?_⟩
        simp_arith
        have hz := shownS_le hR
        have ej : Txt.join (Str.ofString ", ") [(D.lst ((sortS names).map D.str)).py.shown, (D.lst ((sortP (pairs.map inOrd)).map PairD)).py.shown] = ((D.lst ((sortS names).map D.str)).py.shown ++ Str.ofString ", ") ++ (D.lst ((sortP (pairs.map inOrd)).map PairD)).py.shown := by
          rfl
        have es : shownS names pairs = (((Str.ofString "Suits(" ++ (D.lst ((sortS names).map D.str)).py.shown) ++ Str.ofString ", ") ++ (D.lst ((sortP (pairs.map inOrd)).map PairD)).py.shown) ++ Str.ofString ")" := by
          unfold shownS
          rw [show Str.empty ++ Str.ofString "Suits(" = Str.ofString "Suits(" by decide +kernel]
        have ea : ∀ a b c : Str, (a ++ b) ++ c = a ++ (b ++ c) := fun a b c => by
          exact Str.append_assoc a b c
        have e6 : Str.ofString "Suits(" ++ Txt.join (Str.ofString ", ") [(D.lst ((sortS names).map D.str)).py.shown, (D.lst ((sortP (pairs.map inOrd)).map PairD)).py.shown] ++ Str.ofString ")" = shownS names pairs := by
          rw [es, ej]
          simp only [ea]
        have l5 := hz
        rw [es, strLen_append] at l5
        have l4 := l5
        rw [strLen_append] at l4
        have l3 := l4
        rw [strLen_append] at l3
        have l2 := l3
        rw [strLen_append] at l2
        have lc : (Str.ofString ", ").length = 2 := by decide +kernel
        refine ⟨_, rfl, [_, _], rfl, ?_, ?_, ?_, ?_⟩
        · simp only [List.map_cons, List.map_nil, List.sum_cons, List.sum_nil, List.length_cons, List.length_nil]
          omega
        · rw [ej, strLen_append, strLen_append]
          exact le_size (by omega)
        · rw [ej, strLen_append, strLen_append, strLen_append]
          exact le_size (by omega)
        · rw [e6, decide_eq_true rfl]
          exact h
      · rw [decide_eq_false e]
        exact hF _ (hN _ ⟨e, _, _, rfl⟩)
    rintro ρ' ⟨n3, s_law_shown, s_law_kind, rfl⟩
    refine sSeq_cut (fun ρ' => w ≠ 4 ∧ ∃ (s_law_shown s_law_kind : Sl), ρ' = [.sh (.dct (Plan names pairs)), .sh (SuitsD C_Suits names pairs), .sh (.int w), .sh (.lst (ks.map D.str)), .ow (.l ((sortS names).map D.str)), .sh (.str k0), .sh (.str k1), s_law_shown, s_law_kind]) (fun N hN => ?_) ?_
    · refine sIf_go fun T hT hF => ?_
      simp_arith
      by_cases e : w = 4
      · rw [decide_eq_true e]
        refine hT _ ?_
        simp_arith
        refine ⟨rfl, names, pairs, rfl, ?_⟩
        simp_arith [kGet_pairs, List.length_map]
        refine ⟨rfl, names, pairs, rfl, ?_⟩
        simp_arith
        refine ⟨_, rfl, Int.natCast_nonneg _, by omega, ?_⟩
        rw [length_sortS, decide_eq_true rfl]
        exact h
      · rw [decide_eq_false e]
        exact hF _ (hN _ ⟨e, _, _, rfl⟩)
    rintro ρ' ⟨n4, s_law_shown, s_law_kind, rfl⟩
    refine sSeq_cut (fun ρ' => w ≠ 5 ∧ ∃ (s_law_shown s_law_kind : Sl), ρ' = [.sh (.dct (Plan names pairs)), .sh (SuitsD C_Suits names pairs), .sh (.int w), .sh (.lst (ks.map D.str)), .ow (.l ((sortS names).map D.str)), .sh (.str k0), .sh (.str k1), s_law_shown, s_law_kind]) (fun N hN => ?_) ?_
    · refine sIf_go fun T hT hF => ?_
      simp_arith
      by_cases e : w = 5
      · rw [decide_eq_true e]
        refine hT _ ?_
        simp_arith
        refine ⟨names, pairs, k0, k1, rfl, hR, hl0, hl1, ?_⟩
        simp_arith
        refine ⟨names, pairs, k1, k0, rfl, hR, hl1, hl0, ?_⟩
        simp_arith
        exact h
      · rw [decide_eq_false e]
        exact hF _ (hN _ ⟨e, _, _, rfl⟩)
    rintro ρ' ⟨n5, s_law_shown, s_law_kind, rfl⟩
    simp_arith
    refine ⟨⟨rfl, rfl⟩, names, pairs, rfl, ?_⟩
    simp_arith
    refine ⟨_, rfl, hfk, ?_⟩
    simp_arith
    exact h
def sp__law_anew_right (C_Suits : Addr) : SpD := fun as Q => ∃ (names : List Str) (pairs : List (Str × Str)) (n : Nat) (c : Cn), as = [.bw 0 c, .sh (.dct (Plan names pairs))] ∧ Rel names pairs ∧ Bag (n + 200) c ∧ ∀ c', Bag n c' → Q (.v (.bl true)) [.bw 0 c', .un]
theorem len__law_anew_right {C : Addr} {as : SL} {Q : Rv → SL → Prop} (h : sp__law_anew_right C as Q) : as.length = 2 := by
  obtain ⟨_, _, _, _, rfl, _⟩ := h
  rfl
theorem ok__law_anew_right {f : Addr} {fd : FuncData} (Fn : Fun K "_law_anew_right" "_law_anew_right" s__law_anew_right f fd) {C_Suits : Addr} (z_list : mg "list" = none) {a_Suits___init__ : Addr} {d_Suits___init__ : FuncData} (f_Suits___init__ : CalMZ P w K mg base 3 a_Suits___init__ d_Suits___init__ ["self", "kinds", "pairs"] (sp_Suits___init__ C_Suits)) (gc_Suits : mg "Suits" = some (.ref C_Suits)) {a__law_take : Addr} {d__law_take : FuncData} (f__law_take : Cal P w K mg base 1 "_law_take" a__law_take d__law_take ["_law_bag_here", "_law_many"] sp__law_take) (z_len : mg "len" = none) (z_range : mg "range" = none) {a__law_first_right : Addr} {d__law_first_right : FuncData} (f__law_first_right : Cal P w K mg base 5 "_law_first_right" a__law_first_right d__law_first_right ["_law_plan_here", "_law_suits_here", "_law_way", "_law_some"] (sp__law_first_right C_Suits)) (mk_Suits___init__ : Mk K C_Suits a_Suits___init__) : FnG P w K mg base CX0 6 f fd ["_law_bag_here", "_law_plan_here"] (lift K (sp__law_anew_right C_Suits)) := by
  have nd := sc__law_anew_right.nd
  refine fnD Fn sc__law_anew_right (fun as Q h => ?len) (fun cdv A outer s H hgd hr => ⟨_, _,
    (dss_pl0 9 (dss_cons (ds_par (i := 2) (j := 3) rfl nd rfl rfl (by decide) rfl rfl (dr_cons (de_lst (dv_cons (de_keep 9 (de_callTy call_list_of sem_list (by rfl) z_list (by decide +kernel) (da_cons (do_pl 9 (de_ix (hu1 hr) (do_varP 9 (pv 1)) (do_pl 9 de_str))) da_nil))) (dv_cons (de_keep 9 (de_callTy call_list_of sem_list (by rfl) z_list (by decide +kernel) (da_cons (do_pl 9 (de_ix (hu1 hr) (do_varP 9 (pv 1)) (do_pl 9 de_str))) da_nil))) dv_nil))) (dr_cons (de_lst dv_nil) dr_nil)) (by rfl))
      (dss_cons (ds_set (i := 4) nd rfl (.inl rfl) (de_fz (de_makeZ 9 mk_Suits___init__ f_Suits___init__.ok hgd (hr.mono (by decide)) (by rfl) gc_Suits f_Suits___init__.b pass0 (dag_val (de_ix (hu1 hr) (do_varP 9 (pv 2)) (do_pl 9 de_int)) (dag_val (de_ix (hu1 hr) (do_varP 9 (pv 2)) (do_pl 9 de_int)) dag_nil)))))
      (dss_cons (ds_set (i := 5) nd rfl (.inl rfl) (de_ix (hu1 hr) (do_pl 9 (de_ix (hu1 hr) (do_varP 9 (pv 1)) (do_pl 9 de_str))) (do_pl 9 (de_call f__law_take.ok hgd (hr.mono (by decide)) (by rfl) f__law_take.g f__law_take.kp f__law_take.b pass0 (dag_bor (pv 0) (dag_val (de_callB call_lenA sem_len (by rfl) z_len (by decide +kernel) (da_cons (do_pl 9 (de_ix (hu1 hr) (do_varP 9 (pv 1)) (do_pl 9 de_str))) da_nil)) dag_nil))))))
      (dss_cons (ds_for PassesOwn.never rfl (di_r1 (by rfl) z_range (dv_cons de_int dv_nil)) (dg_name (i := 6) nd rfl (.inl rfl))
      (dss_one (ds_expr (de_insert (pv 3) (dv_cons (de_call f__law_take.ok hgd (hr.mono (by decide)) (by rfl) f__law_take.g f__law_take.kp f__law_take.b pass0 (dag_bor (pv 0) (dag_val (de_op op_addA sem_addA (do_varP 9 (pv 6)) (do_pl 9 de_int)) dag_nil))) (dv_cons (de_var (pv 6)) dv_nil))))))
      (dss_cons (ds_expr (de_reverseE0 9 (de_ix (hu1 hr) (do_varP 9 (pv 2)) (do_pl 9 de_int))))
      (dss_cons (ds_expr (de_reverseE0 9 (de_ix (hu1 hr) (do_varP 9 (pv 2)) (do_pl 9 de_int))))
      (dss_cons (ds_for PassesOwn.never rfl (di_e (de_op op_addA sem_addA (do_varP 9 (pv 3)) (do_pl 9 (de_slice (do_varP 9 (pv 3)) dop_none (dop_some de_int))))) (dg_name (i := 6) nd rfl (.inl rfl))
      (dss_cons (ds_setLcF (i := 7) rfl nd rfl rfl (sw_true rfl rfl rfl (by decide +kernel)) (dic_of (di_e (de_ix (hu1 hr) (do_varP 9 (pv 1)) (do_pl 9 de_str)))) (blkOk_by (own := [("_law_one", 8)]) (N := ["_law_bag_here", "_law_plan_here", "_law_handed", "_law_ways", "_law_suits_here", "_law_kind", "_law_way", "_law_some", "_law_one", "0pile"]) (sc := defScope s__law_anew_right) (by decide +kernel)) (fun _ _ _ _ _ => (dg_name (i := 8) nd rfl (.inl rfl))) (fun _ _ _ _ _ => (dts_one (dt_cmp (op_eqA (hu64 hr)) sem_eq (do_pl 9 (de_call f__law_take.ok hgd (hr.mono (by decide)) (by rfl) f__law_take.g f__law_take.kp f__law_take.b pass0 (dag_bor (pv 0) (dag_val de_int dag_nil)))) (do_pl 9 de_int) (nomark _)))) (fun _ _ _ _ _ => (de_var (pv 8))))
      (dss_cons (ds_if (dt_not (dt_tr (do_pl 9 (de_call f__law_first_right.ok hgd (hr.mono (by decide)) (by rfl) f__law_first_right.g f__law_first_right.kp f__law_first_right.b pass0 (dag_val (de_var (pv 1)) (dag_val (de_var (pv 4)) (dag_val (de_var (pv 6)) (dag_val (de_var (pv 7)) dag_nil)))))))) (dss_one (ds_ret de_bl)) dss_nil)
      (dss_cons (ds_expr (de_appendE 9 (de_ix (hu1 hr) (do_varP 9 (pv 2)) (do_pl 9 de_int)) (dv_cons de_str dv_nil)))
      (dss_cons (ds_storeP 9 (hu1 hr) (de_ix (hu1 hr) (do_varP 9 (pv 2)) (do_pl 9 de_int)) (do_pl 9 de_int) de_str (pg_sub (de_ix (hu1 hr) (do_varP 9 (pv 2)) (do_pl 9 de_int)).pe (do_pl 9 de_int).pe (set_any (hu1 hr))))
      (dss_cons (ds_expr (de_clearE0 9 (de_ix (hu1 hr) (do_varP 9 (pv 2)) (do_pl 9 de_int))))
      (dss_one (ds_expr (de_appendE 9 (de_ix (hu1 hr) (do_varP 9 (pv 2)) (do_pl 9 de_int)) (dv_cons (de_tup (dv_cons (de_var (pv 5)) (dv_cons (de_var (pv 5)) dv_nil))) dv_nil))))))))))
      (dss_one (ds_ret de_bl)))))))))), fun as Q h => ?_⟩)
  case len => exact len__law_anew_right h
  · obtain ⟨names, pairs, n, c, rfl, hR, hB, h⟩ := h
    simp only [List.length_cons, List.length_nil, Nat.reduceAdd, Nat.reduceSub, List.replicate_succ, List.replicate_zero, List.cons_append, List.nil_append]
    refine ⟨[], rfl, ?_⟩
    simp only [List.set_cons_succ, List.set_cons_zero]
    have hle := hR.le
    have hpl := hR.pl
    refine sSeq_cut (fun ρ' => ∃ p q : Addr, q ≠ p ∧ ∃ (s_law_suits_here s_law_kind s_law_way s_law_some s_law_one : Sl), ρ' = [.bw 0 c, .sh (.dct (Plan names pairs)), .ow (.l [.at p, .at q]), .ow (.l []), s_law_suits_here, s_law_kind, s_law_way, s_law_some, s_law_one, .pl [(q, .l (pairs.map PairD)), (p, .l (names.map D.str))]]) (fun N hN => ?_) ?_
    · simp_arith! [kGet_kinds, kGet_pairs]
      refine ⟨[], List.Sublist.refl _, fun p h0 => ⟨_, List.Sublist.refl _, fun q h1 => ⟨le_size (by decide), le_size (by decide), hN _ ⟨p, q, fun e => h1 (by simp [e]), _, _, _, _, _, rfl⟩⟩⟩⟩
    rintro ρ' ⟨p, q, npq, s_law_suits_here, s_law_kind, s_law_way, s_law_some, s_law_one, rfl⟩
    have lq : List.lookup q [(q, Cn.l (pairs.map PairD)), (p, Cn.l (names.map D.str))] = some (.l (pairs.map PairD)) := by rw [List.lookup_cons, beq_self_eq_true]
    have lp : List.lookup p [(q, Cn.l (pairs.map PairD)), (p, Cn.l (names.map D.str))] = some (.l (names.map D.str)) := by
      have : (p == q) = false := beq_false_of_ne fun e => npq e.symm
      rw [List.lookup_cons, this, List.lookup_cons, beq_self_eq_true]
    generalize hhs : [(q, Cn.l (pairs.map PairD)), (p, Cn.l (names.map D.str))] = hs at *
    clear hhs
    refine sSeq_cut (fun ρ' => ∃ (s_law_kind s_law_way s_law_some s_law_one : Sl), ρ' = [.bw 0 c, .sh (.dct (Plan names pairs)), .ow (.l [.at p, .at q]), .ow (.l []), .sh (SuitsD C_Suits names pairs), s_law_kind, s_law_way, s_law_some, s_law_one, .pl hs]) (fun N hN => ?_) ?_
    · simp_arith!
      refine ⟨names, pairs, p, q, hs, rfl, lp, lq, hR, ?_⟩
      simp_arith!
      exact hN _ ⟨_, _, _, _, rfl⟩
    rintro ρ' ⟨s_law_kind, s_law_way, s_law_some, s_law_one, rfl⟩
    refine sSeq_cut (fun ρ' => ∃ (c : Cn) (k : Str), Bag (n + 199) c ∧ k ∈ names ∧ ∃ (s_law_way s_law_some s_law_one : Sl), ρ' = [.bw 0 c, .sh (.dct (Plan names pairs)), .ow (.l [.at p, .at q]), .ow (.l []), .sh (SuitsD C_Suits names pairs), .sh (.str k), s_law_way, s_law_some, s_law_one, .pl hs]) (fun N hN => ?_) ?_
    · simp_arith! [kGet_kinds, List.length_map]
      refine ⟨n + 199, c, _, rfl, hB, by have := hR.ne; omega, by omega, fun v c2 hB2 hv0 hv1 => ?_⟩
      simp_arith!
      obtain ⟨k, hk, ek⟩ : ∃ k, k ∈ names ∧ atI (names.map D.str) v = some (.str k) := by
        obtain ⟨j, rfl⟩ := Int.eq_ofNat_of_zero_le hv0
        have hj : j < names.length := by omega
        refine ⟨names[j], List.getElem_mem hj, ?_⟩
        refine atI_int (by omega) ?_
        rw [Int.toNat_natCast, List.getElem?_map, List.getElem?_eq_getElem hj]
        rfl
      refine ⟨_, ek, hN _ ⟨c2, k, hB2, hk, _, _, _, rfl⟩⟩
    rintro ρ' ⟨c2, k, hB2, hk, s_law_way, s_law_some, s_law_one, rfl⟩
    refine sSeq_cut (fun ρ' => ∃ (c : Cn) (ws : List Int), Bag (n + 192) c ∧ ws.length = 7 ∧ (∀ w ∈ ws, 0 ≤ w ∧ w < 7) ∧ ∃ (s_law_way s_law_some s_law_one : Sl), ρ' = [.bw 0 c, .sh (.dct (Plan names pairs)), .ow (.l [.at p, .at q]), .ow (.l (ws.map D.int)), .sh (SuitsD C_Suits names pairs), .sh (.str k), s_law_way, s_law_some, s_law_one, .pl hs]) (fun N hN => ?_) ?_
    · simp_arith! [big]
      refine ⟨by omega, by omega, forL_rng (fun i ρ => ∃ (c : Cn) (ws : List Int), Bag (n + (199 - i)) c ∧ ws.length = i ∧ (∀ w ∈ ws, 0 ≤ w ∧ w < 7) ∧ ∃ (s_law_way s_law_some s_law_one : Sl), ρ = [.bw 0 c, .sh (.dct (Plan names pairs)), .ow (.l [.at p, .at q]), .ow (.l (ws.map D.int)), .sh (SuitsD C_Suits names pairs), .sh (.str k), s_law_way, s_law_some, s_law_one, .pl hs]) ⟨c2, [], hB2, rfl, by simp, _, _, _, rfl⟩ ?_ ?_⟩
      · rintro ρ ⟨c, ws, hB3, hwl, hws, s_law_way, s_law_some, s_law_one, rfl⟩
        exact hN _ ⟨c, ws, hB3.le (by omega), by omega, hws, _, _, _, rfl⟩
      · rintro i ρ N2 hi hN2 ⟨c, ws, hB3, hwl, hws, s_law_way, s_law_some, s_law_one, rfl⟩
        simp_arith!
        refine ⟨n + (199 - (i + 1)), c, _, rfl, hB3.le (by omega), by omega, by omega, fun v c3 hB4 hv0 hv1 => ?_⟩
        simp_arith!
        refine ⟨lt_size (by rw [List.length_map]; omega), hv0, by omega, hN2 _ ⟨c3, ws.take v.toNat ++ [(i : Int)] ++ ws.drop v.toNat, hB4, ?_, ?_, ?_⟩⟩
        · simp only [List.length_append, List.length_take, List.length_drop, List.length_singleton]
          omega
        · intro w hw
          have hi7 : i < 7 := by simpa using hi
          rcases List.mem_append.mp hw with hw | hw
          · rcases List.mem_append.mp hw with hw | hw
            · exact hws w (List.mem_of_mem_take hw)
            · rw [List.mem_singleton.mp hw]
              omega
          · exact hws w (List.mem_of_mem_drop hw)
        · have e1 : List.take v.toNat (ws.map D.int) ++ [D.int (0 + (i : Int) * 1)] ++ List.drop v.toNat (ws.map D.int) = (ws.take v.toNat ++ [(i : Int)] ++ ws.drop v.toNat).map D.int := by
            rw [List.map_append, List.map_append, List.map_take, List.map_drop, show 0 + (i : Int) * 1 = (i : Int) by omega]
            rfl
          rw [e1]
          exact ⟨_, _, _, rfl⟩
    rintro ρ' ⟨c3, ws, hB3, hwl, hws, s_law_way, s_law_some, s_law_one, rfl⟩
    refine sSeq_cut (fun ρ' => ∃ hs ds ds2, hs.lookup p = some (.l ds) ∧ hs.lookup q = some (.l ds2) ∧ ds.length ≤ 8 ∧ ∃ (s_law_way s_law_some s_law_one : Sl), ρ' = [.bw 0 c3, .sh (.dct (Plan names pairs)), .ow (.l [.at p, .at q]), .ow (.l (ws.map D.int)), .sh (SuitsD C_Suits names pairs), .sh (.str k), s_law_way, s_law_some, s_law_one, .pl hs]) (fun N hN => ?_) ?_
    · simp_arith!
      refine ⟨p, rfl, _, lp, hN _ ⟨_, _, _, lookup_plSet_eq _ lp, by rw [lookup_plSet_ne npq]; exact lq, by rw [List.length_reverse, List.length_map]; exact hle, _, _, _, rfl⟩⟩
    clear lp lq hs
    rintro ρ' ⟨hs, ds, ds2, lp, lq, hd, s_law_way, s_law_some, s_law_one, rfl⟩
    refine sSeq_cut (fun ρ' => ∃ hs ds ds2, hs.lookup p = some (.l ds) ∧ hs.lookup q = some (.l ds2) ∧ ds.length ≤ 8 ∧ ∃ (s_law_way s_law_some s_law_one : Sl), ρ' = [.bw 0 c3, .sh (.dct (Plan names pairs)), .ow (.l [.at p, .at q]), .ow (.l (ws.map D.int)), .sh (SuitsD C_Suits names pairs), .sh (.str k), s_law_way, s_law_some, s_law_one, .pl hs]) (fun N hN => ?_) ?_
    · simp_arith!
      refine ⟨q, rfl, _, lq, hN _ ⟨_, _, _, by rw [lookup_plSet_ne (Ne.symm npq)]; exact lp, lookup_plSet_eq _ lq, hd, _, _, _, rfl⟩⟩
    clear lp lq hd hs ds ds2
    rintro ρ' ⟨hs, ds, ds2, lp, lq, hd, s_law_way, s_law_some, s_law_one, rfl⟩
    simp_arith!
    have ecut : List.map D.int ws ++ cut (List.map D.int ws) none (some 3) = (ws ++ ws.take 3).map D.int := by
      rw [show (some (3 : Int)) = some ((3 : Nat) : Int) by rfl, cut_to, List.map_append, List.map_take]
    rw [← List.length_append, ecut]
    have hws2 : ∀ w ∈ ws ++ ws.take 3, 0 ≤ w ∧ w < 7 := fun w hw => (List.mem_append.mp hw).elim (hws w) fun hw => hws w (List.mem_of_mem_take hw)
    refine ⟨le_size (by simp only [List.length_map, List.length_append, List.length_take]; omega), ?_⟩
    refine forL_on D.int (l := ws ++ ws.take 3) (fun pre r ρ => ∃ (c : Cn) (hs : Pile) (ds ds2 : List D), Bag (n + (192 - 10 * pre.length)) c ∧ hs.lookup p = some (.l ds) ∧ hs.lookup q = some (.l ds2) ∧ ds.length ≤ 8 + pre.length ∧ ∃ (s_law_way s_law_some s_law_one : Sl), ρ = [.bw 0 c, .sh (.dct (Plan names pairs)), .ow (.l [.at p, .at q]), .ow (.l (ws.map D.int)), .sh (SuitsD C_Suits names pairs), .sh (.str k), s_law_way, s_law_some, s_law_one, .pl hs]) ⟨c3, hs, ds, ds2, hB3, lp, lq, hd, _, _, _, rfl⟩ ?_ ?_
    · rintro ρ ⟨c, hs, ds, ds2, hB4, _, _, _, s_law_way, s_law_some, s_law_one, rfl⟩
      simp_arith!
      exact h _ (hB4.le (by omega))
    clear lp lq hd hs ds ds2
    rintro pre w r ρ N2 e hN2 ⟨c4, hs, ds, ds2, hB4, lp, lq, hd, s_law_way, s_law_some, s_law_one, rfl⟩
    have hpre : pre.length < 10 := by
      have := congrArg List.length e
      simp only [List.length_append, List.length_take, List.length_cons] at this
      omega
    obtain ⟨hw0, hw1⟩ := hws2 w (by rw [e]; simp)
    simp_arith!
    refine sSeq_cut (fun ρ' => ∃ (c : Cn) (ks : List Str), Bag (n + (192 - 10 * (pre.length + 1))) c ∧ ks.length ≤ 8 ∧ ∃ (s_law_one : Sl), ρ' = [.bw 0 c, .sh (.dct (Plan names pairs)), .ow (.l [.at p, .at q]), .ow (.l (ws.map D.int)), .sh (SuitsD C_Suits names pairs), .sh (.str k), .sh (.int w), .ow (.l (ks.map D.str)), s_law_one, .pl hs]) (fun N hN => ?_) ?_
    · simp_arith! [kGet_kinds]
      refine lcL_on D.str (fun pr r acc ρ => ∃ (c : Cn) (ks : List Str), Bag (n + (192 - 10 * pre.length - pr.length)) c ∧ acc = ks.map D.str ∧ ks.length ≤ pr.length ∧ ∃ (s_law_some s_law_one : Sl), ρ = [.bw 0 c, .sh (.dct (Plan names pairs)), .ow (.l [.at p, .at q]), .ow (.l (ws.map D.int)), .sh (SuitsD C_Suits names pairs), .sh (.str k), .sh (.int w), s_law_some, s_law_one, .pl hs]) ⟨c4, [], hB4, rfl, Nat.le_refl _, _, _, rfl⟩ ?_ ?_
      · rintro acc ρ ⟨c, ks, hB5, rfl, hks, s_law_some, s_law_one, rfl⟩
        exact hN _ ⟨c, ks, hB5.le (by omega), by omega, _, rfl⟩
      · rintro pr x r acc ρ N4 hl hN4 ⟨c, ks, hB5, rfl, hks, s_law_some, s_law_one, rfl⟩
        have hp8 : pr.length < 8 := by
          have h2 := congrArg List.length hl
          simp only [List.length_append, List.length_cons] at h2
          omega
        simp_arith!
        refine ⟨n + (192 - 10 * pre.length - (pr.length + 1)), c, 2, rfl, hB5.le (by omega), by decide, by decide, fun v c6 hB6 hv0 hv1 => ?_⟩
        simp_arith!
        have hlen : (pr ++ [x]).length = pr.length + 1 := by rw [List.length_append]; rfl
        by_cases e0 : v = 0
        · rw [if_pos e0]
          refine ⟨lt_size (by rw [List.length_map]; omega), hN4 _ _ ⟨c6, ks ++ [x], by rw [hlen]; exact hB6, by rw [List.map_append]; rfl, by rw [List.length_append, hlen]; exact Nat.add_le_add_right hks 1, _, _, rfl⟩⟩
        · rw [if_neg e0]
          exact hN4 _ _ ⟨c6, ks, by rw [hlen]; exact hB6, rfl, by rw [hlen]; omega, _, _, rfl⟩
    rintro ρ' ⟨c5, ks, hB5, hks, s_law_one, rfl⟩
    refine sSeq_cut (fun ρ' => ∃ (s_law_some s_law_one : Sl), ρ' = [.bw 0 c5, .sh (.dct (Plan names pairs)), .ow (.l [.at p, .at q]), .ow (.l (ws.map D.int)), .sh (SuitsD C_Suits names pairs), .sh (.str k), .sh (.int w), s_law_some, s_law_one, .pl hs]) (fun N hN => ?_) ?_
    · refine sIf_go fun T hT hF => ?_
      simp_arith!
      refine ⟨names, pairs, w, ks, rfl, hR, by omega, hw0, hw1, ?_⟩
      simp_arith!
      exact hF _ (hN _ ⟨_, _, rfl⟩)
    rintro ρ' ⟨s_law_some, s_law_one, rfl⟩
    refine sSeq_go fun N3 hN3 => ?_
    simp_arith!
    refine ⟨p, rfl, ⟨_, lp⟩, _, lp, lt_size (by omega), hN3 _ ?_⟩
    clear hN3
    obtain ⟨hs2, ehs2⟩ : ∃ hs2, hs2 = plSet hs p (Cn.l (ds ++ [D.str (Str.ofString "zz")])) := ⟨_, rfl⟩
    rw [← ehs2]
    have lp2 : hs2.lookup p = some (Cn.l (ds ++ [D.str (Str.ofString "zz")])) := by rw [ehs2]; exact lookup_plSet_eq _ lp
    have lq2 : hs2.lookup q = some (Cn.l ds2) := by rw [ehs2, lookup_plSet_ne npq]; exact lq
    clear ehs2
    refine sSeq_go fun N3 hN3 => ?_
    simp_arith!
    refine ⟨p, rfl, _, lp2, 0, by unfold ixN; rw [if_pos (Int.le_refl 0), if_pos (by rw [List.length_append, List.length_singleton]; omega)]; rfl, hN3 _ ?_⟩
    clear hN3
    obtain ⟨ds3, hd3, eds3⟩ : ∃ ds3 : List D, ds3.length ≤ 8 + (pre.length + 1) ∧ ds3 = (ds ++ [D.str (Str.ofString "zz")]).set 0 (D.str (Str.ofString "zz")) := ⟨_, by rw [List.length_set, List.length_append]; exact Nat.add_le_add_right hd 1, rfl⟩
    rw [← eds3]
    obtain ⟨hs3, ehs3⟩ : ∃ hs3, hs3 = plSet hs2 p (Cn.l ds3) := ⟨_, rfl⟩
    rw [← ehs3]
    have lp3 : hs3.lookup p = some (Cn.l ds3) := by rw [ehs3]; exact lookup_plSet_eq _ lp2
    have lq3 : hs3.lookup q = some (Cn.l ds2) := by rw [ehs3, lookup_plSet_ne npq]; exact lq2
    clear ehs3 lp2 lq2 eds3
    refine sSeq_go fun N3 hN3 => ?_
    simp_arith!
    refine ⟨q, rfl, _, lq3, hN3 _ ?_⟩
    clear hN3
    obtain ⟨hs4, ehs4⟩ : ∃ hs4, hs4 = plSet hs3 q (Cn.l []) := ⟨_, rfl⟩
    rw [← ehs4]
    have lp4 : hs4.lookup p = some (Cn.l ds3) := by rw [ehs4, lookup_plSet_ne (Ne.symm npq)]; exact lp3
    have lq4 : hs4.lookup q = some (Cn.l []) := by rw [ehs4]; exact lookup_plSet_eq _ lq3
    clear ehs4 lp3 lq3
    simp_arith!
    refine ⟨q, rfl, ⟨_, lq4⟩, le_size (by decide), _, lq4, lt_size (by decide), hN2 _ ⟨c5, _, ds3, _, ?_, ?_, lookup_plSet_eq _ lq4, ?_, _, _, _, rfl⟩⟩
    · rw [List.length_append]
      exact hB5
    · rw [lookup_plSet_ne (Ne.symm npq)]
      exact lp4
    · rw [List.length_append]
      exact hd3
theorem fits_pairs58 (l : List (Str × Str)) : D.fits 58 (l.map PairD) = true := by
  induction l with
  | nil => rfl
  | cons a r ih => rw [List.map_cons, D.fits, ih]; rfl
def sp_law : SpD := fun as Q => ∃ ns : List Int, as = [.sh (.scr ns)] ∧ ns.length ≤ 63 ∧ ∀ o, Q (.v (.bl true)) o
theorem ok_law {f : Addr} {fd : FuncData} (Fn : Fun K "law" "law" s_law f fd) {C_Suits : Addr} {a__law_bag : Addr} {d__law_bag : FuncData} (f__law_bag : Cal P w K mg base 1 "_law_bag" a__law_bag d__law_bag ["_law_script"] sp__law_bag) (z_range : mg "range" = none) {a__law_plan : Addr} {d__law_plan : FuncData} (f__law_plan : Cal P w K mg base 3 "_law_plan" a__law_plan d__law_plan ["_law_bag_here", "_law_most"] sp__law_plan) (z_list : mg "list" = none) {a_Suits___init__ : Addr} {d_Suits___init__ : FuncData} (f_Suits___init__ : CalMZ P w K mg base 3 a_Suits___init__ d_Suits___init__ ["self", "kinds", "pairs"] (sp_Suits___init__ C_Suits)) (gc_Suits : mg "Suits" = some (.ref C_Suits)) {a__law_elder_right : Addr} {d__law_elder_right : FuncData} (f__law_elder_right : Cal P w K mg base 3 "_law_elder_right" a__law_elder_right d__law_elder_right ["_law_plan_here", "_law_suits_here"] (sp__law_elder_right C_Suits)) {a__law_lists_right : Addr} {d__law_lists_right : FuncData} (f__law_lists_right : Cal P w K mg base 3 "_law_lists_right" a__law_lists_right d__law_lists_right ["_law_plan_here", "_law_suits_here"] (sp__law_lists_right C_Suits)) {a__law_mates_right : Addr} {d__law_mates_right : FuncData} (f__law_mates_right : Cal P w K mg base 3 "_law_mates_right" a__law_mates_right d__law_mates_right ["_law_bag_here", "_law_plan_here", "_law_suits_here"] (sp__law_mates_right C_Suits)) {a__law_two_right : Addr} {d__law_two_right : FuncData} (f__law_two_right : Cal P w K mg base 4 "_law_two_right" a__law_two_right d__law_two_right ["_law_plan_here", "_law_suits_here", "_law_one", "_law_other"] (sp__law_two_right C_Suits)) {a_Suits___contains__ : Addr} {d_Suits___contains__ : FuncData} (f_Suits___contains__ : CalM P w K mg base 1 a_Suits___contains__ d_Suits___contains__ ["self", "thing"] (sp_Suits___contains__ C_Suits)) {a__law_anew_right : Addr} {d__law_anew_right : FuncData} (f__law_anew_right : Cal P w K mg base 6 "_law_anew_right" a__law_anew_right d__law_anew_right ["_law_bag_here", "_law_plan_here"] (sp__law_anew_right C_Suits)) (mk_Suits___init__ : Mk K C_Suits a_Suits___init__) (me_Suits___contains__ : Meth K C_Suits "__contains__" a_Suits___contains__) : FnG P w K mg base CX0 7 f fd ["_law_script"] (lift K sp_law) := by
  have nd := sc_law.nd
  refine fnD Fn sc_law (fun as Q h => ?len) (fun cdv A outer s H hgd hr => ⟨_, _,
    (dss_pl0 13 (dss_cons (ds_set (i := 1) nd rfl (.inl rfl) (de_call f__law_bag.ok hgd (hr.mono (by decide)) (by rfl) f__law_bag.g f__law_bag.kp f__law_bag.b pass0 (dag_val (de_var (pv 0)) dag_nil)))
      (dss_cons (ds_for PassesOwn.never rfl (di_r1 (by rfl) z_range (dv_cons de_int dv_nil)) (dg_name (i := 2) nd rfl (.inl rfl))
      (dss_cons (ds_set (i := 3) nd rfl (.inr rfl) (de_fz (de_call f__law_plan.ok hgd (hr.mono (by decide)) (by rfl) f__law_plan.g f__law_plan.kp f__law_plan.b pass0 (dag_bor (pv 1) (dag_val de_int dag_nil)))))
      (dss_cons (ds_set (i := 4) nd rfl (.inl rfl) (de_lst (dv_cons (de_keep 13 (de_callTy call_list_of sem_list (by rfl) z_list (by decide +kernel) (da_cons (do_pl 13 (de_ix (hu1 hr) (do_varP 13 (pv 3)) (do_pl 13 de_str))) da_nil))) (dv_cons (de_keep 13 (de_callTy call_list_of sem_list (by rfl) z_list (by decide +kernel) (da_cons (do_pl 13 (de_ix (hu1 hr) (do_varP 13 (pv 3)) (do_pl 13 de_str))) da_nil))) dv_nil))))
      (dss_cons (ds_set (i := 5) nd rfl (.inr rfl) (de_fz (de_makeZ 13 mk_Suits___init__ f_Suits___init__.ok hgd (hr.mono (by decide)) (by rfl) gc_Suits f_Suits___init__.b pass0 (dag_val (de_ix (hu1 hr) (do_varP 13 (pv 4)) (do_pl 13 de_int)) (dag_val (de_ix (hu1 hr) (do_varP 13 (pv 4)) (do_pl 13 de_int)) dag_nil)))))
      (dss_cons (ds_if (dt_neW 13 (hu64 hr) (do_varP 13 (pv 4)) (do_pl 13 (de_lst (dv_cons (de_ix (hu1 hr) (do_varP 13 (pv 3)) (do_pl 13 de_str)) (dv_cons (de_ix (hu1 hr) (do_varP 13 (pv 3)) (do_pl 13 de_str)) dv_nil)))) (nomark _)) (dss_one (ds_ret de_bl)) dss_nil)
      (dss_cons (ds_expr (de_appendE 13 (de_ix (hu1 hr) (do_varP 13 (pv 4)) (do_pl 13 de_int)) (dv_cons de_str dv_nil)))
      (dss_cons (ds_expr (de_clearE0 13 (de_ix (hu1 hr) (do_varP 13 (pv 4)) (do_pl 13 de_int))))
      (dss_cons (ds_for PassesOwn.never rfl (di_r1 (by rfl) z_range (dv_cons de_int dv_nil)) (dg_name (i := 6) nd rfl (.inl rfl))
      (dss_one (ds_if (dw_pt (dw_or (dt_not (dt_tr (do_pl 13 (de_call f__law_lists_right.ok hgd (hr.mono (by decide)) (by rfl) f__law_lists_right.g f__law_lists_right.kp f__law_lists_right.b pass0 (dag_val (de_var (pv 3)) (dag_val (de_var (pv 5)) dag_nil)))))) (dw_or1 (dt_not (dt_tr (do_pl 13 (de_call f__law_elder_right.ok hgd (hr.mono (by decide)) (by rfl) f__law_elder_right.g f__law_elder_right.kp f__law_elder_right.b pass0 (dag_val (de_var (pv 3)) (dag_val (de_var (pv 5)) dag_nil))))))))) (dss_one (ds_ret de_bl)) dss_nil)))
      (dss_cons (ds_if (dt_not (dt_tr (do_pl 13 (de_call f__law_mates_right.ok hgd (hr.mono (by decide)) (by rfl) f__law_mates_right.g f__law_mates_right.kp f__law_mates_right.b pass0 (dag_bor (pv 1) (dag_val (de_var (pv 3)) (dag_val (de_var (pv 5)) dag_nil))))))) (dss_one (ds_ret de_bl)) dss_nil)
      (dss_cons (ds_set (i := 7) nd rfl (.inl rfl) (de_op op_addA sem_addA (do_pl 13 (de_ix (hu1 hr) (do_varP 13 (pv 3)) (do_pl 13 de_str))) (do_pl 13 (de_lst (dv_cons de_str (dv_cons de_str dv_nil))))))
      (dss_cons (ds_for PassesOwn.never rfl (di_e (de_op op_addA sem_addA (do_varP 13 (pv 7)) (do_pl 13 (de_rev (do_varP 13 (pv 7)))))) (dg_name (i := 8) nd rfl (.inr rfl))
      (dss_one (ds_if (dt_cmp (op_neA (hu64 hr)) sem_ne (do_pl 13 (de_lcF rfl nd (dic_var (pv 7)) (blkOk_by (own := [("_law_other", 11)]) (N := ["_law_script", "_law_bag_here", "_law_turn", "_law_plan_here", "_law_handed", "_law_suits_here", "_law_once", "_law_names_here", "_law_one", "_law_kind", "_law_things", "_law_other", "_law_thing", "0pile"]) (sc := defScope s_law) (by decide +kernel)) (fun _ _ _ _ _ => (dg_name (i := 11) nd rfl (.inl rfl))) (fun _ _ _ _ _ => (dts_one (dt_not (dt_tr (do_pl 13 (de_call f__law_two_right.ok hgd (hr.mono (by decide)) (by rfl) f__law_two_right.g f__law_two_right.kp f__law_two_right.b pass0 (dag_val (de_var (pv 3)) (dag_val (de_var (pv 5)) (dag_val (de_var (pv 8)) (dag_val (de_var (pv 11)) dag_nil)))))))))) (fun _ _ _ _ _ => (de_var (pv 11))))) (do_pl 13 (de_lst dv_nil)) (nomark _)) (dss_one (ds_ret de_bl)) dss_nil)))
      (dss_cons (ds_set (i := 9) nd rfl (.inl rfl) (de_ix (hu1 hr) (do_pl 13 (de_ix (hu1 hr) (do_varP 13 (pv 3)) (do_pl 13 de_str))) (do_pl 13 de_int)))
      (dss_cons (ds_set (i := 10) nd rfl (.inl rfl) (de_lst (dv_cons de_non (dv_cons (de_var (pv 9)) (dv_cons (de_tup (dv_cons (de_var (pv 9)) dv_nil)) (dv_cons (de_lst (dv_cons (de_var (pv 9)) (dv_cons (de_var (pv 9)) dv_nil))) (dv_cons (de_tup (dv_cons (de_var (pv 9)) (dv_cons (de_var (pv 9)) (dv_cons (de_var (pv 9)) dv_nil)))) (dv_cons (de_tup (dv_cons (de_var (pv 9)) (dv_cons de_non dv_nil))) (dv_cons (de_tup (dv_cons de_non (dv_cons (de_var (pv 9)) dv_nil))) (dv_cons de_int dv_nil))))))))))
      (dss_cons (ds_set (i := 10) nd rfl (.inl rfl) (de_op op_addA sem_addA (do_varP 13 (pv 10)) (do_pl 13 (de_lst (dv_cons (de_tup (dv_cons (de_lst (dv_cons (de_var (pv 9)) dv_nil)) (dv_cons (de_var (pv 9)) dv_nil))) (dv_cons (de_tup (dv_cons (de_var (pv 9)) (dv_cons (de_lst (dv_cons (de_var (pv 9)) dv_nil)) dv_nil))) (dv_cons (de_tup (dv_cons (de_var (pv 9)) (dv_cons de_dnew dv_nil))) (dv_cons (de_tup (dv_cons (de_var (pv 9)) (dv_cons (de_tup (dv_cons (de_var (pv 9)) dv_nil)) dv_nil))) (dv_cons de_dnew dv_nil)))))))))
      (dss_cons (ds_if (dw_pt (dw_or (dt_cmp (op_neA (hu64 hr)) sem_ne (do_pl 13 (de_lcF rfl nd (dic_var (pv 10)) (blkOk_by (own := [("_law_thing", 12)]) (N := ["_law_script", "_law_bag_here", "_law_turn", "_law_plan_here", "_law_handed", "_law_suits_here", "_law_once", "_law_names_here", "_law_one", "_law_kind", "_law_things", "_law_other", "_law_thing", "0pile"]) (sc := defScope s_law) (by decide +kernel)) (fun _ _ _ _ _ => (dg_name (i := 12) nd rfl (.inl rfl))) (fun _ _ _ _ _ => (dts_one (dt_cmp (op_inS me_Suits___contains__ f_Suits___contains__.ok hgd (hr.mono (by decide)) f_Suits___contains__.b pass0) sem_inS (do_varP 13 (pv 12)) (do_varP 13 (pv 5)) (by rfl)))) (fun _ _ _ _ _ => (de_var (pv 12))))) (do_pl 13 (de_lst dv_nil)) (nomark _)) (dw_or1 (dt_not (dt_tr (do_pl 13 (de_call f__law_lists_right.ok hgd (hr.mono (by decide)) (by rfl) f__law_lists_right.g f__law_lists_right.kp f__law_lists_right.b pass0 (dag_val (de_var (pv 3)) (dag_val (de_var (pv 5)) dag_nil))))))))) (dss_one (ds_ret de_bl)) dss_nil)
      (dss_one (ds_if (dt_not (dt_tr (do_pl 13 (de_call f__law_anew_right.ok hgd (hr.mono (by decide)) (by rfl) f__law_anew_right.g f__law_anew_right.kp f__law_anew_right.b pass0 (dag_bor (pv 1) (dag_val (de_var (pv 3)) dag_nil)))))) (dss_one (ds_ret de_bl)) dss_nil)))))))))))))))))
      (dss_one (ds_ret de_bl))))), fun as Q h => ?_⟩)
  case len => obtain ⟨_, rfl, _⟩ := h; rfl
  · obtain ⟨ns, rfl, hl, h⟩ := h
    simp only [List.length_cons, List.length_nil, Nat.reduceAdd, Nat.reduceSub, List.replicate_succ, List.replicate_zero, List.cons_append, List.nil_append]
    refine ⟨[], rfl, ?_⟩
    simp only [List.set_cons_succ, List.set_cons_zero]
    refine sSeq_go fun N0 h0 => ?_
    simp_arith!
    refine ⟨ns, rfl, hl, fun c hB => ?_⟩
    simp_arith!
    refine h0 _ ?_
    clear h0
    simp_arith! [big]
    refine ⟨by decide, by decide, forL_rng (fun i ρ => ∃ (c : Cn) (hs : Pile), Bag (1000000000 - 10000000 * i) c ∧ ∃ (s_law_turn s_law_plan_here s_law_handed s_law_suits_here s_law_once s_law_names_here s_law_one s_law_kind s_law_things s_law_other s_law_thing : Sl), ρ = [.sh (.scr ns), .ow c, s_law_turn, s_law_plan_here, s_law_handed, s_law_suits_here, s_law_once, s_law_names_here, s_law_one, s_law_kind, s_law_things, s_law_other, s_law_thing, .pl hs]) ⟨c, [], hB, _, _, _, _, _, _, _, _, _, _, _, rfl⟩ ?_ ?_⟩
    · rintro ρ ⟨c, hs, hB2, s_law_turn, s_law_plan_here, s_law_handed, s_law_suits_here, s_law_once, s_law_names_here, s_law_one, s_law_kind, s_law_things, s_law_other, s_law_thing, rfl⟩
      simp_arith!
      exact h _
    clear hB c
    rintro i ρ N2 hi hN2 ⟨c, hs, hB2, s_law_turn, s_law_plan_here, s_law_handed, s_law_suits_here, s_law_once, s_law_names_here, s_law_one, s_law_kind, s_law_things, s_law_other, s_law_thing, rfl⟩
    have hi9 : i < 3 := by simpa using hi
    clear hi
    obtain ⟨B, eB⟩ : ∃ B, 1000000000 - 10000000 * i = B + 10000000 := ⟨1000000000 - 10000000 * i - 10000000, by omega⟩
    have hN2' : ∀ (c : Cn) (hs : Pile) ρ', Bag B c → (∃ (s_law_turn s_law_plan_here s_law_handed s_law_suits_here s_law_once s_law_names_here s_law_one s_law_kind s_law_things s_law_other s_law_thing : Sl), ρ' = [.sh (.scr ns), .ow c, s_law_turn, s_law_plan_here, s_law_handed, s_law_suits_here, s_law_once, s_law_names_here, s_law_one, s_law_kind, s_law_things, s_law_other, s_law_thing, .pl hs]) → N2 ρ' := fun c hs ρ' b e => hN2 _ ⟨c, hs, b.le (by omega), e⟩
    rw [eB] at hB2
    clear hN2 eB
    refine sSeq_cut (fun ρ' => ∃ (c : Cn) (names : List Str) (pairs : List (Str × Str)), Bag (B + 9000000) c ∧ PlanOk 8 names pairs ∧ ∃ (s_law_turn s_law_handed s_law_suits_here s_law_once s_law_names_here s_law_one s_law_kind s_law_things s_law_other s_law_thing : Sl), ρ' = [.sh (.scr ns), .ow c, s_law_turn, .sh (.dct (Plan names pairs)), s_law_handed, s_law_suits_here, s_law_once, s_law_names_here, s_law_one, s_law_kind, s_law_things, s_law_other, s_law_thing, .pl hs]) (fun N hN => ?_) ?_
    · simp_arith!
      refine ⟨B + 9000000, c, 8, rfl, hB2.le (by omega), by decide, by decide, fun names pairs c2 hB3 hP => ?_⟩
      simp_arith!
      exact hN _ ⟨c2, names, pairs, hB3, hP, _, _, _, _, _, _, _, _, _, _, rfl⟩
    clear hB2 c
    rintro ρ' ⟨c, names, pairs, hB2, hP, s_law_turn, s_law_handed, s_law_suits_here, s_law_once, s_law_names_here, s_law_one, s_law_kind, s_law_things, s_law_other, s_law_thing, rfl⟩
    have hR := hP.2.2.2.2.2
    have hx8 := hP.2.2.1
    have hle := hR.le
    have hpl := hR.pl
    clear hP
    refine sSeq_cut (fun ρ' => ∃ (p q : Addr) (hs : Pile), q ≠ p ∧ hs.lookup p = some (.l (names.map D.str)) ∧ hs.lookup q = some (.l (pairs.map PairD)) ∧ ∃ (s_law_turn s_law_suits_here s_law_once s_law_names_here s_law_one s_law_kind s_law_things s_law_other s_law_thing : Sl), ρ' = [.sh (.scr ns), .ow c, s_law_turn, .sh (.dct (Plan names pairs)), .ow (.l [.at p, .at q]), s_law_suits_here, s_law_once, s_law_names_here, s_law_one, s_law_kind, s_law_things, s_law_other, s_law_thing, .pl hs]) (fun N hN => ?_) ?_
    · simp_arith! [kGet_kinds, kGet_pairs]
      refine ⟨hs, List.Sublist.refl _, fun p h0 => ⟨_, List.Sublist.refl _, fun q h1 => ⟨le_size (by decide), hN _ ⟨p, q, _, fun e => h1 (by simp [e]), ?_, ?_, _, _, _, _, _, _, _, _, _, rfl⟩⟩⟩⟩
      · have : (p == q) = false := beq_false_of_ne fun e => h1 (by simp [e])
        rw [List.lookup_cons, this, List.lookup_cons, beq_self_eq_true]
      · rw [List.lookup_cons, beq_self_eq_true]
    clear hs
    rintro ρ' ⟨p, q, hs, npq, lp, lq, s_law_turn, s_law_suits_here, s_law_once, s_law_names_here, s_law_one, s_law_kind, s_law_things, s_law_other, s_law_thing, rfl⟩
    refine sSeq_cut (fun ρ' => ∃ (s_law_turn s_law_once s_law_names_here s_law_one s_law_kind s_law_things s_law_other s_law_thing : Sl), ρ' = [.sh (.scr ns), .ow c, s_law_turn, .sh (.dct (Plan names pairs)), .ow (.l [.at p, .at q]), .sh (SuitsD C_Suits names pairs), s_law_once, s_law_names_here, s_law_one, s_law_kind, s_law_things, s_law_other, s_law_thing, .pl hs]) (fun N hN => ?_) ?_
    · simp_arith!
      refine ⟨names, pairs, p, q, hs, rfl, lp, lq, hR, ?_⟩
      simp_arith!
      exact hN _ ⟨_, _, _, _, _, _, _, _, rfl⟩
    rintro ρ' ⟨s_law_turn, s_law_once, s_law_names_here, s_law_one, s_law_kind, s_law_things, s_law_other, s_law_thing, rfl⟩
    refine sSeq_cut (fun ρ' => ∃ (s_law_turn s_law_once s_law_names_here s_law_one s_law_kind s_law_things s_law_other s_law_thing : Sl), ρ' = [.sh (.scr ns), .ow c, s_law_turn, .sh (.dct (Plan names pairs)), .ow (.l [.at p, .at q]), .sh (SuitsD C_Suits names pairs), s_law_once, s_law_names_here, s_law_one, s_law_kind, s_law_things, s_law_other, s_law_thing, .pl hs]) (fun N hN => ?_) ?_
    · refine sIf_go fun T hT hF => ?_
      simp_arith! [kGet_kinds, kGet_pairs]
      have e1 : D.res hs (.lst [.at p, .at q]) = .lst [.lst (names.map D.str), .lst (pairs.map PairD)] := by
        simp only [D.res, D.ress, lp, lq, Option.map_some, Cn.dat]
      have e2 : D.res hs (.lst [.lst (names.map D.str), .lst (pairs.map PairD)]) = .lst [.lst (names.map D.str), .lst (pairs.map PairD)] := res_clo _ (by
        have c1 : ∀ l : List Str, D.clos (l.map D.str) = true := fun l => clos_map clo_str l
        simp only [D.clo, D.clos, c1, clos_map (f := PairD) (fun _ => rfl), Bool.and_self])
      have ef : D.fit 60 (.lst [.lst (names.map D.str), .lst (pairs.map PairD)]) = true := by
        have f1 : D.fit 59 (.lst (names.map D.str)) = true := by rw [D.fit]; exact fits_strs 58 names
        have f2 : D.fit 59 (.lst (pairs.map PairD)) = true := by rw [D.fit]; exact fits_pairs58 pairs
        rw [D.fit, D.fits, D.fits, D.fits, f1, f2]
        rfl
      rw [e1, e2, e2, eqv_self _ ⟨_, ef⟩]
      exact ⟨le_size (by decide), ef, ef, hF _ (hN _ ⟨_, _, _, _, _, _, _, _, rfl⟩)⟩
    rintro ρ' ⟨s_law_turn, s_law_once, s_law_names_here, s_law_one, s_law_kind, s_law_things, s_law_other, s_law_thing, rfl⟩
    obtain ⟨fs, hfs⟩ : ∃ fs, SuitsD C_Suits names pairs = .obj C_Suits fs := ⟨_, rfl⟩
    refine sSeq_cut (fun ρ' => ∃ (hs : Pile), hs.lookup q = some (.l (pairs.map PairD)) ∧ ∃ (s_law_turn s_law_once s_law_names_here s_law_one s_law_kind s_law_things s_law_other s_law_thing : Sl), ρ' = [.sh (.scr ns), .ow c, s_law_turn, .sh (.dct (Plan names pairs)), .ow (.l [.at p, .at q]), .sh (SuitsD C_Suits names pairs), s_law_once, s_law_names_here, s_law_one, s_law_kind, s_law_things, s_law_other, s_law_thing, .pl hs]) (fun N hN => ?_) ?_
    · simp_arith!
      refine ⟨p, rfl, ⟨_, lp⟩, _, lp, lt_size (by rw [List.length_map]; omega), hN _ ⟨_, by rw [lookup_plSet_ne npq]; exact lq, _, _, _, _, _, _, _, _, rfl⟩⟩
    clear lp lq hs
    rintro ρ' ⟨hs, lq, s_law_turn, s_law_once, s_law_names_here, s_law_one, s_law_kind, s_law_things, s_law_other, s_law_thing, rfl⟩
    refine sSeq_cut (fun ρ' => ∃ (hs : Pile), ∃ (s_law_turn s_law_once s_law_names_here s_law_one s_law_kind s_law_things s_law_other s_law_thing : Sl), ρ' = [.sh (.scr ns), .ow c, s_law_turn, .sh (.dct (Plan names pairs)), .ow (.l [.at p, .at q]), .sh (SuitsD C_Suits names pairs), s_law_once, s_law_names_here, s_law_one, s_law_kind, s_law_things, s_law_other, s_law_thing, .pl hs]) (fun N hN => ?_) ?_
    · simp_arith!
      refine ⟨q, rfl, _, lq, hN _ ⟨_, _, _, _, _, _, _, _, _, rfl⟩⟩
    clear lq hs
    rintro ρ' ⟨hs, s_law_turn, s_law_once, s_law_names_here, s_law_one, s_law_kind, s_law_things, s_law_other, s_law_thing, rfl⟩
    refine sSeq_cut (fun ρ' => ∃ (s_law_turn s_law_once s_law_names_here s_law_one s_law_kind s_law_things s_law_other s_law_thing : Sl), ρ' = [.sh (.scr ns), .ow c, s_law_turn, .sh (.dct (Plan names pairs)), .ow (.l [.at p, .at q]), .sh (SuitsD C_Suits names pairs), s_law_once, s_law_names_here, s_law_one, s_law_kind, s_law_things, s_law_other, s_law_thing, .pl hs]) (fun N hN => ?_) ?_
    · simp_arith! [big]
      refine ⟨by decide, by decide, forL_rng (fun i ρ => ∃ (s_law_turn s_law_once s_law_names_here s_law_one s_law_kind s_law_things s_law_other s_law_thing : Sl), ρ = [.sh (.scr ns), .ow c, s_law_turn, .sh (.dct (Plan names pairs)), .ow (.l [.at p, .at q]), .sh (SuitsD C_Suits names pairs), s_law_once, s_law_names_here, s_law_one, s_law_kind, s_law_things, s_law_other, s_law_thing, .pl hs]) ⟨_, _, _, _, _, _, _, _, rfl⟩ ?_ ?_⟩
      · rintro ρ ⟨s_law_turn, s_law_once, s_law_names_here, s_law_one, s_law_kind, s_law_things, s_law_other, s_law_thing, rfl⟩
        exact hN _ ⟨_, _, _, _, _, _, _, _, rfl⟩
      · rintro j ρ N4 hj hN4 ⟨s_law_turn, s_law_once, s_law_names_here, s_law_one, s_law_kind, s_law_things, s_law_other, s_law_thing, rfl⟩
        refine sIf_go fun T hT hF => ?_
        simp_arith!
        refine ⟨names, pairs, rfl, hR, ?_⟩
        simp_arith!
        refine ⟨names, pairs, rfl, hR, ?_⟩
        simp_arith!
        refine hF _ ?_
        simp_arith!
        exact hN4 _ ⟨_, _, _, _, _, _, _, _, rfl⟩
    rintro ρ' ⟨s_law_turn, s_law_once, s_law_names_here, s_law_one, s_law_kind, s_law_things, s_law_other, s_law_thing, rfl⟩
    refine sSeq_cut (fun ρ' => ∃ c, Bag (B + 8000000) c ∧ ∃ (s_law_turn s_law_once s_law_names_here s_law_one s_law_kind s_law_things s_law_other s_law_thing : Sl), ρ' = [.sh (.scr ns), .ow c, s_law_turn, .sh (.dct (Plan names pairs)), .ow (.l [.at p, .at q]), .sh (SuitsD C_Suits names pairs), s_law_once, s_law_names_here, s_law_one, s_law_kind, s_law_things, s_law_other, s_law_thing, .pl hs]) (fun N hN => ?_) ?_
    · refine sIf_go fun T hT hF => ?_
      simp_arith!
      refine ⟨names, pairs, B + 8000000, c, rfl, hR, hB2.le (by omega), fun c3 hB3 => ?_⟩
      simp_arith!
      exact hF _ (hN _ ⟨c3, hB3, _, _, _, _, _, _, _, _, rfl⟩)
    clear hB2 c
    rintro ρ' ⟨c, hB2, s_law_turn, s_law_once, s_law_names_here, s_law_one, s_law_kind, s_law_things, s_law_other, s_law_thing, rfl⟩
    obtain ⟨nm, enm⟩ : ∃ nm, nm = names ++ [Str.ofString "strange", Str.ofString "aa"] := ⟨_, rfl⟩
    have hnm : nm.length ≤ 10 := by rw [enm, List.length_append]; exact Nat.add_le_add_right hle 2
    have hnx : ∀ x ∈ nm, x.length ≤ 1000 := fun x hx => by
      rw [enm] at hx
      rcases List.mem_append.mp hx with hx | hx
      · have := hx8 x hx
        omega
      · simp only [List.mem_cons, List.not_mem_nil, or_false] at hx
        rcases hx with rfl | rfl <;> decide
    have hnil : ∀ Q : Rv → Prop, gEq not (.lst []) (.lst []) Q = Q (.v (.bl false)) := fun Q => by
      have := gEq_nil (f := not) (a := []) (Q := Q)
      exact this
    refine sSeq_cut (fun ρ' => ∃ (s_law_turn s_law_once s_law_one s_law_kind s_law_things s_law_other s_law_thing : Sl), ρ' = [.sh (.scr ns), .ow c, s_law_turn, .sh (.dct (Plan names pairs)), .ow (.l [.at p, .at q]), .sh (SuitsD C_Suits names pairs), s_law_once, .ow (.l (nm.map D.str)), s_law_one, s_law_kind, s_law_things, s_law_other, s_law_thing, .pl hs]) (fun N hN => ?_) ?_
    · simp_arith! [kGet_kinds]
      have : names.map D.str ++ [D.str (Str.ofString "strange"), D.str (Str.ofString "aa")] = nm.map D.str := by
        rw [enm, List.map_append]
        rfl
      rw [this]
      exact ⟨le_size (by decide), le_size (by rw [List.length_map]; omega), hN _ ⟨_, _, _, _, _, _, _, rfl⟩⟩
    rintro ρ' ⟨s_law_turn, s_law_once, s_law_one, s_law_kind, s_law_things, s_law_other, s_law_thing, rfl⟩
    refine sSeq_cut (fun ρ' => ∃ (s_law_turn s_law_once s_law_names_here s_law_one s_law_kind s_law_things s_law_other s_law_thing : Sl), ρ' = [.sh (.scr ns), .ow c, s_law_turn, .sh (.dct (Plan names pairs)), .ow (.l [.at p, .at q]), .sh (SuitsD C_Suits names pairs), s_law_once, s_law_names_here, s_law_one, s_law_kind, s_law_things, s_law_other, s_law_thing, .pl hs]) (fun N hN => ?_) ?_
    · simp_arith!
      rw [← List.map_reverse, ← List.map_append]
      refine ⟨le_size (by rw [List.length_map, List.length_map, List.length_reverse]; omega), ?_⟩
      refine forL_on D.str (l := nm ++ nm.reverse) (fun pre r ρ => ∃ (s_law_turn s_law_once s_law_one s_law_kind s_law_things s_law_other s_law_thing : Sl), ρ = [.sh (.scr ns), .ow c, s_law_turn, .sh (.dct (Plan names pairs)), .ow (.l [.at p, .at q]), .sh (SuitsD C_Suits names pairs), s_law_once, .ow (.l (nm.map D.str)), s_law_one, s_law_kind, s_law_things, s_law_other, s_law_thing, .pl hs]) ⟨_, _, _, _, _, _, _, rfl⟩ ?_ ?_
      · rintro ρ ⟨s_law_turn, s_law_once, s_law_one, s_law_kind, s_law_things, s_law_other, s_law_thing, rfl⟩
        exact hN _ ⟨_, _, _, _, _, _, _, _, rfl⟩
      · rintro pre x r ρ N4 e hN4 ⟨s_law_turn, s_law_once, s_law_one, s_law_kind, s_law_things, s_law_other, s_law_thing, rfl⟩
        have hxl : x.length ≤ 1000 := hnx x (by
          have : x ∈ nm ++ nm.reverse := by rw [e]; simp
          exact (List.mem_append.mp this).elim id List.mem_reverse.mp)
        refine sIf_go fun T hT hF => ?_
        simp_arith!
        refine lcL_on D.str (fun pre r acc ρ => acc = [] ∧ ∃ (s_law_turn s_law_once s_law_kind s_law_things s_law_other s_law_thing : Sl), ρ = [.sh (.scr ns), .ow c, s_law_turn, .sh (.dct (Plan names pairs)), .ow (.l [.at p, .at q]), .sh (SuitsD C_Suits names pairs), s_law_once, .un, .sh (.str x), s_law_kind, s_law_things, s_law_other, s_law_thing, .pl hs]) ⟨rfl, _, _, _, _, _, _, rfl⟩ ?_ ?_
        · rintro acc ρ ⟨rfl, s_law_turn, s_law_once, s_law_kind, s_law_things, s_law_other, s_law_thing, rfl⟩
          refine ⟨Nat.zero_le _, ?_⟩
          rw [hnil]
          simp_arith!
          refine hF _ ?_
          simp_arith!
          exact hN4 _ ⟨_, _, _, _, _, _, _, rfl⟩
        · rintro pre y r acc ρ N5 hl5 hN5 ⟨rfl, s_law_turn, s_law_once, s_law_kind, s_law_things, s_law_other, s_law_thing, rfl⟩
          simp_arith!
          refine ⟨names, pairs, x, y, rfl, hR, hxl, hnx y (by rw [hl5]; simp), ?_⟩
          simp_arith!
          exact hN5 _ _ ⟨rfl, _, _, _, _, _, _, rfl⟩
    rintro ρ' ⟨s_law_turn, s_law_once, s_law_names_here, s_law_one, s_law_kind, s_law_things, s_law_other, s_law_thing, rfl⟩
    obtain ⟨k0, nr, hk0⟩ : ∃ k0 nr, names = k0 :: nr := by
      have := hR.ne
      cases names with
      | nil => simp at this
      | cons k0 nr => exact ⟨k0, nr, rfl⟩
    have a1 : atI (names.map D.str) 0 = some (.str k0) := by rw [hk0]; exact atI_0
    refine sSeq_go fun N3 hN3 => ?_
    simp_arith! [kGet_kinds, a1]
    refine hN3 _ ?_
    clear hN3
    refine sSeq_go fun N3 hN3 => ?_
    simp_arith!
    refine ⟨le_size (by decide), le_size (by decide), le_size (by decide), le_size (by decide), le_size (by decide), le_size (by decide), hN3 _ ?_⟩
    clear hN3
    refine sSeq_go fun N3 hN3 => ?_
    simp_arith!
    refine ⟨le_size (by decide), le_size (by decide), le_size (by decide), le_size (by decide), le_size (by decide), le_size (by decide), le_size (by decide), le_size (by decide), le_size (by decide), hN3 _ ?_⟩
    clear hN3
    obtain ⟨th, eth⟩ : ∃ th : List D, th = [D.non, D.str k0, D.tup [D.str k0], D.lst [D.str k0, D.str k0], D.tup [D.str k0, D.str k0, D.str k0], D.tup [D.str k0, D.non], D.tup [D.non, D.str k0], D.int 5, D.tup [D.lst [D.str k0], D.str k0], D.tup [D.str k0, D.lst [D.str k0]], D.tup [D.str k0, D.dct []], D.tup [D.str k0, D.tup [D.str k0]], D.dct []] := ⟨_, rfl⟩
    rw [← eth]
    have hth : ∀ t ∈ th, ItP t ∧ contB names pairs t = false := by
      intro t ht
      rw [eth] at ht
      simp only [List.mem_cons, List.not_mem_nil, or_false] at ht
      have fs : InK (.str k0) := inK_fit (by simp [D.fit])
      have fn : InK .non := inK_fit (by simp [D.fit])
      have fl : InK (.lst [.str k0]) := inK_fit (by simp [D.fit, D.fits])
      have ft : InK (.tup [.str k0]) := inK_fit (by simp [D.fit, D.fits])
      rcases ht with rfl | rfl | rfl | rfl | rfl | rfl | rfl | rfl | rfl | rfl | rfl | rfl | rfl
      · exact ⟨⟨rfl, fun l e => by cases e⟩, rfl⟩
      · exact ⟨⟨rfl, fun l e => by cases e⟩, rfl⟩
      · exact ⟨⟨rfl, fun l e => by cases e; exact inK_cons fs inK_nil⟩, rfl⟩
      · exact ⟨⟨rfl, fun l e => by cases e⟩, rfl⟩
      · exact ⟨⟨rfl, fun l e => by cases e; exact inK_cons fs (inK_cons fs (inK_cons fs inK_nil))⟩, rfl⟩
      · exact ⟨⟨rfl, fun l e => by cases e; exact inK_cons fs (inK_cons fn inK_nil)⟩, rfl⟩
      · exact ⟨⟨rfl, fun l e => by cases e; exact inK_cons fn (inK_cons fs inK_nil)⟩, rfl⟩
      · exact ⟨⟨rfl, fun l e => by cases e⟩, rfl⟩
      · exact ⟨⟨rfl, fun l e => by cases e; exact inK_cons fl (inK_cons fs inK_nil)⟩, rfl⟩
      · exact ⟨⟨rfl, fun l e => by cases e; exact inK_cons fs (inK_cons fl inK_nil)⟩, rfl⟩
      · exact ⟨⟨rfl, fun l e => by cases e; exact inK_cons fs (inK_cons inK_dct inK_nil)⟩, rfl⟩
      · exact ⟨⟨rfl, fun l e => by cases e; exact inK_cons fs (inK_cons ft inK_nil)⟩, rfl⟩
      · exact ⟨⟨rfl, fun l e => by cases e⟩, rfl⟩
    have emap : th = th.map fun d => d := (List.map_id' th).symm
    clear eth
    refine sSeq_cut (fun ρ' => ∃ (s_law_turn s_law_once s_law_names_here s_law_one s_law_kind s_law_things s_law_other s_law_thing : Sl), ρ' = [.sh (.scr ns), .ow c, s_law_turn, .sh (.dct (Plan names pairs)), .ow (.l [.at p, .at q]), .sh (SuitsD C_Suits names pairs), s_law_once, s_law_names_here, s_law_one, s_law_kind, s_law_things, s_law_other, s_law_thing, .pl hs]) (fun N hN => ?_) ?_
    · refine sIf_go fun T hT hF => ?_
      simp_arith!
      refine lcL_ix (fun i acc ρ => acc = [] ∧ ∃ (s_law_turn s_law_once s_law_names_here s_law_one s_law_kind s_law_other s_law_thing : Sl), ρ = [.sh (.scr ns), .ow c, s_law_turn, .sh (.dct (Plan names pairs)), .ow (.l [.at p, .at q]), .sh (SuitsD C_Suits names pairs), s_law_once, s_law_names_here, s_law_one, s_law_kind, .un, s_law_other, s_law_thing, .pl hs]) ⟨rfl, _, _, _, _, _, _, _, rfl⟩ ?_ ?_
      · rintro acc ρ ⟨rfl, s_law_turn, s_law_once, s_law_names_here, s_law_one, s_law_kind, s_law_other, s_law_thing, rfl⟩
        refine ⟨Nat.zero_le _, ?_⟩
        rw [hnil]
        simp_arith!
        refine ⟨names, pairs, rfl, hR, ?_⟩
        simp_arith!
        exact hF _ (hN _ ⟨_, _, _, _, _, _, _, _, rfl⟩)
      · rintro j t acc ρ N5 hl5 hN5 ⟨rfl, s_law_turn, s_law_once, s_law_names_here, s_law_one, s_law_kind, s_law_other, s_law_thing, rfl⟩
        obtain ⟨ht1, ht2⟩ := hth t (List.mem_of_getElem? hl5)
        rw [hfs]
        cases t
        all_goals first
          | (have e := ht1.1; cases e; done)
          | (simp_arith!
             rw [← hfs]
             refine ⟨names, pairs, _, rfl, hR, ht1, _, rfl, rfl, _, rfl, ?_⟩
             rw [ht2]
             exact hN5 _ _ ⟨rfl, _, _, _, _, _, _, _, rfl⟩)
    rintro ρ' ⟨s_law_turn, s_law_once, s_law_names_here, s_law_one, s_law_kind, s_law_things, s_law_other, s_law_thing, rfl⟩
    refine sIf_go fun T hT hF => ?_
    simp_arith!
    refine ⟨names, pairs, B, c, rfl, hR, hB2.le (by omega), fun c3 hB3 => ?_⟩
    simp_arith!
    refine hF _ ?_
    simp_arith!
    exact hN2' c3 hs _ hB3 ⟨_, _, _, _, _, _, _, _, _, _, _, rfl⟩
end

theorem all_mk {l : PySem.W.OpenLaw} {w : World} {K : PySem.W.Frag} {h : Heap} {mg : Str → Option Value} {fa : Addr} (X : K.In h) (G : h.Ns mainGlobals mg) (hfa : mg "law" = some (.ref fa))
    {C_Suits C_NoKind C_SuitError C_Lonely : Addr}
    {f0 f1 f2 f3 f4 f5 f6 f7 f8 f9 f10 f11 f12 f13 f14 f15 f16 f17 f18 f19 f20 f21 f22 f23 f24 f25 f26 f27 f28 f29 f30 : Addr} {od0 an0 od1 an1 od2 an2 od3 an3 od4 an4 od5 an5 od6 an6 od7 an7 od8 an8 od9 an9 od10 an10 od11 an11 od12 an12 od13 an13 od14 an14 od15 an15 od16 an16 od17 an17 od18 an18 od19 an19 od20 an20 od21 an21 od22 an22 od23 an23 od24 an24 od25 an25 od26 an26 od27 an27 od28 an28 od29 an29 od30 an30 : Option Addr} {sl0 sl1 sl2 sl3 sl4 sl5 sl6 sl7 sl8 sl9 sl10 sl11 sl12 sl13 sl14 sl15 sl16 sl17 sl18 sl19 sl20 sl21 sl22 sl23 sl24 sl25 sl26 sl27 sl28 sl29 sl30 : Array (Option Value)} {oc0 kV0 dc0 pm0 cd0 ct0 oc1 kV1 dc1 pm1 cd1 ct1 oc2 kV2 dc2 pm2 cd2 ct2 oc3 kV3 dc3 pm3 cd3 ct3 oc4 kV4 dc4 pm4 cd4 ct4 oc5 kV5 dc5 pm5 cd5 ct5 oc6 kV6 dc6 pm6 cd6 ct6 oc7 kV7 dc7 pm7 cd7 ct7 oc8 kV8 dc8 pm8 cd8 ct8 oc9 kV9 dc9 pm9 cd9 ct9 oc10 kV10 dc10 pm10 cd10 ct10 oc11 kV11 dc11 pm11 cd11 ct11 oc12 kV12 dc12 pm12 cd12 ct12 oc13 kV13 dc13 pm13 cd13 ct13 oc14 kV14 dc14 pm14 cd14 ct14 oc15 kV15 dc15 pm15 cd15 ct15 oc16 kV16 dc16 pm16 cd16 ct16 oc17 kV17 dc17 pm17 cd17 ct17 oc18 kV18 dc18 pm18 cd18 ct18 oc19 kV19 dc19 pm19 cd19 ct19 oc20 kV20 dc20 pm20 cd20 ct20 oc21 kV21 dc21 pm21 cd21 ct21 oc22 kV22 dc22 pm22 cd22 ct22 oc23 kV23 dc23 pm23 cd23 ct23 oc24 kV24 dc24 pm24 cd24 ct24 oc25 kV25 dc25 pm25 cd25 ct25 oc26 kV26 dc26 pm26 cd26 ct26 oc27 kV27 dc27 pm27 cd27 ct27 oc28 kV28 dc28 pm28 cd28 ct28 oc29 kV29 dc29 pm29 cd29 ct29 oc30 kV30 dc30 pm30 cd30 ct30 : Value}
    {p20 : Addr} {pr20 : List Value}
    {t_MOST_LETTERS t_LETTERS t_MOST_KINDS t_MOST_PAIRS : Tok}
    {xnm_NoKind xqn_NoKind : Str} {xN_NoKind fx_NoKind xcd_NoKind xcc_NoKind : Addr} {xbs_NoKind xsu_NoKind : List Value} {xsn_NoKind : List Str} {xab_NoKind : Bool} {xco_NoKind : Option Bool} {xdd_NoKind xod_NoKind xan_NoKind xd2_NoKind xd3_NoKind : Option Addr} {xk0_NoKind xk1_NoKind xk2_NoKind xk3_NoKind xk5_NoKind : Option Value} {xoc_NoKind xdo_NoKind xpm_NoKind xct_NoKind xv2_NoKind xv3_NoKind : Value} {xsl_NoKind xs2_NoKind xs3_NoKind : Array (Option Value)} {xvs_NoKind : Array Value} {xfi_NoKind : Str} {xtk_NoKind : Tok}
    (gc_Suits : PySem.W.nsIn K mainGlobals "Suits" = some (some (.ref C_Suits)))
    (gc_NoKind : PySem.W.nsIn K mainGlobals "NoKind" = some (some (.ref C_NoKind)))
    (gc_SuitError : PySem.W.nsIn K mainGlobals "SuitError" = some (some (.ref C_SuitError)))
    (gc_Lonely : PySem.W.nsIn K mainGlobals "Lonely" = some (some (.ref C_Lonely)))
    (pg_Suits : PySem.W.plainGet K C_Suits Str.empty = true)
    (hd_Suits : PySem.W.hasDictIn K C_Suits = true)
    (po_Suits : PySem.W.plainOver K C_Suits = true)
    (sa_Suits : PySem.W.findIn K (.ref C_Suits) "__setattr__" = some (some (.builtin "object.__setattr__")))
    (na_Suits_its_kinds : PySem.W.findIn K (.ref C_Suits) "its_kinds" = some none)
    (na_Suits_its_pairs : PySem.W.findIn K (.ref C_Suits) "its_pairs" = some none)
    (na_Suits_its_mates : PySem.W.findIn K (.ref C_Suits) "its_mates" = some none)
    (mt_Suits___init__ : PySem.W.makesIn K C_Suits = true)
    (mkk_Suits___init__ : PySem.W.keepIn K (.ref C_Suits) = true)
    (xhg_NoKind : PySem.W.findIn K (.ref C_NoKind) "__getattribute__" = some (some (.builtin "BaseException.__getattribute__")))
    (xhk_NoKind : PySem.W.findIn K (.ref C_NoKind) "__getattr__" = some none)
    (xhs_NoKind : PySem.W.subIn K (.ref C_NoKind) (.type "BaseException") = some true)
    (xhd_NoKind : PySem.W.hasDictIn K C_NoKind = true)
    (xha_NoKind : PySem.W.findIn K (.ref C_NoKind) "__class__" = some (some (.builtin "object.__class__")))
    (xhn : PySem.W.specialIn K (.builtin "object.__class__") "__get__" = some (some (.builtin "getset_descriptor.__get__")))
    (xht : PySem.W.takesIn K (.builtin "object.__class__") = some true)
    (xhm_NoKind : PySem.W.mroIn K C_NoKind (.type "object") = some true)
    (xn_NoKind_kind : PySem.W.findIn K (.ref C_NoKind) "kind" = some none)
    (xhs_SuitError : PySem.W.subIn K (.ref C_SuitError) (.type "BaseException") = some true)
    (xhd_SuitError : PySem.W.hasDictIn K C_SuitError = true)
    (xty_SuitError : PySem.W.typeIn K (.ref C_SuitError) = some (.type "type"))
    (xsb_NoKind_SuitError : PySem.W.subIn K (.ref C_NoKind) (.ref C_SuitError) = some true)
    (ki_NoKind_ValueError : PySem.W.kitOne K (.ref C_NoKind) (.type "ValueError") = some true)
    (ki_NoKind_Lonely : PySem.W.kitOne K (.ref C_NoKind) (.ref C_Lonely) = some false)
    (ki_NoKind_NoKind : PySem.W.kitOne K (.ref C_NoKind) (.ref C_NoKind) = some true)
    (xL_NoKind : K.lookup C_NoKind = some (excClassObj xnm_NoKind xqn_NoKind C_NoKind xN_NoKind xbs_NoKind [.ref C_SuitError, .type "ValueError", .type "Exception", .type "BaseException", .type "object"] true xsn_NoKind xsu_NoKind xab_NoKind xco_NoKind xdd_NoKind xk0_NoKind xk1_NoKind xk2_NoKind xk3_NoKind xk5_NoKind "ValueError.__new__"))
    (xsa_NoKind : PySem.W.findIn K (.ref C_NoKind) "__setattr__" = some (some (.builtin "object.__setattr__")))
    (xi_NoKind : PySem.W.findIn K (.ref C_NoKind) "__init__" = some (some (.ref fx_NoKind)))
    (xt_NoKind : PySem.W.typeIn K (.ref fx_NoKind) = some (.type "function"))
    (xkp_NoKind : PySem.W.keepIn K (.ref C_NoKind) = true)
    (xty_NoKind : PySem.W.typeIn K (.ref C_NoKind) = some (.type "type"))
    (xl_NoKind : K.lookup fx_NoKind = some ⟨xoc_NoKind, xod_NoKind, .func (PySem.W.ksFn "__init__" "NoKind.__init__" (xA "kind" ⟨19, 17, 19, 21⟩ ⟨19, 23, 19, 27⟩) (xB "the relation has no such kind" "kind" "kind" ⟨20, 8, 20, 13⟩ ⟨20, 8, 20, 15⟩ ⟨20, 8, 20, 24⟩ ⟨20, 25, 20, 56⟩ ⟨20, 8, 20, 57⟩ ⟨20, 8, 20, 57⟩ ⟨21, 8, 21, 12⟩ ⟨21, 8, 21, 17⟩ ⟨21, 20, 21, 24⟩ ⟨21, 8, 21, 24⟩) (xS "kind") .none .none xdo_NoKind xpm_NoKind xan_NoKind (.ref xcd_NoKind) xct_NoKind xcc_NoKind), xsl_NoKind⟩)
    (xcc2_NoKind : PySem.W.codeIn K (.ref xcd_NoKind) "NoKind.__init__" = true)
    (xcl_NoKind : K.lookup xcc_NoKind = some ⟨xv2_NoKind, xd2_NoKind, .cell (some (.ref C_NoKind)), xs2_NoKind⟩)
    (xco2_NoKind : K.lookup xcd_NoKind = some ⟨xv3_NoKind, xd3_NoKind, .fields xvs_NoKind, xs3_NoKind⟩)
    (xfv_NoKind : xvs_NoKind[2]? = some (.str xfi_NoKind xtk_NoKind))
    (xff_NoKind : ((l.prog.main.file : Str) == xfi_NoKind) = true)
    (xsp_NoKind : PySem.W.ks_superIn K C_NoKind C_NoKind "__init__" = some (some (.builtin "ValueError.__init__")))
    (xsv_NoKind : PySem.W.subIn K (.ref C_NoKind) (.type "ValueError") = some true)
    (xsc_NoKind : PySem.W.mroIn K C_NoKind (.ref C_NoKind) = some true)
    (xopq : PySem.W.nsIn K PySem.cStatics "thirdparty.any" = some none)
    (xns : PySem.W.nsIn K mainGlobals "super" = some none)
    (xtop : (l.prog.main.scope.names.lookup ("super" : Str)).isSome = false)
    (a0 : PySem.W.nsIn K mainGlobals "_law_bag" = some (some (.ref f0)))
    (l0 : K.lookup f0 = some ⟨oc0, od0, .func (PySem.W.fnOf "_law_bag" "_law_bag" (defArgs s__law_bag) (defBody s__law_bag) (defScope s__law_bag) .none kV0 dc0 pm0 an0 cd0 ct0), sl0⟩)
    (c0 : PySem.W.codeIn K cd0 "_law_bag" = true)
    (k0 : PySem.W.keepIn K (.ref f0) = true)
    (a1 : PySem.W.nsIn K mainGlobals "_law_take" = some (some (.ref f1)))
    (l1 : K.lookup f1 = some ⟨oc1, od1, .func (PySem.W.fnOf "_law_take" "_law_take" (defArgs s__law_take) (defBody s__law_take) (defScope s__law_take) .none kV1 dc1 pm1 an1 cd1 ct1), sl1⟩)
    (c1 : PySem.W.codeIn K cd1 "_law_take" = true)
    (k1 : PySem.W.keepIn K (.ref f1) = true)
    (a2 : PySem.W.nsIn K mainGlobals "_law_names" = some (some (.ref f2)))
    (l2 : K.lookup f2 = some ⟨oc2, od2, .func (PySem.W.fnOf "_law_names" "_law_names" (defArgs s__law_names) (defBody s__law_names) (defScope s__law_names) .none kV2 dc2 pm2 an2 cd2 ct2), sl2⟩)
    (c2 : PySem.W.codeIn K cd2 "_law_names" = true)
    (k2 : PySem.W.keepIn K (.ref f2) = true)
    (a3 : PySem.W.nsIn K mainGlobals "_law_plan" = some (some (.ref f3)))
    (l3 : K.lookup f3 = some ⟨oc3, od3, .func (PySem.W.fnOf "_law_plan" "_law_plan" (defArgs s__law_plan) (defBody s__law_plan) (defScope s__law_plan) .none kV3 dc3 pm3 an3 cd3 ct3), sl3⟩)
    (c3 : PySem.W.codeIn K cd3 "_law_plan" = true)
    (k3 : PySem.W.keepIn K (.ref f3) = true)
    (a4 : PySem.W.nsIn K mainGlobals "are_different" = some (some (.ref f4)))
    (l4 : K.lookup f4 = some ⟨oc4, od4, .func (PySem.W.fnOf "are_different" "are_different" (defArgs s_are_different) (defBody s_are_different) (defScope s_are_different) .none kV4 dc4 pm4 an4 cd4 ct4), sl4⟩)
    (c4 : PySem.W.codeIn K cd4 "are_different" = true)
    (k4 : PySem.W.keepIn K (.ref f4) = true)
    (a5 : PySem.W.nsIn K mainGlobals "is_kind" = some (some (.ref f5)))
    (l5 : K.lookup f5 = some ⟨oc5, od5, .func (PySem.W.fnOf "is_kind" "is_kind" (defArgs s_is_kind) (defBody s_is_kind) (defScope s_is_kind) .none kV5 dc5 pm5 an5 cd5 ct5), sl5⟩)
    (c5 : PySem.W.codeIn K cd5 "is_kind" = true)
    (k5 : PySem.W.keepIn K (.ref f5) = true)
    (a6 : PySem.W.nsIn K mainGlobals "are_kinds" = some (some (.ref f6)))
    (l6 : K.lookup f6 = some ⟨oc6, od6, .func (PySem.W.fnOf "are_kinds" "are_kinds" (defArgs s_are_kinds) (defBody s_are_kinds) (defScope s_are_kinds) .none kV6 dc6 pm6 an6 cd6 ct6), sl6⟩)
    (c6 : PySem.W.codeIn K cd6 "are_kinds" = true)
    (k6 : PySem.W.keepIn K (.ref f6) = true)
    (a7 : PySem.W.nsIn K mainGlobals "in_order" = some (some (.ref f7)))
    (l7 : K.lookup f7 = some ⟨oc7, od7, .func (PySem.W.fnOf "in_order" "in_order" (defArgs s_in_order) (defBody s_in_order) (defScope s_in_order) .none kV7 dc7 pm7 an7 cd7 ct7), sl7⟩)
    (c7 : PySem.W.codeIn K cd7 "in_order" = true)
    (k7 : PySem.W.keepIn K (.ref f7) = true)
    (a8 : PySem.W.findIn K (.ref C_Suits) "mates_in" = some (some (.ref f8)))
    (i8 : PySem.W.isFn K (.ref f8) = true)
    (l8 : K.lookup f8 = some ⟨oc8, od8, .func (PySem.W.fnOf "mates_in" "Suits.mates_in" (defArgs s_Suits_mates_in) (defBody s_Suits_mates_in) (defScope s_Suits_mates_in) .none kV8 dc8 pm8 an8 cd8 ct8), sl8⟩)
    (c8 : PySem.W.codeIn K cd8 "Suits.mates_in" = true)
    (k8 : PySem.W.keepIn K (.ref f8) = true)
    (a9 : PySem.W.findIn K (.ref C_Suits) "__init__" = some (some (.ref f9)))
    (i9 : PySem.W.isFn K (.ref f9) = true)
    (l9 : K.lookup f9 = some ⟨oc9, od9, .func (PySem.W.fnOf "__init__" "Suits.__init__" (defArgs s_Suits___init__) (defBody s_Suits___init__) (defScope s_Suits___init__) .none kV9 dc9 pm9 an9 cd9 ct9), sl9⟩)
    (c9 : PySem.W.codeIn K cd9 "Suits.__init__" = true)
    (k9 : PySem.W.keepIn K (.ref f9) = true)
    (a10 : PySem.W.findIn K (.ref C_Suits) "mates" = some (some (.ref f10)))
    (i10 : PySem.W.isFn K (.ref f10) = true)
    (l10 : K.lookup f10 = some ⟨oc10, od10, .func (PySem.W.fnOf "mates" "Suits.mates" (defArgs s_Suits_mates) (defBody s_Suits_mates) (defScope s_Suits_mates) .none kV10 dc10 pm10 an10 cd10 ct10), sl10⟩)
    (c10 : PySem.W.codeIn K cd10 "Suits.mates" = true)
    (k10 : PySem.W.keepIn K (.ref f10) = true)
    (a11 : PySem.W.findIn K (.ref C_Suits) "pairs" = some (some (.ref f11)))
    (i11 : PySem.W.isFn K (.ref f11) = true)
    (l11 : K.lookup f11 = some ⟨oc11, od11, .func (PySem.W.fnOf "pairs" "Suits.pairs" (defArgs s_Suits_pairs) (defBody s_Suits_pairs) (defScope s_Suits_pairs) .none kV11 dc11 pm11 an11 cd11 ct11), sl11⟩)
    (c11 : PySem.W.codeIn K cd11 "Suits.pairs" = true)
    (k11 : PySem.W.keepIn K (.ref f11) = true)
    (a12 : PySem.W.findIn K (.ref C_Suits) "lonely" = some (some (.ref f12)))
    (i12 : PySem.W.isFn K (.ref f12) = true)
    (l12 : K.lookup f12 = some ⟨oc12, od12, .func (PySem.W.fnOf "lonely" "Suits.lonely" (defArgs s_Suits_lonely) (defBody s_Suits_lonely) (defScope s_Suits_lonely) .none kV12 dc12 pm12 an12 cd12 ct12), sl12⟩)
    (c12 : PySem.W.codeIn K cd12 "Suits.lonely" = true)
    (k12 : PySem.W.keepIn K (.ref f12) = true)
    (a13 : PySem.W.findIn K (.ref C_Suits) "kinds" = some (some (.ref f13)))
    (i13 : PySem.W.isFn K (.ref f13) = true)
    (l13 : K.lookup f13 = some ⟨oc13, od13, .func (PySem.W.fnOf "kinds" "Suits.kinds" (defArgs s_Suits_kinds) (defBody s_Suits_kinds) (defScope s_Suits_kinds) .none kV13 dc13 pm13 an13 cd13 ct13), sl13⟩)
    (c13 : PySem.W.codeIn K cd13 "Suits.kinds" = true)
    (k13 : PySem.W.keepIn K (.ref f13) = true)
    (a14 : PySem.W.nsIn K mainGlobals "_law_fit" = some (some (.ref f14)))
    (l14 : K.lookup f14 = some ⟨oc14, od14, .func (PySem.W.fnOf "_law_fit" "_law_fit" (defArgs s__law_fit) (defBody s__law_fit) (defScope s__law_fit) .none kV14 dc14 pm14 an14 cd14 ct14), sl14⟩)
    (c14 : PySem.W.codeIn K cd14 "_law_fit" = true)
    (k14 : PySem.W.keepIn K (.ref f14) = true)
    (a15 : PySem.W.nsIn K mainGlobals "_law_mates" = some (some (.ref f15)))
    (l15 : K.lookup f15 = some ⟨oc15, od15, .func (PySem.W.fnOf "_law_mates" "_law_mates" (defArgs s__law_mates) (defBody s__law_mates) (defScope s__law_mates) .none kV15 dc15 pm15 an15 cd15 ct15), sl15⟩)
    (c15 : PySem.W.codeIn K cd15 "_law_mates" = true)
    (k15 : PySem.W.keepIn K (.ref f15) = true)
    (a16 : PySem.W.nsIn K mainGlobals "_law_alike" = some (some (.ref f16)))
    (l16 : K.lookup f16 = some ⟨oc16, od16, .func (PySem.W.fnOf "_law_alike" "_law_alike" (defArgs s__law_alike) (defBody s__law_alike) (defScope s__law_alike) .none kV16 dc16 pm16 an16 cd16 ct16), sl16⟩)
    (c16 : PySem.W.codeIn K cd16 "_law_alike" = true)
    (k16 : PySem.W.keepIn K (.ref f16) = true)
    (a17 : PySem.W.nsIn K mainGlobals "_law_elder_right" = some (some (.ref f17)))
    (l17 : K.lookup f17 = some ⟨oc17, od17, .func (PySem.W.fnOf "_law_elder_right" "_law_elder_right" (defArgs s__law_elder_right) (defBody s__law_elder_right) (defScope s__law_elder_right) .none kV17 dc17 pm17 an17 cd17 ct17), sl17⟩)
    (c17 : PySem.W.codeIn K cd17 "_law_elder_right" = true)
    (k17 : PySem.W.keepIn K (.ref f17) = true)
    (a18 : PySem.W.nsIn K mainGlobals "_law_sorted_pairs" = some (some (.ref f18)))
    (l18 : K.lookup f18 = some ⟨oc18, od18, .func (PySem.W.fnOf "_law_sorted_pairs" "_law_sorted_pairs" (defArgs s__law_sorted_pairs) (defBody s__law_sorted_pairs) (defScope s__law_sorted_pairs) .none kV18 dc18 pm18 an18 cd18 ct18), sl18⟩)
    (c18 : PySem.W.codeIn K cd18 "_law_sorted_pairs" = true)
    (k18 : PySem.W.keepIn K (.ref f18) = true)
    (a19 : PySem.W.findIn K (.ref C_Suits) "__len__" = some (some (.ref f19)))
    (i19 : PySem.W.isFn K (.ref f19) = true)
    (l19 : K.lookup f19 = some ⟨oc19, od19, .func (PySem.W.fnOf "__len__" "Suits.__len__" (defArgs s_Suits___len__) (defBody s_Suits___len__) (defScope s_Suits___len__) .none kV19 dc19 pm19 an19 cd19 ct19), sl19⟩)
    (c19 : PySem.W.codeIn K cd19 "Suits.__len__" = true)
    (k19 : PySem.W.keepIn K (.ref f19) = true)
    (a20 : PySem.W.findIn K (.ref C_Suits) "many" = some (some (.ref p20)))
    (g20 : PySem.W.specialIn K (.ref p20) "__get__" = some (some (.builtin "property.__get__")))
    (t20 : PySem.W.takesIn K (.ref p20) = some true)
    (r20 : PySem.W.recIn K p20 "property" = some (.ref f20 :: pr20))
    (i20 : PySem.W.isFn K (.ref f20) = true)
    (l20 : K.lookup f20 = some ⟨oc20, od20, .func (PySem.W.fnOf "many" "Suits.many" (defArgs s_Suits_many) (defBody s_Suits_many) (defScope s_Suits_many) .none kV20 dc20 pm20 an20 cd20 ct20), sl20⟩)
    (c20 : PySem.W.codeIn K cd20 "Suits.many" = true)
    (k20 : PySem.W.keepIn K (.ref f20) = true)
    (a21 : PySem.W.findIn K (.ref C_Suits) "__repr__" = some (some (.ref f21)))
    (i21 : PySem.W.isFn K (.ref f21) = true)
    (l21 : K.lookup f21 = some ⟨oc21, od21, .func (PySem.W.fnOf "__repr__" "Suits.__repr__" (defArgs s_Suits___repr__) (defBody s_Suits___repr__) (defScope s_Suits___repr__) .none kV21 dc21 pm21 an21 cd21 ct21), sl21⟩)
    (c21 : PySem.W.codeIn K cd21 "Suits.__repr__" = true)
    (k21 : PySem.W.keepIn K (.ref f21) = true)
    (a22 : PySem.W.nsIn K mainGlobals "_law_lists_right" = some (some (.ref f22)))
    (l22 : K.lookup f22 = some ⟨oc22, od22, .func (PySem.W.fnOf "_law_lists_right" "_law_lists_right" (defArgs s__law_lists_right) (defBody s__law_lists_right) (defScope s__law_lists_right) .none kV22 dc22 pm22 an22 cd22 ct22), sl22⟩)
    (c22 : PySem.W.codeIn K cd22 "_law_lists_right" = true)
    (k22 : PySem.W.keepIn K (.ref f22) = true)
    (a23 : PySem.W.nsIn K mainGlobals "_law_mates_right" = some (some (.ref f23)))
    (l23 : K.lookup f23 = some ⟨oc23, od23, .func (PySem.W.fnOf "_law_mates_right" "_law_mates_right" (defArgs s__law_mates_right) (defBody s__law_mates_right) (defScope s__law_mates_right) .none kV23 dc23 pm23 an23 cd23 ct23), sl23⟩)
    (c23 : PySem.W.codeIn K cd23 "_law_mates_right" = true)
    (k23 : PySem.W.keepIn K (.ref f23) = true)
    (a24 : PySem.W.findIn K (.ref C_Suits) "__call__" = some (some (.ref f24)))
    (i24 : PySem.W.isFn K (.ref f24) = true)
    (fi24 : PySem.W.fnIn K f24 = true)
    (l24 : K.lookup f24 = some ⟨oc24, od24, .func (PySem.W.fnOf "__call__" "Suits.__call__" (defArgs s_Suits___call__) (defBody s_Suits___call__) (defScope s_Suits___call__) .none kV24 dc24 pm24 an24 cd24 ct24), sl24⟩)
    (c24 : PySem.W.codeIn K cd24 "Suits.__call__" = true)
    (k24 : PySem.W.keepIn K (.ref f24) = true)
    (a25 : PySem.W.nsIn K mainGlobals "_law_told" = some (some (.ref f25)))
    (l25 : K.lookup f25 = some ⟨oc25, od25, .func (PySem.W.fnOf "_law_told" "_law_told" (defArgs s__law_told) (defBody s__law_told) (defScope s__law_told) .none kV25 dc25 pm25 an25 cd25 ct25), sl25⟩)
    (c25 : PySem.W.codeIn K cd25 "_law_told" = true)
    (k25 : PySem.W.keepIn K (.ref f25) = true)
    (a26 : PySem.W.findIn K (.ref C_Suits) "__contains__" = some (some (.ref f26)))
    (i26 : PySem.W.isFn K (.ref f26) = true)
    (l26 : K.lookup f26 = some ⟨oc26, od26, .func (PySem.W.fnOf "__contains__" "Suits.__contains__" (defArgs s_Suits___contains__) (defBody s_Suits___contains__) (defScope s_Suits___contains__) .none kV26 dc26 pm26 an26 cd26 ct26), sl26⟩)
    (c26 : PySem.W.codeIn K cd26 "Suits.__contains__" = true)
    (k26 : PySem.W.keepIn K (.ref f26) = true)
    (a27 : PySem.W.nsIn K mainGlobals "_law_two_right" = some (some (.ref f27)))
    (l27 : K.lookup f27 = some ⟨oc27, od27, .func (PySem.W.fnOf "_law_two_right" "_law_two_right" (defArgs s__law_two_right) (defBody s__law_two_right) (defScope s__law_two_right) .none kV27 dc27 pm27 an27 cd27 ct27), sl27⟩)
    (c27 : PySem.W.codeIn K cd27 "_law_two_right" = true)
    (k27 : PySem.W.keepIn K (.ref f27) = true)
    (a28 : PySem.W.nsIn K mainGlobals "_law_first_right" = some (some (.ref f28)))
    (l28 : K.lookup f28 = some ⟨oc28, od28, .func (PySem.W.fnOf "_law_first_right" "_law_first_right" (defArgs s__law_first_right) (defBody s__law_first_right) (defScope s__law_first_right) .none kV28 dc28 pm28 an28 cd28 ct28), sl28⟩)
    (c28 : PySem.W.codeIn K cd28 "_law_first_right" = true)
    (k28 : PySem.W.keepIn K (.ref f28) = true)
    (a29 : PySem.W.nsIn K mainGlobals "_law_anew_right" = some (some (.ref f29)))
    (l29 : K.lookup f29 = some ⟨oc29, od29, .func (PySem.W.fnOf "_law_anew_right" "_law_anew_right" (defArgs s__law_anew_right) (defBody s__law_anew_right) (defScope s__law_anew_right) .none kV29 dc29 pm29 an29 cd29 ct29), sl29⟩)
    (c29 : PySem.W.codeIn K cd29 "_law_anew_right" = true)
    (k29 : PySem.W.keepIn K (.ref f29) = true)
    (a30 : PySem.W.nsIn K mainGlobals "law" = some (some (.ref f30)))
    (l30 : K.lookup f30 = some ⟨oc30, od30, .func (PySem.W.fnOf "law" "law" (defArgs s_law) (defBody s_law) (defScope s_law) .none kV30 dc30 pm30 an30 cd30 ct30), sl30⟩)
    (c30 : PySem.W.codeIn K cd30 "law" = true)
    (k30 : PySem.W.keepIn K (.ref f30) = true)
    (z_abs : PySem.W.nsIn K mainGlobals "abs" = some none)
    (z_len : PySem.W.nsIn K mainGlobals "len" = some none)
    (z_range : PySem.W.nsIn K mainGlobals "range" = some none)
    (z_min : PySem.W.nsIn K mainGlobals "min" = some none)
    (z_int : PySem.W.nsIn K mainGlobals "int" = some none)
    (z_set : PySem.W.nsIn K mainGlobals "set" = some none)
    (z_isinstance : PySem.W.nsIn K mainGlobals "isinstance" = some none)
    (z_str : PySem.W.nsIn K mainGlobals "str" = some none)
    (z_all : PySem.W.nsIn K mainGlobals "all" = some none)
    (z_list : PySem.W.nsIn K mainGlobals "list" = some none)
    (z_enumerate : PySem.W.nsIn K mainGlobals "enumerate" = some none)
    (z_tuple : PySem.W.nsIn K mainGlobals "tuple" = some none)
    (z_sorted : PySem.W.nsIn K mainGlobals "sorted" = some none)
    (z_any : PySem.W.nsIn K mainGlobals "any" = some none)
    (z_repr : PySem.W.nsIn K mainGlobals "repr" = some none)
    (z_max : PySem.W.nsIn K mainGlobals "max" = some none)
    (z_ValueError : PySem.W.nsIn K mainGlobals "ValueError" = some none)
    (c_MOST_LETTERS : PySem.W.nsIn K mainGlobals "MOST_LETTERS" = some (some (.int 8 t_MOST_LETTERS)))
    (c_LETTERS : PySem.W.nsIn K mainGlobals "LETTERS" = some (some (.str "abcdefghijklmnopqrstuvwxyz" t_LETTERS)))
    (c_MOST_KINDS : PySem.W.nsIn K mainGlobals "MOST_KINDS" = some (some (.int 8 t_MOST_KINDS)))
    (c_MOST_PAIRS : PySem.W.nsIn K mainGlobals "MOST_PAIRS" = some (some (.int 36 t_MOST_PAIRS)))
    : ∃ fd : FuncData, (∀ (s : Shared) (v : Value), BindsTo s fd ⟨[v], []⟩ [("_law_script", v)]) ∧ ∀ base : Heap, K.In base → base.Ns mainGlobals mg → FnG l.prog w K mg base CX0 7 fa fd ["_law_script"] (lift K sp_law) := by
  have e := hfa.symm.trans (PySem.W.mg_of X G a30)
  cases e
  have cl_Suits : Cls K C_Suits := ⟨pg_Suits, hd_Suits, po_Suits, sa_Suits⟩
  have xc_NoKind : XcT l.prog K mg "NoKind" C_NoKind fx_NoKind "kind" := { gC := PySem.W.mg_of X G gc_NoKind, cls := ⟨_, _, _, _, _, _, _, _, _, _, _, _, _, _, _, xL_NoKind, by rfl⟩, sa := xsa_NoKind, noN := xn_NoKind_kind, iC := xi_NoKind, tC := xt_NoKind, kC := xkp_NoKind, exC := xhs_NoKind, tyC := xty_NoKind, sup := xsp_NoKind, subV := xsv_NoKind, selfC := xsc_NoKind, opq := xopq, noS := PySem.W.mg_none_of X G xns, top := xtop, fn := ⟨_, _, _, _, _, _, _, _, _, _, _, _, _, _, _, _, _, _, _, _, _, _, _, _, xl_NoKind, xcc2_NoKind, ⟨_, _, _, _, _, _, xco2_NoKind, xfv_NoKind, xff_NoKind⟩, ⟨_, _, _, xcl_NoKind⟩, fun s a b => .of_eq rfl, by decide, by decide, by decide, by decide, by decide⟩ }
  have xk_NoKind : ExcC K C_NoKind := ⟨xhg_NoKind, xhk_NoKind, xhs_NoKind, xhd_NoKind, xha_NoKind, xhn, xht, xhm_NoKind⟩
  have F0 := fun_mk (st := s__law_bag) l0 c0 k0
  have b0 := F0.binds (ps := ["_law_script"]) fun _ _ _ _ _ _ us hl => match us, hl with | [_], _ => rfl
  have F1 := fun_mk (st := s__law_take) l1 c1 k1
  have b1 := F1.binds (ps := ["_law_bag_here", "_law_many"]) fun _ _ _ _ _ _ us hl => match us, hl with | [_, _], _ => rfl
  have F2 := fun_mk (st := s__law_names) l2 c2 k2
  have b2 := F2.binds (ps := ["_law_bag_here", "_law_many"]) fun _ _ _ _ _ _ us hl => match us, hl with | [_, _], _ => rfl
  have F3 := fun_mk (st := s__law_plan) l3 c3 k3
  have b3 := F3.binds (ps := ["_law_bag_here", "_law_most"]) fun _ _ _ _ _ _ us hl => match us, hl with | [_, _], _ => rfl
  have F4 := fun_mk (st := s_are_different) l4 c4 k4
  have b4 := F4.binds (ps := ["items"]) fun _ _ _ _ _ _ us hl => match us, hl with | [_], _ => rfl
  have F5 := fun_mk (st := s_is_kind) l5 c5 k5
  have b5 := F5.binds (ps := ["thing"]) fun _ _ _ _ _ _ us hl => match us, hl with | [_], _ => rfl
  have F6 := fun_mk (st := s_are_kinds) l6 c6 k6
  have b6 := F6.binds (ps := ["thing"]) fun _ _ _ _ _ _ us hl => match us, hl with | [_], _ => rfl
  have F7 := fun_mk (st := s_in_order) l7 c7 k7
  have b7 := F7.binds (ps := ["one", "other"]) fun _ _ _ _ _ _ us hl => match us, hl with | [_, _], _ => rfl
  have F8 := fun_mk (st := s_Suits_mates_in) l8 c8 k8
  have b8 := F8.binds (ps := ["self", "pairs", "kind"]) fun _ _ _ _ _ _ us hl => match us, hl with | [_, _, _], _ => rfl
  have F9 := fun_mk (st := s_Suits___init__) l9 c9 k9
  have b9 := F9.binds (ps := ["self", "kinds", "pairs"]) fun _ _ _ _ _ _ us hl => match us, hl with | [_, _, _], _ => rfl
  have F10 := fun_mk (st := s_Suits_mates) l10 c10 k10
  have b10 := F10.binds (ps := ["self", "kinds"]) fun _ _ _ _ _ _ us hl => match us, hl with | [_, _], _ => rfl
  have F11 := fun_mk (st := s_Suits_pairs) l11 c11 k11
  have b11 := F11.binds (ps := ["self"]) fun _ _ _ _ _ _ us hl => match us, hl with | [_], _ => rfl
  have F12 := fun_mk (st := s_Suits_lonely) l12 c12 k12
  have b12 := F12.binds (ps := ["self"]) fun _ _ _ _ _ _ us hl => match us, hl with | [_], _ => rfl
  have F13 := fun_mk (st := s_Suits_kinds) l13 c13 k13
  have b13 := F13.binds (ps := ["self"]) fun _ _ _ _ _ _ us hl => match us, hl with | [_], _ => rfl
  have F14 := fun_mk (st := s__law_fit) l14 c14 k14
  have b14 := F14.binds (ps := ["_law_plan_here", "_law_one", "_law_other"]) fun _ _ _ _ _ _ us hl => match us, hl with | [_, _, _], _ => rfl
  have F15 := fun_mk (st := s__law_mates) l15 c15 k15
  have b15 := F15.binds (ps := ["_law_plan_here", "_law_kinds"]) fun _ _ _ _ _ _ us hl => match us, hl with | [_, _], _ => rfl
  have F16 := fun_mk (st := s__law_alike) l16 c16 k16
  have b16 := F16.binds (ps := ["_law_found", "_law_due"]) fun _ _ _ _ _ _ us hl => match us, hl with | [_, _], _ => rfl
  have F17 := fun_mk (st := s__law_elder_right) l17 c17 k17
  have b17 := F17.binds (ps := ["_law_plan_here", "_law_suits_here"]) fun _ _ _ _ _ _ us hl => match us, hl with | [_, _], _ => rfl
  have F18 := fun_mk (st := s__law_sorted_pairs) l18 c18 k18
  have b18 := F18.binds (ps := ["_law_plan_here"]) fun _ _ _ _ _ _ us hl => match us, hl with | [_], _ => rfl
  have F19 := fun_mk (st := s_Suits___len__) l19 c19 k19
  have b19 := F19.binds (ps := ["self"]) fun _ _ _ _ _ _ us hl => match us, hl with | [_], _ => rfl
  have F20 := fun_mk (st := s_Suits_many) l20 c20 k20
  have b20 := F20.binds (ps := ["self"]) fun _ _ _ _ _ _ us hl => match us, hl with | [_], _ => rfl
  have F21 := fun_mk (st := s_Suits___repr__) l21 c21 k21
  have b21 := F21.binds (ps := ["self"]) fun _ _ _ _ _ _ us hl => match us, hl with | [_], _ => rfl
  have F22 := fun_mk (st := s__law_lists_right) l22 c22 k22
  have b22 := F22.binds (ps := ["_law_plan_here", "_law_suits_here"]) fun _ _ _ _ _ _ us hl => match us, hl with | [_, _], _ => rfl
  have F23 := fun_mk (st := s__law_mates_right) l23 c23 k23
  have b23 := F23.binds (ps := ["_law_bag_here", "_law_plan_here", "_law_suits_here"]) fun _ _ _ _ _ _ us hl => match us, hl with | [_, _, _], _ => rfl
  have F24 := fun_mk (st := s_Suits___call__) l24 c24 k24
  have b24 := F24.binds (ps := ["self", "one", "other"]) fun _ _ _ _ _ _ us hl => match us, hl with | [_, _, _], _ => rfl
  have F25 := fun_mk (st := s__law_told) l25 c25 k25
  have b25 := F25.binds (ps := ["_law_suits_here", "_law_one", "_law_other"]) fun _ _ _ _ _ _ us hl => match us, hl with | [_, _, _], _ => rfl
  have F26 := fun_mk (st := s_Suits___contains__) l26 c26 k26
  have b26 := F26.binds (ps := ["self", "thing"]) fun _ _ _ _ _ _ us hl => match us, hl with | [_, _], _ => rfl
  have F27 := fun_mk (st := s__law_two_right) l27 c27 k27
  have b27 := F27.binds (ps := ["_law_plan_here", "_law_suits_here", "_law_one", "_law_other"]) fun _ _ _ _ _ _ us hl => match us, hl with | [_, _, _, _], _ => rfl
  have F28 := fun_mk (st := s__law_first_right) l28 c28 k28
  have b28 := F28.binds (ps := ["_law_plan_here", "_law_suits_here", "_law_way", "_law_some"]) fun _ _ _ _ _ _ us hl => match us, hl with | [_, _, _, _], _ => rfl
  have F29 := fun_mk (st := s__law_anew_right) l29 c29 k29
  have b29 := F29.binds (ps := ["_law_bag_here", "_law_plan_here"]) fun _ _ _ _ _ _ us hl => match us, hl with | [_, _], _ => rfl
  have F30 := fun_mk (st := s_law) l30 c30 k30
  have b30 := F30.binds (ps := ["_law_script"]) fun _ _ _ _ _ _ us hl => match us, hl with | [_], _ => rfl
  refine ⟨PySem.W.fnOf "law" "law" (defArgs s_law) (defBody s_law) (defScope s_law) .none kV30 dc30 pm30 an30 cd30 ct30, fun s v => .of_eq rfl, fun base hK hG => ?_⟩
  have C0 : Cal l.prog w K mg base 1 "_law_bag" f0 _ ["_law_script"] sp__law_bag := ⟨PySem.W.mg_of X G a0, k0, b0, ok__law_bag (P := l.prog) (w := w) (mg := mg) (base := base)  F0 (PySem.W.mg_none_of X G z_abs)⟩
  have C1 : Cal l.prog w K mg base 1 "_law_take" f1 _ ["_law_bag_here", "_law_many"] sp__law_take := ⟨PySem.W.mg_of X G a1, k1, b1, ok__law_take (P := l.prog) (w := w) (mg := mg) (base := base)  F1 (PySem.W.mg_none_of X G z_len)⟩
  have C2 : Cal l.prog w K mg base 2 "_law_names" f2 _ ["_law_bag_here", "_law_many"] sp__law_names := ⟨PySem.W.mg_of X G a2, k2, b2, ok__law_names (P := l.prog) (w := w) (mg := mg) (base := base)  F2 C1 (PySem.W.mg_none_of X G z_range) (PySem.W.mg_none_of X G z_len)⟩
  have C3 : Cal l.prog w K mg base 3 "_law_plan" f3 _ ["_law_bag_here", "_law_most"] sp__law_plan := ⟨PySem.W.mg_of X G a3, k3, b3, ok__law_plan (P := l.prog) (w := w) (mg := mg) (base := base)  F3 C1 (PySem.W.mg_none_of X G z_min) C2 (PySem.W.mg_none_of X G z_range) (PySem.W.mg_none_of X G z_int) (PySem.W.mg_none_of X G z_len)⟩
  have C4 : Cal l.prog w K mg base 1 "are_different" f4 _ ["items"] sp_are_different := ⟨PySem.W.mg_of X G a4, k4, b4, ok_are_different (P := l.prog) (w := w) (mg := mg) (base := base)  F4 (PySem.W.mg_none_of X G z_len) (PySem.W.mg_none_of X G z_set)⟩
  have C5 : Cal l.prog w K mg base 1 "is_kind" f5 _ ["thing"] sp_is_kind := ⟨PySem.W.mg_of X G a5, k5, b5, ok_is_kind (P := l.prog) (w := w) (mg := mg) (base := base)  F5 (PySem.W.mg_none_of X G z_len) (PySem.W.mg_of X G c_MOST_LETTERS) (PySem.W.mg_none_of X G z_isinstance) (PySem.W.mg_none_of X G z_str) (PySem.W.mg_none_of X G z_all) (PySem.W.mg_of X G c_LETTERS)⟩
  have C6 : Cal l.prog w K mg base 2 "are_kinds" f6 _ ["thing"] sp_are_kinds := ⟨PySem.W.mg_of X G a6, k6, b6, ok_are_kinds (P := l.prog) (w := w) (mg := mg) (base := base)  F6 (PySem.W.mg_none_of X G z_all) C5 (PySem.W.mg_none_of X G z_isinstance) (PySem.W.mg_none_of X G z_list)⟩
  have C7 : Cal l.prog w K mg base 1 "in_order" f7 _ ["one", "other"] sp_in_order := ⟨PySem.W.mg_of X G a7, k7, b7, ok_in_order (P := l.prog) (w := w) (mg := mg) (base := base)  F7 ⟩
  have C8 : CalM l.prog w K mg base 2 f8 _ ["self", "pairs", "kind"] (sp_Suits_mates_in C_Suits) := ⟨b8, ok_Suits_mates_in (P := l.prog) (w := w) (mg := mg) (base := base) (C_Suits := C_Suits) F8 cl_Suits na_Suits_its_kinds C7⟩
  have C9 : CalMZ l.prog w K mg base 3 f9 _ ["self", "kinds", "pairs"] (sp_Suits___init__ C_Suits) := ⟨b9, ok_Suits___init__ (P := l.prog) (w := w) (mg := mg) (base := base) (C_Suits := C_Suits) F9 C4 (PySem.W.mg_none_of X G z_len) (PySem.W.mg_of X G c_MOST_KINDS) C6 (PySem.W.mg_of X G c_MOST_PAIRS) (PySem.W.mg_none_of X G z_isinstance) (PySem.W.mg_none_of X G z_list) (PySem.W.mg_none_of X G z_enumerate) (PySem.W.mg_none_of X G z_tuple) C7 cl_Suits na_Suits_its_kinds (PySem.W.mg_none_of X G z_sorted) na_Suits_its_pairs na_Suits_its_mates C8 ⟨a8, i8, k8⟩⟩
  have C10 : CalM l.prog w K mg base 1 f10 _ ["self", "kinds"] (sp_Suits_mates C_Suits) := ⟨b10, ok_Suits_mates (P := l.prog) (w := w) (mg := mg) (base := base) (C_Suits := C_Suits) F10 cl_Suits na_Suits_its_kinds (PySem.W.mg_none_of X G z_any) na_Suits_its_mates⟩
  have C11 : CalM l.prog w K mg base 1 f11 _ ["self"] (sp_Suits_pairs C_Suits) := ⟨b11, ok_Suits_pairs (P := l.prog) (w := w) (mg := mg) (base := base) (C_Suits := C_Suits) F11 (PySem.W.mg_none_of X G z_list) cl_Suits na_Suits_its_pairs⟩
  have C12 : CalM l.prog w K mg base 1 f12 _ ["self"] (sp_Suits_lonely C_Suits) := ⟨b12, ok_Suits_lonely (P := l.prog) (w := w) (mg := mg) (base := base) (C_Suits := C_Suits) F12 cl_Suits na_Suits_its_kinds na_Suits_its_mates⟩
  have C13 : CalM l.prog w K mg base 1 f13 _ ["self"] (sp_Suits_kinds C_Suits) := ⟨b13, ok_Suits_kinds (P := l.prog) (w := w) (mg := mg) (base := base) (C_Suits := C_Suits) F13 (PySem.W.mg_none_of X G z_list) cl_Suits na_Suits_its_kinds⟩
  have C14 : Cal l.prog w K mg base 1 "_law_fit" f14 _ ["_law_plan_here", "_law_one", "_law_other"] sp__law_fit := ⟨PySem.W.mg_of X G a14, k14, b14, ok__law_fit (P := l.prog) (w := w) (mg := mg) (base := base)  F14 ⟩
  have C15 : Cal l.prog w K mg base 2 "_law_mates" f15 _ ["_law_plan_here", "_law_kinds"] sp__law_mates := ⟨PySem.W.mg_of X G a15, k15, b15, ok__law_mates (P := l.prog) (w := w) (mg := mg) (base := base)  F15 (PySem.W.mg_none_of X G z_sorted) (PySem.W.mg_none_of X G z_any) C14⟩
  have C16 : Cal l.prog w K mg base 1 "_law_alike" f16 _ ["_law_found", "_law_due"] sp__law_alike := ⟨PySem.W.mg_of X G a16, k16, b16, ok__law_alike (P := l.prog) (w := w) (mg := mg) (base := base)  F16 (PySem.W.mg_none_of X G z_repr)⟩
  have C17 : Cal l.prog w K mg base 3 "_law_elder_right" f17 _ ["_law_plan_here", "_law_suits_here"] (sp__law_elder_right C_Suits) := ⟨PySem.W.mg_of X G a17, k17, b17, ok__law_elder_right (P := l.prog) (w := w) (mg := mg) (base := base) (C_Suits := C_Suits) F17 cl_Suits C10 C11 C12 C13 C15 C16 ⟨a10, i10, k10⟩ ⟨a11, i11, k11⟩ ⟨a12, i12, k12⟩ ⟨a13, i13, k13⟩⟩
  have C18 : Cal l.prog w K mg base 1 "_law_sorted_pairs" f18 _ ["_law_plan_here"] sp__law_sorted_pairs := ⟨PySem.W.mg_of X G a18, k18, b18, ok__law_sorted_pairs (P := l.prog) (w := w) (mg := mg) (base := base)  F18 (PySem.W.mg_none_of X G z_sorted) (PySem.W.mg_none_of X G z_max) (PySem.W.mg_none_of X G z_min)⟩
  have C19 : CalM l.prog w K mg base 1 f19 _ ["self"] (sp_Suits___len__ C_Suits) := ⟨b19, ok_Suits___len__ (P := l.prog) (w := w) (mg := mg) (base := base) (C_Suits := C_Suits) F19 (PySem.W.mg_none_of X G z_len) cl_Suits na_Suits_its_kinds⟩
  have C20 : CalM l.prog w K mg base 1 f20 _ ["self"] (sp_Suits_many C_Suits) := ⟨b20, ok_Suits_many (P := l.prog) (w := w) (mg := mg) (base := base) (C_Suits := C_Suits) F20 (PySem.W.mg_none_of X G z_len) cl_Suits na_Suits_its_pairs⟩
  have C21 : CalM l.prog w K mg base 1 f21 _ ["self"] (sp_Suits___repr__ C_Suits) := ⟨b21, ok_Suits___repr__ (P := l.prog) (w := w) (mg := mg) (base := base) (C_Suits := C_Suits) F21 cl_Suits na_Suits_its_pairs na_Suits_its_kinds⟩
  have C22 : Cal l.prog w K mg base 3 "_law_lists_right" f22 _ ["_law_plan_here", "_law_suits_here"] (sp__law_lists_right C_Suits) := ⟨PySem.W.mg_of X G a22, k22, b22, ok__law_lists_right (P := l.prog) (w := w) (mg := mg) (base := base) (C_Suits := C_Suits) F22 (PySem.W.mg_none_of X G z_sorted) C15 C18 cl_Suits C12 C11 C13 (PySem.W.mg_none_of X G z_len) C19 C20 C16 (PySem.W.mg_none_of X G z_repr) C21 ⟨a12, i12, k12⟩ ⟨a11, i11, k11⟩ ⟨a13, i13, k13⟩ ⟨a19, i19, k19⟩ ⟨a20, g20, t20, ⟨_, r20⟩⟩ ⟨a21, i21, k21⟩⟩
  have C23 : Cal l.prog w K mg base 3 "_law_mates_right" f23 _ ["_law_bag_here", "_law_plan_here", "_law_suits_here"] (sp__law_mates_right C_Suits) := ⟨PySem.W.mg_of X G a23, k23, b23, ok__law_mates_right (P := l.prog) (w := w) (mg := mg) (base := base) (C_Suits := C_Suits) F23 (PySem.W.mg_none_of X G z_range) C1 (PySem.W.mg_none_of X G z_list) cl_Suits C10 C16 C15 ⟨a10, i10, k10⟩⟩
  have C24 : CalMX l.prog w K mg base 2 f24 _ ["self", "one", "other"] (sp_Suits___call__ C_Suits C_NoKind) := ⟨b24, ok_Suits___call__ (P := l.prog) (w := w) (mg := mg) (base := base) (C_Suits := C_Suits) (C_NoKind := C_NoKind) F24 cl_Suits na_Suits_its_kinds xc_NoKind na_Suits_its_mates⟩
  have C25 : Cal l.prog w K mg base 3 "_law_told" f25 _ ["_law_suits_here", "_law_one", "_law_other"] (sp__law_told C_Suits) := ⟨PySem.W.mg_of X G a25, k25, b25, ok__law_told (P := l.prog) (w := w) (mg := mg) (base := base) (C_SuitError := C_SuitError) (C_NoKind := C_NoKind) (C_Suits := C_Suits) (C_Lonely := C_Lonely) F25 (PySem.W.mg_of X G gc_SuitError) xk_NoKind (PySem.W.exm_ref xhs_SuitError xhd_SuitError xty_SuitError xsb_NoKind_SuitError) C24 (PySem.W.mg_none_of X G z_isinstance) ki_NoKind_ValueError (PySem.W.mg_none_of X G z_ValueError) ki_NoKind_Lonely (PySem.W.mg_of X G gc_Lonely) ki_NoKind_NoKind (PySem.W.mg_of X G gc_NoKind) xn_NoKind_kind ⟨a24, i24, fi24⟩⟩
  have C26 : CalM l.prog w K mg base 1 f26 _ ["self", "thing"] (sp_Suits___contains__ C_Suits) := ⟨b26, ok_Suits___contains__ (P := l.prog) (w := w) (mg := mg) (base := base) (C_Suits := C_Suits) F26 cl_Suits na_Suits_its_kinds (PySem.W.mg_none_of X G z_len) (PySem.W.mg_none_of X G z_isinstance) (PySem.W.mg_none_of X G z_tuple) na_Suits_its_mates⟩
  have C27 : Cal l.prog w K mg base 4 "_law_two_right" f27 _ ["_law_plan_here", "_law_suits_here", "_law_one", "_law_other"] (sp__law_two_right C_Suits) := ⟨PySem.W.mg_of X G a27, k27, b27, ok__law_two_right (P := l.prog) (w := w) (mg := mg) (base := base) (C_Suits := C_Suits) F27 C14 C16 C25 C26 ⟨a26, i26, k26⟩⟩
  have C28 : Cal l.prog w K mg base 5 "_law_first_right" f28 _ ["_law_plan_here", "_law_suits_here", "_law_way", "_law_some"] (sp__law_first_right C_Suits) := ⟨PySem.W.mg_of X G a28, k28, b28, ok__law_first_right (P := l.prog) (w := w) (mg := mg) (base := base) (C_Suits := C_Suits) F28 (PySem.W.mg_none_of X G z_sorted) C16 C15 cl_Suits C10 C18 C11 C12 (PySem.W.mg_none_of X G z_repr) C21 (PySem.W.mg_none_of X G z_len) C19 C20 C27 C13 ⟨a10, i10, k10⟩ ⟨a11, i11, k11⟩ ⟨a12, i12, k12⟩ ⟨a21, i21, k21⟩ ⟨a19, i19, k19⟩ ⟨a20, g20, t20, ⟨_, r20⟩⟩ ⟨a13, i13, k13⟩⟩
  have C29 : Cal l.prog w K mg base 6 "_law_anew_right" f29 _ ["_law_bag_here", "_law_plan_here"] (sp__law_anew_right C_Suits) := ⟨PySem.W.mg_of X G a29, k29, b29, ok__law_anew_right (P := l.prog) (w := w) (mg := mg) (base := base) (C_Suits := C_Suits) F29 (PySem.W.mg_none_of X G z_list) C9 (PySem.W.mg_of X G gc_Suits) C1 (PySem.W.mg_none_of X G z_len) (PySem.W.mg_none_of X G z_range) C28 ⟨mt_Suits___init__, a9, i9, mkk_Suits___init__⟩⟩
  exact ok_law (P := l.prog) (w := w) (mg := mg) (base := base) (C_Suits := C_Suits) F30 C0 (PySem.W.mg_none_of X G z_range) C3 (PySem.W.mg_none_of X G z_list) C9 (PySem.W.mg_of X G gc_Suits) C17 C22 C23 C27 C26 C29 ⟨mt_Suits___init__, a9, i9, mkk_Suits___init__⟩ ⟨a26, i26, k26⟩
end LW
open PySem PySem.W PyProof.Rows
set_option maxHeartbeats 0 in
theorem PySem.Challenge.cw_suitedpairs_k13_relations_told_holds : PySem.Challenge.rw_suitedpairs_k13_relations_told.Holds := by
  w_on; o_law; k_head; (case hw => w_witness2)
  k_fill
  refine DL.walkG (l := PySem.Challenge.rw_suitedpairs_k13_relations_told) (n := 63) (k := 7) (x := "_law_script") rfl (by decide) rfl ⟨rfl, by decide, by decide⟩ (fun w h Y => PySem.W.kIn_of Y) ?F
  case F =>
    intro w mg fa h KX G hmg
    refine' LW.all_mk KX G hmg ?gc_Suits ?gc_NoKind ?gc_SuitError ?gc_Lonely ?pg_Suits ?hd_Suits ?po_Suits ?sa_Suits ?na_Suits_its_kinds ?na_Suits_its_pairs ?na_Suits_its_mates ?mt_Suits___init__ ?mkk_Suits___init__ ?xhg_NoKind ?xhk_NoKind ?xhs_NoKind ?xhd_NoKind ?xha_NoKind ?xhn ?xht ?xhm_NoKind ?xn_NoKind_kind ?xhs_SuitError ?xhd_SuitError ?xty_SuitError ?xsb_NoKind_SuitError ?ki_NoKind_ValueError ?ki_NoKind_Lonely ?ki_NoKind_NoKind ?xL_NoKind ?xsa_NoKind ?xi_NoKind ?xt_NoKind ?xkp_NoKind ?xty_NoKind ?xl_NoKind ?xcc2_NoKind ?xcl_NoKind ?xco2_NoKind ?xfv_NoKind ?xff_NoKind ?xsp_NoKind ?xsv_NoKind ?xsc_NoKind ?xopq ?xns ?xtop ?a0 ?l0 ?c0 ?k0 ?a1 ?l1 ?c1 ?k1 ?a2 ?l2 ?c2 ?k2 ?a3 ?l3 ?c3 ?k3 ?a4 ?l4 ?c4 ?k4 ?a5 ?l5 ?c5 ?k5 ?a6 ?l6 ?c6 ?k6 ?a7 ?l7 ?c7 ?k7 ?a8 ?i8 ?l8 ?c8 ?k8 ?a9 ?i9 ?l9 ?c9 ?k9 ?a10 ?i10 ?l10 ?c10 ?k10 ?a11 ?i11 ?l11 ?c11 ?k11 ?a12 ?i12 ?l12 ?c12 ?k12 ?a13 ?i13 ?l13 ?c13 ?k13 ?a14 ?l14 ?c14 ?k14 ?a15 ?l15 ?c15 ?k15 ?a16 ?l16 ?c16 ?k16 ?a17 ?l17 ?c17 ?k17 ?a18 ?l18 ?c18 ?k18 ?a19 ?i19 ?l19 ?c19 ?k19 ?a20 ?g20 ?t20 ?r20 ?i20 ?l20 ?c20 ?k20 ?a21 ?i21 ?l21 ?c21 ?k21 ?a22 ?l22 ?c22 ?k22 ?a23 ?l23 ?c23 ?k23 ?a24 ?i24 ?fi24 ?l24 ?c24 ?k24 ?a25 ?l25 ?c25 ?k25 ?a26 ?i26 ?l26 ?c26 ?k26 ?a27 ?l27 ?c27 ?k27 ?a28 ?l28 ?c28 ?k28 ?a29 ?l29 ?c29 ?k29 ?a30 ?l30 ?c30 ?k30 ?z_abs ?z_len ?z_range ?z_min ?z_int ?z_set ?z_isinstance ?z_str ?z_all ?z_list ?z_enumerate ?z_tuple ?z_sorted ?z_any ?z_repr ?z_max ?z_ValueError ?c_MOST_LETTERS ?c_LETTERS ?c_MOST_KINDS ?c_MOST_PAIRS
    (case gc_Suits => k_is); (case gc_NoKind => k_is); (case gc_SuitError => k_is); (case gc_Lonely => k_is); (case pg_Suits => k_is); (case hd_Suits => k_is)
    (case po_Suits => k_is); (case sa_Suits => k_is); (case na_Suits_its_kinds => k_is); (case na_Suits_its_pairs => k_is); (case na_Suits_its_mates => k_is); (case mt_Suits___init__ => k_is)
    (case mkk_Suits___init__ => k_is); (case xhg_NoKind => k_is); (case xhk_NoKind => k_is); (case xhs_NoKind => k_is); (case xhd_NoKind => k_is); (case xha_NoKind => k_is)
    (case xhn => k_is); (case xht => k_is); (case xhm_NoKind => k_is); (case xn_NoKind_kind => k_is); (case xhs_SuitError => k_is); (case xhd_SuitError => k_is)
    (case xty_SuitError => k_is); (case xsb_NoKind_SuitError => first | rfl | k_is); (case ki_NoKind_ValueError => first | rfl | kit_is | k_is); (case ki_NoKind_Lonely => first | rfl | kit_is | k_is); (case ki_NoKind_NoKind => first | rfl | kit_is | k_is); (case xL_NoKind => k_is)
    (case xsa_NoKind => k_is); (case xi_NoKind => k_is); (case xt_NoKind => k_is); (case xkp_NoKind => k_is); (case xty_NoKind => k_is); (case xl_NoKind => k_is)
    (case xcc2_NoKind => k_is); (case xcl_NoKind => k_is); (case xco2_NoKind => k_is); (case xfv_NoKind => rfl); (case xff_NoKind => first | rfl | decide +kernel); (case xsp_NoKind => first | ks_is | rfl | k_is)
    (case xsv_NoKind => k_is); (case xsc_NoKind => first | rfl | k_is); (case xopq => k_is); (case xns => k_is); (case xtop => first | rfl | decide +kernel); (case a0 => k_is)
    (case l0 => k_is); (case c0 => k_is); (case k0 => k_is); (case a1 => k_is); (case l1 => k_is); (case c1 => k_is)
    (case k1 => k_is); (case a2 => k_is); (case l2 => k_is); (case c2 => k_is); (case k2 => k_is); (case a3 => k_is)
    (case l3 => k_is); (case c3 => k_is); (case k3 => k_is); (case a4 => k_is); (case l4 => k_is); (case c4 => k_is)
    (case k4 => k_is); (case a5 => k_is); (case l5 => k_is); (case c5 => k_is); (case k5 => k_is); (case a6 => k_is)
    (case l6 => k_is); (case c6 => k_is); (case k6 => k_is); (case a7 => k_is); (case l7 => k_is); (case c7 => k_is)
    (case k7 => k_is); (case a8 => k_is); (case i8 => k_is); (case l8 => k_is); (case c8 => k_is); (case k8 => k_is)
    (case a9 => k_is); (case i9 => k_is); (case l9 => k_is); (case c9 => k_is); (case k9 => k_is); (case a10 => k_is)
    (case i10 => k_is); (case l10 => k_is); (case c10 => k_is); (case k10 => k_is); (case a11 => k_is); (case i11 => k_is)
    (case l11 => k_is); (case c11 => k_is); (case k11 => k_is); (case a12 => k_is); (case i12 => k_is); (case l12 => k_is)
    (case c12 => k_is); (case k12 => k_is); (case a13 => k_is); (case i13 => k_is); (case l13 => k_is); (case c13 => k_is)
    (case k13 => k_is); (case a14 => k_is); (case l14 => k_is); (case c14 => k_is); (case k14 => k_is); (case a15 => k_is)
    (case l15 => k_is); (case c15 => k_is); (case k15 => k_is); (case a16 => k_is); (case l16 => k_is); (case c16 => k_is)
    (case k16 => k_is); (case a17 => k_is); (case l17 => k_is); (case c17 => k_is); (case k17 => k_is); (case a18 => k_is)
    (case l18 => k_is); (case c18 => k_is); (case k18 => k_is); (case a19 => k_is); (case i19 => k_is); (case l19 => k_is)
    (case c19 => k_is); (case k19 => k_is); (case a20 => k_is); (case g20 => k_is); (case t20 => k_is); (case r20 => k_is)
    (case i20 => k_is); (case l20 => k_is); (case c20 => k_is); (case k20 => k_is); (case a21 => k_is); (case i21 => k_is)
    (case l21 => k_is); (case c21 => k_is); (case k21 => k_is); (case a22 => k_is); (case l22 => k_is); (case c22 => k_is)
    (case k22 => k_is); (case a23 => k_is); (case l23 => k_is); (case c23 => k_is); (case k23 => k_is); (case a24 => k_is)
    (case i24 => k_is); (case fi24 => k_is); (case l24 => k_is); (case c24 => k_is); (case k24 => k_is); (case a25 => k_is)
    (case l25 => k_is); (case c25 => k_is); (case k25 => k_is); (case a26 => k_is); (case i26 => k_is); (case l26 => k_is)
    (case c26 => k_is); (case k26 => k_is); (case a27 => k_is); (case l27 => k_is); (case c27 => k_is); (case k27 => k_is)
    (case a28 => k_is); (case l28 => k_is); (case c28 => k_is); (case k28 => k_is); (case a29 => k_is); (case l29 => k_is)
    (case c29 => k_is); (case k29 => k_is); (case a30 => k_is); (case l30 => k_is); (case c30 => k_is); (case k30 => k_is)
    (case z_abs => k_is); (case z_len => k_is); (case z_range => k_is); (case z_min => k_is); (case z_int => k_is); (case z_set => k_is)
    (case z_isinstance => k_is); (case z_str => k_is); (case z_all => k_is); (case z_list => k_is); (case z_enumerate => k_is); (case z_tuple => k_is)
    (case z_sorted => k_is); (case z_any => k_is); (case z_repr => k_is); (case z_max => k_is); (case z_ValueError => k_is); (case c_MOST_LETTERS => k_is)
    (case c_LETTERS => k_is); (case c_MOST_KINDS => k_is); (case c_MOST_PAIRS => k_is)
