import PyProof.Rows.All
import Wide.All
import OpenK.AllK
import Wide.FinOn
import HandS.ForMost
import HandS.More
import HandS.Flow
import HandS.Deep
import HandS.Wide
import HandS.Style
import KE.KDictKeyed
import HandS.ExcCtx
import HandS.SuiteRaise
import HandS.RaiseFrom
import HandS.Exc
import HandS.TupAny
import HandS.Flt
import HandS.RaiseMore
import HandS.IsInst
import HandS.Property
import HandS.Star
import HandS.Strs
import HandS.DictComp
import KE.SortData
import HandS.Text
import HandS.Conv
import HandS.ListItems
import KE.KDictZip
import KE.DataFind
import KE.KExcSuper
import HandS.ExcIs
import HandS.ExcField
import HandS.TryMany
import HandS.TryOnly
import KE.KTryMore
import HandS.FStr
import KE.KFmtOwn
import HandS.Set
import HandS.NoneIn
import HandS.Codes
import HandS.GenList
import HandS.Defaults
import HandS.MakeKwOnly
import PyProof.FactsAll.bool_2
import KE.KTupSum
import KE.KDictDisplayH
import HandS.SlotsOwn
import PyProof.Rows.StrOr
import HandS.TupLen
import HandS.SortInts
import HandS.SortOrd
import KE.LtData
import PyProof.EqKinds
import HandS.Zip
import KE.KExcMake
import KE.KExcInit
import HandS.ExcValue
import PySem.Challenge.RW_suitedpairs_k17_errors_apart
set_option Elab.async false
set_option linter.all false
set_option maxRecDepth 100000
set_option maxHeartbeats 4000000
/-! The data layer: what a def does, told over data alone. -/
namespace DL
open PySem L2

inductive D where
  | non
  | bl (b : Bool)
  | int (i : Int)
  | str (x : Str)
  | lst (l : List D)
  | tup (l : List D)
  | dct (kvs : List (Key × D))
  | obj (C : Addr) (fs : List (Str × D))
  | scr (ns : List Int)
  | rep (d : D)
  /-- the object at p, whatever it holds -/
  | at (p : Addr)
  /-- a caught error at a: its own dict, its class, its one field -/
  | exc (a dd C : Addr) (f : Str) (d : D)
  | err (a C : Addr) (f : Str) (d : D)
  /-- a dict whose keys are things of which a tuple may be made -/
  | dx (w : World) (kvs : List (NestedKey × D))
  /-- nothing is known -/
  | unk

def keyPy : Key → PyData
  | .inl i => .int i
  | .inr x => .str x
mutual
def D.py : D → PyData
  | .non => .none
  | .bl b => .bool b
  | .int i => .int i
  | .str x => .str x
  | .lst l => .list (D.pys l)
  | .tup l => .tuple (D.pys l)
  | .dct kvs => .dict (D.pyk kvs)
  | .obj _ _ => .dict []
  | .scr _ => .dict []
  | .rep _ => .dict []
  | .at _ => .dict []
  | .exc _ _ _ _ _ => .dict []
  | .err _ _ _ _ => .dict []
  | .dx _ _ => .dict []
  | .unk => .dict []
def D.pys : List D → List PyData
  | [] => []
  | d :: r => d.py :: D.pys r
def D.pyk : List (Key × D) → List (PyData × PyData)
  | [] => []
  | (k, d) :: r => (keyPy k, d.py) :: D.pyk r
end

mutual
inductive DN (F : Hp) : V → NestedKey → Prop
  | non : DN F .non .none
  | bl (b : Bool) : DN F (.bl b) (.num (if b = true then 1 else 0))
  | int (i : Int) : DN F (.int i) (.num i)
  | str (x : Str) : DN F (.str x) (.text x)
  | tup {a : Addr} {xs : List V} {ks : List NestedKey} : F a = some (.tup xs) → DNL F xs ks → DN F (.ref a) (.tup ks)
inductive DNL (F : Hp) : List V → List NestedKey → Prop
  | nil : DNL F [] []
  | cons {v : V} {vs : List V} {k : NestedKey} {ks : List NestedKey} : DN F v k → DNL F vs ks → DNL F (v :: vs) (k :: ks)
end
mutual
theorem DN.mono {F F' : Hp} (e : Same F F') : ∀ {k : NestedKey} {v : V}, DN F v k → DN F' v k
  | .none, _, h => by cases h; exact .non
  | .num i, _, h => by cases h with | bl b => exact .bl b | int i => exact .int i
  | .text x, _, h => by cases h; exact .str x
  | .tup ks, _, h => by cases h with | tup a b => exact .tup (e _ _ a) (DNL.mono e b)
theorem DNL.mono {F F' : Hp} (e : Same F F') : ∀ {ks : List NestedKey} {vs : List V}, DNL F vs ks → DNL F' vs ks
  | [], _, h => by cases h; exact .nil
  | k :: ks, _, h => by cases h with | cons a b => exact .cons (DN.mono e a) (DNL.mono e b)
end
/-- at a stands a dict with such keys -/
def KD (w : World) (a : Addr) (ys : List (NestedKey × Addr × V)) : Heap → Prop := fun h => ys.length ≤ sizeLine ∧ (a == sysModules) = false ∧ ∃ xs : List (NestedKey × Addr × Value),
  Paired (fun (p : NestedKey × Addr × V) (q : NestedKey × Addr × Value) => p.1 = q.1 ∧ p.2.1 = q.2.1 ∧ RelV p.2.2 q.2.2) ys xs ∧
  ∃ o es ep, h.get? a = some o ∧ o.ExactDict ∧ o.data = .dict es ep ∧ es.toList = xs.map (fun x => (⟨x.1.hash w, .ref x.2.1, x.2.2⟩ : DictEntry)) ∧ (xs.map (·.1)).Nodup
/-- an error lies at a: of which class, with which dict -/
def ErrP (a C : Addr) (d : Option Addr) : Heap → Prop := fun h => ∃ oe, h.get? a = some oe ∧ oe.cls = .ref C ∧ oe.dict = d ∧ ∃ vs, oe.data = .fields vs
/-- a key that is a text is a good one -/
def keyOk : Key → Prop
  | .inr x => PyData.strOk x = true
  | .inl _ => True
mutual
inductive Den (K : PySem.W.Frag) (F : Hp) : V → D → Prop
  | non : Den K F .non .non
  | bl (b : Bool) : Den K F (.bl b) (.bl b)
  | int (i : Int) : Den K F (.int i) (.int i)
  | str (x : Str) (h : PyData.strOk x = true) : Den K F (.str x) (.str x)
  | lst {a : Addr} {xs : List V} {ds : List D} : F a = some (.lst xs) → DenL K F xs ds → Den K F (.ref a) (.lst ds)
  | tup {a : Addr} {xs : List V} {ds : List D} : F a = some (.tup xs) → DenL K F xs ds → Den K F (.ref a) (.tup ds)
  | dct {a : Addr} {ks : List (Key × V)} {ds : List (Key × D)} : F a = some (.dK ks) → DenK K F ks ds → Den K F (.ref a) (.dct ds)
  | obj {a C dx : Addr} {gs : List (Str × V)} {fs : List (Str × D)} : F a = some (.ins C dx gs) → DenO K F gs fs → Den K F (.ref a) (.obj C fs)
  | scr {a : Addr} {ns : List Int} : SqL K F a (ns.map V.int) → Den K F (.ref a) (.scr ns)
  | rep (d : D) : Den K F (.str d.py.shown) (.rep d)
  | at (p : Addr) : Den K F (.ref p) (.at p)
  | exc {a dd C : Addr} {f : Str} {v : V} {d : D} : F dd = some (.xd [(f, v)]) → Den K F v d → Den K F (.ref a) (.exc a dd C f d)
  | err {a C dd : Addr} {f : Str} {v : V} {d : D} : F a = some (.ext (ErrP a C (some dd))) → F dd = some (.xd [(f, v)]) → Den K F v d → Den K F (.ref a) (.err a C f d)
  | er0 {a C : Addr} : F a = some (.ext (ErrP a C none)) → Den K F (.ref a) (.err a C Str.empty .non)
  | dx {a : Addr} {w : World} {ys : List (NestedKey × Addr × V)} {ds : List (NestedKey × D)} : F a = some (.ext (KD w a ys)) → DenX K F ys ds → Den K F (.ref a) (.dx w ds)
  | unk (v : V) : Den K F v .unk
inductive DenL (K : PySem.W.Frag) (F : Hp) : List V → List D → Prop
  | nil : DenL K F [] []
  | cons {v : V} {vs : List V} {d : D} {ds : List D} : Den K F v d → DenL K F vs ds → DenL K F (v :: vs) (d :: ds)
inductive DenK (K : PySem.W.Frag) (F : Hp) : List (Key × V) → List (Key × D) → Prop
  | nil : DenK K F [] []
  | cons {k : Key} {v : V} {vs : List (Key × V)} {d : D} {ds : List (Key × D)} : Den K F v d → keyOk k → DenK K F vs ds → DenK K F ((k, v) :: vs) ((k, d) :: ds)
inductive DenX (K : PySem.W.Frag) (F : Hp) : List (NestedKey × Addr × V) → List (NestedKey × D) → Prop
  | nil : DenX K F [] []
  | cons {k : NestedKey} {b : Addr} {v : V} {d : D} {ys : List (NestedKey × Addr × V)} {ds : List (NestedKey × D)} : DN F (.ref b) k → k.depth ≤ 8 → Den K F v d → DenX K F ys ds → DenX K F ((k, b, v) :: ys) ((k, d) :: ds)
inductive DenO (K : PySem.W.Frag) (F : Hp) : List (Str × V) → List (Str × D) → Prop
  | nil : DenO K F [] []
  | cons {k : Str} {v : V} {vs : List (Str × V)} {d : D} {ds : List (Str × D)} : Den K F v d → DenO K F vs ds → DenO K F ((k, v) :: vs) ((k, d) :: ds)
end

section
variable {K : PySem.W.Frag} {F F' : Hp}
mutual
theorem Den.mono (e : Same F F') : ∀ {d : D} {v : V}, Den K F v d → Den K F' v d
  | .non, _, h => by cases h; exact .non
  | .bl b, _, h => by cases h; exact .bl _
  | .int i, _, h => by cases h; exact .int _
  | .str x, _, h => by cases h with | str _ a => exact .str _ a
  | .lst ds, _, h => by cases h with | lst a b => exact .lst (e _ _ a) (DenL.mono e b)
  | .tup ds, _, h => by cases h with | tup a b => exact .tup (e _ _ a) (DenL.mono e b)
  | .dct ds, _, h => by cases h with | dct a b => exact .dct (e _ _ a) (DenK.mono e b)
  | .obj C fs, _, h => by cases h with | obj a b => exact .obj (e _ _ a) (DenO.mono e b)
  | .scr ns, _, h => by cases h with | scr a => exact .scr (e.seq a)
  | .rep d, _, h => by cases h; exact .rep d
  | .at p, _, h => by cases h; exact .at p
  | .exc _ _ _ _ _, _, h => by cases h with | exc a b => exact .exc (e _ _ a) (Den.mono e b)
  | .err _ _ _ _, _, h => by cases h with
    | err a b c => exact .err (e _ _ a) (e _ _ b) (Den.mono e c)
    | er0 a => exact .er0 (e _ _ a)
  | .dx _ ds, _, h => by cases h with | dx a b => exact .dx (e _ _ a) (DenX.mono e b)
  | .unk, _, h => .unk _
theorem DenL.mono (e : Same F F') : ∀ {ds : List D} {vs : List V}, DenL K F vs ds → DenL K F' vs ds
  | [], _, h => by cases h; exact .nil
  | d :: ds, _, h => by cases h with | cons a b => exact .cons (Den.mono e a) (DenL.mono e b)
theorem DenK.mono (e : Same F F') : ∀ {ds : List (Key × D)} {vs : List (Key × V)}, DenK K F vs ds → DenK K F' vs ds
  | [], _, h => by cases h; exact .nil
  | (k, d) :: ds, _, h => by cases h with | cons a o b => exact .cons (Den.mono e a) o (DenK.mono e b)
theorem DenX.mono (e : Same F F') : ∀ {ds : List (NestedKey × D)} {ys : List (NestedKey × Addr × V)}, DenX K F ys ds → DenX K F' ys ds
  | [], _, h => by cases h; exact .nil
  | (k, d) :: ds, _, h => by cases h with | cons a dp c b => exact .cons (DN.mono e a) dp (Den.mono e c) (DenX.mono e b)
theorem DenO.mono (e : Same F F') : ∀ {ds : List (Str × D)} {vs : List (Str × V)}, DenO K F vs ds → DenO K F' vs ds
  | [], _, h => by cases h; exact .nil
  | (k, d) :: ds, _, h => by cases h with | cons a b => exact .cons (Den.mono e a) (DenO.mono e b)
end
theorem DenL.length : ∀ {vs : List V} {ds : List D}, DenL K F vs ds → vs.length = ds.length
  | _, _, .nil => rfl
  | _, _, .cons _ t => by rw [List.length_cons, List.length_cons, t.length]
theorem DenL.append : ∀ {vs us : List V} {ds es : List D}, DenL K F vs ds → DenL K F us es → DenL K F (vs ++ us) (ds ++ es)
  | _, _, _, _, .nil, h => h
  | _, _, _, _, .cons a t, h => .cons a (t.append h)
theorem DenL.get : ∀ {vs : List V} {ds : List D} {i : Nat} {d : D}, DenL K F vs ds → ds[i]? = some d → ∃ v, vs[i]? = some v ∧ Den K F v d
  | _, _, _, _, .nil, e => by simp at e
  | _, _, 0, _, .cons a _, e => by simp at e; subst e; exact ⟨_, rfl, a⟩
  | _, _, i + 1, d, .cons _ t, e => by
    obtain ⟨u, h1, h2⟩ := DenL.get (i := i) (d := d) t (by simpa using e)
    exact ⟨u, by simpa using h1, h2⟩
theorem DenL.get' {vs : List V} {ds : List D} {i : Nat} {v : V} (h : DenL K F vs ds) (e : vs[i]? = some v) : ∃ d, ds[i]? = some d ∧ Den K F v d := by
  have hi : i < vs.length := (List.getElem?_eq_some_iff.mp e).1
  rw [h.length] at hi
  obtain ⟨u, h1, h2⟩ := h.get (List.getElem?_eq_getElem hi)
  rw [e] at h1; cases h1
  exact ⟨_, List.getElem?_eq_getElem hi, h2⟩
theorem DenL.take : ∀ {vs : List V} {ds : List D} (n : Nat), DenL K F vs ds → DenL K F (vs.take n) (ds.take n)
  | _, _, 0, _ => .nil
  | _, _, _ + 1, .nil => .nil
  | _, _, n + 1, .cons r t => .cons r (t.take n)
theorem DenL.drop : ∀ {vs : List V} {ds : List D} (n : Nat), DenL K F vs ds → DenL K F (vs.drop n) (ds.drop n)
  | _, _, 0, r => r
  | _, _, _ + 1, .nil => .nil
  | _, _, n + 1, .cons _ t => t.drop n
theorem DenL.set {x : V} {d : D} (r : Den K F x d) : ∀ {vs : List V} {ds : List D} (i : Nat), DenL K F vs ds → DenL K F (vs.set i x) (ds.set i d)
  | _, _, _, .nil => .nil
  | _, _, 0, .cons _ t => .cons r t
  | _, _, i + 1, .cons q t => .cons q (DenL.set r i t)
theorem DenL.repl {vs : List V} {ds : List D} (h : DenL K F vs ds) : ∀ n : Nat, DenL K F (List.replicate n vs).flatten (List.replicate n ds).flatten
  | 0 => .nil
  | n + 1 => by
    rw [List.replicate_succ, List.replicate_succ, List.flatten_cons, List.flatten_cons]
    exact h.append (h.repl n)
theorem DenL.ints {ns : List Int} : DenL K F (ns.map V.int) (ns.map D.int) := by
  induction ns with
  | nil => exact .nil
  | cons n r ih => exact .cons (.int _) ih
theorem DenK.length : ∀ {vs : List (Key × V)} {ds : List (Key × D)}, DenK K F vs ds → vs.length = ds.length
  | _, _, .nil => rfl
  | _, _, .cons _ _ t => by rw [List.length_cons, List.length_cons, t.length]
end

/-! ### owned things -/
inductive Cn where
  | l (ds : List D)
  | d (kvs : List (Key × D))
  | o (C : Addr) (fs : List (Str × D))
  /-- a dict whose keys are things of which a tuple may be made -/
  | x (w : World) (kvs : List (NestedKey × D))
  /-- a dict that is walked over: it cannot change meanwhile -/
  | k (ob : Obj) (ks : List (Key × V)) (kvs : List (Key × D))
def Cn.dat : Cn → D
  | .l ds => .lst ds
  | .d kvs => .dct kvs
  | .o C fs => .obj C fs
  | .x w kvs => .dx w kvs
  | .k _ _ _ => .unk
def Has (K : PySem.W.Frag) (F H : Hp) (p : Addr) : Cn → Prop
  | .l ds => ∃ xs, H p = some (.lst xs) ∧ DenL K F xs ds
  | .d kvs => ∃ ks, H p = some (.dK ks) ∧ DenK K F ks kvs
  | .o C fs => ∃ dx gs, H p = some (.ins C dx gs) ∧ DenO K F gs fs
  | .x w kvs => ∃ ys, H p = some (.ext (KD w p ys)) ∧ DenX K F ys kvs
  | .k ob ks kvs => H p = some (.frz ob (.dK ks)) ∧ DenK K F ks kvs
/-- a slot: nothing known; a thing that stays; one's own thing, that nobody else holds; the j-th argument, lent -/
inductive Sl where
  | un
  | sh (d : D)
  | ow (c : Cn)
  | bw (j : Nat) (c : Cn)
  /-- a pile: things of one's own at known places, that no slot holds -/
  | pl (hs : List (Addr × Cn))
def Sl.cn : Sl → Option Cn
  | .ow c => some c
  | .bw _ c => some c
  | _ => none
def Sl.dat : Sl → Option D
  | .sh d => some d
  | .ow c => some c.dat
  | .bw _ c => some c.dat
  | .un => none
  | .pl _ => none
def Sl.with (c : Cn) : Sl → Sl
  | .ow _ => .ow c
  | .bw j _ => .bw j c
  | s => s
abbrev SL := List Sl
/-- a value handed on: a datum, or a thing that nobody holds yet -/
inductive Rv where
  | v (d : D)
  | fr (c : Cn)
  | pt (d : D) (hs : List (Addr × Cn))
mutual
/-- a datum with what a pile holds put in -/
def D.res (hs : List (Addr × Cn)) : D → D
  | .at p => match hs.lookup p with
    | some c => c.dat
    | none => .at p
  | .lst l => .lst (D.ress hs l)
  | .tup l => .tup (D.ress hs l)
  | .dct kvs => .dct (D.resk hs kvs)
  | .obj C fs => .obj C (D.reso hs fs)
  | d => d
def D.ress (hs : List (Addr × Cn)) : List D → List D
  | [] => []
  | d :: r => D.res hs d :: D.ress hs r
def D.resk (hs : List (Addr × Cn)) : List (Key × D) → List (Key × D)
  | [] => []
  | (k, d) :: r => (k, D.res hs d) :: D.resk hs r
def D.reso (hs : List (Addr × Cn)) : List (Str × D) → List (Str × D)
  | [] => []
  | (k, d) :: r => (k, D.res hs d) :: D.reso hs r
end
def Rv.dat : Rv → D
  | .v d => d
  | .fr c => c.dat
  | .pt d hs => d.res hs
structure Cd where
  b : Nat → Option Addr
  L : Addr → Prop
  H0 : Hp
  F0 : Hp
section
variable {K : PySem.W.Frag} {F F' H H' : Hp} {p : Addr} {c : Cn}
theorem Has.mono (e : Same F F') (h : Has K F H p c) : Has K F' H p c := by
  cases c with
  | l ds => obtain ⟨xs, a, b⟩ := h; exact ⟨xs, a, b.mono e⟩
  | d kvs => obtain ⟨xs, a, b⟩ := h; exact ⟨xs, a, b.mono e⟩
  | o C fs => obtain ⟨dx, gs, a, b⟩ := h; exact ⟨dx, gs, a, b.mono e⟩
  | x w kvs => obtain ⟨ys, a, b⟩ := h; exact ⟨ys, a, b.mono e⟩
  | k ob ks kvs => exact ⟨h.1, h.2.mono e⟩
theorem Has.at (h : Has K F H p c) (e : H' p = H p) : Has K F H' p c := by
  cases c with
  | l ds => obtain ⟨xs, a, b⟩ := h; exact ⟨xs, e.trans a, b⟩
  | d kvs => obtain ⟨xs, a, b⟩ := h; exact ⟨xs, e.trans a, b⟩
  | o C fs => obtain ⟨dx, gs, a, b⟩ := h; exact ⟨dx, gs, e.trans a, b⟩
  | x w kvs => obtain ⟨ys, a, b⟩ := h; exact ⟨ys, e.trans a, b⟩
  | k ob ks kvs => exact ⟨e.trans h.1, h.2⟩
theorem Has.ex (h : Has K F H p c) : ∃ o, H p = some o := by
  cases c with
  | l ds => obtain ⟨xs, a, b⟩ := h; exact ⟨_, a⟩
  | d kvs => obtain ⟨xs, a, b⟩ := h; exact ⟨_, a⟩
  | o C fs => obtain ⟨dx, gs, a, b⟩ := h; exact ⟨_, a⟩
  | x w kvs => obtain ⟨ys, a, b⟩ := h; exact ⟨_, a⟩
  | k ob ks kvs => exact ⟨_, h.1⟩
/-- what nobody changes any more -/
theorem Has.den (h : Has K F H p c) (e : Same F F') {o : HO} (hp : H p = some o) (hf : F' p = some o) : Den K F' (.ref p) c.dat := by
  cases c with
  | l ds => obtain ⟨xs, a, b⟩ := h; rw [a] at hp; cases hp; exact .lst hf (b.mono e)
  | d kvs => obtain ⟨xs, a, b⟩ := h; rw [a] at hp; cases hp; exact .dct hf (b.mono e)
  | o C fs => obtain ⟨dx, gs, a, b⟩ := h; rw [a] at hp; cases hp; exact .obj hf (b.mono e)
  | x w kvs => obtain ⟨ys, a, b⟩ := h; rw [a] at hp; cases hp; exact .dx hf (b.mono e)
  | k ob ks kvs => exact .unk _
mutual
theorem Den.res {hs : List (Addr × Cn)} (hh : ∀ p c, hs.lookup p = some c → Den K F (.ref p) c.dat) : ∀ {d : D} {v : V}, Den K F v d → Den K F v (d.res hs)
  | .non, _, h => by rw [D.res]; exact h; all_goals (intros; contradiction)
  | .bl b, _, h => by rw [D.res]; exact h; all_goals (intros; contradiction)
  | .int i, _, h => by rw [D.res]; exact h; all_goals (intros; contradiction)
  | .str x, _, h => by rw [D.res]; exact h; all_goals (intros; contradiction)
  | .scr ns, _, h => by rw [D.res]; exact h; all_goals (intros; contradiction)
  | .rep d, _, h => by rw [D.res]; exact h; all_goals (intros; contradiction)
  | .lst ds, _, h => by rw [D.res]; cases h with | lst a b => exact .lst a (DenL.res hh b)
  | .tup ds, _, h => by rw [D.res]; cases h with | tup a b => exact .tup a (DenL.res hh b)
  | .dct ds, _, h => by rw [D.res]; cases h with | dct a b => exact .dct a (DenK.res hh b)
  | .obj C fs, _, h => by rw [D.res]; cases h with | obj a b => exact .obj a (DenO.res hh b)
  | .at p, _, h => by
    rw [D.res]
    cases h
    split
    · rename_i c e; exact hh p c e
    · exact .at p
  | .exc _ _ _ _ _, _, h => by rw [D.res]; exact h; all_goals (intros; contradiction)
  | .err _ _ _ _, _, h => by rw [D.res]; exact h; all_goals (intros; contradiction)
  | .dx _ _, _, h => by rw [D.res]; exact h; all_goals (intros; contradiction)
  | .unk, _, h => .unk _
theorem DenL.res {hs : List (Addr × Cn)} (hh : ∀ p c, hs.lookup p = some c → Den K F (.ref p) c.dat) : ∀ {ds : List D} {vs : List V}, DenL K F vs ds → DenL K F vs (D.ress hs ds)
  | [], _, h => by rw [D.ress]; exact h
  | d :: ds, _, h => by rw [D.ress]; cases h with | cons a b => exact .cons (Den.res hh a) (DenL.res hh b)
theorem DenK.res {hs : List (Addr × Cn)} (hh : ∀ p c, hs.lookup p = some c → Den K F (.ref p) c.dat) : ∀ {ds : List (Key × D)} {vs : List (Key × V)}, DenK K F vs ds → DenK K F vs (D.resk hs ds)
  | [], _, h => by rw [D.resk]; exact h
  | (k, d) :: ds, _, h => by rw [D.resk]; cases h with | cons a o b => exact .cons (Den.res hh a) o (DenK.res hh b)
theorem DenO.res {hs : List (Addr × Cn)} (hh : ∀ p c, hs.lookup p = some c → Den K F (.ref p) c.dat) : ∀ {ds : List (Str × D)} {vs : List (Str × V)}, DenO K F vs ds → DenO K F vs (D.reso hs ds)
  | [], _, h => by rw [D.reso]; exact h
  | (k, d) :: ds, _, h => by rw [D.reso]; cases h with | cons a b => exact .cons (Den.res hh a) (DenO.res hh b)
end
theorem lookup_mem {hs : List (Addr × Cn)} {p : Addr} {c : Cn} (h : hs.lookup p = some c) : (p, c) ∈ hs := by
  induction hs with
  | nil => cases h
  | cons x r ih =>
    obtain ⟨q, d⟩ := x
    rw [List.lookup_cons] at h
    by_cases e : p = q
    · subst e
      rw [beq_self_eq_true] at h
      cases h
      exact List.mem_cons_self
    · rw [beq_false_of_ne e] at h
      exact List.mem_cons_of_mem _ (ih h)
theorem same_new {o : HO} (h : F p = none) : Same F (upd F p o) := fun b x e => by
  rw [upd_ne (ne_of_none e h)]
  exact e
end

/-- no slot and no pile holds it -/
def Lone (σ : St) (ρ : SL) (p : Addr) : Prop := (∀ (i : Nat) (s : Sl) (c' : Cn), ρ[i]? = some s → s.cn = some c' → σ[i]? ≠ some (some (.ref p))) ∧ ∀ (i : Nat) (hs : List (Addr × Cn)) (c : Cn), ρ[i]? = some (.pl hs) → (p, c) ∉ hs
/-- what the piles hold -/
structure Piles (K : PySem.W.Frag) (G : Cd) (σ : St) (H F : Hp) (ρ : SL) : Prop where
  one : ∀ (i : Nat) (hs : List (Addr × Cn)), ρ[i]? = some (.pl hs) → (hs.map (·.1)).Nodup
  has : ∀ (i : Nat) (hs : List (Addr × Cn)) (p : Addr) (c : Cn), ρ[i]? = some (.pl hs) → (p, c) ∈ hs → Has K F H p c ∧ F p = none ∧ (G.H0 p = none ∨ G.L p)
  own : ∀ (i : Nat) (hs : List (Addr × Cn)) (p : Addr) (c : Cn), ρ[i]? = some (.pl hs) → (p, c) ∈ hs → ∀ (j : Nat) (s : Sl) (c' : Cn), ρ[j]? = some s → s.cn = some c' → σ[j]? ≠ some (some (.ref p))
  two : ∀ (i j : Nat) (hs hs' : List (Addr × Cn)) (p : Addr) (c c' : Cn), ρ[i]? = some (.pl hs) → ρ[j]? = some (.pl hs') → (p, c) ∈ hs → (p, c') ∈ hs' → i = j
theorem Piles.to {K : PySem.W.Frag} {G G' : Cd} {σ σ' : St} {H F H' F' : Hp} {ρ ρ' : SL} (P : Piles K G σ H F ρ) (hpl : ∀ (i : Nat) (hs : List (Addr × Cn)), ρ'[i]? = some (.pl hs) → ρ[i]? = some (.pl hs))
    (hown : ∀ (j : Nat) (s : Sl) (c' : Cn) (p : Addr), ρ'[j]? = some s → s.cn = some c' → σ'[j]? = some (some (.ref p)) → (∃ s0 c0, ρ[j]? = some s0 ∧ s0.cn = some c0 ∧ σ[j]? = some (some (.ref p))) ∨ ∀ (i : Nat) (hs : List (Addr × Cn)) (c : Cn), ρ[i]? = some (.pl hs) → (p, c) ∉ hs)
    (hmem : ∀ (i : Nat) (hs : List (Addr × Cn)) (p : Addr) (c : Cn), ρ'[i]? = some (.pl hs) → (p, c) ∈ hs → Has K F H p c → F p = none → (G.H0 p = none ∨ G.L p) → Has K F' H' p c ∧ F' p = none ∧ (G'.H0 p = none ∨ G'.L p)) : Piles K G' σ' H' F' ρ' where
  one := fun i hs e => P.one i hs (hpl i hs e)
  has := fun i hs p c e m => by
    obtain ⟨a, b, d⟩ := P.has i hs p c (hpl i hs e) m
    exact hmem i hs p c e m a b d
  own := fun i hs p c e m j s c' e1 e2 e3 => by
    rcases hown j s c' p e1 e2 e3 with ⟨s0, c0, z1, z2, z3⟩ | z
    · exact P.own i hs p c (hpl i hs e) m j s0 c0 z1 z2 z3
    · exact z i hs c (hpl i hs e) m
  two := fun i j hs hs' p c c' e1 e2 m1 m2 => P.two i j hs hs' p c c' (hpl i hs e1) (hpl j hs' e2) m1 m2
/-- what the slots and the heap hold -/
structure Rep (K : PySem.W.Frag) (G : Cd) (σ : St) (H F : Hp) (ρ : SL) : Prop where
  len : ρ.length = σ.length
  ext : Same F H
  sh : ∀ (i : Nat) (d : D), ρ[i]? = some (.sh d) → ∃ v, σ[i]? = some (some v) ∧ Den K F v d
  ow : ∀ (i : Nat) (c : Cn), ρ[i]? = some (.ow c) → ∃ p, σ[i]? = some (some (.ref p)) ∧ Has K F H p c ∧ F p = none ∧ (G.H0 p = none ∨ G.L p)
  bw : ∀ (i j : Nat) (c : Cn), ρ[i]? = some (.bw j c) → ∃ p, σ[i]? = some (some (.ref p)) ∧ Has K F H p c ∧ F p = none ∧ G.b j = some p
  sep : ∀ (i j : Nat) (s t : Sl) (c c' : Cn) (p : Addr), ρ[i]? = some s → ρ[j]? = some t → s.cn = some c → t.cn = some c' → σ[i]? = some (some (.ref p)) → σ[j]? = some (some (.ref p)) → i = j
  fr0 : Same G.F0 F
  new : ∀ a o, F a = some o → G.F0 a = some o ∨ G.H0 a = none ∨ G.L a
  keep : ∀ a o, G.H0 a = some o → ¬ G.L a → (∀ j, G.b j ≠ some a) → H a = some o
  dom : ∀ a o, G.H0 a = some o → ∃ o', H a = some o'
  bd : ∀ j p, G.b j = some p → ∃ o, G.H0 p = some o
  lb : ∀ j p, G.L p → G.b j ≠ some p
  pl : Piles K G σ H F ρ
/-- what a value is -/
def RDen (K : PySem.W.Frag) (G : Cd) (σ : St) (ρ : SL) (H F : Hp) (v : V) : Rv → Prop
  | .v d => Den K F v d
  | .fr c => ∃ p, v = .ref p ∧ Has K F H p c ∧ F p = none ∧ (G.H0 p = none ∨ G.L p) ∧ Lone σ ρ p
  | .pt d hs => Den K F v d ∧ (hs.map (·.1)).Nodup ∧ ∀ p c, (p, c) ∈ hs → Has K F H p c ∧ F p = none ∧ (G.H0 p = none ∨ G.L p) ∧ Lone σ ρ p
section
variable {K : PySem.W.Frag} {G : Cd} {σ : St} {H F : Hp} {ρ : SL} {v : V} {d : D} {c : Cn} {i : Nat} {p : Addr}
theorem Rep.owned (R : Rep K G σ H F ρ) {s : Sl} (h : ρ[i]? = some s) (hc : s.cn = some c) : ∃ p, σ[i]? = some (some (.ref p)) ∧ Has K F H p c ∧ F p = none := by
  cases s with
  | un => cases hc
  | sh d => cases hc
  | pl hs => cases hc
  | ow c' => cases hc; obtain ⟨p, a, b, e, _⟩ := R.ow i _ h; exact ⟨p, a, b, e⟩
  | bw j c' => cases hc; obtain ⟨p, a, b, e, _⟩ := R.bw i j _ h; exact ⟨p, a, b, e⟩
theorem Rep.fresh (R : Rep K G σ H F ρ) (h : H p = none) : F p = none ∧ G.H0 p = none := by
  refine ⟨?_, ?_⟩
  · cases e : F p with
    | none => rfl
    | some o => rw [R.ext p o e] at h; cases h
  · cases e : G.H0 p with
    | none => rfl
    | some o => obtain ⟨o', q⟩ := R.dom p o e; rw [q] at h; cases h
theorem set_get {α : Type} {l : List α} {i j : Nat} {x y : α} (h : (l.set i x)[j]? = some y) : (j = i ∧ y = x) ∨ (j ≠ i ∧ l[j]? = some y) := by
  by_cases e : j = i
  · subst e
    left
    rw [List.getElem?_set_self'] at h
    cases q : l[j]? with
    | none => rw [q] at h; simp at h
    | some z => rw [q] at h; simp at h; exact ⟨rfl, h.symm⟩
  · rw [List.getElem?_set_ne (Ne.symm e)] at h
    exact .inr ⟨e, h⟩
theorem set_at {α β : Type} {l : List α} {m : List β} (hl : l.length = m.length) {i : Nat} {x y : α} {z : β} (h : (l.set i x)[i]? = some y) : (m.set i z)[i]? = some z := by
  have hi : i < (l.set i x).length := (List.getElem?_eq_some_iff.mp h).1
  rw [List.length_set, hl] at hi
  rw [List.getElem?_set_self hi]
/-- a slot is set to a datum -/
theorem Rep.setSh (R : Rep K G σ H F ρ) (h : Den K F v d) (i : Nat) : Rep K G (σ.set i (some v)) H F (ρ.set i (.sh d)) where
  len := by rw [List.length_set, List.length_set]; exact R.len
  ext := R.ext
  sh := fun j d' e => by
    rcases set_get e with ⟨rfl, q⟩ | ⟨ne, q⟩
    · cases q; exact ⟨v, set_at R.len e, h⟩
    · rw [List.getElem?_set_ne (Ne.symm ne)]; exact R.sh j d' q
  ow := fun j c' e => by
    rcases set_get e with ⟨rfl, q⟩ | ⟨ne, q⟩
    · cases q
    · rw [List.getElem?_set_ne (Ne.symm ne)]; exact R.ow j c' q
  bw := fun j k c' e => by
    rcases set_get e with ⟨rfl, q⟩ | ⟨ne, q⟩
    · cases q
    · rw [List.getElem?_set_ne (Ne.symm ne)]; exact R.bw j k c' q
  sep := fun j k s t c1 c2 p e1 e2 h1 h2 h3 h4 => by
    rcases set_get e1 with ⟨rfl, q⟩ | ⟨ne, q⟩
    · subst q; cases h1
    · rcases set_get e2 with ⟨rfl, q2⟩ | ⟨ne2, q2⟩
      · subst q2; cases h2
      · rw [List.getElem?_set_ne (Ne.symm ne)] at h3
        rw [List.getElem?_set_ne (Ne.symm ne2)] at h4
        exact R.sep j k s t c1 c2 p q q2 h1 h2 h3 h4
  fr0 := R.fr0
  new := R.new
  keep := R.keep
  dom := R.dom
  bd := R.bd
  lb := R.lb
  pl := R.pl.to (fun j hs e => by
    rcases set_get e with ⟨rfl, q⟩ | ⟨ne, q⟩
    · cases q
    · exact q) (fun j s c' p e1 e2 e3 => by
    rcases set_get e1 with ⟨rfl, q⟩ | ⟨ne, q⟩
    · subst q; cases e2
    · rw [List.getElem?_set_ne (Ne.symm ne)] at e3
      exact .inl ⟨s, c', q, e2, e3⟩) fun _ _ _ _ _ _ a b d => ⟨a, b, d⟩
/-- nothing more is known of a slot -/
theorem Rep.setUn (R : Rep K G σ H F ρ) (i : Nat) (x : Option V) : Rep K G (σ.set i x) H F (ρ.set i .un) where
  len := by rw [List.length_set, List.length_set]; exact R.len
  ext := R.ext
  sh := fun j d' e => by
    rcases set_get e with ⟨rfl, q⟩ | ⟨ne, q⟩
    · cases q
    · rw [List.getElem?_set_ne (Ne.symm ne)]; exact R.sh j d' q
  ow := fun j c' e => by
    rcases set_get e with ⟨rfl, q⟩ | ⟨ne, q⟩
    · cases q
    · rw [List.getElem?_set_ne (Ne.symm ne)]; exact R.ow j c' q
  bw := fun j k c' e => by
    rcases set_get e with ⟨rfl, q⟩ | ⟨ne, q⟩
    · cases q
    · rw [List.getElem?_set_ne (Ne.symm ne)]; exact R.bw j k c' q
  sep := fun j k s t c1 c2 p e1 e2 h1 h2 h3 h4 => by
    rcases set_get e1 with ⟨rfl, q⟩ | ⟨ne, q⟩
    · subst q; cases h1
    · rcases set_get e2 with ⟨rfl, q2⟩ | ⟨ne2, q2⟩
      · subst q2; cases h2
      · rw [List.getElem?_set_ne (Ne.symm ne)] at h3
        rw [List.getElem?_set_ne (Ne.symm ne2)] at h4
        exact R.sep j k s t c1 c2 p q q2 h1 h2 h3 h4
  fr0 := R.fr0
  new := R.new
  keep := R.keep
  dom := R.dom
  bd := R.bd
  lb := R.lb
  pl := R.pl.to (fun j hs e => by
    rcases set_get e with ⟨rfl, q⟩ | ⟨ne, q⟩
    · cases q
    · exact q) (fun j s c' p e1 e2 e3 => by
    rcases set_get e1 with ⟨rfl, q⟩ | ⟨ne, q⟩
    · subst q; cases e2
    · rw [List.getElem?_set_ne (Ne.symm ne)] at e3
      exact .inl ⟨s, c', q, e2, e3⟩) fun _ _ _ _ _ _ a b d => ⟨a, b, d⟩
theorem Rep.setOw (R : Rep K G σ H F ρ) (h : RDen K G σ ρ H F v (.fr c)) (i : Nat) : Rep K G (σ.set i (some v)) H F (ρ.set i (.ow c)) := by
  obtain ⟨p0, rfl, hh, hF, hL, hn⟩ := h
  exact {
    len := by rw [List.length_set, List.length_set]; exact R.len
    ext := R.ext
    sh := fun j d' e => by
      rcases set_get e with ⟨rfl, q⟩ | ⟨ne, q⟩
      · cases q
      · rw [List.getElem?_set_ne (Ne.symm ne)]; exact R.sh j d' q
    ow := fun j c' e => by
      rcases set_get e with ⟨rfl, q⟩ | ⟨ne, q⟩
      · cases q; exact ⟨p0, set_at R.len e, hh, hF, hL⟩
      · rw [List.getElem?_set_ne (Ne.symm ne)]; exact R.ow j c' q
    bw := fun j k c' e => by
      rcases set_get e with ⟨rfl, q⟩ | ⟨ne, q⟩
      · cases q
      · rw [List.getElem?_set_ne (Ne.symm ne)]; exact R.bw j k c' q
    sep := fun j k s t c1 c2 p e1 e2 h1 h2 h3 h4 => by
      rcases set_get e1 with ⟨rfl, q⟩ | ⟨ne, q⟩
      · rcases set_get e2 with ⟨rfl, q2⟩ | ⟨ne2, q2⟩
        · rfl
        · rw [set_at R.len e1] at h3; cases h3
          rw [List.getElem?_set_ne (Ne.symm ne2)] at h4
          exact absurd h4 (hn.1 k t c2 q2 h2)
      · rw [List.getElem?_set_ne (Ne.symm ne)] at h3
        rcases set_get e2 with ⟨rfl, q2⟩ | ⟨ne2, q2⟩
        · rw [set_at R.len e2] at h4; cases h4
          exact absurd h3 (hn.1 j s c1 q h1)
        · rw [List.getElem?_set_ne (Ne.symm ne2)] at h4
          exact R.sep j k s t c1 c2 p q q2 h1 h2 h3 h4
    fr0 := R.fr0
    new := R.new
    keep := R.keep
    dom := R.dom
    bd := R.bd
    lb := R.lb
    pl := R.pl.to (fun j hs e => by
      rcases set_get e with ⟨rfl, q⟩ | ⟨ne, q⟩
      · cases q
      · exact q) (fun j s c' p e1 e2 e3 => by
      rcases set_get e1 with ⟨rfl, q⟩ | ⟨ne, q⟩
      · rw [set_at R.len e1] at e3; cases e3
        exact .inr fun i hs c e => hn.2 i hs c e
      · rw [List.getElem?_set_ne (Ne.symm ne)] at e3
        exact .inl ⟨s, c', q, e2, e3⟩) fun _ _ _ _ _ _ a b d => ⟨a, b, d⟩ }
/-- a new thing is laid that will stay -/
theorem Rep.alloc (R : Rep K G σ H F ρ) {o : HO} (h : H p = none) : Same F (upd F p o) ∧ Rep K G σ (upd H p o) (upd F p o) ρ := by
  obtain ⟨hF, h0⟩ := R.fresh h
  have sF : Same F (upd F p o) := same_new hF
  have ne : ∀ q o', H q = some o' → q ≠ p := fun q o' e z => by subst z; rw [h] at e; cases e
  refine ⟨sF, R.len, fun a x e => ?_, fun i d e => ?_, fun i c e => ?_, fun i j c e => ?_, R.sep, fun a x e => sF a x (R.fr0 a x e), fun a x e => ?_, fun a x e nl nb => ?_, fun a x e => ?_, R.bd, R.lb, R.pl.to (fun _ _ e => e) (fun j s c' q e1 e2 e3 => .inl ⟨s, c', e1, e2, e3⟩) fun i hs q c _ _ a b d => ?_⟩
  · by_cases q : a = p
    · subst q; rw [upd_same] at e ⊢; exact e
    · rw [upd_ne q] at e ⊢; exact R.ext a x e
  · obtain ⟨v, a, b⟩ := R.sh i d e; exact ⟨v, a, b.mono sF⟩
  · obtain ⟨q, a, b, e2, e3⟩ := R.ow i c e
    obtain ⟨o', ho⟩ := b.ex
    exact ⟨q, a, (b.mono sF).at (upd_ne (ne q o' ho)), by rw [upd_ne (ne q o' ho)]; exact e2, e3⟩
  · obtain ⟨q, a, b, e2, e3⟩ := R.bw i j c e
    obtain ⟨o', ho⟩ := b.ex
    exact ⟨q, a, (b.mono sF).at (upd_ne (ne q o' ho)), by rw [upd_ne (ne q o' ho)]; exact e2, e3⟩
  · by_cases q : a = p
    · subst q; exact .inr (.inl h0)
    · rw [upd_ne q] at e; exact R.new a x e
  · have k := R.keep a x e nl nb
    rw [upd_ne (ne a x k)]; exact k
  · obtain ⟨o', k⟩ := R.dom a x e
    exact ⟨o', by rw [upd_ne (ne a o' k)]; exact k⟩
  · obtain ⟨o', ho⟩ := a.ex
    exact ⟨(a.mono sF).at (upd_ne (ne q o' ho)), by rw [upd_ne (ne q o' ho)]; exact b, d⟩
/-- .. or that nobody holds yet -/
theorem Rep.allocFr (R : Rep K G σ H F ρ) {o : HO} (h : H p = none) (hc : Has K F (upd H p o) p c) : Rep K G σ (upd H p o) F ρ ∧ RDen K G σ ρ (upd H p o) F (.ref p) (.fr c) := by
  obtain ⟨hF, h0⟩ := R.fresh h
  have ne : ∀ q o', H q = some o' → q ≠ p := fun q o' e z => by subst z; rw [h] at e; cases e
  refine ⟨⟨R.len, fun a x e => ?_, R.sh, fun i c e => ?_, fun i j c e => ?_, R.sep, R.fr0, R.new, fun a x e nl nb => ?_, fun a x e => ?_, R.bd, R.lb, R.pl.to (fun _ _ e => e) (fun j s c' q e1 e2 e3 => .inl ⟨s, c', e1, e2, e3⟩) fun i hs q c _ _ a b d => ?_⟩, p, rfl, hc, hF, .inl h0, fun i s c' e hs z => ?_, fun i hs c e m => ?_⟩
  · have k := R.ext a x e
    rw [upd_ne (ne a x k)]; exact k
  · obtain ⟨q, a, b, e2, e3⟩ := R.ow i c e
    obtain ⟨o', ho⟩ := b.ex
    exact ⟨q, a, b.at (upd_ne (ne q o' ho)), e2, e3⟩
  · obtain ⟨q, a, b, e2, e3⟩ := R.bw i j c e
    obtain ⟨o', ho⟩ := b.ex
    exact ⟨q, a, b.at (upd_ne (ne q o' ho)), e2, e3⟩
  · have k := R.keep a x e nl nb
    rw [upd_ne (ne a x k)]; exact k
  · obtain ⟨o', k⟩ := R.dom a x e
    exact ⟨o', by rw [upd_ne (ne a o' k)]; exact k⟩
  · obtain ⟨o', ho⟩ := a.ex
    exact ⟨a.at (upd_ne (ne q o' ho)), b, d⟩
  · obtain ⟨q, a, b, _⟩ := R.owned e hs
    rw [a] at z
    obtain ⟨o', ho⟩ := b.ex
    exact ne q o' ho (V.ref.inj (Option.some.inj (Option.some.inj z)))
  · obtain ⟨a, _⟩ := R.pl.has i hs p c e m
    obtain ⟨o', ho⟩ := a.ex
    exact ne p o' ho rfl
/-- an object that F does not know yet, and no slot owns, stays from now on -/
theorem Rep.stay (R : Rep K G σ H F ρ) {o : HO} (h : H p = some o) (hF : F p = none) (h0 : G.H0 p = none ∨ G.L p) (hn : Lone σ ρ p) :
    Same F (upd F p o) ∧ Rep K G σ H (upd F p o) ρ := by
  have sF : Same F (upd F p o) := same_new hF
  refine ⟨sF, R.len, fun a x e => ?_, fun i d e => ?_, fun i c e => ?_, fun i j c e => ?_, R.sep, fun a x e => sF a x (R.fr0 a x e), fun a x e => ?_, R.keep, R.dom, R.bd, R.lb, R.pl.to (fun _ _ e => e) (fun j s c' q e1 e2 e3 => .inl ⟨s, c', e1, e2, e3⟩) fun i hs q c e1 e2 a b d => ?_⟩
  · by_cases q : a = p
    · subst q; rw [upd_same] at e; rw [h]; exact e
    · rw [upd_ne q] at e; exact R.ext a x e
  · obtain ⟨v, a, b⟩ := R.sh i d e; exact ⟨v, a, b.mono sF⟩
  · obtain ⟨q, a, b, e2, e3⟩ := R.ow i c e
    have ne : q ≠ p := fun z => hn.1 i _ _ e rfl (by rw [← z]; exact a)
    exact ⟨q, a, b.mono sF, by rw [upd_ne ne]; exact e2, e3⟩
  · obtain ⟨q, a, b, e2, e3⟩ := R.bw i j c e
    have ne : q ≠ p := fun z => hn.1 i _ _ e rfl (by rw [← z]; exact a)
    exact ⟨q, a, b.mono sF, by rw [upd_ne ne]; exact e2, e3⟩
  · by_cases q : a = p
    · subst q
      rcases h0 with z | z
      · exact .inr (.inl z)
      · exact .inr (.inr z)
    · rw [upd_ne q] at e; exact R.new a x e
  · have ne : q ≠ p := fun z => by subst z; exact hn.2 i hs c e1 e2
    exact ⟨a.mono sF, by rw [upd_ne ne]; exact b, d⟩
/-- all of a pile stays from now on -/
theorem Rep.stays : ∀ {hs : List (Addr × Cn)} {F : Hp}, Rep K G σ H F ρ → (hs.map (·.1)).Nodup → (∀ p c, (p, c) ∈ hs → Has K F H p c ∧ F p = none ∧ (G.H0 p = none ∨ G.L p) ∧ Lone σ ρ p) →
    ∃ F', Same F F' ∧ Rep K G σ H F' ρ ∧ (∀ p c, (p, c) ∈ hs → Den K F' (.ref p) c.dat) ∧ ∀ p, F p = none → p ∉ hs.map (·.1) → F' p = none
  | [], F, R, _, _ => ⟨F, Same.refl F, R, fun _ _ m => (List.not_mem_nil m).elim, fun _ h _ => h⟩
  | (p, c) :: hs, F, R, hn, hh => by
    obtain ⟨a, b, d, e⟩ := hh p c List.mem_cons_self
    obtain ⟨o, ho⟩ := a.ex
    obtain ⟨s1, R1⟩ := R.stay ho b d e
    rw [List.map_cons, List.nodup_cons] at hn
    obtain ⟨F2, s2, R2, h2, g2⟩ := Rep.stays (hs := hs) R1 hn.2 fun q c' m => by
      obtain ⟨a1, b1, d1, e1⟩ := hh q c' (List.mem_cons_of_mem _ m)
      have ne : q ≠ p := fun z => by subst z; exact hn.1 (List.mem_map.mpr ⟨_, m, rfl⟩)
      exact ⟨a1.mono s1, by rw [upd_ne ne]; exact b1, d1, e1⟩
    refine ⟨F2, s1.trans s2, R2, fun q c' m => ?_, fun q hq hm => ?_⟩
    · rcases List.mem_cons.mp m with z | z
      · cases z
        exact (a.den s1 ho upd_same).mono s2
      · exact h2 q c' z
    · rw [List.map_cons, List.mem_cons, not_or] at hm
      exact g2 q (by rw [upd_ne hm.1]; exact hq) hm.2
/-- a value handed on as a datum -/
theorem Rep.share (R : Rep K G σ H F ρ) {r : Rv} (h : RDen K G σ ρ H F v r) : ∃ F', Same F F' ∧ Rep K G σ H F' ρ ∧ Den K F' v r.dat := by
  cases r with
  | v d => exact ⟨F, Same.refl F, R, h⟩
  | pt d hs =>
    obtain ⟨h1, h2, h3⟩ := h
    obtain ⟨F2, s2, R2, h4, _⟩ := R.stays h2 h3
    exact ⟨F2, s2, R2, (h1.mono s2).res fun p c e => h4 p c (lookup_mem e)⟩
  | fr c =>
    obtain ⟨p, rfl, hh, hF, h0, hn⟩ := h
    obtain ⟨o, ho⟩ := hh.ex
    obtain ⟨s1, R1⟩ := R.stay ho hF h0 hn
    exact ⟨_, s1, R1, hh.den s1 ho upd_same⟩
theorem Rep.unSlot (R : Rep K G σ H F ρ) (i : Nat) : Rep K G σ H F (ρ.set i .un) := by
  have := R.setUn i (σ.getD i none)
  have e : σ.set i (σ.getD i none) = σ := by
    by_cases h : i < σ.length
    · apply List.ext_getElem?
      intro j
      by_cases q : j = i
      · subst q
        rw [List.getElem?_set_self h, List.getD_eq_getElem?_getD, List.getElem?_eq_getElem h]
        rfl
      · rw [List.getElem?_set_ne (Ne.symm q)]
    · rw [List.set_eq_of_length_le (Nat.le_of_not_lt h)]
  rw [e] at this
  exact this
theorem un_own {s : Sl} {c' : Cn} {j : Nat} (e : (ρ.set i .un)[j]? = some s) (hs : s.cn = some c') : j ≠ i ∧ ρ[j]? = some s := by
  rcases set_get e with ⟨_, q⟩ | q
  · subst q; cases hs
  · exact q
/-- one's own thing taken out of its slot -/
theorem Rep.take (R : Rep K G σ H F ρ) (h : ρ[i]? = some (.ow c)) (hv : σ[i]? = some (some v)) : Rep K G σ H F (ρ.set i .un) ∧ RDen K G σ (ρ.set i .un) H F v (.fr c) := by
  obtain ⟨p, a, b, e, z⟩ := R.ow i c h
  rw [a] at hv; cases hv
  refine ⟨R.unSlot i, p, rfl, b, e, z, fun j s c' q hs w => ?_, fun j hs c' q m => ?_⟩
  · obtain ⟨ne, q⟩ := un_own q hs
    exact ne (R.sep j i s _ c' c p q h hs rfl w a)
  · rcases set_get q with ⟨_, z⟩ | ⟨_, z⟩
    · cases z
    · exact R.pl.own j hs p c' z m i _ c h rfl a
/-- one's own thing is changed no more -/
theorem Rep.freeze (R : Rep K G σ H F ρ) (h : ρ[i]? = some (.ow c)) : ∃ F' v, Same F F' ∧ σ[i]? = some (some v) ∧ Den K F' v c.dat ∧ Rep K G σ H F' (ρ.set i (.sh c.dat)) := by
  obtain ⟨p, a, b, e, z⟩ := R.ow i c h
  obtain ⟨R1, hd⟩ := R.take h a
  obtain ⟨F', s1, R2, d2⟩ := R1.share hd
  refine ⟨F', _, s1, a, d2, ?_⟩
  have R3 := R2.setSh d2 i
  have hi : i < σ.length := (List.getElem?_eq_some_iff.mp a).1
  rw [List.set_set] at R3
  have e1 : σ.set i (some (.ref p)) = σ := by
    apply List.ext_getElem?
    intro j
    by_cases q : j = i
    · subst q
      rw [List.getElem?_set_self hi, a]
    · rw [List.getElem?_set_ne (Ne.symm q)]
  rw [e1] at R3
  exact R3
theorem Sl.with_cn {s : Sl} {c c' : Cn} (h : s.cn = some c) : (s.with c').cn = some c' := by
  cases s with
  | un => cases h
  | pl hs => cases h
  | sh d => cases h
  | ow c => rfl
  | bw j c => rfl
/-- an owned (or lent) thing is changed -/
theorem Rep.write (R : Rep K G σ H F ρ) {s : Sl} {c' : Cn} {o : HO} (h : ρ[i]? = some s) (hs : s.cn = some c) (hp : σ[i]? = some (some (.ref p))) (hn : Has K F (upd H p o) p c') : Rep K G σ (upd H p o) F (ρ.set i (s.with c')) := by
  obtain ⟨p', a, b, e⟩ := R.owned h hs
  rw [hp] at a; cases a
  have oth : ∀ (j : Nat) (t : Sl) (c1 : Cn), ρ[j]? = some t → t.cn = some c1 → j ≠ i → ∀ q, σ[j]? = some (some (.ref q)) → q ≠ p := fun j t c1 e1 e2 ne q e3 z => by
    subst z; exact ne (R.sep j i t s c1 c q e1 h e2 hs e3 hp)
  have nG : ∀ a o1, G.H0 a = some o1 → ¬ G.L a → (∀ j, G.b j ≠ some a) → a ≠ p := fun a o1 e1 nl nb z => by
    subst z
    cases s with
    | un => cases hs
    | pl _ => cases hs
    | sh d => cases hs
    | ow c1 =>
      obtain ⟨q, a1, _, _, a4⟩ := R.ow i c1 h
      rw [hp] at a1; cases a1
      rcases a4 with a4 | a4
      · rw [e1] at a4; cases a4
      · exact nl a4
    | bw k c1 =>
      obtain ⟨q, a1, _, _, a4⟩ := R.bw i k c1 h
      rw [hp] at a1; cases a1
      exact nb k a4
  refine ⟨by rw [List.length_set]; exact R.len, fun a x e1 => ?_, fun j d e1 => ?_, fun j c1 e1 => ?_, fun j k c1 e1 => ?_, fun j k t u c1 c2 q e1 e2 h1 h2 h3 h4 => ?_, R.fr0, R.new, fun a x e1 nl nb => ?_, fun a x e1 => ?_, R.bd, R.lb, R.pl.to (fun j hs' e1 => ?_) (fun j t c1 q e1 e2 e3 => ?_) fun j hs' q c1 e1 m a1 b1 d1 => ?_⟩
  · rw [upd_ne (show a ≠ p from fun z => by subst z; rw [e] at e1; cases e1)]; exact R.ext a x e1
  · rcases set_get e1 with ⟨_, q⟩ | ⟨_, q⟩
    · have q2 := congrArg Sl.cn q
      rw [Sl.with_cn hs] at q2; cases q2
    · exact R.sh j d q
  · rcases set_get e1 with ⟨rfl, q⟩ | ⟨ne, q⟩
    · cases s with
      | un => cases hs
      | pl _ => cases hs
      | sh d => cases hs
      | ow c2 =>
        have q : Sl.ow c1 = Sl.ow c' := q
        cases q
        obtain ⟨q, a1, _, a3, a4⟩ := R.ow j c2 h
        rw [hp] at a1; cases a1
        exact ⟨p, hp, hn, a3, a4⟩
      | bw k c2 => exact nomatch (show Sl.ow c1 = Sl.bw k c' from q)
    · obtain ⟨q', a1, a2, a3, a4⟩ := R.ow j c1 q
      exact ⟨q', a1, a2.at (upd_ne (oth j _ _ q rfl ne q' a1)), a3, a4⟩
  · rcases set_get e1 with ⟨rfl, q⟩ | ⟨ne, q⟩
    · cases s with
      | un => cases hs
      | pl _ => cases hs
      | sh d => cases hs
      | ow c2 => exact nomatch (show Sl.bw k c1 = Sl.ow c' from q)
      | bw k2 c2 =>
        have q : Sl.bw k c1 = Sl.bw k2 c' := q
        cases q
        obtain ⟨q, a1, _, a3, a4⟩ := R.bw j k c2 h
        rw [hp] at a1; cases a1
        exact ⟨p, hp, hn, a3, a4⟩
    · obtain ⟨q', a1, a2, a3, a4⟩ := R.bw j k c1 q
      exact ⟨q', a1, a2.at (upd_ne (oth j _ _ q rfl ne q' a1)), a3, a4⟩
  · rcases set_get e1 with ⟨rfl, q1⟩ | ⟨ne, q1⟩
    · rcases set_get e2 with ⟨rfl, q2⟩ | ⟨ne2, q2⟩
      · rfl
      · exact R.sep j k s u c c2 q h q2 hs h2 h3 h4
    · rcases set_get e2 with ⟨rfl, q2⟩ | ⟨ne2, q2⟩
      · exact R.sep j k t s c1 c q q1 h h1 hs h3 h4
      · exact R.sep j k t u c1 c2 q q1 q2 h1 h2 h3 h4
  · rw [upd_ne (nG a x e1 nl nb)]; exact R.keep a x e1 nl nb
  · obtain ⟨o', k⟩ := R.dom a x e1
    by_cases z : a = p
    · subst z; exact ⟨o, upd_same⟩
    · exact ⟨o', by rw [upd_ne z]; exact k⟩
  · rcases set_get e1 with ⟨_, q⟩ | ⟨_, q⟩
    · have q2 := congrArg Sl.cn q
      rw [Sl.with_cn hs] at q2; cases q2
    · exact q
  · rcases set_get e1 with ⟨rfl, q1⟩ | ⟨ne, q1⟩
    · exact .inl ⟨s, c, h, hs, e3⟩
    · exact .inl ⟨t, c1, q1, e2, e3⟩
  · have ne : q ≠ p := fun z => by
      subst z
      rcases set_get e1 with ⟨_, q⟩ | ⟨_, q⟩
      · have q2 := congrArg Sl.cn q
        rw [Sl.with_cn hs] at q2; cases q2
      · exact R.pl.own j hs' _ c1 q m i s c h hs hp
    exact ⟨a1.at (upd_ne ne), b1, d1⟩
/-! ### the frame -/
def Cd.now (G : Cd) (σ : St) (ρ : SL) (H F : Hp) : Cd where
  b := G.b
  L := fun p => (∃ (i : Nat) (c : Cn), ρ[i]? = some (.ow c) ∧ σ[i]? = some (some (.ref p))) ∨ ∃ (i : Nat) (hs : List (Addr × Cn)) (c : Cn), ρ[i]? = some (.pl hs) ∧ (p, c) ∈ hs
  H0 := H
  F0 := F
theorem Rep.now (R : Rep K G σ H F ρ) : Rep K (G.now σ ρ H F) σ H F ρ where
  len := R.len
  ext := R.ext
  sh := R.sh
  ow := fun i c e => by
    obtain ⟨p, a, b, e2, _⟩ := R.ow i c e
    exact ⟨p, a, b, e2, .inr (.inl ⟨i, c, e, a⟩)⟩
  bw := R.bw
  sep := R.sep
  fr0 := Same.refl F
  new := fun a o e => .inl e
  keep := fun a o e _ _ => e
  dom := fun a o e => ⟨o, e⟩
  bd := fun j p e => by
    obtain ⟨o, h⟩ := R.bd j p e
    exact R.dom p o h
  lb := fun j p g w => by
    have a4 : G.H0 p = none ∨ G.L p := by
      rcases g with ⟨i, c, e, z⟩ | ⟨i, hs, c, e, m⟩
      · obtain ⟨q, a1, _, _, a4⟩ := R.ow i c e
        rw [z] at a1; cases a1
        exact a4
      · exact (R.pl.has i hs p c e m).2.2
    rcases a4 with a4 | a4
    · obtain ⟨o, h⟩ := R.bd j p w
      rw [a4] at h; cases h
    · exact R.lb j p a4 w
  pl := R.pl.to (fun _ _ e => e) (fun j s c' q e1 e2 e3 => .inl ⟨s, c', e1, e2, e3⟩) fun i hs q c e m a b d => ⟨a, b, .inr (.inr ⟨i, hs, c, e, m⟩)⟩
/-- what was new or one's own within a stretch is so in the whole -/
theorem Rep.outL (R : Rep K G σ H F ρ) (z : (G.now σ ρ H F).H0 p = none ∨ (G.now σ ρ H F).L p) : G.H0 p = none ∨ G.L p := by
  rcases z with z | ⟨k, c', e3, z⟩ | ⟨k, hs, c', e3, z⟩
  · exact .inl (R.fresh z).2
  · obtain ⟨q, a1, _, _, a4⟩ := R.ow k c' e3
    rw [z] at a1; cases a1
    exact a4
  · exact (R.pl.has k hs p c' e3 z).2.2
theorem Rep.back {σ' : L2.St} {H' F' : Hp} {ρ' : SL} (R : Rep K G σ H F ρ) (R' : Rep K (G.now σ ρ H F) σ' H' F' ρ') : Rep K G σ' H' F' ρ' where
  len := R'.len
  ext := R'.ext
  sh := R'.sh
  ow := fun i c e => by
    obtain ⟨p, a, b, e2, z⟩ := R'.ow i c e
    exact ⟨p, a, b, e2, R.outL z⟩
  bw := R'.bw
  sep := R'.sep
  fr0 := R.fr0.trans R'.fr0
  new := fun a o e => by
    rcases R'.new a o e with z | z
    · exact R.new a o z
    · exact .inr (R.outL z)
  keep := fun a o e nl nb => by
    refine R'.keep a o (R.keep a o e nl nb) (fun z => ?_) nb
    rcases R.outL (.inr z) with a4 | a4
    · rw [e] at a4; cases a4
    · exact nl a4
  dom := fun a o e => by
    obtain ⟨o', k⟩ := R.dom a o e
    exact R'.dom a o' k
  bd := R.bd
  lb := R.lb
  pl := R'.pl.to (fun _ _ e => e) (fun j s c' q e1 e2 e3 => .inl ⟨s, c', e1, e2, e3⟩) fun i hs q c e m a b d => ⟨a, b, R.outL d⟩
/-- what is held aside through a stretch -/
theorem Rep.held {σ' : L2.St} {H' F' : Hp} {ρ' : SL} {o : HO} (R : Rep K G σ H F ρ) (R' : Rep K (G.now σ ρ H F) σ' H' F' ρ') (h : H p = some o) (hF : F p = none)
    (hn : Lone σ ρ p) (hb : ∀ j, G.b j ≠ some p) :
    H' p = some o ∧ F' p = none ∧ Lone σ' ρ' p := by
  have nL : ¬ (G.now σ ρ H F).L p := fun g => by
    rcases g with ⟨i, c, e, z⟩ | ⟨i, hs, c, e, m⟩
    · exact hn.1 i _ c e rfl z
    · exact hn.2 i hs c e m
  refine ⟨R'.keep p o h nL hb, ?_, fun i s c' e hs z => ?_, fun i hs c e m => ?_⟩
  · cases q : F' p with
    | none => rfl
    | some u =>
      rcases R'.new p u q with w | w | w
      · have w' : F p = some u := w
        rw [hF] at w'; cases w'
      · have w' : H p = none := w
        rw [h] at w'; cases w'
      · exact (nL w).elim
  · cases s with
    | un => cases hs
    | pl _ => cases hs
    | sh d => cases hs
    | ow c =>
      obtain ⟨q, a1, _, _, a4⟩ := R'.ow i c e
      rw [z] at a1; cases a1
      rcases a4 with w | w
      · have w' : H p = none := w
        rw [h] at w'; cases w'
      · exact nL w
    | bw j c =>
      obtain ⟨q, a1, _, _, a4⟩ := R'.bw i j c e
      rw [z] at a1; cases a1
      exact hb j a4
  · obtain ⟨_, _, w | w⟩ := R'.pl.has i hs p c e m
    · have w' : H p = none := w
      rw [h] at w'; cases w'
    · exact nL w
theorem Rep.freshB (R : Rep K G σ H F ρ) (h : H p = none) : ∀ j, G.b j ≠ some p := fun j e => by
  obtain ⟨o, q⟩ := R.bd j p e
  obtain ⟨o', q'⟩ := R.dom p o q
  rw [h] at q'; cases q'
theorem Rep.nb (R : Rep K G σ H F ρ) (h0 : G.H0 p = none ∨ G.L p) : ∀ j, G.b j ≠ some p := fun j e => by
  rcases h0 with h0 | h0
  · obtain ⟨o, q⟩ := R.bd j p e
    rw [h0] at q; cases q
  · exact R.lb j p h0 e
def Cd.at (G : Cd) (F : Hp) : Cd := { G with F0 := F }
theorem Rep.rebase (R : Rep K G σ H F ρ) : Rep K (G.at F) σ H F ρ :=
  ⟨R.len, R.ext, R.sh, R.ow, R.bw, R.sep, Same.refl F, fun a o e => .inl e, R.keep, R.dom, R.bd, R.lb, R.pl.to (fun _ _ e => e) (fun j s c' q e1 e2 e3 => .inl ⟨s, c', e1, e2, e3⟩) fun i hs q c _ _ a b d => ⟨a, b, d⟩⟩
theorem Rep.unbase {σ' : L2.St} {H' F' : Hp} {ρ' : SL} (R : Rep K G σ H F ρ) (R' : Rep K (G.at F) σ' H' F' ρ') : Rep K G σ' H' F' ρ' :=
  ⟨R'.len, R'.ext, R'.sh, R'.ow, R'.bw, R'.sep, R.fr0.trans R'.fr0, fun a o e => by
    rcases R'.new a o e with z | z
    · exact R.new a o z
    · exact .inr z, R'.keep, R'.dom, R'.bd, R'.lb, R'.pl.to (fun _ _ e => e) (fun j s c' q e1 e2 e3 => .inl ⟨s, c', e1, e2, e3⟩) fun i hs q c _ _ a b d => ⟨a, b, d⟩⟩
theorem RDen.back {σ' : St} {H' F' : Hp} {ρ' : SL} {r : Rv} (R : Rep K G σ H F ρ) (h : RDen K (G.now σ ρ H F) σ' ρ' H' F' v r) : RDen K G σ' ρ' H' F' v r := by
  cases r with
  | v d => exact h
  | fr c =>
    obtain ⟨p, e, a, b, z, n⟩ := h
    exact ⟨p, e, a, b, R.outL z, n⟩
  | pt d hs =>
    obtain ⟨h1, h2, h3⟩ := h
    refine ⟨h1, h2, fun p c m => ?_⟩
    obtain ⟨a, b, z, n⟩ := h3 p c m
    exact ⟨a, b, R.outL z, n⟩
/-! ### several values at once -/
/-- a value handed on is held while something else goes on -/
theorem RDen.hold {σ' : L2.St} {H' F' : Hp} {ρ' : SL} {r : Rv} (R : Rep K G σ H F ρ) (h : RDen K G σ ρ H F v r) (R' : Rep K (G.now σ ρ H F) σ' H' F' ρ') : RDen K G σ' ρ' H' F' v r := by
  cases r with
  | v d => exact Den.mono R'.fr0 h
  | fr c =>
    obtain ⟨p, e, a, b, z, n⟩ := h
    obtain ⟨o, ho⟩ := a.ex
    obtain ⟨h1, h2, h3⟩ := R.held R' ho b n (R.nb z)
    exact ⟨p, e, (a.mono R'.fr0).at (h1.trans ho.symm), h2, z, h3⟩
  | pt d hs =>
    obtain ⟨g1, g2, g3⟩ := h
    refine ⟨g1.mono R'.fr0, g2, fun p c m => ?_⟩
    obtain ⟨a, b, z, n⟩ := g3 p c m
    obtain ⟨o, ho⟩ := a.ex
    obtain ⟨h1, h2, h3⟩ := R.held R' ho b n (R.nb z)
    exact ⟨(a.mono R'.fr0).at (h1.trans ho.symm), h2, z, h3⟩
/-- fewer slots are known, the others are as they were -/
theorem Rep.slots {σ' : L2.St} {ρ' : SL} (R : Rep K G σ H F ρ) (hl : ρ'.length = σ'.length) (h : ∀ (i : Nat) (s : Sl), ρ'[i]? = some s → s = .un ∨ (ρ[i]? = some s ∧ σ'[i]? = σ[i]?)) : Rep K G σ' H F ρ' where
  len := hl
  ext := R.ext
  sh := fun i d e => by
    rcases h i _ e with z | ⟨z, w⟩
    · cases z
    · rw [w]; exact R.sh i d z
  ow := fun i c e => by
    rcases h i _ e with z | ⟨z, w⟩
    · cases z
    · rw [w]; exact R.ow i c z
  bw := fun i j c e => by
    rcases h i _ e with z | ⟨z, w⟩
    · cases z
    · rw [w]; exact R.bw i j c z
  sep := fun i j s t c c' p e1 e2 h1 h2 h3 h4 => by
    rcases h i _ e1 with z | ⟨z, w⟩
    · subst z; cases h1
    · rcases h j _ e2 with z2 | ⟨z2, w2⟩
      · subst z2; cases h2
      · rw [w] at h3
        rw [w2] at h4
        exact R.sep i j s t c c' p z z2 h1 h2 h3 h4
  fr0 := R.fr0
  new := R.new
  keep := R.keep
  dom := R.dom
  bd := R.bd
  lb := R.lb
  pl := R.pl.to (fun i hs e => by
    rcases h i _ e with z | ⟨z, w⟩
    · cases z
    · exact z) (fun j s c' q e1 e2 e3 => by
    rcases h j _ e1 with z | ⟨z, w⟩
    · subst z; cases e2
    · rw [w] at e3; exact .inl ⟨s, c', z, e2, e3⟩) fun i hs q c _ _ a b d => ⟨a, b, d⟩
theorem Lone.slots {σ' : L2.St} {ρ' : SL} (n : Lone σ ρ p) (h : ∀ (i : Nat) (s : Sl), ρ'[i]? = some s → s = .un ∨ (ρ[i]? = some s ∧ σ'[i]? = σ[i]?)) : Lone σ' ρ' p := by
  refine ⟨fun i s c' e1 e2 e3 => ?_, fun i hs c e m => ?_⟩
  · rcases h i _ e1 with z | ⟨z, w⟩
    · subst z; cases e2
    · rw [w] at e3
      exact n.1 i s c' z e2 e3
  · rcases h i _ e with z | ⟨z, w⟩
    · cases z
    · exact n.2 i hs c z m
theorem RDen.slots {σ' : L2.St} {ρ' : SL} {r : Rv} (a : RDen K G σ ρ H F v r) (h : ∀ (i : Nat) (s : Sl), ρ'[i]? = some s → s = .un ∨ (ρ[i]? = some s ∧ σ'[i]? = σ[i]?)) : RDen K G σ' ρ' H F v r := by
  cases r with
  | v d => exact a
  | fr c =>
    obtain ⟨p, e, a1, a2, a3, n⟩ := a
    exact ⟨p, e, a1, a2, a3, n.slots h⟩
  | pt d hs =>
    obtain ⟨h1, h2, h3⟩ := a
    refine ⟨h1, h2, fun p c m => ?_⟩
    obtain ⟨a1, a2, a3, n⟩ := h3 p c m
    exact ⟨a1, a2, a3, n.slots h⟩
/-- a held thing is changed -/
theorem Rep.writeFr (R : Rep K G σ H F ρ) {o : HO} {c' : Cn} (h : RDen K G σ ρ H F (.ref p) (.fr c)) (hn : Has K F (upd H p o) p c') :
    Rep K G σ (upd H p o) F ρ ∧ RDen K G σ ρ (upd H p o) F (.ref p) (.fr c') := by
  obtain ⟨p', e, a1, a2, a3, n⟩ := h
  cases e
  have nG : ∀ a o1, G.H0 a = some o1 → ¬ G.L a → a ≠ p := fun a o1 e1 nl z => by
    subst z
    rcases a3 with z | z
    · rw [e1] at z; cases z
    · exact nl z
  refine ⟨⟨R.len, fun a x e => ?_, R.sh, fun i c e => ?_, fun i j c e => ?_, R.sep, R.fr0, R.new, fun a x e nl nb => ?_, fun a x e => ?_, R.bd, R.lb, R.pl.to (fun _ _ e => e) (fun j s c' q e1 e2 e3 => .inl ⟨s, c', e1, e2, e3⟩) fun i hs q c e m a b d => ?_⟩, p, rfl, hn, a2, a3, n⟩
  · rw [upd_ne (fun z => by subst z; rw [a2] at e; cases e)]; exact R.ext a x e
  · obtain ⟨q', a, b, e2, e3⟩ := R.ow i c e
    exact ⟨q', a, b.at (upd_ne fun z => n.1 i _ c e rfl (by rw [← z]; exact a)), e2, e3⟩
  · obtain ⟨q', a, b, e2, e3⟩ := R.bw i j c e
    exact ⟨q', a, b.at (upd_ne fun z => n.1 i _ c e rfl (by rw [← z]; exact a)), e2, e3⟩
  · rw [upd_ne (nG a x e nl)]; exact R.keep a x e nl nb
  · obtain ⟨o', kk⟩ := R.dom a x e
    by_cases z : a = p
    · subst z; exact ⟨_, upd_same⟩
    · exact ⟨o', by rw [upd_ne z]; exact kk⟩
  · exact ⟨a.at (upd_ne fun z => by subst z; exact n.2 i hs c e m), b, d⟩
/-- no pile comes with it -/
def Rv.np : Rv → Prop
  | .pt _ _ => False
  | _ => True
inductive RDs (K : PySem.W.Frag) (G : Cd) (σ : L2.St) (ρ : SL) (H F : Hp) : List V → List Rv → Prop
  | nil : RDs K G σ ρ H F [] []
  | cons {v : V} {vs : List V} {r : Rv} {rs : List Rv} : RDen K G σ ρ H F v r → RDs K G σ ρ H F vs rs →
      (∀ (p : Addr) (c : Cn), r = .fr c → v = .ref p → ∀ (j : Nat) (c' : Cn), rs[j]? = some (.fr c') → vs[j]? ≠ some (.ref p)) → r.np → RDs K G σ ρ H F (v :: vs) (r :: rs)
theorem RDs.back {H' F' : Hp} {ρ' : SL} {vs : List V} {rs : List Rv} (R : Rep K G σ H F ρ) (h : RDs K (G.now σ ρ H F) σ ρ' H' F' vs rs) : RDs K G σ ρ' H' F' vs rs := by
  induction h with
  | nil => exact .nil
  | cons a _ c np ih => exact .cons (RDen.back R a) ih c np
def put (ρ : SL) (i : Nat) : Rv → SL
  | .v d => ρ.set i (.sh d)
  | .fr c => ρ.set i (.ow c)
  | .pt d hs => ρ.set i (.sh (d.res hs))
theorem Rep.put (R : Rep K G σ H F ρ) {r : Rv} (h : RDen K G σ ρ H F v r) (np : r.np) (i : Nat) : Rep K G (σ.set i (some v)) H F (put ρ i r) := by
  cases r with
  | v d => exact R.setSh h i
  | fr c => exact R.setOw h i
  | pt d hs => exact np.elim
theorem Rep.putF (R : Rep K G σ H F ρ) {r : Rv} (h : RDen K G σ ρ H F v r) (i : Nat) : ∃ F', Same F F' ∧ Rep K G (σ.set i (some v)) H F' (DL.put ρ i r) := by
  cases r with
  | v d => exact ⟨F, Same.refl F, R.setSh h i⟩
  | fr c => exact ⟨F, Same.refl F, R.setOw h i⟩
  | pt d hs =>
    obtain ⟨F', s1, R1, d1⟩ := R.share h
    exact ⟨F', s1, R1.setSh d1 i⟩
theorem put_owned {r : Rv} {s : Sl} {c : Cn} {j : Nat} (hl : ρ.length = σ.length) (h : (DL.put ρ i r)[j]? = some s) (hs : s.cn = some c) (hp : (σ.set i (some v))[j]? = some (some (.ref p))) :
    (j = i ∧ v = .ref p ∧ ∃ c', r = .fr c') ∨ (ρ[j]? = some s ∧ σ[j]? = some (some (.ref p))) := by
  cases r with
  | v d =>
    rcases set_get h with ⟨rfl, q⟩ | ⟨ne, q⟩
    · subst q; cases hs
    · rw [List.getElem?_set_ne (Ne.symm ne)] at hp
      exact .inr ⟨q, hp⟩
  | fr c' =>
    rcases set_get h with ⟨rfl, q⟩ | ⟨ne, q⟩
    · rw [set_at hl h] at hp
      exact .inl ⟨rfl, Option.some.inj (Option.some.inj hp), c', rfl⟩
    · rw [List.getElem?_set_ne (Ne.symm ne)] at hp
      exact .inr ⟨q, hp⟩
  | pt d hs2 =>
    rcases set_get h with ⟨rfl, q⟩ | ⟨ne, q⟩
    · subst q; cases hs
    · rw [List.getElem?_set_ne (Ne.symm ne)] at hp
      exact .inr ⟨q, hp⟩
theorem put_pl {r : Rv} {hs : List (Addr × Cn)} {j : Nat} (h : (DL.put ρ i r)[j]? = some (.pl hs)) : ρ[j]? = some (.pl hs) := by
  cases r <;> (rcases set_get h with ⟨_, q⟩ | ⟨_, q⟩ <;> first | exact q | cases q)
theorem RDs.put {r : Rv} {vs : List V} {rs : List Rv} (hl : ρ.length = σ.length) (i : Nat) (h : RDs K G σ ρ H F vs rs)
    (hc : ∀ (p : Addr) (c : Cn), r = .fr c → v = .ref p → ∀ (j : Nat) (c' : Cn), rs[j]? = some (.fr c') → vs[j]? ≠ some (.ref p)) : RDs K G (σ.set i (some v)) (DL.put ρ i r) H F vs rs := by
  induction h with
  | nil => exact .nil
  | @cons v' vs' r' rs' a b c np ih =>
    refine .cons ?_ (ih fun p c1 e1 e2 j c' e => hc p c1 e1 e2 (j + 1) c' e) c np
    cases r' with
    | v d => exact a
    | pt d hs => exact np.elim
    | fr c1 =>
      obtain ⟨p, e, a1, a2, a3, n⟩ := a
      refine ⟨p, e, a1, a2, a3, fun k s c2 e1 e2 e3 => ?_, fun k hs c2 e1 => n.2 k hs c2 (put_pl e1)⟩
      rcases put_owned hl e1 e2 e3 with ⟨_, e4, c3, e5⟩ | ⟨e4, e5⟩
      · exact hc p c3 e5 e4 0 c1 rfl (by rw [e]; rfl)
      · exact n.1 k s c2 e4 e2 e5
theorem RDs.length {vs : List V} {rs : List Rv} (h : RDs K G σ ρ H F vs rs) : vs.length = rs.length := by
  induction h with
  | nil => rfl
  | cons _ _ _ _ ih => rw [List.length_cons, List.length_cons, ih]
end
end DL

namespace DL
open PySem L2

/-! ### what is looked at -/
/-- a value looked at: its parts stay -/
def Pk (K : PySem.W.Frag) (F H : Hp) (v : V) (d : D) : Prop := Den K F v d ∨ ∃ p c, v = .ref p ∧ d = c.dat ∧ Has K F H p c
inductive Op where
  | now (d : D)
  | at (i : Nat)
  | pl (g : Nat) (p : Addr)
def Op.get (ρ : SL) : Op → Option D
  | .now d => some d
  | .at i => match ρ[i]? with
    | some s => s.dat
    | none => none
  | .pl g p => match ρ[g]? with
    | some (.pl hs) => (hs.lookup p).map Cn.dat
    | _ => none
def OpDen (K : PySem.W.Frag) (F : Hp) (σ : L2.St) (v : V) : Op → Prop
  | .now d => Den K F v d
  | .at i => σ[i]? = some (some v)
  | .pl _ p => v = .ref p
section
variable {K : PySem.W.Frag} {G : Cd} {σ : L2.St} {H F F' H' : Hp} {ρ : SL} {v : V} {d : D} {o : Op}
theorem OpDen.mono (h : OpDen K F σ v o) (e : Same F F') : OpDen K F' σ v o := by
  cases o with
  | now d => exact Den.mono e h
  | «at» i => exact h
  | pl g p => exact h
theorem OpDen.pk (h : OpDen K F σ v o) (R : Rep K G σ H F ρ) (hd : o.get ρ = some d) : Pk K F H v d := by
  cases o with
  | now d' =>
    cases hd
    exact .inl h
  | pl g p =>
    have hv : v = .ref p := h
    subst hv
    cases e : ρ[g]? with
    | none => simp only [Op.get, e] at hd; cases hd
    | some s =>
      cases s with
      | pl hs =>
        simp only [Op.get, e] at hd
        cases q : hs.lookup p with
        | none => rw [q] at hd; cases hd
        | some c =>
          rw [q] at hd
          cases hd
          exact .inr ⟨p, c, rfl, rfl, (R.pl.has g hs p c e (lookup_mem q)).1⟩
      | _ => simp only [Op.get, e] at hd; cases hd
  | «at» i =>
    have hv : σ[i]? = some (some v) := h
    cases q : ρ[i]? with
    | none => simp only [Op.get, q] at hd; cases hd
    | some s =>
      simp only [Op.get, q] at hd
      cases s with
      | un => cases hd
      | pl _ => cases hd
      | sh d' =>
        cases hd
        obtain ⟨w, a, b⟩ := R.sh i _ q
        rw [hv] at a; cases a
        exact .inl b
      | ow c =>
        cases hd
        obtain ⟨p, a, b, _⟩ := R.ow i _ q
        rw [hv] at a; cases a
        exact .inr ⟨p, c, rfl, rfl, b⟩
      | bw j c =>
        cases hd
        obtain ⟨p, a, b, _⟩ := R.bw i j _ q
        rw [hv] at a; cases a
        exact .inr ⟨p, c, rfl, rfl, b⟩
theorem Pk.int {i : Int} (h : Pk K F H v (.int i)) : v = .int i := by
  rcases h with h | ⟨p, c, rfl, e, _⟩
  · cases h; rfl
  · cases c <;> cases e
theorem Pk.bl {i : Bool} (h : Pk K F H v (.bl i)) : v = .bl i := by
  rcases h with h | ⟨p, c, rfl, e, _⟩
  · cases h; rfl
  · cases c <;> cases e
theorem Pk.str {i : Str} (h : Pk K F H v (.str i)) : v = .str i := by
  rcases h with h | ⟨p, c, rfl, e, _⟩
  · cases h; rfl
  · cases c <;> cases e
theorem Pk.strOk {i : Str} (h : Pk K F H v (.str i)) : PyData.strOk i = true := by
  rcases h with h | ⟨p, c, rfl, e, _⟩
  · cases h with | str _ a => exact a
  · cases c <;> cases e
theorem Pk.non (h : Pk K F H v .non) : v = .non := by
  rcases h with h | ⟨p, c, rfl, e, _⟩
  · cases h; rfl
  · cases c <;> cases e
theorem Pk.lst {ds : List D} (e : Same F H) (h : Pk K F H v (.lst ds)) : ∃ p xs, v = .ref p ∧ H p = some (.lst xs) ∧ DenL K F xs ds := by
  rcases h with h | ⟨p, c, rfl, e2, h⟩
  · cases h with
    | lst a b => exact ⟨_, _, rfl, e _ _ a, b⟩
  · cases c with
    | l ds' => cases e2; obtain ⟨xs, a, b⟩ := h; exact ⟨p, xs, rfl, a, b⟩
    | d _ => cases e2
    | o _ _ => cases e2
    | k _ _ _ => cases e2
    | x _ _ => cases e2
theorem Pk.tup {ds : List D} (h : Pk K F H v (.tup ds)) : ∃ p xs, v = .ref p ∧ F p = some (.tup xs) ∧ DenL K F xs ds := by
  rcases h with h | ⟨p, c, rfl, e2, h⟩
  · cases h with
    | tup a b => exact ⟨_, _, rfl, a, b⟩
  · cases c <;> cases e2
theorem Pk.scr {ns : List Int} (e : Same F H) (h : Pk K F H v (.scr ns)) : ∃ p, v = .ref p ∧ SqL K H p (ns.map V.int) := by
  rcases h with h | ⟨p, c, rfl, e2, h⟩
  · cases h with
    | scr a => exact ⟨_, rfl, e.seq a⟩
  · cases c <;> cases e2
theorem Pk.dct {ds : List (Key × D)} (e : Same F H) (h : Pk K F H v (.dct ds)) : ∃ p ks, v = .ref p ∧ H p = some (.dK ks) ∧ DenK K F ks ds := by
  rcases h with h | ⟨p, c, rfl, e2, h⟩
  · cases h with
    | dct a b => exact ⟨_, _, rfl, e _ _ a, b⟩
  · cases c with
    | d ds' => cases e2; obtain ⟨xs, a, b⟩ := h; exact ⟨p, xs, rfl, a, b⟩
    | l _ => cases e2
    | o _ _ => cases e2
    | k _ _ _ => cases e2
    | x _ _ => cases e2
theorem Pk.obj {C : Addr} {fs : List (Str × D)} (e : Same F H) (h : Pk K F H v (.obj C fs)) : ∃ p dx gs, v = .ref p ∧ H p = some (.ins C dx gs) ∧ DenO K F gs fs := by
  rcases h with h | ⟨p, c, rfl, e2, h⟩
  · cases h with
    | obj a b => exact ⟨_, _, _, rfl, e _ _ a, b⟩
  · cases c with
    | o _ _ => cases e2; obtain ⟨dx, gs, a, b⟩ := h; exact ⟨p, dx, gs, rfl, a, b⟩
    | l _ => cases e2
    | d _ => cases e2
    | k _ _ _ => cases e2
    | x _ _ => cases e2
theorem Pk.den {H : Hp} (e : Same F H) (h : Pk K F H v d) : Den K H v d := by
  rcases h with h | ⟨p, c, rfl, rfl, h⟩
  · exact h.mono e
  · obtain ⟨o, ho⟩ := h.ex
    exact h.den e ho ho
end

/-! ### the judgements over data -/
abbrev TD := SL → (Rv → SL → Prop) → Prop
abbrev TQ := SL → (Op → SL → Prop) → Prop
abbrev TB := SL → (Bool → SL → Prop) → Prop
abbrev TAs := SL → (List Op → SL → Prop) → Prop
/-- what is wanted of an error: its class, its one field (or none), the slots -/
abbrev WXD := Addr → Option (Str × D) → SL → Prop
/-- the weakest wish that the context takes -/
def wOf (X : Cx) : WX := fun cls d σ H => ∀ (u : Value) (s' : Shared), L2N.XE X (fun cls' d' σ' H' => cls' = cls ∧ d' = d ∧ σ' = σ ∧ H' = H) u s' → X.xe u s'
theorem wOf_of {X : Cx} {W : WX} (tk : L2N.Takes X W) {cls : Value} {d : Option Addr} {σ : L2.St} {H : Hp} (h : W cls d σ H) : wOf X cls d σ H := fun u s' ⟨a, B, sI, pins, σ', H', cls', d', e, I, nb, up, sky, na, os, ag, e1, e2, e3, e4⟩ => by
  subst e1 e2 e3 e4
  exact tk u s' ⟨a, B, sI, pins, _, _, _, _, e, I, nb, up, sky, na, os, ag, h⟩
/-- the same, where an error may have been raised while another one was handled -/
def wOfH (X : Cx) : WX := fun cls d σ H => ∀ (u : Value) (s' : Shared), XE X (fun cls' d' σ' H' => cls' = cls ∧ d' = d ∧ σ' = σ ∧ H' = H) u s' → X.xe u s'
/-- an error's own dict -/
def XDen (K : PySem.W.Frag) (F : Hp) (o : Option (Str × D)) (dd : Option Addr) : Prop := match o with
  | none => dd = none
  | some (f, d) => ∃ a v, dd = some a ∧ F a = some (.xd [(f, v)]) ∧ Den K F v d
structure EndsD where
  nx : SL → Prop
  rt : Rv → SL → Prop
  bk : SL → Prop := fun _ => False
  ct : SL → Prop := fun _ => False
  xc : WXD := fun _ _ _ => False
  /-- an error that may have been raised while another one was handled -/
  xh : WXD := fun _ _ _ => False
abbrev TSD := EndsD → SL → Prop
inductive OpDens (K : PySem.W.Frag) (F : Hp) (σ : L2.St) : List V → List Op → Prop
  | nil : OpDens K F σ [] []
  | cons {v : V} {vs : List V} {o : Op} {os : List Op} : OpDen K F σ v o → OpDens K F σ vs os → OpDens K F σ (v :: vs) (o :: os)
structure DE (X : Cx) (e : Expr) (te : TE) (t : TD) : Prop where
  pe : PE X e te
  sem : ∀ {G : Cd} {σ : L2.St} {H F : Hp} {ρ : SL} {Q : VK} {Qd : Rv → SL → Prop}, Rep X.K G σ H F ρ → t ρ Qd →
    (∀ r ρ' v H' F', Qd r ρ' → Same F F' → Rep X.K G σ H' F' ρ' → RDen X.K G σ ρ' H' F' v r → Q v H') → te σ H Q
structure DO (X : Cx) (e : Expr) (te : TE) (t : TQ) : Prop where
  pe : PE X e te
  sem : ∀ {G : Cd} {σ : L2.St} {H F : Hp} {ρ : SL} {Q : VK} {Qd : Op → SL → Prop}, Rep X.K G σ H F ρ → t ρ Qd →
    (∀ o ρ' v H' F', Qd o ρ' → Same F F' → Rep X.K G σ H' F' ρ' → OpDen X.K F' σ v o → Q v H') → te σ H Q
structure DT (X : Cx) (e : Expr) (te : TT) (t : TB) : Prop where
  pe : PT X e te
  sem : ∀ {G : Cd} {σ : L2.St} {H F : Hp} {ρ : SL} {Q : Bool → Hp → Prop} {Qd : Bool → SL → Prop}, Rep X.K G σ H F ρ → t ρ Qd →
    (∀ b ρ' H' F', Qd b ρ' → Same F F' → Rep X.K G σ H' F' ρ' → Q b H') → te σ H Q
/-- a test within and, or -/
structure DW (X : Cx) (e : Expr) (te : TT) (t : TB) : Prop where
  pe : PW X e te
  sem : ∀ {G : Cd} {σ : L2.St} {H F : Hp} {ρ : SL} {Q : Bool → Hp → Prop} {Qd : Bool → SL → Prop}, Rep X.K G σ H F ρ → t ρ Qd →
    (∀ b ρ' H' F', Qd b ρ' → Same F F' → Rep X.K G σ H' F' ρ' → Q b H') → te σ H Q
structure DA (X : Cx) (es : List Expr) (ta : TA) (t : TAs) : Prop where
  pe : PA X es ta
  sem : ∀ {G : Cd} {σ : L2.St} {H F : Hp} {ρ : SL} {Q : List V → Hp → Prop} {Qd : List Op → SL → Prop}, Rep X.K G σ H F ρ → t ρ Qd →
    (∀ os ρ' vs H' F', Qd os ρ' → Same F F' → Rep X.K G σ H' F' ρ' → OpDens X.K F' σ vs os → Q vs H') → ta σ H Q
/-- what is wanted behind a statement, told over data -/
structure Link (X : Cx) (G : Cd) (D : Ends) (E : EndsD) : Prop where
  nx : ∀ σ H F ρ, E.nx ρ → Rep X.K G σ H F ρ → D.nx σ H
  rt : ∀ σ H F ρ r v, E.rt r ρ → Rep X.K G σ H F ρ → RDen X.K G σ ρ H F v r → D.rt v H
  bk : ∀ σ H F ρ, E.bk ρ → Rep X.K G σ H F ρ → D.bk σ H
  ct : ∀ σ H F ρ, E.ct ρ → Rep X.K G σ H F ρ → D.ct σ H
  xc : ∀ σ H F ρ C o dd, E.xc C o ρ → Rep X.K G σ H F ρ → XDen X.K F o dd → wOf X (.ref C) dd σ H
  xh : ∀ σ H F ρ C o dd, E.xh C o ρ → Rep X.K G σ H F ρ → XDen X.K F o dd → wOfH X (.ref C) dd σ H
structure DS (X : Cx) (st : Stmt) (ts : TS) (t : TSD) : Prop where
  pe : PS X st ts
  sem : ∀ {G : Cd} {σ : L2.St} {H F : Hp} {ρ : SL} {D : Ends} {E : EndsD}, Rep X.K G σ H F ρ → t E ρ → Link X G D E → ts D σ H
structure DSs (X : Cx) (st : List Stmt) (ts : TS) (t : TSD) : Prop where
  pe : PSs X st ts
  sem : ∀ {G : Cd} {σ : L2.St} {H F : Hp} {ρ : SL} {D : Ends} {E : EndsD}, Rep X.K G σ H F ρ → t E ρ → Link X G D E → ts D σ H

section
variable {X : Cx}
/-! ### constants, names -/
def dC (d : D) : TD := fun ρ Q => Q (.v d) ρ
theorem de_int {i j pos} : DE X (.Constant (.int i) j pos) (tC (.int i)) (dC (.int i)) := ⟨pe_int, fun R h k => k _ _ _ _ _ h (Same.refl _) R (.int i)⟩
theorem de_bl {i j pos} : DE X (.Constant (.bool i) j pos) (tC (.bl i)) (dC (.bl i)) := ⟨pe_bl, fun R h k => k _ _ _ _ _ h (Same.refl _) R (.bl i)⟩
theorem de_non {j pos} : DE X (.Constant .none j pos) (tC .non) (dC .non) := ⟨pe_non, fun R h k => k _ _ _ _ _ h (Same.refl _) R .non⟩
theorem de_str {i j pos} (hi : PyData.strOk i = true := by decide +kernel) : DE X (.Constant (.str i) j pos) (tC (.str i)) (dC (.str i)) := ⟨pe_str, fun R h k => k _ _ _ _ _ h (Same.refl _) R (.str i hi)⟩
def dVar (i : Nat) : TD := fun ρ Q => match ρ[i]? with
  | some (.sh d) => Q (.v d) ρ
  | some (.ow c) => Q (.v c.dat) (ρ.set i (.sh c.dat))
  | _ => False
def dTake (i : Nat) : TD := fun ρ Q => match ρ[i]? with
  | some (.sh d) => Q (.v d) ρ
  | some (.ow c) => Q (.fr c) (ρ.set i .un)
  | _ => False
def qVar (i : Nat) : TQ := fun ρ Q => match (Op.at i).get ρ with
  | some _ => Q (.at i) ρ
  | none => False
theorem de_var {i : Nat} {x : Str} {pos : Pos} (h : PE X (.Name x pos) (tVar i)) : DE X (.Name x pos) (tVar i) (dVar i) := by
  refine ⟨h, fun {G σ H F ρ Q Qd} R h k => ?_⟩
  unfold dVar at h
  cases q : ρ[i]? with
  | none => rw [q] at h; exact h.elim
  | some s =>
    rw [q] at h
    cases s with
    | un => exact h.elim
    | pl _ => exact h.elim
    | sh d =>
      obtain ⟨v, a, b⟩ := R.sh i d q
      exact ⟨v, a, k _ _ _ _ _ h (Same.refl _) R b⟩
    | ow c =>
      obtain ⟨F', v, s1, a, b, R1⟩ := R.freeze q
      exact ⟨v, a, k _ _ _ _ _ h s1 R1 b⟩
    | bw j c => exact h.elim
theorem de_take {i : Nat} {x : Str} {pos : Pos} (h : PE X (.Name x pos) (tVar i)) : DE X (.Name x pos) (tVar i) (dTake i) := by
  refine ⟨h, fun {G σ H F ρ Q Qd} R h k => ?_⟩
  unfold dTake at h
  cases q : ρ[i]? with
  | none => rw [q] at h; exact h.elim
  | some s =>
    rw [q] at h
    cases s with
    | un => exact h.elim
    | pl _ => exact h.elim
    | sh d =>
      obtain ⟨v, a, b⟩ := R.sh i d q
      exact ⟨v, a, k _ _ _ _ _ h (Same.refl _) R b⟩
    | ow c =>
      obtain ⟨p, a, _⟩ := R.ow i c q
      obtain ⟨R1, hd⟩ := R.take q a
      exact ⟨_, a, k _ _ _ _ _ h (Same.refl _) R1 hd⟩
    | bw j c => exact h.elim
theorem do_var {i : Nat} {x : Str} {pos : Pos} (h : PE X (.Name x pos) (tVar i)) : DO X (.Name x pos) (tVar i) (qVar i) := by
  refine ⟨h, fun {G σ H F ρ Q Qd} R h k => ?_⟩
  cases q : ρ[i]? with
  | none => simp only [qVar, Op.get, q] at h
  | some s =>
    simp only [qVar, Op.get, q] at h
    cases s with
    | un => exact h.elim
    | pl _ => exact h.elim
    | sh d =>
      obtain ⟨v, a, b⟩ := R.sh i d q
      exact ⟨v, a, k _ _ _ _ _ h (Same.refl _) R a⟩
    | ow c =>
      obtain ⟨v, a, b⟩ := R.ow i c q
      exact ⟨_, a, k _ _ _ _ _ h (Same.refl _) R a⟩
    | bw j c =>
      obtain ⟨v, a, b⟩ := R.bw i j c q
      exact ⟨_, a, k _ _ _ _ _ h (Same.refl _) R a⟩
/-- an expression as an operand -/
def qE (t : TD) : TQ := fun ρ Q => t ρ fun r ρ' => Q (.now r.dat) ρ'
theorem do_e {e : Expr} {te : TE} {t : TD} (h : DE X e te t) : DO X e te (qE t) :=
  ⟨h.pe, fun R q k => h.sem R q fun r ρ' v H' F' qd s1 R1 rd => by
    obtain ⟨F2, s2, R2, d2⟩ := R1.share rd
    exact k _ _ _ _ _ qd (s1.trans s2) R2 d2⟩
/-! ### arguments -/
def aNil : TAs := fun ρ Q => Q [] ρ
def aCons (t : TQ) (u : TAs) : TAs := fun ρ Q => t ρ fun o ρ1 => u ρ1 fun os ρ2 => Q (o :: os) ρ2
theorem da_nil : DA X [] tNil aNil := ⟨pa_nil, fun R h k => k _ _ _ _ _ h (Same.refl _) R .nil⟩
theorem da_cons {e : Expr} {es : List Expr} {te : TE} {ta : TA} {t : TQ} {u : TAs} (h : DO X e te t) (r : DA X es ta u) (hs : starEach (e :: es) X.env = (false, eval e X.env) :: starEach es X.env := by rfl) :
    DA X (e :: es) (tCons te ta) (aCons t u) :=
  ⟨pa_cons h.pe r.pe hs, fun R q k => h.sem R q fun o ρ1 v H1 F1 q1 s1 R1 d1 => r.sem R1 q1 fun os ρ2 vs H2 F2 q2 s2 R2 d2 =>
    k _ _ _ _ _ q2 (s1.trans s2) R2 (.cons (d1.mono s2) d2)⟩
/-- all arguments as data, at the end -/
def gets (ρ : SL) : List Op → Option (List D)
  | [] => some []
  | o :: os => match o.get ρ, gets ρ os with
    | some d, some ds => some (d :: ds)
    | _, _ => none
inductive Pks (K : PySem.W.Frag) (F H : Hp) : List V → List D → Prop
  | nil : Pks K F H [] []
  | cons {v : V} {vs : List V} {d : D} {ds : List D} : Pk K F H v d → Pks K F H vs ds → Pks K F H (v :: vs) (d :: ds)
theorem OpDens.pks {K : PySem.W.Frag} {G : Cd} {σ : L2.St} {H F : Hp} {ρ : SL} (R : Rep K G σ H F ρ) : ∀ {vs : List V} {os : List Op} {ds : List D}, OpDens K F σ vs os → gets ρ os = some ds → Pks K F H vs ds
  | _, _, _, .nil, e => by cases e; exact .nil
  | _, _, ds, .cons (o := o) (os := os) a b, e => by
    unfold gets at e
    cases q : o.get ρ with
    | none => rw [q] at e; cases e
    | some d =>
      rw [q] at e
      cases q2 : gets ρ os with
      | none => rw [q2] at e; cases e
      | some ds' =>
        rw [q2] at e
        cases e
        exact .cons (a.pk R q) (b.pks R q2)
/-! ### operations on values -/
def SemOp (K : PySem.W.Frag) (r : R2) (g : D → D → (Rv → Prop) → Prop) : Prop :=
  ∀ {G : Cd} {σ : L2.St} {H F : Hp} {ρ : SL} {x y : V} {a b : D} {Q : VK} {Qd : Rv → Prop}, Rep K G σ H F ρ → Pk K F H x a → Pk K F H y b → g a b Qd →
    (∀ rv z H' F', Qd rv → Same F F' → Rep K G σ H' F' ρ → RDen K G σ ρ H' F' z rv → Q z H') → r x y H Q
def SemUn (K : PySem.W.Frag) (r : V → Hp → VK → Prop) (g : D → (Rv → Prop) → Prop) : Prop :=
  ∀ {G : Cd} {σ : L2.St} {H F : Hp} {ρ : SL} {x : V} {a : D} {Q : VK} {Qd : Rv → Prop}, Rep K G σ H F ρ → Pk K F H x a → g a Qd →
    (∀ rv z H' F', Qd rv → Same F F' → Rep K G σ H' F' ρ → RDen K G σ ρ H' F' z rv → Q z H') → r x H Q
def SemCall (K : PySem.W.Frag) (r : List V → Hp → VK → Prop) (g : List D → (Rv → Prop) → Prop) : Prop :=
  ∀ {G : Cd} {σ : L2.St} {H F : Hp} {ρ : SL} {xs : List V} {as : List D} {Q : VK} {Qd : Rv → Prop}, Rep K G σ H F ρ → Pks K F H xs as → g as Qd →
    (∀ rv z H' F', Qd rv → Same F F' → Rep K G σ H' F' ρ → RDen K G σ ρ H' F' z rv → Q z H') → r xs H Q
def dOp (g : D → D → (Rv → Prop) → Prop) (ta tb : TQ) : TD := fun ρ Q => ta ρ fun oa ρ1 => tb ρ1 fun ob ρ2 => match oa.get ρ2, ob.get ρ2 with
  | some a, some b => g a b fun r => Q r ρ2
  | _, _ => False
def dUn (g : D → (Rv → Prop) → Prop) (ta : TQ) : TD := fun ρ Q => ta ρ fun oa ρ1 => match oa.get ρ1 with
  | some a => g a fun r => Q r ρ1
  | _ => False
def dCallB (g : List D → (Rv → Prop) → Prop) (ta : TAs) : TD := fun ρ Q => ta ρ fun os ρ1 => match gets ρ1 os with
  | some as => g as fun r => Q r ρ1
  | _ => False
theorem sem_op {r : R2} {g : D → D → (Rv → Prop) → Prop} {ta tb : TE} {a b : Expr} {da db : TQ} (hg : SemOp X.K r g) (ha : DO X a ta da) (hb : DO X b tb db)
    {G : Cd} {σ : L2.St} {H F : Hp} {ρ : SL} {Q : VK} {Qd : Rv → SL → Prop} (R : Rep X.K G σ H F ρ) (q : dOp g da db ρ Qd)
    (k : ∀ r ρ' v H' F', Qd r ρ' → Same F F' → Rep X.K G σ H' F' ρ' → RDen X.K G σ ρ' H' F' v r → Q v H') : tOp r ta tb σ H Q := by
  refine ha.sem R q fun oa ρ1 v H1 F1 q1 s1 R1 d1 => ?_
  refine hb.sem R1 q1 fun ob ρ2 u H2 F2 q2 s2 R2 d2 => ?_
  cases ea : oa.get ρ2 with
  | none => rw [ea] at q2; exact q2.elim
  | some x =>
    cases eb : ob.get ρ2 with
    | none => rw [ea, eb] at q2; exact q2.elim
    | some y =>
      rw [ea, eb] at q2
      exact hg R2 ((d1.mono s2).pk R2 ea) (d2.pk R2 eb) q2 fun rv z H' F' qd s3 R3 rd => k _ _ _ _ _ qd (s1.trans (s2.trans s3)) R3 rd
theorem de_op {op : Operator} {r : R2} {g : D → D → (Rv → Prop) → Prop} {ta tb : TE} {a b : Expr} {da db : TQ} {pos : Pos} (ho : OpR X (binaryOp op) r) (hg : SemOp X.K r g) (ha : DO X a ta da) (hb : DO X b tb db) :
    DE X (.BinOp a op b pos) (tOp r ta tb) (dOp g da db) := ⟨pe_op ho ha.pe hb.pe, fun R q k => sem_op hg ha hb R q k⟩
theorem de_cmp {op : CmpOp} {r : R2} {g : D → D → (Rv → Prop) → Prop} {ta tb : TE} {a b : Expr} {da db : TQ} {pos : Pos} (ho : OpR X (compareOp op) r) (hg : SemOp X.K r g) (ha : DO X a ta da) (hb : DO X b tb db)
    (hm : behindInMarks op b = false) : DE X (.Compare a [op] [b] pos) (tOp r ta tb) (dOp g da db) := ⟨pe_cmpR ho ha.pe hb.pe hm, fun R q k => sem_op hg ha hb R q k⟩
theorem de_un {op : UnaryOp} {r : V → Hp → VK → Prop} {g : D → (Rv → Prop) → Prop} {ta : TE} {a : Expr} {da : TQ} {pos : Pos} (ho : UnR X (unaryOp op) r) (hg : SemUn X.K r g) (ha : DO X a ta da) :
    DE X (.UnaryOp op a pos) (tUn r ta) (dUn g da) := by
  refine ⟨pe_un ho ha.pe, fun R q k => ?_⟩
  refine ha.sem R q fun oa ρ1 v H1 F1 q1 s1 R1 d1 => ?_
  cases ea : oa.get ρ1 with
  | none => rw [ea] at q1; exact q1.elim
  | some x =>
    rw [ea] at q1
    exact hg R1 (d1.pk R1 ea) q1 fun rv z H' F' qd s3 R3 rd => k _ _ _ _ _ qd (s1.trans s3) R3 rd
theorem sem_callB {r : List V → Hp → VK → Prop} {g : List D → (Rv → Prop) → Prop} {ta : TA} {es : List Expr} {da : TAs} (hg : SemCall X.K r g) (ha : DA X es ta da)
    {G : Cd} {σ : L2.St} {H F : Hp} {ρ : SL} {Q : VK} {Qd : Rv → SL → Prop} (R : Rep X.K G σ H F ρ) (q : dCallB g da ρ Qd)
    (k : ∀ r ρ' v H' F', Qd r ρ' → Same F F' → Rep X.K G σ H' F' ρ' → RDen X.K G σ ρ' H' F' v r → Q v H') : tCB r ta σ H Q := by
  refine ha.sem R q fun os ρ1 vs H1 F1 q1 s1 R1 d1 => ?_
  cases ea : gets ρ1 os with
  | none => rw [ea] at q1; exact q1.elim
  | some as =>
    rw [ea] at q1
    exact hg R1 (d1.pks R1 ea) q1 fun rv z H' F' qd s3 R3 rd => k _ _ _ _ _ qd (s1.trans s3) R3 rd
theorem de_callB {id : String} {x : Str} {p pos : Pos} {r : List V → Hp → VK → Prop} {g : List D → (Rv → Prop) → Prop} {ta : TA} {e : Expr} {es : List Expr} {da : TAs} (hc : CallR X (.builtin id) r) (hG : SemCall X.K r g)
    (hg : Gl X x) (hm : X.mg x = none) (hv : bootBuiltins x = some (.builtin id)) (ha : DA X (e :: es) ta da) (hn : x ≠ "__name__" := by decide) (hdb : (x == ("__debug__" : Str)) = false := by decide)
    (he : starEach (e :: es) X.env = (false, eval e X.env) :: starEach es X.env := by rfl) (hpl : (backTo pos (starEach es X.env)).any (·.1) = false := by rfl) : DE X (.Call (.Name x p) (e :: es) [] pos) (tCB r ta) (dCallB g da) :=
  ⟨pe_callB hc hg hm hv ha.pe hn hdb he hpl, fun R q k => sem_callB hG ha R q k⟩
end
end DL

namespace DL
open PySem L2
section
variable {X : Cx}
/-! ### operators -/
theorem strOk_iff {x : Str} : PyData.strOk x = true ↔ ∀ c ∈ x.cps.toList, c < 0x110000 := by
  unfold PyData.strOk
  rw [← Array.all_toList, List.all_eq_true]
  constructor
  · intro h c hc
    exact of_decide_eq_true (h c hc)
  · intro h c hc
    exact decide_eq_true (h c hc)
theorem Str.append_list (x y : Str) : (x ++ y).cps.toList = x.cps.toList ++ y.cps.toList := by
  show (Str.append x y).cps.toList = _
  simp [Str.append]
theorem strOk_append {x y : Str} (h1 : PyData.strOk x = true) (h2 : PyData.strOk y = true) : PyData.strOk (x ++ y) = true := by
  rw [strOk_iff] at *
  intro c hc
  rw [Str.append_list] at hc
  rcases List.mem_append.mp hc with h | h
  · exact h1 c h
  · exact h2 c h
/-- text * int -/
def Str.reps (x : Str) (n : Nat) : Str := ⟨(List.replicate n x.cps.toList).flatten.toArray⟩
theorem strOk_reps {x : Str} (h1 : PyData.strOk x = true) (n : Nat) : PyData.strOk (Str.reps x n) = true := by
  rw [strOk_iff] at *
  intro c hc
  have hc' : c ∈ (List.replicate n x.cps.toList).flatten := by simpa [Str.reps] using hc
  obtain ⟨l, hl, hc2⟩ := List.mem_flatten.mp hc'
  rw [List.eq_of_mem_replicate hl] at hc2
  exact h1 c hc2
def gAdd : D → D → (Rv → Prop) → Prop
  | .int i, .int j => fun Q => Q (.v (.int (i + j)))
  | .str x, .str y => fun Q => x.length + y.length ≤ sizeLine ∧ Q (.v (.str (x ++ y)))
  | .lst xs, .lst ys => fun Q => xs.length + ys.length ≤ sizeLine ∧ Q (.fr (.l (xs ++ ys)))
  | _, _ => fun _ => False
def rAddA : R2 := fun x y H Q => rI0 (fun i j => .int (i + j)) x y H Q ∨ ((∃ i j, x = .str i ∧ y = .str j ∧ i.length + j.length ≤ sizeLine ∧ Q (.str (i ++ j)) H) ∨ rCat x y H Q)
theorem op_addA : OpR X (binaryOp .Add) rAddA := op_add.or (op_add_str.or op_cat)
theorem sem_addA : SemOp X.K rAddA gAdd := by
  intro G σ H F ρ x y a b Q Qd R ha hb h k
  unfold gAdd at h
  split at h
  · cases ha.int; cases hb.int
    exact .inl ⟨_, _, rfl, rfl, k _ _ _ _ h (Same.refl _) R (.int _)⟩
  · have o1 := ha.strOk
    have o2 := hb.strOk
    cases ha.str; cases hb.str
    exact .inr (.inl ⟨_, _, rfl, rfl, h.1, k _ _ _ _ h.2 (Same.refl _) R (.str _ (strOk_append o1 o2))⟩)
  · obtain ⟨p, xs, rfl, h1, d1⟩ := ha.lst R.ext
    obtain ⟨q, ys, rfl, h2, d2⟩ := hb.lst R.ext
    refine .inr (.inr ⟨p, q, xs, ys, rfl, rfl, h1, h2, by rw [d1.length, d2.length]; exact h.1, fun a ha => ?_⟩)
    obtain ⟨R1, rd⟩ := R.allocFr ha (c := .l _) ⟨_, upd_same, d1.append d2⟩
    exact k _ _ _ _ h.2 (Same.refl _) R1 rd
  · exact h.elim
def gSubI : D → D → (Rv → Prop) → Prop
  | .int i, .int j => fun Q => Q (.v (.int (i - j)))
  | _, _ => fun _ => False
def rRepS : R2 := fun x y H Q => ∃ (z : Str) (n : Int), x = .str z ∧ y = .int n ∧ -(2 ^ 63) ≤ n ∧ z.length * n.toNat ≤ sizeLine ∧ n ≤ sizeLine ∧ Q (.str (Str.reps z n.toNat)) H
theorem foldl_arr (x : Array Nat) : ∀ (n : Nat) (acc : Array Nat), ((List.replicate n x).foldl (· ++ ·) acc) = acc ++ (List.replicate n x.toList).flatten.toArray
  | 0, acc => by simp
  | n + 1, acc => by
    rw [List.replicate_succ, List.foldl_cons, foldl_arr x n, List.replicate_succ, List.flatten_cons, ← List.append_toArray, ← Array.append_assoc]
theorem op_repS : OpR X (binaryOp .Mult) rRepS := by
  intro pins s σ H x y v u Q I rx ry h
  obtain ⟨z, n, rfl, rfl, hlo, hz, hn, q⟩ := h
  obtain ⟨t, rfl⟩ := rx
  obtain ⟨t', rfl⟩ := ry
  have hs : (sizeLine : Int) < 2 ^ 63 := by rw [sizeLine_eq]; decide
  refine PySem.P.mul_str (by rw [decide_eq_false (by omega), decide_eq_false (by omega)]; rfl) (fun h1 _ => ?_) (fun h1 _ => ?_) ?_
  · have hp : (0 : Int) < n := by omega
    intro hc
    have h3 : (z.length : Int) * n ≤ sizeLine := by
      have : (z.length : Int) * n = ((z.length * n.toNat : Nat) : Int) := by
        rw [Int.natCast_mul, Int.toNat_of_nonneg (by omega)]
      rw [this]; exact_mod_cast hz
    have h4 : (2 ^ 63 - 1) / n * n ≤ 2 ^ 63 - 1 := Int.ediv_mul_le _ (by omega)
    have h5 : ((2 ^ 63 - 1) / n + 1) * n ≤ (z.length : Int) * n := Int.mul_le_mul_of_nonneg_right (by omega) (by omega)
    have h6 : 2 ^ 63 - 1 < ((2 ^ 63 - 1) / n + 1) * n := Int.lt_ediv_add_one_mul_self _ hp
    omega
  · unfold Builtin.Str.tooLong
    exact decide_eq_false (by omega)
  · by_cases h1 : n < 1
    · rw [if_pos h1]
      have e : n.toNat = 0 := by omega
      rw [e] at q
      exact ⟨by decide, .str _, H, I.tok _, ⟨_, rfl⟩, q⟩
    · rw [if_neg h1]
      by_cases h2 : (n == 1 || z.length == 0) = true
      · rw [if_pos h2]
        have e : Str.reps z n.toNat = z := by
          unfold Str.reps
          rcases Bool.or_eq_true_iff.mp h2 with h3 | h3
          · have : n = 1 := by simpa using h3
            subst this
            simp
          · have h4 : z.cps.size = 0 := by simpa [Str.length] using h3
            have h5 : z.cps = #[] := Array.eq_empty_of_size_eq_zero h4
            obtain ⟨c⟩ := z
            have h6 : c = #[] := h5
            subst h6
            simp
        rw [e] at q
        exact ⟨.str _, H, I, ⟨_, rfl⟩, q⟩
      · rw [if_neg h2]
        refine ⟨?_, .str _, H, I.tok _, ⟨_, rfl⟩, ?_⟩
        · show Str.length _ ≤ sizeLine
          rw [foldl_arr]
          simp only [Str.length]
          simp
          rw [Nat.mul_comm]
          exact hz
        · rw [foldl_arr]
          simpa [Str.reps] using q
def gMul : D → D → (Rv → Prop) → Prop
  | .int i, .int j => fun Q => CMulW i j ∧ Q (.v (.int (i * j)))
  | .str x, .int j => fun Q => -(2 ^ 63) ≤ j ∧ x.length * j.toNat ≤ sizeLine ∧ j ≤ sizeLine ∧ Q (.v (.str (Str.reps x j.toNat)))
  | .lst xs, .int j => fun Q => -(2 ^ 63) ≤ j ∧ j < 2 ^ 63 ∧ xs.length * j.toNat ≤ sizeLine ∧ Q (.fr (.l (List.replicate j.toNat xs).flatten))
  | _, _ => fun _ => False
def rMulA : R2 := fun x y H Q => rI CMulW (fun i j => .int (i * j)) x y H Q ∨ (rRepS x y H Q ∨ rRep x y H Q)
theorem op_mulA : OpR X (binaryOp .Mult) rMulA := op_mulW.or (op_repS.or op_rep)
theorem sem_mulA : SemOp X.K rMulA gMul := by
  intro G σ H F ρ x y a b Q Qd R ha hb h k
  unfold gMul at h
  split at h
  · cases ha.int; cases hb.int
    exact .inl ⟨_, _, rfl, rfl, h.1, k _ _ _ _ h.2 (Same.refl _) R (.int _)⟩
  · have o1 := ha.strOk
    cases ha.str; cases hb.int
    exact .inr (.inl ⟨_, _, rfl, rfl, h.1, h.2.1, h.2.2.1, k _ _ _ _ h.2.2.2 (Same.refl _) R (.str _ (strOk_reps o1 _))⟩)
  · obtain ⟨p, xs, rfl, h1, d1⟩ := ha.lst R.ext
    cases hb.int
    refine .inr (.inr ⟨p, _, xs, rfl, rfl, h1, h.1, h.2.1, by rw [d1.length]; exact h.2.2.1, fun a ha => ?_⟩)
    obtain ⟨R1, rd⟩ := R.allocFr ha (c := .l _) ⟨_, upd_same, d1.repl _⟩
    exact k _ _ _ _ h.2.2.2 (Same.refl _) R1 rd
  · exact h.elim
def gDiv : D → D → (Rv → Prop) → Prop
  | .int i, .int j => fun Q => CDivW i j ∧ Q (.v (.int (i / j)))
  | _, _ => fun _ => False
theorem sem_div : SemOp X.K (rI CDivW fun i j => .int (i / j)) gDiv := by
  intro G σ H F ρ x y a b Q Qd R ha hb h k
  unfold gDiv at h
  split at h
  · cases ha.int; cases hb.int
    exact ⟨_, _, rfl, rfl, h.1, k _ _ _ _ h.2 (Same.refl _) R (.int _)⟩
  · exact h.elim
def gMod : D → D → (Rv → Prop) → Prop
  | .int i, .int j => fun Q => 0 < j ∧ Q (.v (.int (i % j)))
  | _, _ => fun _ => False
theorem sem_mod : SemOp X.K (rI (fun _ j => 0 < j) fun i j => .int (i % j)) gMod := by
  intro G σ H F ρ x y a b Q Qd R ha hb h k
  unfold gMod at h
  split at h
  · cases ha.int; cases hb.int
    exact ⟨_, _, rfl, rfl, h.1, k _ _ _ _ h.2 (Same.refl _) R (.int _)⟩
  · exact h.elim
def gNeg : D → (Rv → Prop) → Prop
  | .int i => fun Q => Q (.v (.int (-i)))
  | _ => fun _ => False
theorem sem_neg : SemUn X.K (rU fun i => .int (-i)) gNeg := by
  intro G σ H F ρ x a Q Qd R ha h k
  unfold gNeg at h
  split at h
  · cases ha.int
    exact ⟨_, rfl, k _ _ _ _ h (Same.refl _) R (.int _)⟩
  · exact h.elim
/-! ### comparisons of ints -/
end
/-! ### equality -/
mutual
/-- plain data, of nesting at most n -/
def D.fit : Nat → D → Bool
  | _, .non => true
  | _, .bl _ => true
  | _, .int _ => true
  | _, .str _ => true
  | 0, .lst _ => false
  | 0, .tup _ => false
  | n + 1, .lst l => D.fits n l
  | n + 1, .tup l => D.fits n l
  | _, .dct _ => false
  | _, .obj _ _ => false
  | _, .scr _ => false
  | _, .rep _ => false
  | _, .at _ => false
  | _, .exc _ _ _ _ _ => false
  | _, .err _ _ _ _ => false
  | _, .dx _ _ => false
  | _, .unk => false
def D.fits : Nat → List D → Bool
  | _, [] => true
  | n, d :: r => D.fit n d && D.fits n r
end
theorem pys_map : ∀ l : List D, D.pys l = l.map D.py
  | [] => by rw [D.pys]; rfl
  | d :: r => by rw [D.pys, pys_map r]; rfl
theorem fits_all {n : Nat} : ∀ l : List D, D.fits n l = l.all (D.fit n)
  | [] => by simp [D.fits]
  | d :: r => by rw [D.fits, fits_all r]; rfl
section
variable {K : PySem.W.Frag} {H : Hp}
mutual
theorem fit_lay : ∀ (n : Nat) (d : D) (v : V), Den K H v d → D.fit n d = true → d.py.canLay0 = true ∧ d.py.depth ≤ n
  | n, .non, _, _, _ => by simp [D.py, PyData.canLay0, PyData.depth]
  | n, .bl _, _, _, _ => by simp [D.py, PyData.canLay0, PyData.depth]
  | n, .int _, _, _, _ => by simp [D.py, PyData.canLay0, PyData.depth]
  | n, .str x, _, hd, h => by
    have h' : PyData.strOk x = true := by cases hd with | str _ a => exact a
    simp [D.py, PyData.canLay0, PyData.depth, h']
  | 0, .lst _, _, _, h => by simp [D.fit] at h
  | 0, .tup _, _, _, h => by simp [D.fit] at h
  | n + 1, .lst l, _, hd, h => by
    rw [D.fit] at h
    cases hd with
    | lst _ b =>
      obtain ⟨h1, h2⟩ := fits_lay n l _ b h
      rw [D.py, PyData.canLay0, PyData.depth]
      exact ⟨h1, by omega⟩
  | n + 1, .tup l, _, hd, h => by
    rw [D.fit] at h
    cases hd with
    | tup _ b =>
      obtain ⟨h1, h2⟩ := fits_lay n l _ b h
      rw [D.py, PyData.canLay0, PyData.depth]
      exact ⟨h1, by omega⟩
  | n, .dct _, _, _, h => by simp [D.fit] at h
  | n, .obj _ _, _, _, h => by simp [D.fit] at h
  | n, .scr _, _, _, h => by simp [D.fit] at h
  | n, .rep _, _, _, h => by simp [D.fit] at h
  | n, .at _, _, _, h => by simp [D.fit] at h
  | n, .exc _ _ _ _ _, _, _, h => by simp [D.fit] at h
  | n, .err _ _ _ _, _, _, h => by simp [D.fit] at h
  | n, .dx _ _, _, _, h => by simp [D.fit] at h
  | n, .unk, _, _, h => by simp [D.fit] at h
theorem fits_lay : ∀ (n : Nat) (l : List D) (vs : List V), DenL K H vs l → D.fits n l = true → PyData.canLayAll0 (D.pys l) = true ∧ PyData.depthAll (D.pys l) ≤ n
  | n, [], _, _, _ => by simp [D.pys, PyData.canLayAll0, PyData.depthAll]
  | n, d :: r, _, hd, h => by
    rw [D.fits, Bool.and_eq_true] at h
    cases hd with
    | cons a b =>
      obtain ⟨h1, h2⟩ := fit_lay n d _ a h.1
      obtain ⟨h3, h4⟩ := fits_lay n r _ b h.2
      rw [D.pys, PyData.canLayAll0, PyData.depthAll, h1, h3]
      exact ⟨rfl, by omega⟩
end
theorem shaped_of {d : D} {v : V} (hd : Den K H v d) (h : D.fit 60 d = true) : SeqAt.shaped d.py = true := by
  obtain ⟨h1, h2⟩ := fit_lay 60 d v hd h
  unfold SeqAt.shaped
  rw [h1, decide_eq_true (by omega)]
  rfl
end
section
variable {K : PySem.W.Frag} {H : Hp}
mutual
theorem Den.dp : ∀ {n : Nat} {d : D} {v : V}, Den K H v d → D.fit n d = true → Dp K H v d.py
  | _, .non, _, h, _ => by cases h; rw [D.py]; exact .non
  | _, .bl b, _, h, _ => by cases h; rw [D.py]; exact .bl _
  | _, .int i, _, h, _ => by cases h; rw [D.py]; exact .int _
  | _, .str x, _, h, _ => by cases h; rw [D.py]; exact .str _
  | 0, .lst ds, _, h, e => by simp [D.fit] at e
  | 0, .tup ds, _, h, e => by simp [D.fit] at e
  | n + 1, .lst ds, _, h, e => by
    rw [D.fit] at e
    cases h with
    | lst a b => rw [D.py]; exact .lst (.inl (.inl a)) (DenL.dp b e)
  | n + 1, .tup ds, _, h, e => by
    rw [D.fit] at e
    cases h with
    | tup a b => rw [D.py]; exact .tup (.inl (.inl a)) (DenL.dp b e)
  | _, .dct ds, _, h, e => by simp [D.fit] at e
  | _, .obj C fs, _, h, e => by simp [D.fit] at e
  | _, .scr ns, _, h, e => by simp [D.fit] at e
  | _, .rep ns, _, h, e => by simp [D.fit] at e
  | _, .at ns, _, h, e => by simp [D.fit] at e
  | _, .exc _ _ _ _ _, _, h, e => by simp [D.fit] at e
  | _, .err _ _ _ _, _, h, e => by simp [D.fit] at e
  | _, .dx _ _, _, h, e => by simp [D.fit] at e
  | _, .unk, _, h, e => by simp [D.fit] at e
theorem DenL.dp : ∀ {n : Nat} {ds : List D} {vs : List V}, DenL K H vs ds → D.fits n ds = true → DpAll K H vs (D.pys ds)
  | _, [], _, h, _ => by cases h; rw [D.pys]; exact .nil
  | n, d :: ds, _, h, e => by
    rw [D.fits, Bool.and_eq_true] at e
    cases h with
    | cons a b => rw [D.pys]; exact .cons (Den.dp a e.1) (DenL.dp b e.2)
end
end
mutual
def D.eqv : D → D → Bool
  | .non, .non => true
  | .bl a, .bl b => a == b
  | .bl a, .int j => (if a then 1 else 0) == j
  | .int i, .bl b => i == (if b then 1 else 0)
  | .int i, .int j => i == j
  | .str x, .str y => x == y
  | .lst xs, .lst ys => D.eqvs xs ys
  | .tup xs, .tup ys => D.eqvs xs ys
  | _, _ => false
def D.eqvs : List D → List D → Bool
  | [], [] => true
  | x :: xs, y :: ys => D.eqv x y && D.eqvs xs ys
  | _, _ => false
end
mutual
theorem eqv_py : ∀ (a b : D) (n m : Nat), D.fit n a = true → D.fit m b = true → PyData.eqv a.py b.py = D.eqv a b := by
  intro a b n m ha hb
  cases a with
  | non => cases b <;> first | (simp [D.py, D.eqv, PyData.eqv]; done) | (simp [D.fit] at hb; done) | (cases m <;> simp [D.fit] at hb <;> simp [D.py, D.eqv, PyData.eqv])
  | bl x => cases b <;> first | (simp [D.py, D.eqv, PyData.eqv]; done) | (simp [D.fit] at hb; done) | (cases m <;> simp [D.fit] at hb <;> simp [D.py, D.eqv, PyData.eqv])
  | int x => cases b <;> first | (simp [D.py, D.eqv, PyData.eqv]; done) | (simp [D.fit] at hb; done) | (cases m <;> simp [D.fit] at hb <;> simp [D.py, D.eqv, PyData.eqv])
  | str x => cases b <;> first | (simp [D.py, D.eqv, PyData.eqv]; done) | (simp [D.fit] at hb; done) | (cases m <;> simp [D.fit] at hb <;> simp [D.py, D.eqv, PyData.eqv])
  | lst l =>
    cases n with
    | zero => simp [D.fit] at ha
    | succ n =>
      cases b with
      | lst l2 =>
        cases m with
        | zero => simp [D.fit] at hb
        | succ m =>
          rw [D.fit] at ha hb
          rw [D.py, D.py, PyData.eqv, D.eqv]
          exact eqvs_py l l2 n m ha hb
      | dct _ => simp [D.fit] at hb
      | obj _ _ => simp [D.fit] at hb
      | scr _ => simp [D.fit] at hb
      | rep _ => simp [D.fit] at hb
      | «at» _ => simp [D.fit] at hb
      | exc _ _ _ _ _ => simp [D.fit] at hb
      | err _ _ _ _ => simp [D.fit] at hb
      | dx _ _ => simp [D.fit] at hb
      | unk => simp [D.fit] at hb
      | _ => simp [D.py, D.eqv, PyData.eqv]
  | tup l =>
    cases n with
    | zero => simp [D.fit] at ha
    | succ n =>
      cases b with
      | tup l2 =>
        cases m with
        | zero => simp [D.fit] at hb
        | succ m =>
          rw [D.fit] at ha hb
          rw [D.py, D.py, PyData.eqv, D.eqv]
          exact eqvs_py l l2 n m ha hb
      | dct _ => simp [D.fit] at hb
      | obj _ _ => simp [D.fit] at hb
      | scr _ => simp [D.fit] at hb
      | rep _ => simp [D.fit] at hb
      | «at» _ => simp [D.fit] at hb
      | exc _ _ _ _ _ => simp [D.fit] at hb
      | err _ _ _ _ => simp [D.fit] at hb
      | dx _ _ => simp [D.fit] at hb
      | unk => simp [D.fit] at hb
      | _ => simp [D.py, D.eqv, PyData.eqv]
  | dct _ => simp [D.fit] at ha
  | obj _ _ => simp [D.fit] at ha
  | scr _ => simp [D.fit] at ha
  | rep _ => simp [D.fit] at ha
  | «at» _ => simp [D.fit] at ha
  | exc _ _ _ _ _ => simp [D.fit] at ha
  | err _ _ _ _ => simp [D.fit] at ha
  | dx _ _ => simp [D.fit] at ha
  | unk => simp [D.fit] at ha
theorem eqvs_py : ∀ (as bs : List D) (n m : Nat), D.fits n as = true → D.fits m bs = true → PyData.eqvAll (D.pys as) (D.pys bs) = D.eqvs as bs
  | [], [], _, _, _, _ => by simp [D.pys, D.eqvs, PyData.eqvAll]
  | [], _ :: _, _, _, _, _ => by simp [D.pys, D.eqvs, PyData.eqvAll]
  | _ :: _, [], _, _, _, _ => by simp [D.pys, D.eqvs, PyData.eqvAll]
  | a :: as, b :: bs, n, m, ha, hb => by
    rw [D.fits, Bool.and_eq_true] at ha hb
    rw [D.pys, D.pys, D.eqvs, PyData.eqvAll, eqv_py a b n m ha.1 hb.1, eqvs_py as bs n m ha.2 hb.2]
end
section
variable {X : Cx}
def gEqD (f : Bool → Bool) (a b : D) (Q : Rv → Prop) : Prop := D.fit 60 a = true ∧ D.fit 60 b = true ∧ Q (.v (.bl (f (D.eqv a b))))
theorem sem_eqD : SemOp X.K (rEqD X.K) (gEqD id) := by
  intro G σ H F ρ x y a b Q Qd R ha hb h k
  obtain ⟨h1, h2, h⟩ := h
  refine ⟨a.py, b.py, Den.dp (ha.den R.ext) h1, Den.dp (hb.den R.ext) h2, shaped_of (ha.den R.ext) h1, shaped_of (hb.den R.ext) h2, ?_⟩
  rw [eqv_py a b 60 60 h1 h2]
  exact k _ _ _ _ h (Same.refl _) R (.bl _)
theorem sem_neD : SemOp X.K (rNeD X.K) (gEqD not) := by
  intro G σ H F ρ x y a b Q Qd R ha hb h k
  obtain ⟨h1, h2, h⟩ := h
  refine ⟨a.py, b.py, Den.dp (ha.den R.ext) h1, Den.dp (hb.den R.ext) h2, shaped_of (ha.den R.ext) h1, shaped_of (hb.den R.ext) h2, ?_⟩
  rw [eqv_py a b 60 60 h1 h2]
  exact k _ _ _ _ h (Same.refl _) R (.bl _)
theorem Pk.rep {K : PySem.W.Frag} {F H : Hp} {v : V} {d : D} (h : Pk K F H v (.rep d)) : v = .str d.py.shown := by
  rcases h with h | ⟨p, c, rfl, e, _⟩
  · cases h; rfl
  · cases c <;> cases e
/-- == and !=: plain data, or two texts that repr gave -/
def gEq (f : Bool → Bool) : D → D → (Rv → Prop) → Prop
  | .rep a, .rep b => fun Q => Q (.v (.bl (f (decide (a.py.shown = b.py.shown)))))
  | a, b => gEqD f a b
def rEqA (K : PySem.W.Frag) : R2 := fun x y H Q => rEqD K x y H Q ∨ rEq x y H Q
def rNeA (K : PySem.W.Frag) : R2 := fun x y H Q => rNeD K x y H Q ∨ rNe x y H Q
theorem op_eqA (hu : X.A.units + 64 < cLine) : OpR X (compareOp .Eq) (rEqA X.K) := (op_eqD hu).or op_eq
theorem op_neA (hu : X.A.units + 64 < cLine) : OpR X (compareOp .NotEq) (rNeA X.K) := (op_neD hu).or op_ne
theorem dec_strV {x y : Str} : decide (V.str x = V.str y) = decide (x = y) := by
  by_cases h : x = y
  · subst h; simp
  · rw [decide_eq_false h, decide_eq_false fun e => h (V.str.inj e)]
theorem sem_eq : SemOp X.K (rEqA X.K) (gEq id) := by
  intro G σ H F ρ x y a b Q Qd R ha hb h k
  unfold gEq at h
  split at h
  · cases ha.rep; cases hb.rep
    exact .inr ⟨rfl, by rw [dec_strV]; exact k _ _ _ _ h (Same.refl _) R (.bl _)⟩
  · exact .inl (sem_eqD R ha hb h k)
theorem sem_ne : SemOp X.K (rNeA X.K) (gEq not) := by
  intro G σ H F ρ x y a b Q Qd R ha hb h k
  unfold gEq at h
  split at h
  · cases ha.rep; cases hb.rep
    exact .inr ⟨rfl, by rw [dec_strV]; exact k _ _ _ _ h (Same.refl _) R (.bl _)⟩
  · exact .inl (sem_neD R ha hb h k)
end
end DL

namespace DL
open PySem L2
section
variable {K : PySem.W.Frag} {F H : Hp}
theorem DenL.atI {vs : List V} {ds : List D} {i : Int} {d : D} (h : DenL K F vs ds) (e : L2.atI ds i = some d) : ∃ v, L2.atI vs i = some v ∧ Den K F v d := by
  unfold L2.atI at e ⊢
  rw [h.length]
  cases q : ixN ds.length i with
  | none => rw [q] at e; cases e
  | some j =>
    rw [q] at e
    exact h.get (i := j) e
/-- the items of xs[lo:hi] -/
def cut {α : Type} (xs : List α) (lo hi : Option Int) : List α := (xs.drop (HT.sIx xs.length 0 lo)).take (HT.sIx xs.length xs.length hi - HT.sIx xs.length 0 lo)
theorem DenL.cut {vs : List V} {ds : List D} (h : DenL K F vs ds) (lo hi : Option Int) : DenL K F (cutV vs lo hi) (DL.cut ds lo hi) := by
  unfold cutV DL.cut
  rw [h.length]
  exact (h.drop _).take _
/-! ### dicts -/
def kGet {α : Type} (kvs : List (Key × α)) (k : Key) : Option α := (kvs.find? fun kv => decide (kv.1 = k)).map (·.2)
def kPut {α : Type} (kvs : List (Key × α)) (k : Key) (v : α) : List (Key × α) :=
  if (kvs.any fun kv => decide (kv.1 = k)) = true then kvs.map (fun kv => if kv.1 = k then (kv.1, v) else kv) else kvs ++ [(k, v)]
def kMerge {α : Type} (kvs more : List (Key × α)) : List (Key × α) := more.foldl (fun acc kv => kPut acc kv.1 kv.2) kvs
theorem kGet_cons {α : Type} (a : Key) (x : α) (r : List (Key × α)) (k : Key) : kGet ((a, x) :: r) k = if a = k then some x else kGet r k := by
  unfold kGet
  rw [List.find?_cons]
  by_cases h : a = k
  · simp [h]
  · simp [h]
theorem valV_cons (a : Key) (x : V) (r : List (Key × V)) (k : Key) : valV ((a, x) :: r) k = if a = k then some x else valV r k := by
  unfold valV
  rw [List.find?_cons]
  by_cases h : a = k
  · simp [h]
  · simp [h]
theorem DenK.get : ∀ {vs : List (Key × V)} {ds : List (Key × D)} {k : Key} {d : D}, DenK K F vs ds → kGet ds k = some d → ∃ v, valV vs k = some v ∧ Den K F v d
  | _, _, _, _, .nil, e => by simp [kGet] at e
  | _, _, k, d, .cons (k := a) r _ t, e => by
    rw [kGet_cons] at e
    by_cases q : a = k
    · rw [if_pos q] at e
      cases e
      exact ⟨_, by rw [valV_cons, if_pos q], r⟩
    · rw [if_neg q] at e
      obtain ⟨v, h1, h2⟩ := DenK.get t e
      exact ⟨v, by rw [valV_cons, if_neg q]; exact h1, h2⟩
theorem DenK.isSome : ∀ {vs : List (Key × V)} {ds : List (Key × D)} {k : Key}, DenK K F vs ds → (valV vs k).isSome = (kGet ds k).isSome
  | _, _, _, .nil => rfl
  | _, _, k, .cons (k := a) r _ t => by
    rw [kGet_cons, valV_cons]
    by_cases q : a = k
    · rw [if_pos q, if_pos q]; rfl
    · rw [if_neg q, if_neg q]; exact DenK.isSome t
theorem DenK.any : ∀ {vs : List (Key × V)} {ds : List (Key × D)} {k : Key}, DenK K F vs ds → (vs.any fun kv => decide (kv.1 = k)) = ds.any fun kv => decide (kv.1 = k)
  | _, _, _, .nil => rfl
  | _, _, k, .cons (k := a) r _ t => by rw [List.any_cons, List.any_cons, DenK.any t]
theorem DenK.app : ∀ {vs us : List (Key × V)} {ds es : List (Key × D)}, DenK K F vs ds → DenK K F us es → DenK K F (vs ++ us) (ds ++ es)
  | _, _, _, _, .nil, h => h
  | _, _, _, _, .cons a o t, h => .cons a o (t.app h)
theorem DenK.mapPut {x : V} {d : D} (r : Den K F x d) (k : Key) : ∀ {vs : List (Key × V)} {ds : List (Key × D)}, DenK K F vs ds →
    DenK K F (vs.map fun kv => if kv.1 = k then (kv.1, x) else kv) (ds.map fun kv => if kv.1 = k then (kv.1, d) else kv)
  | _, _, .nil => .nil
  | _, _, .cons (k := a) q o t => by
    rw [List.map_cons, List.map_cons]
    by_cases e : a = k
    · rw [if_pos e, if_pos e]; exact .cons r o (DenK.mapPut r k t)
    · rw [if_neg e, if_neg e]; exact .cons q o (DenK.mapPut r k t)
theorem DenK.put {vs : List (Key × V)} {ds : List (Key × D)} {x : V} {d : D} (h : DenK K F vs ds) (r : Den K F x d) (k : Key) (o : keyOk k) : DenK K F (putK vs k x) (kPut ds k d) := by
  unfold putK kPut
  rw [h.any]
  by_cases e : (ds.any fun kv => decide (kv.1 = k)) = true
  · rw [if_pos e, if_pos e]; exact DenK.mapPut r k h
  · rw [if_neg e, if_neg e]; exact h.app (.cons r o .nil)
theorem DenK.merge : ∀ {us : List (Key × V)} {es : List (Key × D)} {vs : List (Key × V)} {ds : List (Key × D)}, DenK K F us es → DenK K F vs ds → DenK K F (mergeK vs us) (kMerge ds es)
  | [], _, _, _, h0, h => by cases h0; exact h
  | (k, x) :: us, _, vs, ds, h0, h => by
    cases h0 with
    | cons a o t =>
      have := DenK.merge t (h.put a k o)
      simpa [mergeK, kMerge] using this
def D.key : D → Option Key
  | .int i => some (.inl i)
  | .str x => some (.inr x)
  | _ => none
theorem Pk.keyOk {v : V} {d : D} {k : Key} (h : Pk K F H v d) (e : d.key = some k) : DL.keyOk k := by
  cases d with
  | int i => cases e; exact True.intro
  | str x => cases e; exact h.strOk
  | _ => cases e
theorem Pk.key {v : V} {d : D} {k : Key} (h : Pk K F H v d) (e : d.key = some k) : v = kV k := by
  cases d with
  | int i => cases e; exact h.int
  | str x => cases e; exact h.str
  | _ => cases e
end
section
variable {X : Cx}
def rIxD : R2 := fun x y H Q => ∃ a v, x = .ref a ∧ DGet H a y (some v) ∧ Q v H
theorem ix_dict (hu : X.A.units + 1 < cLine) : IxR X rIxD := by
  intro value slice pins s σ H x y v u Q I rx ry h hs
  obtain ⟨a, w, rfl, g, q⟩ := h
  cases rx
  exact PyProof.Rows.tail_any (dict_typeIs I g) PySem.F.slot_dict_getitem.lookup (d_getItem hu I g ry fun w' s3 I3 rw' => ⟨w, H, I3, rw', q⟩) hs
def rIxA (K : PySem.W.Frag) : R2 := fun x y H Q => rIx K x y H Q ∨ rIxD x y H Q
theorem ix_any (hu : X.A.units + 1 < cLine) : IxR X (rIxA X.K) := ix_seq.or (ix_dict hu)
def gIx : D → D → (Rv → Prop) → Prop
  | .lst l, .int i => fun Q => ∃ d, atI l i = some d ∧ Q (.v d)
  | .tup l, .int i => fun Q => ∃ d, atI l i = some d ∧ Q (.v d)
  | .str s, .int i => fun Q => s.length ≤ sizeLine ∧ ∃ c, atI s.cps.toList i = some c ∧ Q (.v (.str ⟨#[c]⟩))
  | .dct kvs, y => fun Q => ∃ k d, y.key = some k ∧ kGet kvs k = some d ∧ Q (.v d)
  | _, _ => fun _ => False
theorem atI_mem {α : Type} {l : List α} {i : Int} {c : α} (h : atI l i = some c) : c ∈ l := by
  unfold atI at h
  cases q : ixN l.length i with
  | none => rw [q] at h; cases h
  | some j => rw [q] at h; exact List.mem_of_getElem? h
theorem strOk_one {x : Str} {c : Nat} (h : PyData.strOk x = true) (hc : c ∈ x.cps.toList) : PyData.strOk ⟨#[c]⟩ = true := by
  rw [strOk_iff] at *
  intro d hd
  have : d = c := by simpa using hd
  subst this
  exact h d hc
theorem sem_ix : SemOp X.K (rIxA X.K) gIx := by
  intro G σ H F ρ x y a b Q Qd R ha hb h k
  unfold gIx at h
  split at h
  · obtain ⟨d, e, h⟩ := h
    obtain ⟨p, xs, rfl, h1, d1⟩ := ha.lst R.ext
    cases hb.int
    obtain ⟨v, e2, dv⟩ := d1.atI e
    exact .inl (.inl ⟨p, xs, _, v, rfl, rfl, .inl (.inl h1), e2, k _ _ _ _ h (Same.refl _) R dv⟩)
  · obtain ⟨d, e, h⟩ := h
    obtain ⟨p, xs, rfl, h1, d1⟩ := ha.tup
    cases hb.int
    obtain ⟨v, e2, dv⟩ := d1.atI e
    exact .inl (.inr (.inl ⟨p, xs, _, v, rfl, rfl, .inl (.inl (R.ext _ _ h1)), e2, k _ _ _ _ h (Same.refl _) R dv⟩))
  · obtain ⟨hz, c, e, h⟩ := h
    have o1 := ha.strOk
    cases ha.str
    cases hb.int
    exact .inl (.inr (.inr ⟨_, _, c, rfl, rfl, hz, e, k _ _ _ _ h (Same.refl _) R (.str _ (strOk_one o1 (atI_mem e)))⟩))
  · obtain ⟨k1, d, ek, e, h⟩ := h
    obtain ⟨p, ks, rfl, h1, d1⟩ := ha.dct R.ext
    obtain ⟨v, e2, dv⟩ := d1.get e
    have ey := hb.key ek
    refine .inr ⟨p, v, rfl, ?_, k _ _ _ _ h (Same.refl _) R dv⟩
    rw [ey, ← e2]
    exact DGet.k h1
  · exact h.elim
theorem de_ix {a b : Expr} {pos : Pos} {ta tb : TE} {da db : TQ} (hu : X.A.units + 1 < cLine) (ha : DO X a ta da) (hb : DO X b tb db) (hs : PlainIx b := by exact fun _ _ => rfl) : DE X (.Subscript a b pos) (tOp (rIxA X.K) ta tb) (dOp gIx da db) :=
  ⟨pe_ix (ix_any hu) ha.pe hb.pe hs, fun R q k => sem_op sem_ix ha hb R q k⟩
/-! ### slices -/
abbrev TOd := SL → (Option Int → SL → Prop) → Prop
structure DOp (X : Cx) (e : Option Expr) (te : TO) (t : TOd) : Prop where
  pe : PO X e te
  sem : ∀ {G : Cd} {σ : L2.St} {H F : Hp} {ρ : SL} {Q : Option Int → Hp → Prop} {Qd : Option Int → SL → Prop}, Rep X.K G σ H F ρ → t ρ Qd →
    (∀ o ρ' H' F', Qd o ρ' → Same F F' → Rep X.K G σ H' F' ρ' → Q o H') → te σ H Q
def oNo : TOd := fun ρ Q => Q none ρ
def oE (t : TD) : TOd := fun ρ Q => t ρ fun r ρ' => match r with
  | .v (.int i) => Q (some i) ρ'
  | _ => False
theorem dop_none : DOp X none tNoPart oNo := ⟨po_none, fun R q k => k _ _ _ _ q (Same.refl _) R⟩
theorem dop_some {e : Expr} {te : TE} {t : TD} (h : DE X e te t) : DOp X (some e) (tPart te) (oE t) :=
  ⟨po_some h.pe, fun R q k => h.sem R q fun r ρ' v H' F' qd s1 R1 rd => by
    cases r with
    | fr c => exact qd.elim
    | pt _ _ => exact qd.elim
    | v d =>
      cases d with
      | int i =>
        cases rd
        exact ⟨i, rfl, k _ _ _ _ qd s1 R1⟩
      | _ => exact qd.elim⟩
def gSl : D → Option Int → Option Int → (Rv → Prop) → Prop
  | .lst l, lo, hi => fun Q => Q (.fr (.l (cut l lo hi)))
  | .str s, lo, hi => fun Q => s.length ≤ sizeLine ∧ Q (.v (.str (cutS s lo hi)))
  | .tup l, lo, hi => fun Q => Q (.v (.tup (cut l lo hi)))
  | .scr ns, lo, hi => fun Q => Q (.fr (.l ((cut ns lo hi).map D.int)))
  | _, _, _ => fun _ => False
def rSlAny (K : PySem.W.Frag) : V → Option Int → Option Int → Hp → VK → Prop := fun x lo hi H Q => rSlL K x lo hi H Q ∨ (rSlS x lo hi H Q ∨ rSlA K x lo hi H Q)
theorem sl_any : SlR X (rSlAny X.K) := sl_list.or (sl_str.or sl_tupA)
theorem strOk_cut {x : Str} (h : PyData.strOk x = true) (lo hi : Option Int) : PyData.strOk (cutS x lo hi) = true := by
  rw [strOk_iff] at *
  intro c hc
  refine h c ?_
  have hc' : c ∈ (x.cps.toList.drop (HT.sIx x.length 0 lo)).take (HT.sIx x.length x.length hi - HT.sIx x.length 0 lo) := by simpa [cutS] using hc
  exact List.mem_of_mem_drop (List.mem_of_mem_take hc')
theorem cutV_ints (ns : List Int) (lo hi : Option Int) : cutV (ns.map V.int) lo hi = (cut ns lo hi).map V.int := by
  unfold cutV cut
  rw [List.length_map, List.map_take, List.map_drop]
theorem cut_whole {α : Type} {l : List α} {lo hi : Option Int} (h1 : HT.sIx l.length 0 lo = 0) (h2 : HT.sIx l.length l.length hi = l.length) : cut l lo hi = l := by
  unfold cut
  rw [h1, h2, List.drop_zero, Nat.sub_zero, List.take_length]
def dSl (te : TQ) (tl th : TOd) : TD := fun ρ Q => te ρ fun o ρ1 => tl ρ1 fun lo ρ2 => th ρ2 fun hi ρ3 => match o.get ρ3 with
  | some d => gSl d lo hi fun r => Q r ρ3
  | none => False
theorem de_slice {e : Expr} {lo hi : Option Expr} {pos p2 : Pos} {te : TE} {tl th : TO} {d : TQ} {dl dh : TOd} (he : DO X e te d) (hl : DOp X lo tl dl) (hh : DOp X hi th dh) :
    DE X (.Subscript e (.Slice lo hi none p2) pos) (tSl (rSlAny X.K) te tl th) (dSl d dl dh) := by
  refine ⟨pe_slice sl_any he.pe hl.pe hh.pe, fun R q k => ?_⟩
  refine he.sem R q fun o ρ1 v H1 F1 q1 s1 R1 d1 => ?_
  refine hl.sem R1 q1 fun l ρ2 H2 F2 q2 s2 R2 => ?_
  refine hh.sem R2 q2 fun u ρ3 H3 F3 q3 s3 R3 => ?_
  have s13 := s1.trans (s2.trans s3)
  cases ea : o.get ρ3 with
  | none => simp only [ea] at q3
  | some x =>
    simp only [ea] at q3
    have pk := (d1.mono (s2.trans s3)).pk R3 ea
    unfold gSl at q3
    split at q3
    · obtain ⟨p, xs, rfl, h1, d1⟩ := pk.lst R3.ext
      refine .inl ⟨p, xs, rfl, .inl (.inl h1), fun a ha => ?_⟩
      obtain ⟨R4, rd⟩ := R3.allocFr ha (c := .l _) ⟨_, upd_same, d1.cut l u⟩
      exact k _ _ _ _ _ q3 s13 R4 rd
    · have o1 := pk.strOk
      cases pk.str
      exact .inr (.inl ⟨_, rfl, q3.1, k _ _ _ _ _ q3.2 s13 R3 (.str _ (strOk_cut o1 l u))⟩)
    · obtain ⟨p, xs, rfl, h1, d1⟩ := pk.tup
      refine .inr (.inr ⟨p, xs, rfl, .inl (.inl (R3.ext _ _ h1)), fun hw => ?_, fun _ a ha => ?_⟩)
      · have hl := d1.length
        rw [hl] at hw
        rw [cut_whole hw.1 hw.2] at q3
        exact k _ _ _ _ _ q3 s13 R3 (.tup h1 d1)
      · obtain ⟨s4, R4⟩ := R3.alloc (o := .tup (cutV xs l u)) ha
        exact k _ _ _ _ _ q3 (s13.trans s4) R4 (.tup upd_same ((d1.cut l u).mono s4))
    · obtain ⟨p, rfl, h1⟩ := pk.scr R3.ext
      refine .inl ⟨p, _, rfl, h1, fun a ha => ?_⟩
      have hx := cutV_ints ‹List Int› l u
      obtain ⟨R4, rd⟩ := R3.allocFr (o := .lst (cutV (List.map V.int ‹List Int›) l u)) ha (c := .l ((cut ‹List Int› l u).map D.int)) ⟨_, upd_same, by rw [hx]; exact DenL.ints⟩
      exact k _ _ _ _ _ q3 s13 R4 rd
    · exact q3.elim
/-! ### in -/
/-! ### is None -/
theorem Pk.notNon {K : PySem.W.Frag} {F H : Hp} {v : V} {d : D} (h : Pk K F H v d) (hd : d ≠ .non) (hu : d ≠ .unk) : decide (v = .non) = false := by
  refine decide_eq_false fun e => ?_
  subst e
  rcases h with h | ⟨p, c, e, _⟩
  · cases h
    · exact hd rfl
    · exact hu rfl
  · cases e
/-! ### tests -/
def asB (r : Rv) (Q : Bool → Prop) : Prop := match r with
  | .v (.bl b) => Q b
  | _ => False
theorem asB_den {K : PySem.W.Frag} {G : Cd} {σ : L2.St} {ρ : SL} {H F : Hp} {v : V} {r : Rv} {Q : Bool → Prop} (h : asB r Q) (rd : RDen K G σ ρ H F v r) : ∃ b, v = .bl b ∧ Q b := by
  cases r with
  | fr c => exact h.elim
  | pt _ _ => exact h.elim
  | v d =>
    cases d with
    | bl b => cases rd; exact ⟨b, rfl, h⟩
    | _ => exact h.elim
def bOf (t : TD) : TB := fun ρ Q => t ρ fun r ρ' => asB r fun b => Q b ρ'
theorem sem_bOf {te : TE} {t : TD} (hs : ∀ {G : Cd} {σ : L2.St} {H F : Hp} {ρ : SL} {Q : VK} {Qd : Rv → SL → Prop}, Rep X.K G σ H F ρ → t ρ Qd →
    (∀ r ρ' v H' F', Qd r ρ' → Same F F' → Rep X.K G σ H' F' ρ' → RDen X.K G σ ρ' H' F' v r → Q v H') → te σ H Q)
    {G : Cd} {σ : L2.St} {H F : Hp} {ρ : SL} {Q : Bool → Hp → Prop} {Qd : Bool → SL → Prop} (R : Rep X.K G σ H F ρ) (q : bOf t ρ Qd)
    (k : ∀ b ρ' H' F', Qd b ρ' → Same F F' → Rep X.K G σ H' F' ρ' → Q b H') : tTest te σ H Q :=
  hs R q fun r ρ' v H' F' qd s1 R1 rd => by
    obtain ⟨b, rfl, qb⟩ := asB_den qd rd
    exact ⟨b, rfl, k _ _ _ _ qb s1 R1⟩
theorem dt_cmp {op : CmpOp} {r : R2} {g : D → D → (Rv → Prop) → Prop} {ta tb : TE} {a b : Expr} {da db : TQ} {pos : Pos} (ho : OpR X (compareOp op) r) (hg : SemOp X.K r g) (ha : DO X a ta da) (hb : DO X b tb db)
    (hm : behindInMarks op b = false) : DT X (.Compare a [op] [b] pos) (tTest (tOp r ta tb)) (bOf (dOp g da db)) :=
  ⟨pt_cmpR ho ha.pe hb.pe hm, fun R q k => sem_bOf (fun R q k => sem_op hg ha hb R q k) R q k⟩
def gTruth : D → (Bool → Prop) → Prop
  | .non => fun Q => Q false
  | .bl b => fun Q => Q b
  | .int i => fun Q => Q (i != 0)
  | .str y => fun Q => y.length ≤ sizeLine ∧ Q ((y.length : Int) != 0)
  | .lst l => fun Q => Q (!l.isEmpty)
  | .tup l => fun Q => Q (!l.isEmpty)
  | .dct l => fun Q => Q (!l.isEmpty)
  | _ => fun _ => False
theorem DenL.isEmpty {K : PySem.W.Frag} {F : Hp} {vs : List V} {ds : List D} (h : DenL K F vs ds) : vs.isEmpty = ds.isEmpty := by cases h <;> rfl
theorem DenK.isEmpty {K : PySem.W.Frag} {F : Hp} {vs : List (Key × V)} {ds : List (Key × D)} (h : DenK K F vs ds) : vs.isEmpty = ds.isEmpty := by cases h <;> rfl
theorem Pk.truth {K : PySem.W.Frag} {F H : Hp} {v : V} {d : D} {Q : Bool → Prop} (e : Same F H) (h : Pk K F H v d) (q : gTruth d Q) : ∃ b, TruV K v H b ∧ Q b := by
  cases d with
  | non => cases h.non; exact ⟨false, rfl, q⟩
  | bl b => cases h.bl; exact ⟨b, rfl, q⟩
  | int i => cases h.int; exact ⟨_, rfl, q⟩
  | str y => cases h.str; exact ⟨_, ⟨q.1, rfl⟩, q.2⟩
  | lst l => obtain ⟨p, xs, rfl, a, b⟩ := h.lst e; exact ⟨_, .inl ⟨xs, .inl (.inl a), rfl⟩, by rw [b.isEmpty]; exact q⟩
  | tup l => obtain ⟨p, xs, rfl, a, b⟩ := h.tup; exact ⟨_, .inr (.inl ⟨xs, .inl (.inl (e _ _ a)), rfl⟩), by rw [b.isEmpty]; exact q⟩
  | dct l => obtain ⟨p, xs, rfl, a, b⟩ := h.dct e; exact ⟨_, .inr (.inr ⟨xs, a, rfl⟩), by rw [b.isEmpty]; exact q⟩
  | obj _ _ => exact q.elim
  | scr _ => exact q.elim
  | rep _ => exact q.elim
  | «at» _ => exact q.elim
  | exc _ _ _ _ _ => exact q.elim
  | err _ _ _ _ => exact q.elim
  | dx _ _ => exact q.elim
  | unk => exact q.elim
def bTr (t : TQ) : TB := fun ρ Q => t ρ fun o ρ' => match o.get ρ' with
  | some d => gTruth d fun b => Q b ρ'
  | none => False
theorem dt_tr {e : Expr} {te : TE} {t : TQ} (h : DO X e te t) (he : ∀ whole, isTrue e X.env whole = (do let v ← whole; standAt e.pos; holding [v] (truthy v)) := by intro _; rfl) :
    DT X e (fun σ H Q => te σ H fun x H' => ∃ k, TruV X.K x H' k ∧ Q k H') (bTr t) :=
  ⟨pt_truth h.pe he, fun R q k => h.sem R q fun o ρ' v H' F' qd s1 R1 d1 => by
    cases ea : o.get ρ' with
    | none => rw [ea] at qd; exact qd.elim
    | some x =>
      rw [ea] at qd
      obtain ⟨b, t, q⟩ := (d1.pk R1 ea).truth R1.ext qd
      exact ⟨b, t, k _ _ _ _ q s1 R1⟩⟩
def bOr (t u : TB) : TB := fun ρ Q => t ρ fun b ρ1 => if b = true then Q true ρ1 else u ρ1 Q
def bNot (t : TB) : TB := fun ρ Q => t ρ fun b ρ1 => Q (!b) ρ1
theorem dw_pt {e : Expr} {te : TT} {t : TB} (h : DW X e te t) : DT X e te t := ⟨h.pe.pt, h.sem⟩
theorem dw_or1 {a : Expr} {pos : Pos} {te : TT} {t : TB} (h : DT X a te t) : DW X (.BoolOp .Or [a] pos) te t := ⟨pw_or1 h.pe, h.sem⟩
theorem dw_or {a b : Expr} {rest : List Expr} {pos : Pos} {te tf : TT} {t u : TB} (h : DT X a te t) (h2 : DW X (.BoolOp .Or (b :: rest) pos) tf u) : DW X (.BoolOp .Or (a :: b :: rest) pos) (tOr te tf) (bOr t u) :=
  ⟨pw_or h.pe h2.pe, fun R q k => h.sem R q fun z ρ1 H1 F1 q1 s1 R1 => by
    cases z with
    | false => rw [if_neg Bool.false_ne_true] at q1 ⊢; exact h2.sem R1 q1 fun b ρ' H' F' qd s2 R2 => k _ _ _ _ qd (s1.trans s2) R2
    | true => rw [if_pos rfl] at q1 ⊢; exact k _ _ _ _ q1 s1 R1⟩
theorem dt_not {a : Expr} {pos : Pos} {te : TT} {t : TB} (h : DT X a te t) : DT X (.UnaryOp .Not a pos) (tNot te) (bNot t) :=
  ⟨pt_not h.pe, fun R q k => h.sem R q fun b ρ1 H1 F1 q1 s1 R1 => k _ _ _ _ q1 s1 R1⟩
end
end DL

namespace DL
open PySem L2
abbrev TVs := SL → (List D → SL → Prop) → Prop
structure DV (X : Cx) (es : List Expr) (ta : TA) (t : TVs) : Prop where
  pe : PA X es ta
  sem : ∀ {G : Cd} {σ : L2.St} {H F : Hp} {ρ : SL} {Q : List V → Hp → Prop} {Qd : List D → SL → Prop}, Rep X.K G σ H F ρ → t ρ Qd →
    (∀ ds ρ' vs H' F', Qd ds ρ' → Same F F' → Rep X.K G σ H' F' ρ' → DenL X.K F' vs ds → Q vs H') → ta σ H Q
section
variable {X : Cx}
def vNil : TVs := fun ρ Q => Q [] ρ
def vCons (t : TD) (u : TVs) : TVs := fun ρ Q => t ρ fun r ρ1 => u ρ1 fun ds ρ2 => Q (r.dat :: ds) ρ2
theorem dv_nil : DV X [] tNil vNil := ⟨pa_nil, fun R h k => k _ _ _ _ _ h (Same.refl _) R .nil⟩
theorem dv_cons {e : Expr} {es : List Expr} {te : TE} {ta : TA} {t : TD} {u : TVs} (h : DE X e te t) (r : DV X es ta u) (hs : starEach (e :: es) X.env = (false, eval e X.env) :: starEach es X.env := by rfl) :
    DV X (e :: es) (tCons te ta) (vCons t u) :=
  ⟨pa_cons h.pe r.pe hs, fun R q k => h.sem R q fun o ρ1 v H1 F1 q1 s1 R1 d1 => by
    obtain ⟨F1', s1', R1', d1'⟩ := R1.share d1
    exact r.sem R1' q1 fun os ρ2 vs H2 F2 q2 s2 R2 d2 => k _ _ _ _ _ q2 (s1.trans (s1'.trans s2)) R2 (.cons (d1'.mono s2) d2)⟩
def dTup (t : TVs) : TD := fun ρ Q => t ρ fun ds ρ' => ds.length ≤ sizeLine ∧ Q (.v (.tup ds)) ρ'
def dLst (t : TVs) : TD := fun ρ Q => t ρ fun ds ρ' => ds.length ≤ sizeLine ∧ Q (.fr (.l ds)) ρ'
theorem de_tup {es : List Expr} {x1 pos} {ta : TA} {t : TVs} (h : DV X es ta t) : DE X (.Tuple es x1 pos) (tTup ta) (dTup t) :=
  ⟨pe_tup h.pe, fun R q k => h.sem R q fun ds ρ' vs H' F' qd s1 R1 d1 => ⟨by rw [d1.length]; exact qd.1, fun p hp => by
    obtain ⟨s2, R2⟩ := R1.alloc (o := .tup vs) hp
    exact k _ _ _ _ _ qd.2 (s1.trans s2) R2 (.tup upd_same (d1.mono s2))⟩⟩
theorem de_lst {es : List Expr} {pos} {ta : TA} {t : TVs} (h : DV X es ta t) : DE X (.List es pos) (tLst ta) (dLst t) :=
  ⟨pe_lst h.pe, fun R q k => h.sem R q fun ds ρ' vs H' F' qd s1 R1 d1 => ⟨by rw [d1.length]; exact qd.1, fun p hp => by
    obtain ⟨R2, rd⟩ := R1.allocFr hp (c := .l ds) ⟨_, upd_same, d1⟩
    exact k _ _ _ _ _ qd.2 s1 R2 rd⟩⟩
/-! ### dict displays -/
abbrev TPs := SL → (List (D × D) → SL → Prop) → Prop
inductive DenPs (K : PySem.W.Frag) (F : Hp) : List (V × V) → List (D × D) → Prop
  | nil : DenPs K F [] []
  | cons {v w : V} {vs : List (V × V)} {d e : D} {ds : List (D × D)} : Den K F v d → Den K F w e → DenPs K F vs ds → DenPs K F ((v, w) :: vs) ((d, e) :: ds)
structure DPs (X : Cx) (pos : Pos) (keys : List (Option Expr)) (values : List Expr) (trs : List (TE × TE)) (t : TPs) : Prop where
  pe : PPs X pos keys values trs
  sem : ∀ {G : Cd} {σ : L2.St} {H F : Hp} {ρ : SL} {Q : List (V × V) → Hp → Prop} {Qd : List (D × D) → SL → Prop}, Rep X.K G σ H F ρ → t ρ Qd →
    (∀ ds ρ' vs H' F', Qd ds ρ' → Same F F' → Rep X.K G σ H' F' ρ' → DenPs X.K F' vs ds → Q vs H') → tPairs trs σ H Q
def psNil : TPs := fun ρ Q => Q [] ρ
def psCons (tk tv : TD) (u : TPs) : TPs := fun ρ Q => tk ρ fun rk ρ1 => tv ρ1 fun rv ρ2 => u ρ2 fun ds ρ3 => Q ((rk.dat, rv.dat) :: ds) ρ3
theorem dps_nil {pos : Pos} : DPs X pos [] [] [] psNil := ⟨pps_nil, fun R h k => k _ _ _ _ _ h (Same.refl _) R .nil⟩
theorem dps_cons {pos : Pos} {k v : Expr} {ks : List (Option Expr)} {vs : List Expr} {tk tv : TE} {trs : List (TE × TE)} {dk dv : TD} {u : TPs} (hk : DE X k tk dk) (hv : DE X v tv dv) (hr : DPs X pos ks vs trs u) :
    DPs X pos (some k :: ks) (v :: vs) ((tk, tv) :: trs) (psCons dk dv u) :=
  ⟨pps_cons hk.pe hv.pe hr.pe, fun R q kk => hk.sem R q fun r1 ρ1 v1 H1 F1 q1 s1 R1 d1 => by
    obtain ⟨F1', s1', R1', d1'⟩ := R1.share d1
    refine hv.sem R1' q1 fun r2 ρ2 v2 H2 F2 q2 s2 R2 d2 => ?_
    obtain ⟨F2', s2', R2', d2'⟩ := R2.share d2
    exact hr.sem R2' q2 fun ds ρ3 ws H3 F3 q3 s3 R3 d3 => kk _ _ _ _ _ q3 (s1.trans (s1'.trans (s2.trans (s2'.trans s3)))) R3 (.cons (d1'.mono (s2.trans (s2'.trans s3))) (d2'.mono s3) d3)⟩
def keyed : List (D × D) → Option (List (Key × D))
  | [] => some []
  | (k, d) :: r => match k.key, keyed r with
    | some k, some r => some ((k, d) :: r)
    | _, _ => none
theorem DenPs.keyed {K : PySem.W.Frag} {F : Hp} : ∀ {ds : List (D × D)} {vs : List (V × V)} {kvs : List (Key × D)}, DenPs K F vs ds → DL.keyed ds = some kvs → ∃ ks : List (Key × V), vs = ks.map (fun kv => (kV kv.1, kv.2)) ∧ DenK K F ks kvs
  | [], _, _, h, e => by cases h; cases e; exact ⟨[], rfl, .nil⟩
  | (k, d) :: r, _, kvs, h, e => by
    cases h with
    | cons a b t =>
      unfold DL.keyed at e
      cases q : k.key with
      | none => rw [q] at e; cases e
      | some k' =>
        rw [q] at e
        cases q2 : DL.keyed r with
        | none => rw [q2] at e; cases e
        | some r' =>
          rw [q2] at e
          cases e
          obtain ⟨ks, e1, e2⟩ := DenPs.keyed t q2
          have := Pk.key (H := F) (.inl a) q
          subst this
          exact ⟨(k', _) :: ks, by rw [e1]; rfl, .cons b (Pk.keyOk (H := F) (.inl a) q) e2⟩
def dDisp (t : TPs) : TD := fun ρ Q => t ρ fun ds ρ' => match keyed ds with
  | some kvs => kvs.length ≤ 15 ∧ Q (.fr (.d (kMerge [] kvs))) ρ'
  | none => False
theorem de_disp {pos : Pos} {keys : List (Option Expr)} {values : List Expr} {trs : List (TE × TE)} {t : TPs} (h : DPs X pos keys values trs t) (hall : keys.all (·.isSome) = true) (hl : keys.length = values.length) (h0 : keys ≠ [])
    (h15 : keys.length ≤ 15) : DE X (.Dict keys values pos) (tDisp trs) (dDisp t) := by
  refine ⟨pe_disp h.pe hall hl h0 h15, fun {G σ H F ρ Q Qd} R q k p hp => ?_⟩
  obtain ⟨R1, rd⟩ := R.allocFr (o := .dK []) hp (c := .d []) ⟨_, upd_same, .nil⟩
  obtain ⟨p', e, _, hF, _, hn⟩ := rd
  cases e
  refine h.sem R1.now q fun ds ρ' vs H' F' qd s1 R2 d2 => ?_
  obtain ⟨h1, h2, h3⟩ := R1.held R2 upd_same hF hn (R.freshB hp)
  have R3 := R1.back R2
  cases ek : keyed ds with
  | none => simp only [ek] at qd
  | some kvs =>
    simp only [ek] at qd
    obtain ⟨ks, e1, dk⟩ := d2.keyed ek
    refine ⟨h1, ks, e1, by rw [dk.length]; exact qd.1, ?_⟩
    -- the dict is written: it is nobody's
    have rd3 : RDen X.K G σ ρ' H' F' (.ref p) (.fr (.d [])) := ⟨p, rfl, ⟨[], h1, .nil⟩, h2, .inl (R.fresh hp).2, h3⟩
    obtain ⟨R4, rd4⟩ := R3.writeFr (o := .dK (mergeK [] ks)) (c' := .d (kMerge [] kvs)) rd3 ⟨_, upd_same, dk.merge .nil⟩
    exact k _ _ _ _ _ qd.2 s1 R4 rd4
/-! ### statements -/
def sSeq (t u : TSD) : TSD := fun E ρ => t { E with nx := fun ρ' => u E ρ' } ρ
def sNext : TSD := fun E ρ => E.nx ρ
theorem dss_nil : DSs X [] tNext sNext := ⟨pss_nil, fun R q L => L.nx _ _ _ _ q R⟩
theorem dss_cons {st : Stmt} {rest : List Stmt} {t u : TS} {dt du : TSD} (h : DS X st t dt) (h2 : DSs X rest u du) : DSs X (st :: rest) (tSeq t u) (sSeq dt du) :=
  ⟨pss_cons h.pe h2.pe, fun R q L => h.sem R q ⟨fun σ H F ρ e R1 => h2.sem R1 e L, L.rt, L.bk, L.ct, L.xc, L.xh⟩⟩
theorem dss_one {st : Stmt} {t : TS} {dt : TSD} (h : DS X st t dt) : DSs X [st] t dt := ⟨pss_one h.pe, h.sem⟩
def sSet (i : Nat) (t : TD) : TSD := fun E ρ => t ρ fun r ρ1 => E.nx (put ρ1 i r)
theorem ds_set {i : Nat} {x : Str} {e : Expr} {te : TE} {t : TD} {pos pos' : Pos} (hN : X.N.Nodup) (hi : X.N[i]? = some x) (hx : Loc X.env.scope x) (he : DE X e te t) (hs : swapsWith e (some (.Name x pos')) pos.line X.env = pure false := by rfl)
    (hf : X.fn x = true ∨ X.env.scope.names.lookup x = some .local := by first | exact .inl rfl | exact .inr rfl | assumption) : DS X (.Assign [.Name x pos'] e pos) (tAsg te (gName i)) (sSet i t) :=
  ⟨ps_set hN hi hx he.pe hs hf, fun R q L => he.sem R q fun r ρ' v H' F' qd s1 R1 rd => by
    obtain ⟨F2, _, R2⟩ := R1.putF rd i
    exact L.nx _ _ _ _ qd R2⟩
/-! targets -/
abbrev TGd := D → SL → (SL → Prop) → Prop
abbrev TGds := List D → SL → (SL → Prop) → Prop
structure DG (X : Cx) (tg : Expr) (ws : List Nat) (g : TG) (t : TGd) : Prop where
  pe : PG X tg g
  sem : ∀ {G : Cd} {σ : L2.St} {H F : Hp} {ρ : SL} {v : V} {d : D} {Q : L2.St → Hp → Prop} {Qd : SL → Prop}, Rep X.K G σ H F ρ → Den X.K F v d → t d ρ Qd →
    (∀ ρ' σ' , Qd ρ' → Rep X.K G σ' H F ρ' → wipe σ' ws = wipe σ ws → Q σ' H) → g v σ H Q
def gN (i : Nat) : TGd := fun d ρ Q => Q (ρ.set i (.sh d))
def gsCons (t : TGd) (u : TGds) : TGds := fun ds ρ Q => match ds with
  | d :: r => t d ρ fun ρ' => u r ρ' Q
  | _ => False
theorem dg_name {i : Nat} {x : Str} {pos : Pos} (hN : X.N.Nodup) (hi : X.N[i]? = some x) (hx : Loc X.env.scope x) (hf : X.fn x = true ∨ X.env.scope.names.lookup x = some .local := by first | exact .inl rfl | exact .inr rfl | assumption) :
    DG X (.Name x pos) [i] (gName i) (gN i) := ⟨pg_name hN hi hx hf, fun R d q k => k _ _ q (R.setSh d i) (by show (List.set _ i _).set i none = List.set _ i none; rw [List.set_set]; rfl)⟩
/-! several values at once, new things still new -/
def Rv.fl : Rv → Rv
  | .v d => .v d
  | .fr c => .fr c
  | .pt d hs => .v (d.res hs)
theorem Rep.flat {K : PySem.W.Frag} {G : Cd} {σ : L2.St} {H F : Hp} {ρ : SL} {v : V} {r : Rv} (R : Rep K G σ H F ρ) (h : RDen K G σ ρ H F v r) : ∃ F', Same F F' ∧ Rep K G σ H F' ρ ∧ RDen K G σ ρ H F' v r.fl ∧ r.fl.np := by
  cases r with
  | v d => exact ⟨F, Same.refl F, R, h, True.intro⟩
  | fr c => exact ⟨F, Same.refl F, R, h, True.intro⟩
  | pt d hs =>
    obtain ⟨F', s1, R1, d1⟩ := R.share h
    exact ⟨F', s1, R1, d1, True.intro⟩
def puts (ρ : SL) : List Nat → List Rv → SL
  | i :: is, r :: rs => puts (put ρ i r) is rs
  | _, _ => ρ
/-- a, b = e1, e2 by way of a tuple that nobody sees again: all targets names -/
inductive Names (X : Cx) : List Expr → List Nat → TGs → Prop
  | nil : Names X [] [] gNil
  | cons {i : Nat} {is : List Nat} {e : Expr} {es : List Expr} {gs : TGs} : PG X e (gName i) → PGs X es gs → Names X es is gs → (assignEach (e :: es) X.env).map (·.2) = assign e X.env :: (assignEach es X.env).map (·.2) → Names X (e :: es) (i :: is) (gCons (gName i) gs)
theorem Names.run {G : Cd} {H F : Hp} {D : Ends} {E : EndsD} (L : Link X G D E) {es : List Expr} {is : List Nat} {gs : TGs} (h : Names X es is gs) : ∀ {σ : L2.St} {ρ : SL} {vs : List V} {rs : List Rv}, Rep X.K G σ H F ρ → RDs X.K G σ ρ H F vs rs → rs.length = is.length → E.nx (puts ρ is rs) → gs vs σ H D.nx := by
  induction h with
  | nil =>
    intro σ ρ vs rs R d hl q
    cases d with
    | nil => exact ⟨rfl, L.nx _ _ _ _ q R⟩
    | cons _ _ _ => cases hl
  | @cons i is e es gs a b c d ih =>
    intro σ ρ vs rs R dd hl q
    cases dd with
    | nil => cases hl
    | cons a1 t1 c1 np => exact ⟨_, _, rfl, ih (R.put a1 np i) (t1.put R.len i c1) (Nat.succ.inj hl) q⟩
/-! ### expressions as statements, return -/
def sDrop (t : TD) : TSD := fun E ρ => t ρ fun _ ρ' => E.nx ρ'
theorem ds_expr {e : Expr} {te : TE} {t : TD} {pos : Pos} (h : DE X e te t) (hs : swapsWith e none pos.line X.env = pure false := by rfl) : DS X (.Expr e pos) (tDrop te) (sDrop t) :=
  ⟨ps_expr h.pe hs, fun R q L => h.sem R q fun r ρ' v H' F' qd s1 R1 rd => L.nx _ _ _ _ qd R1⟩
def sRet (t : TD) : TSD := fun E ρ => t ρ E.rt
theorem ds_ret {e : Expr} {te : TE} {t : TD} {pos : Pos} (h : DE X e te t) : DS X (.Return (some e) pos) (tRet te) (sRet t) :=
  ⟨ps_ret h.pe, fun R q L => h.sem R q fun r ρ' v H' F' qd s1 R1 rd => L.rt _ _ _ _ _ _ qd R1 rd⟩
def sIf (t : TB) (u w : TSD) : TSD := fun E ρ => t ρ fun b ρ1 => if b = true then u E ρ1 else w E ρ1
theorem ds_if {c : Expr} {a b : List Stmt} {pos : Pos} {tc : TT} {t1 t2 : TS} {t : TB} {u w : TSD} (hc : DT X c tc t) (ha : DSs X a t1 u) (hb : DSs X b t2 w) : DS X (.If c a b pos) (tIfS tc t1 t2) (sIf t u w) :=
  ⟨ps_if hc.pe ha.pe hb.pe, fun R q L => hc.sem R q fun z ρ1 H1 F1 q1 s1 R1 => by
    cases z with
    | true => rw [if_pos rfl] at q1 ⊢; exact ha.sem R1 q1 L
    | false => rw [if_neg Bool.false_ne_true] at q1 ⊢; exact hb.sem R1 q1 L⟩
/-! ### while -/
end
end DL

namespace DL
open PySem L2
/-! ### what is walked -/
/-- an iterator hands out these data, whatever else goes on -/
structure ItD (K : PySem.W.Frag) (G : Cd) (J : It) (its : List D) : Prop where
  stop : ∀ {σ : L2.St} {H F : Hp} {ρ : SL}, Rep K G σ H F ρ → J.stop its.length H
  go : ∀ {σ : L2.St} {H F : Hp} {ρ : SL} (i : Nat), i < its.length → Rep K G σ H F ρ → J.go i H
  yld : ∀ {σ : L2.St} {H F : Hp} {ρ : SL} (i : Nat) (d : D) (x : V) (H' : Hp), its[i]? = some d → Rep K G σ H F ρ → J.yld i H x H' → (H' = H ∧ Den K F x d) ∨ ∃ T xs, H T = none ∧ H' = upd H T (.tup xs) ∧ Den K (upd F T (.tup xs)) x d
theorem ItD.step {K : PySem.W.Frag} {G : Cd} {J : It} {its : List D} (IT : ItD K G J its) {σ : L2.St} {H F : Hp} {ρ : SL} {i : Nat} {d : D} {x : V} {H' : Hp} (hi : its[i]? = some d) (R : Rep K G σ H F ρ) (y : J.yld i H x H') :
    ∃ F3, Same F F3 ∧ Rep K G σ H' F3 ρ ∧ Den K F3 x d ∧ ∀ v c, RDen K G σ ρ H F v (.fr c) → RDen K G σ ρ H' F3 v (.fr c) := by
  rcases IT.yld i d x H' hi R y with ⟨rfl, dd⟩ | ⟨T, xs, hT, rfl, dd⟩
  · exact ⟨F, Same.refl _, R, dd, fun _ _ h => h⟩
  · obtain ⟨s1, R1⟩ := R.alloc (o := .tup xs) hT
    refine ⟨_, s1, R1, dd, fun v c h => ?_⟩
    obtain ⟨q, e, a1, a2, a3, n⟩ := h
    obtain ⟨o', ho⟩ := a1.ex
    have ne : q ≠ T := fun z => by subst z; rw [hT] at ho; cases ho
    exact ⟨q, e, (a1.mono s1).at (upd_ne ne), by rw [upd_ne ne]; exact a2, a3, n⟩
abbrev TSrc := SL → (List D → SL → Prop) → Prop
structure DI (X : Cx) (tg iter : Expr) (wi : TI) (t : TSrc) : Prop where
  pe : PI X tg iter wi
  sem : ∀ {G : Cd} {σ : L2.St} {H F : Hp} {ρ : SL} {Q : It → Hp → Prop} {Qd : List D → SL → Prop}, Rep X.K G σ H F ρ → t ρ Qd →
    (∀ its ρ' J H' F', Qd its ρ' → Same F F' → Rep X.K G σ H' F' ρ' → (∀ G' : Cd, G'.F0 = F' → ItD X.K G' J its) → Q J H') → wi σ H Q
def chars (x : Str) : List D := x.cps.toList.map fun c => .str ⟨#[c]⟩
def itsOf : D → Option (List D)
  | .lst l => some l
  | .tup l => some l
  | .str x => some (chars x)
  | _ => none
section
variable {K : PySem.W.Frag}
theorem itd_list {G : Cd} {a : Addr} {xs : List V} {ds : List D} (hH : ∀ {σ : L2.St} {H F : Hp} {ρ : SL}, Rep K G σ H F ρ → H a = some (.lst xs) ∧ DenL K F xs ds) : ItD K G (Itl K a) ds where
  stop := fun R => ⟨xs, .inl (.inl (hH R).1), by rw [(hH R).2.length]; exact Nat.le_refl _⟩
  go := fun i hi R => by
    obtain ⟨h1, h2⟩ := hH R
    rw [← h2.length] at hi
    exact ⟨xs, xs[i], .inl (.inl h1), List.getElem?_eq_getElem hi⟩
  yld := fun {σ H F ρ} i d x H' hi R y => by
    obtain ⟨rfl, y⟩ := y
    obtain ⟨h1, h2⟩ := hH R
    have hx := y xs (.inl (.inl h1))
    obtain ⟨d', e, dd⟩ := h2.get' hx
    rw [hi] at e; cases e
    exact .inl ⟨rfl, dd⟩
theorem itd_tup {G : Cd} {a : Addr} {xs : List V} {ds : List D} (h : G.F0 a = some (.tup xs)) (hd : DenL K G.F0 xs ds) : ItD K G (Itt K a) ds where
  stop := fun R => ⟨xs, .inl (.inl (R.ext _ _ (R.fr0 _ _ h))), by rw [hd.length]; exact Nat.le_refl _⟩
  go := fun i hi R => by
    rw [← hd.length] at hi
    exact ⟨xs, xs[i], .inl (.inl (R.ext _ _ (R.fr0 _ _ h))), List.getElem?_eq_getElem hi⟩
  yld := fun {σ H F ρ} i d x H' hi R y => by
    obtain ⟨rfl, y⟩ := y
    have hx := y xs (.inl (.inl (R.ext _ _ (R.fr0 _ _ h))))
    obtain ⟨d', e, dd⟩ := hd.get' hx
    rw [hi] at e; cases e
    exact .inl ⟨rfl, dd.mono R.fr0⟩
theorem itd_str {G : Cd} {z : Str} (hz : PyData.strOk z = true) : ItD K G (Its z) (chars z) where
  stop := fun R => by
    show z.cps.size ≤ (chars z).length
    unfold chars
    rw [List.length_map, Array.length_toList]
    exact Nat.le_refl _
  go := fun i hi R => by
    unfold chars at hi
    rw [List.length_map, Array.length_toList] at hi
    exact hi
  yld := fun {σ H F ρ} i d x H' hi R y => by
    obtain ⟨rfl, c, hc, rfl⟩ := y
    unfold chars at hi
    rw [List.getElem?_map, Array.getElem?_toList, hc] at hi
    cases hi
    exact .inl ⟨rfl, .str _ (strOk_one hz (by
      have : z.cps.toList[i]? = some c := by rw [Array.getElem?_toList]; exact hc
      exact List.mem_of_getElem? this))⟩
def rangeC (lo c : Int) (n : Nat) : List D := (List.range n).map fun (i : Nat) => D.int (lo + (i : Int) * c)
theorem rangeC_at {lo c : Int} {n i : Nat} {d : D} (h : (rangeC lo c n)[i]? = some d) : i < n ∧ d = .int (lo + (i : Int) * c) := by
  unfold rangeC at h
  rw [List.getElem?_map] at h
  by_cases q : i < n
  · rw [List.getElem?_range q] at h
    cases h
    exact ⟨q, rfl⟩
  · rw [List.getElem?_eq_none (by rw [List.length_range]; omega)] at h
    cases h
theorem rangeC_length (lo c : Int) (n : Nat) : (rangeC lo c n).length = n := by
  unfold rangeC
  rw [List.length_map, List.length_range]
theorem itd_rng {G : Cd} {lo : Int} {n : Nat} : ItD K G (Itr lo n) (rangeC lo 1 n) where
  stop := fun R => by rw [rangeC_length]; exact Nat.le_refl _
  go := fun i hi R => by rw [rangeC_length] at hi; exact hi
  yld := fun {σ H F ρ} i d x H' hi R y => by
    obtain ⟨rfl, rfl⟩ := y
    obtain ⟨_, rfl⟩ := rangeC_at hi
    rw [Int.mul_one]
    exact .inl ⟨rfl, .int _⟩
end
section
variable {X : Cx} {tg : Expr}
def iAny (K : PySem.W.Frag) (tl : TE) : TI := fun σ H R => tl σ H fun x H1 => (∃ a, x = .ref a ∧ (∃ xs, SqL K H1 a xs) ∧ R (Itl K a) H1) ∨ ((∃ a, x = .ref a ∧ (∃ xs, SqT K H1 a xs) ∧ R (Itt K a) H1) ∨ ∃ z, x = .str z ∧ R (Its z) H1)
theorem pi_any {l : Expr} {tl : TE} (hl : PE X l tl) : PI X tg l (iAny X.K tl) := by
  refine ⟨fun pins s σ H R I h => ?_⟩
  refine thn (hl.run pins s σ H _ I h) fun v s1 ⟨x, H1, I1, r1, q1⟩ => ?_
  rcases q1 with ⟨a, e, ⟨xs, hq⟩, q⟩ | ⟨a, e, ⟨xs, hq⟩, q⟩ | ⟨z, e, q⟩
  · subst e
    cases r1
    obtain ⟨its, rv, p, hz⟩ := I1.list hq
    refine wpAny_pyIter_list p.isList ?_
    refine ⟨s1.heap.objs.size, [s1.heap.objs.size], _, _, H1, rfl, I1.kept (t' := s1.toks) fun b o e => Heap.get?_push_of_some _ e, turn_list a _, ⟨_, Heap.get?_push_size _ rfl, rfl, rfl⟩, fun b hb => ?_, q⟩
    have e : b = s1.heap.objs.size := by simpa using hb
    subst e
    exact I1.fpOk (Nat.le_refl _) (I1.hok.fresh (Nat.le_refl _))
  · subst e
    cases r1
    obtain ⟨its, rv, p, hz⟩ := I1.tuple hq
    refine wpAny_pyIter_tuple (show s1.heap.IsTuple a its.toArray from p) ?_
    refine ⟨s1.heap.objs.size, [s1.heap.objs.size], _, _, H1, rfl, I1.kept (t' := s1.toks) fun b o e => Heap.get?_push_of_some _ e, turn_tuple a _, ⟨_, Heap.get?_push_size _ rfl, rfl, rfl⟩, fun b hb => ?_, q⟩
    have e : b = s1.heap.objs.size := by simpa using hb
    subst e
    exact I1.fpOk (Nat.le_refl _) (I1.hok.fresh (Nat.le_refl _))
  · subst e
    obtain ⟨t, rfl⟩ := r1
    cases ha : z.cps.all (· < 128)
    · exact PySem.wpAny_pyIter_wide ha (pi_one (tk := s1.toks) I1 _ (turn_str _ z t "str_iterator" (.inr rfl)) ⟨_, Heap.get?_push_size _ rfl, rfl, rfl⟩ q)
    · exact PySem.wpAny_pyIter_ascii ha (pi_one (tk := s1.toks) I1 _ (turn_str _ z t "str_ascii_iterator" (.inl rfl)) ⟨_, Heap.get?_push_size _ rfl, rfl, rfl⟩ q)
def srcE (t : TD) : TSrc := fun ρ Q => t ρ fun r ρ' => match itsOf r.dat with
  | some l => Q l ρ'
  | none => False
theorem di_e {e : Expr} {te : TE} {t : TD} (h : DE X e te t) : DI X tg e (iAny X.K te) (srcE t) :=
  ⟨pi_any h.pe, fun {G σ H F ρ Q Qd} R q k => h.sem R q fun r ρ' v H' F' qd s1 R1 rd => by
    obtain ⟨F2, s2, R2, d2⟩ := R1.share rd
    cases hd : r.dat with
    | lst l =>
      rw [hd] at d2 qd
      cases d2 with
      | lst a b => exact .inl ⟨_, rfl, ⟨_, .inl (.inl (R2.ext _ _ a))⟩, k l _ _ _ _ qd (s1.trans s2) R2 fun G' e => itd_list fun R3 => by subst e; exact ⟨R3.ext _ _ (R3.fr0 _ _ a), b.mono R3.fr0⟩⟩
    | tup l =>
      rw [hd] at d2 qd
      cases d2 with
      | tup a b => exact .inr (.inl ⟨_, rfl, ⟨_, .inl (.inl (R2.ext _ _ a))⟩, k l _ _ _ _ qd (s1.trans s2) R2 fun G' e => by subst e; exact itd_tup a b⟩)
    | str z =>
      rw [hd] at d2 qd
      cases d2 with
      | str _ a => exact .inr (.inr ⟨z, rfl, k _ _ _ _ _ qd (s1.trans s2) R2 fun G' e => itd_str a⟩)
    | _ => rw [hd] at qd; exact qd.elim⟩
/-- range(n), range(a, b), range(a, b, -1) -/
def big : Int := 4611686018427387904
def srcR1 (t : TVs) : TSrc := fun ρ Q => t ρ fun ds ρ' => match ds with
  | [.int j] => -big ≤ j ∧ j < big ∧ Q (rangeC 0 1 j.toNat) ρ'
  | _ => False
theorem di_r1 {a : Expr} {ta : TA} {t : TVs} {p pos : Pos} (hg : Gl X "range") (hm : X.mg "range" = none) (ha : DV X [a] ta t) (hs : starEach [a] X.env = [(false, eval a X.env)] := by rfl) : DI X tg (.Call (.Name "range" p) [a] [] pos) (iRng1 ta) (srcR1 t) := by
  refine ⟨pi_range1 hg hm ha.pe hs, fun {G σ H F ρ Q Qd} R q k => ha.sem R q fun ds ρ' vs H' F' qd s1 R1 d1 => ?_⟩
  split at qd
  · cases d1 with
    | cons a b =>
      cases a; cases b
      exact ⟨_, rfl, qd.1, qd.2.1, k _ _ _ _ _ qd.2.2 s1 R1 fun G' _ => itd_rng⟩
  · exact qd.elim
/-! ### for -/
def forL (g : TGd) (b : TSD) (E : EndsD) : List D → SL → Prop
  | [], ρ => E.nx ρ
  | d :: r, ρ => g d ρ fun ρ1 => b { nx := forL g b E r, rt := E.rt, bk := E.nx, ct := forL g b E r, xc := E.xc, xh := E.xh } ρ1
def sFor (t : TSrc) (g : TGd) (b : TSD) : TSD := fun E ρ => t ρ fun its ρ' => forL g b E its ρ'
theorem Link.at {X : Cx} {G : Cd} {D : Ends} {E : EndsD} {σ : L2.St} {H F : Hp} {ρ : SL} (L : Link X G D E) (R : Rep X.K G σ H F ρ) : Link X (G.at F) D E :=
  ⟨fun _ _ _ _ q R' => L.nx _ _ _ _ q (R.unbase R'), fun _ _ _ _ r _ q R' rd => L.rt _ _ _ _ _ _ q (R.unbase R') (by cases r <;> exact rd), fun _ _ _ _ q R' => L.bk _ _ _ _ q (R.unbase R'), fun _ _ _ _ q R' => L.ct _ _ _ _ q (R.unbase R'), fun _ _ _ _ _ _ _ q R' xd => L.xc _ _ _ _ _ _ _ q (R.unbase R') xd, fun _ _ _ _ _ _ _ q R' xd => L.xh _ _ _ _ _ _ _ q (R.unbase R') xd⟩
theorem drop_get {α : Type} {l : List α} {i : Nat} {d : α} (h : l[i]? = some d) : l.drop i = d :: l.drop (i + 1) := by
  obtain ⟨hi, e⟩ := List.getElem?_eq_some_iff.mp h
  rw [← e]
  exact List.drop_eq_getElem_cons hi
theorem ds_for {iter : Expr} {body : List Stmt} {ws : List Nat} {wi : TI} {g : TG} {tb : TS} {t : TSrc} {gd : TGd} {b : TSD} {pos : Pos} (hp : PassesOwn (model X.prog X.w) X.A X.env X.xe) (hc : X.calm = true) (hi : DI X tg iter wi t) (hg : DG X tg ws g gd) (hb : DSs X body tb b)
    (hs : ∀ x, foldedSetIterable iter X.env x = pure x := by intro _; rfl) : DS X (.For tg iter body [] pos) (tFor wi g tb) (sFor t gd b) := by
  refine ⟨ps_for hp hc hi.pe hg.pe hb.pe hs, fun {G σ H F ρ D E} R q L => hi.sem R q fun its ρ' J H1 F1 qd s1 R1 hJ => ?_⟩
  have IT := hJ (G.at F1) rfl
  have L' := L.at R1
  refine ⟨fun i m σ H => m = its.length - i ∧ i ≤ its.length ∧ ∃ F ρ, Rep X.K (G.at F1) σ H F ρ ∧ forL gd b E (its.drop i) ρ, ⟨_, rfl, Nat.zero_le _, F1, ρ', R1.rebase, qd⟩, ?_⟩
  rintro i m σ2 H2 ⟨rfl, hi, F2, ρ2, R2, q2⟩
  by_cases hlt : i < its.length
  · refine .inr ⟨IT.go i hlt R2, fun σ H => ∃ F ρ, Rep X.K (G.at F1) σ H F ρ ∧ forL gd b E (its.drop (i + 1)) ρ, fun σ' H' ⟨F, ρ, h1, h2⟩ => ⟨its.length - (i + 1), by omega, rfl, hlt, F, ρ, h1, h2⟩, fun x H' y => ?_⟩
    have hd := List.getElem?_eq_getElem hlt
    rw [drop_get hd] at q2
    obtain ⟨F3, s3, R3, d3, _⟩ := IT.step hd R2 y
    refine hg.sem R3 d3 q2 fun ρ4 σ4 q4 R4 _ => ?_
    exact hb.sem R4 q4 ⟨fun σ H F ρ q R => ⟨F, ρ, R, q⟩, L'.rt, fun σ H F ρ q R => L'.nx σ H F ρ q R, fun σ H F ρ q R => ⟨F, ρ, R, q⟩, L'.xc, L'.xh⟩
  · have e : i = its.length := by omega
    subst e
    rw [List.drop_length] at q2
    exact .inl ⟨IT.stop R2, L'.nx _ _ _ _ q2 R2⟩
/-! ### list comprehensions -/
def wipeD (ρ : SL) : List Nat → SL
  | [] => ρ
  | v :: vs => (wipeD ρ vs).set v .un
theorem wipeD_length (ρ : SL) : ∀ vs : List Nat, (wipeD ρ vs).length = ρ.length
  | [] => rfl
  | v :: vs => by unfold wipeD; rw [List.length_set, wipeD_length ρ vs]
theorem wipeD_get {ρ : SL} {i : Nat} {s : Sl} : ∀ {vs : List Nat}, (wipeD ρ vs)[i]? = some s → s = .un ∨ (ρ[i]? = some s ∧ i ∉ vs)
  | [], h => .inr ⟨h, by simp⟩
  | v :: vs, h => by
    rcases set_get h with ⟨_, q⟩ | ⟨ne, q⟩
    · exact .inl q
    · rcases wipeD_get q with z | ⟨z, w⟩
      · exact .inl z
      · exact .inr ⟨z, by simp [w]; exact ne⟩
theorem wipe_get (σ : L2.St) {i : Nat} : ∀ {vs : List Nat}, i ∉ vs → (wipe σ vs)[i]? = σ[i]?
  | [], _ => rfl
  | v :: vs, h => by
    simp only [List.mem_cons, not_or] at h
    unfold wipe
    rw [List.getElem?_set_ne (Ne.symm h.1), wipe_get σ h.2]
theorem Rep.wipe {K : PySem.W.Frag} {G : Cd} {σ : L2.St} {H F : Hp} {ρ : SL} (R : Rep K G σ H F ρ) (vs : List Nat) : Rep K G (L2.wipe σ vs) H F (wipeD ρ vs) :=
  R.slots (by rw [wipeD_length, wipe_length]; exact R.len) fun i s e => by
    rcases wipeD_get e with z | ⟨z, w⟩
    · exact .inl z
    · exact .inr ⟨z, wipe_get σ w⟩
theorem Rep.unwipe {K : PySem.W.Frag} {G : Cd} {σ : L2.St} {H F : Hp} {ρ : SL} {vs : List Nat} (R : Rep K G (L2.wipe σ vs) H F ρ) : Rep K G σ H F (wipeD ρ vs) :=
  R.slots (by rw [wipeD_length]; exact R.len.trans (wipe_length σ vs)) fun i s e => by
    rcases wipeD_get e with z | ⟨z, w⟩
    · exact .inl z
    · exact .inr ⟨z, (wipe_get σ w).symm⟩
theorem RDen.wipe {K : PySem.W.Frag} {G : Cd} {σ : L2.St} {H F : Hp} {ρ : SL} {v : V} {r : Rv} (a : RDen K G σ ρ H F v r) (vs : List Nat) : RDen K G (L2.wipe σ vs) (wipeD ρ vs) H F v r :=
  a.slots fun i s e => by
    rcases wipeD_get e with z | ⟨z, w⟩
    · exact .inl z
    · exact .inr ⟨z, wipe_get σ w⟩
theorem RDen.unwipe {K : PySem.W.Frag} {G : Cd} {σ : L2.St} {H F : Hp} {ρ : SL} {v : V} {r : Rv} {vs : List Nat} (a : RDen K G (L2.wipe σ vs) ρ H F v r) : RDen K G σ (wipeD ρ vs) H F v r :=
  a.slots fun i s e => by
    rcases wipeD_get e with z | ⟨z, w⟩
    · exact .inl z
    · exact .inr ⟨z, (wipe_get σ w).symm⟩
theorem wipe_idem1 (σ : L2.St) {i : Nat} : ∀ {vs : List Nat}, i ∈ vs → (L2.wipe σ vs).set i none = L2.wipe σ vs
  | [], h => by simp at h
  | v :: vs, h => by
    unfold L2.wipe
    by_cases e : i = v
    · subst e; rw [List.set_set]
    · rw [List.set_comm _ _ (Ne.symm e), wipe_idem1 σ (by simpa [e] using h)]
theorem wipe_twice (σ : L2.St) (vs : List Nat) : L2.wipe (L2.wipe σ vs) vs = L2.wipe σ vs := by
  have : ∀ us : List Nat, (∀ i ∈ us, i ∈ vs) → L2.wipe (L2.wipe σ vs) us = L2.wipe σ vs := by
    intro us
    induction us with
    | nil => intro _; rfl
    | cons u us ih =>
      intro h
      show (L2.wipe (L2.wipe σ vs) us).set u none = _
      rw [ih fun i hi => h i (List.mem_cons_of_mem _ hi), wipe_idem1 σ (h u List.mem_cons_self)]
  exact this vs fun _ h => h
/-- acc: what is made so far -/
def lcL (g : TGd) (tt : TB) (te : TD) (vs : List Nat) (Q : List D → SL → Prop) : List D → List D → SL → Prop
  | [], acc, ρ => Q acc ρ
  | d :: r, acc, ρ => g d ρ fun ρ1 => tt ρ1 fun b ρ2 => if b = true then te ρ2 fun rv ρ3 => acc.length < sizeLine ∧ lcL g tt te vs Q r (acc ++ [rv.dat]) (wipeD ρ3 vs) else lcL g tt te vs Q r acc (wipeD ρ2 vs)
/-- a comprehension's source: an expression, or one's own list by its name (back: it is one's own again) -/
abbrev TSrcC := SL → (List D → (SL → SL) → SL → Prop) → Prop
structure DIc (X : Cx) (tg iter : Expr) (wi : TI) (t : TSrcC) : Prop where
  pe : PI X tg iter wi
  sem : ∀ {G : Cd} {σ : L2.St} {H F : Hp} {ρ : SL} {Q : It → Hp → Prop} {Qd : List D → (SL → SL) → SL → Prop}, Rep X.K G σ H F ρ → t ρ Qd →
    (∀ its back ρ' J H' F', Qd its back ρ' → Same F F' → Rep X.K G σ H' F' ρ' → ItD X.K (G.now σ ρ' H' F') J its →
      (∀ H2 F2 ρ2 v r, Rep X.K (G.now σ ρ' H' F') σ H2 F2 ρ2 → RDen X.K (G.now σ ρ' H' F') σ ρ2 H2 F2 v r → Rep X.K G σ H2 F2 (back ρ2) ∧ RDen X.K G σ (back ρ2) H2 F2 v r) → Q J H') → wi σ H Q
def srcC (t : TSrc) : TSrcC := fun ρ Q => t ρ fun its ρ' => Q its id ρ'
theorem dic_of {iter : Expr} {wi : TI} {t : TSrc} (h : DI X tg iter wi t) : DIc X tg iter wi (srcC t) :=
  ⟨h.pe, fun R q k => h.sem R q fun its ρ' J H' F' qd s1 R1 hJ => k its id ρ' J H' F' qd s1 R1 (hJ _ rfl) fun H2 F2 ρ2 v r R2 rd => ⟨R1.back R2, rd.back R1⟩⟩
def srcV (i : Nat) : TSrcC := fun ρ Q => match ρ[i]? with
  | some (.sh d) => match itsOf d with
    | some l => Q l id ρ
    | none => False
  | some (.ow (.l ds)) => Q ds (fun ρ' => ρ'.set i (.ow (.l ds))) (ρ.set i .un)
  | _ => False
/-- a thing lent out through a stretch comes back -/
theorem Rep.lent {K : PySem.W.Frag} {G : Cd} {σ : L2.St} {H F H2 F2 : Hp} {ρ ρ2 : SL} {i : Nat} {s : Sl} {c : Cn} (R : Rep K G σ H F ρ) (hs : ρ[i]? = some s) (hc : s.cn = some c) (hj : ∀ j, s ≠ .bw j c) (R2 : Rep K (G.now σ (ρ.set i .un) H F) σ H2 F2 ρ2) :
    Rep K G σ H2 F2 (ρ2.set i s) ∧ ∀ v r, RDen K (G.now σ (ρ.set i .un) H F) σ ρ2 H2 F2 v r → RDen K G σ (ρ2.set i s) H2 F2 v r := by
  cases s with
  | un => cases hc
  | pl _ => cases hc
  | sh d => cases hc
  | bw j c' => cases hc; exact (hj j rfl).elim
  | ow c' =>
    cases hc
    obtain ⟨p, a1, a2, a3, a4⟩ := R.ow i c hs
    obtain ⟨R0, rd0⟩ := R.take hs a1
    have h0 := rd0.hold R0 R2
    have RB := R0.back R2
    have e : σ.set i (some (.ref p)) = σ := by
      apply List.ext_getElem?
      intro j
      by_cases q : j = i
      · subst q
        rw [List.getElem?_set_self (List.getElem?_eq_some_iff.mp a1).1, a1]
      · rw [List.getElem?_set_ne (Ne.symm q)]
    have R3 := RB.setOw h0 i
    rw [e] at R3
    refine ⟨R3, fun v r rd => ?_⟩
    have lone : ∀ p2, ((G.now σ (ρ.set i .un) H F).H0 p2 = none ∨ (G.now σ (ρ.set i .un) H F).L p2) → Lone σ ρ2 p2 → Lone σ (ρ2.set i (.ow c)) p2 := fun p2 z b4 => by
      refine ⟨fun k s c' k1 k2 k3 => ?_, fun k hs c' k1 m => ?_⟩
      · rcases set_get k1 with ⟨rfl, q⟩ | ⟨ne, q⟩
        · rw [a1] at k3
          cases k3
          rcases z with z | ⟨i2, c3, e4, e5⟩ | ⟨i2, hs, c3, e4, m⟩
          · obtain ⟨o, ho⟩ := a2.ex
            have z' : H p = none := z
            rw [ho] at z'; cases z'
          · obtain ⟨_, _, _, _, _, n⟩ := rd0
            rename_i hx _ _ _
            cases hx
            exact n.1 i2 _ c3 e4 rfl e5
          · obtain ⟨_, hx, _, _, _, n⟩ := rd0
            cases hx
            exact n.2 i2 hs c3 e4 m
        · exact b4.1 k s c' q k2 k3
      · rcases set_get k1 with ⟨rfl, q⟩ | ⟨ne, q⟩
        · cases q
        · exact b4.2 k hs c' q m
    cases r with
    | v d => exact rd
    | fr c2 =>
      obtain ⟨p2, e2, b1, b2, b3, b4⟩ := id rd
      obtain ⟨p3, e3, _, _, g3, _⟩ := rd.back R0
      cases e2; cases e3
      exact ⟨p2, rfl, b1, b2, g3, lone p2 b3 b4⟩
    | pt d hs =>
      obtain ⟨g1, g2, g3⟩ := id rd
      obtain ⟨_, _, k3⟩ := rd.back R0
      refine ⟨g1, g2, fun p2 c2 m => ?_⟩
      obtain ⟨b1, b2, b3, b4⟩ := g3 p2 c2 m
      obtain ⟨_, _, l3, _⟩ := k3 p2 c2 m
      exact ⟨b1, b2, l3, lone p2 b3 b4⟩
theorem dic_var {i : Nat} {x : Str} {pos : Pos} (h : PE X (.Name x pos) (tVar i)) : DIc X tg (.Name x pos) (iAny X.K (tVar i)) (srcV i) := by
  refine ⟨pi_any h, fun {G σ H F ρ Q Qd} R q k => ?_⟩
  unfold srcV at q
  split at q
  · rename_i d hd
    obtain ⟨v, a, b⟩ := R.sh i d hd
    refine ⟨v, a, ?_⟩
    have bk : ∀ H2 F2 ρ2 v r, Rep X.K (G.now σ ρ H F) σ H2 F2 ρ2 → RDen X.K (G.now σ ρ H F) σ ρ2 H2 F2 v r → Rep X.K G σ H2 F2 (id ρ2) ∧ RDen X.K G σ (id ρ2) H2 F2 v r := fun H2 F2 ρ2 v r R2 rd => ⟨R.back R2, rd.back R⟩
    cases hd2 : d with
    | lst l =>
      subst hd2
      cases b with
      | lst c b => exact .inl ⟨_, rfl, ⟨_, .inl (.inl (R.ext _ _ c))⟩, k l _ _ _ _ _ q (Same.refl _) R (itd_list fun R3 => ⟨R3.ext _ _ (R3.fr0 _ _ c), b.mono R3.fr0⟩) bk⟩
    | tup l =>
      subst hd2
      cases b with
      | tup c b => exact .inr (.inl ⟨_, rfl, ⟨_, .inl (.inl (R.ext _ _ c))⟩, k l _ _ _ _ _ q (Same.refl _) R (itd_tup c b) bk⟩)
    | str z =>
      subst hd2
      cases b with
      | str _ c => exact .inr (.inr ⟨z, rfl, k _ _ _ _ _ _ q (Same.refl _) R (itd_str c) bk⟩)
    | _ => subst hd2; exact q.elim
  · rename_i ds hd
    obtain ⟨p, a, ⟨xs, h1, h2⟩, h3, h4⟩ := R.ow i _ hd
    refine ⟨_, a, .inl ⟨p, rfl, ⟨xs, .inl (.inl h1)⟩, ?_⟩⟩
    obtain ⟨R0, rd0⟩ := R.take hd a
    refine k ds _ _ _ _ _ q (Same.refl _) R0 (itd_list (xs := xs) fun {σ3 H3 F3 ρ3} R3 => ?_) fun H2 F2 ρ2 v r R2 rd => ?_
    · obtain ⟨p', e', b1, b2, b3, b4⟩ := rd0
      cases e'
      obtain ⟨z1, z2, z3⟩ := R0.held R3 h1 h3 b4 (R.nb h4)
      exact ⟨z1, h2.mono R3.fr0⟩
    · obtain ⟨z1, z2⟩ := R.lent hd rfl (by simp) R2
      exact ⟨z1, z2 _ _ rd⟩
  · exact q.elim

structure DTs (X : Cx) (ifs : List Expr) (te : TT) (t : TB) : Prop where
  pe : PTs X ifs te
  sem : ∀ {G : Cd} {σ : L2.St} {H F : Hp} {ρ : SL} {Q : Bool → Hp → Prop} {Qd : Bool → SL → Prop}, Rep X.K G σ H F ρ → t ρ Qd →
    (∀ b ρ' H' F', Qd b ρ' → Same F F' → Rep X.K G σ H' F' ρ' → Q b H') → te σ H Q
def bYes : TB := fun ρ Q => Q true ρ
theorem dts_nil : DTs X [] tYes bYes := ⟨pts_nil, fun R q k => k _ _ _ _ q (Same.refl _) R⟩
def dLc (t : TSrcC) (g : TGd) (tt : TB) (te : TD) (vs : List Nat) : TD := fun ρ Q => t ρ fun its back ρ' => lcL g tt te vs (fun acc ρ2 => Q (.fr (.l acc)) (back (wipeD ρ2 vs))) its [] (wipeD ρ' vs)
theorem sem_lc {elt iter : Expr} {ifs : List Expr} {scope : Scope} {ws : List Nat} {wi : TI} {g : TG} {tt : TT} {te : TE} {t : TSrcC} {gd : TGd} {dt : TB} {de : TD}
    (hi : DIc X tg iter wi t)
    (hg : ∀ (s : Shared) (H : Hp) (C : Addr) (cl : List (Str × Addr)) (fp : List Addr), DG (X.blk s H scope (compEnvC scope cl C X.env) fp) tg ws g gd) (ht : ∀ (s : Shared) (H : Hp) (C : Addr) (cl : List (Str × Addr)) (fp : List Addr), DTs (X.blk s H scope (compEnvC scope cl C X.env) fp) ifs tt dt)
    (he : ∀ (s : Shared) (H : Hp) (C : Addr) (cl : List (Str × Addr)) (fp : List Addr), DE (X.blk s H scope (compEnvC scope cl C X.env) fp) elt te de) (s0 : Shared)
    {G : Cd} {σ : L2.St} {H F : Hp} {ρ : SL} {Q : VK} {Qd : Rv → SL → Prop} (R : Rep X.K G σ H F ρ) (q : dLc t gd dt de ws ρ Qd)
    (k : ∀ r ρ' v H' F', Qd r ρ' → Same F F' → Rep X.K G σ H' F' ρ' → RDen X.K G σ ρ' H' F' v r → Q v H') : tLc wi g tt te ws σ H Q := by
  refine hi.sem R q fun its back ρ' J H1 F1 qd s1 R1 IT bk D hD => ?_
  have hG := hg s0 H 0 [] []
  have hT := ht s0 H 0 [] []
  have hE := he s0 H 0 [] []
  obtain ⟨RD, rd0⟩ := R1.now.allocFr hD (o := .lst []) (c := .l []) ⟨_, upd_same, .nil⟩
  refine ⟨fun i m H => m = its.length - i ∧ i ≤ its.length ∧ ∃ F ρ acc, Rep X.K (G.now σ ρ' H1 F1) (L2.wipe σ ws) H F ρ ∧ RDen X.K (G.now σ ρ' H1 F1) (L2.wipe σ ws) ρ H F (.ref D) (.fr (.l acc)) ∧
    lcL gd dt de ws (fun acc ρ2 => Qd (.fr (.l acc)) (back (wipeD ρ2 ws))) (its.drop i) acc ρ, ⟨_, rfl, Nat.zero_le _, F1, wipeD ρ' ws, [], RD.wipe ws, rd0.wipe ws, qd⟩, ?_⟩
  rintro i m H2 ⟨rfl, hle, F2, ρ2, acc, R2, rd2, q2⟩
  by_cases hlt : i < its.length
  · refine .inr ⟨IT.go i hlt R2, fun H => ∃ F ρ acc, Rep X.K (G.now σ ρ' H1 F1) (L2.wipe σ ws) H F ρ ∧ RDen X.K (G.now σ ρ' H1 F1) (L2.wipe σ ws) ρ H F (.ref D) (.fr (.l acc)) ∧
      lcL gd dt de ws (fun acc ρ2 => Qd (.fr (.l acc)) (back (wipeD ρ2 ws))) (its.drop (i + 1)) acc ρ, fun H' h => ⟨its.length - (i + 1), by omega, rfl, hlt, h⟩, fun x H3 y => ?_⟩
    have hd := List.getElem?_eq_getElem hlt
    rw [drop_get hd] at q2
    obtain ⟨F3, s3, R3, d3, hr⟩ := IT.step hd R2 y
    have rd3 := hr _ _ rd2
    -- the list made so far is held aside
    refine hG.sem R3.now d3 q2 fun ρ4 σ4 q4 R4 w4 => ⟨w4.trans (wipe_twice σ ws), ?_⟩
    refine hT.sem R4 q4 fun b ρ5 H5 F5 q5 s5 R5 => ?_
    cases b with
    | false =>
      rw [if_neg Bool.false_ne_true] at q5 ⊢
      have R6 := R3.back R5
      have rd6 := rd3.hold R3 R5
      refine ⟨F5, wipeD ρ5 ws, acc, ?_, ?_, q5⟩
      · have := R6.wipe ws; rw [w4, wipe_twice] at this; exact this
      · have := rd6.wipe ws; rw [w4, wipe_twice] at this; exact this
    | true =>
      rw [if_pos rfl] at q5 ⊢
      refine hE.sem R5 q5 fun r ρ6 v H6 F6 q6 s6 R6 rd6 => ?_
      obtain ⟨F7, s7, R7, d7⟩ := R6.share rd6
      have R8 := R3.back R7
      have rd8 := rd3.hold R3 R7
      obtain ⟨p, e, ⟨xs, e1, e2⟩, a2, a3, a4⟩ := id rd8
      cases e
      obtain ⟨R9, rd9⟩ := R8.writeFr (o := .lst (xs ++ [v])) (c' := .l (acc ++ [r.dat])) rd8 ⟨_, upd_same, e2.append (.cons d7 .nil)⟩
      refine ⟨xs, e1, by rw [e2.length]; exact q6.1, F7, wipeD ρ6 ws, acc ++ [r.dat], ?_, ?_, q6.2⟩
      · have := R9.wipe ws; rw [w4, wipe_twice] at this; exact this
      · have := rd9.wipe ws; rw [w4, wipe_twice] at this; exact this
  · have e : i = its.length := by omega
    subst e
    rw [List.drop_length] at q2
    have R4 := R2.unwipe
    have rd4 := rd2.unwipe
    obtain ⟨R5, rd5⟩ := bk _ _ _ _ _ R4 rd4
    exact .inl ⟨IT.stop R2, k _ _ _ _ _ q2 (s1.trans R2.fr0) R5 rd5⟩
end
end DL

namespace DL
open PySem L2
section
variable {X : Cx} {tg : Expr}
theorem de_lc {elt iter : Expr} {ifs : List Expr} {scope : Scope} {own : List (Str × Nat)} {pos : Pos} {wi : TI} {g : TG} {tt : TT} {te : TE} {t : TSrcC} {gd : TGd} {dt : TB} {de : TD} (hc : X.calm = true) (hN : X.N.Nodup)
    (hi : DIc X tg iter wi t) (ok : BlkOk X.N X.env.scope scope own)
    (hg : ∀ (s : Shared) (H : Hp) (C : Addr) (cl : List (Str × Addr)) (fp : List Addr), DG (X.blk s H scope (compEnvC scope cl C X.env) fp) tg (own.map (·.2)) g gd)
    (ht : ∀ (s : Shared) (H : Hp) (C : Addr) (cl : List (Str × Addr)) (fp : List Addr), DTs (X.blk s H scope (compEnvC scope cl C X.env) fp) ifs tt dt)
    (he : ∀ (s : Shared) (H : Hp) (C : Addr) (cl : List (Str × Addr)) (fp : List Addr), DE (X.blk s H scope (compEnvC scope cl C X.env) fp) elt te de) (hs : ∀ x, foldedSetIterable iter X.env x = pure x := by intro _; rfl) :
    DE X (.ListComp elt [⟨tg, iter, ifs, 0⟩] scope pos) (tLc wi g tt te (own.map (·.2))) (dLc t gd dt de (own.map (·.2))) :=
  ⟨pe_lc hc hN hi.pe ok (fun s H C cl fp => (hg s H C cl fp).pe) (fun s H C cl fp => (ht s H C cl fp).pe) (fun s H C cl fp => (he s H C cl fp).pe) hs, fun R q k => sem_lc hi hg ht he X.s_0 R q k⟩
/-! ### calls of own defs -/
inductive AOp where
  | val (d : D)
  | bor (i : Nat)
def ADen (K : PySem.W.Frag) (F : Hp) (σ : L2.St) (v : V) : AOp → Prop
  | .val d => Den K F v d
  | .bor i => σ[i]? = some (some v)
inductive ADens (K : PySem.W.Frag) (F : Hp) (σ : L2.St) : List V → List AOp → Prop
  | nil : ADens K F σ [] []
  | cons {v : V} {vs : List V} {o : AOp} {os : List AOp} : ADen K F σ v o → ADens K F σ vs os → ADens K F σ (v :: vs) (o :: os)
abbrev TAg := SL → (List AOp → SL → Prop) → Prop
structure DAg (X : Cx) (es : List Expr) (ta : TA) (t : TAg) : Prop where
  pe : PA X es ta
  sem : ∀ {G : Cd} {σ : L2.St} {H F : Hp} {ρ : SL} {Q : List V → Hp → Prop} {Qd : List AOp → SL → Prop}, Rep X.K G σ H F ρ → t ρ Qd →
    (∀ os ρ' vs H' F', Qd os ρ' → Same F F' → Rep X.K G σ H' F' ρ' → ADens X.K F' σ vs os → Q vs H') → ta σ H Q
def agNil : TAg := fun ρ Q => Q [] ρ
def agVal (t : TD) (u : TAg) : TAg := fun ρ Q => t ρ fun r ρ1 => u ρ1 fun os ρ2 => Q (.val r.dat :: os) ρ2
def agBor (i : Nat) (u : TAg) : TAg := fun ρ Q => (match ρ[i]? with | some s => s.cn.isSome = true | none => False) ∧ u ρ fun os ρ2 => Q (.bor i :: os) ρ2
theorem dag_nil : DAg X [] tNil agNil := ⟨pa_nil, fun R h k => k _ _ _ _ _ h (Same.refl _) R .nil⟩
theorem dag_val {e : Expr} {es : List Expr} {te : TE} {ta : TA} {t : TD} {u : TAg} (h : DE X e te t) (r : DAg X es ta u) (hs : starEach (e :: es) X.env = (false, eval e X.env) :: starEach es X.env := by rfl) :
    DAg X (e :: es) (tCons te ta) (agVal t u) :=
  ⟨pa_cons h.pe r.pe hs, fun R q k => h.sem R q fun o ρ1 v H1 F1 q1 s1 R1 d1 => by
    obtain ⟨F1', s1', R1', d1'⟩ := R1.share d1
    exact r.sem R1' q1 fun os ρ2 vs H2 F2 q2 s2 R2 d2 => k _ _ _ _ _ q2 (s1.trans (s1'.trans s2)) R2 (.cons (d1'.mono s2) d2)⟩
theorem dag_bor {i : Nat} {x : Str} {pos : Pos} {es : List Expr} {ta : TA} {u : TAg} (h : PE X (.Name x pos) (tVar i)) (r : DAg X es ta u) (hs : starEach (.Name x pos :: es) X.env = (false, eval (.Name x pos) X.env) :: starEach es X.env := by rfl) :
    DAg X (.Name x pos :: es) (tCons (tVar i) ta) (agBor i u) :=
  ⟨pa_cons h r.pe hs, fun {G σ H F ρ Q Qd} R q k => by
    obtain ⟨q1, q2⟩ := q
    cases e : ρ[i]? with
    | none => rw [e] at q1; exact q1.elim
    | some s =>
      rw [e] at q1
      cases ec : s.cn with
      | none => simp [ec] at q1
      | some c =>
        obtain ⟨p, a, _⟩ := R.owned e ec
        exact ⟨.ref p, a, r.sem R q2 fun os ρ2 vs H2 F2 q3 s2 R2 d2 => k _ _ _ _ _ q3 s2 R2 (.cons a d2)⟩⟩
/-- the callee's slots: j is the first argument's place -/
def mkArgs (ρ : SL) : Nat → List AOp → Option SL
  | _, [] => some []
  | j, .val d :: r => (mkArgs ρ (j + 1) r).map fun l => .sh d :: l
  | j, .bor i :: r => match ρ[i]? with
    | some s => match s.cn with
      | some c => (mkArgs ρ (j + 1) r).map fun l => .bw j c :: l
      | none => none
    | none => none
def bors : List AOp → List Nat
  | [] => []
  | .val _ :: r => bors r
  | .bor i :: r => i :: bors r
/-- behind the call: what was lent comes back -/
def giveB (ρ0 : SL) : Nat → SL → List AOp → SL → Option SL
  | _, ρ, [], _ => some ρ
  | j, ρ, .val _ :: as, _ :: outs => giveB ρ0 (j + 1) ρ as outs
  | j, ρ, .bor i :: as, .bw k c :: outs => if k = j then match ρ0[i]? with
      | some s => giveB ρ0 (j + 1) (ρ.set i (s.with c)) as outs
      | none => none
    else none
  | _, _, _, _ => none
abbrev SpD := SL → (Rv → SL → Prop) → Prop
/-- a promise over data, as one over the heap -/
def lift (K : PySem.W.Frag) (sp : SpD) : Sp := fun vs H Q _ => ∃ (b : Nat → Option Addr) (F : Hp) (as : SL) (Qd : Rv → SL → Prop), Rep K ⟨b, fun _ => False, H, F⟩ (vs.map some) H F as ∧ sp as Qd ∧
  ∀ r outs σ' v H' F', Qd r outs → Rep K ⟨b, fun _ => False, H, F⟩ σ' H' F' outs → RDen K ⟨b, fun _ => False, H, F⟩ σ' outs H' F' v r → Q v H'
def dCall (sp : SpD) (t : TAg) : TD := fun ρ Q => t ρ fun os ρ1 => ∃ sl, mkArgs ρ1 0 os = some sl ∧ (bors os).Nodup ∧ sp sl fun r outs => ∃ ρ2, giveB ρ1 0 (wipeD ρ1 (bors os)) os outs = some ρ2 ∧ Q r ρ2
end
section
variable {K : PySem.W.Frag} {G : Cd} {σ : L2.St} {H F : Hp} {ρ : SL}
/-- where the arguments that are lent stand -/
def bOf' (σ : L2.St) (os : List AOp) (j : Nat) : Option Addr := match os[j]? with
  | some (.bor i) => match σ[i]? with
    | some (some (.ref p)) => some p
    | _ => none
  | _ => none
theorem mkArgs_get : ∀ {os : List AOp} {j : Nat} {sl : SL}, mkArgs ρ j os = some sl → sl.length = os.length ∧ ∀ (k : Nat) (s : Sl), sl[k]? = some s →
    (∃ d, os[k]? = some (.val d) ∧ s = .sh d) ∨ ∃ i s' c, os[k]? = some (.bor i) ∧ ρ[i]? = some s' ∧ s'.cn = some c ∧ s = .bw (j + k) c
  | [], j, sl, h => by
    cases h
    exact ⟨rfl, fun k s e => by simp at e⟩
  | .val d :: r, j, sl, h => by
    unfold mkArgs at h
    cases q : mkArgs ρ (j + 1) r with
    | none => rw [q] at h; cases h
    | some l =>
      rw [q] at h
      cases h
      obtain ⟨h1, h2⟩ := mkArgs_get q
      refine ⟨by rw [List.length_cons, List.length_cons, h1], fun k s e => ?_⟩
      cases k with
      | zero => cases e; exact .inl ⟨d, rfl, rfl⟩
      | succ k =>
        rcases h2 k s e with z | ⟨i, s', c, z1, z2, z3, z4⟩
        · exact .inl z
        · exact .inr ⟨i, s', c, z1, z2, z3, by rw [z4]; congr 1; omega⟩
  | .bor i :: r, j, sl, h => by
    unfold mkArgs at h
    cases q0 : ρ[i]? with
    | none => rw [q0] at h; cases h
    | some s' =>
      rw [q0] at h
      cases q1 : s'.cn with
      | none => simp only [q1] at h; cases h
      | some c =>
        simp only [q1] at h
        cases q : mkArgs ρ (j + 1) r with
        | none => rw [q] at h; cases h
        | some l =>
          rw [q] at h
          cases h
          obtain ⟨h1, h2⟩ := mkArgs_get q
          refine ⟨by rw [List.length_cons, List.length_cons, h1], fun k s e => ?_⟩
          cases k with
          | zero => cases e; exact .inr ⟨i, s', c, rfl, q0, q1, rfl⟩
          | succ k =>
            rcases h2 k s e with z | ⟨i2, s2, c2, z1, z2, z3, z4⟩
            · exact .inl z
            · exact .inr ⟨i2, s2, c2, z1, z2, z3, by rw [z4]; congr 1; omega⟩
theorem ADens.get {vs : List V} {os : List AOp} (h : ADens K F σ vs os) : vs.length = os.length ∧ ∀ (k : Nat) (o : AOp), os[k]? = some o → ∃ v, vs[k]? = some v ∧ ADen K F σ v o := by
  induction h with
  | nil => exact ⟨rfl, fun k o e => by simp at e⟩
  | @cons v vs o os a b ih =>
    refine ⟨by rw [List.length_cons, List.length_cons, ih.1], fun k o' e => ?_⟩
    cases k with
    | zero => cases e; exact ⟨v, rfl, a⟩
    | succ k => exact ih.2 k o' e
theorem mem_bors : ∀ {os : List AOp} {k i : Nat}, os[k]? = some (.bor i) → i ∈ bors os
  | [], k, i, h => by simp at h
  | .val d :: r, 0, i, h => by cases h
  | .val d :: r, k + 1, i, h => mem_bors (os := r) h
  | .bor j :: r, 0, i, h => by cases h; exact List.mem_cons_self
  | .bor j :: r, k + 1, i, h => List.mem_cons_of_mem _ (mem_bors (os := r) h)
theorem bors_get : ∀ {os : List AOp} {i : Nat}, i ∈ bors os → ∃ k : Nat, os[k]? = some (.bor i)
  | [], i, h => by simp [bors] at h
  | .val d :: r, i, h => by
    obtain ⟨k, e⟩ := bors_get (os := r) h
    exact ⟨k + 1, e⟩
  | .bor j :: r, i, h => by
    rcases List.mem_cons.mp h with rfl | h
    · exact ⟨0, rfl⟩
    · obtain ⟨k, e⟩ := bors_get (os := r) h
      exact ⟨k + 1, e⟩
theorem bors_inj : ∀ {os : List AOp} {k l i : Nat}, (bors os).Nodup → os[k]? = some (.bor i) → os[l]? = some (.bor i) → k = l
  | [], k, l, i, _, h, _ => by simp at h
  | .val d :: r, k, l, i, hn, h1, h2 => by
    cases k with
    | zero => cases h1
    | succ k =>
      cases l with
      | zero => cases h2
      | succ l => rw [bors_inj (os := r) hn h1 h2]
  | .bor j :: r, k, l, i, hn, h1, h2 => by
    have hn' := List.nodup_cons.mp hn
    cases k with
    | zero =>
      cases h1
      cases l with
      | zero => rfl
      | succ l => exact (hn'.1 (mem_bors (os := r) h2)).elim
    | succ k =>
      cases l with
      | zero => cases h2; exact (hn'.1 (mem_bors (os := r) h1)).elim
      | succ l => rw [bors_inj (os := r) hn'.2 h1 h2]
theorem Rep.toCall (R : Rep K G σ H F ρ) {vs : List V} {os : List AOp} {sl : SL} (h : ADens K F σ vs os) (hm : mkArgs ρ 0 os = some sl) (hn : (bors os).Nodup) :
    Rep K ⟨bOf' σ os, fun _ => False, H, F⟩ (vs.map some) H F sl := by
  obtain ⟨l1, g1⟩ := mkArgs_get hm
  obtain ⟨l2, g2⟩ := h.get
  have bw : ∀ (k j : Nat) (c : Cn), sl[k]? = some (.bw j c) → ∃ i s' p, j = k ∧ os[k]? = some (.bor i) ∧ ρ[i]? = some s' ∧ s'.cn = some c ∧ σ[i]? = some (some (.ref p)) ∧ (vs.map some)[k]? = some (some (.ref p)) ∧ Has K F H p c ∧ F p = none ∧ bOf' σ os k = some p := by
    intro k j c e
    rcases g1 k _ e with ⟨d, _, z⟩ | ⟨i, s', c', z1, z2, z3, z4⟩
    · cases z
    · cases z4
      obtain ⟨p, a1, a2, a3⟩ := R.owned z2 z3
      obtain ⟨v, e1, e2⟩ := g2 k _ z1
      have e2' : σ[i]? = some (some v) := e2
      rw [a1] at e2'; cases e2'
      refine ⟨i, s', p, by omega, z1, z2, z3, a1, by rw [List.getElem?_map, e1]; rfl, a2, a3, ?_⟩
      simp only [bOf', z1, a1]
  refine ⟨by rw [List.length_map, l1, l2], R.ext, fun k d e => ?_, fun k c e => ?_, fun k j c e => ?_, fun k l s t c c' p e1 e2 h1 h2 h3 h4 => ?_, Same.refl F, fun a o e => .inl e, fun a o e _ _ => e, fun a o e => ⟨o, e⟩, fun j p e => ?_, fun _ _ z => z.elim, ?_⟩
  · rcases g1 k _ e with ⟨d', z1, z⟩ | ⟨i, s', c', z1, z2, z3, z4⟩
    · cases z
      obtain ⟨v, e1, e2⟩ := g2 k _ z1
      exact ⟨v, by rw [List.getElem?_map, e1]; rfl, e2⟩
    · cases z4
  · rcases g1 k _ e with ⟨d', z1, z⟩ | ⟨i, s', c', z1, z2, z3, z4⟩
    · cases z
    · cases z4
  · obtain ⟨i, s', p, rfl, _, _, _, _, e1, e2, e3, e4⟩ := bw k j c e
    exact ⟨p, e1, e2, e3, e4⟩
  · have own : ∀ (k : Nat) (s : Sl) (c : Cn), sl[k]? = some s → s.cn = some c → ∃ j, s = .bw j c := fun k s c e h => by
      rcases g1 k _ e with ⟨d', z1, z⟩ | ⟨i, s', c', z1, z2, z3, z4⟩
      · subst z; cases h
      · subst z4; cases h; exact ⟨_, rfl⟩
    obtain ⟨j1, rfl⟩ := own k s c e1 h1
    obtain ⟨j2, rfl⟩ := own l t c' e2 h2
    obtain ⟨i1, s1, p1, _, o1, r1, c1, σ1, v1, _⟩ := bw k j1 c e1
    obtain ⟨i2, s2, p2, _, o2, r2, c2, σ2, v2, _⟩ := bw l j2 c' e2
    rw [h3] at v1; cases v1
    rw [h4] at v2; cases v2
    have := R.sep i1 i2 s1 s2 c c' p r1 r2 c1 c2 σ1 σ2
    subst this
    exact bors_inj hn o1 o2
  · have e' : bOf' σ os j = some p := e
    unfold bOf' at e'
    split at e'
    · rename_i i hi
      split at e'
      · rename_i q hq
        cases e'
        -- the slot is owned
        have hj : j < os.length := (List.getElem?_eq_some_iff.mp hi).1
        rw [← l1] at hj
        rcases g1 j _ (List.getElem?_eq_getElem hj) with ⟨d', z1, z⟩ | ⟨i', s', c', z1, z2, z3, z4⟩
        · rw [hi] at z1; cases z1
        · rw [hi] at z1; cases z1
          obtain ⟨p', a1, a2, a3⟩ := R.owned z2 z3
          rw [hq] at a1; cases a1
          exact a2.ex
      · cases e'
    · cases e'
  · have no : ∀ (i : Nat) (hs : List (Addr × Cn)), sl[i]? ≠ some (.pl hs) := fun i hs e => by
      rcases g1 i _ e with ⟨d', z1, z⟩ | ⟨i', s', c', z1, z2, z3, z4⟩
      · cases z
      · cases z4
    exact ⟨fun i hs e => (no i hs e).elim, fun i hs p c e => (no i hs e).elim, fun i hs p c e => (no i hs e).elim, fun i j hs hs' p c c' e => (no i hs e).elim⟩
/-- behind the call, what was not lent -/
theorem Rep.behind (R : Rep K G σ H F ρ) {vs : List V} {os : List AOp} {σ' : L2.St} {H' F' : Hp} {sl outs : SL} (hd : ADens K F σ vs os) (hm : mkArgs ρ 0 os = some sl) (R' : Rep K ⟨bOf' σ os, fun _ => False, H, F⟩ σ' H' F' outs) : Rep K G σ H' F' (wipeD ρ (bors os)) := by
  have lt : ∀ (j : Nat) (p : Addr), bOf' σ os j = some p → ∃ i s c, i ∈ bors os ∧ ρ[i]? = some s ∧ s.cn = some c ∧ σ[i]? = some (some (.ref p)) := by
    intro j p e
    unfold bOf' at e
    split at e
    · rename_i i hi
      split at e
      · rename_i q hq
        cases e
        obtain ⟨l1, g1⟩ := mkArgs_get hm
        have hj : j < os.length := (List.getElem?_eq_some_iff.mp hi).1
        rw [← l1] at hj
        rcases g1 j _ (List.getElem?_eq_getElem hj) with ⟨d', z1, z⟩ | ⟨i', s', c', z1, z2, z3, z4⟩
        · rw [hi] at z1; cases z1
        · rw [hi] at z1; cases z1
          exact ⟨i, s', c', mem_bors hi, z2, z3, hq⟩
      · cases e
    · cases e
  have nb : ∀ (i : Nat) (s : Sl) (c : Cn) (p : Addr), ρ[i]? = some s → s.cn = some c → σ[i]? = some (some (.ref p)) → i ∉ bors os → ∀ j, bOf' σ os j ≠ some p := by
    intro i s c p e1 e2 e3 hi j e
    obtain ⟨i2, s2, c2, m, a1, a2, a3⟩ := lt j p e
    have := R.sep i i2 s s2 c c2 p e1 a1 e2 a2 e3 a3
    subst this
    exact hi m
  have kp : ∀ (i : Nat) (s : Sl) (c : Cn) (p : Addr), ρ[i]? = some s → s.cn = some c → σ[i]? = some (some (.ref p)) → i ∉ bors os → Has K F H p c → F p = none → Has K F' H' p c ∧ F' p = none := by
    intro i s c p e1 e2 e3 hi hh hF
    obtain ⟨o, ho⟩ := hh.ex
    have k1 := R'.keep p o ho (fun z => z) (nb i s c p e1 e2 e3 hi)
    refine ⟨(hh.mono R'.fr0).at (k1.trans ho.symm), ?_⟩
    cases q : F' p with
    | none => rfl
    | some u =>
      rcases R'.new p u q with z | z | z
      · have z' : F p = some u := z
        rw [hF] at z'; cases z'
      · have z' : H p = none := z
        rw [ho] at z'; cases z'
      · exact (show False from z).elim
  refine ⟨by rw [wipeD_length]; exact R.len, R'.ext, fun i d e => ?_, fun i c e => ?_, fun i j c e => ?_, fun i j s t c c' p e1 e2 h1 h2 h3 h4 => ?_, R.fr0.trans R'.fr0, fun a o e => ?_, fun a o e nl nb2 => ?_, fun a o e => ?_, R.bd, R.lb, R.pl.to (fun i hs e => ?_) (fun j s c' q e1 e2 e3 => ?_) fun i hs p c e m a b d => ?_⟩
  · rcases wipeD_get e with z | ⟨z, w⟩
    · cases z
    · obtain ⟨v, a, b⟩ := R.sh i d z; exact ⟨v, a, b.mono R'.fr0⟩
  · rcases wipeD_get e with z | ⟨z, w⟩
    · cases z
    · obtain ⟨p, a, b, e2, e3⟩ := R.ow i c z
      obtain ⟨k1, k2⟩ := kp i _ c p z rfl a w b e2
      exact ⟨p, a, k1, k2, e3⟩
  · rcases wipeD_get e with z | ⟨z, w⟩
    · cases z
    · obtain ⟨p, a, b, e2, e3⟩ := R.bw i j c z
      obtain ⟨k1, k2⟩ := kp i _ c p z rfl a w b e2
      exact ⟨p, a, k1, k2, e3⟩
  · rcases wipeD_get e1 with z | ⟨z, _⟩
    · subst z; cases h1
    · rcases wipeD_get e2 with z2 | ⟨z2, _⟩
      · subst z2; cases h2
      · exact R.sep i j s t c c' p z z2 h1 h2 h3 h4
  · rcases R'.new a o e with z | z | z
    · exact R.new a o z
    · exact .inr (.inl (R.fresh z).2)
    · exact (show False from z).elim
  · refine R'.keep a o (R.keep a o e nl nb2) (fun z => z) fun j z => ?_
    obtain ⟨i2, s2, c2, m, a1, a2, a3⟩ := lt j a z
    cases s2 with
    | un => cases a2
    | pl _ => cases a2
    | sh d => cases a2
    | ow c3 =>
      obtain ⟨q, b1, _, _, b4⟩ := R.ow i2 c3 a1
      rw [a3] at b1; cases b1
      rcases b4 with b4 | b4
      · rw [e] at b4; cases b4
      · exact nl b4
    | bw k c3 =>
      obtain ⟨q, b1, _, _, b4⟩ := R.bw i2 k c3 a1
      rw [a3] at b1; cases b1
      exact nb2 k b4
  · obtain ⟨o', k1⟩ := R.dom a o e
    exact R'.dom a o' k1
  · rcases wipeD_get e with z | ⟨z, _⟩
    · cases z
    · exact z
  · rcases wipeD_get e1 with z | ⟨z, _⟩
    · subst z; cases e2
    · exact .inl ⟨s, c', z, e2, e3⟩
  · have e' : ρ[i]? = some (.pl hs) := by
      rcases wipeD_get e with z | ⟨z, _⟩
      · cases z
      · exact z
    obtain ⟨o, ho⟩ := a.ex
    have k1 := R'.keep p o ho (fun z => z) fun j z => by
      obtain ⟨i2, s2, c2, _, a1, a2, a3⟩ := lt j p z
      exact R.pl.own i hs p c e' m i2 s2 c2 a1 a2 a3
    refine ⟨(a.mono R'.fr0).at (k1.trans ho.symm), ?_, d⟩
    cases q : F' p with
    | none => rfl
    | some u =>
      rcases R'.new p u q with z | z | z
      · have z' : F p = some u := z
        rw [b] at z'; cases z'
      · have z' : H p = none := z
        rw [ho] at z'; cases z'
      · exact (show False from z).elim
theorem Rep.give {H' F' : Hp} {ρ' : SL} {i : Nat} {s : Sl} {c0 c : Cn} {p : Addr} (R : Rep K G σ H F ρ) (R' : Rep K G σ H' F' ρ') (hs : ρ[i]? = some s) (hc : s.cn = some c0) (hp : σ[i]? = some (some (.ref p))) (hh : Has K F' H' p c) (hF : F' p = none)
    (hn : Lone σ ρ' p) : Rep K G σ H' F' (ρ'.set i (s.with c)) where
  len := by rw [List.length_set]; exact R'.len
  ext := R'.ext
  sh := fun j d e => by
    rcases set_get e with ⟨_, q⟩ | ⟨_, q⟩
    · have q2 := congrArg Sl.cn q
      rw [Sl.with_cn hc] at q2; cases q2
    · exact R'.sh j d q
  ow := fun j c1 e => by
    rcases set_get e with ⟨rfl, q⟩ | ⟨_, q⟩
    · cases s with
      | un => cases hc
      | pl _ => cases hc
      | sh d => cases hc
      | bw k c2 => exact nomatch (show Sl.ow c1 = Sl.bw k c from q)
      | ow c2 =>
        have q : Sl.ow c1 = Sl.ow c := q
        cases q
        obtain ⟨q, a1, _, _, a4⟩ := R.ow j c2 hs
        rw [hp] at a1; cases a1
        exact ⟨p, hp, hh, hF, a4⟩
    · exact R'.ow j c1 q
  bw := fun j k c1 e => by
    rcases set_get e with ⟨rfl, q⟩ | ⟨_, q⟩
    · cases s with
      | un => cases hc
      | pl _ => cases hc
      | sh d => cases hc
      | ow c2 => exact nomatch (show Sl.bw k c1 = Sl.ow c from q)
      | bw k2 c2 =>
        have q : Sl.bw k c1 = Sl.bw k2 c := q
        cases q
        obtain ⟨q, a1, _, _, a4⟩ := R.bw j k c2 hs
        rw [hp] at a1; cases a1
        exact ⟨p, hp, hh, hF, a4⟩
    · exact R'.bw j k c1 q
  sep := fun j k t u c1 c2 q e1 e2 h1 h2 h3 h4 => by
    rcases set_get e1 with ⟨rfl, q1⟩ | ⟨ne, q1⟩
    · rcases set_get e2 with ⟨rfl, q2⟩ | ⟨ne2, q2⟩
      · rfl
      · rw [hp] at h3; cases h3
        exact absurd h4 (hn.1 k u c2 q2 h2)
    · rcases set_get e2 with ⟨rfl, q2⟩ | ⟨ne2, q2⟩
      · rw [hp] at h4; cases h4
        exact absurd h3 (hn.1 j t c1 q1 h1)
      · exact R'.sep j k t u c1 c2 q q1 q2 h1 h2 h3 h4
  fr0 := R'.fr0
  new := R'.new
  keep := R'.keep
  dom := R'.dom
  bd := R'.bd
  lb := R'.lb
  pl := R'.pl.to (fun j hs e => by
    rcases set_get e with ⟨_, q⟩ | ⟨_, q⟩
    · have q2 := congrArg Sl.cn q
      rw [Sl.with_cn hc] at q2; cases q2
    · exact q) (fun j t c' q e1 e2 e3 => by
    rcases set_get e1 with ⟨rfl, q1⟩ | ⟨ne, q1⟩
    · rw [hp] at e3; cases e3
      exact .inr fun i2 hs c2 e4 => hn.2 i2 hs c2 e4
    · exact .inl ⟨t, c', q1, e2, e3⟩) fun i hs q c e m a b d => ⟨a, b, d⟩
theorem Rep.gives (R : Rep K G σ H F ρ) {H' F' : Hp} {σ' : L2.St} {oouts : SL} {b : Nat → Option Addr} (RC : Rep K ⟨b, fun _ => False, H, F⟩ σ' H' F' oouts) :
    ∀ {os : List AOp} {outs : SL} {j : Nat} {ρ' ρ2 : SL}, giveB ρ j ρ' os outs = some ρ2 → (∀ (k : Nat) (s : Sl), outs[k]? = some s → oouts[j + k]? = some s) → (∀ (k i : Nat) (p : Addr), os[k]? = some (.bor i) → b (j + k) = some p → σ[i]? = some (some (.ref p))) →
      (∀ (k i : Nat), os[k]? = some (.bor i) → ∃ s c, ρ[i]? = some s ∧ s.cn = some c) → (bors os).Nodup → Rep K G σ H' F' ρ' → (∀ (k : Nat) (s : Sl) (c : Cn), ρ'[k]? = some s → s.cn = some c → k ∉ bors os ∧ ∃ s0 c0, ρ[k]? = some s0 ∧ s0.cn = some c0) → (∀ (k : Nat) (hs : List (Addr × Cn)), ρ'[k]? = some (.pl hs) → ρ[k]? = some (.pl hs)) →
      Rep K G σ H' F' ρ2
  | [], outs, j, ρ', ρ2, h, _, _, _, _, R', _, _ => by
    unfold giveB at h
    cases h; exact R'
  | .val d :: os, [], j, ρ', ρ2, h, _, _, _, _, _, _, _ => by simp [giveB] at h
  | .val d :: os, o :: outs, j, ρ', ρ2, h, ho, hb, hs, hn, R', hk, hq => by
    unfold giveB at h
    refine Rep.gives R RC (j := j + 1) h (fun k s e => by have := ho (k + 1) s e; rw [show j + (k + 1) = j + 1 + k by omega] at this; exact this) (fun k i p e1 e2 => hb (k + 1) i p e1 (by rw [show j + (k + 1) = j + 1 + k by omega]; exact e2)) (fun k i e => hs (k + 1) i e) hn R' hk hq
  | .bor i :: os, [], j, ρ', ρ2, h, _, _, _, _, _, _, _ => by simp [giveB] at h
  | .bor i :: os, .un :: outs, j, ρ', ρ2, h, _, _, _, _, _, _, _ => by simp [giveB] at h
  | .bor i :: os, .sh _ :: outs, j, ρ', ρ2, h, _, _, _, _, _, _, _ => by simp [giveB] at h
  | .bor i :: os, .ow _ :: outs, j, ρ', ρ2, h, _, _, _, _, _, _, _ => by simp [giveB] at h
  | .bor i :: os, .pl _ :: outs, j, ρ', ρ2, h, _, _, _, _, _, _, _ => by simp [giveB] at h
  | .bor i :: os, .bw k c :: outs, j, ρ', ρ2, h, ho, hb, hs, hn, R', hk, hq => by
    unfold giveB at h
    by_cases hkj : k = j
    · subst hkj
      rw [if_pos rfl] at h
      obtain ⟨s, c0, e1, e2⟩ := hs 0 i rfl
      rw [e1] at h
      have eo := ho 0 _ rfl
      obtain ⟨p, a1, a2, a3, a4⟩ := RC.bw (k + 0) k c eo
      have a4' : b (k + 0) = some p := a4
      have hp := hb 0 i p rfl a4'
      have hn' := List.nodup_cons.mp hn
      have R2 := R.give (c := c) R' e1 e2 hp a2 a3 ⟨fun l t c1 e3 e4 e5 => by
        obtain ⟨m1, s0, c2, e6, e7⟩ := hk l t c1 e3 e4
        have := R.sep l i s0 s c2 c0 p e6 e1 e7 e2 e5 hp
        subst this
        exact m1 List.mem_cons_self, fun l hs2 c2 e3 m => R.pl.own l hs2 p c2 (hq l hs2 e3) m i s c0 e1 e2 hp⟩
      refine Rep.gives R RC (j := k + 1) h (fun l s e => by have := ho (l + 1) s e; rw [show k + (l + 1) = k + 1 + l by omega] at this; exact this) (fun l i p e1 e2 => hb (l + 1) i p e1 (by rw [show k + (l + 1) = k + 1 + l by omega]; exact e2)) (fun l i e => hs (l + 1) i e) hn'.2 R2 (fun l t c1 e3 e4 => ?_) fun l hs2 e3 => ?_
      · rcases set_get e3 with ⟨rfl, q⟩ | ⟨ne, q⟩
        · exact ⟨hn'.1, s, c0, e1, e2⟩
        · obtain ⟨m1, m2⟩ := hk l t c1 q e4
          exact ⟨fun z => m1 (List.mem_cons_of_mem _ z), m2⟩
      · rcases set_get e3 with ⟨_, q⟩ | ⟨_, q⟩
        · have q2 := congrArg Sl.cn q
          rw [Sl.with_cn e2] at q2; cases q2
        · exact hq l hs2 q
    · rw [if_neg hkj] at h; cases h
theorem giveB_owned : ∀ {os : List AOp} {outs : SL} {j : Nat} {ρ' ρ2 : SL}, giveB ρ j ρ' os outs = some ρ2 → ∀ (k : Nat) (s : Sl) (c : Cn), ρ2[k]? = some s → s.cn = some c → (∃ c', ρ'[k]? = some s ∨ (∃ s0, ρ[k]? = some s0 ∧ s = s0.with c')) 
  | [], outs, j, ρ', ρ2, h, k, s, c, e, hc => by
    unfold giveB at h
    cases h; exact ⟨c, .inl e⟩
  | .val d :: os, [], j, ρ', ρ2, h, _, _, _, _, _ => by simp [giveB] at h
  | .val d :: os, o :: outs, j, ρ', ρ2, h, k, s, c, e, hc => by
    unfold giveB at h
    exact giveB_owned h k s c e hc
  | .bor i :: os, [], j, ρ', ρ2, h, _, _, _, _, _ => by simp [giveB] at h
  | .bor i :: os, .un :: outs, j, ρ', ρ2, h, _, _, _, _, _ => by simp [giveB] at h
  | .bor i :: os, .sh _ :: outs, j, ρ', ρ2, h, _, _, _, _, _ => by simp [giveB] at h
  | .bor i :: os, .ow _ :: outs, j, ρ', ρ2, h, _, _, _, _, _ => by simp [giveB] at h
  | .bor i :: os, .pl _ :: outs, j, ρ', ρ2, h, _, _, _, _, _ => by simp [giveB] at h
  | .bor i :: os, .bw l c1 :: outs, j, ρ', ρ2, h, k, s, c, e, hc => by
    unfold giveB at h
    by_cases hkj : l = j
    · rw [if_pos hkj] at h
      cases q : ρ[i]? with
      | none => rw [q] at h; cases h
      | some s0 =>
        rw [q] at h
        obtain ⟨c', z | z⟩ := giveB_owned h k s c e hc
        · rcases set_get z with ⟨rfl, w⟩ | ⟨ne, w⟩
          · exact ⟨c1, .inr ⟨s0, q, w⟩⟩
          · exact ⟨c, .inl w⟩
        · exact ⟨c', .inr z⟩
    · rw [if_neg hkj] at h; cases h
theorem giveB_pl : ∀ {os : List AOp} {outs : SL} {j : Nat} {ρ' ρ2 : SL}, giveB ρ j ρ' os outs = some ρ2 → (∀ i, i ∈ bors os → ∃ s c, ρ[i]? = some s ∧ s.cn = some c) → ∀ (k : Nat) (hs : List (Addr × Cn)), ρ2[k]? = some (.pl hs) → ρ'[k]? = some (.pl hs)
  | [], outs, j, ρ', ρ2, h, _, k, hs, e => by
    unfold giveB at h
    cases h; exact e
  | .val d :: os, [], j, ρ', ρ2, h, _, _, _, _ => by simp [giveB] at h
  | .val d :: os, o :: outs, j, ρ', ρ2, h, hb, k, hs, e => by
    unfold giveB at h
    exact giveB_pl (os := os) h hb k hs e
  | .bor i :: os, [], j, ρ', ρ2, h, _, _, _, _ => by simp [giveB] at h
  | .bor i :: os, .un :: outs, j, ρ', ρ2, h, _, _, _, _ => by simp [giveB] at h
  | .bor i :: os, .sh _ :: outs, j, ρ', ρ2, h, _, _, _, _ => by simp [giveB] at h
  | .bor i :: os, .ow _ :: outs, j, ρ', ρ2, h, _, _, _, _ => by simp [giveB] at h
  | .bor i :: os, .pl _ :: outs, j, ρ', ρ2, h, _, _, _, _ => by simp [giveB] at h
  | .bor i :: os, .bw l c1 :: outs, j, ρ', ρ2, h, hb, k, hs, e => by
    unfold giveB at h
    by_cases hkj : l = j
    · rw [if_pos hkj] at h
      obtain ⟨s0, c0, q, hc⟩ := hb i List.mem_cons_self
      rw [q] at h
      have := giveB_pl (os := os) h (fun i2 m => hb i2 (List.mem_cons_of_mem _ m)) k hs e
      rcases set_get this with ⟨_, w⟩ | ⟨_, w⟩
      · have q2 := congrArg Sl.cn w
        rw [Sl.with_cn hc] at q2; cases q2
      · exact w
    · rw [if_neg hkj] at h; cases h
theorem Sl.cn_with {s : Sl} {c c' : Cn} (h : (s.with c').cn = some c) : ∃ c0, s.cn = some c0 := by
  cases s with
  | un => cases h
  | pl _ => cases h
  | sh d => cases h
  | ow c => exact ⟨_, rfl⟩
  | bw j c => exact ⟨_, rfl⟩
end
section
variable {X : Cx}
/-- a call's reading, whatever calls -/
theorem sem_args {sp : SpD} {vs : List V} {os : List AOp} {G : Cd} {σ : L2.St} {H F : Hp} {ρ : SL} {Q : VK} {E : XK} {Qd : Rv → SL → Prop} (R : Rep X.K G σ H F ρ) (d : ADens X.K F σ vs os)
    (q : ∃ sl, mkArgs ρ 0 os = some sl ∧ (bors os).Nodup ∧ sp sl fun r outs => ∃ ρ2, giveB ρ 0 (wipeD ρ (bors os)) os outs = some ρ2 ∧ Qd r ρ2)
    (k : ∀ r ρ' v H' F', Qd r ρ' → Same F F' → Rep X.K G σ H' F' ρ' → RDen X.K G σ ρ' H' F' v r → Q v H') : lift X.K sp vs H Q E := by
  obtain ⟨sl, hm, hn, q⟩ := q
  refine ⟨bOf' σ os, F, sl, _, R.toCall d hm hn, q, fun r outs σ' v H' F' ⟨ρ2, hb, qd⟩ R' rd => ?_⟩
  have RB := R.behind d hm R'
  have own : ∀ (k i : Nat), os[k]? = some (.bor i) → ∃ s c, ρ[i]? = some s ∧ s.cn = some c := fun k i e => by
    obtain ⟨l1, g1⟩ := mkArgs_get hm
    have hj : k < os.length := (List.getElem?_eq_some_iff.mp e).1
    rw [← l1] at hj
    rcases g1 k _ (List.getElem?_eq_getElem hj) with ⟨d', z1, z⟩ | ⟨i', s', c', z1, z2, z3, z4⟩
    · rw [e] at z1; cases z1
    · rw [e] at z1; cases z1
      exact ⟨s', c', z2, z3⟩
  have R2 := R.gives R' (j := 0) hb (fun k s e => by rw [Nat.zero_add]; exact e) (fun k i p e1 e2 => by
    rw [Nat.zero_add] at e2
    unfold bOf' at e2
    rw [e1] at e2
    simp only at e2
    split at e2
    · rename_i q hq
      cases e2; exact hq
    · cases e2) own hn RB (fun k s c e hc => by
      rcases wipeD_get e with z | ⟨z, w⟩
      · subst z; cases hc
      · exact ⟨w, s, c, z, hc⟩) fun k hs e => by
      rcases wipeD_get e with z | ⟨z, _⟩
      · cases z
      · exact z
  refine k r ρ2 v H' F' qd R'.fr0 R2 ?_
  have lone : ∀ p, H p = none → Lone σ ρ2 p := fun p hpn => by
    refine ⟨fun i s c' e1 e2 e3 => ?_, fun i hs c' e1 m => ?_⟩
    · obtain ⟨c2, z⟩ := giveB_owned hb i s c' e1 e2
      have : ∃ s0 c0, ρ[i]? = some s0 ∧ s0.cn = some c0 := by
        rcases z with z | ⟨s0, z1, z2⟩
        · rcases wipeD_get z with w | ⟨w, _⟩
          · subst w; cases e2
          · exact ⟨s, c', w, e2⟩
        · subst z2
          obtain ⟨c0, h0⟩ := Sl.cn_with e2
          exact ⟨s0, c0, z1, h0⟩
      obtain ⟨s0, c0, z1, z2⟩ := this
      obtain ⟨p', b1, b2, _⟩ := R.owned z1 z2
      rw [e3] at b1; cases b1
      obtain ⟨o, ho⟩ := b2.ex
      rw [hpn] at ho; cases ho
    · have e2 := giveB_pl hb (fun i2 m2 => by
        obtain ⟨k2, ek⟩ := bors_get m2
        exact own k2 i2 ek) i hs e1
      rcases wipeD_get e2 with z | ⟨z, _⟩
      · cases z
      · obtain ⟨a, _⟩ := R.pl.has i hs p c' z m
        obtain ⟨o, ho⟩ := a.ex
        rw [hpn] at ho; cases ho
  have fresh : ∀ p, (H p = none ∨ False) → H p = none := fun p z => z.elim id False.elim
  cases r with
  | v d => exact rd
  | fr c =>
    obtain ⟨p, e, a1, a2, a3, a4⟩ := rd
    have hpn := fresh p a3
    exact ⟨p, e, a1, a2, .inl (R.fresh hpn).2, lone p hpn⟩
  | pt d hs =>
    obtain ⟨g1, g2, g3⟩ := rd
    refine ⟨g1, g2, fun p c m => ?_⟩
    obtain ⟨a1, a2, a3, _⟩ := g3 p c m
    have hpn := fresh p a3
    exact ⟨a1, a2, .inl (R.fresh hpn).2, lone p hpn⟩
/-- a def's promise, kept where no repr is under way -/
structure FnG (P : Program) (w : World) (K : PySem.W.Frag) (mg : Str → Option Value) (base : Heap) (CX : CXT) (k : Nat) (f : Addr) (fd : FuncData) (ps : List Str) (sp : Sp) : Prop where
  len : ∀ vs H Q E, sp vs H Q E → vs.length = ps.length
  run : ∀ (A : Around) (outer : List Env) (s : Shared) (H : Hp) (args : Args) (us : List Value) (vs : List V) (Q : VK) (E : XK), A.guards = some [] → Room k A → Env0 P w K mg base A outer s H → BindsTo s fd args (ps.zip us) →
    Vals vs us → sp vs H Q E → codeAny (model P w) A (.call (.ref f) args) (CR CX outer P w H s Q E) s
theorem FnG.call {CX : CXT} {k : Nat} {f : Addr} {fd : FuncData} {ps : List Str} {sp : Sp} {E : XK} {pins : List (Addr × Obj)} {σ : L2.St} {H : Hp} {s : Shared} {Q : VK} {us : List Value} {vs : List V}
    (h : FnG X.prog X.w X.K X.mg X.base CX k f fd ps sp) (hgd : X.A.guards = some []) (hr : Room k X.A) (hb : Binds X.K fd ps []) (hx : Passes CX X E) (I : Inv X pins σ H s) (r : Vals vs us) (q : sp vs H Q E) :
    wpAny (model X.prog X.w) X.A (PySem.call (.ref f) us) (EP X pins σ Q) X.xe s := by
  have hl : (us ++ []).length = ps.length := by rw [List.append_nil, ← r.length]; exact h.len _ _ _ _ q
  have bt := hb s us I.kIn hl
  rw [List.append_nil] at bt
  have c := h.run X.A X.stack s H ⟨us, []⟩ us vs Q E hgd hr I.env0 bt r q
  refine wpAny_call (codeAny_mono c fun res s' hq => ?_)
  match res, hq with
  | .error e, hq => exact hx pins σ H s e s' I hq
  | .ok (.ret u), hq => exact I.after hq
  | .ok .next, hq => exact False.elim hq
  | .ok .brk, hq => exact False.elim hq
  | .ok .cont, hq => exact False.elim hq
theorem pe_callG {CX : CXT} {k : Nat} {f : Addr} {fd : FuncData} {ps : List Str} {sp : Sp} {x : Str} {p pos : Pos} {e : Expr} {es : List Expr} {ta : TA} {E : XK} (h : FnG X.prog X.w X.K X.mg X.base CX k f fd ps sp) (hgd : X.A.guards = some []) (hr : Room k X.A)
    (hg : Gl X x) (hm : X.mg x = some (.ref f)) (hk : PySem.W.keepIn X.K (.ref f) = true) (hb : Binds X.K fd ps []) (hx : Passes CX X E) (ha : PA X (e :: es) ta) (hdb : (x == ("__debug__" : Str)) = false := by decide)
    (he : starEach (e :: es) X.env = (false, eval e X.env) :: starEach es X.env := by rfl) (hpl : (backTo pos (starEach es X.env)).any (·.1) = false := by rfl) : PE X (.Call (.Name x p) (e :: es) [] pos) (tCall sp [] E ta) :=
  ⟨fun pins s σ H Q I q => wpAny_Call_Name_kw (ld_glob I hg hm (PySem.W.callWith_K (h₀ := X.base) I.ok.mod.kin hk (thn (ha.run pos pins s σ H _ I q) fun us s1 ⟨vs, H1, I1, r, q1⟩ =>
    ⟨I1.kIn, h.call hgd hr hb hx I1 r (by have q2 : sp (vs ++ []) H1 Q E := q1; rw [List.append_nil] at q2; exact q2)⟩) he hpl) hdb)⟩
theorem de_call {CX : CXT} {k : Nat} {f : Addr} {fd : FuncData} {ps : List Str} {sp : SpD} {x : Str} {p pos : Pos} {e : Expr} {es : List Expr} {ta : TA} {t : TAg} {E : XK} (Fk : FnG X.prog X.w X.K X.mg X.base CX k f fd ps (lift X.K sp)) (hgd : X.A.guards = some []) (hr : Room k X.A)
    (hg : Gl X x) (hm : X.mg x = some (.ref f)) (hk : PySem.W.keepIn X.K (.ref f) = true) (hb : Binds X.K fd ps []) (hx : Passes CX X E) (ha : DAg X (e :: es) ta t) (hdb : (x == ("__debug__" : Str)) = false := by decide)
    (he : starEach (e :: es) X.env = (false, eval e X.env) :: starEach es X.env := by rfl) (hpl : (backTo pos (starEach es X.env)).any (·.1) = false := by rfl) : DE X (.Call (.Name x p) (e :: es) [] pos) (tCall (lift X.K sp) [] E ta) (dCall sp t) :=
  ⟨pe_callG Fk hgd hr hg hm hk hb hx ha.pe hdb he hpl, fun R q kk => ha.sem R q fun os ρ1 vs H1 F1 q1 s1 R1 d1 => by
    rw [List.append_nil]
    exact sem_args R1 d1 q1 fun r ρ' v H' F' qd s2 R2 rd => kk _ _ _ _ _ qd (s1.trans s2) R2 rd⟩
end
/-! ### a def's body keeps its promise -/
def clean : SL → SL := List.map fun s => match s with
  | .bw j c => .bw j c
  | _ => .un
theorem clean_get {ρ : SL} {i : Nat} {s : Sl} (h : (clean ρ)[i]? = some s) : s = .un ∨ ρ[i]? = some s := by
  unfold clean at h
  rw [List.getElem?_map] at h
  cases q : ρ[i]? with
  | none => rw [q] at h; cases h
  | some t =>
    rw [q] at h
    cases t with
    | bw j c => cases h; exact .inr rfl
    | pl _ => cases h; exact .inl rfl
    | un => cases h; exact .inl rfl
    | sh d => cases h; exact .inl rfl
    | ow c => cases h; exact .inl rfl
open PySem.Spec PyProof.Rows in
theorem fnG_of {P : Program} {w : World} {K : PySem.W.Frag} {mg : Str → Option Value} {base : Heap} {x qual : Str} {st : Stmt} {f : Addr} {fd : FuncData} {N ps : List Str} {k : Nat} {sp : Sp} {CX : CXT} (Fn : Fun K x qual st f fd) (S : FnScope N ps (defScope st))
    (len : ∀ vs H Q E, sp vs H Q E → vs.length = ps.length)
    (hbody : ∀ (cdv : Value) (A : Around) (outer : List Env) (s : Shared) (H : Hp) (vs : List V) (Q : VK) (E : XK), (A.deeper (PyProof.Rows.envOfC qual (defScope st) s.heap.objs.size f cdv)).guards = some [] → Room k (A.deeper (PyProof.Rows.envOfC qual (defScope st) s.heap.objs.size f cdv)) → sp vs H Q E →
      ∃ t, PSs (cxOf CX P w K mg base N qual (defScope st) f cdv A outer s H E) (defBody st) t ∧ t { nx := fun _ H' => Q .non H', rt := Q } (L2.start N vs) H) : FnG P w K mg base CX (k + 1) f fd ps sp := by
  obtain ⟨oc, od, kV, doc, pm, an, cdv, ct, osl, rfl, lk, hcd⟩ := Fn.ex
  refine ⟨len, fun A outer s H args us vs Q E hgd hr e0 hb r hsp => ?_⟩
  have old : ∀ b o, base.get? b = some o → s.heap.get? b = some o := fun b o e => (e0.bs b o e).1
  have KX := e0.mod.kin.keeps old
  refine codeAny_call_function hr.depth (KX _ _ lk) rfl S.co S.gen rfl (PySem.W.codeRec_of KX hcd) (hb _ _ _ _ (wpAny_newFunctionEnv_cells S.kind (fun y hy => ?_) fun env he s1 y => ?_))
  · rcases S.par y.1 (List.of_mem_zip hy).1 with q | q
    · exact Or.inl q
    · exact Or.inr ⟨q, PySem.W.cellsFrom_some _ _ _ (Or.inl q)⟩
  · subst he
    have J0 : Inv (cxOf CX P w K mg base N qual (defScope st) f cdv A outer s H E) [] (L2.start N vs) H s1 := inv_start S hr.hd e0 (len _ _ _ _ hsp) r y
    obtain ⟨t, ht, hq⟩ := hbody cdv A outer s H vs Q E hgd (hr.deeper _) hsp
    refine ⟨(e0.mod.nolimit.keeps old).keeps y.toInCall.keep, codeAny_func (wpAny_mono (ht.run [] s1 _ H _ J0 hq) (fun fl s' z => ?_) fun _ _ z => z)⟩
    match fl, z with
    | .ret u, ⟨v, _, H', J, rv, q⟩ => exact ⟨v, H', J.os, J.bare, J.base, J.hok, rv, q⟩
    | .next, ⟨_, H', J, q⟩ => exact ⟨.non, H', J.os, J.bare, J.base, J.hok, rfl, q⟩
    | .brk, ⟨_, _, _, q⟩ => exact False.elim q
    | .cont, ⟨_, _, _, q⟩ => exact False.elim q
theorem fnD {P : Program} {w : World} {K : PySem.W.Frag} {mg : Str → Option Value} {base : Heap} {x qual : Str} {st : Stmt} {f : Addr} {fd : FuncData} {N ps : List Str} {k : Nat} {sp : SpD} (Fn : Fun K x qual st f fd) (S : FnScope N ps (defScope st))
    (len : ∀ as Q, sp as Q → as.length = ps.length)
    (hbody : ∀ (cdv : Value) (A : Around) (outer : List Env) (s : Shared) (H : Hp), (A.deeper (PyProof.Rows.envOfC qual (defScope st) s.heap.objs.size f cdv)).guards = some [] → Room k (A.deeper (PyProof.Rows.envOfC qual (defScope st) s.heap.objs.size f cdv)) →
      ∃ ts t, DSs (cxOf CX0 P w K mg base N qual (defScope st) f cdv A outer s H E0).nox (defBody st) ts t ∧
        ∀ as Q, sp as Q → t { nx := fun ρ' => Q (.v .non) (clean (ρ'.take as.length)), rt := fun r ρ' => Q r (clean (ρ'.take as.length)) } (as ++ List.replicate (N.length - as.length) .un)) : FnG P w K mg base CX0 (k + 1) f fd ps (lift K sp) := by
  have lenV : ∀ vs H Q E, lift K sp vs H Q E → vs.length = ps.length := fun vs H Q E ⟨b, F, as, Qd, R, h, _⟩ => by
    have := R.len
    rw [List.length_map] at this
    rw [← this, len as _ h]
  refine fnG_of Fn S lenV fun cdv A outer s H vs Q E hgd hr h => ?_
  obtain ⟨ts, t, hD, hd⟩ := hbody cdv A outer s H hgd hr
  refine ⟨ts, hD.pe.nox, ?_⟩
  obtain ⟨b, F, as, Qd, R, q, kk⟩ := h
  have hl : as.length = vs.length := by have := R.len; rw [List.length_map] at this; exact this
  have R0 : Rep K ⟨b, fun _ => False, H, F⟩ (L2.start N vs) H F (as ++ List.replicate (N.length - as.length) .un) := by
    have R1 : Rep K ⟨b, fun _ => False, H, F⟩ (L2.start N vs) H F (as ++ List.replicate (N.length - as.length) .un) := by
      have gl : ∀ (i : Nat) (s : Sl), (as ++ List.replicate (N.length - as.length) .un)[i]? = some s → s = .un ∨ (as[i]? = some s ∧ (L2.start N vs)[i]? = (vs.map some)[i]?) := fun i s e => by
        by_cases hi : i < as.length
        · rw [List.getElem?_append_left hi] at e
          refine .inr ⟨e, ?_⟩
          unfold L2.start
          rw [List.getElem?_append_left (by rw [List.length_map, ← hl]; exact hi)]
        · rw [List.getElem?_append_right (Nat.le_of_not_lt hi)] at e
          exact .inl (List.eq_of_mem_replicate (List.mem_of_getElem? e))
      exact R.slots (by unfold L2.start; simp [hl]) gl
    exact R1
  have cl : ∀ {σ' : L2.St} {H' F' : Hp} {ρ' : SL}, Rep K ⟨b, fun _ => False, H, F⟩ σ' H' F' ρ' → Rep K ⟨b, fun _ => False, H, F⟩ (σ'.take as.length) H' F' (clean (ρ'.take as.length)) ∧
      ∀ v r, RDen K ⟨b, fun _ => False, H, F⟩ σ' ρ' H' F' v r → RDen K ⟨b, fun _ => False, H, F⟩ (σ'.take as.length) (clean (ρ'.take as.length)) H' F' v r := fun {σ' H' F' ρ'} R' => by
    have gl : ∀ (i : Nat) (s : Sl), (clean (ρ'.take as.length))[i]? = some s → s = .un ∨ (ρ'[i]? = some s ∧ (σ'.take as.length)[i]? = σ'[i]?) := fun i s e => by
      rcases clean_get e with z | z
      · exact .inl z
      · by_cases hi : i < as.length
        · rw [List.getElem?_take_of_lt hi] at z
          exact .inr ⟨z, List.getElem?_take_of_lt hi⟩
        · rw [List.getElem?_take_eq_none (Nat.le_of_not_lt hi)] at z
          cases z
    exact ⟨R'.slots (by unfold clean; rw [List.length_map, List.length_take, List.length_take, R'.len]) gl, fun v r rd => rd.slots gl⟩
  refine hD.sem R0 (hd as Qd q) ⟨fun σ' H' F' ρ' e R' => ?_, fun σ' H' F' ρ' r v e R' rd => ?_, fun _ _ _ _ e _ => e.elim, fun _ _ _ _ e _ => e.elim, fun _ _ _ _ _ _ _ e _ _ => e.elim, fun _ _ _ _ _ _ _ e _ _ => e.elim⟩
  · exact kk _ _ _ _ _ _ e (cl R').1 .non
  · exact kk _ _ _ _ _ _ e (cl R').1 ((cl R').2 _ _ rd)
end DL

namespace DL
open PySem L2
section
variable {X : Cx}
/-! ### methods that change one's own list -/
def SemMut (K : PySem.W.Frag) (r : V → List V → Hp → VK → Prop) (g : List D → List D → (List D → D → Prop) → Prop) : Prop :=
  ∀ {F H : Hp} {p : Addr} {xs : List V} {l : List D} {vs : List V} {ds : List D} {Q : VK} {Qd : List D → D → Prop}, Same F H → H p = some (.lst xs) → DenL K F xs l → DenL K F vs ds → g l ds Qd →
    (∀ l' d xs' z, Qd l' d → DenL K F xs' l' → Den K F z d → Q z (upd H p (.lst xs'))) → r (.ref p) vs H Q
def slL (ρ : SL) (i : Nat) : Option (Sl × List D) := match ρ[i]? with
  | some s => match s.cn with
    | some (.l xs) => some (s, xs)
    | _ => none
  | none => none
def mAppend (l : List D) (ds : List D) (Q : List D → D → Prop) : Prop := match ds with
  | [d] => l.length < sizeLine ∧ Q (l ++ [d]) .non
  | _ => False
theorem sem_append : SemMut X.K rAppend mAppend := by
  intro F H p xs l vs ds Q Qd e hp dl dv h k
  unfold mAppend at h
  split at h
  · cases dv with
    | cons a b =>
      cases b
      exact ⟨p, xs, _, rfl, rfl, hp, by rw [dl.length]; exact h.1, k _ _ _ _ h.2 (dl.append (.cons a .nil)) .non⟩
  · exact h.elim
def mInsert (l : List D) (ds : List D) (Q : List D → D → Prop) : Prop := match ds with
  | [.int i, d] => l.length < sizeLine ∧ 0 ≤ i ∧ i < 2 ^ 63 ∧ Q (l.take i.toNat ++ [d] ++ l.drop i.toNat) .non
  | _ => False
/-! ### stores: x[i] = e, x[i] op= e, x one's own list or dict -/
def rSetD : V → V → V → Hp → (Hp → Prop) → Prop := fun o i v H Q => ∃ a H4, o = .ref a ∧ DPut H a i v H4 ∧ Q H4
theorem set_dict (hu : X.A.units + 1 < cLine) : PSet X rSetD := by
  intro pins s σ H o i v ov iv u Q I ro ri rv h
  obtain ⟨a, H4, rfl, g, q⟩ := h
  cases ro
  exact d_setItem hu I g ri rv fun s4 I4 => ⟨H4, I4, q⟩
def rSetA : V → V → V → Hp → (Hp → Prop) → Prop := fun o i v H Q => rSetL o i v H Q ∨ rSetD o i v H Q
theorem set_any (hu : X.A.units + 1 < cLine) : PSet X rSetA := by
  intro pins s σ H o i v ov iv u Q I ro ri rv h
  rcases h with h | h
  · exact set_list pins s σ H o i v ov iv u Q I ro ri rv h
  · exact set_dict hu pins s σ H o i v ov iv u Q I ro ri rv h
/-- the content behind the store -/
def cnSet (c : Cn) (i : D) (d : D) (Q : Cn → Prop) : Prop := match c, i with
  | .l l, .int k => ∃ j, ixN l.length k = some j ∧ Q (.l (l.set j d))
  | .d kvs, y => ∃ k, y.key = some k ∧ kvs.length < sizeLine ∧ Q (.d (kPut kvs k d))
  | _, _ => False
theorem sem_store {K : PySem.W.Frag} {G : Cd} {σ : L2.St} {H F : Hp} {ρ : SL} {i : Nat} {s : Sl} {c : Cn} {p : Addr} {x v : V} {a d : D} {Q : Hp → Prop} {Qd : Cn → Prop} (R : Rep K G σ H F ρ) (h : ρ[i]? = some s) (hc : s.cn = some c) (hp : σ[i]? = some (some (.ref p)))
    (hx : Pk K F H x a) (hv : Den K F v d) (q : cnSet c a d Qd) (k : ∀ c' o, Qd c' → Rep K G σ (upd H p o) F (ρ.set i (s.with c')) → Q (upd H p o)) : rSetA (.ref p) x v H Q := by
  obtain ⟨p', hp', hh, _⟩ := R.owned h hc
  rw [hp] at hp'; cases hp'
  unfold cnSet at q
  split at q
  · obtain ⟨j, e, q⟩ := q
    cases hx.int
    obtain ⟨xs, a1, a2⟩ := hh
    exact .inl ⟨p, xs, _, j, rfl, rfl, a1, by rw [a2.length]; exact e, k _ _ q (R.write h hc hp ⟨_, upd_same, DenL.set hv j a2⟩)⟩
  · obtain ⟨k1, e, hz, q⟩ := q
    obtain ⟨ks, a1, a2⟩ := hh
    have ko := hx.keyOk e
    have := hx.key e
    subst this
    exact .inr ⟨p, _, rfl, DPut.k a1 (by rw [a2.length]; exact hz), k _ _ q (R.write h hc hp ⟨_, upd_same, a2.put hv k1 ko⟩)⟩
  · exact q.elim
def slC (ρ : SL) (i : Nat) : Option (Sl × Cn) := match ρ[i]? with
  | some s => match s.cn with
    | some c => some (s, c)
    | none => none
  | none => none
theorem slC_some {ρ : SL} {i : Nat} {s : Sl} {c : Cn} (h : slC ρ i = some (s, c)) : ρ[i]? = some s ∧ s.cn = some c := by
  unfold slC at h
  cases q : ρ[i]? with
  | none => rw [q] at h; cases h
  | some t =>
    rw [q] at h
    cases q2 : t.cn with
    | none => simp only [q2] at h; cases h
    | some c => simp only [q2] at h; cases h; exact ⟨rfl, q2⟩
def sStore (i : Nat) (te : TD) (ti : TQ) : TSD := fun E ρ => te ρ fun r ρ1 => (slC ρ1 i).isSome = true ∧ ti ρ1 fun o ρ2 => match slC ρ2 i, o.get ρ2 with
  | some (s, c), some a => cnSet c a r.dat fun c' => E.nx (ρ2.set i (s.with c'))
  | _, _ => False
theorem ds_store {i : Nat} {x : Str} {px tpos pos : Pos} {ix e : Expr} {te ti : TE} {t : TD} {u : TQ} (hu : X.A.units + 1 < cLine) (ho : PE X (.Name x px) (tVar i)) (hi : DO X ix ti u) (he : DE X e te t)
    (hpg : PG X (.Subscript (.Name x px) ix tpos) (gSub (tVar i) ti rSetA))
    (hs : swapsWithSole [.Subscript (.Name x px) ix tpos] e pos.line X.env = pure false := by rfl) (hw : swappedStores [.Subscript (.Name x px) ix tpos] e X.env = pure none := by rfl)
    (h1 : (assignEach [.Subscript (.Name x px) ix tpos] X.env).map (·.2) = [assign (.Subscript (.Name x px) ix tpos) X.env] := by rfl) :
    DS X (.Assign [.Subscript (.Name x px) ix tpos] e pos) (tAsg te (gSub (tVar i) ti rSetA)) (sStore i t u) := by
  refine ⟨ps_asg he.pe hpg hs hw h1, fun R q L => he.sem R q fun r ρ1 v H1 F1 q1 s1 R1 rd => ?_⟩
  obtain ⟨F1', s1', R1', d1⟩ := R1.share rd
  obtain ⟨q0, q1⟩ := q1
  obtain ⟨⟨s0, c0⟩, e0⟩ := Option.isSome_iff_exists.mp q0
  obtain ⟨a0, b0⟩ := slC_some e0
  obtain ⟨p, hp, _⟩ := R1'.owned a0 b0
  refine ⟨.ref p, hp, hi.sem R1' q1 fun o ρ2 y H2 F2 q2 s2 R2 d2 => ?_⟩
  cases e1 : slC ρ2 i with
  | none => simp only [e1] at q2
  | some sc =>
    obtain ⟨s, c⟩ := sc
    obtain ⟨a1, b1⟩ := slC_some e1
    cases e2 : o.get ρ2 with
    | none => simp only [e1, e2] at q2
    | some a =>
      simp only [e1, e2] at q2
      exact sem_store R2 a1 b1 hp (d2.pk R2 e2) (d1.mono s2) q2 fun c' o' qd R3 => L.nx _ _ _ _ qd R3
/-- x[i] read, for x[i] op= e -/
theorem get_list : PGet X (rIxL X.K) := by
  intro pins s σ H o i ov iv Q I rx ry h
  obtain ⟨p, xs, i, z, rfl, rfl, hq, he, q⟩ := h
  cases rx
  obtain ⟨t, rfl⟩ := ry
  obtain ⟨its, r, pl, hz⟩ := I.list hq
  obtain ⟨j, h1, h2, h3, h4, h5⟩ := atI_get he
  obtain ⟨w, ew, rw'⟩ := r.get h2
  have hl := r.length
  have hn := line63
  have fin : EP X pins σ Q w s := ⟨z, H, I, rw', q⟩
  by_cases h0 : 0 ≤ i
  · have hj : i.toNat = j := by
      rw [seqIndex_of h0 h5] at h1
      exact Option.some.inj h1
    exact wpAny_getItem_list pl.isList h0 (by omega) (by rw [hj]; simpa using ew) fin
  · have hj : (i + (its.toArray.size : Int)).toNat = j := by
      rw [seqIndex_neg (by omega) h4] at h1
      rw [List.size_toArray, ← hl]
      exact Option.some.inj h1
    exact wpAny_getItem_list_neg pl.isList (by omega) (by rw [List.size_toArray] <;> omega) (by omega) (by rw [hj]; simpa using ew) fin
theorem get_dict (hu : X.A.units + 1 < cLine) : PGet X rIxD := by
  intro pins s σ H o i ov iv Q I rx ry h
  obtain ⟨a, v, rfl, g, q⟩ := h
  cases rx
  exact d_getItem hu I g ry fun w' s3 I3 rw' => ⟨v, H, I3, rw', q⟩
def rGetA (K : PySem.W.Frag) : R2 := fun x y H Q => rIxL K x y H Q ∨ rIxD x y H Q
theorem get_any (hu : X.A.units + 1 < cLine) : PGet X (rGetA X.K) := by
  intro pins s σ H o i ov iv Q I rx ry h
  rcases h with h | h
  · exact get_list pins s σ H o i ov iv Q I rx ry h
  · exact get_dict hu pins s σ H o i ov iv Q I rx ry h
theorem gIx_dct {kvs : List (Key × D)} {y : D} {Q : Rv → Prop} : gIx (.dct kvs) y Q = ∃ k d, y.key = some k ∧ kGet kvs k = some d ∧ Q (.v d) := by cases y <;> rfl
def sAugI (i : Nat) (f : Int → Int → Int) (ti : TQ) (te : TD) : TSD := fun E ρ => (slC ρ i).isSome = true ∧ ti ρ fun o ρ1 => match slC ρ1 i, o.get ρ1 with
  | some (_, c), some a => gIx c.dat a fun old => te ρ1 fun r ρ2 => match old, r, slC ρ2 i, o.get ρ2 with
    | .v (.int m), .v (.int n), some (s, c2), some a2 => cnSet c2 a2 (.int (f m n)) fun c' => E.nx (ρ2.set i (s.with c'))
    | _, _, _, _ => False
  | _, _ => False
theorem ds_augI {i : Nat} {f : Int → Int → Int} {op : Operator} {x : Str} {px tpos pos : Pos} {ix e : Expr} {te ti : TE} {t : TD} {u : TQ} (hu : X.A.units + 1 < cLine) (ho : PE X (.Name x px) (tVar i)) (hi : DO X ix ti u) (he : DE X e te t) (hp : PIp X op (ipI f))
    (ha : ∀ ov iv new, augStore ix ov iv new = (do holding [new, ov, iv] (setItem ov iv new); release [new, ov, iv] []; pure .next) := by intros; rfl) :
    DS X (.AugAssign (.Subscript (.Name x px) ix tpos) op e pos) (tAugS (tVar i) ti te (rGetA X.K) (ipI f) rSetA) (sAugI i f u t) := by
  refine ⟨ps_augS ho hi.pe (get_any hu) he.pe hp (set_any hu) ha, fun {G σ H F ρ D E} R q L => ?_⟩
  obtain ⟨q0, q1⟩ := q
  obtain ⟨⟨s0, c0⟩, e0⟩ := Option.isSome_iff_exists.mp q0
  obtain ⟨a0, b0⟩ := slC_some e0
  obtain ⟨p, hp, _⟩ := R.owned a0 b0
  refine ⟨.ref p, hp, hi.sem R q1 fun o ρ1 y H1 F1 q1 s1 R1 d1 => ?_⟩
  cases e1 : slC ρ1 i with
  | none => simp only [e1] at q1
  | some sc =>
    obtain ⟨s1', c1⟩ := sc
    obtain ⟨a1, b1⟩ := slC_some e1
    cases e2 : o.get ρ1 with
    | none => simp only [e1, e2] at q1
    | some a =>
      simp only [e1, e2] at q1
      obtain ⟨p', hp', hh, _⟩ := R1.owned a1 b1
      rw [hp] at hp'; cases hp'
      have pk1 : Pk X.K F1 H1 (.ref p) c1.dat := .inr ⟨p, c1, rfl, rfl, hh⟩
      have rest : ∀ (old : Rv) (z : V), (te σ H1 fun y2 H3 => ipI f z y2 H3 fun z' H5 => rSetA (.ref p) y z' H5 fun H6 => D.nx σ H6) → rGetA X.K (.ref p) y H1 (fun x3 H3 => x3 = z ∧ H3 = H1) → rGetA X.K (.ref p) y H1 (fun x3 H3 => te σ H3 fun y2 H3 => ipI f x3 y2 H3 fun z' H5 => rSetA (.ref p) y z' H5 fun H6 => D.nx σ H6) := by
        intro old z hz hg
        rcases hg with ⟨p2, xs, k, v, h1, h2, h3, h4, rfl, _⟩ | ⟨a2, v, h1, h2, rfl, _⟩
        · exact .inl ⟨p2, xs, k, v, h1, h2, h3, h4, hz⟩
        · exact .inr ⟨a2, v, h1, h2, hz⟩
      have fin : ∀ (old : Rv) (z : V), RDen X.K G σ ρ1 H1 F1 z old → (t ρ1 fun r ρ2 => match old, r, slC ρ2 i, o.get ρ2 with
          | .v (.int m), .v (.int n), some (s, c2), some a2 => cnSet c2 a2 (.int (f m n)) fun c' => E.nx (ρ2.set i (s.with c'))
          | _, _, _, _ => False) → te σ H1 fun y2 H3 => ipI f z y2 H3 fun z' H5 => rSetA (.ref p) y z' H5 fun H6 => D.nx σ H6 := by
        intro old z rdz q2
        refine he.sem R1 q2 fun r ρ2 y2 H3 F3 q3 s3 R3 rd3 => ?_
        split at q3
        · rename_i m n s2 c2 a2 e4 e5
          cases rdz; cases rd3
          obtain ⟨a5, b5⟩ := slC_some e4
          exact ⟨m, n, rfl, rfl, sem_store R3 a5 b5 hp ((d1.mono s3).pk R3 e5) (.int _) q3 fun c' o' qd R4 => L.nx _ _ _ _ qd R4⟩
        · exact q3.elim
      -- what stands there
      cases c1 with
      | l l =>
        cases a with
        | int kk =>
          obtain ⟨d, e3, q2⟩ := q1
          obtain ⟨p3, xs, ep, h1, dd⟩ := pk1.lst R1.ext
          cases ep
          cases (d1.pk R1 e2).int
          obtain ⟨v, e4, dv⟩ := dd.atI e3
          exact rest (.v d) v (fin (.v d) v dv q2) (.inl ⟨p, xs, _, v, rfl, rfl, .inl (.inl h1), e4, rfl, rfl⟩)
        | _ => exact q1.elim
      | d kvs =>
        have q1' := q1
        rw [show Cn.dat (.d kvs) = .dct kvs from rfl, gIx_dct] at q1'
        obtain ⟨k1, d, ek, e3, q2⟩ := q1'
        obtain ⟨p3, ks, ep, h1, dd⟩ := pk1.dct R1.ext
        cases ep
        obtain ⟨v, e4, dv⟩ := dd.get e3
        have ey := (d1.pk R1 e2).key ek
        subst ey
        exact rest (.v d) v (fin (.v d) v dv q2) (.inr ⟨p, v, rfl, by rw [← e4]; exact DGet.k h1, rfl, rfl⟩)
      | o _ _ => cases a <;> exact q1.elim
      | k _ _ _ => cases a <;> exact q1.elim
      | x _ _ => cases a <;> exact q1.elim
/-! ### x op= e, x a name that holds an int -/
end
end DL

namespace DL
open PySem L2
section
variable {K : PySem.W.Frag} {F H : Hp}
theorem pks1 {xs : List V} {d : D} (h : Pks K F H xs [d]) : ∃ x, xs = [x] ∧ Pk K F H x d := by
  cases h with
  | cons a b => cases b; exact ⟨_, rfl, a⟩
theorem DenL.bls : ∀ {vs : List V} {bs : List Bool}, DenL K F vs (bs.map D.bl) → vs = bs.map V.bl
  | _, [], h => by cases h; rfl
  | _, b :: bs, h => by
    cases h with
    | cons a t => cases a; rw [DenL.bls t]; rfl
end
section
variable {X : Cx}
def gAbs : List D → (Rv → Prop) → Prop
  | [.int i] => fun Q => Q (.v (.int (if i < 0 then -i else i)))
  | _ => fun _ => False
theorem sem_abs : SemCall X.K (fun xs H Q => ∃ i, xs = [.int i] ∧ Q (.int (if i < 0 then -i else i)) H) gAbs := by
  intro G σ H F ρ xs as Q Qd R ha h k
  unfold gAbs at h
  split at h
  · obtain ⟨x, rfl, p⟩ := pks1 ha
    cases p.int
    exact ⟨_, rfl, k _ _ _ _ h (Same.refl _) R (.int _)⟩
  · exact h.elim
def gLen : List D → (Rv → Prop) → Prop
  | [.lst l] => fun Q => Q (.v (.int l.length))
  | [.tup l] => fun Q => Q (.v (.int l.length))
  | [.str x] => fun Q => x.length ≤ sizeLine ∧ Q (.v (.int x.length))
  | [.dct l] => fun Q => Q (.v (.int l.length))
  | [.scr l] => fun Q => Q (.v (.int l.length))
  | _ => fun _ => False
def rLenA (K : PySem.W.Frag) : List V → Hp → VK → Prop := fun xs H Q => (∃ x n, xs = [x] ∧ LenV K x H n ∧ Q (.int n) H) ∨ ∃ a kvs, xs = [V.ref a] ∧ H a = some (.dK kvs) ∧ Q (.int kvs.length) H
theorem call_lenA : CallR X (.builtin "len") (rLenA X.K) := call_len.or call_lenD
theorem sem_len : SemCall X.K (rLenA X.K) gLen := by
  intro G σ H F ρ xs as Q Qd R ha h k
  unfold gLen at h
  split at h
  · obtain ⟨x, rfl, p⟩ := pks1 ha
    obtain ⟨a, ys, rfl, h1, h2⟩ := p.lst R.ext
    exact .inl ⟨_, ys.length, rfl, .inl ⟨ys, .inl (.inl h1), rfl⟩, by rw [h2.length]; exact k _ _ _ _ h (Same.refl _) R (.int _)⟩
  · obtain ⟨x, rfl, p⟩ := pks1 ha
    obtain ⟨a, ys, rfl, h1, h2⟩ := p.tup
    exact .inl ⟨_, ys.length, rfl, .inr ⟨ys, .inl (.inl (R.ext _ _ h1)), rfl⟩, by rw [h2.length]; exact k _ _ _ _ h (Same.refl _) R (.int _)⟩
  · obtain ⟨x, rfl, p⟩ := pks1 ha
    cases p.str
    exact .inl ⟨_, _, rfl, ⟨h.1, rfl⟩, k _ _ _ _ h.2 (Same.refl _) R (.int _)⟩
  · obtain ⟨x, rfl, p⟩ := pks1 ha
    obtain ⟨a, ys, rfl, h1, h2⟩ := p.dct R.ext
    exact .inr ⟨a, ys, rfl, h1, by rw [h2.length]; exact k _ _ _ _ h (Same.refl _) R (.int _)⟩
  · rename_i l
    obtain ⟨x, rfl, p⟩ := pks1 ha
    obtain ⟨a, rfl, h1⟩ := p.scr R.ext
    exact .inl ⟨_, _, rfl, .inl ⟨_, h1, rfl⟩, by rw [List.length_map]; exact k _ _ _ _ h (Same.refl _) R (.int _)⟩
  · exact h.elim
def gMin : List D → (Rv → Prop) → Prop
  | [.int i, .int j] => fun Q => Q (.v (.int (min i j)))
  | [.lst l] => fun Q => ∃ ns : List Int, l = ns.map D.int ∧ 0 < ns.length ∧ ∀ m, m ∈ ns → (∀ y ∈ ns, m ≤ y) → Q (.v (.int m))
  | _ => fun _ => False
def gMax : List D → (Rv → Prop) → Prop
  | [.int i, .int j] => fun Q => Q (.v (.int (max i j)))
  | [.int i, .int j, .int k] => fun Q => Q (.v (.int (max (max i j) k)))
  | [.lst l] => fun Q => ∃ ns : List Int, l = ns.map D.int ∧ 0 < ns.length ∧ ∀ m, m ∈ ns → (∀ y ∈ ns, y ≤ m) → Q (.v (.int m))
  | _ => fun _ => False
def gAny (f : List Bool → Bool) : List D → (Rv → Prop) → Prop
  | [.lst l] => fun Q => ∃ bs : List Bool, l = bs.map D.bl ∧ Q (.v (.bl (f bs)))
  | _ => fun _ => False
theorem sem_any : SemCall X.K (rAny X.K) (gAny fun bs => bs.any id) := by
  intro G σ H F ρ xs as Q Qd R ha h k
  unfold gAny at h
  split at h
  · obtain ⟨bs, rfl, h⟩ := h
    obtain ⟨x, rfl, p⟩ := pks1 ha
    obtain ⟨a, ys, rfl, h3, h4⟩ := p.lst R.ext
    exact ⟨a, bs, rfl, by rw [← h4.bls]; exact .inl (.inl h3), k _ _ _ _ h (Same.refl _) R (.bl _)⟩
  · exact h.elim
/-! ### text.join(list) -/
/-! ### x[::-1] of a list -/
/-! ### repr of plain data -/
mutual
/-- what may be shown: ints below 2 ^ 240 -/
def D.small : D → Bool
  | .int i => decide (i.natAbs < 2 ^ 240)
  | .lst l => D.smalls l
  | .tup l => D.smalls l
  | .dct l => D.smallk l
  | _ => true
def D.smalls : List D → Bool
  | [] => true
  | d :: r => D.small d && D.smalls r
def D.smallk : List (Key × D) → Bool
  | [] => true
  | (.inl i, d) :: r => decide (i.natAbs < 2 ^ 240) && D.small d && D.smallk r
  | (.inr _, d) :: r => D.small d && D.smallk r
end
@[simp] theorem smallk_nil : D.smallk [] = true := by rw [D.smallk]
mutual
theorem small_show : ∀ (n : Nat) (d : D), D.fit n d = true → D.small d = true → d.py.showable = true ∧ d.py.hasDict = false
  | n, .non, _, _ => by simp [D.py, PyData.showable, PyData.hasDict]
  | n, .bl _, _, _ => by simp [D.py, PyData.showable, PyData.hasDict]
  | n, .str _, _, _ => by simp [D.py, PyData.showable, PyData.hasDict]
  | n, .int i, _, h => by
    have h1 : i.natAbs < 2 ^ 240 := by simpa [D.small] using h
    have h2 : i.natAbs.log2 < 1920 := by
      by_cases h0 : i.natAbs = 0
      · rw [h0]; decide
      · exact Nat.lt_of_lt_of_le ((Nat.log2_lt h0).mpr h1) (by decide)
    simp [D.py, PyData.showable, PyData.hasDict, h2]
  | 0, .lst _, e, h => by simp [D.fit] at e
  | 0, .tup _, e, h => by simp [D.fit] at e
  | n + 1, .lst l, e, h => by
    rw [D.fit] at e
    rw [D.small] at h
    rw [D.py, PyData.showable, PyData.hasDict]
    exact smalls_show n l e h
  | n + 1, .tup l, e, h => by
    rw [D.fit] at e
    rw [D.small] at h
    rw [D.py, PyData.showable, PyData.hasDict]
    exact smalls_show n l e h
  | n, .dct _, e, _ => by simp [D.fit] at e
  | n, .obj _ _, e, _ => by simp [D.fit] at e
  | n, .scr _, e, _ => by simp [D.fit] at e
  | n, .rep _, e, _ => by simp [D.fit] at e
theorem smalls_show : ∀ (n : Nat) (l : List D), D.fits n l = true → D.smalls l = true → PyData.showableAll (D.pys l) = true ∧ PyData.hasDictAll (D.pys l) = false
  | n, [], _, _ => by simp [D.pys, PyData.showableAll, PyData.hasDictAll]
  | n, d :: r, e, h => by
    rw [D.fits, Bool.and_eq_true] at e
    rw [D.smalls, Bool.and_eq_true] at h
    obtain ⟨h1, h2⟩ := small_show n d e.1 h.1
    obtain ⟨h3, h4⟩ := smalls_show n r e.2 h.2
    rw [D.pys, PyData.showableAll, PyData.hasDictAll, h1, h2, h3, h4]
    exact ⟨rfl, rfl⟩
end
end
end DL

namespace DL
open PySem PySem.Spec PyProof.Rows L2
/-- the heap at the law's call: the script alone may be told -/
def scriptH (a : Addr) (o : Obj) (xs : List V) (told : Bool) : Hp := fun b => if told = true ∧ b = a then some (.frz o (.lst xs)) else none
theorem runG {P : Program} {w : World} {K : PySem.W.Frag} {mg mb : Str → Option Value} {k : Nat} {fa a : Addr} {fd : FuncData} {x : Str} {sp : Sp} {s1 : Shared} {vs : List Value} {ns : List Int}
    (KX : K.In s1.heap) (hns : s1.heap.Ns mainGlobals mg) (hb : s1.heap.Ns builtinsNs mb) (hbb : ∀ x : Str, x ≠ "__name__" → mb x = bootBuiltins x) (hlim : s1.heap.NoLimit) (hg : s1.gens = #[])
    (ha : s1.heap.get? a = some { cls := .type "list", data := .seq vs.toArray }) (hi : IntsAre vs ns) (hl : ns.length ≤ sizeLine) (hr : Room k callerA)
    (Fn : ∀ base : Heap, K.In base → base.Ns mainGlobals mg → FnG P w K mg base CX0 k fa fd [x] sp) (hbind : ∀ (s : Shared) (u : Value), BindsTo s fd ⟨[u], []⟩ [(x, u)])
    (hsp : ∀ H : Hp, SqL K H a (ns.map V.int) → sp [.ref a] H (fun v _ => v = .bl true) fun _ _ _ => False) :
    codeAny (model P w) callerA (.call (.ref fa) ⟨[.ref a], []⟩) (fun r s' => r = .ok (.ret (.bool true)) ∧ OldK s1.heap s'.heap ∧ s'.os = s1.os ∧ AllBare s'.gens) s1 := by
  have told : ∃ t : Bool, SqL K (scriptH a { cls := .type "list", data := .seq vs.toArray } (ns.map V.int) t) a (ns.map V.int) ∧ (t = true → K.lookup a = none) := by
    cases hk : K.lookup a with
    | none => exact ⟨true, .inl (.inr ⟨_, if_pos ⟨rfl, rfl⟩⟩), fun _ => rfl⟩
    | some o =>
      have e := KX a o hk
      rw [ha] at e
      cases e
      exact ⟨false, .inr ⟨_, vs.toArray, _, hk, rfl, rfl, rfl, by rw [List.size_toArray, hi.length]; exact hl, vals_ints hi⟩, fun z => by cases z⟩
  obtain ⟨t, hS, hK⟩ := told
  have only : ∀ b u, scriptH a { cls := .type "list", data := .seq vs.toArray } (ns.map V.int) t b = some u → b = a ∧ t = true ∧ u = .frz { cls := .type "list", data := .seq vs.toArray } (.lst (ns.map V.int)) := fun b u e => by
    unfold scriptH at e
    by_cases q : t = true ∧ b = a
    · rw [if_pos q] at e
      cases e
      exact ⟨q.2, q.1, rfl⟩
    · rw [if_neg q] at e; cases e
  generalize scriptH a { cls := .type "list", data := .seq vs.toArray } (ns.map V.int) t = H at hS only
  have free : ∀ {b : Addr} {o : Obj} {es : Array DictEntry} {ep : Nat}, s1.heap.get? b = some o → o.data = .dict es ep → H b = none := fun {b o es ep} e d => by
    cases q : H b with
    | none => rfl
    | some u =>
      obtain ⟨rfl, _, _⟩ := only b u q
      rw [ha] at e; cases e
      cases (show Data.seq vs.toArray _ = Data.dict es ep from d)
  have nsH : ∀ {b : Addr} {m : Str → Option Value}, s1.heap.Ns b m → (hidT s1.heap H).Ns b m := fun {b m} ⟨o, es, ep, e, d, r⟩ => ⟨o, es, ep, hidT_get e (free e d), d, r⟩
  have hKb : K.In (hidT s1.heap H) := fun b o e => hidT_get (KX b o e) (by
    cases q : H b with
    | none => rfl
    | some u =>
      obtain ⟨rfl, z, _⟩ := only b u q
      rw [hK z] at e; cases e)
  obtain ⟨mc, lim1, lim2⟩ := hlim
  have ok : HOk P w H s1.heap := fun b u e => by
    obtain ⟨rfl, _, rfl⟩ := only b u e
    exact ⟨ha, by rw [List.length_map]; exact hl, vs, 0, vals_ints hi, ha⟩
  have e0 : Env0 P w K mg (hidT s1.heap H) callerA [] s1 H := ⟨rfl, ⟨hKb, nsH hns, ⟨mb, nsH hb, hbb⟩, mc, nsH lim1, lim2⟩, fun b o e => of_hidT e, Nat.le_of_eq (hidT_size _ _), trivial, (fun b hb => nomatch hb), ok, .of_eq hg⟩
  refine codeAny_mono ((Fn _ hKb (nsH hns)).run callerA [] s1 H ⟨[.ref a], []⟩ [.ref a] [.ref a] _ _ rfl hr e0 (hbind s1 (.ref a)) (.cons rfl .nil) (hsp H hS)) fun r s' h => ?_
  match r, h with
  | .error e, h => exact False.elim h
  | .ok .next, h => exact False.elim h
  | .ok .brk, h => exact False.elim h
  | .ok .cont, h => exact False.elim h
  | .ok (.ret u), ⟨v, H', os, bare, un, hok', r', q⟩ =>
    obtain rfl : v = .bl true := q
    obtain rfl : u = Value.bool true := r'
    refine ⟨rfl, OldK.of_keep fun b o e => ?_, os, bare⟩
    cases q : H b with
    | none => exact un.keep b o e q (fun z => nomatch z) (fun z => nomatch z)
    | some u =>
      obtain ⟨rfl, _, rfl⟩ := only b u q
      rw [ha] at e; cases e
      exact (hok' _ _ (un.frzs _ _ _ q)).1
/-- the goal that k_head leaves, from the law's promise over data -/
theorem walkG {l : PySem.W.OpenLaw} {n k : Nat} {q : Program} {loose : List Str} {XP : (Str → Option Value) → Heap → Prop} {YP : World → Heap → Prop} {d : DefRec} {K : Params → PySem.W.Frag} {x : Str}
    (hn : l.most = some n) (hn2 : n ≤ sizeLine) (hdf : d.params.defaults = []) (hr : Room k callerA)
    (hY : ∀ (w : World) (h : Heap), YP w h → (K w.params).In h)
    (Fn : ∀ (w : World) (mg : Str → Option Value) (fa : Addr) (h : Heap), (K w.params).In h → h.Ns mainGlobals mg → mg d.name = some (.ref fa) →
      ∃ fd : FuncData, (∀ (s : Shared) (u : Value), BindsTo s fd ⟨[u], []⟩ [(x, u)]) ∧
        ∀ base : Heap, (K w.params).In base → base.Ns mainGlobals mg → FnG l.prog w (K w.params) mg base CX0 k fa fd [x] (lift (K w.params) fun as Q => ∃ ns : List Int, as = [.sh (.scr ns)] ∧ ns.length ≤ n ∧ ∀ o, Q (.v (.bl true)) o)) :
    PySem.W.WalkO q loose XP YP l.row.toRowW d [] (fun f vs => PySem.call f vs) := by
  refine Att.attach_call hn hdf fun w s0 s1 mg mb fa o pm cd doc a vs ns G Y ho hd hcd hmg hobj hints hlen hg => ?_
  have KX := hY w _ Y
  obtain ⟨fd, hb, hF⟩ := Fn w mg fa _ KX G.T.g hmg
  refine runG KX G.T.g G.T.b G.T.builtins G.T.nolimit hg hobj hints (Nat.le_trans hlen hn2) hr hF hb fun H hS => ?_
  have R0 : Rep (K w.params) ⟨fun _ => none, fun _ => False, H, H⟩ [some (V.ref a)] H H [.sh (.scr ns)] := by
    refine { len := rfl, ext := Same.refl H, sh := fun i dd e => ?_, ow := fun i c e => ?_, bw := fun i j c e => ?_, sep := fun i j s t c c' p e1 e2 h1 h2 h3 h4 => ?_, fr0 := Same.refl H, new := fun _ _ e => .inl e, keep := fun _ _ e _ _ => e, dom := fun a o e => ⟨o, e⟩, bd := fun _ _ e => ?_, lb := fun _ _ z => ?_, pl := ?_ }
    · cases i with
      | zero =>
        cases e
        exact ⟨.ref a, rfl, .scr hS⟩
      | succ i => cases e
    · cases i with
      | zero => cases e
      | succ i => cases e
    · cases i with
      | zero => cases e
      | succ i => cases e
    · cases i with
      | zero => cases e1; cases h1
      | succ i => cases e1
    · cases e
    · exact (show False from z).elim
    · have no : ∀ (i : Nat) (hs : List (Addr × Cn)), ([.sh (.scr ns)] : SL)[i]? ≠ some (.pl hs) := fun i hs e => by
        cases i with
        | zero => cases e
        | succ i => cases e
      exact ⟨fun i hs e => (no i hs e).elim, fun i hs p c e => (no i hs e).elim, fun i hs p c e => (no i hs e).elim, fun i j hs hs' p c c' e => (no i hs e).elim⟩
  refine ⟨fun _ => none, H, [.sh (.scr ns)], fun r _ => r = .v (.bl true), R0, ⟨ns, rfl, hlen, fun _ => rfl⟩, fun r outs σ' v H' F' hq R rd => ?_⟩
  cases hq
  cases rd
  rfl
end DL
namespace DL
open PySem L2
/-! ### short words for the printed terms -/
structure Cal (P : Program) (w : World) (K : PySem.W.Frag) (mg : Str → Option Value) (base : Heap) (k : Nat) (x : Str) (f : Addr) (fd : FuncData) (ps : List Str) (sp : SpD) : Prop where
  g : mg x = some (.ref f)
  kp : PySem.W.keepIn K (.ref f) = true
  b : Binds K fd ps []
  ok : FnG P w K mg base CX0 k f fd ps (lift K sp)
theorem hu1 {A : Around} {k : Nat} (hr : Room k A) : A.units + 1 < cLine := by have := hr.un; omega
theorem hu64 {A : Around} {k : Nat} (hr : Room k A) : A.units + 64 < cLine := by have := hr.un; omega
section
variable {X : Cx}
abbrev Bk (α : Type) := Shared → Hp → Addr → List (Str × Addr) → List Addr → α
/-- a comprehension whose parts are told within its block -/
theorem de_lcF {elt iter : Expr} {ifs : List Expr} {scope : Scope} {own : List (Str × Nat)} {pos : Pos} {wi : TI} {g : Bk TG} {tt : Bk TT} {te : Bk TE} {t : TSrcC} {gd : TGd} {dt : TB} {de : TD} (hc : X.calm = true) (hN : X.N.Nodup)
    (hi : DIc X tg iter wi t) (ok : BlkOk X.N X.env.scope scope own)
    (hg : ∀ (s : Shared) (H : Hp) (C : Addr) (cl : List (Str × Addr)) (fp : List Addr), DG (X.blk s H scope (compEnvC scope cl C X.env) fp) tg (own.map (·.2)) (g s H C cl fp) gd)
    (ht : ∀ (s : Shared) (H : Hp) (C : Addr) (cl : List (Str × Addr)) (fp : List Addr), DTs (X.blk s H scope (compEnvC scope cl C X.env) fp) ifs (tt s H C cl fp) dt)
    (he : ∀ (s : Shared) (H : Hp) (C : Addr) (cl : List (Str × Addr)) (fp : List Addr), DE (X.blk s H scope (compEnvC scope cl C X.env) fp) elt (te s H C cl fp) de)
    (eg : ∀ s H C cl fp, g s H C cl fp = g X.s_0 H 0 [] [] := by intros; rfl) (et : ∀ s H C cl fp, tt s H C cl fp = tt X.s_0 H 0 [] [] := by intros; rfl) (ee : ∀ s H C cl fp, te s H C cl fp = te X.s_0 H 0 [] [] := by intros; rfl)
    (eg' : ∀ H, g X.s_0 H 0 [] [] = g X.s_0 (fun _ => none) 0 [] [] := by intros; rfl) (et' : ∀ H, tt X.s_0 H 0 [] [] = tt X.s_0 (fun _ => none) 0 [] [] := by intros; rfl) (ee' : ∀ H, te X.s_0 H 0 [] [] = te X.s_0 (fun _ => none) 0 [] [] := by intros; rfl)
    (hs : ∀ x, foldedSetIterable iter X.env x = pure x := by intro _; rfl) :
    DE X (.ListComp elt [⟨tg, iter, ifs, 0⟩] scope pos) (tLc wi (g X.s_0 (fun _ => none) 0 [] []) (tt X.s_0 (fun _ => none) 0 [] []) (te X.s_0 (fun _ => none) 0 [] []) (own.map (·.2))) (dLc t gd dt de (own.map (·.2))) :=
  de_lc hc hN hi ok (fun s H C cl fp => by rw [← eg' H, ← eg s H C cl fp]; exact hg s H C cl fp) (fun s H C cl fp => by rw [← et' H, ← et s H C cl fp]; exact ht s H C cl fp) (fun s H C cl fp => by rw [← ee' H, ← ee s H C cl fp]; exact he s H C cl fp) hs
end
end DL

namespace DL
open PySem L2
theorem le_size {n : Nat} (h : n ≤ 16777216) : n ≤ sizeLine := by rw [sizeLine_eq]; omega
theorem lt_size {n : Nat} (h : n < 16777216) : n < sizeLine := by rw [sizeLine_eq]; omega
/-! ### loops, by what holds before each round -/
theorem forL_on {α : Type} (f : α → D) {g : TGd} {b : TSD} {E : EndsD} (I : List α → List α → SL → Prop) {l : List α} {ρ : SL} (hI : I [] l ρ) (h0 : ∀ ρ, I l [] ρ → E.nx ρ)
    (h1 : ∀ (p : List α) (x : α) (r : List α) (ρ : SL) (N : SL → Prop), l = p ++ x :: r → (∀ ρ', I (p ++ [x]) r ρ' → N ρ') → I p (x :: r) ρ → g (f x) ρ fun ρ1 => b { nx := N, rt := E.rt, bk := E.nx, ct := N, xc := E.xc, xh := E.xh } ρ1) : forL g b E (l.map f) ρ := by
  have key : ∀ (r p : List α) (ρ : SL), l = p ++ r → I p r ρ → forL g b E (r.map f) ρ := by
    intro r
    induction r with
    | nil => intro p ρ e h; rw [List.append_nil] at e; subst e; exact h0 _ h
    | cons x r ih => intro p ρ e h; exact h1 p x r ρ _ e (fun ρ' h' => ih (p ++ [x]) ρ' (by rw [e]; simp) h') h
  exact key l [] ρ rfl hI
theorem forL_rng {g : TGd} {b : TSD} {E : EndsD} {lo c : Int} {n : Nat} (I : Nat → SL → Prop) {ρ : SL} (hI : I 0 ρ) (h0 : ∀ ρ, I n ρ → E.nx ρ)
    (h1 : ∀ (i : Nat) (ρ : SL) (N : SL → Prop), i < n → (∀ ρ', I (i + 1) ρ' → N ρ') → I i ρ → g (.int (lo + (i : Int) * c)) ρ fun ρ1 => b { nx := N, rt := E.rt, bk := E.nx, ct := N, xc := E.xc, xh := E.xh } ρ1) : forL g b E (rangeC lo c n) ρ := by
  unfold rangeC
  refine forL_on _ (fun p r ρ => I p.length ρ) hI (fun ρ h => h0 ρ (by rw [List.length_range] at h; exact h)) fun p x r ρ N e hN h => ?_
  have hp : x = p.length := by
    have := congrArg (fun l => l[p.length]?) e
    simp only [List.getElem?_append_right (Nat.le_refl _), Nat.sub_self, List.getElem?_cons_zero] at this
    by_cases q : p.length < n
    · rw [List.getElem?_range q] at this; cases this; rfl
    · rw [List.getElem?_eq_none (by rw [List.length_range]; omega)] at this; cases this
  have hl : p.length < n := by
    have := congrArg List.length e
    rw [List.length_range, List.length_append, List.length_cons] at this
    omega
  subst hp
  exact h1 p.length ρ N hl (fun ρ' h' => hN ρ' (by rw [List.length_append]; exact h')) h
theorem lcL_on {α : Type} (f : α → D) {g : TGd} {tt : TB} {te : TD} {vs : List Nat} {Q : List D → SL → Prop} (I : List α → List α → List D → SL → Prop) {l : List α} {ρ : SL} (hI : I [] l [] ρ) (h0 : ∀ acc ρ, I l [] acc ρ → Q acc ρ)
    (h1 : ∀ (p : List α) (x : α) (r : List α) (acc : List D) (ρ : SL) (N : List D → SL → Prop), l = p ++ x :: r → (∀ acc' ρ', I (p ++ [x]) r acc' ρ' → N acc' ρ') → I p (x :: r) acc ρ →
      g (f x) ρ fun ρ1 => tt ρ1 fun b ρ2 => if b = true then te ρ2 fun rv ρ3 => acc.length < sizeLine ∧ N (acc ++ [rv.dat]) (wipeD ρ3 vs) else N acc (wipeD ρ2 vs)) : lcL g tt te vs Q (l.map f) [] ρ := by
  have key : ∀ (r p : List α) (acc : List D) (ρ : SL), l = p ++ r → I p r acc ρ → lcL g tt te vs Q (r.map f) acc ρ := by
    intro r
    induction r with
    | nil => intro p acc ρ e h; rw [List.append_nil] at e; subst e; exact h0 _ _ h
    | cons x r ih =>
      intro p acc ρ e h
      exact h1 p x r acc ρ (fun acc ρ => lcL g tt te vs Q (r.map f) acc ρ) e (fun acc' ρ' h' => ih (p ++ [x]) acc' ρ' (by rw [e]; simp) h') h
  exact key l [] [] ρ rfl hI
theorem lcL_rng {g : TGd} {tt : TB} {te : TD} {vs : List Nat} {Q : List D → SL → Prop} {lo c : Int} {n : Nat} (I : Nat → List D → SL → Prop) {ρ : SL} (hI : I 0 [] ρ) (h0 : ∀ acc ρ, I n acc ρ → Q acc ρ)
    (h1 : ∀ (i : Nat) (acc : List D) (ρ : SL) (N : List D → SL → Prop), i < n → (∀ acc' ρ', I (i + 1) acc' ρ' → N acc' ρ') → I i acc ρ →
      g (.int (lo + (i : Int) * c)) ρ fun ρ1 => tt ρ1 fun b ρ2 => if b = true then te ρ2 fun rv ρ3 => acc.length < sizeLine ∧ N (acc ++ [rv.dat]) (wipeD ρ3 vs) else N acc (wipeD ρ2 vs)) : lcL g tt te vs Q (rangeC lo c n) [] ρ := by
  unfold rangeC
  refine lcL_on _ (fun p r acc ρ => I p.length acc ρ) hI (fun acc ρ h => h0 acc ρ (by rw [List.length_range] at h; exact h)) fun p x r acc ρ N e hN h => ?_
  have hp : x = p.length := by
    have := congrArg (fun l => l[p.length]?) e
    simp only [List.getElem?_append_right (Nat.le_refl _), Nat.sub_self, List.getElem?_cons_zero] at this
    by_cases q : p.length < n
    · rw [List.getElem?_range q] at this; cases this; rfl
    · rw [List.getElem?_eq_none (by rw [List.length_range]; omega)] at this; cases this
  have hl : p.length < n := by
    have := congrArg List.length e
    rw [List.length_range, List.length_append, List.length_cons] at this
    omega
  subst hp
  exact h1 p.length acc ρ N hl (fun acc' ρ' h' => hN acc' ρ' (by rw [List.length_append]; exact h')) h
/-! ### places -/
theorem ixN_int {n : Nat} {k : Int} (h0 : 0 ≤ k) (h : k < n) : ixN n k = some k.toNat := by
  unfold ixN
  rw [if_pos h0, if_pos h]
theorem atI_int {α : Type} {l : List α} {k : Int} {x : α} (h0 : 0 ≤ k) (h : l[k.toNat]? = some x) : atI l k = some x := by
  unfold atI
  have := (List.getElem?_eq_some_iff.mp h).1
  rw [ixN_int h0 (by omega)]
  exact h
/-! ### cuts -/
theorem cut_le {α : Type} (l : List α) (lo hi : Option Int) : (cut l lo hi).length ≤ l.length := by
  unfold cut
  rw [List.length_take, List.length_drop]
  omega
/-! ### cuts between statements -/
theorem sSeq_cut {t u : TSD} {E : EndsD} {ρ : SL} (M : SL → Prop) (h1 : ∀ N : SL → Prop, (∀ ρ', M ρ' → N ρ') → t { E with nx := N } ρ) (h2 : ∀ ρ', M ρ' → u E ρ') : sSeq t u E ρ := h1 _ h2
theorem sSeq_go {t u : TSD} {E : EndsD} {ρ : SL} (h1 : ∀ N : SL → Prop, (∀ ρ', u E ρ' → N ρ') → t { E with nx := N } ρ) : sSeq t u E ρ := h1 _ fun _ h => h
theorem sIf_go {t : TB} {u w : TSD} {E : EndsD} {ρ : SL} (h : ∀ N : Bool → SL → Prop, (∀ ρ', u E ρ' → N true ρ') → (∀ ρ', w E ρ' → N false ρ') → t ρ N) : sIf t u w E ρ :=
  h _ (fun ρ' h => by rw [if_pos rfl]; exact h) (fun ρ' h => by rw [if_neg Bool.false_ne_true]; exact h)
theorem gEq_int {f : Bool → Bool} {i j : Int} {Q : Rv → Prop} : gEq f (.int i) (.int j) Q = Q (.v (.bl (f (decide (i = j))))) := by
  show gEqD f (.int i) (.int j) Q = _
  unfold gEqD
  rw [D.fit, D.fit, D.eqv]
  simp only [true_and]
  congr
theorem Str.beq_dec (x y : Str) : (x == y) = decide (x = y) := by
  by_cases h : x = y
  · subst h; simp
  · rw [decide_eq_false h]; exact beq_false_of_ne h
theorem gEq_str {f : Bool → Bool} {i j : Str} {Q : Rv → Prop} : gEq f (.str i) (.str j) Q = Q (.v (.bl (f (decide (i = j))))) := by
  show gEqD f (.str i) (.str j) Q = _
  unfold gEqD
  rw [D.fit, D.fit, D.eqv, Str.beq_dec]
  simp only [true_and]
theorem atI_0 {α : Type} {x : α} {l : List α} : atI (x :: l) 0 = some x := atI_int (by decide) rfl
theorem atI_1 {α : Type} {x y : α} {l : List α} : atI (x :: y :: l) 1 = some y := atI_int (by decide) rfl
theorem atI_2 {α : Type} {x y z : α} {l : List α} : atI (x :: y :: z :: l) 2 = some z := atI_int (by decide) rfl
theorem atI_3 {α : Type} {x y z u : α} {l : List α} : atI (x :: y :: z :: u :: l) 3 = some u := atI_int (by decide) rfl
theorem ixN_40 : ixN 4 0 = some 0 := by decide
theorem ixN_41 : ixN 4 1 = some 1 := by decide
theorem ixN_42 : ixN 4 2 = some 2 := by decide
theorem cMul_of {i j : Int} (ha : i.natAbs < 2 ^ 250) (hb : j.natAbs < 2 ^ 250) : CMulW i j := wide_mul ha hb (by decide) (by decide) (by decide)
theorem cDiv_of {i j : Int} (h : 0 < j) (hb : j.natAbs < 2 ^ 250) : CDivW i j := wide_div h hb (by decide) (by decide)
theorem nodup1 {i : Nat} : [i].Nodup ↔ True := by simp
theorem gMin2 {i j : Int} {Q : Rv → Prop} : gMin [.int i, .int j] Q = Q (.v (.int (min i j))) := rfl
theorem gMax2 {i j : Int} {Q : Rv → Prop} : gMax [.int i, .int j] Q = Q (.v (.int (max i j))) := rfl
theorem gMax3 {i j k : Int} {Q : Rv → Prop} : gMax [.int i, .int j, .int k] Q = Q (.v (.int (max (max i j) k))) := rfl
mutual
theorem eqv_self : ∀ d : D, (∃ n, D.fit n d = true) → D.eqv d d = true
  | .non, _ => by simp [D.eqv]
  | .bl _, _ => by simp [D.eqv]
  | .int _, _ => by simp [D.eqv]
  | .str _, _ => by simp [D.eqv]
  | .lst l, ⟨n, h⟩ => by
    cases n with
    | zero => simp [D.fit] at h
    | succ n => rw [D.fit] at h; rw [D.eqv]; exact eqvs_self l ⟨n, h⟩
  | .tup l, ⟨n, h⟩ => by
    cases n with
    | zero => simp [D.fit] at h
    | succ n => rw [D.fit] at h; rw [D.eqv]; exact eqvs_self l ⟨n, h⟩
  | .dct _, ⟨_, h⟩ => by simp [D.fit] at h
  | .obj _ _, ⟨_, h⟩ => by simp [D.fit] at h
  | .scr _, ⟨_, h⟩ => by simp [D.fit] at h
  | .rep _, ⟨_, h⟩ => by simp [D.fit] at h
theorem eqvs_self : ∀ l : List D, (∃ n, D.fits n l = true) → D.eqvs l l = true
  | [], _ => by simp [D.eqvs]
  | d :: r, ⟨n, h⟩ => by
    rw [D.fits, Bool.and_eq_true] at h
    rw [D.eqvs, eqv_self d ⟨n, h.1⟩, eqvs_self r ⟨n, h.2⟩]
    rfl
end
theorem dat_sh {d : D} : (Sl.sh d).dat = some d := rfl
theorem dat_ow {c : Cn} : (Sl.ow c).dat = some c.dat := rfl
theorem dat_bw {j : Nat} {c : Cn} : (Sl.bw j c).dat = some c.dat := rfl
theorem dat_un : Sl.un.dat = none := rfl
theorem gEq_bl {f : Bool → Bool} {i j : Bool} {Q : Rv → Prop} : gEq f (.bl i) (.bl j) Q = Q (.v (.bl (f (i == j)))) := by
  show gEqD f (.bl i) (.bl j) Q = _
  unfold gEqD
  rw [D.fit, D.fit, D.eqv]
  simp only [true_and]
theorem fits_strs : ∀ (n : Nat) (l : List Str), D.fits n (l.map D.str) = true
  | n, [] => by simp [D.fits]
  | n, x :: r => by rw [List.map_cons, D.fits, fits_strs n r]; cases n <;> simp [D.fit]
theorem fit_strs (l : List Str) : D.fit 60 (.lst (l.map D.str)) = true := by rw [D.fit]; exact fits_strs 59 l
theorem eqvs_strs : ∀ a b : List Str, D.eqvs (a.map D.str) (b.map D.str) = decide (a = b)
  | [], [] => by simp [D.eqvs]
  | [], _ :: _ => by simp [D.eqvs]
  | _ :: _, [] => by simp [D.eqvs]
  | x :: a, y :: b => by
    rw [List.map_cons, List.map_cons, D.eqvs, eqvs_strs a b, D.eqv, Str.beq_dec]
    simp only [List.cons.injEq, Bool.decide_and]
theorem gEq_strs {f : Bool → Bool} {a b : List Str} {Q : Rv → Prop} : gEq f (.lst (a.map D.str)) (.lst (b.map D.str)) Q = Q (.v (.bl (f (decide (a = b))))) := by
  show gEqD f _ _ Q = _
  unfold gEqD
  rw [fit_strs, fit_strs, D.eqv, eqvs_strs]
  simp only [true_and]
end DL

namespace DL
open PySem L2
/-! ### how long a shown text may be -/
theorem digs16 {c k : Nat} (hk : 0 < k) (h : c < 16 ^ k) : (Nat.toDigits 16 c).length ≤ k := (Nat.length_toDigits_le_iff (by decide) hk).mpr h
theorem reprChar_len {q c : Nat} (h : c < 0x110000) : (Builtin.Str.reprChar q c).length ≤ 10 := by
  have hx : ∀ k, 0 < k → c < 16 ^ k → (List.replicate (k - ((Nat.toDigits 16 c).map Char.toNat).length) 48 ++ (Nat.toDigits 16 c).map Char.toNat).length ≤ k := fun k hk hc => by
    have := digs16 hk hc
    rw [List.length_append, List.length_replicate, List.length_map]
    omega
  unfold Builtin.Str.reprChar
  simp only
  split
  · simp
  · split
    · simp
    · split
      · simp
      · split
        · simp
        · split
          · simp
          · split
            · rename_i h1
              have := hx 2 (by decide) (Nat.lt_of_lt_of_le h1 (by decide))
              rw [List.length_append]
              simp only [List.length_cons, List.length_nil]
              omega
            · split
              · rename_i h1
                have := hx 4 (by decide) (Nat.lt_of_lt_of_le h1 (by decide))
                rw [List.length_append]
                simp only [List.length_cons, List.length_nil]
                omega
              · have := hx 8 (by decide) (Nat.lt_of_lt_of_le h (by decide))
                rw [List.length_append]
                simp only [List.length_cons, List.length_nil]
                omega
theorem fold_repr_len (q : Nat) : ∀ (l : List Nat) (acc : Array Nat), (∀ c ∈ l, c < 0x110000) → (l.foldl (fun out c => out ++ (Builtin.Str.reprChar q c).toArray) acc).size ≤ acc.size + 10 * l.length
  | [], acc, _ => by simp
  | c :: r, acc, h => by
    rw [List.foldl_cons]
    refine Nat.le_trans (fold_repr_len q r _ fun x hx => h x (List.mem_cons_of_mem _ hx)) ?_
    have := reprChar_len (q := q) (h c List.mem_cons_self)
    have e : (Builtin.Str.reprChar q c).toArray.size = (Builtin.Str.reprChar q c).length := List.size_toArray ..
    rw [Array.size_append, e, List.length_cons]
    omega
theorem reprText_len {x : Str} (h : PyData.strOk x = true) : (reprText x).length ≤ 10 * x.length + 2 := by
  rw [strOk_iff] at h
  unfold reprText
  show (Array.push _ _).size ≤ _
  rw [Array.size_push, ← Array.foldl_toList]
  have := fold_repr_len (reprQuote x) x.cps.toList #[reprQuote x] h
  rw [Array.length_toList] at this
  show _ ≤ 10 * x.cps.size + 2
  have e : #[reprQuote x].size = 1 := rfl
  omega
mutual
def D.wt : D → Nat
  | .int _ => 250
  | .str x => 10 * x.length + 2
  | .lst l => 4 + D.wts l
  | .tup l => 4 + D.wts l
  | .non => 10
  | .bl _ => 10
  | .dct kvs => 10 + D.wtk kvs
  | .obj _ _ => 10
  | .scr _ => 10
  | .rep _ => 10
  | .at _ => 10
  | .exc _ _ _ _ _ => 10
  | .err _ _ _ _ => 10
  | .dx _ _ => 10
  | .unk => 10
def D.wts : List D → Nat
  | [] => 0
  | d :: r => D.wt d + 2 + D.wts r
def D.wtk : List (Key × D) → Nat
  | [] => 0
  | (.inl _, d) :: r => 256 + D.wt d + D.wtk r
  | (.inr x, d) :: r => 10 * x.length + 8 + D.wt d + D.wtk r
end
@[simp] theorem wtk_nil : D.wtk [] = 0 := by rw [D.wtk]
theorem join_le (ts : List Str) : (Str.join ", " ts).length ≤ (ts.map fun t => t.length + 2).sum := by
  cases ts with
  | nil => exact Nat.zero_le _
  | cons a r =>
    have := join_length_add (a :: r) (by simp)
    unfold piled at this
    omega
mutual
theorem shown_wt {K : PySem.W.Frag} {F : Hp} : ∀ (n : Nat) (d : D) (v : V), Den K F v d → D.fit n d = true → D.small d = true → d.py.shown.length ≤ D.wt d
  | _, .non, _, _, _, _ => by rw [D.py, PyData.shown_none, D.wt]; decide +kernel
  | _, .bl b, _, _, _, _ => by rw [D.py, PyData.shown_bool, D.wt]; cases b <;> decide +kernel
  | _, .int i, _, _, _, h => by
    have h1 : i.natAbs < 2 ^ 240 := by simpa [D.small] using h
    rw [D.py, PyData.shown_int, D.wt, ofString_length]
    have := int_text_length_le (a := i) (k := 240) (by decide) (by
      by_cases h0 : i.natAbs = 0
      · rw [h0]; decide
      · exact (Nat.log2_lt h0).mpr h1)
    omega
  | _, .str x, _, d, _, _ => by
    cases d with
    | str _ a => rw [D.py, PyData.shown_str, D.wt]; exact reprText_len a
  | 0, .lst _, _, _, e, _ => by simp [D.fit] at e
  | 0, .tup _, _, _, e, _ => by simp [D.fit] at e
  | n + 1, .lst l, _, d, e, h => by
    rw [D.fit] at e
    rw [D.small] at h
    cases d with
    | lst a b =>
      have h1 := showns_wt n l _ b e h
      have h2 := join_le (PyData.shownAll (D.pys l))
      rw [D.py, PyData.shown_list, D.wt, strLen_append, strLen_append]
      have e1 : (Str.ofString "[").length = 1 := rfl
      have e2 : (Str.ofString "]").length = 1 := rfl
      omega
  | n + 1, .tup l, _, d, e, h => by
    rw [D.fit] at e
    rw [D.small] at h
    cases d with
    | tup a b =>
      have h1 := showns_wt n l _ b e h
      have h2 := join_le (PyData.shownAll (D.pys l))
      rw [D.py, PyData.shown_tuple, D.wt, strLen_append, strLen_append]
      have e1 : (Str.ofString "(").length = 1 := rfl
      have e2 : (Str.ofString (if ((D.pys l).length == 1) = true then ",)" else ")")).length ≤ 2 := by split <;> decide
      omega
  | _, .dct _, _, _, e, _ => by simp [D.fit] at e
  | _, .obj _ _, _, _, e, _ => by simp [D.fit] at e
  | _, .scr _, _, _, e, _ => by simp [D.fit] at e
  | _, .rep _, _, _, e, _ => by simp [D.fit] at e
  | _, .at _, _, _, e, _ => by simp [D.fit] at e
  | _, .exc _ _ _ _ _, _, _, e, _ => by simp [D.fit] at e
  | _, .err _ _ _ _, _, _, e, _ => by simp [D.fit] at e
  | _, .dx _ _, _, _, e, _ => by simp [D.fit] at e
  | _, .unk, _, _, e, _ => by simp [D.fit] at e
theorem showns_wt {K : PySem.W.Frag} {F : Hp} : ∀ (n : Nat) (l : List D) (vs : List V), DenL K F vs l → D.fits n l = true → D.smalls l = true → ((PyData.shownAll (D.pys l)).map fun t => t.length + 2).sum ≤ D.wts l
  | _, [], _, _, _, _ => by rw [D.pys, PyData.shownAll_nil, D.wts]; exact Nat.le_refl _
  | n, d :: r, _, h, e, s => by
    rw [D.fits, Bool.and_eq_true] at e
    rw [D.smalls, Bool.and_eq_true] at s
    cases h with
    | cons a b =>
      have h1 := shown_wt n d _ a e.1 s.1
      have h2 := showns_wt n r _ b e.2 s.2
      rw [D.pys, PyData.shownAll_cons, D.wts, List.map_cons, List.sum_cons]
      omega
end
section
variable {X : Cx}
/-! ### isinstance, one built-in type -/
def D.ty : D → Option String
  | .non => some "NoneType"
  | .bl _ => some "bool"
  | .int _ => some "int"
  | .str _ => some "str"
  | .lst _ => some "list"
  | .tup _ => some "tuple"
  | .dct _ => some "dict"
  | _ => none
def isTy (t T : String) : Bool := t == T || (t == "bool" && T == "int")
def tyNames : List String := ["NoneType", "bool", "int", "str", "list", "tuple", "dict"]
theorem kit_isTy (K : PySem.W.Frag) : ∀ t ∈ tyNames, ∀ T ∈ tyNames, PySem.W.kitOne K (.type t) (.type T) = some (isTy t T) := by
  intro t ht T hT
  simp only [tyNames, List.mem_cons, List.not_mem_nil, or_false] at ht hT
  rcases ht with rfl | rfl | rfl | rfl | rfl | rfl | rfl <;> rcases hT with rfl | rfl | rfl | rfl | rfl | rfl | rfl <;> kernel_rfl
theorem D.ty_mem {d : D} {t : String} (h : d.ty = some t) : t ∈ tyNames := by
  cases d <;> cases h <;> decide
theorem Pk.ty {K : PySem.W.Frag} {F H : Hp} {v : V} {d : D} {t : String} (e : Same F H) (h : Pk K F H v d) (q : d.ty = some t) : TyX K H v (.type t) := by
  cases d with
  | non => cases q; cases h.non; exact .base .non
  | bl b => cases q; cases h.bl; exact .base (.bl _)
  | int i => cases q; cases h.int; exact .base (.int _)
  | str x => cases q; cases h.str; exact .base (.str _)
  | lst l => cases q; obtain ⟨p, xs, rfl, a, b⟩ := h.lst e; exact .base (.lst a)
  | tup l => cases q; obtain ⟨p, xs, rfl, a, b⟩ := h.tup; exact .base (.tup (e _ _ a))
  | dct l => cases q; obtain ⟨p, xs, rfl, a, b⟩ := h.dct e; exact .base (.dK a)
  | _ => cases q
def gIsi (T : String) : D → (Rv → Prop) → Prop := fun d Q => ∃ t, d.ty = some t ∧ Q (.v (.bl (isTy t T)))
theorem de_isi {T : String} {y : Str} {e : Expr} {te : TE} {t : TQ} {p p2 pos : Pos} (hg : Gl X "isinstance") (hm : X.mg "isinstance" = none) (he : DO X e te t) (hgT : Gl X y) (hmT : X.mg y = none) (hv : bootBuiltins y = some (.type T)) (hT : T ∈ tyNames) (hy : y ≠ "__name__" := by decide) (hdy : (y == ("__debug__" : Str)) = false := by decide)
    (hs2 : starEach [.Name y p2] X.env = (false, eval (.Name y p2) X.env) :: starEach [] X.env := by rfl)
    (hs : starEach [e, .Name y p2] X.env = (false, eval e X.env) :: starEach [.Name y p2] X.env := by rfl) (hpl : (backTo pos (starEach [.Name y p2] X.env)).any (·.1) = false := by rfl) :
    DE X (.Call (.Name "isinstance" p) [e, .Name y p2] [] pos) (tCB (rIsi X.K) (tCons te (tCons (tC (.ty T)) tNil))) (dUn (gIsi T) t) := by
  refine ⟨pe_callB call_isi hg hm PyProof.Rows.boot_isinstance (pa_cons he.pe (pa_cons (pe_bltn hgT hmT hv rfl hy hdy) pa_nil hs2) hs) (by decide) (by decide) hs hpl, fun {G σ H F ρ Q Qd} R q k => ?_⟩
  refine he.sem R q fun o ρ1 v H1 F1 q1 s1 R1 d1 => ?_
  cases ea : o.get ρ1 with
  | none => simp only [ea] at q1
  | some d =>
    simp only [ea] at q1
    obtain ⟨t1, h1, h2⟩ := q1
    exact ⟨v, .ty T, .type t1, .type T, isTy t1 T, rfl, .ty T, (d1.pk R1 ea).ty R1.ext h1, kit_isTy X.K t1 (D.ty_mem h1) T hT, k _ _ _ _ _ h2 s1 R1 (.bl _)⟩
theorem gIsi_non {T : String} {Q : Rv → Prop} : gIsi T .non Q = Q (.v (.bl (isTy "NoneType" T))) := by unfold gIsi; simp [D.ty]
theorem gIsi_bl {T : String} {b : Bool} {Q : Rv → Prop} : gIsi T (.bl b) Q = Q (.v (.bl (isTy "bool" T))) := by unfold gIsi; simp [D.ty]
theorem gIsi_int {T : String} {b : Int} {Q : Rv → Prop} : gIsi T (.int b) Q = Q (.v (.bl (isTy "int" T))) := by unfold gIsi; simp [D.ty]
theorem gIsi_str {T : String} {b : Str} {Q : Rv → Prop} : gIsi T (.str b) Q = Q (.v (.bl (isTy "str" T))) := by unfold gIsi; simp [D.ty]
theorem gIsi_lst {T : String} {b : List D} {Q : Rv → Prop} : gIsi T (.lst b) Q = Q (.v (.bl (isTy "list" T))) := by unfold gIsi; simp [D.ty]
theorem gIsi_tup {T : String} {b : List D} {Q : Rv → Prop} : gIsi T (.tup b) Q = Q (.v (.bl (isTy "tuple" T))) := by unfold gIsi; simp [D.ty]
theorem gIsi_dct {T : String} {b : List (Key × D)} {Q : Rv → Prop} : gIsi T (.dct b) Q = Q (.v (.bl (isTy "dict" T))) := by unfold gIsi; simp [D.ty]
/-! ### x is None, x is True -/
def rIsC (f : Bool → Bool) : R2 := fun x y H Q => (y = .non ∨ ∃ b, y = .bl b) ∧ ((x = y ∧ Q (.bl (f true)) H) ∨ (x ≠ y ∧ Q (.bl (f false)) H))
theorem plain_nb {x : V} {u w : Value} (hu : RelV x u) (hw : w = .none ∨ ∃ b, w = .bool b) : plainIs u w = true := by
  rcases hw with rfl | ⟨b, rfl⟩
  · cases x <;> first | (cases hu; rfl) | (obtain ⟨t, rfl⟩ := hu; rfl)
  · cases x <;> first | (cases hu; rfl) | (obtain ⟨t, rfl⟩ := hu; rfl)
theorem rel_nb {y : V} {w : Value} (h : y = .non ∨ ∃ b, y = .bl b) (r : RelV y w) : w = .none ∨ ∃ b, w = .bool b := by
  rcases h with rfl | ⟨b, rfl⟩
  · cases r; exact .inl rfl
  · cases r; exact .inr ⟨b, rfl⟩
theorem beq_nb {x y : V} {u w : Value} (hu : RelV x u) (h : y = .non ∨ ∃ b, y = .bl b) (r : RelV y w) : (u == w) = decide (x = y) := by
  rcases h with rfl | ⟨b, rfl⟩
  · cases r
    cases x <;> first | (cases hu; rfl) | (obtain ⟨t, rfl⟩ := hu; rfl)
  · cases r
    cases x with
    | bl c => cases hu; cases b <;> cases c <;> rfl
    | _ => first | (cases hu; rfl) | (obtain ⟨t, rfl⟩ := hu; rfl)
theorem op_isA : OpR X (compareOp .Is) (rIsC id) := by
  intro pins s σ H x y v u Q I rx ry h
  obtain ⟨hy, h⟩ := h
  refine wpAny_is_plain (plain_nb rx (rel_nb hy ry)) ?_
  rw [beq_nb rx hy ry]
  rcases h with ⟨rfl, q⟩ | ⟨ne, q⟩
  · exact fin_bl I q (by simp)
  · exact fin_bl I q (by simp [ne])
def gIsC (f : Bool → Bool) : D → D → (Rv → Prop) → Prop
  | .unk, _ => fun _ => False
  | .non, .non => fun Q => Q (.v (.bl (f true)))
  | _, .non => fun Q => Q (.v (.bl (f false)))
  | .bl a, .bl b => fun Q => Q (.v (.bl (f (a == b))))
  | _, .bl _ => fun Q => Q (.v (.bl (f false)))
  | _, _ => fun _ => False
theorem Pk.notBl {K : PySem.W.Frag} {F H : Hp} {v : V} {d : D} {b : Bool} (h : Pk K F H v d) (hd : ∀ c, d ≠ .bl c) (hu : d ≠ .unk) : v ≠ .bl b := by
  intro e
  subst e
  rcases h with h | ⟨p, c, e, _⟩
  · cases h
    · exact hd _ rfl
    · exact hu rfl
  · cases e
theorem sem_isC {f : Bool → Bool} : SemOp X.K (rIsC f) (gIsC f) := by
  intro G σ H F ρ x y a b Q Qd R ha hb h k
  unfold gIsC at h
  split at h
  · exact h.elim
  · cases ha.non; cases hb.non
    exact ⟨.inl rfl, .inl ⟨rfl, k _ _ _ _ h (Same.refl _) R (.bl _)⟩⟩
  · rename_i hu hn
    cases hb.non
    exact ⟨.inl rfl, .inr ⟨of_decide_eq_false (ha.notNon (fun e => hn (by rw [e])) fun e => hu (by rw [e])), k _ _ _ _ h (Same.refl _) R (.bl _)⟩⟩
  · cases ha.bl; cases hb.bl
    rename_i a b
    refine ⟨.inr ⟨_, rfl⟩, ?_⟩
    by_cases e : a = b
    · subst e
      rw [beq_self_eq_true] at h
      exact .inl ⟨rfl, k _ _ _ _ h (Same.refl _) R (.bl _)⟩
    · rw [beq_false_of_ne e] at h
      exact .inr ⟨fun z => e (by cases z; rfl), k _ _ _ _ h (Same.refl _) R (.bl _)⟩
  · rename_i hu hn
    cases hb.bl
    exact ⟨.inr ⟨_, rfl⟩, .inr ⟨ha.notBl (fun c e => hn c e) (fun e => hu e), k _ _ _ _ h (Same.refl _) R (.bl _)⟩⟩
  · exact h.elim
theorem sem_isA : SemOp X.K (rIsC id) (gIsC id) := sem_isC
/-! ### more of one's own list -/
theorem ty0 : isTy "NoneType" "bool" = false := rfl
theorem ty1 : isTy "NoneType" "int" = false := rfl
theorem ty2 : isTy "NoneType" "str" = false := rfl
theorem ty3 : isTy "NoneType" "list" = false := rfl
theorem ty4 : isTy "NoneType" "tuple" = false := rfl
theorem ty5 : isTy "NoneType" "dict" = false := rfl
theorem ty6 : isTy "bool" "bool" = true := rfl
theorem ty7 : isTy "bool" "int" = true := rfl
theorem ty8 : isTy "bool" "str" = false := rfl
theorem ty9 : isTy "bool" "list" = false := rfl
theorem ty10 : isTy "bool" "tuple" = false := rfl
theorem ty11 : isTy "bool" "dict" = false := rfl
theorem ty12 : isTy "int" "bool" = false := rfl
theorem ty13 : isTy "int" "int" = true := rfl
theorem ty14 : isTy "int" "str" = false := rfl
theorem ty15 : isTy "int" "list" = false := rfl
theorem ty16 : isTy "int" "tuple" = false := rfl
theorem ty17 : isTy "int" "dict" = false := rfl
theorem ty18 : isTy "str" "bool" = false := rfl
theorem ty19 : isTy "str" "int" = false := rfl
theorem ty20 : isTy "str" "str" = true := rfl
theorem ty21 : isTy "str" "list" = false := rfl
theorem ty22 : isTy "str" "tuple" = false := rfl
theorem ty23 : isTy "str" "dict" = false := rfl
theorem ty24 : isTy "list" "bool" = false := rfl
theorem ty25 : isTy "list" "int" = false := rfl
theorem ty26 : isTy "list" "str" = false := rfl
theorem ty27 : isTy "list" "list" = true := rfl
theorem ty28 : isTy "list" "tuple" = false := rfl
theorem ty29 : isTy "list" "dict" = false := rfl
theorem ty30 : isTy "tuple" "bool" = false := rfl
theorem ty31 : isTy "tuple" "int" = false := rfl
theorem ty32 : isTy "tuple" "str" = false := rfl
theorem ty33 : isTy "tuple" "list" = false := rfl
theorem ty34 : isTy "tuple" "tuple" = true := rfl
theorem ty35 : isTy "tuple" "dict" = false := rfl
theorem ty36 : isTy "dict" "bool" = false := rfl
theorem ty37 : isTy "dict" "int" = false := rfl
theorem ty38 : isTy "dict" "str" = false := rfl
theorem ty39 : isTy "dict" "list" = false := rfl
theorem ty40 : isTy "dict" "tuple" = false := rfl
theorem ty41 : isTy "dict" "dict" = true := rfl
end
section
variable {X : Cx}
theorem mid_get {α : Type} {l p r : List α} {x : α} (e : l = p ++ x :: r) : l[p.length]? = some x := by subst e; simp
theorem forL_ix {g : TGd} {b : TSD} {E : EndsD} (I : Nat → SL → Prop) {l : List D} {ρ : SL} (hI : I 0 ρ) (h0 : ∀ ρ, I l.length ρ → E.nx ρ)
    (h1 : ∀ (i : Nat) (x : D) (ρ : SL) (N : SL → Prop), l[i]? = some x → (∀ ρ', I (i + 1) ρ' → N ρ') → I i ρ → g x ρ fun ρ1 => b { nx := N, rt := E.rt, bk := E.nx, ct := N, xc := E.xc, xh := E.xh } ρ1) : forL g b E l ρ := by
  have := forL_on (fun x : D => x) (g := g) (b := b) (E := E) (fun p r ρ => I p.length ρ) (l := l) hI (fun ρ h => h0 ρ h) fun p x r ρ N e hN h => h1 p.length x ρ N (mid_get e) (fun ρ' h' => hN ρ' (by rw [List.length_append]; exact h')) h
  rwa [List.map_id'] at this
theorem lcL_ix {g : TGd} {tt : TB} {te : TD} {vs : List Nat} {Q : List D → SL → Prop} (I : Nat → List D → SL → Prop) {l : List D} {ρ : SL} (hI : I 0 [] ρ) (h0 : ∀ acc ρ, I l.length acc ρ → Q acc ρ)
    (h1 : ∀ (i : Nat) (x : D) (acc : List D) (ρ : SL) (N : List D → SL → Prop), l[i]? = some x → (∀ acc' ρ', I (i + 1) acc' ρ' → N acc' ρ') → I i acc ρ →
      g x ρ fun ρ1 => tt ρ1 fun b ρ2 => if b = true then te ρ2 fun rv ρ3 => acc.length < sizeLine ∧ N (acc ++ [rv.dat]) (wipeD ρ3 vs) else N acc (wipeD ρ2 vs)) : lcL g tt te vs Q l [] ρ := by
  have := lcL_on (fun x : D => x) (g := g) (tt := tt) (te := te) (vs := vs) (Q := Q) (fun p r acc ρ => I p.length acc ρ) (l := l) hI (fun acc ρ h => h0 acc ρ h) fun p x r acc ρ N e hN h => h1 p.length x acc ρ N (mid_get e) (fun acc' ρ' h' => hN acc' ρ' (by rw [List.length_append]; exact h')) h
  rwa [List.map_id'] at this
end
end DL

namespace DL
open PySem PySem.Spec L2 PyProof.Rows
/-! ### what is never run -/
/-! ### fields -/
section
variable {K : PySem.W.Frag} {F F' : Hp}
theorem DenO.lookup : ∀ {gs : List (Str × V)} {fs : List (Str × D)} {f : Str} {d : D}, DenO K F gs fs → fs.lookup f = some d → ∃ v, gs.lookup f = some v ∧ Den K F v d
  | _, _, f, d, .nil, e => by cases e
  | _, _, f, d, .cons (k := k) a t, e => by
    rw [List.lookup_cons] at e ⊢
    split at e
    · cases e; exact ⟨_, rfl, a⟩
    · exact DenO.lookup t e
def putFD (f : Str) (v : D) : List (Str × D) → List (Str × D)
  | [] => [(f, v)]
  | (g, x) :: r => if g = f then (g, v) :: r else (g, x) :: putFD f v r
theorem DenO.put {f : Str} {v : V} {d : D} (h : Den K F v d) : ∀ {gs : List (Str × V)} {fs : List (Str × D)}, DenO K F gs fs → DenO K F (putF f v gs) (putFD f d fs)
  | _, _, .nil => .cons h .nil
  | _, _, .cons (k := k) a t => by
    unfold putF putFD
    by_cases e : k = f
    · rw [if_pos e, if_pos e]; exact .cons h t
    · rw [if_neg e, if_neg e]; exact .cons a (DenO.put h t)
theorem DenO.length : ∀ {gs : List (Str × V)} {fs : List (Str × D)}, DenO K F gs fs → gs.length = fs.length
  | _, _, .nil => rfl
  | _, _, .cons _ t => by rw [List.length_cons, List.length_cons, t.length]
end
section
variable {X : Cx}
/-! ### methods -/
end
end DL

namespace DL
open PySem PySem.Spec L2 PyProof.Rows
section
variable {X : Cx}
/-! ### C(..) -/
/-! ### properties -/
/-! ### an instance called -/
end
end DL

namespace DL
open PySem L2
/-! ### repr of data with empty dicts among them -/
/-! ### repr of data with dicts of plain values among them -/
/-- entries: values that are no containers -/
inductive AtV : V → PyData → Prop
  | non : AtV .non .none
  | bl (b : Bool) : AtV (.bl b) (.bool b)
  | int (i : Int) : AtV (.int i) (.int i)
  | str (x : Str) : AtV (.str x) (.str x)
inductive DrK : List (Key × V) → List (PyData × PyData) → Prop
  | nil : DrK [] []
  | cons {k : Key} {v : V} {d : PyData} {ks : List (Key × V)} {kvs : List (PyData × PyData)} : AtV v d → DrK ks kvs → DrK ((k, v) :: ks) ((keyPy k, d) :: kvs)
mutual
inductive Dr (H : Hp) : V → PyData → Prop
  | non : Dr H .non .none
  | bl (b : Bool) : Dr H (.bl b) (.bool b)
  | int (i : Int) : Dr H (.int i) (.int i)
  | str (x : Str) : Dr H (.str x) (.str x)
  | lst {a : Addr} {xs : List V} {ds : List PyData} : H a = some (.lst xs) → DrAll H xs ds → Dr H (.ref a) (.list ds)
  | tup {a : Addr} {xs : List V} {ds : List PyData} : H a = some (.tup xs) → DrAll H xs ds → Dr H (.ref a) (.tuple ds)
  | dct {a : Addr} {ks : List (Key × V)} {kvs : List (PyData × PyData)} : H a = some (.dK ks) → DrK ks kvs → Dr H (.ref a) (.dict kvs)
inductive DrAll (H : Hp) : List V → List PyData → Prop
  | nil : DrAll H [] []
  | cons {v : V} {vs : List V} {d : PyData} {ds : List PyData} : Dr H v d → DrAll H vs ds → DrAll H (v :: vs) (d :: ds)
end
section
variable {X : Cx} {pins : List (Addr × Obj)} {σ : L2.St} {H : Hp} {s : Shared}
theorem sysOf (I : Inv X pins σ H s) {a : Addr} {ks : List (Key × V)} (h : H a = some (.dK ks)) : (a == sysModules) = false := (show ObjOk X.prog X.w H s.heap a (.dK ks) from I.hok a _ h).2.1
theorem entriesAt (I : Inv X pins σ H s) {a : Addr} {ks : List (Key × V)} (h : H a = some (.dK ks)) : ∃ o es ep vs, s.heap.get? a = some o ∧ o.cls = .type "dict" ∧ o.data = .dict es ep ∧ KV ks vs ∧ Pairs (mixKind X.prog X.w) es.toList vs := by
  obtain ⟨_, _, vs, kv, o, es, ep, h1, h2, h3, _, h5, _⟩ := (show ObjOk X.prog X.w H s.heap a (.dK ks) from I.hok a _ h)
  exact ⟨o, es, ep, vs, h1, h2.1, h3, kv, h5⟩
theorem atReads {h : Heap} {v : V} {d : PyData} {u : Value} (a : AtV v d) (r : RelV v u) : Reads h u d [] := by
  cases a with
  | non => cases r; exact Reads.none
  | bl b => cases r; exact Reads.bool b
  | int i => obtain ⟨t, rfl⟩ := r; exact Reads.int i t
  | str x => obtain ⟨t, rfl⟩ := r; exact Reads.str x t
theorem keyReads {h : Heap} {k : Key} {u : Value} (e : keyIs k u = true) : Reads h u (keyPy k) [] := by
  rcases keyIs_shape e with ⟨i, t, rfl, rfl⟩ | ⟨x, t, rfl, rfl⟩
  · exact Reads.int i t
  · exact Reads.str x t
theorem entsRead {P : Program} {w : World} {h : Heap} : ∀ {ks : List (Key × V)} {kvs : List (PyData × PyData)} {vs : List (Key × Value)} {es : List DictEntry}, DrK ks kvs → KV ks vs → Pairs (mixKind P w) es vs →
    ReadsAll h (es.map (·.key)) (kvs.map (·.1)) [] ∧ ReadsAll h (es.map (·.val)) (kvs.map (·.2)) []
  | _, _, _, _, .nil, k, p => by
    cases k; cases p
    exact ⟨ReadsAll.nil, ReadsAll.nil⟩
  | _, _, _, _, .cons a r, k, p => by
    cases k with
    | cons k1 k2 =>
      cases p with
      | cons p1 p2 p3 =>
        obtain ⟨g1, g2⟩ := entsRead (h := h) r k2 p3
        have e1 := k1.1
        simp only at e1
        have p1' : keyIs _ _ = true := p1
        rw [← e1] at p1'
        refine ⟨ReadsAll.cons (as := []) (bs := []) (keyReads p1') g1, ReadsAll.cons (as := []) (bs := []) (atReads a ?_) g2⟩
        show RelV _ (DictEntry.val _)
        rw [p2]
        exact k1.2
theorem atIs {P : Program} {w : World} {v : V} {d : PyData} {u : Value} (a : AtV v d) (r : RelV v u) (hs : d.showable = true) (hz : d.shown.length ≤ sizeLine) : ReprIs P w u d.shown := by
  cases a with
  | non => cases r; rw [PyData.shown_none]; exact ReprIs.none
  | bl b => cases r; rw [PyData.shown_bool]; exact ReprIs.bool b
  | int i => obtain ⟨t, rfl⟩ := r; rw [PyData.shown_int]; exact ReprIs.int t (by simpa [PyData.showable] using hs)
  | str x => obtain ⟨t, rfl⟩ := r; rw [PyData.shown_str] at hz ⊢; exact ReprIs.str x t hz
theorem keyReprIs {P : Program} {w : World} {k : Key} {u : Value} (e : keyIs k u = true) (hs : (keyPy k).showable = true) (hz : (keyPy k).shown.length ≤ sizeLine) : ReprIs P w u (keyPy k).shown := by
  rcases keyIs_shape e with ⟨i, t, rfl, rfl⟩ | ⟨x, t, rfl, rfl⟩
  · rw [show keyPy (.inl i) = .int i from rfl, PyData.shown_int]
    exact ReprIs.int t (by simpa [PyData.showable, keyPy] using hs)
  · rw [show keyPy (.inr x) = .str x from rfl, PyData.shown_str] at hz ⊢
    exact ReprIs.str x t hz
theorem shownKv_cons (k v : PyData) (r : List (PyData × PyData)) : PyData.shownKv ((k, v) :: r) = (k.shown ++ ": " ++ v.shown) :: PyData.shownKv r := by simp only [PyData.shownKv]
theorem entsRepr {P : Program} {w : World} {h : Heap} : ∀ {ks : List (Key × V)} {kvs : List (PyData × PyData)} {vs : List (Key × Value)} {es : List DictEntry}, DrK ks kvs → KV ks vs → Pairs (mixKind P w) es vs → PyData.showableKv kvs = true → (∀ t ∈ PyData.shownKv kvs, t.length ≤ sizeLine) →
    ReprEntriesK P w [] h 0 es (PyData.shownKv kvs)
  | _, _, _, _, .nil, k, p, _, _ => by
    cases k; cases p
    simp only [PyData.shownKv]
    exact .nil
  | _, _, _, _, .cons (d := d) a r, k, p, hs, hz => by
    cases k with
    | cons k1 k2 =>
      cases p with
      | cons p1 p2 p3 =>
        rw [PyData.showableKv, Bool.and_eq_true, Bool.and_eq_true] at hs
        rw [shownKv_cons] at hz ⊢
        have e1 := k1.1
        simp only at e1
        have p1' : keyIs _ _ = true := p1
        rw [← e1] at p1'
        have h0 := hz _ List.mem_cons_self
        rw [strLen_append, strLen_append] at h0
        refine .cons (.of_is (keyReprIs p1' hs.1.1 (by omega)) _ _ _) (.of_is (atIs a ?_ hs.1.2 (by omega)) _ _ _) (entsRepr r k2 p3 hs.2 fun t ht => hz t (List.mem_cons_of_mem _ ht))
        rw [p2]
        exact k1.2
theorem drK_depth : ∀ {ks : List (Key × V)} {kvs : List (PyData × PyData)}, DrK ks kvs → PyData.depthKv kvs = 0
  | _, _, .nil => by simp [PyData.depthKv]
  | _, _, .cons (k := k) a r => by
    rw [PyData.depthKv, drK_depth r]
    have h1 : PyData.depth (keyPy k) = 0 := by cases k <;> simp [keyPy, PyData.depth]
    rw [h1]
    cases a <;> simp [PyData.depth]
theorem shown_dictText (kvs : List (PyData × PyData)) : (PyData.dict kvs).shown = dictText (PyData.shownKv kvs) := by simp only [PyData.shown]
mutual
theorem Dr.reads (I : Inv X pins σ H s) : ∀ (d : PyData) (v : V) (u : Value), Dr H v d → RelV v u → ∃ as, Reads s.heap u d as
  | .none, _, _, h, r => by
    cases h; cases r
    exact ⟨_, Reads.none⟩
  | .bool b, _, _, h, r => by
    cases h; cases r
    exact ⟨_, Reads.bool b⟩
  | .int i, _, _, h, r => by
    cases h
    obtain ⟨t, rfl⟩ := r
    exact ⟨_, Reads.int i t⟩
  | .str x, _, _, h, r => by
    cases h
    obtain ⟨t, rfl⟩ := r
    exact ⟨_, Reads.str x t⟩
  | .list ds, _, _, h, r => by
    cases h with
    | lst hs ha =>
      cases r
      obtain ⟨its, rv, ⟨o, n, ho, hc, _, hd⟩, _⟩ := I.list (.inl (.inl hs))
      obtain ⟨as, hr⟩ := Dr.readsAll I ds _ its ha rv
      exact ⟨_, Reads.list ho hc hd hr⟩
  | .tuple ds, _, _, h, r => by
    cases h with
    | tup hs ha =>
      cases r
      obtain ⟨its, rv, ⟨o, ho, hc, n, hd⟩, _⟩ := I.tuple (.inl (.inl hs))
      obtain ⟨as, hr⟩ := Dr.readsAll I ds _ its ha rv
      exact ⟨_, Reads.tuple ho hc hd hr⟩
  | .dict ds, _, _, h, r => by
    cases h with
    | dct hs hk =>
      cases r
      obtain ⟨o, es, ep, vs, h1, h2, h3, kv, hp⟩ := entriesAt I hs
      obtain ⟨g1, g2⟩ := entsRead (h := s.heap) hk kv hp
      exact ⟨_, Reads.dict (as := []) (bs := []) h1 h2 h3 g1 g2⟩
theorem Dr.readsAll (I : Inv X pins σ H s) : ∀ (ds : List PyData) (vs : List V) (us : List Value), DrAll H vs ds → Vals vs us → ∃ as, ReadsAll s.heap us ds as
  | [], _, _, h, r => by
    cases h; cases r
    exact ⟨_, ReadsAll.nil⟩
  | d :: ds, _, _, h, r => by
    cases h with
    | cons h1 h2 =>
      cases r with
      | cons r1 r2 =>
        obtain ⟨as, q1⟩ := Dr.reads I d _ _ h1 r1
        obtain ⟨bs, q2⟩ := Dr.readsAll I ds _ _ h2 r2
        exact ⟨_, ReadsAll.cons q1 q2⟩
end
theorem shown_listText (xs : List PyData) : (PyData.list xs).shown = listText (PyData.shownAll xs) := by simp only [PyData.shown]
theorem shown_tupleText (xs : List PyData) : (PyData.tuple xs).shown = tupleText (PyData.shownAll xs) := by simp only [PyData.shown]
mutual
theorem Dr.show (I : Inv X pins σ H s) : ∀ (d : PyData) (v : V) (u : Value), Dr H v d → RelV v u → d.showable = true → d.shown.length ≤ sizeLine → ∃ bs, ReadAtMost s.heap d.depth bs ∧ ReprK X.prog X.w bs s.heap d.depth u d.shown
  | .none, v, u, h, r, hs, hz => by
    obtain ⟨as, q⟩ := Dr.reads I _ v u h r
    exact ReprK.of_reads q hs (fun z => by simp [PyData.hasDict] at z) hz
  | .bool b, v, u, h, r, hs, hz => by
    obtain ⟨as, q⟩ := Dr.reads I _ v u h r
    exact ReprK.of_reads q hs (fun z => by simp [PyData.hasDict] at z) hz
  | .int i, v, u, h, r, hs, hz => by
    obtain ⟨as, q⟩ := Dr.reads I _ v u h r
    exact ReprK.of_reads q hs (fun z => by simp [PyData.hasDict] at z) hz
  | .str x, v, u, h, r, hs, hz => by
    obtain ⟨as, q⟩ := Dr.reads I _ v u h r
    exact ReprK.of_reads q hs (fun z => by simp [PyData.hasDict] at z) hz
  | .list ds, v, u, h, r, hs, hz => by
    cases h with
    | lst hl ha =>
      cases r
      obtain ⟨its, rv, ⟨o, n, ho, hc, _, hd⟩, _⟩ := I.list (.inl (.inl hl))
      obtain ⟨as, hr⟩ := Dr.readsAll I ds _ its ha rv
      rw [shown_listText] at hz ⊢
      obtain ⟨bs, hb, hk⟩ := Dr.showAll I ds _ its ha rv (by rw [PyData.showable] at hs; exact hs) fun t ht => Nat.le_trans (listText_mem_le ht) hz
      have rr := Reads.list ho hc hd hr
      have hna := not_mem_of_deeper rr (by rw [PyData.depth]; exact Nat.lt_succ_self _) hb
      refine ⟨_ :: bs, ReadAtMost.cons rr (Nat.le_refl _) fun b m => ?_, ?_⟩
      · obtain ⟨d', as', r', hd'⟩ := hb b m
        exact ⟨d', as', r', by rw [PyData.depth]; exact Nat.le_succ_of_le hd'⟩
      · rw [PyData.depth]
        cases its with
        | nil =>
          cases rv
          cases ha
          exact ReprK.listEmpty ho hc hd
        | cons x l => exact ReprK.list ho hc hd hna hk.length_eq fun i y e => hk.item i y (by rwa [List.getElem?_toArray] at e)
  | .tuple ds, v, u, h, r, hs, hz => by
    cases h with
    | tup hl ha =>
      cases r
      obtain ⟨its, rv, ⟨o, ho, hc, n, hd⟩, _⟩ := I.tuple (.inl (.inl hl))
      obtain ⟨as, hr⟩ := Dr.readsAll I ds _ its ha rv
      rw [shown_tupleText] at hz ⊢
      obtain ⟨bs, hb, hk⟩ := Dr.showAll I ds _ its ha rv (by rw [PyData.showable] at hs; exact hs) fun t ht => Nat.le_trans (tupleText_mem_le ht) hz
      have rr := Reads.tuple ho hc hd hr
      have hna := not_mem_of_deeper rr (by rw [PyData.depth]; exact Nat.lt_succ_self _) hb
      refine ⟨_ :: bs, ReadAtMost.cons rr (Nat.le_refl _) fun b m => ?_, ?_⟩
      · obtain ⟨d', as', r', hd'⟩ := hb b m
        exact ⟨d', as', r', by rw [PyData.depth]; exact Nat.le_succ_of_le hd'⟩
      · rw [PyData.depth]
        exact ReprK.tuple ho hc hd hna hk
  | .dict kvs, v, u, h, r, hs, hz => by
    obtain ⟨as, q⟩ := Dr.reads I _ v u h r
    cases h with
    | dct hl hk =>
      cases r
      obtain ⟨o, es, ep, vs, h1, h2, h3, kv, hp⟩ := entriesAt I hl
      rw [shown_dictText] at hz ⊢
      have k := ReprK.dict (prog := X.prog) (w := X.w) (as := []) (d := 0) (ps := PyData.shownKv kvs) h1 h2 h3 (sysOf I hl) (by simp) (entsRepr hk kv hp (by rw [PyData.showable] at hs; exact hs) fun t ht => Nat.le_trans (dictText_mem_le ht) hz)
      refine ⟨[_], ReadAtMost.cons q (Nat.le_refl _) fun b m => (by cases m), ?_⟩
      have e2 : (PyData.dict kvs).depth = 0 + 1 := by rw [PyData.depth, drK_depth hk]
      rw [e2]
      exact k
theorem Dr.showAll (I : Inv X pins σ H s) : ∀ (ds : List PyData) (vs : List V) (us : List Value), DrAll H vs ds → Vals vs us → PyData.showableAll ds = true → (∀ t ∈ PyData.shownAll ds, t.length ≤ sizeLine) →
    ∃ bs, ReadAtMost s.heap (PyData.depthAll ds) bs ∧ ReprAllK X.prog X.w bs s.heap (PyData.depthAll ds) us (PyData.shownAll ds)
  | [], _, _, h, r, _, _ => by
    cases h; cases r
    exact ⟨[], fun b m => (by cases m), by rw [PyData.shownAll_nil]; exact .nil⟩
  | d :: ds, _, _, h, r, hs, hz => by
    cases h with
    | cons h1 h2 =>
      cases r with
      | cons r1 r2 =>
        rw [PyData.showableAll, Bool.and_eq_true] at hs
        rw [PyData.shownAll_cons] at hz ⊢
        obtain ⟨b1, m1, k1⟩ := Dr.show I d _ _ h1 r1 hs.1 (hz _ List.mem_cons_self)
        obtain ⟨b2, m2, k2⟩ := Dr.showAll I ds _ _ h2 r2 hs.2 fun t ht => hz t (List.mem_cons_of_mem _ ht)
        refine ⟨b1 ++ b2, fun b m => ?_, ?_⟩
        · rcases List.mem_append.mp m with m | m
          · obtain ⟨d', as', r', hd'⟩ := m1 b m
            exact ⟨d', as', r', by rw [PyData.depthAll]; omega⟩
          · obtain ⟨d', as', r', hd'⟩ := m2 b m
            exact ⟨d', as', r', by rw [PyData.depthAll]; omega⟩
        · refine .cons ((k1.more fun b m => List.mem_append_left _ m).level_le (by rw [PyData.depthAll]; omega)) ?_
          exact k2.more_le (fun b m => List.mem_append_right _ m) (by rw [PyData.depthAll]; omega)
end
end
section
variable {K : PySem.W.Frag} {F : Hp}
end
section
variable {X : Cx}
end
end DL

namespace DL
open PySem L2
section
variable {X : Cx}
/-! ### truths among numbers -/
/-! ### str(number), tuple(list) -/
end
/-! ### what repr shows -/
section
end
end DL

/-! Piles: things of one's own that only other things hold. -/
namespace DL
open PySem L2
abbrev Pile := List (Addr × Cn)
def plOf (ρ : SL) (g : Nat) : Option Pile := match ρ[g]? with
  | some (.pl hs) => some hs
  | some .un => some []
  | _ => none
def plSet (hs : Pile) (p : Addr) (c : Cn) : Pile := hs.map fun x => if x.1 = p then (p, c) else x
theorem plSet_fst (hs : Pile) (p : Addr) (c : Cn) : (plSet hs p c).map (·.1) = hs.map (·.1) := by
  unfold plSet
  rw [List.map_map]
  apply List.map_congr_left
  intro x _
  by_cases e : x.1 = p
  · simp [e]
  · simp [e]
theorem plSet_mem {hs : Pile} {p q : Addr} {c d : Cn} (h : (q, d) ∈ plSet hs p c) : (q = p ∧ d = c ∧ ∃ c0, (p, c0) ∈ hs) ∨ (q ≠ p ∧ (q, d) ∈ hs) := by
  unfold plSet at h
  obtain ⟨⟨a, b⟩, h1, h2⟩ := List.mem_map.mp h
  by_cases e : a = p
  · subst e
    simp at h2
    obtain ⟨rfl, rfl⟩ := h2
    exact .inl ⟨rfl, rfl, b, h1⟩
  · simp [e] at h2
    obtain ⟨rfl, rfl⟩ := h2
    exact .inr ⟨e, h1⟩
theorem mem_fst {hs : Pile} {p : Addr} {c : Cn} (h : (p, c) ∈ hs) : p ∈ hs.map (·.1) := List.mem_map.mpr ⟨_, h, rfl⟩
section
variable {K : PySem.W.Frag} {G : Cd} {σ : St} {H F : Hp} {ρ : SL} {v : V} {c : Cn} {g : Nat} {p : Addr} {hs : Pile}
theorem plOf_set {hs' : Pile} (h : plOf ρ g = some hs') : plOf (ρ.set g (.pl hs)) g = some hs := by
  unfold plOf at h ⊢
  have hl : g < ρ.length := by
    cases q : ρ[g]? with
    | none => rw [q] at h; cases h
    | some s => exact (List.getElem?_eq_some_iff.mp q).1
  rw [List.getElem?_set_self hl]
/-- a slot of which nothing is known may hold an empty pile; a pile may be made smaller -/
theorem Rep.plSub {hs' : Pile} (R : Rep K G σ H F ρ) (h : plOf ρ g = some hs) (hsub : hs'.Sublist hs) : Rep K G σ H F (ρ.set g (.pl hs')) := by
  have nos : ∀ (j : Nat) (s : Sl), (ρ.set g (.pl hs'))[j]? = some s → (j = g ∧ s = .pl hs') ∨ (j ≠ g ∧ ρ[j]? = some s) := fun j s e => set_get e
  have P := R.pl
  have cas : ρ[g]? = some (.pl hs) ∨ hs = [] := by
    unfold plOf at h
    split at h
    · rename_i q; cases h; exact .inl q
    · cases h; exact .inr rfl
    · cases h
  refine ⟨by rw [List.length_set]; exact R.len, R.ext, fun i d e => ?_, fun i c e => ?_, fun i j c e => ?_, fun i j s t c c' p e1 e2 h1 h2 h3 h4 => ?_, R.fr0, R.new, R.keep, R.dom, R.bd, R.lb, ?_⟩
  · rcases nos i _ e with ⟨_, z⟩ | ⟨_, z⟩
    · cases z
    · exact R.sh i d z
  · rcases nos i _ e with ⟨_, z⟩ | ⟨_, z⟩
    · cases z
    · exact R.ow i c z
  · rcases nos i _ e with ⟨_, z⟩ | ⟨_, z⟩
    · cases z
    · exact R.bw i j c z
  · rcases nos i _ e1 with ⟨_, z⟩ | ⟨_, z⟩
    · subst z; cases h1
    · rcases nos j _ e2 with ⟨_, z2⟩ | ⟨_, z2⟩
      · subst z2; cases h2
      · exact R.sep i j s t c c' p z z2 h1 h2 h3 h4
  · have old : ∀ (i : Nat) (hs2 : Pile) (p : Addr) (c : Cn), (ρ.set g (.pl hs'))[i]? = some (.pl hs2) → (p, c) ∈ hs2 → ∃ hs3, ρ[i]? = some (.pl hs3) ∧ (p, c) ∈ hs3 := fun i hs2 p c e m => by
      rcases nos i _ e with ⟨rfl, z⟩ | ⟨_, z⟩
      · cases z
        have m2 := hsub.mem m
        rcases cas with k | k
        · exact ⟨hs, k, m2⟩
        · subst k; exact (List.not_mem_nil m2).elim
      · exact ⟨hs2, z, m⟩
    refine ⟨fun i hs2 e => ?_, fun i hs2 p c e m => ?_, fun i hs2 p c e m j s c' e1 e2 => ?_, fun i j h1 h2 p c c' e1 e2 m1 m2 => ?_⟩
    · rcases nos i _ e with ⟨rfl, z⟩ | ⟨_, z⟩
      · cases z
        rcases cas with k | k
        · exact (P.one _ _ k).sublist (hsub.map _)
        · subst k
          rw [List.sublist_nil.mp hsub]
          exact List.nodup_nil
      · exact P.one i hs2 z
    · obtain ⟨hs3, z, m2⟩ := old i hs2 p c e m
      exact P.has i hs3 p c z m2
    · obtain ⟨hs3, z, m2⟩ := old i hs2 p c e m
      rcases nos j _ e1 with ⟨_, z1⟩ | ⟨_, z1⟩
      · subst z1; cases e2
      · exact P.own i hs3 p c z m2 j s c' z1 e2
    · obtain ⟨h3, z1, n1⟩ := old i h1 p c e1 m1
      obtain ⟨h4, z2, n2⟩ := old j h2 p c' e2 m2
      exact P.two i j h3 h4 p c c' z1 z2 n1 n2
theorem Rep.plHave (R : Rep K G σ H F ρ) (h : plOf ρ g = some hs) : Rep K G σ H F (ρ.set g (.pl hs)) := R.plSub h (List.Sublist.refl _)
theorem plOf_lt (h : plOf ρ g = some hs) : g < ρ.length := by
  unfold plOf at h
  cases q : ρ[g]? with
  | none => rw [q] at h; cases h
  | some s => exact (List.getElem?_eq_some_iff.mp q).1
/-- what a pile holds -/
theorem Rep.plHas (R : Rep K G σ H F ρ) (h : plOf ρ g = some hs) (m : hs.lookup p = some c) : Has K F H p c ∧ F p = none ∧ (G.H0 p = none ∨ G.L p) := by
  have R1 := R.plHave h
  exact R1.pl.has g hs p c (List.getElem?_set_self (plOf_lt h)) (lookup_mem m)
/-- new things are put on a pile -/
theorem Rep.plAdd {hs2 : Pile} (R : Rep K G σ H F ρ) (h : plOf ρ g = some hs) (hn : (hs2.map (·.1)).Nodup) (hh : ∀ p c, (p, c) ∈ hs2 → Has K F H p c ∧ F p = none ∧ (G.H0 p = none ∨ G.L p) ∧ Lone σ ρ p) :
    (∀ p, p ∈ hs2.map (·.1) → p ∉ hs.map (·.1)) ∧ Rep K G σ H F (ρ.set g (.pl (hs2 ++ hs))) := by
  have R1 := R.plHave h
  have hg := plOf_lt h
  have cas : ρ[g]? = some (.pl hs) ∨ hs = [] := by
    unfold plOf at h
    split at h
    · rename_i q; cases h; exact .inl q
    · cases h; exact .inr rfl
    · cases h
  have dis : ∀ p, p ∈ hs2.map (·.1) → p ∉ hs.map (·.1) := fun p m1 m2 => by
    obtain ⟨⟨_, c⟩, k1, rfl⟩ := List.mem_map.mp m1
    obtain ⟨⟨q, c2⟩, k2, e⟩ := List.mem_map.mp m2
    rcases cas with k | k
    · obtain ⟨_, _, _, l⟩ := hh _ _ k1
      exact l.2 g hs c2 k (by cases e; exact k2)
    · subst k; exact (List.not_mem_nil k2).elim
  have P := R1.pl
  have nos : ∀ (j : Nat) (s : Sl), (ρ.set g (.pl (hs2 ++ hs)))[j]? = some s → (j = g ∧ s = .pl (hs2 ++ hs)) ∨ (j ≠ g ∧ ρ[j]? = some s) := fun j s e => set_get e
  have same : ∀ j, j ≠ g → (ρ.set g (.pl hs))[j]? = ρ[j]? := fun j ne => List.getElem?_set_ne (Ne.symm ne)
  have at_ : (ρ.set g (.pl hs))[g]? = some (.pl hs) := List.getElem?_set_self hg
  refine ⟨dis, ?_⟩
  refine ⟨by rw [List.length_set]; exact R.len, R.ext, fun i d e => ?_, fun i c e => ?_, fun i j c e => ?_, fun i j s t c c' p e1 e2 h1 h2 h3 h4 => ?_, R.fr0, R.new, R.keep, R.dom, R.bd, R.lb, ?_⟩
  · rcases nos i _ e with ⟨_, z⟩ | ⟨_, z⟩
    · cases z
    · exact R.sh i d z
  · rcases nos i _ e with ⟨_, z⟩ | ⟨_, z⟩
    · cases z
    · exact R.ow i c z
  · rcases nos i _ e with ⟨_, z⟩ | ⟨_, z⟩
    · cases z
    · exact R.bw i j c z
  · rcases nos i _ e1 with ⟨_, z⟩ | ⟨_, z⟩
    · subst z; cases h1
    · rcases nos j _ e2 with ⟨_, z2⟩ | ⟨_, z2⟩
      · subst z2; cases h2
      · exact R.sep i j s t c c' p z z2 h1 h2 h3 h4
  · -- where an item of a pile comes from
    have old : ∀ (i : Nat) (h3 : Pile) (p : Addr) (c : Cn), (ρ.set g (.pl (hs2 ++ hs)))[i]? = some (.pl h3) → (p, c) ∈ h3 → (i = g ∧ (p, c) ∈ hs2) ∨ ∃ h4, (ρ.set g (.pl hs))[i]? = some (.pl h4) ∧ (p, c) ∈ h4 := fun i h3 p c e m => by
      rcases nos i _ e with ⟨rfl, z⟩ | ⟨ne, z⟩
      · cases z
        rcases List.mem_append.mp m with m | m
        · exact .inl ⟨rfl, m⟩
        · exact .inr ⟨hs, at_, m⟩
      · exact .inr ⟨h3, by rw [same i ne]; exact z, m⟩
    have cross : ∀ (p : Addr) (c c' : Cn) (i : Nat) (h4 : Pile), (p, c) ∈ hs2 → (ρ.set g (.pl hs))[i]? = some (.pl h4) → (p, c') ∈ h4 → i = g → False := fun p c c' i h4 m1 e m2 hi => by
      subst hi
      rw [at_] at e; cases e
      exact dis p (mem_fst m1) (mem_fst m2)
    refine ⟨fun i h3 e => ?_, fun i h3 p c e m => ?_, fun i h3 p c e m j s c' e1 e2 => ?_, fun i j h1 h2 p c c' e1 e2 m1 m2 => ?_⟩
    · rcases nos i _ e with ⟨rfl, z⟩ | ⟨ne, z⟩
      · cases z
        rw [List.map_append]
        exact List.nodup_append.mpr ⟨hn, P.one _ _ at_, fun a ha b hb e => by subst e; exact dis a ha hb⟩
      · exact P.one i h3 (by rw [same i ne]; exact z)
    · rcases old i h3 p c e m with ⟨_, m2⟩ | ⟨h4, z, m2⟩
      · obtain ⟨a, b, d, _⟩ := hh p c m2; exact ⟨a, b, d⟩
      · exact P.has i h4 p c z m2
    · rcases nos j _ e1 with ⟨_, z1⟩ | ⟨ne1, z1⟩
      · subst z1; cases e2
      · rcases old i h3 p c e m with ⟨_, m2⟩ | ⟨h4, z, m2⟩
        · obtain ⟨_, _, _, l⟩ := hh p c m2
          exact l.1 j s c' z1 e2
        · exact P.own i h4 p c z m2 j s c' (by rw [same j ne1]; exact z1) e2
    · rcases old i h1 p c e1 m1 with ⟨i1, n1⟩ | ⟨h3, z1, n1⟩
      · rcases old j h2 p c' e2 m2 with ⟨i2, n2⟩ | ⟨h4, z2, n2⟩
        · rw [i1, i2]
        · by_cases hj : j = g
          · exact (cross p c c' j h4 n1 z2 n2 hj).elim
          · rw [same j hj] at z2
            obtain ⟨_, _, _, l⟩ := hh p c n1
            exact (l.2 j h4 c' z2 n2).elim
      · rcases old j h2 p c' e2 m2 with ⟨i2, n2⟩ | ⟨h4, z2, n2⟩
        · by_cases hi : i = g
          · exact (cross p c' c i h3 n2 z1 n1 hi).elim
          · rw [same i hi] at z1
            obtain ⟨_, _, _, l⟩ := hh p c' n2
            exact (l.2 i h3 c z1 n1).elim
        · exact P.two i j h3 h4 p c c' z1 z2 n1 n2
/-- a thing of a pile is changed -/
theorem Rep.plWrite {c' : Cn} {o : HO} (R : Rep K G σ H F ρ) (h : plOf ρ g = some hs) (m : hs.lookup p = some c) (hn : Has K F (upd H p o) p c') : Rep K G σ (upd H p o) F (ρ.set g (.pl (plSet hs p c'))) := by
  have R1 := R.plHave h
  have hg := plOf_lt h
  have P := R1.pl
  have at_ : (ρ.set g (.pl hs))[g]? = some (.pl hs) := List.getElem?_set_self hg
  obtain ⟨a1, b1, d1⟩ := P.has g hs p c at_ (lookup_mem m)
  have nos : ∀ (j : Nat) (s : Sl), (ρ.set g (.pl (plSet hs p c')))[j]? = some s → (j = g ∧ s = .pl (plSet hs p c')) ∨ (j ≠ g ∧ (ρ.set g (.pl hs))[j]? = some s) := fun j s e => by
    rcases set_get e with ⟨a, b⟩ | ⟨a, b⟩
    · exact .inl ⟨a, b⟩
    · exact .inr ⟨a, by rw [List.getElem?_set_ne (Ne.symm a)]; exact b⟩
  have oth : ∀ (j : Nat) (s : Sl) (c2 : Cn) (q : Addr), (ρ.set g (.pl hs))[j]? = some s → s.cn = some c2 → σ[j]? = some (some (.ref q)) → q ≠ p := fun j s c2 q e1 e2 e3 z => by
    subst z; exact P.own g hs q c at_ (lookup_mem m) j s c2 e1 e2 e3
  refine ⟨by rw [List.length_set]; exact R.len, fun a x e => ?_, fun i d e => ?_, fun i c2 e => ?_, fun i j c2 e => ?_, fun i j s t c2 c3 q e1 e2 h1 h2 h3 h4 => ?_, R.fr0, R.new, fun a x e nl nb => ?_, fun a x e => ?_, R.bd, R.lb, ?_⟩
  · rw [upd_ne (fun z => by subst z; rw [b1] at e; cases e)]; exact R.ext a x e
  · rcases nos i _ e with ⟨_, z⟩ | ⟨_, z⟩
    · cases z
    · exact R1.sh i d z
  · rcases nos i _ e with ⟨_, z⟩ | ⟨_, z⟩
    · cases z
    · obtain ⟨q, a, b, e2, e3⟩ := R1.ow i c2 z
      exact ⟨q, a, b.at (upd_ne (oth i _ _ q z rfl a)), e2, e3⟩
  · rcases nos i _ e with ⟨_, z⟩ | ⟨_, z⟩
    · cases z
    · obtain ⟨q, a, b, e2, e3⟩ := R1.bw i j c2 z
      exact ⟨q, a, b.at (upd_ne (oth i _ _ q z rfl a)), e2, e3⟩
  · rcases nos i _ e1 with ⟨_, z⟩ | ⟨_, z⟩
    · subst z; cases h1
    · rcases nos j _ e2 with ⟨_, z2⟩ | ⟨_, z2⟩
      · subst z2; cases h2
      · exact R1.sep i j s t c2 c3 q z z2 h1 h2 h3 h4
  · rw [upd_ne (fun z => by
      subst z
      rcases d1 with d1 | d1
      · rw [e] at d1; cases d1
      · exact nl d1)]
    exact R.keep a x e nl nb
  · obtain ⟨o', kk⟩ := R.dom a x e
    by_cases z : a = p
    · subst z; exact ⟨_, upd_same⟩
    · exact ⟨o', by rw [upd_ne z]; exact kk⟩
  · have old : ∀ (i : Nat) (h3 : Pile) (q : Addr) (c2 : Cn), (ρ.set g (.pl (plSet hs p c')))[i]? = some (.pl h3) → (q, c2) ∈ h3 → (i = g ∧ q = p ∧ c2 = c') ∨ (q ≠ p ∧ ∃ h4, (ρ.set g (.pl hs))[i]? = some (.pl h4) ∧ (q, c2) ∈ h4) := fun i h3 q c2 e m2 => by
      rcases nos i _ e with ⟨rfl, z⟩ | ⟨ne, z⟩
      · cases z
        rcases plSet_mem m2 with ⟨z1, z2, _⟩ | ⟨z1, z2⟩
        · exact .inl ⟨rfl, z1, z2⟩
        · exact .inr ⟨z1, hs, at_, z2⟩
      · refine .inr ⟨fun z2 => ?_, h3, z, m2⟩
        subst z2
        exact ne (P.two i g h3 hs q c2 c z at_ m2 (lookup_mem m))
    have any : ∀ (i : Nat) (h3 : Pile) (q : Addr) (c2 : Cn), (ρ.set g (.pl (plSet hs p c')))[i]? = some (.pl h3) → (q, c2) ∈ h3 → ∃ h4 c4, (ρ.set g (.pl hs))[i]? = some (.pl h4) ∧ (q, c4) ∈ h4 := fun i h3 q c2 e m2 => by
      rcases old i h3 q c2 e m2 with ⟨rfl, rfl, rfl⟩ | ⟨_, h4, z1, z2⟩
      · exact ⟨hs, c, at_, lookup_mem m⟩
      · exact ⟨h4, c2, z1, z2⟩
    refine ⟨fun i h3 e => ?_, fun i h3 q c2 e m2 => ?_, fun i h3 q c2 e m2 j s c3 e1 e2 => ?_, fun i j h1 h2 q c2 c3 e1 e2 m1 m2 => ?_⟩
    · rcases nos i _ e with ⟨rfl, z⟩ | ⟨ne, z⟩
      · cases z
        rw [plSet_fst]
        exact P.one _ _ at_
      · exact P.one i h3 z
    · rcases old i h3 q c2 e m2 with ⟨rfl, rfl, rfl⟩ | ⟨ne, h4, z1, z2⟩
      · exact ⟨hn, b1, d1⟩
      · obtain ⟨a, b, d⟩ := P.has i h4 q c2 z1 z2
        exact ⟨a.at (upd_ne ne), b, d⟩
    · obtain ⟨h4, c4, z1, z2⟩ := any i h3 q c2 e m2
      rcases nos j _ e1 with ⟨_, z⟩ | ⟨_, z⟩
      · subst z; cases e2
      · exact P.own i h4 q c4 z1 z2 j s c3 z e2
    · obtain ⟨h4, c4, z1, z2⟩ := any i h1 q c2 e1 m1
      obtain ⟨h5, c5, z3, z4⟩ := any j h2 q c3 e2 m2
      exact P.two i j h4 h5 q c4 c5 z1 z3 z2 z4
end
end DL

/-! Piles in expressions; calls that only look; things lent by name. -/
namespace DL
open PySem PySem.Spec L2 PyProof.Rows
section
variable {X : Cx}
/-- a new thing put on the pile g: its place is handed on (older things may be left) -/
def dKeep (g : Nat) (t : TD) : TD := fun ρ Q => t ρ fun r ρ1 => match r with
  | .v d => Q (.v d) ρ1
  | .fr c => ∃ hs hs', plOf ρ1 g = some hs ∧ hs'.Sublist hs ∧ ∀ p, p ∉ hs'.map (·.1) → Q (.v (.at p)) (ρ1.set g (.pl ((p, c) :: hs')))
  | .pt d hs2 => ∃ hs hs', plOf ρ1 g = some hs ∧ hs'.Sublist hs ∧ ((∀ p, p ∈ hs2.map (·.1) → p ∉ hs'.map (·.1)) → (hs2.map (·.1)).Nodup → Q (.v d) (ρ1.set g (.pl (hs2 ++ hs'))))
theorem de_keep (g : Nat) {e : Expr} {te : TE} {t : TD} (h : DE X e te t) : DE X e te (dKeep g t) :=
  ⟨h.pe, fun {G σ H F ρ Q Qd} R q k => h.sem R q fun r ρ1 v H1 F1 q1 s1 R1 rd => by
    cases r with
    | v d => exact k _ _ _ _ _ q1 s1 R1 rd
    | fr c =>
      obtain ⟨hs, hs', e1, e2, q1⟩ := q1
      obtain ⟨p, rfl, a, b, d, l⟩ := rd
      have R2 := R1.plSub e1 e2
      have e3 := plOf_set (hs := hs') e1
      have l2 : Lone σ (ρ1.set g (.pl hs')) p := by
        refine ⟨fun i s c' z1 z2 z3 => ?_, fun i h3 c' z1 m => ?_⟩
        · rcases set_get z1 with ⟨_, w⟩ | ⟨_, w⟩
          · subst w; cases z2
          · exact l.1 i s c' w z2 z3
        · rcases set_get z1 with ⟨rfl, w⟩ | ⟨_, w⟩
          · cases w
            have m2 := e2.mem m
            unfold plOf at e1
            split at e1
            · rename_i w2; cases e1; exact l.2 _ _ c' w2 m2
            · cases e1; exact (List.not_mem_nil m2).elim
            · cases e1
          · exact l.2 i h3 c' w m
      obtain ⟨dis, R3⟩ := R2.plAdd (hs2 := [(p, c)]) e3 (by simp) fun p' c' m => by
        cases List.mem_singleton.mp m
        exact ⟨a, b, d, l2⟩
      rw [List.set_set] at R3
      exact k _ _ _ _ _ (q1 p (dis p (by simp))) s1 R3 (.at p)
    | pt d hs2 =>
      obtain ⟨hs, hs', e1, e2, q1⟩ := q1
      obtain ⟨g1, g2, g3⟩ := rd
      have R2 := R1.plSub e1 e2
      have e3 := plOf_set (hs := hs') e1
      obtain ⟨dis, R3⟩ := R2.plAdd (hs2 := hs2) e3 g2 fun p c m => by
        obtain ⟨a, b, d, l⟩ := g3 p c m
        refine ⟨a, b, d, fun i s c' z1 z2 z3 => ?_, fun i h3 c' z1 m => ?_⟩
        · rcases set_get z1 with ⟨_, w⟩ | ⟨_, w⟩
          · subst w; cases z2
          · exact l.1 i s c' w z2 z3
        · rcases set_get z1 with ⟨rfl, w⟩ | ⟨_, w⟩
          · cases w
            have m2 := e2.mem m
            unfold plOf at e1
            split at e1
            · rename_i w2; cases e1; exact l.2 _ _ c' w2 m2
            · cases e1; exact (List.not_mem_nil m2).elim
            · cases e1
          · exact l.2 i h3 c' w m
      rw [List.set_set] at R3
      exact k _ _ _ _ _ (q1 dis g2) s1 R3 g1⟩
/-- a value as an operand, where piles are about -/
def opG (g : Nat) : D → Op
  | .at p => .pl g p
  | d => .now d
def qPl (g : Nat) (t : TD) : TQ := fun ρ Q => t ρ fun r ρ1 => Q (opG g r.dat) ρ1
theorem opG_den {K : PySem.W.Frag} {F : Hp} {σ : L2.St} {v : V} {d : D} (g : Nat) (h : Den K F v d) : OpDen K F σ v (opG g d) := by
  cases d with
  | «at» p => cases h; rfl
  | _ => exact h
theorem do_pl (g : Nat) {e : Expr} {te : TE} {t : TD} (h : DE X e te t) : DO X e te (qPl g t) :=
  ⟨h.pe, fun R q k => h.sem R q fun r ρ' v H' F' qd s1 R1 rd => by
    obtain ⟨F2, s2, R2, d2⟩ := R1.share rd
    exact k _ _ _ _ _ qd (s1.trans s2) R2 (opG_den g d2)⟩
def qVarP (g i : Nat) : TQ := fun ρ Q => match ρ[i]? with
  | some (.sh d) => Q (match d with | .at p => .pl g p | _ => .at i) ρ
  | some (.ow _) => Q (.at i) ρ
  | some (.bw _ _) => Q (.at i) ρ
  | _ => False
theorem do_varP (g : Nat) {i : Nat} {x : Str} {pos : Pos} (h : PE X (.Name x pos) (tVar i)) : DO X (.Name x pos) (tVar i) (qVarP g i) := by
  refine ⟨h, fun {G σ H F ρ Q Qd} R q k => ?_⟩
  unfold qVarP at q
  split at q
  · rename_i d e
    obtain ⟨v, a, b⟩ := R.sh i d e
    refine ⟨v, a, ?_⟩
    cases d with
    | «at» p => cases b; exact k (.pl g p) _ _ _ _ q (Same.refl _) R rfl
    | _ => exact k (.at i) _ _ _ _ q (Same.refl _) R a
  · rename_i c e
    obtain ⟨p, a, _⟩ := R.ow i _ e
    exact ⟨_, a, k (.at i) _ _ _ _ q (Same.refl _) R a⟩
  · rename_i j c e
    obtain ⟨p, a, _⟩ := R.bw i _ _ e
    exact ⟨_, a, k (.at i) _ _ _ _ q (Same.refl _) R a⟩
  · exact q.elim
/-! ### e.append(..), e[i] = .., e an expression whose value a pile holds -/
def dMutE (g : Nat) (t0 : TD) (m : List D → List D → (List D → D → Prop) → Prop) (t : TVs) : TD := fun ρ Q => t0 ρ fun r ρ0 => ∃ p, r.dat = .at p ∧ (∃ hs l, plOf ρ0 g = some hs ∧ hs.lookup p = some (.l l)) ∧
  t ρ0 fun ds ρ1 => ∃ hs l, plOf ρ1 g = some hs ∧ hs.lookup p = some (.l l) ∧ m l ds fun l' d => Q (.v d) (ρ1.set g (.pl (plSet hs p (.l l'))))
theorem de_mutE (g : Nat) {o : Expr} {to : TE} {t0 : TD} {e : Expr} {es : List Expr} {name : Str} {apos cpos : Pos} {id : String} {r : V → List V → Hp → VK → Prop} {m : List D → List D → (List D → D → Prop) → Prop} {ta : TA} {t : TVs}
    (slot : Slot "list" name id) (hty : typeOf (.builtin id) = pure (.type "method_descriptor")) (hm : MtR X id r) (hg : SemMut X.K r m) (ho : DE X o to t0) (ha : DV X (e :: es) ta t)
    (hbase : attributeBase o name X.env (eval o X.env) = eval o X.env := by rfl)
    (hfew : ((backTo cpos (starEach (e :: es) X.env)).all (fun x => !x.1) && (backToKw cpos (keywordEach [] X.env)).all (fun x => x.1.isSome)
      && decide ((e :: es).length + ([] : List Keyword).length + (if ([] : List Keyword).isEmpty then 0 else 1) < 30)) = true := by rfl)
    (hline : (apos.endLine == cpos.line) = true := by rfl) (hs : starEach (e :: es) X.env = (false, eval e X.env) :: starEach es X.env := by rfl) (hplain : (backTo cpos (starEach es X.env)).any (·.1) = false := by rfl) :
    DE X (.Call (.Attribute o name apos) (e :: es) [] cpos) (tBM X.K "list" r to ta) (dMutE g t0 m t) := by
  refine ⟨pe_bm PySem.F.plainAttrs_list slot hty hm ho.pe ha.pe hbase hfew hline hs hplain, fun {G σ H F ρ Q Qd} R q k => ?_⟩
  refine ho.sem R q fun r ρ0 v H0 F0 q0 s0 R0 rd => ?_
  obtain ⟨p, ed, ⟨hs0, l0, e1, e2⟩, q0⟩ := q0
  obtain ⟨F0', s0', R0', d0⟩ := R0.share rd
  rw [ed] at d0
  cases d0
  obtain ⟨⟨xs0, hx0, _⟩, _⟩ := R0'.plHas e1 e2
  refine .inl ⟨rfl, xs0, .inl (.inl hx0)⟩ |> fun z => ⟨z, ha.sem R0' q0 fun ds ρ1 vs H1 F1 q1 s1 R1 d1 => ?_⟩
  obtain ⟨hs1, l, f1, f2, q1⟩ := q1
  obtain ⟨⟨xs, hx, dx⟩, _⟩ := R1.plHas f1 f2
  exact hg R1.ext hx dx d1 q1 fun l' d xs' z qd d2 dz => k _ _ _ _ _ qd (s0.trans (s0'.trans s1)) (R1.plWrite f1 f2 ⟨xs', upd_same, d2⟩) dz
end
end DL

/-! Calls that only look at what is handed in; things lent by their names. -/
namespace DL
open PySem PySem.Spec L2 PyProof.Rows
/-! with what the pile holds put in -/
section
variable {X : Cx}
/-! ### o.m(..) and o(..) that only look, o by its name or told -/
/-! ### an argument lent if it is one's own -/
end
end DL

/-! len(set(texts)). -/
namespace DL
open PySem PySem.Spec L2 PyProof.Rows
section
variable {prog : Program} {w : World} {A : Around}
end
end DL

/-! len(set(texts)), sorted(data), texts compared, stars in displays, dict comprehensions. -/
namespace DL
open PySem PySem.Spec L2 PyProof.Rows
section
variable {X : Cx}
/-! ### len(set(xs)) -/
/-! ### sorted(xs), data of any kind -/
end
end DL

/-! Dicts walked over, dict comprehensions, stars in displays, texts compared. -/
namespace DL
open PySem PySem.Spec L2 PyProof.Rows
section
variable {X : Cx} {tg : Expr}
/-! ### a dict of one's own is locked while an expression runs -/
/-! ### {k: v for target in .. if ..} -/
/-! ### [*xs, y] -/
/-! ### <, <=, >, >= of ints and of texts -/
def gCmpA (p : Int → Int → Bool) (ps : Str → Str → Bool) : D → D → (Rv → Prop) → Prop
  | .int i, .int j => fun Q => Q (.v (.bl (p i j)))
  | .str x, .str y => fun Q => Q (.v (.bl (ps x y)))
  | _, _ => fun _ => False
def rCmpA (p : Int → Int → Bool) (ps : Str → Str → Bool) : R2 := fun x y H Q => rI0 (fun i j => .bl (p i j)) x y H Q ∨ ∃ i j, x = .str i ∧ y = .str j ∧ Q (.bl (ps i j)) H
theorem sem_cmpA {p : Int → Int → Bool} {ps : Str → Str → Bool} : SemOp X.K (rCmpA p ps) (gCmpA p ps) := by
  intro G σ H F ρ x y a b Q Qd R ha hb h k
  unfold gCmpA at h
  split at h
  · cases ha.int; cases hb.int
    exact .inl ⟨_, _, rfl, rfl, k _ _ _ _ h (Same.refl _) R (.bl _)⟩
  · cases ha.str; cases hb.str
    exact .inr ⟨_, _, rfl, rfl, k _ _ _ _ h (Same.refl _) R (.bl _)⟩
  · exact h.elim
def ltS (x y : Str) : Bool := decide (x.cps.toList < y.cps.toList)
theorem op_ltA : OpR X (compareOp .Lt) (rCmpA (fun i j => decide (i < j)) ltS) := op_lt.or op_lt_str
theorem op_gtA : OpR X (compareOp .Gt) (rCmpA (fun i j => decide (j < i)) fun x y => ltS y x) := op_gt.or op_gt_str
theorem op_geA : OpR X (compareOp .GtE) (rCmpA (fun i j => decide (j ≤ i)) fun x y => !ltS x y) := op_ge.or op_ge_str
theorem sem_ltA : SemOp X.K (rCmpA (fun i j => decide (i < j)) ltS) (gCmpA (fun i j => decide (i < j)) ltS) := sem_cmpA
theorem sem_gtA : SemOp X.K (rCmpA (fun i j => decide (j < i)) fun x y => ltS y x) (gCmpA (fun i j => decide (j < i)) fun x y => ltS y x) := sem_cmpA
theorem sem_geA : SemOp X.K (rCmpA (fun i j => decide (j ≤ i)) fun x y => !ltS x y) (gCmpA (fun i j => decide (j ≤ i)) fun x y => !ltS x y) := sem_cmpA
end
end DL

/-! Methods whose object is lent or told; methods of lists that piles hold; sorted texts and pairs. -/
namespace DL
open PySem PySem.Spec L2 PyProof.Rows
section
variable {X : Cx}
/-! ### lists that piles hold -/
theorem de_appendE (g : Nat) {o e : Expr} {to : TE} {t0 : TD} {apos cpos : Pos} {ta : TA} {t : TVs} (ho : DE X o to t0) (ha : DV X [e] ta t)
    (hbase : attributeBase o "append" X.env (eval o X.env) = eval o X.env := by rfl)
    (hfew : ((backTo cpos (starEach [e] X.env)).all (fun x => !x.1) && (backToKw cpos (keywordEach [] X.env)).all (fun x => x.1.isSome)
      && decide (([e] : List Expr).length + ([] : List Keyword).length + (if ([] : List Keyword).isEmpty then 0 else 1) < 30)) = true := by rfl)
    (hline : (apos.endLine == cpos.line) = true := by rfl) (hs : starEach [e] X.env = (false, eval e X.env) :: starEach [] X.env := by rfl) (hplain : (backTo cpos (starEach [] X.env)).any (·.1) = false := by rfl) :
    DE X (.Call (.Attribute o "append" apos) [e] [] cpos) (tBM X.K "list" rAppend to ta) (dMutE g t0 mAppend t) :=
  de_mutE g PySem.F.slot_list_append PySem.F.type_list_append (fun pins s σ H x xs v us Q => mt_append pins s σ H x xs v us Q) sem_append ho ha hbase hfew hline hs hplain
end
/-! ### the order of texts -/
/-! ### comparisons -/
theorem gCmpA_int {p : Int → Int → Bool} {ps : Str → Str → Bool} {i j : Int} {Q : Rv → Prop} : gCmpA p ps (.int i) (.int j) Q = Q (.v (.bl (p i j))) := rfl
theorem gCmpA_str {p : Int → Int → Bool} {ps : Str → Str → Bool} {i j : Str} {Q : Rv → Prop} : gCmpA p ps (.str i) (.str j) Q = Q (.v (.bl (ps i j))) := rfl
end DL

/-! Small facts for the readings. -/
namespace DL
open PySem PySem.Spec L2 PyProof.Rows
theorem slC_ow {ρ : SL} {i : Nat} {c : Cn} (h : ρ[i]? = some (.ow c)) : slC ρ i = some (.ow c, c) := by unfold slC; rw [h]; rfl
theorem slC_bw {ρ : SL} {i j : Nat} {c : Cn} (h : ρ[i]? = some (.bw j c)) : slC ρ i = some (.bw j c, c) := by unfold slC; rw [h]; rfl
section
variable {X : Cx}
end
end DL

/-! Walks over lists that are lent: they must stand as they were at each turn. -/
namespace DL
open PySem PySem.Spec L2 PyProof.Rows
section
variable {K : PySem.W.Frag}
end
section
variable {X : Cx} {tg : Expr}
/-! ### comprehensions over lists that are lent -/
end
end DL

/-! A new thing that will stay; what is seen of piles. -/
namespace DL
open PySem PySem.Spec L2 PyProof.Rows
section
variable {X : Cx}
/-- the pile is there from the start -/
def sPl0 (g : Nat) (b : TSD) : TSD := fun E ρ => ∃ hs, plOf ρ g = some hs ∧ b E (ρ.set g (.pl hs))
theorem dss_pl0 (g : Nat) {st : List Stmt} {t : TS} {dt : TSD} (h : DSs X st t dt) : DSs X st t (sPl0 g dt) := ⟨h.pe, fun R q L => by
  obtain ⟨hs, e, q⟩ := q
  exact h.sem (R.plHave e) q L⟩
end
end DL

/-! list(range(..)); more of dicts. -/
namespace DL
open PySem PySem.Spec L2 PyProof.Rows
/-! a comprehension inside another -/
section
variable {X : Cx}
end
end DL

/-! Lists of places (natural numbers). -/
namespace DL
open PySem PySem.Spec L2 PyProof.Rows
end DL

/-! list(enumerate(xs)): a list of pairs. -/
namespace EnL
open PySem PySem.Spec PyProof.Rows L2
section
variable {prog : Program} {w : World} {A : Around} {E : Value → Shared → Prop} {s : Shared} {e it l S : Addr} {xs : Array Value} {i : Nat}
end
section
variable {prog : Program} {w : World} {A : Around} {s : Shared} {R : Result → Shared → Prop} {e it l S : Addr} {xs : Array Value}
end
section
variable {prog : Program} {w : World} {A : Around} {E : Value → Shared → Prop} {s : Shared} {e it l : Addr} {xs : Array Value}
end
section
variable {X : Cx} {a : Expr} {te : TE}
end
end EnL

/-! list(enumerate(xs)); targets that are places of one's own lists and dicts. -/
namespace DL
open PySem PySem.Spec L2 PyProof.Rows
section
variable {X : Cx}
/-! ### targets that change things -/
end
end DL

/-! More of dicts and piles. -/
namespace DL
open PySem PySem.Spec L2 PyProof.Rows
theorem lookup_plSet_eq {p : Addr} {c c' : Cn} : ∀ hs : Pile, hs.lookup p = some c → (plSet hs p c').lookup p = some c'
  | [], h => by cases h
  | y :: r, h => by
    have ih := lookup_plSet_eq (p := p) (c := c) (c' := c') r
    unfold plSet at ih ⊢
    obtain ⟨b, d⟩ := y
    rw [List.map_cons]
    rw [List.lookup_cons] at h
    by_cases e : b = p
    · subst e
      rw [if_pos rfl, List.lookup_cons, beq_self_eq_true]
    · rw [beq_false_of_ne (Ne.symm e)] at h
      rw [if_neg e, List.lookup_cons, beq_false_of_ne (Ne.symm e)]
      exact ih h
end DL

/-! y = {k: v for ..}: a local name of a dict comprehension. -/
namespace DL
open PySem PySem.Spec L2 PyProof.Rows
section
variable {X : Cx} {tg : Expr}
end
end DL

/-! What may be shown and compared, put together piece by piece. -/
namespace DL
open PySem PySem.Spec L2 PyProof.Rows
/-- plain data of nesting at most k, of weight at most w -/
structure Good (k w : Nat) (d : D) : Prop where
  fit : D.fit k d = true
  small : D.small d = true
  wt : D.wt d ≤ w
theorem fit_up : ∀ {k m : Nat} {d : D}, k ≤ m → D.fit k d = true → D.fit m d = true := by
  intro k
  induction k with
  | zero =>
    intro m d _ h
    cases d <;> first | (cases m <;> simp [D.fit] <;> done) | (simp [D.fit] at h <;> done)
  | succ k ih =>
    intro m d hm h
    cases m with
    | zero => omega
    | succ m =>
      have fs : ∀ l : List D, D.fits k l = true → D.fits m l = true := fun l hl => by
        rw [fits_all, List.all_eq_true] at hl ⊢
        exact fun x hx => ih (by omega) (hl x hx)
      cases d with
      | lst l => rw [D.fit] at h ⊢; exact fs l h
      | tup l => rw [D.fit] at h ⊢; exact fs l h
      | _ => first | (simp [D.fit] <;> done) | (simp [D.fit] at h <;> done)
theorem smalls_all : ∀ l : List D, D.smalls l = l.all D.small
  | [] => by simp [D.smalls]
  | d :: r => by rw [D.smalls, smalls_all r]; rfl
theorem wts_le {w : Nat} : ∀ l : List D, (∀ d ∈ l, D.wt d ≤ w) → D.wts l ≤ (w + 2) * l.length
  | [], _ => by simp [D.wts]
  | d :: r, h => by
    have := wts_le r fun x hx => h x (List.mem_cons_of_mem _ hx)
    have := h d List.mem_cons_self
    rw [D.wts, List.length_cons, Nat.mul_succ]
    omega
theorem Good.lstD {k w n : Nat} {l : List D} (hl : l.length ≤ n) (h : ∀ d ∈ l, Good k w d) : Good (k + 1) (4 + (w + 2) * n) (.lst l) := by
  refine ⟨?_, ?_, ?_⟩
  · rw [D.fit, fits_all, List.all_eq_true]; exact fun d hd => (h d hd).fit
  · rw [D.small, smalls_all, List.all_eq_true]; exact fun d hd => (h d hd).small
  · rw [D.wt]
    have := wts_le (w := w) l fun d hd => (h d hd).wt
    have := Nat.mul_le_mul_left (w + 2) hl
    omega
theorem Good.tupD {k w n : Nat} {l : List D} (hl : l.length ≤ n) (h : ∀ d ∈ l, Good k w d) : Good (k + 1) (4 + (w + 2) * n) (.tup l) := by
  refine ⟨?_, ?_, ?_⟩
  · rw [D.fit, fits_all, List.all_eq_true]; exact fun d hd => (h d hd).fit
  · rw [D.small, smalls_all, List.all_eq_true]; exact fun d hd => (h d hd).small
  · rw [D.wt]
    have := wts_le (w := w) l fun d hd => (h d hd).wt
    have := Nat.mul_le_mul_left (w + 2) hl
    omega
theorem Good.lst {α : Type} {f : α → D} {k w n : Nat} {l : List α} (hl : l.length ≤ n) (h : ∀ x ∈ l, Good k w (f x)) : Good (k + 1) (4 + (w + 2) * n) (.lst (l.map f)) := by
  refine Good.lstD (by rw [List.length_map]; exact hl) fun d hd => ?_
  obtain ⟨x, hx, rfl⟩ := List.mem_map.mp hd
  exact h x hx
theorem Good.tup {α : Type} {f : α → D} {k w n : Nat} {l : List α} (hl : l.length ≤ n) (h : ∀ x ∈ l, Good k w (f x)) : Good (k + 1) (4 + (w + 2) * n) (.tup (l.map f)) := by
  refine Good.tupD (by rw [List.length_map]; exact hl) fun d hd => ?_
  obtain ⟨x, hx, rfl⟩ := List.mem_map.mp hd
  exact h x hx
/-! ### sorted: lists of texts -/
/-! ### data that stands for something else, one for one -/
structure Enc {α : Type} [DecidableEq α] (k : Nat) (e : α → D) : Prop where
  fit : ∀ x, D.fit k (e x) = true
  eqv : ∀ x y, D.eqv (e x) (e y) = decide (x = y)
section
variable {α β : Type} [DecidableEq α] [DecidableEq β] {e : α → D} {g : β → D} {k : Nat}
theorem eqvs_enc (h : Enc k e) : ∀ a b : List α, D.eqvs (a.map e) (b.map e) = decide (a = b)
  | [], [] => by simp [D.eqvs]
  | [], _ :: _ => by simp [D.eqvs]
  | _ :: _, [] => by simp [D.eqvs]
  | x :: a, y :: b => by
    rw [List.map_cons, List.map_cons, D.eqvs, eqvs_enc h a b, h.eqv]
    simp only [List.cons.injEq, Bool.decide_and]
theorem fits_enc (h : Enc k e) (l : List α) : D.fits k (l.map e) = true := by
  rw [fits_all, List.all_eq_true]
  intro d hd
  obtain ⟨x, _, rfl⟩ := List.mem_map.mp hd
  exact h.fit x
theorem Enc.lst (h : Enc k e) : Enc (k + 1) fun l : List α => D.lst (l.map e) := ⟨fun l => by rw [D.fit]; exact fits_enc h l, fun a b => by rw [D.eqv]; exact eqvs_enc h a b⟩
theorem Enc.pair (h : Enc k e) (h2 : Enc k g) : Enc (k + 1) fun p : α × β => D.tup [e p.1, g p.2] := ⟨fun p => by rw [D.fit, D.fits, D.fits, D.fits, h.fit, h2.fit]; rfl, fun p q => by
  rw [D.eqv, D.eqvs, D.eqvs, D.eqvs, h.eqv, h2.eqv]
  obtain ⟨a, b⟩ := p
  obtain ⟨c, d⟩ := q
  simp only [Bool.and_true, Prod.mk.injEq, Bool.decide_and]⟩
end
end DL

/-! Loops and comprehensions whose state says the same before each round. -/
namespace DL
open PySem PySem.Spec L2 PyProof.Rows
end DL

/-! More methods of lists: extend, remove, index, count. -/
namespace DL
open PySem PySem.Spec L2 PyProof.Rows
section
variable {X : Cx}
/-! ### extend -/
/-! ### remove -/
/-! ### methods that only look -/
end
/-! what these are of data that stand for things -/
section
variable {α : Type} [DecidableEq α] {e : α → D} {k : Nat}
end
end DL

/-! f(..)[k], where f hands on a tuple with a new thing in it: the thing is one's own. -/
namespace DL
open PySem PySem.Spec L2 PyProof.Rows
section
variable {X : Cx}
/-! e.remove(..), e an expression whose value a pile holds -/
end
end DL

/-! Calls that only look at their arguments and hand on something new and flat. -/
namespace DL
open PySem PySem.Spec L2 PyProof.Rows
mutual
/-- atoms, and tuples of such -/
def D.flat : D → Bool
  | .tup l => D.flats l
  | .non => true
  | .bl _ => true
  | .int _ => true
  | .str _ => true
  | .rep _ => true
  | .lst _ => false
  | .dct _ => false
  | .obj _ _ => false
  | .scr _ => false
  | .at _ => true
  | .exc _ _ _ _ _ => false
  | .err _ _ _ _ => false
  | .dx _ _ => false
  | .unk => false
def D.flats : List D → Bool
  | [] => true
  | d :: r => D.flat d && D.flats r
end
def flatC (x : Addr × Cn) : Bool := match x.2 with
  | .l ds => D.flats ds
  | _ => false
def Rv.flat : Rv → Bool
  | .v d => d.flat
  | .fr (.l ds) => D.flats ds
  | .pt d hs => d.flat && hs.all flatC
  | _ => false
section
variable {K : PySem.W.Frag} {G : Cd} {σ : L2.St} {H F H' F' : Hp} {ρ : SL}
/-- one's own things -/
def Owns (σ : L2.St) (ρ : SL) (b : Addr) : Prop := (∃ (i : Nat) (s : Sl) (c : Cn), ρ[i]? = some s ∧ s.cn = some c ∧ σ[i]? = some (some (.ref b))) ∨ ∃ (i : Nat) (hs : List (Addr × Cn)) (c : Cn), ρ[i]? = some (.pl hs) ∧ (b, c) ∈ hs
theorem Owns.has (R : Rep K G σ H F ρ) {b : Addr} (h : Owns σ ρ b) : F b = none ∧ ∃ c, Has K F H b c := by
  rcases h with ⟨i, s, c, h1, h2, h3⟩ | ⟨i, hs, c, h1, h2⟩
  · obtain ⟨p, a, b1, b2⟩ := R.owned h1 h2
    rw [h3] at a
    cases a
    exact ⟨b2, c, b1⟩
  · obtain ⟨a, b1, _⟩ := R.pl.has i hs b c h1 h2
    exact ⟨b1, c, a⟩
end
section
variable {X : Cx}
/-! ### [x, y] == z and repr([x, y]): what is displayed is only looked at -/
end
end DL

/-! a or b, of values of any kind. -/
namespace DL
open PySem PySem.Spec L2 PyProof.Rows
section
variable {X : Cx}
end
end DL

/-! An own error, made: its __init__ says super().__init__(text) and keeps one field. -/
namespace DL
open PySem PySem.W PySem.Calls PyProof.Rows PySem.HandSPX
def xA (par : Str) (p1 p2 : Pos) : Arguments := { posonlyargs := [], args := [{ arg := "self", annotation := none, pos := p1 }, { arg := par, annotation := none, pos := p2 }], vararg := none, kwonlyargs := [], kw_defaults := [], kwarg := none, defaults := [] }
def xB (txt : Str) (fld par : Str) (a1 a2 a3 a4 a5 a6 b1 b2 b3 b4 : Pos) : List Stmt :=
  [.Expr (.Call (.Attribute (.Call (.Name "super" a1) [] [] a2) "__init__" a3) [.Constant (.str txt) 0 a4] [] a5) a6, .Assign [.Attribute (.Name "self" b1) fld b2] (.Name par b3) b4]
def xS (par : Str) : Scope := { kind := .function, names := [(PySem.Str.ofString "self", .local), (par, .local), (PySem.Str.ofString "__class__", .free), (PySem.Str.ofString "super", .globalImplicit)], isGenerator := false, isCoroutine := false, more := [] }
theorem xcall_eq (env : Env) (a1 a2 a3 a4 a5 : Pos) (txt : Str) (h : (a3.endLine == a5.line) = true) :
    eval (.Call (.Attribute (.Call (.Name "super" a1) [] [] a2) "__init__" a3) [.Constant (.str txt) 0 a4] [] a5) env = (do
      let ov ← attributeBase (.Call (.Name "super" a1) [] [] a2) "__init__" env (eval (.Call (.Name "super" a1) [] [] a2) env)
      standAt a3.atName
      let (f, first) ← holding [ov] (getMethod ov "__init__" (do return (← importBound (.Call (.Name "super" a1) [] [] a2) env).getD true))
      callWith a5 f first (backTo a5 (starEach [.Constant (.str txt) 0 a4] env)) []) := by
  rw [eval]
  unfold methodCall methodCallPos
  rw [h]
  rfl
/-- what the written part says of an own error's class at C and of its __init__ at fI -/
structure XcT (prog : Program) (K : Frag) (mg : Str → Option Value) (x : Str) (C fI : Addr) (fld : Str) : Prop where
  gC : mg x = some (.ref C)
  cls : ∃ nm q N bs bm sn sub ab col dd k0 k1 k2 k3 k5, K.lookup C = some (excClassObj nm q C N bs bm true sn sub ab col dd k0 k1 k2 k3 k5 "ValueError.__new__") ∧ refsVE bm = true
  sa : findIn K (.ref C) "__setattr__" = some (some (.builtin "object.__setattr__"))
  noN : findIn K (.ref C) fld = some none
  iC : findIn K (.ref C) "__init__" = some (some (.ref fI))
  tC : typeIn K (.ref fI) = some (.type "function")
  kC : keepIn K (.ref C) = true
  exC : subIn K (.ref C) (.type "BaseException") = some true
  tyC : typeIn K (.ref C) = some (.type "type")
  sup : ks_superIn K C C "__init__" = some (some (.builtin "ValueError.__init__"))
  subV : subIn K (.ref C) (.type "ValueError") = some true
  selfC : mroIn K C (.ref C) = some true
  opq : nsIn K cStatics "thirdparty.any" = some none
  noS : mg "super" = none
  fn : ∃ (oc : Value) (od : Option Addr) (doc pm : Value) (an : Option Addr) (cda cc : Addr) (ct : Value) (osl : Array (Option Value)) (txt par q : Str) (p1 p2 a1 a2 a3 a4 a5 a6 b1 b2 b3 b4 : Pos),
    K.lookup fI = some ⟨oc, od, .func (ksFn "__init__" q (xA par p1 p2) (xB txt fld par a1 a2 a3 a4 a5 a6 b1 b2 b3 b4) (xS par) .none .none doc pm an (.ref cda) ct cc), osl⟩ ∧ codeIn K (.ref cda) q = true ∧
    (∃ ccl cdd vs ccs file tf, K.lookup cda = some ⟨ccl, cdd, .fields vs, ccs⟩ ∧ vs[2]? = some (.str file tf) ∧ ((prog.main.file : Str) == file) = true) ∧
    (∃ cl cld csl, K.lookup cc = some ⟨cl, cld, .cell (some (.ref C)), csl⟩) ∧
    (∀ (s : Shared) (a b : Value), BindsTo s (ksFn "__init__" q (xA par p1 p2) (xB txt fld par a1 a2 a3 a4 a5 a6 b1 b2 b3 b4) (xS par) .none .none doc pm an (.ref cda) ct cc) ⟨[a, b], []⟩ [("self", a), (par, b)]) ∧
    (a3.endLine == a5.line) = true ∧ (par == ("self" : Str)) = false ∧ (par == ("__class__" : Str)) = false ∧ (par == ("super" : Str)) = false ∧ (par == ("__debug__" : Str)) = false
  top : (prog.main.scope.names.lookup ("super" : Str)).isSome = false
section
variable {prog : Program} {w : World} {A : Around} {E : Value → Shared → Prop} {h : Heap} {g : Array GenState} {d : Drawn} {t : Nat} {os : OsState}
variable {nm q : Str} {C N : Addr} {bs bm : List Value} {hdct : Bool} {sn : List Str} {sub : List Value} {ab : Bool} {col : Option Bool} {dd : Option Addr} {k0 k1 k2 k3 k5 : Option Value}
/-- ValueError.__init__ bound to a new error, called -/
theorem xcall_mw {u e t0 : Addr} {rest : List Value} {Q : Value → Shared → Prop}
    (hC : h.get? C = some (excClassObj nm q C N bs bm hdct sn sub ab col dd k0 k1 k2 k3 k5 "ValueError.__new__")) (he : h.get? e = some (excO C t0)) (hu : h.get? u = some (kxs_mw "ValueError.__init__" e)) (hrest : rest.length ≤ sizeLine)
    (hq : ∀ h' t1, (∀ b o, b ≠ e → h.get? b = some o → h'.get? b = some o) → h'.get? e = some (excO C t1) → Q .none ⟨h', g, d, t, os⟩) :
    wpAny (model prog w) A (call (.ref u) rest) Q E ⟨h, g, d, t, os⟩ := by
  refine wpAny_call (codeAny_of_tree ?_)
  show wpAny _ A.in1 (callAny (.ref u) ⟨rest, []⟩) _ _ _
  simp only [callAny]
  refine wpAny_bind (wpAny_load hu ?_)
  simp only [kxs_mw, show (Value.type "method-wrapper" == Value.type "method" || Value.type "method-wrapper" == Value.type "builtin_function_or_method" || Value.type "method-wrapper" == Value.type "method-wrapper") = true by decide, if_true]
  refine KFB.if_so (by decide) ?_
  refine wpAny_bind (check_bound_init F.excBase_ValueError.toExcCallFacts hC he rfl ?_)
  refine wpAny_bind (wpAny_pure (wpAny_pure ?_))
  refine ⟨plainId_quiet F.excBase_ValueError.init.plain _, codeAny_builtin F.excBase_ValueError.initEntry ?_⟩
  exact exc_init_tree (cls := .ref C) (t0 := t0) (dv := none) (c2 := .none) (c3 := .none) (b4 := .bool false) he hrest fun h' k e1 _ => hq h' _ k e1
end
/-- what __init__ leaves of a fresh error at x -/
structure XEnd (h h' : Heap) (x C dx t1 : Addr) (fld : Str) (v : Value) : Prop where
  keep : ∀ b o, b ≠ x → h.get? b = some o → h'.get? b = some o
  obj : h'.get? x = some { cls := .ref C, dict := some dx, data := .fields #[.ref t1, .none, .none, .none, .bool false, .none] }
  dbig : h.objs.size ≤ dx
  dne : dx ≠ x
  ns : h'.Ns1 dx (fun y => if y = fld then some v else none)
theorem one_size (v : Value) : [v].length ≤ sizeLine := by
  rw [sizeLine_eq]
  exact (by decide : 1 ≤ 16777216)
section
variable {prog : Program} {w : World} {A : Around} {E : Value → Shared → Prop} {R : Result → Shared → Prop} {s : Shared} {K : Frag} {mg : Str → Option Value} {C fI : Addr} {nm fld : Str}
theorem lk1 {par : Str} (h1 : (par == ("super" : Str)) = false) : (xS par).names.lookup ("super" : Str) = some .globalImplicit := by
  have h1' : (("super" : Str) == par) = false := by rw [beq_eq_false_iff_ne] at *; exact fun z => h1 z.symm
  simp only [xS, List.lookup_cons]
  rw [show ((("super" : Str)) == PySem.Str.ofString "self") = false from by decide, h1']
  rfl
theorem lk2 {par : Str} (h1 : (par == ("__class__" : Str)) = false) : (xS par).names.lookup ("__class__" : Str) = some .free := by
  have h1' : (("__class__" : Str) == par) = false := by rw [beq_eq_false_iff_ne] at *; exact fun z => h1 z.symm
  simp only [xS, List.lookup_cons]
  rw [show ((("__class__" : Str)) == PySem.Str.ofString "self") = false from by decide, h1']
  rfl
theorem lk3 {par : Str} : (xS par).names.lookup ("self" : Str) = some .local := by
  simp only [xS, List.lookup_cons]
  rfl
theorem lk4 {par : Str} (h1 : (par == ("self" : Str)) = false) : (xS par).names.lookup par = some .local := by
  simp only [xS, List.lookup_cons]
  have e : (par == PySem.Str.ofString "self") = false := h1
  rw [e, beq_self_eq_true]
theorem bl1 {par : Str} {a b : Value} (h1 : (par == ("self" : Str)) = false) : ([(("self" : Str), a), (par, b)] : List (Str × Value)).reverse.lookup ("self" : Str) = some a := by
  have h1' : (("self" : Str) == par) = false := by rw [beq_eq_false_iff_ne] at *; exact fun z => h1 z.symm
  show List.lookup ("self" : Str) [(par, b), (("self" : Str), a)] = some a
  rw [List.lookup_cons, h1', List.lookup_cons, beq_self_eq_true]
theorem bl2 {par : Str} {a b : Value} : ([(("self" : Str), a), (par, b)] : List (Str × Value)).reverse.lookup par = some b := by
  show List.lookup par [(par, b), (("self" : Str), a)] = some b
  rw [List.lookup_cons, beq_self_eq_true]
theorem xinit (T : XcT prog K mg nm C fI fld) {x t0 : Addr} {v : Value} {mb : Str → Option Value} (X : K.In s.heap) (hlim : s.heap.NoLimit) (hg : s.heap.Ns mainGlobals mg) (hb : s.heap.Ns builtinsNs mb) (hbv : mb "super" = some (.type "super"))
    (hx : s.heap.get? x = some (excO C t0)) (hnx : K.lookup x = none) (hroom : A.depth < recursionLimit)
    (hq : ∀ h' tk dx t1, XEnd s.heap h' x C dx t1 fld v → R (.ok (.ret .none)) { s with heap := h', toks := tk }) :
    codeAny (model prog w) A (.call (.ref fI) ⟨[.ref x, v], []⟩) R s := by
  obtain ⟨oc, od, doc, pm, an, cda, cc, ct, osl, txt, par, q, p1, p2, a1, a2, a3, a4, a5, a6, b1, b2, b3, b4, ho, hcd, ⟨ccl, cdd, vs, ccs, file, tf, hcode, hvs, hfile⟩, ⟨cl, cld, csl, hcell⟩, hbind, hpos, n1, n2, n3, n4⟩ := T.fn
  obtain ⟨nm', q', N, bs, bm, sn, sub, ab, col, dd, k0, k1, k2, k3, k5, hC, hbm⟩ := T.cls
  have hcl : clsIn K C = some { name := nm', bases := bs, mro := .ref C :: bm, ns := N, qualname := q', hasDict := true, slotNames := sn, subclasses := sub, abstract := ab, collection := col, hasDel := false } := by unfold clsIn; rw [hC] <;> rfl
  refine ks_codeAny_call_defAt (fd := ksFn "__init__" q (xA par p1 p2) (xB txt fld par a1 a2 a3 a4 a5 a6 b1 b2 b3 b4) (xS par) .none .none doc pm an (.ref cda) ct cc) (body := xB txt fld par a1 a2 a3 a4 a5 a6 b1 b2 b3 b4) (binds := [("self", .ref x), (par, v)])
    hroom (X _ _ ho) rfl hlim (codeRec_of X hcd) rfl (hbind s (.ref x) v) ?_ ?_ (fun h₁ hns k₁ => ?_)
  · intro y hy
    simp only [ksFn, fnX, xS, List.mem_cons, List.not_mem_nil, or_false] at hy
    rcases hy with rfl | rfl | rfl | rfl <;> intro z <;> cases z
  · intro y hy
    simp only [List.mem_cons, List.not_mem_nil, or_false] at hy
    rcases hy with rfl | rfl
    · exact lk3
    · exact lk4 n1
  · have X₁ : K.In h₁ := X.keeps k₁
    have hx₁ := k₁ _ _ hx
    refine ks_wpAt_execs_cons (ks_wpAt_Expr_any (ks_wpAt_MethodCall ?_ (xcall_eq _ _ _ _ _ _ _ hpos)))
    refine ks_wpAt_super_base (env := ksEnv q (xS par) s.heap.objs.size fI (.ref cda) cc) (lk1 n3) (lk2 n2) (by decide) rfl (X₁ _ _ ho) rfl (ar := { arg := "self", annotation := none, pos := p1 }) rfl rfl (X₁ _ _ hcode) rfl hvs hfile T.top ?_
    refine ks_loadName_global rfl (lk1 n3) (loadGlobal_builtin (env := ksEnv q (xS par) s.heap.objs.size fI (.ref cda) cc) (hg.keeps k₁) T.noS (hb.keeps k₁) hbv ⟨rfl, ?_⟩)
    refine wpAny_loadName_free rfl (lk2 n2) rfl ⟨_, X₁ _ _ hcell, rfl⟩ ?_
    refine wpAny_loadName_local rfl lk3 hns (v := .ref x) ?_ ?_
    · exact bl1 n1
    have hD : h₁.get? C = some _ := X₁ _ _ hC
    refine ks_wpAny_isType_cls hD rfl ⟨rfl, ?_⟩
    refine ks_wpAny_call_super hD rfl hx₁ rfl (fun c z => nomatch z) (looks_mroIn X₁ T.selfC) (fun h₂ hso k₂ => ?_)
    have X₂ : K.In h₂ := X₁.keeps k₂
    have hx₂ := k₂ _ _ hx₁
    have I₂ : InstAt h₂ x (excO C t0) C none := ⟨hx₂, rfl, rfl, trivial⟩
    have hI : Looks (model prog w) h₂ (isInstance (.ref x) (.type "ValueError")) true := I₂.type.andThen (looks_subIn X₂ T.subV)
    have hsup := T.sup
    unfold ks_superIn at hsup
    rw [hcl] at hsup
    refine kxs_getMethod kxs_ValueError hso (looks_opaque X₂ T.opq) (l₀ := .ref C :: bm) ?_ rfl X₂ hsup hI (ks_ne X₂ I₂ hcl) (by decide) ?_
    · exact fun A Q E s k q => wpAny_bind ((looks_clsIn X₂ hcl) A _ E s k (wpAny_pure q))
    have k₃ : ∀ b o, h₂.get? b = some o → (h₂.push (kxs_mw "ValueError.__init__" x)).get? b = some o := fun b o e => Heap.get?_push_of_some _ e
    have hu : (h₂.push (kxs_mw "ValueError.__init__" x)).get? h₂.objs.size = some (kxs_mw "ValueError.__init__" x) := Heap.get?_push_at rfl rfl
    refine kxs_callWith (i := "ValueError.__init__") (x := x) rfl ?_
    refine evalArgs_plain ?_
    refine spliced_more (Calls.Constant_str ?_) rfl
    refine spliced_none ?_
    refine ⟨hu, ?_⟩
    refine xcall_mw (k₃ _ _ (X₂ _ _ hC)) (k₃ _ _ hx₂) hu (one_size _) fun h₄ t1 k₄ hx₄ => ?_
    have kk : ∀ b o, b ≠ x → s.heap.get? b = some o → h₄.get? b = some o := fun b o hb e => k₄ b o hb (k₃ b o (k₂ b o (k₁ b o e)))
    have X₄ : K.In h₄ := fun b o e => k₄ b o (fun z => by rw [z, hnx] at e; cases e) (k₃ b o (X₂ b o e))
    have hxL : s.heap.objs.size ≠ x := Nat.ne_of_gt (Heap.lt_size hx)
    have hns₄ : h₄.Ns s.heap.objs.size (fun y => ([(("self" : Str), Value.ref x), (par, v)] : List (Str × Value)).reverse.lookup y) := by
      obtain ⟨oL, es, ep, hL, r⟩ := hns
      exact ⟨oL, es, ep, k₄ _ _ hxL (k₃ _ _ (k₂ _ _ hL)), r⟩
    refine wpAt_of_wpAny ?_
    refine wpAny_execs_cons (plainObj_wpAny_Assign_Attribute ?_)
    refine wpAny_Name (wpAny_loadName_local rfl (lk4 n1) hns₄ (v := v) bl2 ?_) n4
    refine wpAny_Name (wpAny_loadName_local rfl lk3 hns₄ (v := .ref x) (bl1 n1) ?_) (by decide)
    refine set_plain X₄ (ox := excO C t1) (od := none) ⟨hx₄, rfl, rfl, trivial⟩ T.sa ?_
    refine exc_osa X₄ hx₄ hcl (show refsVE (.ref C :: bm) = true from hbm) rfl T.noN (fun h₃ tk₃ dx k₃' dn dne hx₃ hn₃ => ?_)
    show wpAny _ _ (execs _ _) _ _ _
    have z4 : s.heap.objs.size < h₄.objs.size := hns₄.lt
    exact wpAny_execs_nil (hq h₃ tk₃ dx t1 ⟨fun b o hb e => k₃' b o hb (kk b o hb e), hx₃, Nat.le_of_lt (Nat.lt_of_lt_of_le z4 dn), dne, hn₃⟩)
end
/-- a made error -/
structure XMade (h h' : Heap) (e C d : Addr) (fld : Str) (v : Value) : Prop where
  keep : ∀ b o, h.get? b = some o → h'.get? b = some o
  new : h.objs.size ≤ e
  obj : ∃ oe vs, h'.get? e = some oe ∧ oe.cls = .ref C ∧ oe.dict = some d ∧ oe.data = .fields vs ∧ vs[1]? = some .none ∧ vs[2]? = some .none ∧ 4 < vs.size
  dbig : h.objs.size ≤ d
  dne : d ≠ e
  ns : h'.Ns1 d (fun y => if y = fld then some v else none)
section
variable {prog : Program} {w : World} {A : Around} {E : Value → Shared → Prop} {R : Result → Shared → Prop} {s : Shared} {K : Frag} {mg : Str → Option Value} {C fI : Addr} {nm fld : Str}
theorem xmade (T : XcT prog K mg nm C fI fld) {v : Value} {mb : Str → Option Value} (X : K.In s.heap) (hlim : s.heap.NoLimit) (hg : s.heap.Ns mainGlobals mg) (hb : s.heap.Ns builtinsNs mb) (hbv : mb "super" = some (.type "super")) (hroom : A.depth + 1 < recursionLimit)
    (hq : ∀ h' tk e d, XMade s.heap h' e C d fld v → R (.ok (.ret (.ref e))) { s with heap := h', toks := tk }) :
    codeAny (model prog w) A (.call (.ref C) ⟨[v], []⟩) R s := by
  obtain ⟨nm, q, N, bs, bm, sn, sub, ab, col, dd, k0, k1, k2, k3, k5, hC, hbm⟩ := T.cls
  obtain ⟨hp, g, dr, tk, os⟩ := s
  have k : ∀ b o, hp.get? b = some o → ((hp.push (kdv_tup [v])).push (excO C hp.objs.size)).get? b = some o := fun b o e => Heap.get?_push_of_some _ (Heap.get?_push_of_some _ e)
  have hget : ((hp.push (kdv_tup [v])).push (excO C hp.objs.size)).get? (hp.objs.size + 1) = some (excO C hp.objs.size) := by heap_get
  have hnx : K.lookup (hp.objs.size + 1) = none := by
    cases e : K.lookup (hp.objs.size + 1) with
    | none => rfl
    | some o =>
      have z : hp.get? (hp.objs.size + 1) = some o := X _ _ e
      exact absurd (Nat.lt_of_succ_lt (Heap.lt_size z)) (Nat.lt_irrefl _)
  refine call_own F.excBase_ValueError (fun X => refsVE_contains X bm hbm) (X _ _ hC) (looks_findIn X T.iC) (fun self => bind_fn X self T.tC) (one_size v) ?_
  refine xinit (s := ⟨(hp.push (kdv_tup [v])).push (excO C hp.objs.size), g, dr, tk, os⟩) T (X.keeps k) (hlim.keeps k) (hg.keeps k) (hb.keeps k) hbv hget hnx ?_ fun h' tk' dx t1 ⟨k', hx, dn, dne, hns⟩ => ?_
  · show A.depth + 1 < recursionLimit
    exact hroom
  · have old : ∀ b o, hp.get? b = some o → h'.get? b = some o := fun b o e => k' b o (Nat.ne_of_lt (Nat.lt_succ_of_lt (Heap.lt_size e))) (k b o e)
    have z : hp.objs.size + 1 + 1 ≤ dx := by
      first
        | (simpa only [Heap.size_push] using dn)
        | exact dn
        | (have q := dn; rw [Heap.size_push, Heap.size_push] at q; exact q)
    exact ⟨rfl, hq h' tk' (hp.objs.size + 1) dx ⟨old, Nat.le_succ _, ⟨_, _, hx, rfl, rfl, rfl, rfl, rfl, by show 4 < 6; decide⟩, Nat.le_trans (Nat.le_trans (Nat.le_succ _) (Nat.le_succ _)) z, dne, hns⟩⟩
end
end DL
namespace DL
open PySem PySem.Spec PyProof.Rows L2
theorem relO_x {v : V} {v' : Value} (r : RelV v v') (fld f : Str) : RelO (List.lookup f [(fld, v)]) (if f = fld then some v' else none) := by
  by_cases hw : f = fld
  · subst hw
    rw [if_pos rfl]
    have q : List.lookup f [(f, v)] = some v := by simp [List.lookup]
    rw [q]
    exact r
  · rw [if_neg hw]
    have qw : (f == fld) = false := by simpa using hw
    have q2 : List.lookup f [(fld, v)] = none := by simp [List.lookup, qw]
    rw [q2]
    trivial
section
variable {X : Cx} {C fI : Addr} {nm fld : Str}
end
end DL

/-! isinstance of a caught error that has its own dict. -/
namespace PySem.W
open PySem PySem.Spec PySem.Calls PyProof.Rows
section
variable {prog : Program} {w : World} {A : Around} {E : Value → Shared → Prop} {s : Shared} {K : Frag} {x D : Addr} {ox : Obj} {od : Option Obj}
theorem kin_classD {Q : Option Value → Shared → Prop} (C : L2.ExcC K D) (X : K.In s.heap) (I : InstAt s.heap x ox D od) (h : Q (some (.ref D)) { s with toks := s.toks + 1 }) : wpAny (model prog w) A (getAttr? (.ref x) "__class__") Q E s := by
  have hf : findObj K D od "__class__" = some (.bind (.builtin "getset_descriptor.__get__") (.builtin "object.__class__")) := by
    have q : (clsIn K D).isSome = true := by obtain ⟨cd, hc, _⟩ := any_some C.hd; rw [hc]; rfl
    cases od with
    | none => exact findObj_dataN q C.ha C.hn C.ht
    | some o => exact findObj_data q C.ha C.hn C.ht
  obtain ⟨hp, g, d, t, os⟩ := s
  have L0 := I.type (M := model prog w)
  have L1 := looks_findIn (M := model prog w) X C.hg
  have L2 := looks_findIn (M := model prog w) X C.hk
  have L3 := looks_find (M := model prog w) X I hf
  have sub : Looks (model prog w) hp (isInstance (.ref x) (.type "BaseException")) true := L0.andThen (looks_subIn X C.hs)
  have hx0 : (false && onTheHeap (Value.builtin "BaseException.__getattribute__")) = false := rfl
  have hx2 : (Value.builtin "BaseException.__getattribute__" == Value.builtin "object.__getattribute__") = false := by decide +kernel
  have hx1 : (onTheHeap (Value.ref D) && Value.builtin "BaseException.__getattribute__" == Value.builtin "object.__getattribute__") = false := by rw [hx2]; rfl
  unfold getAttr? getAttrBy? getAttrBy
  refine wpAny_bind (wpAny_mkText (wpAny_bind (wpAny_attempt (wpAny_holding (wpAny_bind (L0.at (wpAny_bind (L1.at ?_))))))))
  show wpAny _ _ (if (onTheHeap (Value.ref D) && Value.builtin "BaseException.__getattribute__" == Value.builtin "object.__getattribute__") = true then _ else _) _ _ _
  rw [hx1, if_neg Bool.false_ne_true]
  unfold getAttrByItsOwn hookBefore
  refine wpAny_bind ?_
  rw [if_pos (show onTheHeap (Value.ref D) = true from rfl)]
  refine L2.at ?_
  refine wpAny_bind (wpAny_attempt (wpAny_holding ?_))
  unfold callGetattribute
  rw [hx0, if_neg Bool.false_ne_true]
  unfold boundAndCalled
  rw [PySem.F.excAttr_ValueError.ga.bind (.ref x)]
  refine wpAny_bind (wpAny_pure ?_)
  show wpAny _ _ (call (.builtin "BaseException.__getattribute__") [.ref x, .str "__class__" t]) _ _ _
  refine wpAny_call (codeAny_call_builtin PySem.F.excAttr_ValueError.ga.plain PySem.F.entry_bexc_ga ?_)
  refine @check_slot (model prog w) _ _ ⟨hp, g, d, t + 1, os⟩ "BaseException.__getattribute__" "BaseException" "__getattribute__" (.ref x) [.str "__class__" t] [] _ (by decide +kernel) (by decide +kernel) sub (PySem.F.args_bexc_ga (.ref x) (.str "__class__" t)) ?_
  unfold Builtin.«object.__getattribute__»
  refine wpAny_bind (wpAny_of_eq (a := ((Value.ref x : Value), [Value.str "__class__" t])) (by first | rfl | (simp only [slotArgs]; rfl)) ?_)
  refine wpAny_bind (wpAny_pure (wpAny_bind (L0.at (wpAny_bind (L3.at ?_)))))
  show wpAny _ _ (holding [Value.builtin "object.__class__"] (call (.builtin "getset_descriptor.__get__") [.builtin "object.__class__", .ref x, .ref D]) >>= ret) _ _ _
  refine wpAny_bind (wpAny_holding (wpAny_call (class_get (s := ⟨hp, g, d, t + 1, os⟩) (ox := ox) (od := od) X I C.hm ?_)))
  refine wpAny_pure ?_
  show wpAny _ _ (handedOut (.ref D)) _ _ _
  rw [handedOut_of (v := .ref D) rfl]
  first
    | exact wpAny_pure (wpAny_pure h)
    | exact wpAny_pure h
    | exact wpAny_pure (wpAny_bind (wpAny_pure (wpAny_pure h)))
theorem kitx_excD (C : L2.ExcC K D) : KitX K (.ref x) (.ref D) (fun h => ∃ od, InstAt h x ox D od) where
  ty := fun _ _ _ ⟨_, I⟩ => I.type
  it := fun _ _ X _ => by
    obtain ⟨cdD, hcD, _⟩ := any_some C.hd
    unfold clsIn at hcD
    split at hcD
    · rename_i c' d' cd' sl' ho
      intro A' Q' E' s' k q
      unfold isType loadHead
      exact wpAny_bind (wpAny_loadPart (k _ _ (X _ _ ho)) (wpAny_pure q))
    · cases hcD
  ne := fun h tp dd its n sl X htp => by
    obtain ⟨cdD, hcD, _⟩ := any_some C.hd
    refine Bool.eq_false_iff.mpr fun q => ?_
    have e : D = tp := Value.ref.inj (beq_iff_eq.mp q)
    subst e
    unfold clsIn at hcD
    split at hcD
    · rename_i c' d' cd' sl' ho
      have z := (X _ _ ho).symm.trans htp
      cases z
    · cases hcD
  ca := fun X ⟨_, I⟩ k => kin_classD C X I k
end
end PySem.W
namespace L2
open PySem PySem.Spec PyProof.Rows
/-- the error's own dict lies there -/
def XAt (H : Hp) (d : Option Addr) : Prop := match d with
  | none => True
  | some dd => ∃ fs, H dd = some (.xd fs)
section
variable {X : Cx} {a D : Addr} {d : Option Addr} {oe : Obj} {pn : List (Addr × Obj)} {pins : List (Addr × Obj)} {σ : St} {H : Hp} {s : Shared}
end
end L2

/-! Defs that raise, told over data; raise; calls of such defs. -/
namespace DL
open PySem PySem.Spec L2 PyProof.Rows
/-- a raising def's promise over data: the wanted end, the wanted error (its class, its one field or none, the lent things) -/
abbrev SpX := SL → (Rv → SL → Prop) → WXD → Prop
def liftX (K : PySem.W.Frag) (sp : SpX) : Sp := fun vs H Q E => ∃ (b : Nat → Option Addr) (F : Hp) (as : SL) (Qd : Rv → SL → Prop) (Ed : WXD), Rep K ⟨b, fun _ => False, H, F⟩ (vs.map some) H F as ∧ sp as Qd Ed ∧
  (∀ r outs σ' v H' F', Qd r outs → Rep K ⟨b, fun _ => False, H, F⟩ σ' H' F' outs → RDen K ⟨b, fun _ => False, H, F⟩ σ' outs H' F' v r → Q v H') ∧
  ∀ C o outs σ' dd H' F', Ed C o outs → Rep K ⟨b, fun _ => False, H, F⟩ σ' H' F' outs → XDen K F' o dd → E (.ref C) dd H'
/-- the wish over data is the context's -/
def LinkW (X : Cx) (G : Cd) (Wd : WXD) : Prop := ∀ σ H F ρ C o dd, Wd C o ρ → Rep X.K G σ H F ρ → XDen X.K F o dd → wOf X (.ref C) dd σ H
theorem LinkW.at {X : Cx} {G : Cd} {Wd : WXD} {σ : L2.St} {H F : Hp} {ρ : SL} (L : LinkW X G Wd) (R : Rep X.K G σ H F ρ) : LinkW X (G.at F) Wd :=
  fun _ _ _ _ _ _ _ q R' xd => L _ _ _ _ _ _ _ q (R.unbase R') xd
section
variable {X : Cx}
/-! ### raise -/
/-! ### calls -/
end
/-! ### calls that only look -/
section
variable {K : PySem.W.Frag} {G : Cd} {σ : L2.St} {H F F' : Hp} {ρ : SL}
end
section
variable {X : Cx}
/-! ### expressions around such a call -/
/-! ### statements -/
end
/-! ### a raising def's body keeps its promise -/
open PySem.Spec PyProof.Rows in
theorem fnX {P : Program} {w : World} {K : PySem.W.Frag} {mg : Str → Option Value} {base : Heap} {x qual : Str} {st : Stmt} {f : Addr} {fd : FuncData} {N ps : List Str} {k : Nat} {sp : SpX} (Fn : Fun K x qual st f fd) (S : FnScope N ps (defScope st))
    (len : ∀ as Q E, sp as Q E → as.length = ps.length)
    (hbody : ∀ (cdv : Value) (A : Around) (outer : List Env) (s : Shared) (H : Hp) (E : XK), (A.deeper (PyProof.Rows.envOfC qual (defScope st) s.heap.objs.size f cdv)).guards = some [] → Room k (A.deeper (PyProof.Rows.envOfC qual (defScope st) s.heap.objs.size f cdv)) →
      ∃ ts t, DSs (cxOf (L2N.CX P w) P w K mg base N qual (defScope st) f cdv A outer s H E) (defBody st) ts t ∧
        ∀ as Q Ed, sp as Q Ed → t { nx := fun ρ' => Q (.v .non) (clean (ρ'.take as.length)), rt := fun r ρ' => Q r (clean (ρ'.take as.length)), xc := fun C o ρ' => Ed C o (clean (ρ'.take as.length)) } (as ++ List.replicate (N.length - as.length) .un)) : FnG P w K mg base (L2N.CX P w) (k + 1) f fd ps (liftX K sp) := by
  have lenV : ∀ vs H Q E, liftX K sp vs H Q E → vs.length = ps.length := fun vs H Q E ⟨b, F, as, Qd, Ed, R, h, _⟩ => by
    have := R.len
    rw [List.length_map] at this
    rw [← this, len as _ _ h]
  refine fnG_of Fn S lenV fun cdv A outer s H vs Q E hgd hr h => ?_
  obtain ⟨ts, t, hD, hd⟩ := hbody cdv A outer s H E hgd hr
  refine ⟨ts, hD.pe, ?_⟩
  obtain ⟨b, F, as, Qd, Ed, R, q, kk, ke⟩ := h
  have hl : as.length = vs.length := by have := R.len; rw [List.length_map] at this; exact this
  have R0 : Rep K ⟨b, fun _ => False, H, F⟩ (L2.start N vs) H F (as ++ List.replicate (N.length - as.length) .un) := by
    have gl : ∀ (i : Nat) (s : Sl), (as ++ List.replicate (N.length - as.length) .un)[i]? = some s → s = .un ∨ (as[i]? = some s ∧ (L2.start N vs)[i]? = (vs.map some)[i]?) := fun i s e => by
      by_cases hi : i < as.length
      · rw [List.getElem?_append_left hi] at e
        refine .inr ⟨e, ?_⟩
        unfold L2.start
        rw [List.getElem?_append_left (by rw [List.length_map, ← hl]; exact hi)]
      · rw [List.getElem?_append_right (Nat.le_of_not_lt hi)] at e
        exact .inl (List.eq_of_mem_replicate (List.mem_of_getElem? e))
    exact R.slots (by unfold L2.start; simp [hl]) gl
  have cl : ∀ {σ' : L2.St} {H' F' : Hp} {ρ' : SL}, Rep K ⟨b, fun _ => False, H, F⟩ σ' H' F' ρ' → Rep K ⟨b, fun _ => False, H, F⟩ (σ'.take as.length) H' F' (clean (ρ'.take as.length)) ∧
      ∀ v r, RDen K ⟨b, fun _ => False, H, F⟩ σ' ρ' H' F' v r → RDen K ⟨b, fun _ => False, H, F⟩ (σ'.take as.length) (clean (ρ'.take as.length)) H' F' v r := fun {σ' H' F' ρ'} R' => by
    have gl : ∀ (i : Nat) (s : Sl), (clean (ρ'.take as.length))[i]? = some s → s = .un ∨ (ρ'[i]? = some s ∧ (σ'.take as.length)[i]? = σ'[i]?) := fun i s e => by
      rcases clean_get e with z | z
      · exact .inl z
      · by_cases hi : i < as.length
        · rw [List.getElem?_take_of_lt hi] at z
          exact .inr ⟨z, List.getElem?_take_of_lt hi⟩
        · rw [List.getElem?_take_eq_none (Nat.le_of_not_lt hi)] at z
          cases z
    exact ⟨R'.slots (by unfold clean; rw [List.length_map, List.length_take, List.length_take, R'.len]) gl, fun v r rd => rd.slots gl⟩
  refine hD.sem R0 (hd as Qd Ed q) ⟨fun σ' H' F' ρ' e R' => ?_, fun σ' H' F' ρ' r v e R' rd => ?_, fun _ _ _ _ e _ => e.elim, fun _ _ _ _ e _ => e.elim, fun σ' H' F' ρ' C o dd e R' xd => ?_, fun _ _ _ _ _ _ _ e _ _ => e.elim⟩
  · exact kk _ _ _ _ _ _ e (cl R').1 .non
  · exact kk _ _ _ _ _ _ e (cl R').1 ((cl R').2 _ _ rd)
  · exact wOf_of (L2N.takes_of rfl rfl rfl rfl) (ke _ _ _ _ _ _ _ e (cl R').1 xd)
end DL

/-! try .. except, told over data; what an except suite reads of the error. -/
namespace DL
open PySem PySem.Spec L2 PyProof.Rows
section
variable {X : Cx}
/-- names of own classes -/
inductive ClsN (X : Cx) : List Expr → List Addr → TA → Prop
  | nil : ClsN X [] [] tNil
  | cons {y : Str} {p : Pos} {es : List Expr} {C : Addr} {Cs : List Addr} {ta : TA} (hg : Gl X y) (hm : X.mg y = some (.ref C)) (hd : (y == ("__debug__" : Str)) = false) (hs : starEach (.Name y p :: es) X.env = (false, eval (.Name y p) X.env) :: starEach es X.env) (r : ClsN X es Cs ta) :
      ClsN X (.Name y p :: es) (C :: Cs) (tCons (tC (.ref C)) ta)
theorem ClsN.run {es : List Expr} {Cs : List Addr} {ta : TA} (h : ClsN X es Cs ta) {σ : L2.St} {H : Hp} {Q : List V → Hp → Prop} (q : Q (Cs.map V.ref) H) : ta σ H Q := by
  induction h generalizing Q with
  | nil => exact q
  | cons hg hm hd hs r ih => exact ih q
theorem ClsN.suite {es : List Expr} {Cs : List Addr} {ta : TA} (h : ClsN X es Cs ta) (a : Addr) (pn : List (Addr × Obj)) : ClsN (X.suite a pn) es Cs ta := by
  induction h with
  | nil => exact .nil
  | cons hg hm hd hs r ih => exact .cons hg hm hd hs ih
theorem ClsN.len {es : List Expr} {Cs : List Addr} {ta : TA} (h : ClsN X es Cs ta) : es.length = Cs.length := by
  induction h with
  | nil => rfl
  | cons _ _ _ _ _ ih => rw [List.length_cons, List.length_cons, ih]
/-! ### try -/
end
theorem xf_of {K : PySem.W.Frag} {C : Addr} (h : ExcC K C) : XfC K C := ⟨h.hg, h.hk, h.hs, h.hd⟩
end DL

/-! == and != of what stands on a pile, or holds such things. -/
namespace DL
open PySem PySem.Spec L2 PyProof.Rows
section
variable {X : Cx}
end
end DL

/-! What is shown is a good text; f-strings; repr of an object by its own __repr__. -/
namespace DL
open PySem L2
section
variable {K : PySem.W.Frag} {F : Hp}
end
section
variable {X : Cx} {pins : List (Addr × Obj)} {σ : L2.St} {H : Hp} {s : Shared}
/-! ### {x!r} -/
/-! ### f'..' -/
end
/-! ### repr(x), x an object with its own __repr__ -/
section
variable {prog : Program} {w : World} {A : Around} {E : Value → Shared → Prop} {s : Shared} {K : PySem.W.Frag} {x C f : Addr} {ox : Obj} {od : Option Obj}
end
section
variable {X : Cx}
end
/-! how long a shown text is, by the data alone -/
end DL

/-! The order of lists of texts. -/
namespace DL
open PySem L2
end DL

/-! Comparisons by views as tests; stores into things that a pile holds. -/
namespace DL
open PySem L2
section
variable {X : Cx}
/-! ### e[i] = v, e an expression whose value a pile holds -/
theorem sem_storeP {K : PySem.W.Frag} {G : Cd} {σ : L2.St} {H F : Hp} {ρ : SL} {g : Nat} {hs : Pile} {c : Cn} {p : Addr} {x v : V} {a d : D} {Q : Hp → Prop} {Qd : Cn → Prop} (R : Rep K G σ H F ρ) (h : plOf ρ g = some hs) (hl : hs.lookup p = some c)
    (hx : Pk K F H x a) (hv : Den K F v d) (q : cnSet c a d Qd) (k : ∀ c' o, Qd c' → Rep K G σ (upd H p o) F (ρ.set g (.pl (plSet hs p c'))) → Q (upd H p o)) : rSetA (.ref p) x v H Q := by
  obtain ⟨hh, _⟩ := R.plHas h hl
  unfold cnSet at q
  split at q
  · obtain ⟨j, e, q⟩ := q
    cases hx.int
    obtain ⟨xs, a1, a2⟩ := hh
    exact .inl ⟨p, xs, _, j, rfl, rfl, a1, by rw [a2.length]; exact e, k _ _ q (R.plWrite h hl ⟨_, upd_same, DenL.set hv j a2⟩)⟩
  · obtain ⟨k1, e, hz, q⟩ := q
    obtain ⟨ks, a1, a2⟩ := hh
    have ko := hx.keyOk e
    have := hx.key e
    subst this
    exact .inr ⟨p, _, rfl, DPut.k a1 (by rw [a2.length]; exact hz), k _ _ q (R.plWrite h hl ⟨_, upd_same, a2.put hv k1 ko⟩)⟩
  · exact q.elim
def sStoreP (g : Nat) (te t0 : TD) (ti : TQ) : TSD := fun E ρ => te ρ fun r ρ1 => t0 ρ1 fun r0 ρ2 => ti ρ2 fun o ρ3 => ∃ p hs c a, r0.dat = .at p ∧ plOf ρ3 g = some hs ∧ hs.lookup p = some c ∧ o.get ρ3 = some a ∧ cnSet c a r.dat fun c' => E.nx (ρ3.set g (.pl (plSet hs p c')))
theorem ds_storeP (g : Nat) {tpos pos : Pos} {b ix e : Expr} {te ti tb : TE} {t t0 : TD} {u : TQ} (hu : X.A.units + 1 < cLine) (hb : DE X b tb t0) (hi : DO X ix ti u) (he : DE X e te t)
    (hpg : PG X (.Subscript b ix tpos) (gSub tb ti rSetA))
    (hs : swapsWithSole [.Subscript b ix tpos] e pos.line X.env = pure false := by rfl) (hw : swappedStores [.Subscript b ix tpos] e X.env = pure none := by rfl)
    (h1 : (assignEach [.Subscript b ix tpos] X.env).map (·.2) = [assign (.Subscript b ix tpos) X.env] := by rfl) :
    DS X (.Assign [.Subscript b ix tpos] e pos) (tAsg te (gSub tb ti rSetA)) (sStoreP g t t0 u) := by
  refine ⟨ps_asg he.pe hpg hs hw h1, fun R q L => he.sem R q fun r ρ1 v H1 F1 q1 s1 R1 rd => ?_⟩
  obtain ⟨F1', s1', R1', d1⟩ := R1.share rd
  refine hb.sem R1' q1 fun r0 ρ2 w H2 F2 q2 s2 R2 rd2 => ?_
  obtain ⟨F2', s2', R2', d2⟩ := R2.share rd2
  refine hi.sem R2' q2 fun o ρ3 y H3 F3 q3 s3 R3 d3 => ?_
  obtain ⟨p, hs, c, a, e1, e2, e3, e4, q3⟩ := q3
  rw [e1] at d2
  cases d2
  exact sem_storeP R3 e2 e3 (d3.pk R3 e4) (d1.mono (s2.trans (s2'.trans s3))) q3 fun c' o' qd R4 => L.nx _ _ _ _ qd R4
end
end DL

/-! sorted(set(texts)). -/
namespace DL
open PySem PySem.Spec L2 PyProof.Rows
/-! ### sets of texts, with what a walk over them wants -/
def TxE (P : Program) (w : World) (e : Int × Value) : Prop := ∃ (x : Str) (k : Tok), e.2 = .str x k ∧ e.1 = (PySem.strKind P w).hash x
def txOf (e : Int × Value) : Str := match e.2 with
  | .str x _ => x
  | _ => Str.empty
def SetX (P : Program) (w : World) (h : Heap) (a : Addr) (S : Str → Bool) (n : Nat) : Prop :=
  ∃ o es ep t, h.get? a = some o ∧ o.ExactSet ∧ o.data = .set es ep t ∧ (∀ e ∈ es.toList, TxE P w e) ∧ (es.toList.map txOf).Nodup ∧ (∀ x, S x = true ↔ x ∈ es.toList.map txOf) ∧
    es.size < scanBound ∧ t.fits es.size = true ∧ es.size = n ∧ Ris t.place.toList ∧ (w.params.followText "set-order" = true ∨ t.led = true)
section
variable {P : Program} {w : World} {h h' : Heap} {a : Addr} {S S' : Str → Bool} {n : Nat}
theorem SetX.eqv (R : SetX P w h a S n) (e : ∀ k, S' k = S k) {m : Nat} (hm : m = n) : SetX P w h a S' m := by
  rw [show S' = S from funext e, hm]; exact R
end
section
variable {P : Program} {w : World} {A : Around} {E : Value → Shared → Prop} {s : Shared} {a : Addr} {S : Str → Bool} {n : Nat}
/-! ### sorted of such a set -/
end
/-! ### the texts of a list, each once, in order -/
section
variable {X : Cx}
end
end DL

/-! dict(pairs), dict(d). -/
namespace DL
open PySem L2
def pairsD : List D → Option (List (Key × D))
  | [] => some []
  | .tup [k, d] :: r => match k.key, pairsD r with
    | some k, some r => some ((k, d) :: r)
    | _, _ => none
  | _ :: _ => none
theorem DenL.pairs {K : PySem.W.Frag} {F : Hp} : ∀ {l : List D} {vs : List V} {kvs : List (Key × D)}, DenL K F vs l → pairsD l = some kvs → ∃ (ps : List Addr) (ks : List (Key × V)), vs = ps.map V.ref ∧ Paired (fun p (kv : Key × V) => F p = some (.tup [kV kv.1, kv.2])) ps ks ∧ DenK K F ks kvs
  | [], _, kvs, h, e => by
    cases h
    rw [pairsD] at e
    cases e
    exact ⟨[], [], rfl, .nil, .nil⟩
  | d :: r, _, kvs, h, e => by
    unfold pairsD at e
    split at e
    · rename_i heq
      cases heq
    · rename_i k d' r' heq
      cases heq
      cases ek : k.key with
      | none => simp only [ek] at e; cases e
      | some k1 =>
        cases er : pairsD r with
        | none => simp only [ek, er] at e; cases e
        | some kvs' =>
          simp only [ek, er] at e
          cases e
          cases h with
          | cons a t =>
            obtain ⟨ps, ks, rfl, h1, h2⟩ := t.pairs er
            cases a with
            | @tup p xs _ hp hx =>
              cases hx with
              | cons x1 t1 =>
                cases t1 with
                | cons x2 t2 =>
                  cases t2
                  have hpk : Pk K F F _ k := .inl x1
                  have ko := hpk.keyOk ek
                  have kx := hpk.key ek
                  subst kx
                  exact ⟨p :: ps, (k1, _) :: ks, rfl, .cons hp h1, .cons x2 ko h2⟩
    · cases e
section
variable {X : Cx}
end
end DL

/-! a, b, .. = a list. -/
namespace DL
open PySem L2
section
variable {X : Cx}
end
end DL

/-! sorted(set(ints)). -/
namespace DL
namespace SI
open PySem PySem.Spec L2 PyProof.Rows
section
variable {P : Program} {w : World} {A : Around} {E : Value → Shared → Prop} {s : Shared} {a : Addr} {S : Int → Bool} {n : Nat}
end
/-! ### the texts of a list, each once, in order -/
section
variable {X : Cx}
end
end SI
end DL

/-! zip of a lent list and another variable's. -/
namespace DL
open PySem PySem.Spec L2 PyProof.Rows
section
variable {K : PySem.W.Frag}
end
section
variable {X : Cx}
end
end DL

/-! a list compared with an empty one: by lengths alone, whatever the items are. -/
namespace DL
open PySem PySem.Spec L2 PyProof.Rows
section
variable {X : Cx}
end
end DL

/-! comprehensions over a call that may raise; such a list backward. -/
namespace DL
open PySem L2
section
variable {X : Cx} {tg : Expr}
end
end DL

/-! x == y, both of a class with its own __eq__. -/
namespace DL
open PySem L2
section
variable {X : Cx}
end
end DL

/-! repr(x) where x holds things of the pile. -/
namespace DL
open PySem L2
section
variable {X : Cx}
end
end DL

/-! xs.pop() of a list of one's own. -/
namespace DL
open PySem L2
section
variable {X : Cx}
end
end DL

/-! repr(x) as a text (to be a key, say). -/
namespace DL
open PySem L2
section
variable {X : Cx}
end
end DL

/-! a or b, where a new thing stays one's own. -/
namespace DL
open PySem PySem.Spec L2 PyProof.Rows
section
variable {X : Cx}
theorem np_fr {c : Cn} : (Rv.fr c).np = True := rfl
theorem np_v {d : D} : (Rv.v d).np = True := rfl
end
end DL

/-! x == y, x of a class with its own __eq__, y any thing; isinstance(y, C) of any thing. -/
namespace DL
open PySem L2
section
variable {X : Cx}
end
end DL

/-! x[::-1] of a tuple. -/
namespace DL
open PySem PySem.Spec PyProof.Rows L2
open PySem.SeqAt PySem.Calls
section
variable {prog : Program} {w : World} {A : Around} {E : Value → Shared → Prop} {s : Shared}
end
section
variable {X : Cx}
/-! ### at the data -/
end
end DL

/-! len(x), x of a class with its own __len__. -/
namespace DL
open PySem PySem.Spec PyProof.Rows L2
section
variable {prog : Program} {w : World} {A : Around} {E : Value → Shared → Prop} {s : Shared} {K : PySem.W.Frag} {x C f : Addr} {ox : Obj} {od : Option Obj}
end
section
variable {X : Cx}
end
end DL

/-! generator defs: for loops inside. -/
namespace PySem
open Sem (wp)
section
variable {prog : Program} {w : World} {A : Around} {R : GenEnd} {Y : Protocol} {n : Nat} {s₀ : Shared} {c : Code} {fs : List Frame} {s : Shared} {env : Env}
  {K : Flow → Sem Fin} {H : Value → Sem Fin} {gd : Bool → Bool} {lv : List Value → List Value}
end
end PySem
namespace L2
open PySem PySem.Spec PyProof.Rows GenW
section
variable {X : Cx}
end
end L2

/-! C(..), its __init__ may raise. -/
namespace DL
open PySem PySem.Spec L2 PyProof.Rows
section
variable {X : Cx}
end
end DL

/-! a dict looked for among texts. -/
namespace DL
open PySem PySem.Spec PyProof.Rows L2
open PySem.SeqAt PySem.Calls
open PySem.AutoSeq1 (wpAny_loadPart')
section
end
section
variable {X : Cx}
end
end DL

/-! defs with one keyword-only parameter that has an int for its default. -/
namespace DL
open PySem PySem.Spec L2 PyProof.Rows
section
variable {X : Cx}
end
end DL

/-! more places where an expression may raise: arguments, operands, branches, targets. -/
namespace DL
open PySem PySem.Spec L2 PyProof.Rows
section
variable {X : Cx}
end
end DL

/-! truths in all places of sums, differences, products; a truth turned about. -/
namespace DL
open PySem PySem.Spec L2 PyProof.Rows
section
variable {prog : Program} {w : World} {A : Around} {E : Value → Shared → Prop} {s : Shared}
end
section
variable {X : Cx}
end
end DL

/-! sum of a tuple; a def with a keyword-only parameter called in look mode. -/
namespace DL
open PySem PySem.Spec L2 PyProof.Rows
section
variable {X : Cx}
end
end DL

/-! Dicts whose keys are tuples of texts, numbers and such tuples: k in d, d[k], d[k] = v, len(d), {k: v}. -/
namespace DL
open PySem L2 PySem.W

/-! ### at the level of things -/
section
variable {P : Program} {w : World} {H : Hp} {h : Heap} {a : Addr}
abbrev YL := List (NestedKey × Addr × V)
abbrev XL := List (NestedKey × Addr × Value)
abbrev YR : YL → XL → Prop := Paired fun (p : NestedKey × Addr × V) (q : NestedKey × Addr × Value) => p.1 = q.1 ∧ p.2.1 = q.2.1 ∧ RelV p.2.2 q.2.2
/-- the keys are there -/
def YK (H : Hp) (ys : YL) : Prop := ∀ y ∈ ys, DN H (.ref y.2.1) y.1 ∧ y.1.depth ≤ 8
def yGet (ys : YL) (k : NestedKey) : Option V := (ys.find? fun y => decide (y.1 = k)).map (·.2.2)
def yPut (ys : YL) (k : NestedKey) (b : Addr) (v : V) : YL := if (ys.any fun y => decide (y.1 = k)) = true then ys.map fun y => if y.1 = k then (y.1, y.2.1, v) else y else ys ++ [(k, b, v)]
theorem YR.get {ys : YL} {xs : XL} (k : NestedKey) (r : YR ys xs) : (yGet ys k = none ∧ atKey xs k = none) ∨ ∃ v p, yGet ys k = some v ∧ atKey xs k = some p ∧ RelV v p.2 := by
  unfold yGet atKey
  induction r with
  | nil => exact .inl ⟨rfl, rfl⟩
  | @cons p q ps qs hq t ih =>
    by_cases e : p.1 = k
    · refine .inr ⟨p.2.2, q.2, ?_, ?_, hq.2.2⟩
      · rw [List.find?_cons_of_pos (by simpa using e)]; rfl
      · rw [List.find?_cons_of_pos (by rw [← hq.1]; simpa using e)]; rfl
    · rw [List.find?_cons_of_neg (by simpa using e), List.find?_cons_of_neg (by rw [← hq.1]; simpa using e)]
      exact ih
theorem YR.any {ys : YL} {xs : XL} (k : NestedKey) (r : YR ys xs) : (atKey xs k).isSome = (ys.any fun y => decide (y.1 = k)) := by
  unfold atKey
  induction r with
  | nil => rfl
  | @cons p q ps qs hq t ih =>
    by_cases e : p.1 = k
    · rw [List.find?_cons_of_pos (by rw [← hq.1]; simpa using e), List.any_cons, decide_eq_true e]; rfl
    · rw [List.find?_cons_of_neg (by rw [← hq.1]; simpa using e), List.any_cons, decide_eq_false e, Bool.false_or]
      exact ih
theorem YR.app {ys ys2 : YL} {xs xs2 : XL} (r : YR ys xs) (r2 : YR ys2 xs2) : YR (ys ++ ys2) (xs ++ xs2) := by
  induction r with
  | nil => exact r2
  | cons h t ih => exact .cons h ih
theorem YR.mapPut {k : NestedKey} {v : V} {u : Value} (rv : RelV v u) {ys : YL} {xs : XL} (r : YR ys xs) : YR (ys.map fun y => if y.1 = k then (y.1, y.2.1, v) else y) (xs.map (putAt k u)) := by
  induction r with
  | nil => exact .nil
  | @cons p q ps qs hq t ih =>
    rw [List.map_cons, List.map_cons]
    refine .cons ?_ ih
    unfold putAt
    by_cases e : p.1 = k
    · rw [if_pos e, if_pos (by rw [← hq.1]; exact e)]; exact ⟨hq.1, hq.2.1, rv⟩
    · rw [if_neg e, if_neg (by rw [← hq.1]; exact e)]; exact hq
theorem YR.put {k : NestedKey} {b : Addr} {v : V} {u : Value} (rv : RelV v u) {ys : YL} {xs : XL} (r : YR ys xs) : YR (yPut ys k b v) (storedH xs k b u) := by
  unfold yPut storedH
  rw [r.any k]
  by_cases e : (ys.any fun y => decide (y.1 = k)) = true
  · rw [if_pos e, if_pos e]; exact r.mapPut rv
  · rw [if_neg e, if_neg e]; exact r.app (.cons ⟨rfl, rfl, rv⟩ .nil)
theorem YK.put {ys : YL} {k : NestedKey} {b : Addr} {v : V} (hk : YK H ys) (h1 : DN H (.ref b) k) (h2 : k.depth ≤ 8) : YK H (yPut ys k b v) := by
  unfold yPut
  split
  · intro y hy
    obtain ⟨z, hz, rfl⟩ := List.mem_map.mp hy
    by_cases e : z.1 = k
    · simp only [if_pos e]; exact hk z hz
    · simp only [if_neg e]; exact hk z hz
  · intro y hy
    rcases List.mem_append.mp hy with hy | hy
    · exact hk y hy
    · rw [List.mem_singleton.mp hy]; exact ⟨h1, h2⟩
end

/-! ### at the level of data -/
section
variable {K : PySem.W.Frag} {F H : Hp}
def nGet (kvs : List (NestedKey × D)) (k : NestedKey) : Option D := (kvs.find? fun y => decide (y.1 = k)).map (·.2)
def nPut (kvs : List (NestedKey × D)) (k : NestedKey) (d : D) : List (NestedKey × D) := if (kvs.any fun y => decide (y.1 = k)) = true then kvs.map fun y => if y.1 = k then (y.1, d) else y else kvs ++ [(k, d)]
theorem DenX.yk (e : Same F H) : ∀ {ys : YL} {kvs : List (NestedKey × D)}, DenX K F ys kvs → YK H ys
  | _, _, .nil => fun y hy => nomatch hy
  | _, _, .cons a dp b t => fun y hy => by
    rcases List.mem_cons.mp hy with rfl | hy
    · exact ⟨a.mono e, dp⟩
    · exact t.yk e y hy
theorem DenX.length : ∀ {ys : YL} {kvs : List (NestedKey × D)}, DenX K F ys kvs → ys.length = kvs.length
  | _, _, .nil => rfl
  | _, _, .cons _ _ _ t => by rw [List.length_cons, List.length_cons, t.length]
theorem DenX.get (k : NestedKey) : ∀ {ys : YL} {kvs : List (NestedKey × D)}, DenX K F ys kvs → (yGet ys k = none ∧ nGet kvs k = none) ∨ ∃ v d, yGet ys k = some v ∧ nGet kvs k = some d ∧ Den K F v d
  | _, _, .nil => .inl ⟨rfl, rfl⟩
  | _, _, .cons (k := k2) (v := v) (d := d) a dp b t => by
    unfold yGet nGet
    by_cases e : k2 = k
    · refine .inr ⟨v, d, ?_, ?_, b⟩
      · rw [List.find?_cons_of_pos (by simpa using e)]; rfl
      · rw [List.find?_cons_of_pos (by simpa using e)]; rfl
    · rw [List.find?_cons_of_neg (by simpa using e), List.find?_cons_of_neg (by simpa using e)]
      exact t.get k
theorem DenX.any (k : NestedKey) : ∀ {ys : YL} {kvs : List (NestedKey × D)}, DenX K F ys kvs → (ys.any fun y => decide (y.1 = k)) = kvs.any fun y => decide (y.1 = k)
  | _, _, .nil => rfl
  | _, _, .cons a dp b t => by rw [List.any_cons, List.any_cons, t.any k]
theorem DenX.app : ∀ {ys ys2 : YL} {kvs kvs2 : List (NestedKey × D)}, DenX K F ys kvs → DenX K F ys2 kvs2 → DenX K F (ys ++ ys2) (kvs ++ kvs2)
  | _, _, _, _, .nil, h => h
  | _, _, _, _, .cons a dp b t, h => .cons a dp b (t.app h)
theorem DenX.mapPut {k : NestedKey} {v : V} {d : D} (r : Den K F v d) : ∀ {ys : YL} {kvs : List (NestedKey × D)}, DenX K F ys kvs →
    DenX K F (ys.map fun y => if y.1 = k then (y.1, y.2.1, v) else y) (kvs.map fun y => if y.1 = k then (y.1, d) else y)
  | _, _, .nil => .nil
  | _, _, .cons (k := k2) a dp b t => by
    rw [List.map_cons, List.map_cons]
    by_cases e : k2 = k
    · rw [if_pos e, if_pos e]; exact .cons a dp r (t.mapPut r)
    · rw [if_neg e, if_neg e]; exact .cons a dp b (t.mapPut r)
theorem DenX.put {k : NestedKey} {b : Addr} {v : V} {d : D} {ys : YL} {kvs : List (NestedKey × D)} (h : DenX K F ys kvs) (h1 : DN F (.ref b) k) (h2 : k.depth ≤ 8) (r : Den K F v d) : DenX K F (yPut ys k b v) (nPut kvs k d) := by
  unfold yPut nPut
  rw [h.any k]
  by_cases e : (kvs.any fun y => decide (y.1 = k)) = true
  · rw [if_pos e, if_pos e]; exact h.mapPut r
  · rw [if_neg e, if_neg e]; exact h.app (.cons h1 h2 r .nil)
end

section
variable {X : Cx}
/-! ### the rules -/
theorem YR.isSome {ys : YL} {xs : XL} (k : NestedKey) (r : YR ys xs) : (atKey xs k).isSome = (yGet ys k).isSome := by
  rcases r.get k with ⟨e1, e2⟩ | ⟨v, p, e1, e2, _⟩
  · rw [e1, e2]; rfl
  · rw [e1, e2]; rfl
/-! d[k] -/
/-! d[k] = v -/
/-! {k: v, ..} -/
end
end DL

/-! f(..)[k] where f(..) may raise. -/
namespace DL
open PySem PySem.Spec L2 PyProof.Rows
section
variable {X : Cx}
end
end DL

/-! Calls and operators that only look at what is handed in and hand on something new that holds atoms alone: objects with + - *, op=. -/
namespace DL
open PySem PySem.Spec PyProof.Rows L2
section
variable {K : PySem.W.Frag} {F F' : Hp}
end
/-! ### operators of own classes, both of one class -/
section
variable {prog : Program} {w : World} {A : Around} {E : Value → Shared → Prop} {s : Shared} {K : PySem.W.Frag} {x C L f : Addr} {h₀ : Heap} {m : Str → Option Value} {ox : Obj} {od : Option Obj}
end
section
variable {X : Cx}
inductive OpN : Operator → Str → Prop
  | add : OpN .Add "__add__"
  | sub : OpN .Sub "__sub__"
  | mul : OpN .Mult "__mul__"
theorem OpN.obj {K : PySem.W.Frag} {op : Operator} {n : Str} (h : OpN op n) : PySem.W.findIn K (.type "object") (PySem.dunderI op.info.2) = some none := by
  cases h <;> kernel_rfl
/-! ### calls that look -/
end
end DL

/-! bool(x): x a number, a truth, an object of a class with its own __bool__. -/
namespace DL
open PySem PySem.Spec PyProof.Rows L2
section
variable {prog : Program} {w : World} {A : Around} {E : Value → Shared → Prop} {s : Shared} {K : PySem.W.Frag} {x C L f : Addr} {h₀ : Heap} {m : Str → Option Value} {ox : Obj} {od : Option Obj}
end
section
variable {X : Cx}
end
end DL

/-! // by divisors of either sign, powers of great numbers, str of great numbers. -/
namespace DL
open PySem PySem.Spec PyProof.Rows L2
section
open PySem.Builtin PySem.Builtin.Str PySem.Builtin.Int
variable {prog : Program} {w : World} {A : Around} {E : Value → Shared → Prop} {s : Shared} {K : PySem.W.Frag} {a : Int} {t : Tok}
end
section
variable {X : Cx}
def gStrW : List D → (Rv → Prop) → Prop
  | [.int i] => fun Q => i.natAbs.log2 < 9000 ∧ Q (.v (.str (Str.ofString (toString i))))
  | _ => fun _ => False
def gDivZ : D → D → (Rv → Prop) → Prop
  | .int i, .int j => fun Q => (j ≠ 0 ∧ j.natAbs.log2 < 9000) ∧ Q (.v (.int (i.fdiv j)))
  | _, _ => fun _ => False
def CPowW (i j : Int) : Prop := 0 ≤ j ∧ j ≤ 1000 ∧ i.natAbs < 2 ^ 1000
theorem op_powW : OpR X (binaryOp .Pow) (rI CPowW fun i j => .int (i ^ j.toNat)) := opI fun i j _ _ _ _ _ hc q => by
  obtain ⟨h0, h1, h2⟩ := hc
  refine pow_int h0 ?_ q
  have hb : Builtin.Int.intBits i ≤ 1001 := by
    have : i.natAbs.log2 < 1000 := PySem.Flt.log2_lt_of (by decide) h2
    unfold Builtin.Int.intBits
    split <;> omega
  have : (Builtin.Int.intBits i : Int) * j ≤ 1001 * 1000 := Int.mul_le_mul (by omega) h1 h0 (by decide)
  have : (1001 * 1000 : Int) ≤ 2 ^ 27 := by decide
  omega
def gPowW : D → D → (Rv → Prop) → Prop
  | .int i, .int j => fun Q => (0 ≤ j ∧ j ≤ 1000 ∧ i.natAbs < 2 ^ 1000) ∧ Q (.v (.int (i ^ j.toNat)))
  | _, _ => fun _ => False
theorem sem_powW : SemOp X.K (rI CPowW fun i j => .int (i ^ j.toNat)) gPowW := by
  intro G σ H F ρ x y a b Q Qd R ha hb h k
  unfold gPowW at h
  split at h
  · cases ha.int; cases hb.int
    exact ⟨_, _, rfl, rfl, h.1, k _ _ _ _ h.2 (Same.refl _) R (.int _)⟩
  · exact h.elim
end
end DL

/-! A thing of a pile, told by a variable, is one's own for the time of an expression (so that it can be lent). -/
namespace DL
open PySem L2
section
variable {X : Cx}
end
end DL

/-! [x, y] != z as a condition. -/
namespace DL
open PySem L2
section
variable {X : Cx}
end
end DL

/-! isinstance(x, (A, B)); x in ([], ()). -/
namespace DL
open PySem PySem.Spec L2 PyProof.Rows
open PySem.SeqAt PySem.Calls
open PySem.AutoSeq1 (wpAny_loadPart')
section
variable {X : Cx}
def gIsiT (T1 T2 : String) : D → (Rv → Prop) → Prop := fun d Q => ∃ t, d.ty = some t ∧ Q (.v (.bl (isTy t T1 || isTy t T2)))
theorem gIsiT_non {T1 T2 : String} {Q : Rv → Prop} : gIsiT T1 T2 .non Q = Q (.v (.bl (isTy "NoneType" T1 || isTy "NoneType" T2))) := by unfold gIsiT; simp [D.ty]
theorem gIsiT_bl {T1 T2 : String} {b : Bool} {Q : Rv → Prop} : gIsiT T1 T2 (.bl b) Q = Q (.v (.bl (isTy "bool" T1 || isTy "bool" T2))) := by unfold gIsiT; simp [D.ty]
theorem gIsiT_int {T1 T2 : String} {b : Int} {Q : Rv → Prop} : gIsiT T1 T2 (.int b) Q = Q (.v (.bl (isTy "int" T1 || isTy "int" T2))) := by unfold gIsiT; simp [D.ty]
theorem gIsiT_str {T1 T2 : String} {b : Str} {Q : Rv → Prop} : gIsiT T1 T2 (.str b) Q = Q (.v (.bl (isTy "str" T1 || isTy "str" T2))) := by unfold gIsiT; simp [D.ty]
theorem gIsiT_lst {T1 T2 : String} {b : List D} {Q : Rv → Prop} : gIsiT T1 T2 (.lst b) Q = Q (.v (.bl (isTy "list" T1 || isTy "list" T2))) := by unfold gIsiT; simp [D.ty]
theorem gIsiT_tup {T1 T2 : String} {b : List D} {Q : Rv → Prop} : gIsiT T1 T2 (.tup b) Q = Q (.v (.bl (isTy "tuple" T1 || isTy "tuple" T2))) := by unfold gIsiT; simp [D.ty]
theorem gIsiT_dct {T1 T2 : String} {b : List (Key × D)} {Q : Rv → Prop} : gIsiT T1 T2 (.dct b) Q = Q (.v (.bl (isTy "dict" T1 || isTy "dict" T2))) := by unfold gIsiT; simp [D.ty]
/-! ### x in ([], ()), x a list or a tuple -/
theorem lst_at {pins : List (Addr × Obj)} {σ : L2.St} {H : Hp} {s : Shared} {a : Addr} {vs : List V} (I : Inv X pins σ H s) (h : H a = some (.lst vs)) : ∃ its : List Value, s.heap.IsList a its.toArray ∧ Vals vs its := by
  obtain ⟨_, its, n, rv, h1⟩ := (show ObjOk X.prog X.w H s.heap a (.lst vs) from I.hok a _ h)
  exact ⟨its, ⟨_, h1, rfl, n, rfl⟩, rv⟩
/-! ### x != i, x any thing -/
end
end DL

/-! Dicts with nested tuple keys: how many keys; a key put in by itself (for dict comprehensions). -/
namespace DL
open PySem PySem.Spec L2 PyProof.Rows
section
variable {X : Cx}
end
end DL

/-! Dict comprehensions over any kind of dict: what the new dict is and how a pair is put in are given from outside. -/
namespace DL
open PySem PySem.Spec L2 PyProof.Rows
section
variable {X : Cx}
end
end DL

/-! {key: value for .. in ..} with nested tuple keys. -/
namespace DL
open PySem PySem.Spec L2 PyProof.Rows
section
variable {X : Cx}
end
end DL

/-! Promises that are kept whatever repr is under way (they may be called in a generator's body). -/
namespace DL
open PySem PySem.Spec L2 PyProof.Rows
section
variable {X : Cx}
end
end DL

/-! Generator defs told over data: what they hand out, all of it taken by list(..). -/
namespace DL
open PySem PySem.Spec L2 PyProof.Rows GenW
structure EndsG where
  nx : List D → SL → Prop
  bk : List D → SL → Prop := fun _ _ => False
  ct : List D → SL → Prop := fun _ _ => False
structure LinkG (X : Cx) (G : Cd) (D : GEnds) (E : EndsG) : Prop where
  nx : ∀ ys ds σ H F ρ, E.nx ds ρ → Rep X.K G σ H F ρ → DenL X.K F ys ds → D.nx ys σ H
  bk : ∀ ys ds σ H F ρ, E.bk ds ρ → Rep X.K G σ H F ρ → DenL X.K F ys ds → D.bk ys σ H
  ct : ∀ ys ds σ H F ρ, E.ct ds ρ → Rep X.K G σ H F ρ → DenL X.K F ys ds → D.ct ys σ H
theorem LinkG.at {X : Cx} {G : Cd} {D : GEnds} {E : EndsG} {σ : L2.St} {H F : Hp} {ρ : SL} (L : LinkG X G D E) (R : Rep X.K G σ H F ρ) : LinkG X (G.at F) D E :=
  ⟨fun _ _ _ _ _ _ q R' h => L.nx _ _ _ _ _ _ q (R.unbase R') h, fun _ _ _ _ _ _ q R' h => L.bk _ _ _ _ _ _ q (R.unbase R') h, fun _ _ _ _ _ _ q R' h => L.ct _ _ _ _ _ _ q (R.unbase R') h⟩
section
variable {X : Cx}
end
/-! ### a generator def's promise -/
section
variable {X : Cx}
end
end DL

/-! Walks over lists that a pile holds; sorted of a list of things that a pile holds. -/
namespace DL
open PySem PySem.Spec L2 PyProof.Rows
section
variable {K : PySem.W.Frag}
end
section
variable {X : Cx} {tg : Expr}
end
end DL

/-! Views of piled things two levels deep: a call that only looks, and a comparison. -/
namespace DL
open PySem PySem.Spec L2 PyProof.Rows
section
variable {X : Cx}
end
section
variable {X : Cx}
end
end DL

/-! A text looked for in a tuple of texts. -/
namespace DL
open PySem PySem.Spec PyProof.Rows L2
open PySem.SeqAt PySem.Calls
section
variable {X : Cx}
end
end DL

/-! A call without arguments. -/
namespace DL
open PySem PySem.Spec L2 PyProof.Rows
section
variable {X : Cx}
end
end DL

/-! Texts set against lists, tuples and dicts of any content: text != x, x (not) in texts. -/
namespace DL
open PySem PySem.Spec PyProof.Rows L2
open PySem.SeqAt PySem.Calls
open PySem.AutoSeq1 (wpAny_loadPart')
section
end
section
variable {X : Cx}
end
end DL

/-! xs[:] = ys -/
namespace DL
open PySem PySem.Spec PyProof.Rows L2
open PySem.SeqAt PySem.Calls
section
variable {prog : Program} {w : World} {A : Around} {E : Value → Shared → Prop} {s : Shared}
end
section
variable {X : Cx}
/-! ### at the data -/
end
end DL

/-! repr([x, y]): what is displayed is only looked at. -/
namespace DL
open PySem L2
section
variable {X : Cx}
end
end DL

/-! sorted(truths and numbers). -/
namespace DL.SB
open PySem PySem.Spec L2 PyProof.Rows SrtO Srt
section
variable {prog : Program} {w : World} {A : Around} {E : Value → Shared → Prop} {s : Shared}
end
section
variable {X : Cx}
end
end DL.SB

/-! list(zip(xs, ys)): a list of pairs. -/
namespace ZipL
open PySem PySem.Spec PyProof.Rows L2
section
variable {prog : Program} {w : World} {A : Around} {E : Value → Shared → Prop} {s : Shared} {Z : Zp} {S : Addr} {xs ys : Array Value} {i : Nat}
end
section
variable {prog : Program} {w : World} {A : Around} {s : Shared} {R : Result → Shared → Prop} {Z : Zp} {S : Addr} {xs ys : Array Value}
end
section
variable {prog : Program} {w : World} {A : Around} {E : Value → Shared → Prop} {s : Shared} {Z : Zp} {xs ys : Array Value}
end
section
variable {X : Cx} {a a2 : Expr} {ta : TA}
end
end ZipL
namespace DL
open PySem PySem.Spec L2 PyProof.Rows
section
variable {X : Cx}
end
end DL

/-! The pile goes along to calls. -/
namespace DL
open PySem PySem.Spec L2 PyProof.Rows
section
variable {K : PySem.W.Frag} {G : Cd} {σ : L2.St} {H F : Hp} {ρ : SL}
end
section
variable {X : Cx}
end
end DL

/-! The pile goes along to methods and to new objects; fields of things that a pile holds; walks over fields. -/
namespace DL
open PySem PySem.Spec L2 PyProof.Rows
section
variable {X : Cx}
/-! ### C(..), whose fields a pile holds -/
/-! ### o.f = e, o a thing that the pile holds -/
end
/-! ### walks over what a pile holds, told by an expression -/
section
variable {K : PySem.W.Frag}
end
section
variable {X : Cx} {tg : Expr}
end
end DL

/-! Methods, properties, len and == of things that a pile holds, seen n levels deep; what comes out is new and flat. -/
namespace DL
open PySem PySem.Spec L2 PyProof.Rows
section
variable {K : PySem.W.Frag} {G : Cd} {σ : L2.St} {H F H' F' : Hp} {ρ : SL}
end
section
variable {X : Cx}
end
end DL

/-! try: .. whose body does not raise. -/
namespace DL
open PySem PySem.Spec L2 PyProof.Rows
section
variable {X : Cx}
end
end DL

/-! o.f(..), f a field that holds an instance with its own __call__. -/
namespace DL
open PySem PySem.Spec L2 PyProof.Rows
section
variable {X : Cx}
end
end DL

/-! What holds nothing of a pile is seen as it is. -/
namespace DL
open PySem PySem.Spec L2 PyProof.Rows
end DL

/-! d.get(k, x). -/
namespace DL
open PySem PySem.Spec L2 PyProof.Rows
section
variable {X : Cx}
end
end DL

/-! sorted(d), d a dict whose keys are texts. -/
namespace DL
open PySem PySem.Spec L2 PyProof.Rows
section
variable {prog : Program} {w : World} {A : Around} {E : Value → Shared → Prop} {s : Shared} {T : String} {r d : Addr} {n : Nat} {P : Nat → Value → Prop} {OK : Heap → Prop}
end
section
variable {X : Cx}
end
end DL

/-! sorted(a tuple of texts), text.join(a tuple), text.split(text). -/
namespace DL
open PySem PySem.Spec L2 PyProof.Rows
section
variable {prog : Program} {w : World} {A : Around} {E : Value → Shared → Prop} {s : Shared}
end
section
variable {X : Cx}
/-! ### text.join(x), x a list or a tuple of texts -/
/-! ### text.split(text) -/
end
end DL

/-! Defs that take the pile along and raise. -/
namespace DL
open PySem PySem.Spec L2 PyProof.Rows
section
variable {K : PySem.W.Frag} {G : Cd} {σ : L2.St} {H F : Hp} {ρ : SL}
end
section
variable {X : Cx}
/-! ### methods that raise -/
end
end DL

/-! An own error without a field, made: its __init__ says super().__init__(text). -/
namespace DL
open PySem PySem.W PySem.Calls PyProof.Rows PySem.HandSPX
def xA0 (p1 : Pos) : Arguments := { posonlyargs := [], args := [{ arg := "self", annotation := none, pos := p1 }], vararg := none, kwonlyargs := [], kw_defaults := [], kwarg := none, defaults := [] }
def xB0 (txt : Str) (a1 a2 a3 a4 a5 a6 : Pos) : List Stmt :=
  [.Expr (.Call (.Attribute (.Call (.Name "super" a1) [] [] a2) "__init__" a3) [.Constant (.str txt) 0 a4] [] a5) a6]
def xS0 : Scope := { kind := .function, names := [(PySem.Str.ofString "self", .local), (PySem.Str.ofString "__class__", .free), (PySem.Str.ofString "super", .globalImplicit)], isGenerator := false, isCoroutine := false, more := [] }
/-- what the written part says of an own error's class at C and of its __init__ at fI, which has no parameter -/
structure XcN (prog : Program) (K : Frag) (mg : Str → Option Value) (x : Str) (C fI : Addr) : Prop where
  gC : mg x = some (.ref C)
  cls : ∃ nm q N bs bm sn sub ab col dd k0 k1 k2 k3 k5, K.lookup C = some (excClassObj nm q C N bs bm true sn sub ab col dd k0 k1 k2 k3 k5 "ValueError.__new__") ∧ refsVE bm = true
  iC : findIn K (.ref C) "__init__" = some (some (.ref fI))
  tC : typeIn K (.ref fI) = some (.type "function")
  kC : keepIn K (.ref C) = true
  exC : subIn K (.ref C) (.type "BaseException") = some true
  tyC : typeIn K (.ref C) = some (.type "type")
  sup : ks_superIn K C C "__init__" = some (some (.builtin "ValueError.__init__"))
  subV : subIn K (.ref C) (.type "ValueError") = some true
  selfC : mroIn K C (.ref C) = some true
  opq : nsIn K cStatics "thirdparty.any" = some none
  noS : mg "super" = none
  fn : ∃ (oc : Value) (od : Option Addr) (doc pm : Value) (an : Option Addr) (cda cc : Addr) (ct : Value) (osl : Array (Option Value)) (txt q : Str) (p1 a1 a2 a3 a4 a5 a6 : Pos),
    K.lookup fI = some ⟨oc, od, .func (ksFn "__init__" q (xA0 p1) (xB0 txt a1 a2 a3 a4 a5 a6) xS0 .none .none doc pm an (.ref cda) ct cc), osl⟩ ∧ codeIn K (.ref cda) q = true ∧
    (∃ ccl cdd vs ccs file tf, K.lookup cda = some ⟨ccl, cdd, .fields vs, ccs⟩ ∧ vs[2]? = some (.str file tf) ∧ ((prog.main.file : Str) == file) = true) ∧
    (∃ cl cld csl, K.lookup cc = some ⟨cl, cld, .cell (some (.ref C)), csl⟩) ∧
    (∀ (s : Shared) (a : Value), BindsTo s (ksFn "__init__" q (xA0 p1) (xB0 txt a1 a2 a3 a4 a5 a6) xS0 .none .none doc pm an (.ref cda) ct cc) ⟨[a], []⟩ [("self", a)]) ∧
    (a3.endLine == a5.line) = true
  top : (prog.main.scope.names.lookup ("super" : Str)).isSome = false
theorem nil_size : ([] : List Value).length ≤ sizeLine := by
  rw [sizeLine_eq]
  exact (by decide : 0 ≤ 16777216)
section
variable {prog : Program} {w : World} {A : Around} {E : Value → Shared → Prop} {R : Result → Shared → Prop} {s : Shared} {K : Frag} {mg : Str → Option Value} {C fI : Addr} {nm : Str}
theorem xinit0 (T : XcN prog K mg nm C fI) {x t0 : Addr} {mb : Str → Option Value} (X : K.In s.heap) (hlim : s.heap.NoLimit) (hg : s.heap.Ns mainGlobals mg) (hb : s.heap.Ns builtinsNs mb) (hbv : mb "super" = some (.type "super"))
    (hx : s.heap.get? x = some (excO C t0)) (hnx : K.lookup x = none) (hroom : A.depth < recursionLimit)
    (hq : ∀ h' tk t1, (∀ b o, b ≠ x → s.heap.get? b = some o → h'.get? b = some o) → h'.get? x = some (excO C t1) → R (.ok (.ret .none)) { s with heap := h', toks := tk }) :
    codeAny (model prog w) A (.call (.ref fI) ⟨[.ref x], []⟩) R s := by
  obtain ⟨oc, od, doc, pm, an, cda, cc, ct, osl, txt, q, p1, a1, a2, a3, a4, a5, a6, ho, hcd, ⟨ccl, cdd, vs, ccs, file, tf, hcode, hvs, hfile⟩, ⟨cl, cld, csl, hcell⟩, hbind, hpos⟩ := T.fn
  obtain ⟨nm', q', N, bs, bm, sn, sub, ab, col, dd, k0, k1, k2, k3, k5, hC, hbm⟩ := T.cls
  have hcl : clsIn K C = some { name := nm', bases := bs, mro := .ref C :: bm, ns := N, qualname := q', hasDict := true, slotNames := sn, subclasses := sub, abstract := ab, collection := col, hasDel := false } := by unfold clsIn; rw [hC] <;> rfl
  have lk3 : xS0.names.lookup ("self" : Str) = some .local := by decide
  have lkS : xS0.names.lookup ("super" : Str) = some .globalImplicit := by decide
  have lkC : xS0.names.lookup ("__class__" : Str) = some .free := by decide
  refine ks_codeAny_call_defAt (fd := ksFn "__init__" q (xA0 p1) (xB0 txt a1 a2 a3 a4 a5 a6) xS0 .none .none doc pm an (.ref cda) ct cc) (body := xB0 txt a1 a2 a3 a4 a5 a6) (binds := [("self", .ref x)])
    hroom (X _ _ ho) rfl hlim (codeRec_of X hcd) rfl (hbind s (.ref x)) ?_ ?_ (fun h₁ hns k₁ => ?_)
  · intro y hy
    simp only [ksFn, fnX, xS0, List.mem_cons, List.not_mem_nil, or_false] at hy
    rcases hy with rfl | rfl | rfl <;> intro z <;> cases z
  · intro y hy
    simp only [List.mem_cons, List.not_mem_nil, or_false] at hy
    rcases hy with rfl
    exact lk3
  · have X₁ : K.In h₁ := X.keeps k₁
    have hx₁ := k₁ _ _ hx
    refine ks_wpAt_execs_cons (ks_wpAt_Expr_any (ks_wpAt_MethodCall ?_ (xcall_eq _ _ _ _ _ _ _ hpos)))
    refine ks_wpAt_super_base (env := ksEnv q xS0 s.heap.objs.size fI (.ref cda) cc) lkS lkC (by decide) rfl (X₁ _ _ ho) rfl (ar := { arg := "self", annotation := none, pos := p1 }) rfl rfl (X₁ _ _ hcode) rfl hvs hfile T.top ?_
    refine ks_loadName_global rfl lkS (loadGlobal_builtin (env := ksEnv q xS0 s.heap.objs.size fI (.ref cda) cc) (hg.keeps k₁) T.noS (hb.keeps k₁) hbv ⟨rfl, ?_⟩)
    refine wpAny_loadName_free rfl lkC rfl ⟨_, X₁ _ _ hcell, rfl⟩ ?_
    refine wpAny_loadName_local rfl lk3 hns (v := .ref x) ?_ ?_
    · rfl
    have hD : h₁.get? C = some _ := X₁ _ _ hC
    refine ks_wpAny_isType_cls hD rfl ⟨rfl, ?_⟩
    refine ks_wpAny_call_super hD rfl hx₁ rfl (fun c z => nomatch z) (looks_mroIn X₁ T.selfC) (fun h₂ hso k₂ => ?_)
    have X₂ : K.In h₂ := X₁.keeps k₂
    have hx₂ := k₂ _ _ hx₁
    have I₂ : InstAt h₂ x (excO C t0) C none := ⟨hx₂, rfl, rfl, trivial⟩
    have hI : Looks (model prog w) h₂ (isInstance (.ref x) (.type "ValueError")) true := I₂.type.andThen (looks_subIn X₂ T.subV)
    have hsup := T.sup
    unfold ks_superIn at hsup
    rw [hcl] at hsup
    refine kxs_getMethod kxs_ValueError hso (looks_opaque X₂ T.opq) (l₀ := .ref C :: bm) ?_ rfl X₂ hsup hI (ks_ne X₂ I₂ hcl) (by decide) ?_
    · exact fun A Q E s k q => wpAny_bind ((looks_clsIn X₂ hcl) A _ E s k (wpAny_pure q))
    have k₃ : ∀ b o, h₂.get? b = some o → (h₂.push (kxs_mw "ValueError.__init__" x)).get? b = some o := fun b o e => Heap.get?_push_of_some _ e
    have hu : (h₂.push (kxs_mw "ValueError.__init__" x)).get? h₂.objs.size = some (kxs_mw "ValueError.__init__" x) := Heap.get?_push_at rfl rfl
    refine kxs_callWith (i := "ValueError.__init__") (x := x) rfl ?_
    refine evalArgs_plain ?_
    refine spliced_more (Calls.Constant_str ?_) rfl
    refine spliced_none ?_
    refine ⟨hu, ?_⟩
    refine xcall_mw (k₃ _ _ (X₂ _ _ hC)) (k₃ _ _ hx₂) hu (one_size _) fun h₄ t1 k₄ hx₄ => ?_
    have kk : ∀ b o, b ≠ x → s.heap.get? b = some o → h₄.get? b = some o := fun b o hb e => k₄ b o hb (k₃ b o (k₂ b o (k₁ b o e)))
    refine wpAt_of_wpAny ?_
    exact wpAny_execs_nil (hq h₄ _ t1 kk hx₄)
end
/-- a made error without fields -/
structure XMade0 (h h' : Heap) (e C : Addr) : Prop where
  keep : ∀ b o, h.get? b = some o → h'.get? b = some o
  new : h.objs.size ≤ e
  obj : ∃ t1, h'.get? e = some (excO C t1)
section
variable {prog : Program} {w : World} {A : Around} {E : Value → Shared → Prop} {R : Result → Shared → Prop} {s : Shared} {K : Frag} {mg : Str → Option Value} {C fI : Addr} {nm : Str}
theorem xmade0 (T : XcN prog K mg nm C fI) {mb : Str → Option Value} (X : K.In s.heap) (hlim : s.heap.NoLimit) (hg : s.heap.Ns mainGlobals mg) (hb : s.heap.Ns builtinsNs mb) (hbv : mb "super" = some (.type "super")) (hroom : A.depth + 1 < recursionLimit)
    (hq : ∀ h' tk e, XMade0 s.heap h' e C → R (.ok (.ret (.ref e))) { s with heap := h', toks := tk }) :
    codeAny (model prog w) A (.call (.ref C) ⟨[], []⟩) R s := by
  obtain ⟨nm, q, N, bs, bm, sn, sub, ab, col, dd, k0, k1, k2, k3, k5, hC, hbm⟩ := T.cls
  obtain ⟨hp, g, dr, tk, os⟩ := s
  have k : ∀ b o, hp.get? b = some o → ((hp.push (kdv_tup [])).push (excO C hp.objs.size)).get? b = some o := fun b o e => Heap.get?_push_of_some _ (Heap.get?_push_of_some _ e)
  have hget : ((hp.push (kdv_tup [])).push (excO C hp.objs.size)).get? (hp.objs.size + 1) = some (excO C hp.objs.size) := by heap_get
  have hnx : K.lookup (hp.objs.size + 1) = none := by
    cases e : K.lookup (hp.objs.size + 1) with
    | none => rfl
    | some o =>
      have z : hp.get? (hp.objs.size + 1) = some o := X _ _ e
      exact absurd (Nat.lt_of_succ_lt (Heap.lt_size z)) (Nat.lt_irrefl _)
  refine call_own F.excBase_ValueError (fun X => refsVE_contains X bm hbm) (X _ _ hC) (looks_findIn X T.iC) (fun self => bind_fn X self T.tC) nil_size ?_
  refine xinit0 (s := ⟨(hp.push (kdv_tup [])).push (excO C hp.objs.size), g, dr, tk, os⟩) T (X.keeps k) (hlim.keeps k) (hg.keeps k) (hb.keeps k) hbv hget hnx ?_ fun h' tk' t1 k' hx => ?_
  · show A.depth + 1 < recursionLimit
    exact hroom
  · have old : ∀ b o, hp.get? b = some o → h'.get? b = some o := fun b o e => k' b o (Nat.ne_of_lt (Nat.lt_succ_of_lt (Heap.lt_size e))) (k b o e)
    exact ⟨rfl, hq h' tk' (hp.objs.size + 1) ⟨old, Nat.le_succ _, ⟨_, hx⟩⟩⟩
end
end DL
namespace DL
open PySem PySem.Spec PyProof.Rows L2
section
variable {X : Cx} {C fI : Addr} {nm : Str}
end
end DL

/-! Targets and changes of what a pile holds: o.f in a tuple of targets, x[:] = ys, x.pop(), x.clear(). -/
namespace DL
open PySem PySem.Spec L2 PyProof.Rows
section
variable {X : Cx}
end
end DL

/-! An integer looked for in a tuple of integers. -/
namespace DL
open PySem PySem.Spec PyProof.Rows L2
open PySem.SeqAt PySem.Calls
section
variable {X : Cx}
end
end DL

/-! x == y and isinstance(y, C), where y may be of another own class. -/
namespace DL
open PySem L2
section
variable {X : Cx}
end
end DL

/-! `except (A, B): raise C(..) from None`; defs whose errors may have been raised while another one was handled (hot), with the pile. -/
namespace L2H
open PySem PySem.Spec PyProof.Rows L2 HotX
section
variable {X : Cx} {x1 x2 : Str} {c1 c2 : Value} {body suite : List Stmt} {b₀ : Stmt} {p1 p2 tpos pos pos' : Pos} {kk : Nat} {tb : WX → TS} {ts : Addr → Value → Option Addr → TS} {Wout : WX}
end
end L2H
namespace DL
open PySem PySem.Spec L2 PyProof.Rows
section
variable {X : Cx}
/-! ### raise C(..) from None, in an except suite -/
/-! ### try: .. except (A, B): .. -/
/-! ### hot errors -/
end
end DL

/-! An integer not in a tuple of integers. -/
namespace DL
open PySem PySem.Spec PyProof.Rows L2
open PySem.SeqAt PySem.Calls
section
variable {X : Cx}
end
end DL

/-! try, with the clauses' wish kept shut while the body is run. -/
namespace DL
open PySem PySem.Spec L2 PyProof.Rows
end DL

/-! A tuple and a tuple, joined; no one of them empty. -/
namespace DL
open PySem PySem.Spec PyProof.Rows L2
section
variable {X : Cx}
end
end DL

/-! y in x, x of a class with its own __contains__. -/
namespace DL
open PySem PySem.Spec PyProof.Rows L2
section
variable {prog : Program} {w : World} {A : Around} {E : Value → Shared → Prop} {s : Shared} {K : PySem.W.Frag} {x C f : Addr} {ox : Obj} {od : Option Obj}
end
section
variable {X : Cx}
end
end DL

/-! x(a, ..) in a try, x of a class with its own __call__ that raises. -/
namespace DL
open PySem PySem.Spec PyProof.Rows L2
section
variable {X : Cx}
end
end DL

/-! min and max of two texts. -/
namespace DL
open PySem PySem.Spec PyProof.Rows L2
section
variable {prog : Program} {w : World} {A : Around} {E : Value → Shared → Prop} {s : Shared} {Q : Value → Shared → Prop} {a b : Value}
end
section
variable {X : Cx}
end
end DL

/-! What a statement has put into a local goes onto the pile: x = [.. for ..] that is shared later. -/
namespace DL
open PySem PySem.Spec L2 PyProof.Rows
section
variable {X : Cx}
end
end DL

/-! Errors as values: made, read, asked for their classes. -/
namespace DL
open PySem PySem.Spec L2 PyProof.Rows PySem.W PySem.HandSPX
theorem errP_ok {P : Program} {w : World} {H : Hp} {h : Heap} {a C : Addr} {d : Option Addr} (z : ErrP a C d h) : ObjOk P w H h a (.ext (ErrP a C d)) := by
  obtain ⟨oe, h1, h2, h3, vs, h4⟩ := z
  refine ⟨⟨oe, h1, h2, h3, vs, h4⟩, ⟨oe, h1⟩, fun g1 g2 q st => ?_⟩
  obtain ⟨oe', e1, r⟩ := q
  exact ⟨oe', st _ e1, r⟩
theorem errP_of {P : Program} {w : World} {H : Hp} {h : Heap} {a C : Addr} {d : Option Addr} (z : ObjOk P w H h a (.ext (ErrP a C d))) : ErrP a C d h := z.1
section
variable {X : Cx} {C fI : Addr} {nm fld : Str}
/-- Own(e), a value -/
def tVx (C : Addr) (fld : Str) (ta : TA) : TE := fun σ H Q => ta σ H fun vs H1 => ∃ v, vs = [v] ∧ ∀ d e, H1 d = none → H1 e = none → e ≠ d → Q (.ref e) (upd (upd H1 d (.xd [(fld, v)])) e (.ext (ErrP e C (some d))))
theorem pe_vx {a : Expr} {ta : TA} {p pos : Pos} {k : Nat} (T : XcT X.prog X.K X.mg nm C fI fld) (hr : Room (k + 1) X.A) (ha : PA X [a] ta) (hg : Gl X nm) (hdb : (nm == ("__debug__" : Str)) = false := by decide)
    (he : starEach (a :: []) X.env = (false, eval a X.env) :: starEach [] X.env := by rfl) (hpl : (backTo pos (starEach [] X.env)).any (·.1) = false := by rfl) :
    PE X (.Call (.Name nm p) [a] [] pos) (tVx C fld ta) := by
  refine ⟨fun pins s σ H Q I h => ?_⟩
  refine wpAny_Call_Name_kw (ld_glob I hg T.gC ?_ hdb)
  refine PySem.W.callWith_K (h₀ := X.base) I.ok.mod.kin T.kC (thn (ha.run pos pins s σ H _ I h) fun us s1 hh => ?_) he hpl
  obtain ⟨vs, H1, I1, r1, v, ev, q1⟩ := hh
  subst ev
  refine ⟨I1.kIn, ?_⟩
  cases r1 with
  | cons rv rn =>
    rename_i v' us'
    cases rn
    show wpAny _ _ (call (.ref C) [v']) _ _ _
    have hlim := I1.nolimit
    have hgl := I1.mod.glob.keeps I1.bk
    obtain ⟨mb, hb1, hb2⟩ := I1.mod.blt
    have hbl := hb1.keeps I1.bk
    obtain ⟨hp, g, dr, tk, os⟩ := s1
    refine wpAny_call (xmade T I1.kIn hlim hgl hbl ((hb2 _ (by decide)).trans (by first | boot_by_name | rfl | kernel_rfl)) (by have := hr.dp; omega) fun h' tk' e d M => ?_)
    show EP X pins σ Q (.ref e) ⟨h', g, dr, tk', os⟩
    obtain ⟨oe, fv, hoe, hc, hd, hdat, h1, h2, h5⟩ := M.obj
    have hns := M.ns
    obtain ⟨G', g1, g2⟩ := restrict h' fun b => decide (b ≠ e)
    have gk : ∀ b, b ≠ e → G'.get? b = h'.get? b := fun b hb => g1 b (decide_eq_true hb)
    have ge : G'.get? e = none := g2 e (by simp)
    have old : ∀ b o, hp.get? b = some o → G'.get? b = some o := fun b o q => (gk b (Nat.ne_of_lt (Nat.lt_of_lt_of_le (Heap.lt_size q) M.new))).trans (M.keep b o q)
    have ob : ObjOk X.prog X.w (upd H1 d (.xd [(fld, v)])) G' d (.xd [(fld, v)]) :=
      ⟨_, hns.at (fun o q => (gk d M.dne).trans q), fun f => relO_x rv fld f⟩
    have J : Inv X pins σ (upd H1 d (.xd [(fld, v)])) ⟨G', g, dr, tk', os⟩ := I1.laid (t' := tk') old M.dbig ob
    have He : H1 e = none := I1.hok.fresh M.new
    have Hd : H1 d = none := I1.hok.fresh M.dbig
    have old2 : ∀ b o, G'.get? b = some o → h'.get? b = some o := fun b o q => by
      by_cases hb : b = e
      · subst hb; rw [ge] at q; cases q
      · rw [← gk b hb]; exact q
    have J2 := J.laidN (t' := tk') (a := e) (o := .ext (ErrP e C (some d))) old2 ge (by rw [upd_ne M.dne.symm]; exact He) (errP_ok ⟨oe, hoe, hc, hd, fv, hdat⟩)
    exact ⟨.ref e, _, J2, rfl, q1 d e Hd He M.dne.symm⟩
def tV0 (C : Addr) : TE := fun _ H Q => ∀ e, H e = none → Q (.ref e) (upd H e (.ext (ErrP e C none)))
theorem pe_v0 {p pos : Pos} {k : Nat} (T : XcN X.prog X.K X.mg nm C fI) (hr : Room (k + 1) X.A) (hg : Gl X nm) (hdb : (nm == ("__debug__" : Str)) = false := by decide) :
    PE X (.Call (.Name nm p) [] [] pos) (tV0 C) := by
  refine ⟨fun pins s σ H Q I h => ?_⟩
  refine wpAny_Call_Name_kw (ld_glob I hg T.gC (PySem.W.callWith_K0 I.kIn T.kC ?_) hdb)
  show wpAny _ _ (call (.ref C) []) _ _ _
  have hlim := I.nolimit
  have hgl := I.mod.glob.keeps I.bk
  obtain ⟨mb, hb1, hb2⟩ := I.mod.blt
  have hbl := hb1.keeps I.bk
  obtain ⟨hp, g, dr, tk, os⟩ := s
  refine wpAny_call (xmade0 T I.kIn hlim hgl hbl ((hb2 _ (by decide)).trans (by first | boot_by_name | rfl | kernel_rfl)) (by have := hr.dp; omega) fun h' tk' e M => ?_)
  show EP X pins σ Q (.ref e) ⟨h', g, dr, tk', os⟩
  obtain ⟨t1, hoe⟩ := M.obj
  exact ⟨.ref e, _, I.laid (t' := tk') (a := e) (o := .ext (ErrP e C none)) M.keep M.new (errP_ok ⟨_, hoe, rfl, rfl, _, rfl⟩), rfl, h e (I.hok.fresh M.new)⟩
/-- a class of errors that has no __init__ of its own -/
structure XcB (K : Frag) (mg : Str → Option Value) (x : Str) (C : Addr) : Prop where
  gC : mg x = some (.ref C)
  cls : excInitIn K C [.type "ValueError", .type "Exception", .type "BaseException", .type "object"] "ValueError.__new__" = true
  iC : findIn K (.ref C) "__init__" = some (some (.builtin "ValueError.__init__"))
  kC : keepIn K (.ref C) = true
theorem xmadeB {A : Around} {prog : Program} {w : World} {E Q : Value → Shared → Prop} {s : Shared} {rest : List Value} {K : Frag} {mg : Str → Option Value} (T : XcB K mg nm C) (X : K.In s.heap) (hl : rest.length ≤ sizeLine)
    (hq : ∀ h' e, (∀ b o, s.heap.get? b = some o → h'.get? b = some o) → s.heap.objs.size ≤ e → (∃ oe, h'.get? e = some oe ∧ oe.cls = .ref C ∧ oe.dict = none ∧ ∃ vs, oe.data = .fields vs) → Q (.ref e) { s with heap := h' }) :
    wpAny (model prog w) A (call (.ref C) rest) Q E s := by
  obtain ⟨nm, N, q, bs, bm, hd, sn, sub, ab, col, dd, k0, k1, k2, k3, k5, hC, hbm⟩ := PySem.W.excInit_of X T.cls
  obtain ⟨hp, g, dr, tk, os⟩ := s
  refine PySem.W.call_B PySem.F.excBase_ValueError hbm hC (looks_findIn X T.iC) hl fun h' k h1 h2 => ?_
  exact hq h' _ k (Nat.le_succ _) ⟨_, h1, rfl, rfl, _, rfl⟩
def tVB (C : Addr) (ta : TA) : TE := fun σ H Q => ta σ H fun vs H1 => vs.length ≤ 1000 ∧ ∀ e, H1 e = none → Q (.ref e) (upd H1 e (.ext (ErrP e C none)))
theorem pe_vB {e : Expr} {es : List Expr} {ta : TA} {p pos : Pos} (T : XcB X.K X.mg nm C) (ha : PA X (e :: es) ta) (hg : Gl X nm) (hdb : (nm == ("__debug__" : Str)) = false := by decide)
    (he : starEach (e :: es) X.env = (false, eval e X.env) :: starEach es X.env := by rfl) (hpl : (backTo pos (starEach es X.env)).any (·.1) = false := by rfl) :
    PE X (.Call (.Name nm p) (e :: es) [] pos) (tVB C ta) := by
  refine ⟨fun pins s σ H Q I h => ?_⟩
  refine wpAny_Call_Name_kw (ld_glob I hg T.gC ?_ hdb)
  refine PySem.W.callWith_K (h₀ := X.base) I.ok.mod.kin T.kC (thn (ha.run pos pins s σ H _ I h) fun us s1 hh => ?_) he hpl
  obtain ⟨vs, H1, I1, r1, hl, q1⟩ := hh
  refine ⟨I1.kIn, ?_⟩
  refine xmadeB T I1.kIn (by rw [List.nil_append, ← r1.length, sizeLine_eq]; omega) fun h' x k hx z => ?_
  exact ⟨.ref x, _, I1.laid (t' := s1.toks) (a := x) (o := .ext (ErrP x C none)) k hx (errP_ok z), rfl, q1 x (I1.hok.fresh hx)⟩
theorem pe_vB0 {p pos : Pos} (T : XcB X.K X.mg nm C) (hg : Gl X nm) (hdb : (nm == ("__debug__" : Str)) = false := by decide) :
    PE X (.Call (.Name nm p) [] [] pos) (tV0 C) := by
  refine ⟨fun pins s σ H Q I h => ?_⟩
  refine wpAny_Call_Name_kw (ld_glob I hg T.gC (PySem.W.callWith_K0 I.kIn T.kC ?_) hdb)
  refine xmadeB T I.kIn (Nat.zero_le _) fun h' x k hx z => ?_
  exact ⟨.ref x, _, I.laid (t' := s.toks) (a := x) (o := .ext (ErrP x C none)) k hx (errP_ok z), rfl, h x (I.hok.fresh hx)⟩
/-! the same over data -/
def dVx (C : Addr) (fld : Str) (t : TD) : TD := fun ρ Q => t ρ fun r ρ1 => ∀ e, Q (.v (.err e C fld r.dat)) ρ1
theorem de_vx {a : Expr} {te : TE} {t : TD} {p pos : Pos} {k : Nat} (T : XcT X.prog X.K X.mg nm C fI fld) (hr : Room (k + 1) X.A) (ha : DE X a te t) (hg : Gl X nm) (hdb : (nm == ("__debug__" : Str)) = false := by decide)
    (hs : starEach (a :: []) X.env = (false, eval a X.env) :: starEach [] X.env := by rfl) (hpl : (backTo pos (starEach [] X.env)).any (·.1) = false := by rfl) :
    DE X (.Call (.Name nm p) [a] [] pos) (tVx C fld (tCons te tNil)) (dVx C fld t) :=
  ⟨pe_vx T hr (pa_cons ha.pe pa_nil hs) hg hdb hs hpl, fun {G σ H F ρ Q Qd} R q kk => by
    refine ha.sem R q fun r ρ1 v H1 F1 q1 s1 R1 rd => ?_
    obtain ⟨F2, s2, R2, d2⟩ := R1.share rd
    refine ⟨v, rfl, fun d e hd he ne => ?_⟩
    obtain ⟨s3, R3⟩ := R2.alloc (o := .xd [(fld, v)]) hd
    obtain ⟨s4, R4⟩ := R3.alloc (p := e) (o := .ext (ErrP e C (some d))) (by rw [upd_ne ne]; exact he)
    exact kk _ _ _ _ _ (q1 e) (s1.trans (s2.trans (s3.trans s4))) R4 (.err upd_same (by rw [upd_ne ne.symm]; exact upd_same) (d2.mono (s3.trans s4)))⟩
def dV0 (C : Addr) : TD := fun ρ Q => ∀ e, Q (.v (.err e C Str.empty .non)) ρ
theorem de_v0 {p pos : Pos} {k : Nat} (T : XcN X.prog X.K X.mg nm C fI) (hr : Room (k + 1) X.A) (hg : Gl X nm) (hdb : (nm == ("__debug__" : Str)) = false := by decide) :
    DE X (.Call (.Name nm p) [] [] pos) (tV0 C) (dV0 C) :=
  ⟨pe_v0 T hr hg hdb, fun {G σ H F ρ Q Qd} R q kk => fun e he => by
    obtain ⟨s4, R4⟩ := R.alloc (o := .ext (ErrP e C none)) he
    exact kk _ _ _ _ _ (q e) s4 R4 (.er0 upd_same)⟩
theorem de_vB0 {p pos : Pos} (T : XcB X.K X.mg nm C) (hg : Gl X nm) (hdb : (nm == ("__debug__" : Str)) = false := by decide) :
    DE X (.Call (.Name nm p) [] [] pos) (tV0 C) (dV0 C) :=
  ⟨pe_vB0 T hg hdb, fun {G σ H F ρ Q Qd} R q kk => fun e he => by
    obtain ⟨s4, R4⟩ := R.alloc (o := .ext (ErrP e C none)) he
    exact kk _ _ _ _ _ (q e) s4 R4 (.er0 upd_same)⟩
def dVB (C : Addr) (t : TAs) : TD := fun ρ Q => t ρ fun os ρ1 => os.length ≤ 1000 ∧ ∀ e, Q (.v (.err e C Str.empty .non)) ρ1
theorem opDens_len {K : PySem.W.Frag} {F : Hp} {σ : L2.St} : ∀ {vs : List V} {os : List Op}, OpDens K F σ vs os → vs.length = os.length
  | _, _, .nil => rfl
  | _, _, .cons _ b => by rw [List.length_cons, List.length_cons, opDens_len b]
theorem de_vB {e : Expr} {es : List Expr} {ta : TA} {t : TAs} {p pos : Pos} (T : XcB X.K X.mg nm C) (ha : DA X (e :: es) ta t) (hg : Gl X nm) (hdb : (nm == ("__debug__" : Str)) = false := by decide)
    (he : starEach (e :: es) X.env = (false, eval e X.env) :: starEach es X.env := by rfl) (hpl : (backTo pos (starEach es X.env)).any (·.1) = false := by rfl) :
    DE X (.Call (.Name nm p) (e :: es) [] pos) (tVB C ta) (dVB C t) :=
  ⟨pe_vB T ha.pe hg hdb he hpl, fun {G σ H F ρ Q Qd} R q kk => by
    refine ha.sem R q fun os ρ1 vs H1 F1 q1 s1 R1 d1 => ?_
    refine ⟨by rw [opDens_len d1]; exact q1.1, fun x hx => ?_⟩
    obtain ⟨s4, R4⟩ := R1.alloc (o := .ext (ErrP x C none)) hx
    exact kk _ _ _ _ _ (q1.2 x) (s1.trans s4) R4 (.er0 upd_same)⟩
/-! what is read of it -/
theorem instE {P : Program} {w : World} {H : Hp} {h : Heap} {a C : Addr} {d : Option Addr} (ok : HOk P w H h) (e1 : H a = some (.ext (ErrP a C d))) (e2 : XAt H d) : ∃ ox od, PySem.W.InstAt h a ox C od := by
  obtain ⟨oe, g1, g2, g3, vs, g4⟩ := errP_of (ok a _ e1)
  cases d with
  | none => exact ⟨oe, none, g1, g2, by unfold PySem.W.notCls; rw [g4] <;> rfl, by rw [g3]; trivial⟩
  | some dd =>
    obtain ⟨fs, ea⟩ := e2
    have hx : ObjOk P w H h dd (.xd fs) := ok dd _ ea
    obtain ⟨mA, hns, hr⟩ := hx
    obtain ⟨od, ho, hl⟩ := lookIn_ns hns
    exact ⟨oe, some od, g1, g2, by unfold PySem.W.notCls; rw [g4] <;> rfl, by rw [g3]; exact ho⟩
def tXfV (C : Addr) (n : Str) (te : TE) : TE := fun σ H Q => te σ H fun x H1 => ∃ a dd fs v, x = .ref a ∧ H1 a = some (.ext (ErrP a C (some dd))) ∧ H1 dd = some (.xd fs) ∧ fs.lookup n = some v ∧ Q v H1
theorem pe_xfV {e : Expr} {te : TE} {pos : Pos} {n : Str} (T : XfC X.K C) (hno : PySem.W.findIn X.K (.ref C) n = some none) (he : PE X e te) (hb : attributeBase e n X.env (eval e X.env) = eval e X.env := by rfl) :
    PE X (.Attribute e n pos) (tXfV C n te) := by
  refine ⟨fun pins s σ H Q I h => ?_⟩
  refine attr_of hb (thn (he.run pins s σ H _ I h) fun u s1 ⟨x, H1, I1, rx, a, dd, fs, v, ex, e1, e2, e3, q⟩ => ?_)
  subst ex
  obtain rfl : u = Value.ref a := rx
  obtain ⟨oe, g1, g2, g3, vs, g4⟩ := errP_of (I1.hok a _ e1)
  have hx : ObjOk X.prog X.w H1 s1.heap dd (.xd fs) := I1.hok dd _ e2
  obtain ⟨mA, hns, hr⟩ := hx
  obtain ⟨od, ho, hl⟩ := lookIn_ns hns
  have J : PySem.W.InstAt s1.heap a oe C (some od) := ⟨g1, g2, by unfold PySem.W.notCls; rw [g4] <;> rfl, by rw [g3]; exact ho⟩
  have hv := hr n
  rw [e3] at hv
  cases em : mA n with
  | none => rw [em] at hv; exact hv.elim
  | some v' =>
    rw [em] at hv
    have rv : RelV v v' := hv
    refine exc_get I1.kIn J T.ga T.gg T.exC (PySem.W.findObj_own T.hdC hno rfl (by rw [hl n, em])) (handed_of rv) ?_
    exact ⟨v, H1, I1.tok _, rv, q⟩
def dXfV (C : Addr) (n : Str) (t : TD) : TD := fun ρ Q => t ρ fun r ρ1 => ∃ a d, r.dat = .err a C n d ∧ Q (.v d) ρ1
theorem de_xfV {e : Expr} {te : TE} {t : TD} {pos : Pos} {n : Str} (T : XfC X.K C) (hno : PySem.W.findIn X.K (.ref C) n = some none) (he : DE X e te t) (hn : n ≠ Str.empty := by decide +kernel) (hb : attributeBase e n X.env (eval e X.env) = eval e X.env := by rfl) :
    DE X (.Attribute e n pos) (tXfV C n te) (dXfV C n t) :=
  ⟨pe_xfV T hno he.pe hb, fun {G σ H F ρ Q Qd} R q k => by
    refine he.sem R q fun r ρ1 v H1 F1 q1 s1 R1 rd => ?_
    obtain ⟨F2, s2, R2, d2⟩ := R1.share rd
    obtain ⟨a, d, hr, q1⟩ := q1
    rw [hr] at d2
    cases d2 with
    | err h1 h2 h3 =>
      exact ⟨a, _, _, _, rfl, R2.ext _ _ h1, R2.ext _ _ h2, by simp [List.lookup], k _ _ _ _ _ q1 (s1.trans s2) R2 h3⟩
    | er0 h1 => exact absurd rfl hn⟩
def rIsV (K : PySem.W.Frag) : List V → Hp → VK → Prop := fun xs H Q => ∃ (a C : Addr) (d : Option Addr) (c : V) (cv : Value) (b : Bool), xs = [.ref a, c] ∧ ClsV c cv ∧ ExcC K C ∧ H a = some (.ext (ErrP a C d)) ∧ XAt H d ∧ PySem.W.kitOne K (.ref C) cv = some b ∧ Q (.bl b) H
theorem call_isV : CallR X (.builtin "isinstance") (rIsV X.K) := by
  intro pins s σ H xs us Q I r h
  obtain ⟨a, C, d, c, cv, b, rfl, hcv, hC, e1, e2, e, q⟩ := h
  cases r with
  | cons rx rr =>
    cases rr with
    | cons rt rr =>
      cases rr
      cases rx
      have ec := hcv.eq rt
      subst ec
      obtain ⟨ox, od, J⟩ := instE I.hok e1 e2
      exact PySem.W.kia_one (PySem.W.kitx_excD (ox := ox) hC) I.kIn ⟨od, J⟩ e (fun z => nomatch z) fun tk => ⟨.bl b, H, I.kept (t' := tk) fun _ _ z => z, rfl, q⟩
def dIsV (K : PySem.W.Frag) (cv : Value) (t : TD) : TD := fun ρ Q => t ρ fun r ρ1 => ∃ a C f d b, r.dat = .err a C f d ∧ ExcC K C ∧ PySem.W.kitOne K (.ref C) cv = some b ∧ Q (.v (.bl b)) ρ1
theorem sem_isV {c : V} {cv : Value} {e : Expr} {te : TE} {t : TD} (he : DE X e te t) (hc : ClsV c cv) {G : Cd} {σ : L2.St} {H F : Hp} {ρ : SL} {Q : VK} {Qd : Rv → SL → Prop} (R : Rep X.K G σ H F ρ) (q : dIsV X.K cv t ρ Qd)
    (k : ∀ r ρ' v H' F', Qd r ρ' → Same F F' → Rep X.K G σ H' F' ρ' → RDen X.K G σ ρ' H' F' v r → Q v H') : tCB (rIsV X.K) (tCons te (tCons (tC c) tNil)) σ H Q := by
  refine he.sem R q fun r ρ1 v H1 F1 q1 s1 R1 rd => ?_
  obtain ⟨F2, s2, R2, d2⟩ := R1.share rd
  obtain ⟨a, C, f, d, b, hr, hC, hb, qd⟩ := q1
  rw [hr] at d2
  cases d2 with
  | err h1 h2 h3 => exact ⟨a, C, _, c, cv, b, rfl, hc, hC, R2.ext _ _ h1, ⟨_, R2.ext _ _ h2⟩, hb, k _ _ _ _ _ qd (s1.trans s2) R2 (.bl b)⟩
  | er0 h1 => exact ⟨a, C, none, c, cv, b, rfl, hc, hC, R2.ext _ _ h1, trivial, hb, k _ _ _ _ _ qd (s1.trans s2) R2 (.bl b)⟩
theorem de_isV {x : Expr} {y : Str} {p p2 pos : Pos} {Cc : Addr} {te : TE} {t : TD} (he : DE X x te t) (hg : Gl X "isinstance") (hm : X.mg "isinstance" = none) (hgy : Gl X y) (hmy : X.mg y = some (.ref Cc)) (hdy : (y == ("__debug__" : Str)) = false := by decide)
    (hs : starEach (x :: [.Name y p2]) X.env = (false, eval x X.env) :: starEach [.Name y p2] X.env := by rfl) (hs2 : starEach (.Name y p2 :: []) X.env = (false, eval (.Name y p2) X.env) :: starEach [] X.env := by rfl)
    (hpl : (backTo pos (starEach [.Name y p2] X.env)).any (·.1) = false := by rfl) :
    DE X (.Call (.Name "isinstance" p) [x, .Name y p2] [] pos) (tCB (rIsV X.K) (tCons te (tCons (tC (.ref Cc)) tNil))) (dIsV X.K (.ref Cc) t) :=
  ⟨pe_callB call_isV hg hm PyProof.Rows.boot_isinstance (pa_cons he.pe (pa_cons (pe_glob hgy hmy rfl hdy) pa_nil hs2) hs) (by decide) (by decide) hs hpl,
    fun R q k => sem_isV he (.own Cc) R q k⟩
theorem de_isVb {x : Expr} {y : Str} {p p2 pos : Pos} {ty : String} {te : TE} {t : TD} (he : DE X x te t) (hg : Gl X "isinstance") (hm : X.mg "isinstance" = none) (hgy : Gl X y) (hmy : X.mg y = none) (hv : bootBuiltins y = some (.type ty)) (hny : y ≠ "__name__" := by decide) (hdy : (y == ("__debug__" : Str)) = false := by decide)
    (hs : starEach (x :: [.Name y p2]) X.env = (false, eval x X.env) :: starEach [.Name y p2] X.env := by rfl) (hs2 : starEach (.Name y p2 :: []) X.env = (false, eval (.Name y p2) X.env) :: starEach [] X.env := by rfl)
    (hpl : (backTo pos (starEach [.Name y p2] X.env)).any (·.1) = false := by rfl) :
    DE X (.Call (.Name "isinstance" p) [x, .Name y p2] [] pos) (tCB (rIsV X.K) (tCons te (tCons (tC (.ty ty)) tNil))) (dIsV X.K (.type ty) t) :=
  ⟨pe_callB call_isV hg hm PyProof.Rows.boot_isinstance (pa_cons he.pe (pa_cons (pe_bltn hgy hmy hv rfl hny hdy) pa_nil hs2) hs) (by decide) (by decide) hs hpl,
    fun R q k => sem_isV he (.ty ty) R q k⟩
end
end DL

/-! Two lists of the very same things do not differ, whatever the things are. -/
namespace DL
open PySem PySem.Spec PyProof.Rows L2
open PySem.SeqAt PySem.Calls
section
variable {X : Cx}
theorem denL_ats {K : PySem.W.Frag} {F : Hp} : ∀ {ps : List Addr} {xs : List V}, DenL K F xs (ps.map D.at) → xs = ps.map V.ref
  | [], _, h => by cases h; rfl
  | p :: r, _, h => by
    cases h with
    | cons a b =>
      cases a
      rw [List.map_cons, denL_ats b]
theorem vals_refs : ∀ {ps : List Addr} {us : List Value}, Vals (ps.map V.ref) us → us = ps.map Value.ref
  | [], _, h => by cases h; rfl
  | p :: r, _, h => by
    cases h with
    | cons a b =>
      cases a
      rw [List.map_cons, vals_refs b]
def rNeR : R2 := fun x y H Q => ∃ (l b : Addr) (ps : List Addr), x = .ref l ∧ y = .ref b ∧ H l = some (.lst (ps.map V.ref)) ∧ H b = some (.lst (ps.map V.ref)) ∧ Q (.bl false) H
theorem op_neR (hu : X.A.units + 64 < cLine) : OpR X (compareOp .NotEq) rNeR := by
  intro pins s σ H x y v u Q I rx ry h
  obtain ⟨l, b, ps, rfl, rfl, hl, hb, q⟩ := h
  cases rx
  cases ry
  have hu1 : X.A.units < cLine := by omega
  obtain ⟨xs, x1, x2⟩ := lst_at I hl
  obtain ⟨ys, y1, y2⟩ := lst_at I hb
  obtain rfl := vals_refs x2
  obtain rfl := vals_refs y2
  have h := SeqAt.RcNeAt.lists (A := X.A) (e := fun _ => true) x1 y1 rfl hu1 (fun j h1 h2 => EqAt.same _)
  have e : (!(List.range (ps.map Value.ref).toArray.size).all fun _ => true) = false := by simp
  rw [e] at h
  exact h _ _ _ _ ⟨.bl false, H, I, rfl, q⟩
def rNeS (K : PySem.W.Frag) : R2 := fun x y H Q => rNeR x y H Q ∨ rNeA K x y H Q
theorem op_neS (hu : X.A.units + 64 < cLine) : OpR X (compareOp .NotEq) (rNeS X.K) := (op_neR hu).or (op_neA hu)
def gNeS (a b : D) (Q : Rv → Prop) : Prop := (∃ ps : List Addr, a = .lst (ps.map D.at) ∧ b = .lst (ps.map D.at) ∧ Q (.v (.bl false))) ∨ gEq not a b Q
theorem sem_neS : SemOp X.K (rNeS X.K) gNeS := by
  intro G σ H F ρ x y a b Q Qd R ha hb h k
  rcases h with ⟨ps, rfl, rfl, h⟩ | h
  · obtain ⟨l, xs, rfl, h1, h2⟩ := ha.lst R.ext
    obtain ⟨b, ys, rfl, h3, h4⟩ := hb.lst R.ext
    obtain rfl := denL_ats h2
    obtain rfl := denL_ats h4
    exact .inl ⟨l, b, ps, rfl, rfl, h1, h3, k _ _ _ _ h (Same.refl _) R (.bl _)⟩
  · exact .inr (sem_ne R ha hb h k)
end
end DL

/-! ### the text of the law -/
namespace LW
open PySem L2 DL
local macro_rules | `(tactic| simp_arith) => `(tactic| try simp only [sSeq, sNext, sSet, sRet, sIf, sDrop, sFor, sStore, sAugI, dC, dVar, dTake, qVar, qE, aNil, aCons, dOp, dUn, dCallB, gets, Op.get, put, dat_sh, dat_ow, dat_bw, dat_un, ty0, ty1, ty2, ty3, ty4, ty5, ty6, ty7, ty8, ty9, ty10, ty11, ty12, ty13, ty14, ty15, ty16, ty17, ty18, ty19, ty20, ty21, ty22, ty23, ty24, ty25, ty26, ty27, ty28, ty29, ty30, ty31, ty32, ty33, ty34, ty35, ty36, ty37, ty38, ty39, ty40, ty41, gIsi_non, gIsiT_non, gIsiT_bl, gIsiT_int, gIsiT_str, gIsiT_lst, gIsiT_tup, gIsiT_dct, gIsi_bl, gIsi_int, gIsi_str, gIsi_lst, gIsi_tup, gIsi_dct, gIsC, gEq_bl, gEq_strs, eq_self, Sl.cn, Sl.with, Cn.dat, Rv.dat, bOf, asB, bTr, gTruth, bOr, bNot, vNil, vCons, dTup, dLst, dDisp, psNil, psCons, keyed, D.key, gN, srcE, srcR1, srcC, srcV, itsOf, dLc, bYes, wipeD, agNil, agVal, agBor, mkArgs, bors, giveB, dCall, clean, mAppend, slC, cnSet, gAdd, gDiv, gMod, gNeg, gCmpA_int, gCmpA_str, gIx, dSl, oNo, oE, gSl, gAbs, gLen, Option.map_some, List.map_cons, List.map_nil, List.getElem?_cons_zero, List.getElem?_cons_succ, List.getElem?_nil, List.set_cons_zero, List.set_cons_succ, List.length_cons, List.length_nil, List.cons_append, List.nil_append, List.take_succ_cons, List.take_zero, List.replicate_succ, List.replicate_zero, gMin2, gMax2, gMax3, nodup1, List.nodup_nil, gEq_int, gEq_str, atI_0, atI_1, atI_2, atI_3, ixN_40, ixN_41, ixN_42, gMul, List.append_nil, List.nil_append, slC_ow, slC_bw, dKeep, dVx, dV0, dVB, dXfV, dIsV, qPl, opG, qVarP, dMutE, plOf, np_fr, np_v, gPowW, sStoreP, List.lookup_cons, beq_self_eq_true, Bool.not_true, Bool.not_false, Nat.reduceAdd, Nat.reduceSub, Nat.zero_add, Option.isSome_some, true_and, and_true, Option.some.injEq, exists_and_left, exists_eq_left, exists_eq_left', id_eq, ite_true, ite_false, reduceIte, Bool.false_eq_true, decide_eq_true_eq]) | `(tactic| simp_arith [$xs,*]) => `(tactic| try simp only [sSeq, sNext, sSet, sRet, sIf, sDrop, sFor, sStore, sAugI, dC, dVar, dTake, qVar, qE, aNil, aCons, dOp, dUn, dCallB, gets, Op.get, put, dat_sh, dat_ow, dat_bw, dat_un, ty0, ty1, ty2, ty3, ty4, ty5, ty6, ty7, ty8, ty9, ty10, ty11, ty12, ty13, ty14, ty15, ty16, ty17, ty18, ty19, ty20, ty21, ty22, ty23, ty24, ty25, ty26, ty27, ty28, ty29, ty30, ty31, ty32, ty33, ty34, ty35, ty36, ty37, ty38, ty39, ty40, ty41, gIsi_non, gIsiT_non, gIsiT_bl, gIsiT_int, gIsiT_str, gIsiT_lst, gIsiT_tup, gIsiT_dct, gIsi_bl, gIsi_int, gIsi_str, gIsi_lst, gIsi_tup, gIsi_dct, gIsC, gEq_bl, gEq_strs, eq_self, Sl.cn, Sl.with, Cn.dat, Rv.dat, bOf, asB, bTr, gTruth, bOr, bNot, vNil, vCons, dTup, dLst, dDisp, psNil, psCons, keyed, D.key, gN, srcE, srcR1, srcC, srcV, itsOf, dLc, bYes, wipeD, agNil, agVal, agBor, mkArgs, bors, giveB, dCall, clean, mAppend, slC, cnSet, gAdd, gDiv, gMod, gNeg, gCmpA_int, gCmpA_str, gIx, dSl, oNo, oE, gSl, gAbs, gLen, Option.map_some, List.map_cons, List.map_nil, List.getElem?_cons_zero, List.getElem?_cons_succ, List.getElem?_nil, List.set_cons_zero, List.set_cons_succ, List.length_cons, List.length_nil, List.cons_append, List.nil_append, List.take_succ_cons, List.take_zero, List.replicate_succ, List.replicate_zero, gMin2, gMax2, gMax3, nodup1, List.nodup_nil, gEq_int, gEq_str, atI_0, atI_1, atI_2, atI_3, ixN_40, ixN_41, ixN_42, gMul, List.append_nil, List.nil_append, slC_ow, slC_bw, dKeep, dVx, dV0, dVB, dXfV, dIsV, qPl, opG, qVarP, dMutE, plOf, np_fr, np_v, gPowW, sStoreP, List.lookup_cons, beq_self_eq_true, Bool.not_true, Bool.not_false, Nat.reduceAdd, Nat.reduceSub, Nat.zero_add, Option.isSome_some, true_and, and_true, Option.some.injEq, exists_and_left, exists_eq_left, exists_eq_left', id_eq, ite_true, ite_false, reduceIte, Bool.false_eq_true, decide_eq_true_eq, $xs,*])
local macro_rules | `(tactic| simp_arith!) => `(tactic| try simp only [Sl.pl.injEq, sSeq, sNext, sSet, sRet, sIf, sDrop, sFor, sStore, sAugI, dC, dVar, dTake, qVar, qE, aNil, aCons, dOp, dUn, dCallB, gets, Op.get, put, dat_sh, dat_ow, dat_bw, dat_un, ty0, ty1, ty2, ty3, ty4, ty5, ty6, ty7, ty8, ty9, ty10, ty11, ty12, ty13, ty14, ty15, ty16, ty17, ty18, ty19, ty20, ty21, ty22, ty23, ty24, ty25, ty26, ty27, ty28, ty29, ty30, ty31, ty32, ty33, ty34, ty35, ty36, ty37, ty38, ty39, ty40, ty41, gIsi_non, gIsiT_non, gIsiT_bl, gIsiT_int, gIsiT_str, gIsiT_lst, gIsiT_tup, gIsiT_dct, gIsi_bl, gIsi_int, gIsi_str, gIsi_lst, gIsi_tup, gIsi_dct, gIsC, gEq_bl, gEq_strs, eq_self, Sl.cn, Sl.with, Cn.dat, Rv.dat, bOf, asB, bTr, gTruth, bOr, bNot, vNil, vCons, dTup, dLst, dDisp, psNil, psCons, keyed, D.key, gN, srcE, srcR1, srcC, srcV, itsOf, dLc, bYes, wipeD, agNil, agVal, agBor, mkArgs, bors, giveB, dCall, clean, mAppend, slC, cnSet, gAdd, gDiv, gMod, gNeg, gCmpA_int, gCmpA_str, gIx, dSl, oNo, oE, gSl, gAbs, gLen, Option.map_some, List.map_cons, List.map_nil, List.getElem?_cons_zero, List.getElem?_cons_succ, List.getElem?_nil, List.set_cons_zero, List.set_cons_succ, List.length_cons, List.length_nil, List.cons_append, List.nil_append, List.take_succ_cons, List.take_zero, List.replicate_succ, List.replicate_zero, gMin2, gMax2, gMax3, nodup1, List.nodup_nil, gEq_int, gEq_str, atI_0, atI_1, atI_2, atI_3, ixN_40, ixN_41, ixN_42, gMul, List.append_nil, List.nil_append, slC_ow, slC_bw, dKeep, dVx, dV0, dVB, dXfV, dIsV, qPl, opG, qVarP, dMutE, plOf, np_fr, np_v, gPowW, sStoreP, List.lookup_cons, beq_self_eq_true, Bool.not_true, Bool.not_false, Nat.reduceAdd, Nat.reduceSub, Nat.zero_add, Option.isSome_some, true_and, and_true, Option.some.injEq, exists_and_left, exists_eq_left, exists_eq_left', id_eq, ite_true, ite_false, reduceIte, Bool.false_eq_true, decide_eq_true_eq]) | `(tactic| simp_arith! [$xs,*]) => `(tactic| try simp only [Sl.pl.injEq, sSeq, sNext, sSet, sRet, sIf, sDrop, sFor, sStore, sAugI, dC, dVar, dTake, qVar, qE, aNil, aCons, dOp, dUn, dCallB, gets, Op.get, put, dat_sh, dat_ow, dat_bw, dat_un, ty0, ty1, ty2, ty3, ty4, ty5, ty6, ty7, ty8, ty9, ty10, ty11, ty12, ty13, ty14, ty15, ty16, ty17, ty18, ty19, ty20, ty21, ty22, ty23, ty24, ty25, ty26, ty27, ty28, ty29, ty30, ty31, ty32, ty33, ty34, ty35, ty36, ty37, ty38, ty39, ty40, ty41, gIsi_non, gIsiT_non, gIsiT_bl, gIsiT_int, gIsiT_str, gIsiT_lst, gIsiT_tup, gIsiT_dct, gIsi_bl, gIsi_int, gIsi_str, gIsi_lst, gIsi_tup, gIsi_dct, gIsC, gEq_bl, gEq_strs, eq_self, Sl.cn, Sl.with, Cn.dat, Rv.dat, bOf, asB, bTr, gTruth, bOr, bNot, vNil, vCons, dTup, dLst, dDisp, psNil, psCons, keyed, D.key, gN, srcE, srcR1, srcC, srcV, itsOf, dLc, bYes, wipeD, agNil, agVal, agBor, mkArgs, bors, giveB, dCall, clean, mAppend, slC, cnSet, gAdd, gDiv, gMod, gNeg, gCmpA_int, gCmpA_str, gIx, dSl, oNo, oE, gSl, gAbs, gLen, Option.map_some, List.map_cons, List.map_nil, List.getElem?_cons_zero, List.getElem?_cons_succ, List.getElem?_nil, List.set_cons_zero, List.set_cons_succ, List.length_cons, List.length_nil, List.cons_append, List.nil_append, List.take_succ_cons, List.take_zero, List.replicate_succ, List.replicate_zero, gMin2, gMax2, gMax3, nodup1, List.nodup_nil, gEq_int, gEq_str, atI_0, atI_1, atI_2, atI_3, ixN_40, ixN_41, ixN_42, gMul, List.append_nil, List.nil_append, slC_ow, slC_bw, dKeep, dVx, dV0, dVB, dXfV, dIsV, qPl, opG, qVarP, dMutE, plOf, np_fr, np_v, gPowW, sStoreP, List.lookup_cons, beq_self_eq_true, Bool.not_true, Bool.not_false, Nat.reduceAdd, Nat.reduceSub, Nat.zero_add, Option.isSome_some, true_and, and_true, Option.some.injEq, exists_and_left, exists_eq_left, exists_eq_left', id_eq, ite_true, ite_false, reduceIte, Bool.false_eq_true, decide_eq_true_eq, $xs,*])
def topS (i : Nat) : Stmt := PySem.Challenge.pw_suitedpairs_k17_errors_apart.main.body.getD i (.Pass ⟨0, 0, 0, 0⟩)
abbrev s__law_bag : Stmt := topS 17
theorem sc__law_bag : FnScope ["_law_script", "_law_cell"] ["_law_script"] (defScope s__law_bag) := ⟨rfl, rfl, rfl, by decide +kernel, rfl, by decide +kernel, by decide +kernel⟩
abbrev s__law_take : Stmt := topS 18
theorem sc__law_take : FnScope ["_law_bag_here", "_law_many", "_law_cell", "_law_value", "_law_begin", "_law_second"] ["_law_bag_here", "_law_many"] (defScope s__law_take) := ⟨rfl, rfl, rfl, by decide +kernel, rfl, by decide +kernel, by decide +kernel⟩
abbrev s__law_made : Stmt := topS 19
theorem sc__law_made : FnScope ["_law_thing", "_law_found"] ["_law_thing"] (defScope s__law_made) := ⟨rfl, rfl, rfl, by decide +kernel, rfl, by decide +kernel, by decide +kernel⟩
abbrev s__law_classes : Stmt := topS 20
theorem sc__law_classes : FnScope ["_law_e", "_law_found"] ["_law_e"] (defScope s__law_classes) := ⟨rfl, rfl, rfl, by decide +kernel, rfl, by decide +kernel, by decide +kernel⟩
abbrev s__law_fields : Stmt := topS 21
theorem sc__law_fields : FnScope ["_law_raised", "_law_found"] ["_law_raised"] (defScope s__law_fields) := ⟨rfl, rfl, rfl, by decide +kernel, rfl, by decide +kernel, by decide +kernel⟩
abbrev s_law : Stmt := topS 22
theorem sc_law : FnScope ["_law_script", "_law_bag_here", "_law_turn", "_law_some", "_law_thing", "_law_raised", "_law_at", "_law_fields_here", "_law_base", "_law_place", "_law_one", "0pile"] ["_law_script"] (defScope s_law) := ⟨rfl, rfl, rfl, by decide +kernel, rfl, by decide +kernel, by decide +kernel⟩
section
variable {P : Program} {w : World} {K : PySem.W.Frag} {mg : Str → Option Value} {base : Heap}
/-- the law's bag: n takes may still come -/
def Bag (n : Nat) (c : Cn) : Prop := ∃ (a b : Int) (k : Nat) (cells : List Int), c = .l [.int a, .int b, .int k, .lst (cells.map D.int)] ∧ 0 ≤ a ∧ 0 ≤ b ∧ b < 2147483647 ∧ k + n ≤ 1000000000 ∧ ∀ x ∈ cells, 0 ≤ x
theorem Bag.le {n m : Nat} {c : Cn} (h : Bag n c) (e : m ≤ n) : Bag m c := by
  obtain ⟨a, b, k, cells, h1, h2, h3, h4, h5, h6⟩ := h
  exact ⟨a, b, k, cells, h1, h2, h3, h4, by omega, h6⟩
def sp__law_bag : SpD := fun as Q => ∃ ns : List Int, as = [.sh (.scr ns)] ∧ ns.length ≤ 63 ∧ ∀ c, Bag 1000000000 c → Q (.fr c) [.un]
theorem len__law_bag {as : SL} {Q : Rv → SL → Prop} (h : sp__law_bag as Q) : as.length = 1 := by
  obtain ⟨_, rfl, _⟩ := h
  rfl
theorem ok__law_bag {f : Addr} {fd : FuncData} (Fn : Fun K "_law_bag" "_law_bag" s__law_bag f fd) (z_abs : mg "abs" = none) : FnG P w K mg base CX0 1 f fd ["_law_script"] (lift K sp__law_bag) := by
  have nd := sc__law_bag.nd
  refine fnD Fn sc__law_bag (fun as Q h => ?len) (fun cdv A outer s H hgd hr => ⟨_, _,
    (dss_one (ds_ret (de_lst (dv_cons de_int (dv_cons de_int (dv_cons de_int (dv_cons (de_lcF rfl nd (dic_of (di_e (de_slice (do_var (pv 0)) dop_none (dop_some de_int)))) (blkOk_by (own := [("_law_cell", 1)]) (N := ["_law_script", "_law_cell"]) (sc := defScope s__law_bag) (by decide +kernel)) (fun _ _ _ _ _ => (dg_name (i := 1) nd rfl (.inl rfl))) (fun _ _ _ _ _ => dts_nil) (fun _ _ _ _ _ => (de_callB call_abs sem_abs (by rfl) z_abs (by decide +kernel) (da_cons (do_var (pv 1)) da_nil)))) dv_nil))))))), fun as Q h => ?_⟩)
  case len => exact len__law_bag h
  · obtain ⟨ns, rfl, hl, h⟩ := h
    simp_arith
    have hc := cut_le ns none (some 63)
    refine lcL_on D.int (fun p r acc ρ => ρ = [Sl.sh (D.scr ns), Sl.un] ∧ ∃ ds : List Int, acc = ds.map D.int ∧ ds.length = p.length ∧ ∀ x ∈ ds, 0 ≤ x) ⟨rfl, [], rfl, rfl, fun x hx => by cases hx⟩ ?_ ?_
    · rintro acc ρ ⟨rfl, ds, rfl, hl2, hp⟩
      exact ⟨le_size (by decide), h _ ⟨0, 1234567891, 0, ds, rfl, by decide, by decide, by decide, by decide, hp⟩⟩
    · rintro p x r acc ρ N e hN ⟨rfl, ds, rfl, hl2, hp⟩
      simp_arith
      have := congrArg List.length e
      rw [List.length_append, List.length_cons] at this
      refine ⟨lt_size (by rw [List.length_map]; omega), hN _ _ ⟨rfl, ds ++ [if x < 0 then -x else x], by simp, by simp [hl2], fun y hy => ?_⟩⟩
      rcases List.mem_append.mp hy with z | z
      · exact hp y z
      · rw [List.mem_singleton.mp z]
        split <;> omega
def sp__law_take : SpD := fun as Q => ∃ (n : Nat) (c : Cn) (m : Int), as = [.bw 0 c, .sh (.int m)] ∧ Bag (n + 1) c ∧ 0 < m ∧ m < 2 ^ 200 ∧ ∀ v c', Bag n c' → 0 ≤ v → v < m → Q (.v (.int v)) [.bw 0 c', .un]
theorem len__law_take {as : SL} {Q : Rv → SL → Prop} (h : sp__law_take as Q) : as.length = 2 := by
  obtain ⟨_, _, _, rfl, _⟩ := h
  rfl
theorem ok__law_take {f : Addr} {fd : FuncData} (Fn : Fun K "_law_take" "_law_take" s__law_take f fd) (z_len : mg "len" = none) : FnG P w K mg base CX0 1 f fd ["_law_bag_here", "_law_many"] (lift K sp__law_take) := by
  have nd := sc__law_take.nd
  refine fnD Fn sc__law_take (fun as Q h => ?len) (fun cdv A outer s H hgd hr => ⟨_, _,
    (dss_cons (ds_if (dt_cmp (op_eqA (hu64 hr)) sem_eq (do_e (de_ix (hu1 hr) (do_var (pv 0)) (do_e de_int))) (do_e de_int) (nomark _)) (dss_cons (ds_set (i := 2) nd rfl (.inl rfl) de_int)
      (dss_cons (ds_if (dt_cmp op_ltA sem_ltA (do_e (de_ix (hu1 hr) (do_var (pv 0)) (do_e de_int))) (do_e (de_callB call_lenA sem_len (by rfl) z_len (by decide +kernel) (da_cons (do_e (de_ix (hu1 hr) (do_var (pv 0)) (do_e de_int))) da_nil))) (nomark _)) (dss_one (ds_set (i := 2) nd rfl (.inl rfl) (de_ix (hu1 hr) (do_e (de_ix (hu1 hr) (do_var (pv 0)) (do_e de_int))) (do_e (de_ix (hu1 hr) (do_var (pv 0)) (do_e de_int)))))) dss_nil)
      (dss_cons (ds_augI (hu1 hr) (pv 0) (do_e de_int) de_int ip_add)
      (dss_cons (ds_if (dt_cmp op_geA sem_geA (do_var (pv 2)) (do_e de_int) (nomark _)) (dss_one (ds_store (hu1 hr) (pv 0) (do_e de_int) (de_var (pv 2)) (pg_sub (pv 0) (do_e de_int).pe (set_any (hu1 hr))))) dss_nil)
      (dss_one (ds_store (hu1 hr) (pv 0) (do_e de_int) (de_op op_mod sem_mod (do_e (de_op op_addA sem_addA (do_e (de_op op_addA sem_addA (do_e (de_op op_mulA sem_mulA (do_e (de_ix (hu1 hr) (do_var (pv 0)) (do_e de_int))) (do_e de_int))) (do_e (de_op op_mod sem_mod (do_var (pv 2)) (do_e de_int))))) (do_e (de_op op_mulA sem_mulA (do_e de_int) (do_e (de_ix (hu1 hr) (do_var (pv 0)) (do_e de_int))))))) (do_e de_int)) (pg_sub (pv 0) (do_e de_int).pe (set_any (hu1 hr))))))))) dss_nil)
      (dss_cons (ds_if (dt_cmp op_gtA sem_gtA (do_e (de_ix (hu1 hr) (do_var (pv 0)) (do_e de_int))) (do_e de_int) (nomark _)) (dss_cons (ds_set (i := 3) nd rfl (.inl rfl) (de_op op_mod sem_mod (do_e (de_ix (hu1 hr) (do_var (pv 0)) (do_e de_int))) (do_var (pv 1))))
      (dss_cons (ds_store (hu1 hr) (pv 0) (do_e de_int) (de_op op_fdivW sem_div (do_e (de_ix (hu1 hr) (do_var (pv 0)) (do_e de_int))) (do_var (pv 1))) (pg_sub (pv 0) (do_e de_int).pe (set_any (hu1 hr))))
      (dss_one (ds_ret (de_take (pv 3)))))) dss_nil)
      (dss_cons (ds_set (i := 4) nd rfl (.inl rfl) (de_op op_mod sem_mod (do_e (de_op op_mulA sem_mulA (do_e (de_op op_addA sem_addA (do_e (de_ix (hu1 hr) (do_var (pv 0)) (do_e de_int))) (do_e de_int))) (do_e de_int))) (do_e de_int)))
      (dss_cons (ds_set (i := 5) nd rfl (.inl rfl) (de_op op_mod sem_mod (do_e (de_op op_mulA sem_mulA (do_e (de_op op_mod sem_mod (do_e (de_op op_mulA sem_mulA (do_var (pv 4)) (do_var (pv 4)))) (do_e de_int))) (do_e de_int))) (do_e de_int)))
      (dss_cons (ds_if (dt_cmp op_gtA sem_gtA (do_var (pv 1)) (do_e de_int) (nomark _)) (dss_one (ds_ret (de_op op_mod sem_mod (do_e (de_op op_addA sem_addA (do_e (de_op op_mulA sem_mulA (do_var (pv 5)) (do_e de_int))) (do_var (pv 4)))) (do_var (pv 1))))) dss_nil)
      (dss_one (ds_ret (de_op op_mod sem_mod (do_e (de_op op_fdivW sem_div (do_var (pv 5)) (do_e de_int))) (do_var (pv 1)))))))))), fun as Q h => ?_⟩)
  case len => exact len__law_take h
  · obtain ⟨n, c, m, rfl, ⟨a, b, k, cells, rfl, ha, hb, hb2, hk, hc⟩, hm, hm2, h⟩ := h
    simp only [List.length_cons, List.length_nil, Nat.reduceAdd, Nat.reduceSub, List.replicate_succ, List.replicate_zero, List.cons_append, List.nil_append]
    refine sSeq_cut (fun ρ' => ∃ (a b : Int) (k : Nat) (s : Sl), ρ' = [.bw 0 (.l [.int a, .int b, .int k, .lst (cells.map D.int)]), .sh (.int m), s, .un, .un, .un] ∧ 0 ≤ a ∧ 0 ≤ b ∧ b < 2147483647 ∧ k + n ≤ 1000000000) (fun N hN => ?_) ?_
    · refine sIf_go fun T hT hF => ?_
      simp_arith
      by_cases h0 : a = 0
      · rw [decide_eq_true h0]
        refine hT _ ?_
        refine sSeq_go fun N2 h2 => ?_
        simp_arith
        refine h2 _ ?_
        refine sSeq_cut (fun ρ' => ∃ x : Int, 0 ≤ x ∧ ρ' = [.bw 0 (.l [.int a, .int b, .int k, .lst (cells.map D.int)]), .sh (.int m), .sh (.int x), .un, .un, .un]) (fun N3 h3 => ?_) ?_
        · refine sIf_go fun T hT hF => ?_
          simp_arith [List.length_map]
          by_cases h1 : (k : Int) < cells.length
          · rw [decide_eq_true h1]
            refine hT _ ?_
            simp_arith
            have hkl : k < cells.length := by omega
            refine ⟨_, atI_int (x := D.int cells[k]) (by omega) (by rw [Int.toNat_natCast, List.getElem?_map, List.getElem?_eq_getElem hkl]; rfl), h3 _ ⟨_, hc _ (List.getElem_mem hkl), rfl⟩⟩
          · rw [decide_eq_false h1]
            refine hF _ ?_
            simp_arith
            exact h3 _ ⟨0, by decide, rfl⟩
        · rintro ρ' ⟨x, hx, rfl⟩
          refine sSeq_go fun N4 h4 => ?_
          simp_arith
          refine h4 _ ?_
          refine sSeq_cut (fun ρ' => ∃ a : Int, 0 ≤ a ∧ ρ' = [.bw 0 (.l [.int a, .int b, .int (k + 1), .lst (cells.map D.int)]), .sh (.int m), .sh (.int x), .un, .un, .un]) (fun N5 h5 => ?_) ?_
          · refine sIf_go fun T hT hF => ?_
            simp_arith
            by_cases h1 : (1000000000000000000 : Int) ≤ x
            · rw [decide_eq_true h1]
              refine hT _ ?_
              simp_arith
              exact h5 _ ⟨x, hx, rfl⟩
            · rw [decide_eq_false h1]
              refine hF _ ?_
              simp_arith
              exact h5 _ ⟨a, ha, rfl⟩
          · rintro ρ' ⟨a', ha', rfl⟩
            simp_arith
            refine ⟨cMul_of (by omega) (by decide), by decide, cMul_of (by decide) (by omega), by decide, hN _ ⟨a', _, k + 1, _, rfl, ha', Int.emod_nonneg _ (by decide), Int.emod_lt_of_pos _ (by decide), by omega⟩⟩
      · rw [decide_eq_false h0]
        refine hF _ ?_
        simp_arith
        exact hN _ ⟨a, b, k, _, rfl, ha, hb, hb2, by omega⟩
    · rintro ρ' ⟨a, b, k, s, rfl, ha, hb, hb2, hk⟩
      refine sSeq_cut (fun ρ' => ρ' = [.bw 0 (.l [.int a, .int b, .int k, .lst (cells.map D.int)]), .sh (.int m), s, .un, .un, .un]) (fun N hN => ?_) ?_
      · refine sIf_go fun T hT hF => ?_
        simp_arith
        by_cases h1 : (0 : Int) < a
        · rw [decide_eq_true h1]
          refine hT _ ?_
          simp_arith
          refine ⟨hm, cDiv_of hm (by omega), ?_⟩
          exact h _ _ ⟨_, b, k, cells, rfl, Int.ediv_nonneg ha (by omega), hb, hb2, hk, hc⟩ (Int.emod_nonneg _ (by omega)) (Int.emod_lt_of_pos _ hm)
        · rw [decide_eq_false h1]
          refine hF _ ?_
          simp_arith
          exact hN _ rfl
      · rintro ρ' rfl
        have hB : Bag n (.l [.int a, .int b, .int k, .lst (cells.map D.int)]) := ⟨a, b, k, cells, rfl, ha, hb, hb2, hk, hc⟩
        refine sSeq_go fun N h2 => ?_
        simp_arith
        refine ⟨cMul_of (by omega) (by decide), by decide, h2 _ ?_⟩
        have g1 := Int.emod_nonneg ((b + 1) * 39373) (b := 1000000007) (by decide)
        have g2 := Int.emod_lt_of_pos ((b + 1) * 39373) (b := 1000000007) (by decide)
        generalize (b + 1) * 39373 % 1000000007 = z at g1 g2 ⊢
        refine sSeq_go fun N h2 => ?_
        simp_arith
        have g3 := Int.emod_nonneg (z * z) (b := 998244353) (by decide)
        have g4 := Int.emod_lt_of_pos (z * z) (b := 998244353) (by decide)
        refine ⟨cMul_of (by omega) (by omega), by decide, cMul_of (by omega) (by decide), by decide, h2 _ ?_⟩
        have g5 := Int.emod_nonneg (z * z % 998244353 * 30011) (b := 998244353) (by decide)
        have g6 := Int.emod_lt_of_pos (z * z % 998244353 * 30011) (b := 998244353) (by decide)
        generalize z * z % 998244353 * 30011 % 998244353 = y at g5 g6 ⊢
        refine sSeq_go fun N h2 => ?_
        refine sIf_go fun T hT hF => ?_
        simp_arith
        by_cases h1 : (1000000 : Int) < m
        · rw [decide_eq_true h1]
          refine hT _ ?_
          simp_arith
          exact ⟨cMul_of (by omega) (by decide), hm, h _ _ hB (Int.emod_nonneg _ (by omega)) (Int.emod_lt_of_pos _ hm)⟩
        · rw [decide_eq_false h1]
          refine hF _ ?_
          simp_arith
          refine h2 _ ?_
          simp_arith
          exact ⟨cDiv_of (by decide) (by decide), hm, h _ _ hB (Int.emod_nonneg _ (by omega)) (Int.emod_lt_of_pos _ hm)⟩
/-! errors of a thing -/
def Cls14 (C_Wrong C_BadPair C_NoKind C_NotComplete C_Lonely C_TooMany C_Crowded C_Taken C_NotWaiting C_Full C_Broken C_Nothing C_NoText C_NoCommand : Addr) : List Addr := [C_Wrong, C_BadPair, C_NoKind, C_NotComplete, C_Lonely, C_TooMany, C_Crowded, C_Taken, C_NotWaiting, C_Full, C_Broken, C_Nothing, C_NoText, C_NoCommand]
/-- the errors of a thing, one of each class -/
def Es (C_Wrong C_BadPair C_NoKind C_NotComplete C_Lonely C_TooMany C_Crowded C_Taken C_NotWaiting C_Full C_Broken C_Nothing C_NoText C_NoCommand : Addr) (a : Nat → Addr) (d : D) : List D := [.err (a 0) C_Wrong (Str.ofString "place") d, .err (a 1) C_BadPair (Str.ofString "at") d, .err (a 2) C_NoKind (Str.ofString "kind") d, .err (a 3) C_NotComplete (Str.ofString "left") d, .err (a 4) C_Lonely (Str.ofString "kind") d, .err (a 5) C_TooMany (Str.ofString "limit") d, .err (a 6) C_Crowded (Str.ofString "members") d, .err (a 7) C_Taken (Str.ofString "name") d, .err (a 8) C_NotWaiting (Str.ofString "name") d, .err (a 9) C_Full (Str.ofString "limit") d, .err (a 10) C_Broken (Str.ofString "at") d, .err (a 11) C_Nothing Str.empty .non, .err (a 12) C_NoText Str.empty .non, .err (a 13) C_NoCommand Str.empty .non]
/-- a thing: flat data, or a list or a dict on the pile -/
def ThOf (n : Nat) (hs : Pile) (t : D) : Prop := (D.fit 50 t = true ∧ (∀ l, t ≠ .lst l)) ∨ (∃ p ds, t = .at p ∧ hs.lookup p = some (.l ds) ∧ ds.length ≤ n) ∨ ∃ p kvs, t = .at p ∧ hs.lookup p = some (.d kvs) ∧ kvs.length ≤ n
def sp__law_made (C_Wrong : Addr) (C_BadPair : Addr) (C_NoKind : Addr) (C_NotComplete : Addr) (C_Lonely : Addr) (C_TooMany : Addr) (C_Crowded : Addr) (C_Taken : Addr) (C_NotWaiting : Addr) (C_Full : Addr) (C_Broken : Addr) (C_Nothing : Addr) (C_NoText : Addr) (C_NoCommand : Addr) : SpD := fun as Q => ∃ d : D, as = [.sh d] ∧ ∀ a : Nat → Addr, Q (.fr (.l (Es C_Wrong C_BadPair C_NoKind C_NotComplete C_Lonely C_TooMany C_Crowded C_Taken C_NotWaiting C_Full C_Broken C_Nothing C_NoText C_NoCommand a d))) [.un]
theorem len__law_made {C_Wrong C_BadPair C_NoKind C_NotComplete C_Lonely C_TooMany C_Crowded C_Taken C_NotWaiting C_Full C_Broken C_Nothing C_NoText C_NoCommand : Addr} {as : SL} {Q : Rv → SL → Prop} (h : sp__law_made C_Wrong C_BadPair C_NoKind C_NotComplete C_Lonely C_TooMany C_Crowded C_Taken C_NotWaiting C_Full C_Broken C_Nothing C_NoText C_NoCommand as Q) : as.length = 1 := by
  obtain ⟨_, rfl, _⟩ := h
  rfl
theorem ok__law_made {f : Addr} {fd : FuncData} (Fn : Fun K "_law_made" "_law_made" s__law_made f fd) {C_TooMany C_Lonely C_NotComplete C_NoKind C_BadPair C_Wrong C_Broken C_Full C_NotWaiting C_Taken C_Crowded C_NoCommand C_NoText C_Nothing : Addr} {fx_TooMany : Addr} (xc_TooMany : XcT P K mg "TooMany" C_TooMany fx_TooMany "limit") {fx_Lonely : Addr} (xc_Lonely : XcT P K mg "Lonely" C_Lonely fx_Lonely "kind") {fx_NotComplete : Addr} (xc_NotComplete : XcT P K mg "NotComplete" C_NotComplete fx_NotComplete "left") {fx_NoKind : Addr} (xc_NoKind : XcT P K mg "NoKind" C_NoKind fx_NoKind "kind") {fx_BadPair : Addr} (xc_BadPair : XcT P K mg "BadPair" C_BadPair fx_BadPair "at") {fx_Wrong : Addr} (xc_Wrong : XcT P K mg "Wrong" C_Wrong fx_Wrong "place") {fx_Broken : Addr} (xc_Broken : XcT P K mg "Broken" C_Broken fx_Broken "at") {fx_Full : Addr} (xc_Full : XcT P K mg "Full" C_Full fx_Full "limit") {fx_NotWaiting : Addr} (xc_NotWaiting : XcT P K mg "NotWaiting" C_NotWaiting fx_NotWaiting "name") {fx_Taken : Addr} (xc_Taken : XcT P K mg "Taken" C_Taken fx_Taken "name") {fx_Crowded : Addr} (xc_Crowded : XcT P K mg "Crowded" C_Crowded fx_Crowded "members") {fx_NoCommand : Addr} (xc_NoCommand : XcN P K mg "NoCommand" C_NoCommand fx_NoCommand) {fx_NoText : Addr} (xc_NoText : XcN P K mg "NoText" C_NoText fx_NoText) {fx_Nothing : Addr} (xc_Nothing : XcN P K mg "Nothing" C_Nothing fx_Nothing) : FnG P w K mg base CX0 2 f fd ["_law_thing"] (lift K (sp__law_made C_Wrong C_BadPair C_NoKind C_NotComplete C_Lonely C_TooMany C_Crowded C_Taken C_NotWaiting C_Full C_Broken C_Nothing C_NoText C_NoCommand)) := by
  have nd := sc__law_made.nd
  refine fnD Fn sc__law_made (fun as Q h => ?len) (fun cdv A outer s H hgd hr => ⟨_, _,
    (dss_cons (ds_set (i := 1) nd rfl (.inl rfl) (de_lst (dv_cons (de_vx (k := 0) xc_Wrong (hr.mono (by decide)) (de_take (pv 0)) (by rfl)) (dv_cons (de_vx (k := 0) xc_BadPair (hr.mono (by decide)) (de_take (pv 0)) (by rfl)) (dv_cons (de_vx (k := 0) xc_NoKind (hr.mono (by decide)) (de_take (pv 0)) (by rfl)) (dv_cons (de_vx (k := 0) xc_NotComplete (hr.mono (by decide)) (de_take (pv 0)) (by rfl)) (dv_cons (de_vx (k := 0) xc_Lonely (hr.mono (by decide)) (de_take (pv 0)) (by rfl)) (dv_cons (de_vx (k := 0) xc_TooMany (hr.mono (by decide)) (de_take (pv 0)) (by rfl)) dv_nil))))))))
      (dss_cons (ds_set (i := 1) nd rfl (.inl rfl) (de_op op_addA sem_addA (do_var (pv 1)) (do_e (de_lst (dv_cons (de_vx (k := 0) xc_Crowded (hr.mono (by decide)) (de_take (pv 0)) (by rfl)) (dv_cons (de_vx (k := 0) xc_Taken (hr.mono (by decide)) (de_take (pv 0)) (by rfl)) (dv_cons (de_vx (k := 0) xc_NotWaiting (hr.mono (by decide)) (de_take (pv 0)) (by rfl)) (dv_cons (de_vx (k := 0) xc_Full (hr.mono (by decide)) (de_take (pv 0)) (by rfl)) (dv_cons (de_vx (k := 0) xc_Broken (hr.mono (by decide)) (de_take (pv 0)) (by rfl)) dv_nil)))))))))
      (dss_one (ds_ret (de_op op_addA sem_addA (do_var (pv 1)) (do_e (de_lst (dv_cons (de_v0 (k := 0) xc_Nothing (hr.mono (by decide)) (by rfl)) (dv_cons (de_v0 (k := 0) xc_NoText (hr.mono (by decide)) (by rfl)) (dv_cons (de_v0 (k := 0) xc_NoCommand (hr.mono (by decide)) (by rfl)) dv_nil)))))))))), fun as Q h => ?_⟩)
  case len => exact len__law_made h
  · obtain ⟨d, rfl, h⟩ := h
    simp only [List.length_cons, List.length_nil, Nat.reduceAdd, Nat.reduceSub, List.replicate_succ, List.replicate_zero, List.cons_append, List.nil_append]
    refine sSeq_go fun N0 h0 => ?_
    simp_arith
    refine fun e0 e1 e2 e3 e4 e5 => ⟨le_size (by decide), h0 _ ?_⟩
    clear h0
    refine sSeq_go fun N0 h0 => ?_
    simp_arith
    refine fun e6 e7 e8 e9 e10 => ⟨le_size (by decide), le_size (by decide), h0 _ ?_⟩
    clear h0
    simp_arith
    refine fun e11 e12 e13 => ⟨le_size (by decide), le_size (by decide), ?_⟩
    exact h fun i => ([e0, e1, e2, e3, e4, e5, e6, e7, e8, e9, e10, e11, e12, e13] : List Addr).getD i 0
def sp__law_classes (C_Wrong : Addr) (C_BadPair : Addr) (C_NoKind : Addr) (C_NotComplete : Addr) (C_Lonely : Addr) (C_TooMany : Addr) (C_Crowded : Addr) (C_Taken : Addr) (C_NotWaiting : Addr) (C_Full : Addr) (C_Broken : Addr) (C_Nothing : Addr) (C_NoText : Addr) (C_NoCommand : Addr) (C_SuitError : Addr) : SpD := fun as Q => ∃ (a C : Addr) (f : Str) (d : D), as = [.sh (.err a C f d)] ∧ 
  ((∃ j : Nat, (Cls14 C_Wrong C_BadPair C_NoKind C_NotComplete C_Lonely C_TooMany C_Crowded C_Taken C_NotWaiting C_Full C_Broken C_Nothing C_NoText C_NoCommand)[j]? = some C ∧ j < 14 ∧ Q (.fr (.l ((List.range 14).map fun k => .bl (decide (k = j))))) [.un]) ∨ (C = C_SuitError ∧ Q (.fr (.l ((List.range 14).map fun _ => .bl false))) [.un]))
theorem len__law_classes {C_Wrong C_BadPair C_NoKind C_NotComplete C_Lonely C_TooMany C_Crowded C_Taken C_NotWaiting C_Full C_Broken C_Nothing C_NoText C_NoCommand C_SuitError : Addr} {as : SL} {Q : Rv → SL → Prop} (h : sp__law_classes C_Wrong C_BadPair C_NoKind C_NotComplete C_Lonely C_TooMany C_Crowded C_Taken C_NotWaiting C_Full C_Broken C_Nothing C_NoText C_NoCommand C_SuitError as Q) : as.length = 1 := by
  obtain ⟨_, _, _, _, rfl, _⟩ := h
  rfl
theorem ok__law_classes {f : Addr} {fd : FuncData} (Fn : Fun K "_law_classes" "_law_classes" s__law_classes f fd) {C_Wrong C_BadPair C_NoKind C_NotComplete C_Lonely C_TooMany C_Crowded C_Taken C_NotWaiting C_Full C_Broken C_Nothing C_NoText C_NoCommand C_SuitError : Addr} (xk_Wrong : ExcC K C_Wrong) (ki_Wrong_Wrong : PySem.W.kitOne K (.ref C_Wrong) (.ref C_Wrong) = some true) (ki_Wrong_BadPair : PySem.W.kitOne K (.ref C_Wrong) (.ref C_BadPair) = some false) (ki_Wrong_NoKind : PySem.W.kitOne K (.ref C_Wrong) (.ref C_NoKind) = some false) (ki_Wrong_NotComplete : PySem.W.kitOne K (.ref C_Wrong) (.ref C_NotComplete) = some false) (ki_Wrong_Lonely : PySem.W.kitOne K (.ref C_Wrong) (.ref C_Lonely) = some false) (ki_Wrong_TooMany : PySem.W.kitOne K (.ref C_Wrong) (.ref C_TooMany) = some false) (ki_Wrong_Crowded : PySem.W.kitOne K (.ref C_Wrong) (.ref C_Crowded) = some false) (ki_Wrong_Taken : PySem.W.kitOne K (.ref C_Wrong) (.ref C_Taken) = some false) (ki_Wrong_NotWaiting : PySem.W.kitOne K (.ref C_Wrong) (.ref C_NotWaiting) = some false) (ki_Wrong_Full : PySem.W.kitOne K (.ref C_Wrong) (.ref C_Full) = some false) (ki_Wrong_Broken : PySem.W.kitOne K (.ref C_Wrong) (.ref C_Broken) = some false) (ki_Wrong_Nothing : PySem.W.kitOne K (.ref C_Wrong) (.ref C_Nothing) = some false) (ki_Wrong_NoText : PySem.W.kitOne K (.ref C_Wrong) (.ref C_NoText) = some false) (ki_Wrong_NoCommand : PySem.W.kitOne K (.ref C_Wrong) (.ref C_NoCommand) = some false) (xk_BadPair : ExcC K C_BadPair) (ki_BadPair_Wrong : PySem.W.kitOne K (.ref C_BadPair) (.ref C_Wrong) = some false) (ki_BadPair_BadPair : PySem.W.kitOne K (.ref C_BadPair) (.ref C_BadPair) = some true) (ki_BadPair_NoKind : PySem.W.kitOne K (.ref C_BadPair) (.ref C_NoKind) = some false) (ki_BadPair_NotComplete : PySem.W.kitOne K (.ref C_BadPair) (.ref C_NotComplete) = some false) (ki_BadPair_Lonely : PySem.W.kitOne K (.ref C_BadPair) (.ref C_Lonely) = some false) (ki_BadPair_TooMany : PySem.W.kitOne K (.ref C_BadPair) (.ref C_TooMany) = some false) (ki_BadPair_Crowded : PySem.W.kitOne K (.ref C_BadPair) (.ref C_Crowded) = some false) (ki_BadPair_Taken : PySem.W.kitOne K (.ref C_BadPair) (.ref C_Taken) = some false) (ki_BadPair_NotWaiting : PySem.W.kitOne K (.ref C_BadPair) (.ref C_NotWaiting) = some false) (ki_BadPair_Full : PySem.W.kitOne K (.ref C_BadPair) (.ref C_Full) = some false) (ki_BadPair_Broken : PySem.W.kitOne K (.ref C_BadPair) (.ref C_Broken) = some false) (ki_BadPair_Nothing : PySem.W.kitOne K (.ref C_BadPair) (.ref C_Nothing) = some false) (ki_BadPair_NoText : PySem.W.kitOne K (.ref C_BadPair) (.ref C_NoText) = some false) (ki_BadPair_NoCommand : PySem.W.kitOne K (.ref C_BadPair) (.ref C_NoCommand) = some false) (xk_NoKind : ExcC K C_NoKind) (ki_NoKind_Wrong : PySem.W.kitOne K (.ref C_NoKind) (.ref C_Wrong) = some false) (ki_NoKind_BadPair : PySem.W.kitOne K (.ref C_NoKind) (.ref C_BadPair) = some false) (ki_NoKind_NoKind : PySem.W.kitOne K (.ref C_NoKind) (.ref C_NoKind) = some true) (ki_NoKind_NotComplete : PySem.W.kitOne K (.ref C_NoKind) (.ref C_NotComplete) = some false) (ki_NoKind_Lonely : PySem.W.kitOne K (.ref C_NoKind) (.ref C_Lonely) = some false) (ki_NoKind_TooMany : PySem.W.kitOne K (.ref C_NoKind) (.ref C_TooMany) = some false) (ki_NoKind_Crowded : PySem.W.kitOne K (.ref C_NoKind) (.ref C_Crowded) = some false) (ki_NoKind_Taken : PySem.W.kitOne K (.ref C_NoKind) (.ref C_Taken) = some false) (ki_NoKind_NotWaiting : PySem.W.kitOne K (.ref C_NoKind) (.ref C_NotWaiting) = some false) (ki_NoKind_Full : PySem.W.kitOne K (.ref C_NoKind) (.ref C_Full) = some false) (ki_NoKind_Broken : PySem.W.kitOne K (.ref C_NoKind) (.ref C_Broken) = some false) (ki_NoKind_Nothing : PySem.W.kitOne K (.ref C_NoKind) (.ref C_Nothing) = some false) (ki_NoKind_NoText : PySem.W.kitOne K (.ref C_NoKind) (.ref C_NoText) = some false) (ki_NoKind_NoCommand : PySem.W.kitOne K (.ref C_NoKind) (.ref C_NoCommand) = some false) (xk_NotComplete : ExcC K C_NotComplete) (ki_NotComplete_Wrong : PySem.W.kitOne K (.ref C_NotComplete) (.ref C_Wrong) = some false) (ki_NotComplete_BadPair : PySem.W.kitOne K (.ref C_NotComplete) (.ref C_BadPair) = some false) (ki_NotComplete_NoKind : PySem.W.kitOne K (.ref C_NotComplete) (.ref C_NoKind) = some false) (ki_NotComplete_NotComplete : PySem.W.kitOne K (.ref C_NotComplete) (.ref C_NotComplete) = some true) (ki_NotComplete_Lonely : PySem.W.kitOne K (.ref C_NotComplete) (.ref C_Lonely) = some false) (ki_NotComplete_TooMany : PySem.W.kitOne K (.ref C_NotComplete) (.ref C_TooMany) = some false) (ki_NotComplete_Crowded : PySem.W.kitOne K (.ref C_NotComplete) (.ref C_Crowded) = some false) (ki_NotComplete_Taken : PySem.W.kitOne K (.ref C_NotComplete) (.ref C_Taken) = some false) (ki_NotComplete_NotWaiting : PySem.W.kitOne K (.ref C_NotComplete) (.ref C_NotWaiting) = some false) (ki_NotComplete_Full : PySem.W.kitOne K (.ref C_NotComplete) (.ref C_Full) = some false) (ki_NotComplete_Broken : PySem.W.kitOne K (.ref C_NotComplete) (.ref C_Broken) = some false) (ki_NotComplete_Nothing : PySem.W.kitOne K (.ref C_NotComplete) (.ref C_Nothing) = some false) (ki_NotComplete_NoText : PySem.W.kitOne K (.ref C_NotComplete) (.ref C_NoText) = some false) (ki_NotComplete_NoCommand : PySem.W.kitOne K (.ref C_NotComplete) (.ref C_NoCommand) = some false) (xk_Lonely : ExcC K C_Lonely) (ki_Lonely_Wrong : PySem.W.kitOne K (.ref C_Lonely) (.ref C_Wrong) = some false) (ki_Lonely_BadPair : PySem.W.kitOne K (.ref C_Lonely) (.ref C_BadPair) = some false) (ki_Lonely_NoKind : PySem.W.kitOne K (.ref C_Lonely) (.ref C_NoKind) = some false) (ki_Lonely_NotComplete : PySem.W.kitOne K (.ref C_Lonely) (.ref C_NotComplete) = some false) (ki_Lonely_Lonely : PySem.W.kitOne K (.ref C_Lonely) (.ref C_Lonely) = some true) (ki_Lonely_TooMany : PySem.W.kitOne K (.ref C_Lonely) (.ref C_TooMany) = some false) (ki_Lonely_Crowded : PySem.W.kitOne K (.ref C_Lonely) (.ref C_Crowded) = some false) (ki_Lonely_Taken : PySem.W.kitOne K (.ref C_Lonely) (.ref C_Taken) = some false) (ki_Lonely_NotWaiting : PySem.W.kitOne K (.ref C_Lonely) (.ref C_NotWaiting) = some false) (ki_Lonely_Full : PySem.W.kitOne K (.ref C_Lonely) (.ref C_Full) = some false) (ki_Lonely_Broken : PySem.W.kitOne K (.ref C_Lonely) (.ref C_Broken) = some false) (ki_Lonely_Nothing : PySem.W.kitOne K (.ref C_Lonely) (.ref C_Nothing) = some false) (ki_Lonely_NoText : PySem.W.kitOne K (.ref C_Lonely) (.ref C_NoText) = some false) (ki_Lonely_NoCommand : PySem.W.kitOne K (.ref C_Lonely) (.ref C_NoCommand) = some false) (xk_TooMany : ExcC K C_TooMany) (ki_TooMany_Wrong : PySem.W.kitOne K (.ref C_TooMany) (.ref C_Wrong) = some false) (ki_TooMany_BadPair : PySem.W.kitOne K (.ref C_TooMany) (.ref C_BadPair) = some false) (ki_TooMany_NoKind : PySem.W.kitOne K (.ref C_TooMany) (.ref C_NoKind) = some false) (ki_TooMany_NotComplete : PySem.W.kitOne K (.ref C_TooMany) (.ref C_NotComplete) = some false) (ki_TooMany_Lonely : PySem.W.kitOne K (.ref C_TooMany) (.ref C_Lonely) = some false) (ki_TooMany_TooMany : PySem.W.kitOne K (.ref C_TooMany) (.ref C_TooMany) = some true) (ki_TooMany_Crowded : PySem.W.kitOne K (.ref C_TooMany) (.ref C_Crowded) = some false) (ki_TooMany_Taken : PySem.W.kitOne K (.ref C_TooMany) (.ref C_Taken) = some false) (ki_TooMany_NotWaiting : PySem.W.kitOne K (.ref C_TooMany) (.ref C_NotWaiting) = some false) (ki_TooMany_Full : PySem.W.kitOne K (.ref C_TooMany) (.ref C_Full) = some false) (ki_TooMany_Broken : PySem.W.kitOne K (.ref C_TooMany) (.ref C_Broken) = some false) (ki_TooMany_Nothing : PySem.W.kitOne K (.ref C_TooMany) (.ref C_Nothing) = some false) (ki_TooMany_NoText : PySem.W.kitOne K (.ref C_TooMany) (.ref C_NoText) = some false) (ki_TooMany_NoCommand : PySem.W.kitOne K (.ref C_TooMany) (.ref C_NoCommand) = some false) (xk_Crowded : ExcC K C_Crowded) (ki_Crowded_Wrong : PySem.W.kitOne K (.ref C_Crowded) (.ref C_Wrong) = some false) (ki_Crowded_BadPair : PySem.W.kitOne K (.ref C_Crowded) (.ref C_BadPair) = some false) (ki_Crowded_NoKind : PySem.W.kitOne K (.ref C_Crowded) (.ref C_NoKind) = some false) (ki_Crowded_NotComplete : PySem.W.kitOne K (.ref C_Crowded) (.ref C_NotComplete) = some false) (ki_Crowded_Lonely : PySem.W.kitOne K (.ref C_Crowded) (.ref C_Lonely) = some false) (ki_Crowded_TooMany : PySem.W.kitOne K (.ref C_Crowded) (.ref C_TooMany) = some false) (ki_Crowded_Crowded : PySem.W.kitOne K (.ref C_Crowded) (.ref C_Crowded) = some true) (ki_Crowded_Taken : PySem.W.kitOne K (.ref C_Crowded) (.ref C_Taken) = some false) (ki_Crowded_NotWaiting : PySem.W.kitOne K (.ref C_Crowded) (.ref C_NotWaiting) = some false) (ki_Crowded_Full : PySem.W.kitOne K (.ref C_Crowded) (.ref C_Full) = some false) (ki_Crowded_Broken : PySem.W.kitOne K (.ref C_Crowded) (.ref C_Broken) = some false) (ki_Crowded_Nothing : PySem.W.kitOne K (.ref C_Crowded) (.ref C_Nothing) = some false) (ki_Crowded_NoText : PySem.W.kitOne K (.ref C_Crowded) (.ref C_NoText) = some false) (ki_Crowded_NoCommand : PySem.W.kitOne K (.ref C_Crowded) (.ref C_NoCommand) = some false) (xk_Taken : ExcC K C_Taken) (ki_Taken_Wrong : PySem.W.kitOne K (.ref C_Taken) (.ref C_Wrong) = some false) (ki_Taken_BadPair : PySem.W.kitOne K (.ref C_Taken) (.ref C_BadPair) = some false) (ki_Taken_NoKind : PySem.W.kitOne K (.ref C_Taken) (.ref C_NoKind) = some false) (ki_Taken_NotComplete : PySem.W.kitOne K (.ref C_Taken) (.ref C_NotComplete) = some false) (ki_Taken_Lonely : PySem.W.kitOne K (.ref C_Taken) (.ref C_Lonely) = some false) (ki_Taken_TooMany : PySem.W.kitOne K (.ref C_Taken) (.ref C_TooMany) = some false) (ki_Taken_Crowded : PySem.W.kitOne K (.ref C_Taken) (.ref C_Crowded) = some false) (ki_Taken_Taken : PySem.W.kitOne K (.ref C_Taken) (.ref C_Taken) = some true) (ki_Taken_NotWaiting : PySem.W.kitOne K (.ref C_Taken) (.ref C_NotWaiting) = some false) (ki_Taken_Full : PySem.W.kitOne K (.ref C_Taken) (.ref C_Full) = some false) (ki_Taken_Broken : PySem.W.kitOne K (.ref C_Taken) (.ref C_Broken) = some false) (ki_Taken_Nothing : PySem.W.kitOne K (.ref C_Taken) (.ref C_Nothing) = some false) (ki_Taken_NoText : PySem.W.kitOne K (.ref C_Taken) (.ref C_NoText) = some false) (ki_Taken_NoCommand : PySem.W.kitOne K (.ref C_Taken) (.ref C_NoCommand) = some false) (xk_NotWaiting : ExcC K C_NotWaiting) (ki_NotWaiting_Wrong : PySem.W.kitOne K (.ref C_NotWaiting) (.ref C_Wrong) = some false) (ki_NotWaiting_BadPair : PySem.W.kitOne K (.ref C_NotWaiting) (.ref C_BadPair) = some false) (ki_NotWaiting_NoKind : PySem.W.kitOne K (.ref C_NotWaiting) (.ref C_NoKind) = some false) (ki_NotWaiting_NotComplete : PySem.W.kitOne K (.ref C_NotWaiting) (.ref C_NotComplete) = some false) (ki_NotWaiting_Lonely : PySem.W.kitOne K (.ref C_NotWaiting) (.ref C_Lonely) = some false) (ki_NotWaiting_TooMany : PySem.W.kitOne K (.ref C_NotWaiting) (.ref C_TooMany) = some false) (ki_NotWaiting_Crowded : PySem.W.kitOne K (.ref C_NotWaiting) (.ref C_Crowded) = some false) (ki_NotWaiting_Taken : PySem.W.kitOne K (.ref C_NotWaiting) (.ref C_Taken) = some false) (ki_NotWaiting_NotWaiting : PySem.W.kitOne K (.ref C_NotWaiting) (.ref C_NotWaiting) = some true) (ki_NotWaiting_Full : PySem.W.kitOne K (.ref C_NotWaiting) (.ref C_Full) = some false) (ki_NotWaiting_Broken : PySem.W.kitOne K (.ref C_NotWaiting) (.ref C_Broken) = some false) (ki_NotWaiting_Nothing : PySem.W.kitOne K (.ref C_NotWaiting) (.ref C_Nothing) = some false) (ki_NotWaiting_NoText : PySem.W.kitOne K (.ref C_NotWaiting) (.ref C_NoText) = some false) (ki_NotWaiting_NoCommand : PySem.W.kitOne K (.ref C_NotWaiting) (.ref C_NoCommand) = some false) (xk_Full : ExcC K C_Full) (ki_Full_Wrong : PySem.W.kitOne K (.ref C_Full) (.ref C_Wrong) = some false) (ki_Full_BadPair : PySem.W.kitOne K (.ref C_Full) (.ref C_BadPair) = some false) (ki_Full_NoKind : PySem.W.kitOne K (.ref C_Full) (.ref C_NoKind) = some false) (ki_Full_NotComplete : PySem.W.kitOne K (.ref C_Full) (.ref C_NotComplete) = some false) (ki_Full_Lonely : PySem.W.kitOne K (.ref C_Full) (.ref C_Lonely) = some false) (ki_Full_TooMany : PySem.W.kitOne K (.ref C_Full) (.ref C_TooMany) = some false) (ki_Full_Crowded : PySem.W.kitOne K (.ref C_Full) (.ref C_Crowded) = some false) (ki_Full_Taken : PySem.W.kitOne K (.ref C_Full) (.ref C_Taken) = some false) (ki_Full_NotWaiting : PySem.W.kitOne K (.ref C_Full) (.ref C_NotWaiting) = some false) (ki_Full_Full : PySem.W.kitOne K (.ref C_Full) (.ref C_Full) = some true) (ki_Full_Broken : PySem.W.kitOne K (.ref C_Full) (.ref C_Broken) = some false) (ki_Full_Nothing : PySem.W.kitOne K (.ref C_Full) (.ref C_Nothing) = some false) (ki_Full_NoText : PySem.W.kitOne K (.ref C_Full) (.ref C_NoText) = some false) (ki_Full_NoCommand : PySem.W.kitOne K (.ref C_Full) (.ref C_NoCommand) = some false) (xk_Broken : ExcC K C_Broken) (ki_Broken_Wrong : PySem.W.kitOne K (.ref C_Broken) (.ref C_Wrong) = some false) (ki_Broken_BadPair : PySem.W.kitOne K (.ref C_Broken) (.ref C_BadPair) = some false) (ki_Broken_NoKind : PySem.W.kitOne K (.ref C_Broken) (.ref C_NoKind) = some false) (ki_Broken_NotComplete : PySem.W.kitOne K (.ref C_Broken) (.ref C_NotComplete) = some false) (ki_Broken_Lonely : PySem.W.kitOne K (.ref C_Broken) (.ref C_Lonely) = some false) (ki_Broken_TooMany : PySem.W.kitOne K (.ref C_Broken) (.ref C_TooMany) = some false) (ki_Broken_Crowded : PySem.W.kitOne K (.ref C_Broken) (.ref C_Crowded) = some false) (ki_Broken_Taken : PySem.W.kitOne K (.ref C_Broken) (.ref C_Taken) = some false) (ki_Broken_NotWaiting : PySem.W.kitOne K (.ref C_Broken) (.ref C_NotWaiting) = some false) (ki_Broken_Full : PySem.W.kitOne K (.ref C_Broken) (.ref C_Full) = some false) (ki_Broken_Broken : PySem.W.kitOne K (.ref C_Broken) (.ref C_Broken) = some true) (ki_Broken_Nothing : PySem.W.kitOne K (.ref C_Broken) (.ref C_Nothing) = some false) (ki_Broken_NoText : PySem.W.kitOne K (.ref C_Broken) (.ref C_NoText) = some false) (ki_Broken_NoCommand : PySem.W.kitOne K (.ref C_Broken) (.ref C_NoCommand) = some false) (xk_Nothing : ExcC K C_Nothing) (ki_Nothing_Wrong : PySem.W.kitOne K (.ref C_Nothing) (.ref C_Wrong) = some false) (ki_Nothing_BadPair : PySem.W.kitOne K (.ref C_Nothing) (.ref C_BadPair) = some false) (ki_Nothing_NoKind : PySem.W.kitOne K (.ref C_Nothing) (.ref C_NoKind) = some false) (ki_Nothing_NotComplete : PySem.W.kitOne K (.ref C_Nothing) (.ref C_NotComplete) = some false) (ki_Nothing_Lonely : PySem.W.kitOne K (.ref C_Nothing) (.ref C_Lonely) = some false) (ki_Nothing_TooMany : PySem.W.kitOne K (.ref C_Nothing) (.ref C_TooMany) = some false) (ki_Nothing_Crowded : PySem.W.kitOne K (.ref C_Nothing) (.ref C_Crowded) = some false) (ki_Nothing_Taken : PySem.W.kitOne K (.ref C_Nothing) (.ref C_Taken) = some false) (ki_Nothing_NotWaiting : PySem.W.kitOne K (.ref C_Nothing) (.ref C_NotWaiting) = some false) (ki_Nothing_Full : PySem.W.kitOne K (.ref C_Nothing) (.ref C_Full) = some false) (ki_Nothing_Broken : PySem.W.kitOne K (.ref C_Nothing) (.ref C_Broken) = some false) (ki_Nothing_Nothing : PySem.W.kitOne K (.ref C_Nothing) (.ref C_Nothing) = some true) (ki_Nothing_NoText : PySem.W.kitOne K (.ref C_Nothing) (.ref C_NoText) = some false) (ki_Nothing_NoCommand : PySem.W.kitOne K (.ref C_Nothing) (.ref C_NoCommand) = some false) (xk_NoText : ExcC K C_NoText) (ki_NoText_Wrong : PySem.W.kitOne K (.ref C_NoText) (.ref C_Wrong) = some false) (ki_NoText_BadPair : PySem.W.kitOne K (.ref C_NoText) (.ref C_BadPair) = some false) (ki_NoText_NoKind : PySem.W.kitOne K (.ref C_NoText) (.ref C_NoKind) = some false) (ki_NoText_NotComplete : PySem.W.kitOne K (.ref C_NoText) (.ref C_NotComplete) = some false) (ki_NoText_Lonely : PySem.W.kitOne K (.ref C_NoText) (.ref C_Lonely) = some false) (ki_NoText_TooMany : PySem.W.kitOne K (.ref C_NoText) (.ref C_TooMany) = some false) (ki_NoText_Crowded : PySem.W.kitOne K (.ref C_NoText) (.ref C_Crowded) = some false) (ki_NoText_Taken : PySem.W.kitOne K (.ref C_NoText) (.ref C_Taken) = some false) (ki_NoText_NotWaiting : PySem.W.kitOne K (.ref C_NoText) (.ref C_NotWaiting) = some false) (ki_NoText_Full : PySem.W.kitOne K (.ref C_NoText) (.ref C_Full) = some false) (ki_NoText_Broken : PySem.W.kitOne K (.ref C_NoText) (.ref C_Broken) = some false) (ki_NoText_Nothing : PySem.W.kitOne K (.ref C_NoText) (.ref C_Nothing) = some false) (ki_NoText_NoText : PySem.W.kitOne K (.ref C_NoText) (.ref C_NoText) = some true) (ki_NoText_NoCommand : PySem.W.kitOne K (.ref C_NoText) (.ref C_NoCommand) = some false) (xk_NoCommand : ExcC K C_NoCommand) (ki_NoCommand_Wrong : PySem.W.kitOne K (.ref C_NoCommand) (.ref C_Wrong) = some false) (ki_NoCommand_BadPair : PySem.W.kitOne K (.ref C_NoCommand) (.ref C_BadPair) = some false) (ki_NoCommand_NoKind : PySem.W.kitOne K (.ref C_NoCommand) (.ref C_NoKind) = some false) (ki_NoCommand_NotComplete : PySem.W.kitOne K (.ref C_NoCommand) (.ref C_NotComplete) = some false) (ki_NoCommand_Lonely : PySem.W.kitOne K (.ref C_NoCommand) (.ref C_Lonely) = some false) (ki_NoCommand_TooMany : PySem.W.kitOne K (.ref C_NoCommand) (.ref C_TooMany) = some false) (ki_NoCommand_Crowded : PySem.W.kitOne K (.ref C_NoCommand) (.ref C_Crowded) = some false) (ki_NoCommand_Taken : PySem.W.kitOne K (.ref C_NoCommand) (.ref C_Taken) = some false) (ki_NoCommand_NotWaiting : PySem.W.kitOne K (.ref C_NoCommand) (.ref C_NotWaiting) = some false) (ki_NoCommand_Full : PySem.W.kitOne K (.ref C_NoCommand) (.ref C_Full) = some false) (ki_NoCommand_Broken : PySem.W.kitOne K (.ref C_NoCommand) (.ref C_Broken) = some false) (ki_NoCommand_Nothing : PySem.W.kitOne K (.ref C_NoCommand) (.ref C_Nothing) = some false) (ki_NoCommand_NoText : PySem.W.kitOne K (.ref C_NoCommand) (.ref C_NoText) = some false) (ki_NoCommand_NoCommand : PySem.W.kitOne K (.ref C_NoCommand) (.ref C_NoCommand) = some true) (xk_SuitError : ExcC K C_SuitError) (ki_SuitError_Wrong : PySem.W.kitOne K (.ref C_SuitError) (.ref C_Wrong) = some false) (ki_SuitError_BadPair : PySem.W.kitOne K (.ref C_SuitError) (.ref C_BadPair) = some false) (ki_SuitError_NoKind : PySem.W.kitOne K (.ref C_SuitError) (.ref C_NoKind) = some false) (ki_SuitError_NotComplete : PySem.W.kitOne K (.ref C_SuitError) (.ref C_NotComplete) = some false) (ki_SuitError_Lonely : PySem.W.kitOne K (.ref C_SuitError) (.ref C_Lonely) = some false) (ki_SuitError_TooMany : PySem.W.kitOne K (.ref C_SuitError) (.ref C_TooMany) = some false) (ki_SuitError_Crowded : PySem.W.kitOne K (.ref C_SuitError) (.ref C_Crowded) = some false) (ki_SuitError_Taken : PySem.W.kitOne K (.ref C_SuitError) (.ref C_Taken) = some false) (ki_SuitError_NotWaiting : PySem.W.kitOne K (.ref C_SuitError) (.ref C_NotWaiting) = some false) (ki_SuitError_Full : PySem.W.kitOne K (.ref C_SuitError) (.ref C_Full) = some false) (ki_SuitError_Broken : PySem.W.kitOne K (.ref C_SuitError) (.ref C_Broken) = some false) (ki_SuitError_Nothing : PySem.W.kitOne K (.ref C_SuitError) (.ref C_Nothing) = some false) (ki_SuitError_NoText : PySem.W.kitOne K (.ref C_SuitError) (.ref C_NoText) = some false) (ki_SuitError_NoCommand : PySem.W.kitOne K (.ref C_SuitError) (.ref C_NoCommand) = some false) (z_isinstance : mg "isinstance" = none) (gc_NotComplete : mg "NotComplete" = some (.ref C_NotComplete)) (gc_NoKind : mg "NoKind" = some (.ref C_NoKind)) (gc_BadPair : mg "BadPair" = some (.ref C_BadPair)) (gc_Wrong : mg "Wrong" = some (.ref C_Wrong)) (gc_Taken : mg "Taken" = some (.ref C_Taken)) (gc_Crowded : mg "Crowded" = some (.ref C_Crowded)) (gc_TooMany : mg "TooMany" = some (.ref C_TooMany)) (gc_Lonely : mg "Lonely" = some (.ref C_Lonely)) (gc_Nothing : mg "Nothing" = some (.ref C_Nothing)) (gc_Broken : mg "Broken" = some (.ref C_Broken)) (gc_Full : mg "Full" = some (.ref C_Full)) (gc_NotWaiting : mg "NotWaiting" = some (.ref C_NotWaiting)) (gc_NoCommand : mg "NoCommand" = some (.ref C_NoCommand)) (gc_NoText : mg "NoText" = some (.ref C_NoText)) : FnG P w K mg base CX0 1 f fd ["_law_e"] (lift K (sp__law_classes C_Wrong C_BadPair C_NoKind C_NotComplete C_Lonely C_TooMany C_Crowded C_Taken C_NotWaiting C_Full C_Broken C_Nothing C_NoText C_NoCommand C_SuitError)) := by
  have nd := sc__law_classes.nd
  refine fnD Fn sc__law_classes (fun as Q h => ?len) (fun cdv A outer s H hgd hr => ⟨_, _,
    (dss_cons (ds_set (i := 1) nd rfl (.inl rfl) (de_lst (dv_cons (de_isV (de_var (pv 0)) (by rfl) z_isinstance (by rfl) gc_Wrong) (dv_cons (de_isV (de_var (pv 0)) (by rfl) z_isinstance (by rfl) gc_BadPair) (dv_cons (de_isV (de_var (pv 0)) (by rfl) z_isinstance (by rfl) gc_NoKind) (dv_cons (de_isV (de_var (pv 0)) (by rfl) z_isinstance (by rfl) gc_NotComplete) dv_nil))))))
      (dss_cons (ds_set (i := 1) nd rfl (.inl rfl) (de_op op_addA sem_addA (do_var (pv 1)) (do_e (de_lst (dv_cons (de_isV (de_var (pv 0)) (by rfl) z_isinstance (by rfl) gc_Lonely) (dv_cons (de_isV (de_var (pv 0)) (by rfl) z_isinstance (by rfl) gc_TooMany) (dv_cons (de_isV (de_var (pv 0)) (by rfl) z_isinstance (by rfl) gc_Crowded) (dv_cons (de_isV (de_var (pv 0)) (by rfl) z_isinstance (by rfl) gc_Taken) dv_nil))))))))
      (dss_cons (ds_set (i := 1) nd rfl (.inl rfl) (de_op op_addA sem_addA (do_var (pv 1)) (do_e (de_lst (dv_cons (de_isV (de_var (pv 0)) (by rfl) z_isinstance (by rfl) gc_NotWaiting) (dv_cons (de_isV (de_var (pv 0)) (by rfl) z_isinstance (by rfl) gc_Full) (dv_cons (de_isV (de_var (pv 0)) (by rfl) z_isinstance (by rfl) gc_Broken) (dv_cons (de_isV (de_var (pv 0)) (by rfl) z_isinstance (by rfl) gc_Nothing) dv_nil))))))))
      (dss_one (ds_ret (de_op op_addA sem_addA (do_var (pv 1)) (do_e (de_lst (dv_cons (de_isV (de_var (pv 0)) (by rfl) z_isinstance (by rfl) gc_NoText) (dv_cons (de_isV (de_var (pv 0)) (by rfl) z_isinstance (by rfl) gc_NoCommand) dv_nil)))))))))), fun as Q h => ?_⟩)
  case len => exact len__law_classes h
  · obtain ⟨a, C, f, d, rfl, hC⟩ := h
    have key : ∃ b : Nat → Bool, ExcC K C ∧ (PySem.W.kitOne K (.ref C) (.ref C_Wrong) = some (b 0) ∧ PySem.W.kitOne K (.ref C) (.ref C_BadPair) = some (b 1) ∧ PySem.W.kitOne K (.ref C) (.ref C_NoKind) = some (b 2) ∧ PySem.W.kitOne K (.ref C) (.ref C_NotComplete) = some (b 3) ∧ PySem.W.kitOne K (.ref C) (.ref C_Lonely) = some (b 4) ∧ PySem.W.kitOne K (.ref C) (.ref C_TooMany) = some (b 5) ∧ PySem.W.kitOne K (.ref C) (.ref C_Crowded) = some (b 6) ∧ PySem.W.kitOne K (.ref C) (.ref C_Taken) = some (b 7) ∧ PySem.W.kitOne K (.ref C) (.ref C_NotWaiting) = some (b 8) ∧ PySem.W.kitOne K (.ref C) (.ref C_Full) = some (b 9) ∧ PySem.W.kitOne K (.ref C) (.ref C_Broken) = some (b 10) ∧ PySem.W.kitOne K (.ref C) (.ref C_Nothing) = some (b 11) ∧ PySem.W.kitOne K (.ref C) (.ref C_NoText) = some (b 12) ∧ PySem.W.kitOne K (.ref C) (.ref C_NoCommand) = some (b 13)) ∧ Q (.fr (.l ((List.range 14).map fun k => .bl (b k)))) [.un] := by
      rcases hC with ⟨j, hj, hj14, h1⟩ | ⟨rfl, h2⟩
      · have hj2 : j = 0 ∨ j = 1 ∨ j = 2 ∨ j = 3 ∨ j = 4 ∨ j = 5 ∨ j = 6 ∨ j = 7 ∨ j = 8 ∨ j = 9 ∨ j = 10 ∨ j = 11 ∨ j = 12 ∨ j = 13 := by omega
        clear hj14
        rcases hj2 with rfl | rfl | rfl | rfl | rfl | rfl | rfl | rfl | rfl | rfl | rfl | rfl | rfl | rfl
        · cases hj; exact ⟨fun k => decide (k = 0), xk_Wrong, ⟨ki_Wrong_Wrong, ki_Wrong_BadPair, ki_Wrong_NoKind, ki_Wrong_NotComplete, ki_Wrong_Lonely, ki_Wrong_TooMany, ki_Wrong_Crowded, ki_Wrong_Taken, ki_Wrong_NotWaiting, ki_Wrong_Full, ki_Wrong_Broken, ki_Wrong_Nothing, ki_Wrong_NoText, ki_Wrong_NoCommand⟩, h1⟩
        · cases hj; exact ⟨fun k => decide (k = 1), xk_BadPair, ⟨ki_BadPair_Wrong, ki_BadPair_BadPair, ki_BadPair_NoKind, ki_BadPair_NotComplete, ki_BadPair_Lonely, ki_BadPair_TooMany, ki_BadPair_Crowded, ki_BadPair_Taken, ki_BadPair_NotWaiting, ki_BadPair_Full, ki_BadPair_Broken, ki_BadPair_Nothing, ki_BadPair_NoText, ki_BadPair_NoCommand⟩, h1⟩
        · cases hj; exact ⟨fun k => decide (k = 2), xk_NoKind, ⟨ki_NoKind_Wrong, ki_NoKind_BadPair, ki_NoKind_NoKind, ki_NoKind_NotComplete, ki_NoKind_Lonely, ki_NoKind_TooMany, ki_NoKind_Crowded, ki_NoKind_Taken, ki_NoKind_NotWaiting, ki_NoKind_Full, ki_NoKind_Broken, ki_NoKind_Nothing, ki_NoKind_NoText, ki_NoKind_NoCommand⟩, h1⟩
        · cases hj; exact ⟨fun k => decide (k = 3), xk_NotComplete, ⟨ki_NotComplete_Wrong, ki_NotComplete_BadPair, ki_NotComplete_NoKind, ki_NotComplete_NotComplete, ki_NotComplete_Lonely, ki_NotComplete_TooMany, ki_NotComplete_Crowded, ki_NotComplete_Taken, ki_NotComplete_NotWaiting, ki_NotComplete_Full, ki_NotComplete_Broken, ki_NotComplete_Nothing, ki_NotComplete_NoText, ki_NotComplete_NoCommand⟩, h1⟩
        · cases hj; exact ⟨fun k => decide (k = 4), xk_Lonely, ⟨ki_Lonely_Wrong, ki_Lonely_BadPair, ki_Lonely_NoKind, ki_Lonely_NotComplete, ki_Lonely_Lonely, ki_Lonely_TooMany, ki_Lonely_Crowded, ki_Lonely_Taken, ki_Lonely_NotWaiting, ki_Lonely_Full, ki_Lonely_Broken, ki_Lonely_Nothing, ki_Lonely_NoText, ki_Lonely_NoCommand⟩, h1⟩
        · cases hj; exact ⟨fun k => decide (k = 5), xk_TooMany, ⟨ki_TooMany_Wrong, ki_TooMany_BadPair, ki_TooMany_NoKind, ki_TooMany_NotComplete, ki_TooMany_Lonely, ki_TooMany_TooMany, ki_TooMany_Crowded, ki_TooMany_Taken, ki_TooMany_NotWaiting, ki_TooMany_Full, ki_TooMany_Broken, ki_TooMany_Nothing, ki_TooMany_NoText, ki_TooMany_NoCommand⟩, h1⟩
        · cases hj; exact ⟨fun k => decide (k = 6), xk_Crowded, ⟨ki_Crowded_Wrong, ki_Crowded_BadPair, ki_Crowded_NoKind, ki_Crowded_NotComplete, ki_Crowded_Lonely, ki_Crowded_TooMany, ki_Crowded_Crowded, ki_Crowded_Taken, ki_Crowded_NotWaiting, ki_Crowded_Full, ki_Crowded_Broken, ki_Crowded_Nothing, ki_Crowded_NoText, ki_Crowded_NoCommand⟩, h1⟩
        · cases hj; exact ⟨fun k => decide (k = 7), xk_Taken, ⟨ki_Taken_Wrong, ki_Taken_BadPair, ki_Taken_NoKind, ki_Taken_NotComplete, ki_Taken_Lonely, ki_Taken_TooMany, ki_Taken_Crowded, ki_Taken_Taken, ki_Taken_NotWaiting, ki_Taken_Full, ki_Taken_Broken, ki_Taken_Nothing, ki_Taken_NoText, ki_Taken_NoCommand⟩, h1⟩
        · cases hj; exact ⟨fun k => decide (k = 8), xk_NotWaiting, ⟨ki_NotWaiting_Wrong, ki_NotWaiting_BadPair, ki_NotWaiting_NoKind, ki_NotWaiting_NotComplete, ki_NotWaiting_Lonely, ki_NotWaiting_TooMany, ki_NotWaiting_Crowded, ki_NotWaiting_Taken, ki_NotWaiting_NotWaiting, ki_NotWaiting_Full, ki_NotWaiting_Broken, ki_NotWaiting_Nothing, ki_NotWaiting_NoText, ki_NotWaiting_NoCommand⟩, h1⟩
        · cases hj; exact ⟨fun k => decide (k = 9), xk_Full, ⟨ki_Full_Wrong, ki_Full_BadPair, ki_Full_NoKind, ki_Full_NotComplete, ki_Full_Lonely, ki_Full_TooMany, ki_Full_Crowded, ki_Full_Taken, ki_Full_NotWaiting, ki_Full_Full, ki_Full_Broken, ki_Full_Nothing, ki_Full_NoText, ki_Full_NoCommand⟩, h1⟩
        · cases hj; exact ⟨fun k => decide (k = 10), xk_Broken, ⟨ki_Broken_Wrong, ki_Broken_BadPair, ki_Broken_NoKind, ki_Broken_NotComplete, ki_Broken_Lonely, ki_Broken_TooMany, ki_Broken_Crowded, ki_Broken_Taken, ki_Broken_NotWaiting, ki_Broken_Full, ki_Broken_Broken, ki_Broken_Nothing, ki_Broken_NoText, ki_Broken_NoCommand⟩, h1⟩
        · cases hj; exact ⟨fun k => decide (k = 11), xk_Nothing, ⟨ki_Nothing_Wrong, ki_Nothing_BadPair, ki_Nothing_NoKind, ki_Nothing_NotComplete, ki_Nothing_Lonely, ki_Nothing_TooMany, ki_Nothing_Crowded, ki_Nothing_Taken, ki_Nothing_NotWaiting, ki_Nothing_Full, ki_Nothing_Broken, ki_Nothing_Nothing, ki_Nothing_NoText, ki_Nothing_NoCommand⟩, h1⟩
        · cases hj; exact ⟨fun k => decide (k = 12), xk_NoText, ⟨ki_NoText_Wrong, ki_NoText_BadPair, ki_NoText_NoKind, ki_NoText_NotComplete, ki_NoText_Lonely, ki_NoText_TooMany, ki_NoText_Crowded, ki_NoText_Taken, ki_NoText_NotWaiting, ki_NoText_Full, ki_NoText_Broken, ki_NoText_Nothing, ki_NoText_NoText, ki_NoText_NoCommand⟩, h1⟩
        · cases hj; exact ⟨fun k => decide (k = 13), xk_NoCommand, ⟨ki_NoCommand_Wrong, ki_NoCommand_BadPair, ki_NoCommand_NoKind, ki_NoCommand_NotComplete, ki_NoCommand_Lonely, ki_NoCommand_TooMany, ki_NoCommand_Crowded, ki_NoCommand_Taken, ki_NoCommand_NotWaiting, ki_NoCommand_Full, ki_NoCommand_Broken, ki_NoCommand_Nothing, ki_NoCommand_NoText, ki_NoCommand_NoCommand⟩, h1⟩
      · exact ⟨fun _ => false, xk_SuitError, ⟨ki_SuitError_Wrong, ki_SuitError_BadPair, ki_SuitError_NoKind, ki_SuitError_NotComplete, ki_SuitError_Lonely, ki_SuitError_TooMany, ki_SuitError_Crowded, ki_SuitError_Taken, ki_SuitError_NotWaiting, ki_SuitError_Full, ki_SuitError_Broken, ki_SuitError_Nothing, ki_SuitError_NoText, ki_SuitError_NoCommand⟩, h2⟩
    obtain ⟨b, hx, ⟨k0, k1, k2, k3, k4, k5, k6, k7, k8, k9, k10, k11, k12, k13⟩, hq⟩ := key
    clear hC
    simp only [List.length_cons, List.length_nil, Nat.reduceAdd, Nat.reduceSub, List.replicate_succ, List.replicate_zero, List.cons_append, List.nil_append]
    refine sSeq_go fun N0 h0 => ?_
    simp_arith
    refine ⟨_, _, _, _, rfl, hx, _, k0, _, _, _, _, rfl, hx, _, k1, _, _, _, _, rfl, hx, _, k2, _, _, _, _, rfl, hx, _, k3, le_size (by decide), h0 _ ?_⟩
    clear h0
    refine sSeq_go fun N0 h0 => ?_
    simp_arith
    refine ⟨_, _, _, _, rfl, hx, _, k4, _, _, _, _, rfl, hx, _, k5, _, _, _, _, rfl, hx, _, k6, _, _, _, _, rfl, hx, _, k7, le_size (by decide), le_size (by decide), h0 _ ?_⟩
    clear h0
    refine sSeq_go fun N0 h0 => ?_
    simp_arith
    refine ⟨_, _, _, _, rfl, hx, _, k8, _, _, _, _, rfl, hx, _, k9, _, _, _, _, rfl, hx, _, k10, _, _, _, _, rfl, hx, _, k11, le_size (by decide), le_size (by decide), h0 _ ?_⟩
    clear h0
    simp_arith
    refine ⟨_, _, _, _, rfl, hx, _, k12, _, _, _, _, rfl, hx, _, k13, le_size (by decide), le_size (by decide), ?_⟩
    exact hq
def sp__law_fields (C_Wrong : Addr) (C_BadPair : Addr) (C_NoKind : Addr) (C_NotComplete : Addr) (C_Lonely : Addr) (C_TooMany : Addr) (C_Crowded : Addr) (C_Taken : Addr) (C_NotWaiting : Addr) (C_Full : Addr) (C_Broken : Addr) (C_Nothing : Addr) (C_NoText : Addr) (C_NoCommand : Addr) : SpD := fun as Q => ∃ (a : Nat → Addr) (d : D), as = [.sh (.lst (Es C_Wrong C_BadPair C_NoKind C_NotComplete C_Lonely C_TooMany C_Crowded C_Taken C_NotWaiting C_Full C_Broken C_Nothing C_NoText C_NoCommand a d))] ∧ Q (.fr (.l (List.replicate 11 d))) [.un]
theorem len__law_fields {C_Wrong C_BadPair C_NoKind C_NotComplete C_Lonely C_TooMany C_Crowded C_Taken C_NotWaiting C_Full C_Broken C_Nothing C_NoText C_NoCommand : Addr} {as : SL} {Q : Rv → SL → Prop} (h : sp__law_fields C_Wrong C_BadPair C_NoKind C_NotComplete C_Lonely C_TooMany C_Crowded C_Taken C_NotWaiting C_Full C_Broken C_Nothing C_NoText C_NoCommand as Q) : as.length = 1 := by
  obtain ⟨_, _, rfl, _⟩ := h
  rfl
theorem ok__law_fields {f : Addr} {fd : FuncData} (Fn : Fun K "_law_fields" "_law_fields" s__law_fields f fd) {C_TooMany C_Lonely C_NotComplete C_NoKind C_BadPair C_Wrong C_Broken C_Full C_NotWaiting C_Taken C_Crowded C_Nothing C_NoText C_NoCommand : Addr} (xk_TooMany : ExcC K C_TooMany) (xn_TooMany_limit : PySem.W.findIn K (.ref C_TooMany) "limit" = some none) (xk_Lonely : ExcC K C_Lonely) (xn_Lonely_kind : PySem.W.findIn K (.ref C_Lonely) "kind" = some none) (xk_NotComplete : ExcC K C_NotComplete) (xn_NotComplete_left : PySem.W.findIn K (.ref C_NotComplete) "left" = some none) (xk_NoKind : ExcC K C_NoKind) (xn_NoKind_kind : PySem.W.findIn K (.ref C_NoKind) "kind" = some none) (xk_BadPair : ExcC K C_BadPair) (xn_BadPair_at : PySem.W.findIn K (.ref C_BadPair) "at" = some none) (xk_Wrong : ExcC K C_Wrong) (xn_Wrong_place : PySem.W.findIn K (.ref C_Wrong) "place" = some none) (xk_Broken : ExcC K C_Broken) (xn_Broken_at : PySem.W.findIn K (.ref C_Broken) "at" = some none) (xk_Full : ExcC K C_Full) (xn_Full_limit : PySem.W.findIn K (.ref C_Full) "limit" = some none) (xk_NotWaiting : ExcC K C_NotWaiting) (xn_NotWaiting_name : PySem.W.findIn K (.ref C_NotWaiting) "name" = some none) (xk_Taken : ExcC K C_Taken) (xn_Taken_name : PySem.W.findIn K (.ref C_Taken) "name" = some none) (xk_Crowded : ExcC K C_Crowded) (xn_Crowded_members : PySem.W.findIn K (.ref C_Crowded) "members" = some none) : FnG P w K mg base CX0 1 f fd ["_law_raised"] (lift K (sp__law_fields C_Wrong C_BadPair C_NoKind C_NotComplete C_Lonely C_TooMany C_Crowded C_Taken C_NotWaiting C_Full C_Broken C_Nothing C_NoText C_NoCommand)) := by
  have nd := sc__law_fields.nd
  refine fnD Fn sc__law_fields (fun as Q h => ?len) (fun cdv A outer s H hgd hr => ⟨_, _,
    (dss_cons (ds_set (i := 1) nd rfl (.inl rfl) (de_lst (dv_cons (de_xfV (xf_of xk_Wrong) xn_Wrong_place (de_ix (hu1 hr) (do_var (pv 0)) (do_e de_int))) (dv_cons (de_xfV (xf_of xk_BadPair) xn_BadPair_at (de_ix (hu1 hr) (do_var (pv 0)) (do_e de_int))) (dv_cons (de_xfV (xf_of xk_NoKind) xn_NoKind_kind (de_ix (hu1 hr) (do_var (pv 0)) (do_e de_int))) (dv_cons (de_xfV (xf_of xk_NotComplete) xn_NotComplete_left (de_ix (hu1 hr) (do_var (pv 0)) (do_e de_int))) (dv_cons (de_xfV (xf_of xk_Lonely) xn_Lonely_kind (de_ix (hu1 hr) (do_var (pv 0)) (do_e de_int))) (dv_cons (de_xfV (xf_of xk_TooMany) xn_TooMany_limit (de_ix (hu1 hr) (do_var (pv 0)) (do_e de_int))) dv_nil))))))))
      (dss_one (ds_ret (de_op op_addA sem_addA (do_var (pv 1)) (do_e (de_lst (dv_cons (de_xfV (xf_of xk_Crowded) xn_Crowded_members (de_ix (hu1 hr) (do_var (pv 0)) (do_e de_int))) (dv_cons (de_xfV (xf_of xk_Taken) xn_Taken_name (de_ix (hu1 hr) (do_var (pv 0)) (do_e de_int))) (dv_cons (de_xfV (xf_of xk_NotWaiting) xn_NotWaiting_name (de_ix (hu1 hr) (do_var (pv 0)) (do_e de_int))) (dv_cons (de_xfV (xf_of xk_Full) xn_Full_limit (de_ix (hu1 hr) (do_var (pv 0)) (do_e de_int))) (dv_cons (de_xfV (xf_of xk_Broken) xn_Broken_at (de_ix (hu1 hr) (do_var (pv 0)) (do_e de_int))) dv_nil))))))))))), fun as Q h => ?_⟩)
  case len => exact len__law_fields h
  · obtain ⟨a, d, rfl, h⟩ := h
    simp only [List.length_cons, List.length_nil, Nat.reduceAdd, Nat.reduceSub, List.replicate_succ, List.replicate_zero, List.cons_append, List.nil_append]
    refine sSeq_go fun N0 h0 => ?_
    simp_arith
    refine ⟨_, atI_int (by decide) rfl, _, _, rfl, _, atI_int (by decide) rfl, _, _, rfl, _, atI_int (by decide) rfl, _, _, rfl, _, atI_int (by decide) rfl, _, _, rfl, _, atI_int (by decide) rfl, _, _, rfl, _, atI_int (by decide) rfl, _, _, rfl, le_size (by decide), h0 _ ?_⟩
    clear h0
    simp_arith
    refine ⟨_, atI_int (by decide) rfl, _, _, rfl, _, atI_int (by decide) rfl, _, _, rfl, _, atI_int (by decide) rfl, _, _, rfl, _, atI_int (by decide) rfl, _, _, rfl, _, atI_int (by decide) rfl, _, _, rfl, le_size (by decide), le_size (by decide), ?_⟩
    exact h
theorem kPut_le17 {α : Type} {kvs : List (Key × α)} {k : Key} {v : α} : (kPut kvs k v).length ≤ kvs.length + 1 := by
  unfold kPut
  split
  · rw [List.length_map]; omega
  · rw [List.length_append]; exact Nat.le_refl _
theorem gEq_same17 {l : List D} {Q : Rv → Prop} (h : D.fit 60 (.lst l) = true) (q : Q (.v (.bl false))) : gEq not (.lst l) (.lst l) Q := by
  refine ⟨h, h, ?_⟩
  rw [eqv_self _ ⟨_, h⟩]
  exact q
theorem fit_bls17 {α : Type} {f : α → Bool} (l : List α) : D.fit 60 (.lst (l.map fun k => D.bl (f k))) = true := by
  rw [D.fit, fits_all, List.all_map, List.all_eq_true]
  intro x _
  simp [D.fit]
def sp_law : SpD := fun as Q => ∃ ns : List Int, as = [.sh (.scr ns)] ∧ ns.length ≤ 63 ∧ ∀ o, Q (.v (.bl true)) o
theorem ok_law {f : Addr} {fd : FuncData} (Fn : Fun K "law" "law" s_law f fd) {C_Wrong C_SuitError C_BadPair C_NoKind C_NotComplete C_Lonely C_TooMany C_Crowded C_Taken C_NotWaiting C_Full C_Broken C_Nothing C_NoText C_NoCommand : Addr} (xk_Wrong : ExcC K C_Wrong) (ki_Wrong_SuitError : PySem.W.kitOne K (.ref C_Wrong) (.ref C_SuitError) = some true) (ki_Wrong_ValueError : PySem.W.kitOne K (.ref C_Wrong) (.type "ValueError") = some true) (xk_BadPair : ExcC K C_BadPair) (ki_BadPair_SuitError : PySem.W.kitOne K (.ref C_BadPair) (.ref C_SuitError) = some true) (ki_BadPair_ValueError : PySem.W.kitOne K (.ref C_BadPair) (.type "ValueError") = some true) (xk_NoKind : ExcC K C_NoKind) (ki_NoKind_SuitError : PySem.W.kitOne K (.ref C_NoKind) (.ref C_SuitError) = some true) (ki_NoKind_ValueError : PySem.W.kitOne K (.ref C_NoKind) (.type "ValueError") = some true) (xk_NotComplete : ExcC K C_NotComplete) (ki_NotComplete_SuitError : PySem.W.kitOne K (.ref C_NotComplete) (.ref C_SuitError) = some true) (ki_NotComplete_ValueError : PySem.W.kitOne K (.ref C_NotComplete) (.type "ValueError") = some true) (xk_Lonely : ExcC K C_Lonely) (ki_Lonely_SuitError : PySem.W.kitOne K (.ref C_Lonely) (.ref C_SuitError) = some true) (ki_Lonely_ValueError : PySem.W.kitOne K (.ref C_Lonely) (.type "ValueError") = some true) (xk_TooMany : ExcC K C_TooMany) (ki_TooMany_SuitError : PySem.W.kitOne K (.ref C_TooMany) (.ref C_SuitError) = some true) (ki_TooMany_ValueError : PySem.W.kitOne K (.ref C_TooMany) (.type "ValueError") = some true) (xk_Crowded : ExcC K C_Crowded) (ki_Crowded_SuitError : PySem.W.kitOne K (.ref C_Crowded) (.ref C_SuitError) = some true) (ki_Crowded_ValueError : PySem.W.kitOne K (.ref C_Crowded) (.type "ValueError") = some true) (xk_Taken : ExcC K C_Taken) (ki_Taken_SuitError : PySem.W.kitOne K (.ref C_Taken) (.ref C_SuitError) = some true) (ki_Taken_ValueError : PySem.W.kitOne K (.ref C_Taken) (.type "ValueError") = some true) (xk_NotWaiting : ExcC K C_NotWaiting) (ki_NotWaiting_SuitError : PySem.W.kitOne K (.ref C_NotWaiting) (.ref C_SuitError) = some true) (ki_NotWaiting_ValueError : PySem.W.kitOne K (.ref C_NotWaiting) (.type "ValueError") = some true) (xk_Full : ExcC K C_Full) (ki_Full_SuitError : PySem.W.kitOne K (.ref C_Full) (.ref C_SuitError) = some true) (ki_Full_ValueError : PySem.W.kitOne K (.ref C_Full) (.type "ValueError") = some true) (xk_Broken : ExcC K C_Broken) (ki_Broken_SuitError : PySem.W.kitOne K (.ref C_Broken) (.ref C_SuitError) = some true) (ki_Broken_ValueError : PySem.W.kitOne K (.ref C_Broken) (.type "ValueError") = some true) (xk_Nothing : ExcC K C_Nothing) (ki_Nothing_SuitError : PySem.W.kitOne K (.ref C_Nothing) (.ref C_SuitError) = some true) (ki_Nothing_ValueError : PySem.W.kitOne K (.ref C_Nothing) (.type "ValueError") = some true) (xk_NoText : ExcC K C_NoText) (ki_NoText_SuitError : PySem.W.kitOne K (.ref C_NoText) (.ref C_SuitError) = some true) (ki_NoText_ValueError : PySem.W.kitOne K (.ref C_NoText) (.type "ValueError") = some true) (xk_NoCommand : ExcC K C_NoCommand) (ki_NoCommand_SuitError : PySem.W.kitOne K (.ref C_NoCommand) (.ref C_SuitError) = some true) (ki_NoCommand_ValueError : PySem.W.kitOne K (.ref C_NoCommand) (.type "ValueError") = some true) (xk_SuitError : ExcC K C_SuitError) (ki_SuitError_ValueError : PySem.W.kitOne K (.ref C_SuitError) (.type "ValueError") = some true) {a__law_bag : Addr} {d__law_bag : FuncData} (f__law_bag : Cal P w K mg base 1 "_law_bag" a__law_bag d__law_bag ["_law_script"] sp__law_bag) (z_range : mg "range" = none) {a__law_take : Addr} {d__law_take : FuncData} (f__law_take : Cal P w K mg base 1 "_law_take" a__law_take d__law_take ["_law_bag_here", "_law_many"] sp__law_take) {a__law_made : Addr} {d__law_made : FuncData} (f__law_made : Cal P w K mg base 2 "_law_made" a__law_made d__law_made ["_law_thing"] (sp__law_made C_Wrong C_BadPair C_NoKind C_NotComplete C_Lonely C_TooMany C_Crowded C_Taken C_NotWaiting C_Full C_Broken C_Nothing C_NoText C_NoCommand)) {a__law_classes : Addr} {d__law_classes : FuncData} (f__law_classes : Cal P w K mg base 1 "_law_classes" a__law_classes d__law_classes ["_law_e"] (sp__law_classes C_Wrong C_BadPair C_NoKind C_NotComplete C_Lonely C_TooMany C_Crowded C_Taken C_NotWaiting C_Full C_Broken C_Nothing C_NoText C_NoCommand C_SuitError)) (z_isinstance : mg "isinstance" = none) (z_ValueError : mg "ValueError" = none) (gc_SuitError : mg "SuitError" = some (.ref C_SuitError)) {a__law_fields : Addr} {d__law_fields : FuncData} (f__law_fields : Cal P w K mg base 1 "_law_fields" a__law_fields d__law_fields ["_law_raised"] (sp__law_fields C_Wrong C_BadPair C_NoKind C_NotComplete C_Lonely C_TooMany C_Crowded C_Taken C_NotWaiting C_Full C_Broken C_Nothing C_NoText C_NoCommand)) (z_list : mg "list" = none) (z_dict : mg "dict" = none) (xb_SuitError : XcB K mg "SuitError" C_SuitError) (z_any : mg "any" = none) : FnG P w K mg base CX0 3 f fd ["_law_script"] (lift K sp_law) := by
  have nd := sc_law.nd
  refine fnD Fn sc_law (fun as Q h => ?len) (fun cdv A outer s H hgd hr => ⟨_, _,
    (dss_pl0 11 (dss_cons (ds_set (i := 1) nd rfl (.inl rfl) (de_call f__law_bag.ok hgd (hr.mono (by decide)) (by rfl) f__law_bag.g f__law_bag.kp f__law_bag.b pass0 (dag_val (de_var (pv 0)) dag_nil)))
      (dss_cons (ds_for PassesOwn.never rfl (di_r1 (by rfl) z_range (dv_cons de_int dv_nil)) (dg_name (i := 2) nd rfl (.inl rfl))
      (dss_cons (ds_set (i := 3) nd rfl (.inl rfl) (de_lst (dv_cons de_non (dv_cons de_bl (dv_cons (de_un un_neg sem_neg (do_pl 11 de_int)) (dv_cons (de_op op_powW sem_powW (do_pl 11 de_int) (do_pl 11 de_int)) (dv_cons de_str (dv_cons de_str (dv_cons (de_keep 11 (de_lst (dv_cons de_int (dv_cons (de_lst (dv_cons de_int dv_nil)) dv_nil)))) (dv_cons (de_tup dv_nil) (dv_cons (de_tup (dv_cons de_int (dv_cons de_str dv_nil))) (dv_cons (de_keep 11 (de_disp (dps_cons de_str (de_lst (dv_cons de_int dv_nil)) dps_nil) (by rfl) (by rfl) (fun z => by cases z) (by decide))) (dv_cons (de_keep 11 (de_lst dv_nil)) (dv_cons (de_keep 11 (de_lst (dv_cons de_str dv_nil))) dv_nil))))))))))))))
      (dss_cons (ds_set (i := 4) nd rfl (.inl rfl) (de_ix (hu1 hr) (do_varP 11 (pv 3)) (do_pl 11 (de_call f__law_take.ok hgd (hr.mono (by decide)) (by rfl) f__law_take.g f__law_take.kp f__law_take.b pass0 (dag_bor (pv 1) (dag_val de_int dag_nil))))))
      (dss_cons (ds_set (i := 5) nd rfl (.inl rfl) (de_call f__law_made.ok hgd (hr.mono (by decide)) (by rfl) f__law_made.g f__law_made.kp f__law_made.b pass0 (dag_val (de_var (pv 4)) dag_nil)))
      (dss_cons (ds_for PassesOwn.never rfl (di_r1 (by rfl) z_range (dv_cons de_int dv_nil)) (dg_name (i := 6) nd rfl (.inr rfl))
      (dss_cons (ds_if (dt_cmp (op_neA (hu64 hr)) sem_ne (do_pl 11 (de_call f__law_classes.ok hgd (hr.mono (by decide)) (by rfl) f__law_classes.g f__law_classes.kp f__law_classes.b pass0 (dag_val (de_ix (hu1 hr) (do_varP 11 (pv 5)) (do_varP 11 (pv 6))) dag_nil))) (do_pl 11 (de_lcF rfl nd (dic_of (di_r1 (by rfl) z_range (dv_cons de_int dv_nil))) (blkOk_by (own := [("_law_place", 9)]) (N := ["_law_script", "_law_bag_here", "_law_turn", "_law_some", "_law_thing", "_law_raised", "_law_at", "_law_fields_here", "_law_base", "_law_place", "_law_one", "0pile"]) (sc := defScope s_law) (by decide +kernel)) (fun _ _ _ _ _ => (dg_name (i := 9) nd rfl (.inl rfl))) (fun _ _ _ _ _ => dts_nil) (fun _ _ _ _ _ => (de_cmp (op_eqA (hu64 hr)) sem_eq (do_varP 11 (pv 9)) (do_varP 11 (pv 6)) (nomark _))))) (nomark _)) (dss_one (ds_ret de_bl)) dss_nil)
      (dss_one (ds_if (dw_pt (dw_or (dt_not (dt_tr (do_pl 11 (de_isV (de_ix (hu1 hr) (do_varP 11 (pv 5)) (do_varP 11 (pv 6))) (by rfl) z_isinstance (by rfl) gc_SuitError)))) (dw_or1 (dt_not (dt_tr (do_pl 11 (de_isVb (ty := "ValueError") (de_ix (hu1 hr) (do_varP 11 (pv 5)) (do_varP 11 (pv 6))) (by rfl) z_isinstance (by rfl) z_ValueError (by decide +kernel)))))))) (dss_one (ds_ret de_bl)) dss_nil))))
      (dss_cons (ds_set (i := 7) nd rfl (.inl rfl) (de_call f__law_fields.ok hgd (hr.mono (by decide)) (by rfl) f__law_fields.g f__law_fields.kp f__law_fields.b pass0 (dag_val (de_var (pv 5)) dag_nil)))
      (dss_cons (ds_if (dw_pt (dw_or (dt_cmp (op_neA (hu64 hr)) sem_ne (do_pl 11 (de_lcF rfl nd (dic_var (pv 7)) (blkOk_by (own := [("_law_one", 10)]) (N := ["_law_script", "_law_bag_here", "_law_turn", "_law_some", "_law_thing", "_law_raised", "_law_at", "_law_fields_here", "_law_base", "_law_place", "_law_one", "0pile"]) (sc := defScope s_law) (by decide +kernel)) (fun _ _ _ _ _ => (dg_name (i := 10) nd rfl (.inl rfl))) (fun _ _ _ _ _ => dts_nil) (fun _ _ _ _ _ => (de_cmp op_isA sem_isA (do_varP 11 (pv 10)) (do_pl 11 de_non) (nomark _))))) (do_pl 11 (de_op op_mulA sem_mulA (do_pl 11 (de_lst (dv_cons (de_cmp op_isA sem_isA (do_varP 11 (pv 4)) (do_pl 11 de_non) (nomark _)) dv_nil))) (do_pl 11 de_int))) (nomark _)) (dw_or1 (dt_cmp (op_neS (hu64 hr)) sem_neS (do_varP 11 (pv 7)) (do_pl 11 (de_op op_mulA sem_mulA (do_pl 11 (de_lst (dv_cons (de_var (pv 4)) dv_nil))) (do_pl 11 de_int))) (nomark _))))) (dss_one (ds_ret de_bl)) dss_nil)
      (dss_cons (ds_if (dt_tr (do_pl 11 (de_isi (T := "list") (by rfl) z_isinstance (do_varP 11 (pv 4)) (by rfl) z_list (by decide +kernel) (by decide)))) (dss_one (ds_expr (de_appendE 11 (de_var (pv 4)) (dv_cons de_int dv_nil)))) dss_nil)
      (dss_cons (ds_if (dt_tr (do_pl 11 (de_isi (T := "dict") (by rfl) z_isinstance (do_varP 11 (pv 4)) (by rfl) z_dict (by decide +kernel) (by decide)))) (dss_one (ds_storeP 11 (hu1 hr) (de_var (pv 4)) (do_pl 11 de_str) de_int (pg_sub (de_var (pv 4)).pe (do_pl 11 de_str).pe (set_any (hu1 hr))))) dss_nil)
      (dss_one (ds_if (dt_cmp (op_neS (hu64 hr)) sem_neS (do_pl 11 (de_call f__law_fields.ok hgd (hr.mono (by decide)) (by rfl) f__law_fields.g f__law_fields.kp f__law_fields.b pass0 (dag_val (de_var (pv 5)) dag_nil))) (do_pl 11 (de_op op_mulA sem_mulA (do_pl 11 (de_lst (dv_cons (de_var (pv 4)) dv_nil))) (do_pl 11 de_int))) (nomark _)) (dss_one (ds_ret de_bl)) dss_nil)))))))))))
      (dss_cons (ds_for PassesOwn.never rfl (di_e (de_lst (dv_cons (de_vB xb_SuitError (da_cons (do_pl 11 de_str) da_nil) (by rfl)) (dv_cons (de_vB0 xb_SuitError (by rfl)) (dv_cons (de_vB xb_SuitError (da_cons (do_pl 11 de_str) (da_cons (do_pl 11 de_str) da_nil)) (by rfl)) dv_nil))))) (dg_name (i := 8) nd rfl (.inl rfl))
      (dss_one (ds_if (dw_pt (dw_or (dt_not (dt_tr (do_pl 11 (de_isVb (ty := "ValueError") (de_var (pv 8)) (by rfl) z_isinstance (by rfl) z_ValueError (by decide +kernel))))) (dw_or1 (dt_tr (do_pl 11 (de_callB (cr_any rfl) sem_any (by rfl) z_any (by decide +kernel) (da_cons (do_pl 11 (de_call f__law_classes.ok hgd (hr.mono (by decide)) (by rfl) f__law_classes.g f__law_classes.kp f__law_classes.b pass0 (dag_val (de_var (pv 8)) dag_nil))) da_nil))))))) (dss_one (ds_ret de_bl)) dss_nil)))
      (dss_one (ds_ret de_bl)))))), fun as Q h => ?_⟩)
  case len => obtain ⟨_, rfl, _⟩ := h; rfl
  · obtain ⟨ns, rfl, hl, h⟩ := h
    simp only [List.length_cons, List.length_nil, Nat.reduceAdd, Nat.reduceSub, List.replicate_succ, List.replicate_zero, List.cons_append, List.nil_append]
    refine ⟨[], rfl, ?_⟩
    simp only [List.set_cons_succ, List.set_cons_zero]
    refine sSeq_go fun N0 h0 => ?_
    simp_arith
    refine ⟨ns, rfl, hl, fun c hB => ?_⟩
    simp_arith
    refine h0 _ ?_
    clear h0
    refine sSeq_cut (fun ρ' => ∃ (c : Cn) (hs : Pile), ∃ (s_law_turn s_law_some s_law_thing s_law_raised s_law_at s_law_fields_here s_law_base s_law_place s_law_one : Sl), ρ' = [.sh (.scr ns), .ow c, s_law_turn, s_law_some, s_law_thing, s_law_raised, s_law_at, s_law_fields_here, s_law_base, s_law_place, s_law_one, .pl hs]) (fun N hN => ?_) ?_
    · simp_arith [big]
      refine ⟨by decide, by decide, forL_rng (fun i ρ => ∃ (c : Cn) (hs : Pile), Bag (1000000000 - 10000000 * i) c ∧ ∃ (s_law_turn s_law_some s_law_thing s_law_raised s_law_at s_law_fields_here s_law_base s_law_place s_law_one : Sl), ρ = [.sh (.scr ns), .ow c, s_law_turn, s_law_some, s_law_thing, s_law_raised, s_law_at, s_law_fields_here, s_law_base, s_law_place, s_law_one, .pl hs]) ⟨c, [], hB, _, _, _, _, _, _, _, _, _, rfl⟩ ?_ ?_⟩
      · rintro ρ ⟨c, hs, hB2, s_law_turn, s_law_some, s_law_thing, s_law_raised, s_law_at, s_law_fields_here, s_law_base, s_law_place, s_law_one, rfl⟩
        exact hN _ ⟨c, hs, _, _, _, _, _, _, _, _, _, rfl⟩
      clear hB c
      rintro i ρ N2 hi hN2 ⟨c, hs, hB2, s_law_turn, s_law_some, s_law_thing, s_law_raised, s_law_at, s_law_fields_here, s_law_base, s_law_place, s_law_one, rfl⟩
      have hi9 : i < 3 := by simpa using hi
      clear hi
      obtain ⟨B, eB⟩ : ∃ B, 1000000000 - 10000000 * i = B + 10000000 := ⟨1000000000 - 10000000 * i - 10000000, by omega⟩
      have hN2' : ∀ (c : Cn) (hs : Pile) ρ', Bag B c → (∃ (s_law_turn s_law_some s_law_thing s_law_raised s_law_at s_law_fields_here s_law_base s_law_place s_law_one : Sl), ρ' = [.sh (.scr ns), .ow c, s_law_turn, s_law_some, s_law_thing, s_law_raised, s_law_at, s_law_fields_here, s_law_base, s_law_place, s_law_one, .pl hs]) → N2 ρ' := fun c hs ρ' b e => hN2 _ ⟨c, hs, b.le (by omega), e⟩
      rw [eB] at hB2
      clear hN2 eB
      refine sSeq_cut (fun ρ' => ∃ (hs : Pile) (l : List D), l.length = 12 ∧ (∀ t ∈ l, ThOf 10 hs t) ∧ ∃ (s_law_turn s_law_thing s_law_raised s_law_at s_law_fields_here s_law_base s_law_place s_law_one : Sl), ρ' = [.sh (.scr ns), .ow c, s_law_turn, .ow (.l l), s_law_thing, s_law_raised, s_law_at, s_law_fields_here, s_law_base, s_law_place, s_law_one, .pl hs]) (fun N hN => ?_) ?_
      · obtain ⟨X4, hX4⟩ : ∃ X, vCons (dKeep 11 (dLst (vCons (dC (D.str (Str.ofString "x"))) vNil))) vNil = X := ⟨_, rfl⟩
        rw [hX4]
        obtain ⟨X3, hX3⟩ : ∃ X, vCons (dKeep 11 (dLst vNil)) X4 = X := ⟨_, rfl⟩
        rw [hX3]
        obtain ⟨X2, hX2⟩ : ∃ X, vCons (dKeep 11 (dDisp (psCons (dC (D.str (Str.ofString "a"))) (dLst (vCons (dC (D.int 1)) vNil)) psNil))) X3 = X := ⟨_, rfl⟩
        rw [hX2]
        simp_arith
        refine ⟨⟨by decide, by decide, Nat.lt_of_lt_of_le (show Int.natAbs 10 < 2 ^ 4 by decide) (Nat.pow_le_pow_right (by decide) (by decide))⟩, le_size (by decide), le_size (by decide), hs, List.Sublist.refl _, fun p h1 => ⟨le_size (by decide), le_size (by decide), ?_⟩⟩
        rw [← hX2]
        simp_arith
        refine ⟨le_size (by decide), by decide, _, List.Sublist.refl _, fun q h2 => ?_⟩
        rw [← hX3]
        simp_arith
        refine ⟨Nat.zero_le _, _, List.Sublist.refl _, fun r h3 => ?_⟩
        rw [← hX4]
        simp_arith
        refine ⟨le_size (by decide), _, List.Sublist.refl _, fun s h4 => ⟨le_size (by decide), hN _ ⟨_, _, ?_, ?_, _, _, _, _, _, _, _, _, rfl⟩⟩⟩
        · rfl
        · have b1 : (p == q) = false := beq_false_of_ne fun e => h2 (by simp [e])
          have b2 : (p == r) = false := beq_false_of_ne fun e => h3 (by simp [e])
          have b3 : (p == s) = false := beq_false_of_ne fun e => h4 (by simp [e])
          have b4 : (q == r) = false := beq_false_of_ne fun e => h3 (by simp [e])
          have b5 : (q == s) = false := beq_false_of_ne fun e => h4 (by simp [e])
          have b6 : (r == s) = false := beq_false_of_ne fun e => h4 (by simp [e])
          intro t ht
          simp only [List.mem_cons, List.not_mem_nil, or_false] at ht
          rcases ht with rfl | rfl | rfl | rfl | rfl | rfl | rfl | rfl | rfl | rfl | rfl | rfl
          · exact .inl ⟨by simp [D.fit], fun l e => by cases e⟩
          · exact .inl ⟨by simp [D.fit], fun l e => by cases e⟩
          · exact .inl ⟨by simp [D.fit], fun l e => by cases e⟩
          · exact .inl ⟨by simp [D.fit], fun l e => by cases e⟩
          · exact .inl ⟨by simp [D.fit], fun l e => by cases e⟩
          · exact .inl ⟨by simp [D.fit], fun l e => by cases e⟩
          · exact .inr (.inl ⟨p, _, rfl, by simp only [List.lookup, b1, b2, b3, beq_self_eq_true]; rfl, by decide⟩)
          · exact .inl ⟨by simp [D.fit, D.fits], fun l e => by cases e⟩
          · exact .inl ⟨by simp [D.fit, D.fits], fun l e => by cases e⟩
          · exact .inr (.inr ⟨q, _, rfl, by simp only [List.lookup, b4, b5, beq_self_eq_true]; rfl, by decide⟩)
          · exact .inr (.inl ⟨r, _, rfl, by simp only [List.lookup, b6, beq_self_eq_true]; rfl, by decide⟩)
          · exact .inr (.inl ⟨s, _, rfl, by simp only [List.lookup, beq_self_eq_true]; rfl, by decide⟩)
      clear hs
      rintro ρ' ⟨hs, l, hll, hth, s_law_turn, s_law_thing, s_law_raised, s_law_at, s_law_fields_here, s_law_base, s_law_place, s_law_one, rfl⟩
      refine sSeq_cut (fun ρ' => ∃ (c : Cn) (t : D), Bag (B + 9000000) c ∧ ThOf 10 hs t ∧ ∃ (s_law_turn s_law_some s_law_raised s_law_at s_law_fields_here s_law_base s_law_place s_law_one : Sl), ρ' = [.sh (.scr ns), .ow c, s_law_turn, s_law_some, .sh t, s_law_raised, s_law_at, s_law_fields_here, s_law_base, s_law_place, s_law_one, .pl hs]) (fun N hN => ?_) ?_
      · simp_arith
        refine ⟨B + 9000000, c, 12, rfl, hB2.le (by omega), by decide, by decide, fun v c2 hB3 hv0 hv1 => ?_⟩
        simp_arith
        obtain ⟨t, et, htm⟩ : ∃ t, atI l v = some t ∧ t ∈ l := by
          obtain ⟨j, rfl⟩ := Int.eq_ofNat_of_zero_le hv0
          have hj : j < l.length := by omega
          exact ⟨l[j], atI_int (by omega) (by rw [Int.toNat_natCast, List.getElem?_eq_getElem hj]), List.getElem_mem hj⟩
        exact ⟨t, et, hN _ ⟨c2, t, hB3, hth t htm, _, _, _, _, _, _, _, _, rfl⟩⟩
      clear hB2 c
      rintro ρ' ⟨c, t, hB2, ht, s_law_turn, s_law_some, s_law_raised, s_law_at, s_law_fields_here, s_law_base, s_law_place, s_law_one, rfl⟩
      refine sSeq_cut (fun ρ' => ∃ a : Nat → Addr, ∃ (s_law_turn s_law_some s_law_at s_law_fields_here s_law_base s_law_place s_law_one : Sl), ρ' = [.sh (.scr ns), .ow c, s_law_turn, s_law_some, .sh t, .ow (.l (Es C_Wrong C_BadPair C_NoKind C_NotComplete C_Lonely C_TooMany C_Crowded C_Taken C_NotWaiting C_Full C_Broken C_Nothing C_NoText C_NoCommand a t)), s_law_at, s_law_fields_here, s_law_base, s_law_place, s_law_one, .pl hs]) (fun N hN => ?_) ?_
      · simp_arith
        refine ⟨t, rfl, fun a => ?_⟩
        simp_arith
        exact hN _ ⟨a, _, _, _, _, _, _, _, rfl⟩
      rintro ρ' ⟨a, s_law_turn, s_law_some, s_law_at, s_law_fields_here, s_law_base, s_law_place, s_law_one, rfl⟩
      obtain ⟨es, ees⟩ : ∃ es, es = Es C_Wrong C_BadPair C_NoKind C_NotComplete C_Lonely C_TooMany C_Crowded C_Taken C_NotWaiting C_Full C_Broken C_Nothing C_NoText C_NoCommand a t := ⟨_, rfl⟩
      rw [← ees]
      obtain ⟨Cs, eCs⟩ : ∃ Cs, Cs = Cls14 C_Wrong C_BadPair C_NoKind C_NotComplete C_Lonely C_TooMany C_Crowded C_Taken C_NotWaiting C_Full C_Broken C_Nothing C_NoText C_NoCommand := ⟨_, rfl⟩
      refine sSeq_cut (fun ρ' => ∃ (s_law_turn s_law_some s_law_at s_law_fields_here s_law_base s_law_place s_law_one : Sl), ρ' = [.sh (.scr ns), .ow c, s_law_turn, s_law_some, .sh t, .ow (.l es), s_law_at, s_law_fields_here, s_law_base, s_law_place, s_law_one, .pl hs]) (fun N hN => ?_) ?_
      · simp_arith [big]
        refine ⟨by decide, by decide, forL_rng (fun i ρ => ∃ (s_law_turn s_law_some s_law_at s_law_fields_here s_law_base s_law_place s_law_one : Sl), ρ = [.sh (.scr ns), .ow c, s_law_turn, s_law_some, .sh t, .ow (.l es), s_law_at, s_law_fields_here, s_law_base, s_law_place, s_law_one, .pl hs]) ⟨_, _, _, _, _, _, _, rfl⟩ ?_ ?_⟩
        · rintro ρ ⟨s_law_turn, s_law_some, s_law_at, s_law_fields_here, s_law_base, s_law_place, s_law_one, rfl⟩
          exact hN _ ⟨_, _, _, _, _, _, _, rfl⟩
        rintro j ρ N4 hj hN4 ⟨s_law_turn, s_law_some, s_law_at, s_law_fields_here, s_law_base, s_law_place, s_law_one, rfl⟩
        have hj14 : j < 14 := by simpa using hj
        obtain ⟨e, Cj, f, d, hj1, hj2, hj3⟩ : ∃ e Cj f d, es[j]? = some (.err e Cj f d) ∧ Cs[j]? = some Cj ∧ (ExcC K Cj ∧ PySem.W.kitOne K (.ref Cj) (.ref C_SuitError) = some true ∧ PySem.W.kitOne K (.ref Cj) (.type "ValueError") = some true) := by
          rw [ees, eCs]
          have hj2 : j = 0 ∨ j = 1 ∨ j = 2 ∨ j = 3 ∨ j = 4 ∨ j = 5 ∨ j = 6 ∨ j = 7 ∨ j = 8 ∨ j = 9 ∨ j = 10 ∨ j = 11 ∨ j = 12 ∨ j = 13 := by omega
          rcases hj2 with rfl | rfl | rfl | rfl | rfl | rfl | rfl | rfl | rfl | rfl | rfl | rfl | rfl | rfl
          · exact ⟨_, _, _, _, rfl, rfl, xk_Wrong, ki_Wrong_SuitError, ki_Wrong_ValueError⟩
          · exact ⟨_, _, _, _, rfl, rfl, xk_BadPair, ki_BadPair_SuitError, ki_BadPair_ValueError⟩
          · exact ⟨_, _, _, _, rfl, rfl, xk_NoKind, ki_NoKind_SuitError, ki_NoKind_ValueError⟩
          · exact ⟨_, _, _, _, rfl, rfl, xk_NotComplete, ki_NotComplete_SuitError, ki_NotComplete_ValueError⟩
          · exact ⟨_, _, _, _, rfl, rfl, xk_Lonely, ki_Lonely_SuitError, ki_Lonely_ValueError⟩
          · exact ⟨_, _, _, _, rfl, rfl, xk_TooMany, ki_TooMany_SuitError, ki_TooMany_ValueError⟩
          · exact ⟨_, _, _, _, rfl, rfl, xk_Crowded, ki_Crowded_SuitError, ki_Crowded_ValueError⟩
          · exact ⟨_, _, _, _, rfl, rfl, xk_Taken, ki_Taken_SuitError, ki_Taken_ValueError⟩
          · exact ⟨_, _, _, _, rfl, rfl, xk_NotWaiting, ki_NotWaiting_SuitError, ki_NotWaiting_ValueError⟩
          · exact ⟨_, _, _, _, rfl, rfl, xk_Full, ki_Full_SuitError, ki_Full_ValueError⟩
          · exact ⟨_, _, _, _, rfl, rfl, xk_Broken, ki_Broken_SuitError, ki_Broken_ValueError⟩
          · exact ⟨_, _, _, _, rfl, rfl, xk_Nothing, ki_Nothing_SuitError, ki_Nothing_ValueError⟩
          · exact ⟨_, _, _, _, rfl, rfl, xk_NoText, ki_NoText_SuitError, ki_NoText_ValueError⟩
          · exact ⟨_, _, _, _, rfl, rfl, xk_NoCommand, ki_NoCommand_SuitError, ki_NoCommand_ValueError⟩
        have hat : atI es (j : Int) = some (.err e Cj f d) := atI_int (by omega) (by rw [Int.toNat_natCast]; exact hj1)
        rw [show (0 : Int) + (j : Int) * 1 = (j : Nat) by omega]
        refine sSeq_cut (fun ρ' => ∃ (s_law_turn s_law_some s_law_fields_here s_law_base s_law_place s_law_one : Sl), ρ' = [.sh (.scr ns), .ow c, s_law_turn, s_law_some, .sh t, .ow (.l es), .sh (.int (j : Nat)), s_law_fields_here, s_law_base, s_law_place, s_law_one, .pl hs]) (fun N5 hN5 => ?_) ?_
        · refine sIf_go fun T hT hF => ?_
          simp_arith
          refine ⟨_, hat, e, Cj, f, d, rfl, .inl ⟨j, by rw [← eCs]; exact hj2, hj14, ?_⟩⟩
          simp_arith [big]
          refine ⟨by decide, by decide, lcL_rng (fun i acc ρ => acc = ((List.range i).map fun k => D.bl (decide (k = j))) ∧ ∃ (s_law_turn s_law_some s_law_fields_here s_law_base s_law_place s_law_one : Sl), ρ = [.sh (.scr ns), .ow c, s_law_turn, s_law_some, .sh t, .ow (.l es), .sh (.int (j : Nat)), s_law_fields_here, s_law_base, s_law_place, s_law_one, .pl hs]) ⟨rfl, _, _, _, _, _, _, rfl⟩ ?_ ?_⟩
          · rintro acc ρ ⟨rfl, s_law_turn, s_law_some, s_law_fields_here, s_law_base, s_law_place, s_law_one, rfl⟩
            simp_arith
            refine gEq_same17 (fit_bls17 _) ?_
            simp_arith
            exact hF _ (hN5 _ ⟨_, _, _, _, _, _, rfl⟩)
          · rintro k acc ρ N6 hk hN6 ⟨rfl, s_law_turn, s_law_some, s_law_fields_here, s_law_base, s_law_place, s_law_one, rfl⟩
            have hk14 : k < 14 := by simpa using hk
            simp_arith
            refine ⟨lt_size (by rw [List.length_map, List.length_range]; omega), hN6 _ _ ⟨?_, _, _, _, _, _, _, rfl⟩⟩
            rw [List.range_succ, List.map_append]
            have : decide (0 + (k : Int) * 1 = (j : Int)) = decide (k = j) := decide_eq_decide.mpr (by omega)
            rw [this]
            rfl
        rintro ρ' ⟨s_law_turn, s_law_some, s_law_fields_here, s_law_base, s_law_place, s_law_one, rfl⟩
        refine sIf_go fun T hT hF => ?_
        simp_arith
        refine ⟨_, hat, e, Cj, f, d, rfl, hj3.1, _, hj3.2.1, ?_⟩
        rw [if_neg (by simp)]
        refine ⟨_, hat, e, Cj, f, d, rfl, hj3.1, _, hj3.2.2, ?_⟩
        simp_arith
        refine hF _ ?_
        simp_arith
        exact hN4 _ ⟨_, _, _, _, _, _, _, rfl⟩
      rintro ρ' ⟨s_law_turn, s_law_some, s_law_at, s_law_fields_here, s_law_base, s_law_place, s_law_one, rfl⟩
      rw [ees]
      refine sSeq_cut (fun ρ' => ∃ (t : D) (a : Nat → Addr), ThOf 10 hs t ∧ ∃ (s_law_turn s_law_some s_law_at s_law_base s_law_place s_law_one : Sl), ρ' = [.sh (.scr ns), .ow c, s_law_turn, s_law_some, .sh t, .sh (.lst (Es C_Wrong C_BadPair C_NoKind C_NotComplete C_Lonely C_TooMany C_Crowded C_Taken C_NotWaiting C_Full C_Broken C_Nothing C_NoText C_NoCommand a t)), s_law_at, .ow (.l (List.replicate 11 t)), s_law_base, s_law_place, s_law_one, .pl hs]) (fun N hN => ?_) ?_
      · simp_arith
        refine ⟨a, t, rfl, ?_⟩
        simp_arith
        exact hN _ ⟨t, a, ht, _, _, _, _, _, _, rfl⟩
      clear ht ees eCs es Cs a t
      rintro ρ' ⟨t, a, ht, s_law_turn, s_law_some, s_law_at, s_law_base, s_law_place, s_law_one, rfl⟩
      refine sSeq_cut (fun ρ' => ∃ (t : D) (a : Nat → Addr), ThOf 10 hs t ∧ ∃ (s_law_turn s_law_some s_law_at s_law_fields_here s_law_base s_law_place s_law_one : Sl), ρ' = [.sh (.scr ns), .ow c, s_law_turn, s_law_some, .sh t, .sh (.lst (Es C_Wrong C_BadPair C_NoKind C_NotComplete C_Lonely C_TooMany C_Crowded C_Taken C_NotWaiting C_Full C_Broken C_Nothing C_NoText C_NoCommand a t)), s_law_at, s_law_fields_here, s_law_base, s_law_place, s_law_one, .pl hs]) (fun N hN => ?_) ?_
      · refine sIf_go fun T hT hF => ?_
        have ht' := ht
        obtain ⟨E, hE⟩ : ∃ E : List D, E = Es C_Wrong C_BadPair C_NoKind C_NotComplete C_Lonely C_TooMany C_Crowded C_Taken C_NotWaiting C_Full C_Broken C_Nothing C_NoText C_NoCommand a t := ⟨_, rfl⟩
        rw [← hE]
        rcases ht with ⟨ht1, ht2⟩ | ⟨p, ds, rfl, lp, hds⟩ | ⟨p, kvs, rfl, lp, hkv⟩
        · cases t
          case non =>
            simp_arith [List.replicate_succ, List.replicate_zero]
            refine lcL_ix (fun i acc ρ => acc = List.replicate i (D.bl true) ∧ ∃ (s_law_turn s_law_some s_law_at s_law_base s_law_place s_law_one : Sl), ρ = [.sh (.scr ns), .ow c, s_law_turn, s_law_some, .sh (.non), .sh (.lst E), s_law_at, .un, s_law_base, s_law_place, s_law_one, .pl hs]) ⟨rfl, _, _, _, _, _, _, rfl⟩ ?_ ?_
            · rintro acc ρ ⟨rfl, s_law_turn, s_law_some, s_law_at, s_law_base, s_law_place, s_law_one, rfl⟩
              simp_arith
              refine ⟨le_size (by decide), by decide, by decide, le_size (by decide), ?_⟩
              refine gEq_same17 (l := List.replicate 11 (.bl true)) (by simp [D.fit, D.fits, List.replicate_succ]) ?_
              simp_arith
              refine ⟨le_size (by decide), by decide, by decide, le_size (by decide), ?_⟩
              refine .inr (gEq_same17 (l := List.replicate 11 (.non)) (by simp [D.fit, D.fits, List.replicate_succ]) ?_)
              simp_arith
              subst hE
              exact hF _ (hN _ ⟨_, a, ht', _, _, _, _, _, _, _, rfl⟩)
            · rintro j d acc ρ N2 hd hN3 ⟨rfl, s_law_turn, s_law_some, s_law_at, s_law_base, s_law_place, s_law_one, rfl⟩
              obtain rfl : d = (.non) := by
                have := List.mem_of_getElem? hd
                simpa using this
              have hj : j < 11 := by
                have := (List.getElem?_eq_some_iff.mp hd).1
                simpa using this
              simp_arith
              refine ⟨lt_size (by rw [List.length_replicate]; omega), hN3 _ _ ⟨?_, _, _, _, _, _, _, rfl⟩⟩
              rw [List.replicate_succ']
          case bl z =>
            simp_arith [List.replicate_succ, List.replicate_zero]
            refine lcL_ix (fun i acc ρ => acc = List.replicate i (D.bl false) ∧ ∃ (s_law_turn s_law_some s_law_at s_law_base s_law_place s_law_one : Sl), ρ = [.sh (.scr ns), .ow c, s_law_turn, s_law_some, .sh (.bl z), .sh (.lst E), s_law_at, .un, s_law_base, s_law_place, s_law_one, .pl hs]) ⟨rfl, _, _, _, _, _, _, rfl⟩ ?_ ?_
            · rintro acc ρ ⟨rfl, s_law_turn, s_law_some, s_law_at, s_law_base, s_law_place, s_law_one, rfl⟩
              simp_arith
              refine ⟨le_size (by decide), by decide, by decide, le_size (by decide), ?_⟩
              refine gEq_same17 (l := List.replicate 11 (.bl false)) (by simp [D.fit, D.fits, List.replicate_succ]) ?_
              simp_arith
              refine ⟨le_size (by decide), by decide, by decide, le_size (by decide), ?_⟩
              refine .inr (gEq_same17 (l := List.replicate 11 (.bl z)) (by simp [D.fit, D.fits, List.replicate_succ]) ?_)
              simp_arith
              subst hE
              exact hF _ (hN _ ⟨_, a, ht', _, _, _, _, _, _, _, rfl⟩)
            · rintro j d acc ρ N2 hd hN3 ⟨rfl, s_law_turn, s_law_some, s_law_at, s_law_base, s_law_place, s_law_one, rfl⟩
              obtain rfl : d = (.bl z) := by
                have := List.mem_of_getElem? hd
                simpa using this
              have hj : j < 11 := by
                have := (List.getElem?_eq_some_iff.mp hd).1
                simpa using this
              simp_arith
              refine ⟨lt_size (by rw [List.length_replicate]; omega), hN3 _ _ ⟨?_, _, _, _, _, _, _, rfl⟩⟩
              rw [List.replicate_succ']
          case int z =>
            simp_arith [List.replicate_succ, List.replicate_zero]
            refine lcL_ix (fun i acc ρ => acc = List.replicate i (D.bl false) ∧ ∃ (s_law_turn s_law_some s_law_at s_law_base s_law_place s_law_one : Sl), ρ = [.sh (.scr ns), .ow c, s_law_turn, s_law_some, .sh (.int z), .sh (.lst E), s_law_at, .un, s_law_base, s_law_place, s_law_one, .pl hs]) ⟨rfl, _, _, _, _, _, _, rfl⟩ ?_ ?_
            · rintro acc ρ ⟨rfl, s_law_turn, s_law_some, s_law_at, s_law_base, s_law_place, s_law_one, rfl⟩
              simp_arith
              refine ⟨le_size (by decide), by decide, by decide, le_size (by decide), ?_⟩
              refine gEq_same17 (l := List.replicate 11 (.bl false)) (by simp [D.fit, D.fits, List.replicate_succ]) ?_
              simp_arith
              refine ⟨le_size (by decide), by decide, by decide, le_size (by decide), ?_⟩
              refine .inr (gEq_same17 (l := List.replicate 11 (.int z)) (by simp [D.fit, D.fits, List.replicate_succ]) ?_)
              simp_arith
              subst hE
              exact hF _ (hN _ ⟨_, a, ht', _, _, _, _, _, _, _, rfl⟩)
            · rintro j d acc ρ N2 hd hN3 ⟨rfl, s_law_turn, s_law_some, s_law_at, s_law_base, s_law_place, s_law_one, rfl⟩
              obtain rfl : d = (.int z) := by
                have := List.mem_of_getElem? hd
                simpa using this
              have hj : j < 11 := by
                have := (List.getElem?_eq_some_iff.mp hd).1
                simpa using this
              simp_arith
              refine ⟨lt_size (by rw [List.length_replicate]; omega), hN3 _ _ ⟨?_, _, _, _, _, _, _, rfl⟩⟩
              rw [List.replicate_succ']
          case str z =>
            simp_arith [List.replicate_succ, List.replicate_zero]
            refine lcL_ix (fun i acc ρ => acc = List.replicate i (D.bl false) ∧ ∃ (s_law_turn s_law_some s_law_at s_law_base s_law_place s_law_one : Sl), ρ = [.sh (.scr ns), .ow c, s_law_turn, s_law_some, .sh (.str z), .sh (.lst E), s_law_at, .un, s_law_base, s_law_place, s_law_one, .pl hs]) ⟨rfl, _, _, _, _, _, _, rfl⟩ ?_ ?_
            · rintro acc ρ ⟨rfl, s_law_turn, s_law_some, s_law_at, s_law_base, s_law_place, s_law_one, rfl⟩
              simp_arith
              refine ⟨le_size (by decide), by decide, by decide, le_size (by decide), ?_⟩
              refine gEq_same17 (l := List.replicate 11 (.bl false)) (by simp [D.fit, D.fits, List.replicate_succ]) ?_
              simp_arith
              refine ⟨le_size (by decide), by decide, by decide, le_size (by decide), ?_⟩
              refine .inr (gEq_same17 (l := List.replicate 11 (.str z)) (by simp [D.fit, D.fits, List.replicate_succ]) ?_)
              simp_arith
              subst hE
              exact hF _ (hN _ ⟨_, a, ht', _, _, _, _, _, _, _, rfl⟩)
            · rintro j d acc ρ N2 hd hN3 ⟨rfl, s_law_turn, s_law_some, s_law_at, s_law_base, s_law_place, s_law_one, rfl⟩
              obtain rfl : d = (.str z) := by
                have := List.mem_of_getElem? hd
                simpa using this
              have hj : j < 11 := by
                have := (List.getElem?_eq_some_iff.mp hd).1
                simpa using this
              simp_arith
              refine ⟨lt_size (by rw [List.length_replicate]; omega), hN3 _ _ ⟨?_, _, _, _, _, _, _, rfl⟩⟩
              rw [List.replicate_succ']
          case tup z =>
            have hz : D.fit 59 (.tup z) = true := fit_up (by decide) ht1
            simp_arith [List.replicate_succ, List.replicate_zero]
            refine lcL_ix (fun i acc ρ => acc = List.replicate i (D.bl false) ∧ ∃ (s_law_turn s_law_some s_law_at s_law_base s_law_place s_law_one : Sl), ρ = [.sh (.scr ns), .ow c, s_law_turn, s_law_some, .sh (.tup z), .sh (.lst E), s_law_at, .un, s_law_base, s_law_place, s_law_one, .pl hs]) ⟨rfl, _, _, _, _, _, _, rfl⟩ ?_ ?_
            · rintro acc ρ ⟨rfl, s_law_turn, s_law_some, s_law_at, s_law_base, s_law_place, s_law_one, rfl⟩
              simp_arith
              refine ⟨le_size (by decide), by decide, by decide, le_size (by decide), ?_⟩
              refine gEq_same17 (l := List.replicate 11 (.bl false)) (by simp [D.fit, D.fits, List.replicate_succ]) ?_
              simp_arith
              refine ⟨le_size (by decide), by decide, by decide, le_size (by decide), ?_⟩
              refine .inr (gEq_same17 (l := List.replicate 11 (.tup z)) (by rw [D.fit, fits_all]; simp [hz, List.replicate_succ]) ?_)
              simp_arith
              subst hE
              exact hF _ (hN _ ⟨_, a, ht', _, _, _, _, _, _, _, rfl⟩)
            · rintro j d acc ρ N2 hd hN3 ⟨rfl, s_law_turn, s_law_some, s_law_at, s_law_base, s_law_place, s_law_one, rfl⟩
              obtain rfl : d = (.tup z) := by
                have := List.mem_of_getElem? hd
                simpa using this
              have hj : j < 11 := by
                have := (List.getElem?_eq_some_iff.mp hd).1
                simpa using this
              simp_arith
              refine ⟨lt_size (by rw [List.length_replicate]; omega), hN3 _ _ ⟨?_, _, _, _, _, _, _, rfl⟩⟩
              rw [List.replicate_succ']
          case lst z => exact (ht2 z rfl).elim
          all_goals simp [D.fit] at ht1
        · simp_arith [List.replicate_succ, List.replicate_zero]
          refine lcL_ix (fun i acc ρ => acc = List.replicate i (D.bl false) ∧ ∃ (s_law_turn s_law_some s_law_at s_law_base s_law_place s_law_one : Sl), ρ = [.sh (.scr ns), .ow c, s_law_turn, s_law_some, .sh (.at p), .sh (.lst E), s_law_at, .un, s_law_base, s_law_place, s_law_one, .pl hs]) ⟨rfl, _, _, _, _, _, _, rfl⟩ ?_ ?_
          · rintro acc ρ ⟨rfl, s_law_turn, s_law_some, s_law_at, s_law_base, s_law_place, s_law_one, rfl⟩
            simp_arith [lp, Cn.dat]
            refine ⟨le_size (by decide), by decide, by decide, le_size (by decide), ?_⟩
            refine gEq_same17 (l := List.replicate 11 (.bl false)) (by simp [D.fit, D.fits, List.replicate_succ]) ?_
            simp_arith
            refine ⟨le_size (by decide), by decide, by decide, le_size (by decide), ?_⟩
            refine .inl ⟨List.replicate 11 p, rfl, rfl, ?_⟩
            simp_arith
            subst hE
            exact hF _ (hN _ ⟨_, a, ht', _, _, _, _, _, _, _, rfl⟩)
          · rintro j d acc ρ N2 hd hN3 ⟨rfl, s_law_turn, s_law_some, s_law_at, s_law_base, s_law_place, s_law_one, rfl⟩
            obtain rfl : d = (.at p) := by
              have := List.mem_of_getElem? hd
              simpa using this
            have hj : j < 11 := by
              have := (List.getElem?_eq_some_iff.mp hd).1
              simpa using this
            simp_arith [lp, Cn.dat]
            refine ⟨lt_size (by rw [List.length_replicate]; omega), hN3 _ _ ⟨?_, _, _, _, _, _, _, rfl⟩⟩
            rw [List.replicate_succ']
        · simp_arith [List.replicate_succ, List.replicate_zero]
          refine lcL_ix (fun i acc ρ => acc = List.replicate i (D.bl false) ∧ ∃ (s_law_turn s_law_some s_law_at s_law_base s_law_place s_law_one : Sl), ρ = [.sh (.scr ns), .ow c, s_law_turn, s_law_some, .sh (.at p), .sh (.lst E), s_law_at, .un, s_law_base, s_law_place, s_law_one, .pl hs]) ⟨rfl, _, _, _, _, _, _, rfl⟩ ?_ ?_
          · rintro acc ρ ⟨rfl, s_law_turn, s_law_some, s_law_at, s_law_base, s_law_place, s_law_one, rfl⟩
            simp_arith [lp, Cn.dat]
            refine ⟨le_size (by decide), by decide, by decide, le_size (by decide), ?_⟩
            refine gEq_same17 (l := List.replicate 11 (.bl false)) (by simp [D.fit, D.fits, List.replicate_succ]) ?_
            simp_arith
            refine ⟨le_size (by decide), by decide, by decide, le_size (by decide), ?_⟩
            refine .inl ⟨List.replicate 11 p, rfl, rfl, ?_⟩
            simp_arith
            subst hE
            exact hF _ (hN _ ⟨_, a, ht', _, _, _, _, _, _, _, rfl⟩)
          · rintro j d acc ρ N2 hd hN3 ⟨rfl, s_law_turn, s_law_some, s_law_at, s_law_base, s_law_place, s_law_one, rfl⟩
            obtain rfl : d = (.at p) := by
              have := List.mem_of_getElem? hd
              simpa using this
            have hj : j < 11 := by
              have := (List.getElem?_eq_some_iff.mp hd).1
              simpa using this
            simp_arith [lp, Cn.dat]
            refine ⟨lt_size (by rw [List.length_replicate]; omega), hN3 _ _ ⟨?_, _, _, _, _, _, _, rfl⟩⟩
            rw [List.replicate_succ']
      clear ht a t
      rintro ρ' ⟨t, a, ht, s_law_turn, s_law_some, s_law_at, s_law_fields_here, s_law_base, s_law_place, s_law_one, rfl⟩
      refine sSeq_cut (fun ρ' => ∃ (hs : Pile) (t : D) (a : Nat → Addr), ThOf 11 hs t ∧ ∃ (s_law_turn s_law_some s_law_at s_law_fields_here s_law_base s_law_place s_law_one : Sl), ρ' = [.sh (.scr ns), .ow c, s_law_turn, s_law_some, .sh t, .sh (.lst (Es C_Wrong C_BadPair C_NoKind C_NotComplete C_Lonely C_TooMany C_Crowded C_Taken C_NotWaiting C_Full C_Broken C_Nothing C_NoText C_NoCommand a t)), s_law_at, s_law_fields_here, s_law_base, s_law_place, s_law_one, .pl hs]) (fun N hN => ?_) ?_
      · refine sIf_go fun T hT hF => ?_
        rcases ht with ⟨ht1, ht2⟩ | ⟨p, ds, rfl, lp, hds⟩ | ⟨p, kvs, rfl, lp, hkv⟩
        · have ht' : ThOf 11 hs t := .inl ⟨ht1, ht2⟩
          cases t
          case lst z => exact (ht2 z rfl).elim
          all_goals first
            | (exfalso; simp [D.fit] at ht1; done)
            | (simp_arith
               exact hF _ (hN _ ⟨hs, _, a, ht', _, _, _, _, _, _, _, rfl⟩))
        · simp_arith [lp, Cn.dat]
          refine hT _ ?_
          simp_arith
          refine ⟨p, rfl, ⟨_, lp⟩, _, lp, lt_size (by omega), hN _ ⟨_, _, a, .inr (.inl ⟨p, _, rfl, lookup_plSet_eq _ lp, ?_⟩), _, _, _, _, _, _, _, rfl⟩⟩
          rw [List.length_append]
          exact Nat.add_le_add_right hds 1
        · simp_arith [lp, Cn.dat]
          exact hF _ (hN _ ⟨hs, _, a, .inr (.inr ⟨p, kvs, rfl, lp, Nat.le_succ_of_le hkv⟩), _, _, _, _, _, _, _, rfl⟩)
      clear ht hth a t hs
      rintro ρ' ⟨hs, t, a, ht, s_law_turn, s_law_some, s_law_at, s_law_fields_here, s_law_base, s_law_place, s_law_one, rfl⟩
      refine sSeq_cut (fun ρ' => ∃ (hs : Pile) (t : D) (a : Nat → Addr), ThOf 12 hs t ∧ ∃ (s_law_turn s_law_some s_law_at s_law_fields_here s_law_base s_law_place s_law_one : Sl), ρ' = [.sh (.scr ns), .ow c, s_law_turn, s_law_some, .sh t, .sh (.lst (Es C_Wrong C_BadPair C_NoKind C_NotComplete C_Lonely C_TooMany C_Crowded C_Taken C_NotWaiting C_Full C_Broken C_Nothing C_NoText C_NoCommand a t)), s_law_at, s_law_fields_here, s_law_base, s_law_place, s_law_one, .pl hs]) (fun N hN => ?_) ?_
      · refine sIf_go fun T hT hF => ?_
        rcases ht with ⟨ht1, ht2⟩ | ⟨p, ds, rfl, lp, hds⟩ | ⟨p, kvs, rfl, lp, hkv⟩
        · have ht' : ThOf 12 hs t := .inl ⟨ht1, ht2⟩
          cases t
          case lst z => exact (ht2 z rfl).elim
          all_goals first
            | (exfalso; simp [D.fit] at ht1; done)
            | (simp_arith
               exact hF _ (hN _ ⟨hs, _, a, ht', _, _, _, _, _, _, _, rfl⟩))
        · simp_arith [lp, Cn.dat]
          exact hF _ (hN _ ⟨hs, _, a, .inr (.inl ⟨p, ds, rfl, lp, Nat.le_succ_of_le hds⟩), _, _, _, _, _, _, _, rfl⟩)
        · simp_arith [lp, Cn.dat]
          refine hT _ ?_
          simp_arith
          refine ⟨p, rfl, _, lp, _, rfl, lt_size (by omega), hN _ ⟨_, _, a, .inr (.inr ⟨p, _, rfl, lookup_plSet_eq _ lp, ?_⟩), _, _, _, _, _, _, _, rfl⟩⟩
          have := kPut_le17 (kvs := kvs) (k := Sum.inr (Str.ofString "b")) (v := D.int 7)
          omega
      clear ht a t hs
      rintro ρ' ⟨hs, t, a, ht, s_law_turn, s_law_some, s_law_at, s_law_fields_here, s_law_base, s_law_place, s_law_one, rfl⟩
      refine sIf_go fun T hT hF => ?_
      simp_arith
      refine ⟨a, t, rfl, ?_⟩
      simp_arith
      refine ⟨le_size (by decide), by decide, by decide, le_size (by decide), ?_⟩
      have key : ∀ Q : Rv → Prop, Q (.v (.bl false)) → gNeS (.lst (List.replicate 11 t)) (.lst (List.replicate 11 t)) Q := fun Q q => by
        rcases ht with ⟨ht1, ht2⟩ | ⟨p, ds, rfl, lp, hds⟩ | ⟨p, kvs, rfl, lp, hkv⟩
        · refine .inr (gEq_same17 ?_ q)
          rw [D.fit, fits_all, List.all_eq_true]
          intro x hx
          rw [(List.mem_replicate.mp hx).2]
          exact fit_up (by decide) ht1
        · exact .inl ⟨List.replicate 11 p, by rw [List.map_replicate], by rw [List.map_replicate], q⟩
        · exact .inl ⟨List.replicate 11 p, by rw [List.map_replicate], by rw [List.map_replicate], q⟩
      refine key _ ?_
      simp_arith
      refine hF _ ?_
      simp_arith
      exact hN2' c hs _ (hB2.le (by omega)) ⟨_, _, _, _, _, _, _, _, _, rfl⟩
    rintro ρ' ⟨c, hs, s_law_turn, s_law_some, s_law_thing, s_law_raised, s_law_at, s_law_fields_here, s_law_base, s_law_place, s_law_one, rfl⟩
    simp_arith
    refine ⟨by decide, fun e0 e1 => ⟨by decide, fun e2 => ⟨le_size (by decide), ?_⟩⟩⟩
    refine forL_ix (fun i ρ => ∃ (s_law_turn s_law_some s_law_thing s_law_raised s_law_at s_law_fields_here s_law_base s_law_place s_law_one : Sl), ρ = [.sh (.scr ns), .ow c, s_law_turn, s_law_some, s_law_thing, s_law_raised, s_law_at, s_law_fields_here, s_law_base, s_law_place, s_law_one, .pl hs]) ⟨_, _, _, _, _, _, _, _, _, rfl⟩ ?_ ?_
    · rintro ρ ⟨s_law_turn, s_law_some, s_law_thing, s_law_raised, s_law_at, s_law_fields_here, s_law_base, s_law_place, s_law_one, rfl⟩
      simp_arith
      exact h _
    · rintro i d ρ N2 hd hN2 ⟨s_law_turn, s_law_some, s_law_thing, s_law_raised, s_law_at, s_law_fields_here, s_law_base, s_law_place, s_law_one, rfl⟩
      obtain ⟨e, rfl⟩ : ∃ e, d = .err e C_SuitError Str.empty .non := by
        have hm := List.mem_of_getElem? hd
        simp only [List.mem_cons, List.not_mem_nil, or_false] at hm
        rcases hm with rfl | rfl | rfl <;> exact ⟨_, rfl⟩
      refine sIf_go fun T hT hF => ?_
      simp_arith
      refine ⟨e, C_SuitError, _, _, rfl, xk_SuitError, _, ki_SuitError_ValueError, ?_⟩
      simp_arith
      refine ⟨e, C_SuitError, _, _, rfl, .inr ⟨rfl, ?_⟩⟩
      simp_arith
      refine ⟨List.replicate 14 false, rfl, ?_⟩
      simp_arith
      show T false _
      refine hF _ ?_
      simp_arith
      exact hN2 _ ⟨_, _, _, _, _, _, _, _, _, rfl⟩
end

theorem all_mk {l : PySem.W.OpenLaw} {w : World} {K : PySem.W.Frag} {h : Heap} {mg : Str → Option Value} {fa : Addr} (X : K.In h) (G : h.Ns mainGlobals mg) (hfa : mg "law" = some (.ref fa))
    {C_TooMany C_Lonely C_NotComplete C_NoKind C_BadPair C_Wrong C_Broken C_Full C_NotWaiting C_Taken C_Crowded C_NoCommand C_NoText C_Nothing C_SuitError : Addr}
    {f0 f1 f2 f3 f4 f5 : Addr} {od0 an0 od1 an1 od2 an2 od3 an3 od4 an4 od5 an5 : Option Addr} {sl0 sl1 sl2 sl3 sl4 sl5 : Array (Option Value)} {oc0 kV0 dc0 pm0 cd0 ct0 oc1 kV1 dc1 pm1 cd1 ct1 oc2 kV2 dc2 pm2 cd2 ct2 oc3 kV3 dc3 pm3 cd3 ct3 oc4 kV4 dc4 pm4 cd4 ct4 oc5 kV5 dc5 pm5 cd5 ct5 : Value}
    {xnm_TooMany xqn_TooMany : Str} {xN_TooMany fx_TooMany xcd_TooMany xcc_TooMany : Addr} {xbs_TooMany xsu_TooMany : List Value} {xsn_TooMany : List Str} {xab_TooMany : Bool} {xco_TooMany : Option Bool} {xdd_TooMany xod_TooMany xan_TooMany xd2_TooMany xd3_TooMany : Option Addr} {xk0_TooMany xk1_TooMany xk2_TooMany xk3_TooMany xk5_TooMany : Option Value} {xoc_TooMany xdo_TooMany xpm_TooMany xct_TooMany xv2_TooMany xv3_TooMany : Value} {xsl_TooMany xs2_TooMany xs3_TooMany : Array (Option Value)} {xvs_TooMany : Array Value} {xfi_TooMany : Str} {xtk_TooMany : Tok}
    {xnm_Lonely xqn_Lonely : Str} {xN_Lonely fx_Lonely xcd_Lonely xcc_Lonely : Addr} {xbs_Lonely xsu_Lonely : List Value} {xsn_Lonely : List Str} {xab_Lonely : Bool} {xco_Lonely : Option Bool} {xdd_Lonely xod_Lonely xan_Lonely xd2_Lonely xd3_Lonely : Option Addr} {xk0_Lonely xk1_Lonely xk2_Lonely xk3_Lonely xk5_Lonely : Option Value} {xoc_Lonely xdo_Lonely xpm_Lonely xct_Lonely xv2_Lonely xv3_Lonely : Value} {xsl_Lonely xs2_Lonely xs3_Lonely : Array (Option Value)} {xvs_Lonely : Array Value} {xfi_Lonely : Str} {xtk_Lonely : Tok}
    {xnm_NotComplete xqn_NotComplete : Str} {xN_NotComplete fx_NotComplete xcd_NotComplete xcc_NotComplete : Addr} {xbs_NotComplete xsu_NotComplete : List Value} {xsn_NotComplete : List Str} {xab_NotComplete : Bool} {xco_NotComplete : Option Bool} {xdd_NotComplete xod_NotComplete xan_NotComplete xd2_NotComplete xd3_NotComplete : Option Addr} {xk0_NotComplete xk1_NotComplete xk2_NotComplete xk3_NotComplete xk5_NotComplete : Option Value} {xoc_NotComplete xdo_NotComplete xpm_NotComplete xct_NotComplete xv2_NotComplete xv3_NotComplete : Value} {xsl_NotComplete xs2_NotComplete xs3_NotComplete : Array (Option Value)} {xvs_NotComplete : Array Value} {xfi_NotComplete : Str} {xtk_NotComplete : Tok}
    {xnm_NoKind xqn_NoKind : Str} {xN_NoKind fx_NoKind xcd_NoKind xcc_NoKind : Addr} {xbs_NoKind xsu_NoKind : List Value} {xsn_NoKind : List Str} {xab_NoKind : Bool} {xco_NoKind : Option Bool} {xdd_NoKind xod_NoKind xan_NoKind xd2_NoKind xd3_NoKind : Option Addr} {xk0_NoKind xk1_NoKind xk2_NoKind xk3_NoKind xk5_NoKind : Option Value} {xoc_NoKind xdo_NoKind xpm_NoKind xct_NoKind xv2_NoKind xv3_NoKind : Value} {xsl_NoKind xs2_NoKind xs3_NoKind : Array (Option Value)} {xvs_NoKind : Array Value} {xfi_NoKind : Str} {xtk_NoKind : Tok}
    {xnm_BadPair xqn_BadPair : Str} {xN_BadPair fx_BadPair xcd_BadPair xcc_BadPair : Addr} {xbs_BadPair xsu_BadPair : List Value} {xsn_BadPair : List Str} {xab_BadPair : Bool} {xco_BadPair : Option Bool} {xdd_BadPair xod_BadPair xan_BadPair xd2_BadPair xd3_BadPair : Option Addr} {xk0_BadPair xk1_BadPair xk2_BadPair xk3_BadPair xk5_BadPair : Option Value} {xoc_BadPair xdo_BadPair xpm_BadPair xct_BadPair xv2_BadPair xv3_BadPair : Value} {xsl_BadPair xs2_BadPair xs3_BadPair : Array (Option Value)} {xvs_BadPair : Array Value} {xfi_BadPair : Str} {xtk_BadPair : Tok}
    {xnm_Wrong xqn_Wrong : Str} {xN_Wrong fx_Wrong xcd_Wrong xcc_Wrong : Addr} {xbs_Wrong xsu_Wrong : List Value} {xsn_Wrong : List Str} {xab_Wrong : Bool} {xco_Wrong : Option Bool} {xdd_Wrong xod_Wrong xan_Wrong xd2_Wrong xd3_Wrong : Option Addr} {xk0_Wrong xk1_Wrong xk2_Wrong xk3_Wrong xk5_Wrong : Option Value} {xoc_Wrong xdo_Wrong xpm_Wrong xct_Wrong xv2_Wrong xv3_Wrong : Value} {xsl_Wrong xs2_Wrong xs3_Wrong : Array (Option Value)} {xvs_Wrong : Array Value} {xfi_Wrong : Str} {xtk_Wrong : Tok}
    {xnm_Broken xqn_Broken : Str} {xN_Broken fx_Broken xcd_Broken xcc_Broken : Addr} {xbs_Broken xsu_Broken : List Value} {xsn_Broken : List Str} {xab_Broken : Bool} {xco_Broken : Option Bool} {xdd_Broken xod_Broken xan_Broken xd2_Broken xd3_Broken : Option Addr} {xk0_Broken xk1_Broken xk2_Broken xk3_Broken xk5_Broken : Option Value} {xoc_Broken xdo_Broken xpm_Broken xct_Broken xv2_Broken xv3_Broken : Value} {xsl_Broken xs2_Broken xs3_Broken : Array (Option Value)} {xvs_Broken : Array Value} {xfi_Broken : Str} {xtk_Broken : Tok}
    {xnm_Full xqn_Full : Str} {xN_Full fx_Full xcd_Full xcc_Full : Addr} {xbs_Full xsu_Full : List Value} {xsn_Full : List Str} {xab_Full : Bool} {xco_Full : Option Bool} {xdd_Full xod_Full xan_Full xd2_Full xd3_Full : Option Addr} {xk0_Full xk1_Full xk2_Full xk3_Full xk5_Full : Option Value} {xoc_Full xdo_Full xpm_Full xct_Full xv2_Full xv3_Full : Value} {xsl_Full xs2_Full xs3_Full : Array (Option Value)} {xvs_Full : Array Value} {xfi_Full : Str} {xtk_Full : Tok}
    {xnm_NotWaiting xqn_NotWaiting : Str} {xN_NotWaiting fx_NotWaiting xcd_NotWaiting xcc_NotWaiting : Addr} {xbs_NotWaiting xsu_NotWaiting : List Value} {xsn_NotWaiting : List Str} {xab_NotWaiting : Bool} {xco_NotWaiting : Option Bool} {xdd_NotWaiting xod_NotWaiting xan_NotWaiting xd2_NotWaiting xd3_NotWaiting : Option Addr} {xk0_NotWaiting xk1_NotWaiting xk2_NotWaiting xk3_NotWaiting xk5_NotWaiting : Option Value} {xoc_NotWaiting xdo_NotWaiting xpm_NotWaiting xct_NotWaiting xv2_NotWaiting xv3_NotWaiting : Value} {xsl_NotWaiting xs2_NotWaiting xs3_NotWaiting : Array (Option Value)} {xvs_NotWaiting : Array Value} {xfi_NotWaiting : Str} {xtk_NotWaiting : Tok}
    {xnm_Taken xqn_Taken : Str} {xN_Taken fx_Taken xcd_Taken xcc_Taken : Addr} {xbs_Taken xsu_Taken : List Value} {xsn_Taken : List Str} {xab_Taken : Bool} {xco_Taken : Option Bool} {xdd_Taken xod_Taken xan_Taken xd2_Taken xd3_Taken : Option Addr} {xk0_Taken xk1_Taken xk2_Taken xk3_Taken xk5_Taken : Option Value} {xoc_Taken xdo_Taken xpm_Taken xct_Taken xv2_Taken xv3_Taken : Value} {xsl_Taken xs2_Taken xs3_Taken : Array (Option Value)} {xvs_Taken : Array Value} {xfi_Taken : Str} {xtk_Taken : Tok}
    {xnm_Crowded xqn_Crowded : Str} {xN_Crowded fx_Crowded xcd_Crowded xcc_Crowded : Addr} {xbs_Crowded xsu_Crowded : List Value} {xsn_Crowded : List Str} {xab_Crowded : Bool} {xco_Crowded : Option Bool} {xdd_Crowded xod_Crowded xan_Crowded xd2_Crowded xd3_Crowded : Option Addr} {xk0_Crowded xk1_Crowded xk2_Crowded xk3_Crowded xk5_Crowded : Option Value} {xoc_Crowded xdo_Crowded xpm_Crowded xct_Crowded xv2_Crowded xv3_Crowded : Value} {xsl_Crowded xs2_Crowded xs3_Crowded : Array (Option Value)} {xvs_Crowded : Array Value} {xfi_Crowded : Str} {xtk_Crowded : Tok}
    {xnm_NoCommand xqn_NoCommand : Str} {xN_NoCommand fx_NoCommand xcd_NoCommand xcc_NoCommand : Addr} {xbs_NoCommand xsu_NoCommand : List Value} {xsn_NoCommand : List Str} {xab_NoCommand : Bool} {xco_NoCommand : Option Bool} {xdd_NoCommand xod_NoCommand xan_NoCommand xd2_NoCommand xd3_NoCommand : Option Addr} {xk0_NoCommand xk1_NoCommand xk2_NoCommand xk3_NoCommand xk5_NoCommand : Option Value} {xoc_NoCommand xdo_NoCommand xpm_NoCommand xct_NoCommand xv2_NoCommand xv3_NoCommand : Value} {xsl_NoCommand xs2_NoCommand xs3_NoCommand : Array (Option Value)} {xvs_NoCommand : Array Value} {xfi_NoCommand : Str} {xtk_NoCommand : Tok}
    {xnm_NoText xqn_NoText : Str} {xN_NoText fx_NoText xcd_NoText xcc_NoText : Addr} {xbs_NoText xsu_NoText : List Value} {xsn_NoText : List Str} {xab_NoText : Bool} {xco_NoText : Option Bool} {xdd_NoText xod_NoText xan_NoText xd2_NoText xd3_NoText : Option Addr} {xk0_NoText xk1_NoText xk2_NoText xk3_NoText xk5_NoText : Option Value} {xoc_NoText xdo_NoText xpm_NoText xct_NoText xv2_NoText xv3_NoText : Value} {xsl_NoText xs2_NoText xs3_NoText : Array (Option Value)} {xvs_NoText : Array Value} {xfi_NoText : Str} {xtk_NoText : Tok}
    {xnm_Nothing xqn_Nothing : Str} {xN_Nothing fx_Nothing xcd_Nothing xcc_Nothing : Addr} {xbs_Nothing xsu_Nothing : List Value} {xsn_Nothing : List Str} {xab_Nothing : Bool} {xco_Nothing : Option Bool} {xdd_Nothing xod_Nothing xan_Nothing xd2_Nothing xd3_Nothing : Option Addr} {xk0_Nothing xk1_Nothing xk2_Nothing xk3_Nothing xk5_Nothing : Option Value} {xoc_Nothing xdo_Nothing xpm_Nothing xct_Nothing xv2_Nothing xv3_Nothing : Value} {xsl_Nothing xs2_Nothing xs3_Nothing : Array (Option Value)} {xvs_Nothing : Array Value} {xfi_Nothing : Str} {xtk_Nothing : Tok}
    (gc_TooMany : PySem.W.nsIn K mainGlobals "TooMany" = some (some (.ref C_TooMany)))
    (gc_Lonely : PySem.W.nsIn K mainGlobals "Lonely" = some (some (.ref C_Lonely)))
    (gc_NotComplete : PySem.W.nsIn K mainGlobals "NotComplete" = some (some (.ref C_NotComplete)))
    (gc_NoKind : PySem.W.nsIn K mainGlobals "NoKind" = some (some (.ref C_NoKind)))
    (gc_BadPair : PySem.W.nsIn K mainGlobals "BadPair" = some (some (.ref C_BadPair)))
    (gc_Wrong : PySem.W.nsIn K mainGlobals "Wrong" = some (some (.ref C_Wrong)))
    (gc_Broken : PySem.W.nsIn K mainGlobals "Broken" = some (some (.ref C_Broken)))
    (gc_Full : PySem.W.nsIn K mainGlobals "Full" = some (some (.ref C_Full)))
    (gc_NotWaiting : PySem.W.nsIn K mainGlobals "NotWaiting" = some (some (.ref C_NotWaiting)))
    (gc_Taken : PySem.W.nsIn K mainGlobals "Taken" = some (some (.ref C_Taken)))
    (gc_Crowded : PySem.W.nsIn K mainGlobals "Crowded" = some (some (.ref C_Crowded)))
    (gc_NoCommand : PySem.W.nsIn K mainGlobals "NoCommand" = some (some (.ref C_NoCommand)))
    (gc_NoText : PySem.W.nsIn K mainGlobals "NoText" = some (some (.ref C_NoText)))
    (gc_Nothing : PySem.W.nsIn K mainGlobals "Nothing" = some (some (.ref C_Nothing)))
    (gc_SuitError : PySem.W.nsIn K mainGlobals "SuitError" = some (some (.ref C_SuitError)))
    (xhg_Wrong : PySem.W.findIn K (.ref C_Wrong) "__getattribute__" = some (some (.builtin "BaseException.__getattribute__")))
    (xhk_Wrong : PySem.W.findIn K (.ref C_Wrong) "__getattr__" = some none)
    (xhs_Wrong : PySem.W.subIn K (.ref C_Wrong) (.type "BaseException") = some true)
    (xhd_Wrong : PySem.W.hasDictIn K C_Wrong = true)
    (xha_Wrong : PySem.W.findIn K (.ref C_Wrong) "__class__" = some (some (.builtin "object.__class__")))
    (xhn : PySem.W.specialIn K (.builtin "object.__class__") "__get__" = some (some (.builtin "getset_descriptor.__get__")))
    (xht : PySem.W.takesIn K (.builtin "object.__class__") = some true)
    (xhm_Wrong : PySem.W.mroIn K C_Wrong (.type "object") = some true)
    (xhg_BadPair : PySem.W.findIn K (.ref C_BadPair) "__getattribute__" = some (some (.builtin "BaseException.__getattribute__")))
    (xhk_BadPair : PySem.W.findIn K (.ref C_BadPair) "__getattr__" = some none)
    (xhs_BadPair : PySem.W.subIn K (.ref C_BadPair) (.type "BaseException") = some true)
    (xhd_BadPair : PySem.W.hasDictIn K C_BadPair = true)
    (xha_BadPair : PySem.W.findIn K (.ref C_BadPair) "__class__" = some (some (.builtin "object.__class__")))
    (xhm_BadPair : PySem.W.mroIn K C_BadPair (.type "object") = some true)
    (xhg_NoKind : PySem.W.findIn K (.ref C_NoKind) "__getattribute__" = some (some (.builtin "BaseException.__getattribute__")))
    (xhk_NoKind : PySem.W.findIn K (.ref C_NoKind) "__getattr__" = some none)
    (xhs_NoKind : PySem.W.subIn K (.ref C_NoKind) (.type "BaseException") = some true)
    (xhd_NoKind : PySem.W.hasDictIn K C_NoKind = true)
    (xha_NoKind : PySem.W.findIn K (.ref C_NoKind) "__class__" = some (some (.builtin "object.__class__")))
    (xhm_NoKind : PySem.W.mroIn K C_NoKind (.type "object") = some true)
    (xhg_NotComplete : PySem.W.findIn K (.ref C_NotComplete) "__getattribute__" = some (some (.builtin "BaseException.__getattribute__")))
    (xhk_NotComplete : PySem.W.findIn K (.ref C_NotComplete) "__getattr__" = some none)
    (xhs_NotComplete : PySem.W.subIn K (.ref C_NotComplete) (.type "BaseException") = some true)
    (xhd_NotComplete : PySem.W.hasDictIn K C_NotComplete = true)
    (xha_NotComplete : PySem.W.findIn K (.ref C_NotComplete) "__class__" = some (some (.builtin "object.__class__")))
    (xhm_NotComplete : PySem.W.mroIn K C_NotComplete (.type "object") = some true)
    (xhg_Lonely : PySem.W.findIn K (.ref C_Lonely) "__getattribute__" = some (some (.builtin "BaseException.__getattribute__")))
    (xhk_Lonely : PySem.W.findIn K (.ref C_Lonely) "__getattr__" = some none)
    (xhs_Lonely : PySem.W.subIn K (.ref C_Lonely) (.type "BaseException") = some true)
    (xhd_Lonely : PySem.W.hasDictIn K C_Lonely = true)
    (xha_Lonely : PySem.W.findIn K (.ref C_Lonely) "__class__" = some (some (.builtin "object.__class__")))
    (xhm_Lonely : PySem.W.mroIn K C_Lonely (.type "object") = some true)
    (xhg_TooMany : PySem.W.findIn K (.ref C_TooMany) "__getattribute__" = some (some (.builtin "BaseException.__getattribute__")))
    (xhk_TooMany : PySem.W.findIn K (.ref C_TooMany) "__getattr__" = some none)
    (xhs_TooMany : PySem.W.subIn K (.ref C_TooMany) (.type "BaseException") = some true)
    (xhd_TooMany : PySem.W.hasDictIn K C_TooMany = true)
    (xha_TooMany : PySem.W.findIn K (.ref C_TooMany) "__class__" = some (some (.builtin "object.__class__")))
    (xhm_TooMany : PySem.W.mroIn K C_TooMany (.type "object") = some true)
    (xhg_Crowded : PySem.W.findIn K (.ref C_Crowded) "__getattribute__" = some (some (.builtin "BaseException.__getattribute__")))
    (xhk_Crowded : PySem.W.findIn K (.ref C_Crowded) "__getattr__" = some none)
    (xhs_Crowded : PySem.W.subIn K (.ref C_Crowded) (.type "BaseException") = some true)
    (xhd_Crowded : PySem.W.hasDictIn K C_Crowded = true)
    (xha_Crowded : PySem.W.findIn K (.ref C_Crowded) "__class__" = some (some (.builtin "object.__class__")))
    (xhm_Crowded : PySem.W.mroIn K C_Crowded (.type "object") = some true)
    (xhg_Taken : PySem.W.findIn K (.ref C_Taken) "__getattribute__" = some (some (.builtin "BaseException.__getattribute__")))
    (xhk_Taken : PySem.W.findIn K (.ref C_Taken) "__getattr__" = some none)
    (xhs_Taken : PySem.W.subIn K (.ref C_Taken) (.type "BaseException") = some true)
    (xhd_Taken : PySem.W.hasDictIn K C_Taken = true)
    (xha_Taken : PySem.W.findIn K (.ref C_Taken) "__class__" = some (some (.builtin "object.__class__")))
    (xhm_Taken : PySem.W.mroIn K C_Taken (.type "object") = some true)
    (xhg_NotWaiting : PySem.W.findIn K (.ref C_NotWaiting) "__getattribute__" = some (some (.builtin "BaseException.__getattribute__")))
    (xhk_NotWaiting : PySem.W.findIn K (.ref C_NotWaiting) "__getattr__" = some none)
    (xhs_NotWaiting : PySem.W.subIn K (.ref C_NotWaiting) (.type "BaseException") = some true)
    (xhd_NotWaiting : PySem.W.hasDictIn K C_NotWaiting = true)
    (xha_NotWaiting : PySem.W.findIn K (.ref C_NotWaiting) "__class__" = some (some (.builtin "object.__class__")))
    (xhm_NotWaiting : PySem.W.mroIn K C_NotWaiting (.type "object") = some true)
    (xhg_Full : PySem.W.findIn K (.ref C_Full) "__getattribute__" = some (some (.builtin "BaseException.__getattribute__")))
    (xhk_Full : PySem.W.findIn K (.ref C_Full) "__getattr__" = some none)
    (xhs_Full : PySem.W.subIn K (.ref C_Full) (.type "BaseException") = some true)
    (xhd_Full : PySem.W.hasDictIn K C_Full = true)
    (xha_Full : PySem.W.findIn K (.ref C_Full) "__class__" = some (some (.builtin "object.__class__")))
    (xhm_Full : PySem.W.mroIn K C_Full (.type "object") = some true)
    (xhg_Broken : PySem.W.findIn K (.ref C_Broken) "__getattribute__" = some (some (.builtin "BaseException.__getattribute__")))
    (xhk_Broken : PySem.W.findIn K (.ref C_Broken) "__getattr__" = some none)
    (xhs_Broken : PySem.W.subIn K (.ref C_Broken) (.type "BaseException") = some true)
    (xhd_Broken : PySem.W.hasDictIn K C_Broken = true)
    (xha_Broken : PySem.W.findIn K (.ref C_Broken) "__class__" = some (some (.builtin "object.__class__")))
    (xhm_Broken : PySem.W.mroIn K C_Broken (.type "object") = some true)
    (xhg_Nothing : PySem.W.findIn K (.ref C_Nothing) "__getattribute__" = some (some (.builtin "BaseException.__getattribute__")))
    (xhk_Nothing : PySem.W.findIn K (.ref C_Nothing) "__getattr__" = some none)
    (xhs_Nothing : PySem.W.subIn K (.ref C_Nothing) (.type "BaseException") = some true)
    (xhd_Nothing : PySem.W.hasDictIn K C_Nothing = true)
    (xha_Nothing : PySem.W.findIn K (.ref C_Nothing) "__class__" = some (some (.builtin "object.__class__")))
    (xhm_Nothing : PySem.W.mroIn K C_Nothing (.type "object") = some true)
    (xhg_NoText : PySem.W.findIn K (.ref C_NoText) "__getattribute__" = some (some (.builtin "BaseException.__getattribute__")))
    (xhk_NoText : PySem.W.findIn K (.ref C_NoText) "__getattr__" = some none)
    (xhs_NoText : PySem.W.subIn K (.ref C_NoText) (.type "BaseException") = some true)
    (xhd_NoText : PySem.W.hasDictIn K C_NoText = true)
    (xha_NoText : PySem.W.findIn K (.ref C_NoText) "__class__" = some (some (.builtin "object.__class__")))
    (xhm_NoText : PySem.W.mroIn K C_NoText (.type "object") = some true)
    (xhg_NoCommand : PySem.W.findIn K (.ref C_NoCommand) "__getattribute__" = some (some (.builtin "BaseException.__getattribute__")))
    (xhk_NoCommand : PySem.W.findIn K (.ref C_NoCommand) "__getattr__" = some none)
    (xhs_NoCommand : PySem.W.subIn K (.ref C_NoCommand) (.type "BaseException") = some true)
    (xhd_NoCommand : PySem.W.hasDictIn K C_NoCommand = true)
    (xha_NoCommand : PySem.W.findIn K (.ref C_NoCommand) "__class__" = some (some (.builtin "object.__class__")))
    (xhm_NoCommand : PySem.W.mroIn K C_NoCommand (.type "object") = some true)
    (xhg_SuitError : PySem.W.findIn K (.ref C_SuitError) "__getattribute__" = some (some (.builtin "BaseException.__getattribute__")))
    (xhk_SuitError : PySem.W.findIn K (.ref C_SuitError) "__getattr__" = some none)
    (xhs_SuitError : PySem.W.subIn K (.ref C_SuitError) (.type "BaseException") = some true)
    (xhd_SuitError : PySem.W.hasDictIn K C_SuitError = true)
    (xha_SuitError : PySem.W.findIn K (.ref C_SuitError) "__class__" = some (some (.builtin "object.__class__")))
    (xhm_SuitError : PySem.W.mroIn K C_SuitError (.type "object") = some true)
    (xn_TooMany_limit : PySem.W.findIn K (.ref C_TooMany) "limit" = some none)
    (xn_Lonely_kind : PySem.W.findIn K (.ref C_Lonely) "kind" = some none)
    (xn_NotComplete_left : PySem.W.findIn K (.ref C_NotComplete) "left" = some none)
    (xn_NoKind_kind : PySem.W.findIn K (.ref C_NoKind) "kind" = some none)
    (xn_BadPair_at : PySem.W.findIn K (.ref C_BadPair) "at" = some none)
    (xn_Wrong_place : PySem.W.findIn K (.ref C_Wrong) "place" = some none)
    (xn_Broken_at : PySem.W.findIn K (.ref C_Broken) "at" = some none)
    (xn_Full_limit : PySem.W.findIn K (.ref C_Full) "limit" = some none)
    (xn_NotWaiting_name : PySem.W.findIn K (.ref C_NotWaiting) "name" = some none)
    (xn_Taken_name : PySem.W.findIn K (.ref C_Taken) "name" = some none)
    (xn_Crowded_members : PySem.W.findIn K (.ref C_Crowded) "members" = some none)
    (ki_Wrong_Wrong : PySem.W.kitOne K (.ref C_Wrong) (.ref C_Wrong) = some true)
    (ki_Wrong_BadPair : PySem.W.kitOne K (.ref C_Wrong) (.ref C_BadPair) = some false)
    (ki_Wrong_NoKind : PySem.W.kitOne K (.ref C_Wrong) (.ref C_NoKind) = some false)
    (ki_Wrong_NotComplete : PySem.W.kitOne K (.ref C_Wrong) (.ref C_NotComplete) = some false)
    (ki_Wrong_Lonely : PySem.W.kitOne K (.ref C_Wrong) (.ref C_Lonely) = some false)
    (ki_Wrong_TooMany : PySem.W.kitOne K (.ref C_Wrong) (.ref C_TooMany) = some false)
    (ki_Wrong_Crowded : PySem.W.kitOne K (.ref C_Wrong) (.ref C_Crowded) = some false)
    (ki_Wrong_Taken : PySem.W.kitOne K (.ref C_Wrong) (.ref C_Taken) = some false)
    (ki_Wrong_NotWaiting : PySem.W.kitOne K (.ref C_Wrong) (.ref C_NotWaiting) = some false)
    (ki_Wrong_Full : PySem.W.kitOne K (.ref C_Wrong) (.ref C_Full) = some false)
    (ki_Wrong_Broken : PySem.W.kitOne K (.ref C_Wrong) (.ref C_Broken) = some false)
    (ki_Wrong_Nothing : PySem.W.kitOne K (.ref C_Wrong) (.ref C_Nothing) = some false)
    (ki_Wrong_NoText : PySem.W.kitOne K (.ref C_Wrong) (.ref C_NoText) = some false)
    (ki_Wrong_NoCommand : PySem.W.kitOne K (.ref C_Wrong) (.ref C_NoCommand) = some false)
    (ki_BadPair_Wrong : PySem.W.kitOne K (.ref C_BadPair) (.ref C_Wrong) = some false)
    (ki_BadPair_BadPair : PySem.W.kitOne K (.ref C_BadPair) (.ref C_BadPair) = some true)
    (ki_BadPair_NoKind : PySem.W.kitOne K (.ref C_BadPair) (.ref C_NoKind) = some false)
    (ki_BadPair_NotComplete : PySem.W.kitOne K (.ref C_BadPair) (.ref C_NotComplete) = some false)
    (ki_BadPair_Lonely : PySem.W.kitOne K (.ref C_BadPair) (.ref C_Lonely) = some false)
    (ki_BadPair_TooMany : PySem.W.kitOne K (.ref C_BadPair) (.ref C_TooMany) = some false)
    (ki_BadPair_Crowded : PySem.W.kitOne K (.ref C_BadPair) (.ref C_Crowded) = some false)
    (ki_BadPair_Taken : PySem.W.kitOne K (.ref C_BadPair) (.ref C_Taken) = some false)
    (ki_BadPair_NotWaiting : PySem.W.kitOne K (.ref C_BadPair) (.ref C_NotWaiting) = some false)
    (ki_BadPair_Full : PySem.W.kitOne K (.ref C_BadPair) (.ref C_Full) = some false)
    (ki_BadPair_Broken : PySem.W.kitOne K (.ref C_BadPair) (.ref C_Broken) = some false)
    (ki_BadPair_Nothing : PySem.W.kitOne K (.ref C_BadPair) (.ref C_Nothing) = some false)
    (ki_BadPair_NoText : PySem.W.kitOne K (.ref C_BadPair) (.ref C_NoText) = some false)
    (ki_BadPair_NoCommand : PySem.W.kitOne K (.ref C_BadPair) (.ref C_NoCommand) = some false)
    (ki_NoKind_Wrong : PySem.W.kitOne K (.ref C_NoKind) (.ref C_Wrong) = some false)
    (ki_NoKind_BadPair : PySem.W.kitOne K (.ref C_NoKind) (.ref C_BadPair) = some false)
    (ki_NoKind_NoKind : PySem.W.kitOne K (.ref C_NoKind) (.ref C_NoKind) = some true)
    (ki_NoKind_NotComplete : PySem.W.kitOne K (.ref C_NoKind) (.ref C_NotComplete) = some false)
    (ki_NoKind_Lonely : PySem.W.kitOne K (.ref C_NoKind) (.ref C_Lonely) = some false)
    (ki_NoKind_TooMany : PySem.W.kitOne K (.ref C_NoKind) (.ref C_TooMany) = some false)
    (ki_NoKind_Crowded : PySem.W.kitOne K (.ref C_NoKind) (.ref C_Crowded) = some false)
    (ki_NoKind_Taken : PySem.W.kitOne K (.ref C_NoKind) (.ref C_Taken) = some false)
    (ki_NoKind_NotWaiting : PySem.W.kitOne K (.ref C_NoKind) (.ref C_NotWaiting) = some false)
    (ki_NoKind_Full : PySem.W.kitOne K (.ref C_NoKind) (.ref C_Full) = some false)
    (ki_NoKind_Broken : PySem.W.kitOne K (.ref C_NoKind) (.ref C_Broken) = some false)
    (ki_NoKind_Nothing : PySem.W.kitOne K (.ref C_NoKind) (.ref C_Nothing) = some false)
    (ki_NoKind_NoText : PySem.W.kitOne K (.ref C_NoKind) (.ref C_NoText) = some false)
    (ki_NoKind_NoCommand : PySem.W.kitOne K (.ref C_NoKind) (.ref C_NoCommand) = some false)
    (ki_NotComplete_Wrong : PySem.W.kitOne K (.ref C_NotComplete) (.ref C_Wrong) = some false)
    (ki_NotComplete_BadPair : PySem.W.kitOne K (.ref C_NotComplete) (.ref C_BadPair) = some false)
    (ki_NotComplete_NoKind : PySem.W.kitOne K (.ref C_NotComplete) (.ref C_NoKind) = some false)
    (ki_NotComplete_NotComplete : PySem.W.kitOne K (.ref C_NotComplete) (.ref C_NotComplete) = some true)
    (ki_NotComplete_Lonely : PySem.W.kitOne K (.ref C_NotComplete) (.ref C_Lonely) = some false)
    (ki_NotComplete_TooMany : PySem.W.kitOne K (.ref C_NotComplete) (.ref C_TooMany) = some false)
    (ki_NotComplete_Crowded : PySem.W.kitOne K (.ref C_NotComplete) (.ref C_Crowded) = some false)
    (ki_NotComplete_Taken : PySem.W.kitOne K (.ref C_NotComplete) (.ref C_Taken) = some false)
    (ki_NotComplete_NotWaiting : PySem.W.kitOne K (.ref C_NotComplete) (.ref C_NotWaiting) = some false)
    (ki_NotComplete_Full : PySem.W.kitOne K (.ref C_NotComplete) (.ref C_Full) = some false)
    (ki_NotComplete_Broken : PySem.W.kitOne K (.ref C_NotComplete) (.ref C_Broken) = some false)
    (ki_NotComplete_Nothing : PySem.W.kitOne K (.ref C_NotComplete) (.ref C_Nothing) = some false)
    (ki_NotComplete_NoText : PySem.W.kitOne K (.ref C_NotComplete) (.ref C_NoText) = some false)
    (ki_NotComplete_NoCommand : PySem.W.kitOne K (.ref C_NotComplete) (.ref C_NoCommand) = some false)
    (ki_Lonely_Wrong : PySem.W.kitOne K (.ref C_Lonely) (.ref C_Wrong) = some false)
    (ki_Lonely_BadPair : PySem.W.kitOne K (.ref C_Lonely) (.ref C_BadPair) = some false)
    (ki_Lonely_NoKind : PySem.W.kitOne K (.ref C_Lonely) (.ref C_NoKind) = some false)
    (ki_Lonely_NotComplete : PySem.W.kitOne K (.ref C_Lonely) (.ref C_NotComplete) = some false)
    (ki_Lonely_Lonely : PySem.W.kitOne K (.ref C_Lonely) (.ref C_Lonely) = some true)
    (ki_Lonely_TooMany : PySem.W.kitOne K (.ref C_Lonely) (.ref C_TooMany) = some false)
    (ki_Lonely_Crowded : PySem.W.kitOne K (.ref C_Lonely) (.ref C_Crowded) = some false)
    (ki_Lonely_Taken : PySem.W.kitOne K (.ref C_Lonely) (.ref C_Taken) = some false)
    (ki_Lonely_NotWaiting : PySem.W.kitOne K (.ref C_Lonely) (.ref C_NotWaiting) = some false)
    (ki_Lonely_Full : PySem.W.kitOne K (.ref C_Lonely) (.ref C_Full) = some false)
    (ki_Lonely_Broken : PySem.W.kitOne K (.ref C_Lonely) (.ref C_Broken) = some false)
    (ki_Lonely_Nothing : PySem.W.kitOne K (.ref C_Lonely) (.ref C_Nothing) = some false)
    (ki_Lonely_NoText : PySem.W.kitOne K (.ref C_Lonely) (.ref C_NoText) = some false)
    (ki_Lonely_NoCommand : PySem.W.kitOne K (.ref C_Lonely) (.ref C_NoCommand) = some false)
    (ki_TooMany_Wrong : PySem.W.kitOne K (.ref C_TooMany) (.ref C_Wrong) = some false)
    (ki_TooMany_BadPair : PySem.W.kitOne K (.ref C_TooMany) (.ref C_BadPair) = some false)
    (ki_TooMany_NoKind : PySem.W.kitOne K (.ref C_TooMany) (.ref C_NoKind) = some false)
    (ki_TooMany_NotComplete : PySem.W.kitOne K (.ref C_TooMany) (.ref C_NotComplete) = some false)
    (ki_TooMany_Lonely : PySem.W.kitOne K (.ref C_TooMany) (.ref C_Lonely) = some false)
    (ki_TooMany_TooMany : PySem.W.kitOne K (.ref C_TooMany) (.ref C_TooMany) = some true)
    (ki_TooMany_Crowded : PySem.W.kitOne K (.ref C_TooMany) (.ref C_Crowded) = some false)
    (ki_TooMany_Taken : PySem.W.kitOne K (.ref C_TooMany) (.ref C_Taken) = some false)
    (ki_TooMany_NotWaiting : PySem.W.kitOne K (.ref C_TooMany) (.ref C_NotWaiting) = some false)
    (ki_TooMany_Full : PySem.W.kitOne K (.ref C_TooMany) (.ref C_Full) = some false)
    (ki_TooMany_Broken : PySem.W.kitOne K (.ref C_TooMany) (.ref C_Broken) = some false)
    (ki_TooMany_Nothing : PySem.W.kitOne K (.ref C_TooMany) (.ref C_Nothing) = some false)
    (ki_TooMany_NoText : PySem.W.kitOne K (.ref C_TooMany) (.ref C_NoText) = some false)
    (ki_TooMany_NoCommand : PySem.W.kitOne K (.ref C_TooMany) (.ref C_NoCommand) = some false)
    (ki_Crowded_Wrong : PySem.W.kitOne K (.ref C_Crowded) (.ref C_Wrong) = some false)
    (ki_Crowded_BadPair : PySem.W.kitOne K (.ref C_Crowded) (.ref C_BadPair) = some false)
    (ki_Crowded_NoKind : PySem.W.kitOne K (.ref C_Crowded) (.ref C_NoKind) = some false)
    (ki_Crowded_NotComplete : PySem.W.kitOne K (.ref C_Crowded) (.ref C_NotComplete) = some false)
    (ki_Crowded_Lonely : PySem.W.kitOne K (.ref C_Crowded) (.ref C_Lonely) = some false)
    (ki_Crowded_TooMany : PySem.W.kitOne K (.ref C_Crowded) (.ref C_TooMany) = some false)
    (ki_Crowded_Crowded : PySem.W.kitOne K (.ref C_Crowded) (.ref C_Crowded) = some true)
    (ki_Crowded_Taken : PySem.W.kitOne K (.ref C_Crowded) (.ref C_Taken) = some false)
    (ki_Crowded_NotWaiting : PySem.W.kitOne K (.ref C_Crowded) (.ref C_NotWaiting) = some false)
    (ki_Crowded_Full : PySem.W.kitOne K (.ref C_Crowded) (.ref C_Full) = some false)
    (ki_Crowded_Broken : PySem.W.kitOne K (.ref C_Crowded) (.ref C_Broken) = some false)
    (ki_Crowded_Nothing : PySem.W.kitOne K (.ref C_Crowded) (.ref C_Nothing) = some false)
    (ki_Crowded_NoText : PySem.W.kitOne K (.ref C_Crowded) (.ref C_NoText) = some false)
    (ki_Crowded_NoCommand : PySem.W.kitOne K (.ref C_Crowded) (.ref C_NoCommand) = some false)
    (ki_Taken_Wrong : PySem.W.kitOne K (.ref C_Taken) (.ref C_Wrong) = some false)
    (ki_Taken_BadPair : PySem.W.kitOne K (.ref C_Taken) (.ref C_BadPair) = some false)
    (ki_Taken_NoKind : PySem.W.kitOne K (.ref C_Taken) (.ref C_NoKind) = some false)
    (ki_Taken_NotComplete : PySem.W.kitOne K (.ref C_Taken) (.ref C_NotComplete) = some false)
    (ki_Taken_Lonely : PySem.W.kitOne K (.ref C_Taken) (.ref C_Lonely) = some false)
    (ki_Taken_TooMany : PySem.W.kitOne K (.ref C_Taken) (.ref C_TooMany) = some false)
    (ki_Taken_Crowded : PySem.W.kitOne K (.ref C_Taken) (.ref C_Crowded) = some false)
    (ki_Taken_Taken : PySem.W.kitOne K (.ref C_Taken) (.ref C_Taken) = some true)
    (ki_Taken_NotWaiting : PySem.W.kitOne K (.ref C_Taken) (.ref C_NotWaiting) = some false)
    (ki_Taken_Full : PySem.W.kitOne K (.ref C_Taken) (.ref C_Full) = some false)
    (ki_Taken_Broken : PySem.W.kitOne K (.ref C_Taken) (.ref C_Broken) = some false)
    (ki_Taken_Nothing : PySem.W.kitOne K (.ref C_Taken) (.ref C_Nothing) = some false)
    (ki_Taken_NoText : PySem.W.kitOne K (.ref C_Taken) (.ref C_NoText) = some false)
    (ki_Taken_NoCommand : PySem.W.kitOne K (.ref C_Taken) (.ref C_NoCommand) = some false)
    (ki_NotWaiting_Wrong : PySem.W.kitOne K (.ref C_NotWaiting) (.ref C_Wrong) = some false)
    (ki_NotWaiting_BadPair : PySem.W.kitOne K (.ref C_NotWaiting) (.ref C_BadPair) = some false)
    (ki_NotWaiting_NoKind : PySem.W.kitOne K (.ref C_NotWaiting) (.ref C_NoKind) = some false)
    (ki_NotWaiting_NotComplete : PySem.W.kitOne K (.ref C_NotWaiting) (.ref C_NotComplete) = some false)
    (ki_NotWaiting_Lonely : PySem.W.kitOne K (.ref C_NotWaiting) (.ref C_Lonely) = some false)
    (ki_NotWaiting_TooMany : PySem.W.kitOne K (.ref C_NotWaiting) (.ref C_TooMany) = some false)
    (ki_NotWaiting_Crowded : PySem.W.kitOne K (.ref C_NotWaiting) (.ref C_Crowded) = some false)
    (ki_NotWaiting_Taken : PySem.W.kitOne K (.ref C_NotWaiting) (.ref C_Taken) = some false)
    (ki_NotWaiting_NotWaiting : PySem.W.kitOne K (.ref C_NotWaiting) (.ref C_NotWaiting) = some true)
    (ki_NotWaiting_Full : PySem.W.kitOne K (.ref C_NotWaiting) (.ref C_Full) = some false)
    (ki_NotWaiting_Broken : PySem.W.kitOne K (.ref C_NotWaiting) (.ref C_Broken) = some false)
    (ki_NotWaiting_Nothing : PySem.W.kitOne K (.ref C_NotWaiting) (.ref C_Nothing) = some false)
    (ki_NotWaiting_NoText : PySem.W.kitOne K (.ref C_NotWaiting) (.ref C_NoText) = some false)
    (ki_NotWaiting_NoCommand : PySem.W.kitOne K (.ref C_NotWaiting) (.ref C_NoCommand) = some false)
    (ki_Full_Wrong : PySem.W.kitOne K (.ref C_Full) (.ref C_Wrong) = some false)
    (ki_Full_BadPair : PySem.W.kitOne K (.ref C_Full) (.ref C_BadPair) = some false)
    (ki_Full_NoKind : PySem.W.kitOne K (.ref C_Full) (.ref C_NoKind) = some false)
    (ki_Full_NotComplete : PySem.W.kitOne K (.ref C_Full) (.ref C_NotComplete) = some false)
    (ki_Full_Lonely : PySem.W.kitOne K (.ref C_Full) (.ref C_Lonely) = some false)
    (ki_Full_TooMany : PySem.W.kitOne K (.ref C_Full) (.ref C_TooMany) = some false)
    (ki_Full_Crowded : PySem.W.kitOne K (.ref C_Full) (.ref C_Crowded) = some false)
    (ki_Full_Taken : PySem.W.kitOne K (.ref C_Full) (.ref C_Taken) = some false)
    (ki_Full_NotWaiting : PySem.W.kitOne K (.ref C_Full) (.ref C_NotWaiting) = some false)
    (ki_Full_Full : PySem.W.kitOne K (.ref C_Full) (.ref C_Full) = some true)
    (ki_Full_Broken : PySem.W.kitOne K (.ref C_Full) (.ref C_Broken) = some false)
    (ki_Full_Nothing : PySem.W.kitOne K (.ref C_Full) (.ref C_Nothing) = some false)
    (ki_Full_NoText : PySem.W.kitOne K (.ref C_Full) (.ref C_NoText) = some false)
    (ki_Full_NoCommand : PySem.W.kitOne K (.ref C_Full) (.ref C_NoCommand) = some false)
    (ki_Broken_Wrong : PySem.W.kitOne K (.ref C_Broken) (.ref C_Wrong) = some false)
    (ki_Broken_BadPair : PySem.W.kitOne K (.ref C_Broken) (.ref C_BadPair) = some false)
    (ki_Broken_NoKind : PySem.W.kitOne K (.ref C_Broken) (.ref C_NoKind) = some false)
    (ki_Broken_NotComplete : PySem.W.kitOne K (.ref C_Broken) (.ref C_NotComplete) = some false)
    (ki_Broken_Lonely : PySem.W.kitOne K (.ref C_Broken) (.ref C_Lonely) = some false)
    (ki_Broken_TooMany : PySem.W.kitOne K (.ref C_Broken) (.ref C_TooMany) = some false)
    (ki_Broken_Crowded : PySem.W.kitOne K (.ref C_Broken) (.ref C_Crowded) = some false)
    (ki_Broken_Taken : PySem.W.kitOne K (.ref C_Broken) (.ref C_Taken) = some false)
    (ki_Broken_NotWaiting : PySem.W.kitOne K (.ref C_Broken) (.ref C_NotWaiting) = some false)
    (ki_Broken_Full : PySem.W.kitOne K (.ref C_Broken) (.ref C_Full) = some false)
    (ki_Broken_Broken : PySem.W.kitOne K (.ref C_Broken) (.ref C_Broken) = some true)
    (ki_Broken_Nothing : PySem.W.kitOne K (.ref C_Broken) (.ref C_Nothing) = some false)
    (ki_Broken_NoText : PySem.W.kitOne K (.ref C_Broken) (.ref C_NoText) = some false)
    (ki_Broken_NoCommand : PySem.W.kitOne K (.ref C_Broken) (.ref C_NoCommand) = some false)
    (ki_Nothing_Wrong : PySem.W.kitOne K (.ref C_Nothing) (.ref C_Wrong) = some false)
    (ki_Nothing_BadPair : PySem.W.kitOne K (.ref C_Nothing) (.ref C_BadPair) = some false)
    (ki_Nothing_NoKind : PySem.W.kitOne K (.ref C_Nothing) (.ref C_NoKind) = some false)
    (ki_Nothing_NotComplete : PySem.W.kitOne K (.ref C_Nothing) (.ref C_NotComplete) = some false)
    (ki_Nothing_Lonely : PySem.W.kitOne K (.ref C_Nothing) (.ref C_Lonely) = some false)
    (ki_Nothing_TooMany : PySem.W.kitOne K (.ref C_Nothing) (.ref C_TooMany) = some false)
    (ki_Nothing_Crowded : PySem.W.kitOne K (.ref C_Nothing) (.ref C_Crowded) = some false)
    (ki_Nothing_Taken : PySem.W.kitOne K (.ref C_Nothing) (.ref C_Taken) = some false)
    (ki_Nothing_NotWaiting : PySem.W.kitOne K (.ref C_Nothing) (.ref C_NotWaiting) = some false)
    (ki_Nothing_Full : PySem.W.kitOne K (.ref C_Nothing) (.ref C_Full) = some false)
    (ki_Nothing_Broken : PySem.W.kitOne K (.ref C_Nothing) (.ref C_Broken) = some false)
    (ki_Nothing_Nothing : PySem.W.kitOne K (.ref C_Nothing) (.ref C_Nothing) = some true)
    (ki_Nothing_NoText : PySem.W.kitOne K (.ref C_Nothing) (.ref C_NoText) = some false)
    (ki_Nothing_NoCommand : PySem.W.kitOne K (.ref C_Nothing) (.ref C_NoCommand) = some false)
    (ki_NoText_Wrong : PySem.W.kitOne K (.ref C_NoText) (.ref C_Wrong) = some false)
    (ki_NoText_BadPair : PySem.W.kitOne K (.ref C_NoText) (.ref C_BadPair) = some false)
    (ki_NoText_NoKind : PySem.W.kitOne K (.ref C_NoText) (.ref C_NoKind) = some false)
    (ki_NoText_NotComplete : PySem.W.kitOne K (.ref C_NoText) (.ref C_NotComplete) = some false)
    (ki_NoText_Lonely : PySem.W.kitOne K (.ref C_NoText) (.ref C_Lonely) = some false)
    (ki_NoText_TooMany : PySem.W.kitOne K (.ref C_NoText) (.ref C_TooMany) = some false)
    (ki_NoText_Crowded : PySem.W.kitOne K (.ref C_NoText) (.ref C_Crowded) = some false)
    (ki_NoText_Taken : PySem.W.kitOne K (.ref C_NoText) (.ref C_Taken) = some false)
    (ki_NoText_NotWaiting : PySem.W.kitOne K (.ref C_NoText) (.ref C_NotWaiting) = some false)
    (ki_NoText_Full : PySem.W.kitOne K (.ref C_NoText) (.ref C_Full) = some false)
    (ki_NoText_Broken : PySem.W.kitOne K (.ref C_NoText) (.ref C_Broken) = some false)
    (ki_NoText_Nothing : PySem.W.kitOne K (.ref C_NoText) (.ref C_Nothing) = some false)
    (ki_NoText_NoText : PySem.W.kitOne K (.ref C_NoText) (.ref C_NoText) = some true)
    (ki_NoText_NoCommand : PySem.W.kitOne K (.ref C_NoText) (.ref C_NoCommand) = some false)
    (ki_NoCommand_Wrong : PySem.W.kitOne K (.ref C_NoCommand) (.ref C_Wrong) = some false)
    (ki_NoCommand_BadPair : PySem.W.kitOne K (.ref C_NoCommand) (.ref C_BadPair) = some false)
    (ki_NoCommand_NoKind : PySem.W.kitOne K (.ref C_NoCommand) (.ref C_NoKind) = some false)
    (ki_NoCommand_NotComplete : PySem.W.kitOne K (.ref C_NoCommand) (.ref C_NotComplete) = some false)
    (ki_NoCommand_Lonely : PySem.W.kitOne K (.ref C_NoCommand) (.ref C_Lonely) = some false)
    (ki_NoCommand_TooMany : PySem.W.kitOne K (.ref C_NoCommand) (.ref C_TooMany) = some false)
    (ki_NoCommand_Crowded : PySem.W.kitOne K (.ref C_NoCommand) (.ref C_Crowded) = some false)
    (ki_NoCommand_Taken : PySem.W.kitOne K (.ref C_NoCommand) (.ref C_Taken) = some false)
    (ki_NoCommand_NotWaiting : PySem.W.kitOne K (.ref C_NoCommand) (.ref C_NotWaiting) = some false)
    (ki_NoCommand_Full : PySem.W.kitOne K (.ref C_NoCommand) (.ref C_Full) = some false)
    (ki_NoCommand_Broken : PySem.W.kitOne K (.ref C_NoCommand) (.ref C_Broken) = some false)
    (ki_NoCommand_Nothing : PySem.W.kitOne K (.ref C_NoCommand) (.ref C_Nothing) = some false)
    (ki_NoCommand_NoText : PySem.W.kitOne K (.ref C_NoCommand) (.ref C_NoText) = some false)
    (ki_NoCommand_NoCommand : PySem.W.kitOne K (.ref C_NoCommand) (.ref C_NoCommand) = some true)
    (ki_SuitError_Wrong : PySem.W.kitOne K (.ref C_SuitError) (.ref C_Wrong) = some false)
    (ki_SuitError_BadPair : PySem.W.kitOne K (.ref C_SuitError) (.ref C_BadPair) = some false)
    (ki_SuitError_NoKind : PySem.W.kitOne K (.ref C_SuitError) (.ref C_NoKind) = some false)
    (ki_SuitError_NotComplete : PySem.W.kitOne K (.ref C_SuitError) (.ref C_NotComplete) = some false)
    (ki_SuitError_Lonely : PySem.W.kitOne K (.ref C_SuitError) (.ref C_Lonely) = some false)
    (ki_SuitError_TooMany : PySem.W.kitOne K (.ref C_SuitError) (.ref C_TooMany) = some false)
    (ki_SuitError_Crowded : PySem.W.kitOne K (.ref C_SuitError) (.ref C_Crowded) = some false)
    (ki_SuitError_Taken : PySem.W.kitOne K (.ref C_SuitError) (.ref C_Taken) = some false)
    (ki_SuitError_NotWaiting : PySem.W.kitOne K (.ref C_SuitError) (.ref C_NotWaiting) = some false)
    (ki_SuitError_Full : PySem.W.kitOne K (.ref C_SuitError) (.ref C_Full) = some false)
    (ki_SuitError_Broken : PySem.W.kitOne K (.ref C_SuitError) (.ref C_Broken) = some false)
    (ki_SuitError_Nothing : PySem.W.kitOne K (.ref C_SuitError) (.ref C_Nothing) = some false)
    (ki_SuitError_NoText : PySem.W.kitOne K (.ref C_SuitError) (.ref C_NoText) = some false)
    (ki_SuitError_NoCommand : PySem.W.kitOne K (.ref C_SuitError) (.ref C_NoCommand) = some false)
    (ki_Wrong_SuitError : PySem.W.kitOne K (.ref C_Wrong) (.ref C_SuitError) = some true)
    (ki_Wrong_ValueError : PySem.W.kitOne K (.ref C_Wrong) (.type "ValueError") = some true)
    (ki_BadPair_SuitError : PySem.W.kitOne K (.ref C_BadPair) (.ref C_SuitError) = some true)
    (ki_BadPair_ValueError : PySem.W.kitOne K (.ref C_BadPair) (.type "ValueError") = some true)
    (ki_NoKind_SuitError : PySem.W.kitOne K (.ref C_NoKind) (.ref C_SuitError) = some true)
    (ki_NoKind_ValueError : PySem.W.kitOne K (.ref C_NoKind) (.type "ValueError") = some true)
    (ki_NotComplete_SuitError : PySem.W.kitOne K (.ref C_NotComplete) (.ref C_SuitError) = some true)
    (ki_NotComplete_ValueError : PySem.W.kitOne K (.ref C_NotComplete) (.type "ValueError") = some true)
    (ki_Lonely_SuitError : PySem.W.kitOne K (.ref C_Lonely) (.ref C_SuitError) = some true)
    (ki_Lonely_ValueError : PySem.W.kitOne K (.ref C_Lonely) (.type "ValueError") = some true)
    (ki_TooMany_SuitError : PySem.W.kitOne K (.ref C_TooMany) (.ref C_SuitError) = some true)
    (ki_TooMany_ValueError : PySem.W.kitOne K (.ref C_TooMany) (.type "ValueError") = some true)
    (ki_Crowded_SuitError : PySem.W.kitOne K (.ref C_Crowded) (.ref C_SuitError) = some true)
    (ki_Crowded_ValueError : PySem.W.kitOne K (.ref C_Crowded) (.type "ValueError") = some true)
    (ki_Taken_SuitError : PySem.W.kitOne K (.ref C_Taken) (.ref C_SuitError) = some true)
    (ki_Taken_ValueError : PySem.W.kitOne K (.ref C_Taken) (.type "ValueError") = some true)
    (ki_NotWaiting_SuitError : PySem.W.kitOne K (.ref C_NotWaiting) (.ref C_SuitError) = some true)
    (ki_NotWaiting_ValueError : PySem.W.kitOne K (.ref C_NotWaiting) (.type "ValueError") = some true)
    (ki_Full_SuitError : PySem.W.kitOne K (.ref C_Full) (.ref C_SuitError) = some true)
    (ki_Full_ValueError : PySem.W.kitOne K (.ref C_Full) (.type "ValueError") = some true)
    (ki_Broken_SuitError : PySem.W.kitOne K (.ref C_Broken) (.ref C_SuitError) = some true)
    (ki_Broken_ValueError : PySem.W.kitOne K (.ref C_Broken) (.type "ValueError") = some true)
    (ki_Nothing_SuitError : PySem.W.kitOne K (.ref C_Nothing) (.ref C_SuitError) = some true)
    (ki_Nothing_ValueError : PySem.W.kitOne K (.ref C_Nothing) (.type "ValueError") = some true)
    (ki_NoText_SuitError : PySem.W.kitOne K (.ref C_NoText) (.ref C_SuitError) = some true)
    (ki_NoText_ValueError : PySem.W.kitOne K (.ref C_NoText) (.type "ValueError") = some true)
    (ki_NoCommand_SuitError : PySem.W.kitOne K (.ref C_NoCommand) (.ref C_SuitError) = some true)
    (ki_NoCommand_ValueError : PySem.W.kitOne K (.ref C_NoCommand) (.type "ValueError") = some true)
    (ki_SuitError_ValueError : PySem.W.kitOne K (.ref C_SuitError) (.type "ValueError") = some true)
    (xL_TooMany : K.lookup C_TooMany = some (excClassObj xnm_TooMany xqn_TooMany C_TooMany xN_TooMany xbs_TooMany [.ref C_SuitError, .type "ValueError", .type "Exception", .type "BaseException", .type "object"] true xsn_TooMany xsu_TooMany xab_TooMany xco_TooMany xdd_TooMany xk0_TooMany xk1_TooMany xk2_TooMany xk3_TooMany xk5_TooMany "ValueError.__new__"))
    (xsa_TooMany : PySem.W.findIn K (.ref C_TooMany) "__setattr__" = some (some (.builtin "object.__setattr__")))
    (xi_TooMany : PySem.W.findIn K (.ref C_TooMany) "__init__" = some (some (.ref fx_TooMany)))
    (xt_TooMany : PySem.W.typeIn K (.ref fx_TooMany) = some (.type "function"))
    (xkp_TooMany : PySem.W.keepIn K (.ref C_TooMany) = true)
    (xty_TooMany : PySem.W.typeIn K (.ref C_TooMany) = some (.type "type"))
    (xl_TooMany : K.lookup fx_TooMany = some ⟨xoc_TooMany, xod_TooMany, .func (PySem.W.ksFn "__init__" "TooMany.__init__" (xA "limit" ⟨31, 17, 31, 21⟩ ⟨31, 23, 31, 28⟩) (xB "there are too many" "limit" "limit" ⟨32, 8, 32, 13⟩ ⟨32, 8, 32, 15⟩ ⟨32, 8, 32, 24⟩ ⟨32, 25, 32, 45⟩ ⟨32, 8, 32, 46⟩ ⟨32, 8, 32, 46⟩ ⟨33, 8, 33, 12⟩ ⟨33, 8, 33, 18⟩ ⟨33, 21, 33, 26⟩ ⟨33, 8, 33, 26⟩) (xS "limit") .none .none xdo_TooMany xpm_TooMany xan_TooMany (.ref xcd_TooMany) xct_TooMany xcc_TooMany), xsl_TooMany⟩)
    (xcc2_TooMany : PySem.W.codeIn K (.ref xcd_TooMany) "TooMany.__init__" = true)
    (xcl_TooMany : K.lookup xcc_TooMany = some ⟨xv2_TooMany, xd2_TooMany, .cell (some (.ref C_TooMany)), xs2_TooMany⟩)
    (xco2_TooMany : K.lookup xcd_TooMany = some ⟨xv3_TooMany, xd3_TooMany, .fields xvs_TooMany, xs3_TooMany⟩)
    (xfv_TooMany : xvs_TooMany[2]? = some (.str xfi_TooMany xtk_TooMany))
    (xff_TooMany : ((l.prog.main.file : Str) == xfi_TooMany) = true)
    (xsp_TooMany : PySem.W.ks_superIn K C_TooMany C_TooMany "__init__" = some (some (.builtin "ValueError.__init__")))
    (xsv_TooMany : PySem.W.subIn K (.ref C_TooMany) (.type "ValueError") = some true)
    (xsc_TooMany : PySem.W.mroIn K C_TooMany (.ref C_TooMany) = some true)
    (xopq : PySem.W.nsIn K PySem.cStatics "thirdparty.any" = some none)
    (xns : PySem.W.nsIn K mainGlobals "super" = some none)
    (xtop : (l.prog.main.scope.names.lookup ("super" : Str)).isSome = false)
    (xL_Lonely : K.lookup C_Lonely = some (excClassObj xnm_Lonely xqn_Lonely C_Lonely xN_Lonely xbs_Lonely [.ref C_SuitError, .type "ValueError", .type "Exception", .type "BaseException", .type "object"] true xsn_Lonely xsu_Lonely xab_Lonely xco_Lonely xdd_Lonely xk0_Lonely xk1_Lonely xk2_Lonely xk3_Lonely xk5_Lonely "ValueError.__new__"))
    (xsa_Lonely : PySem.W.findIn K (.ref C_Lonely) "__setattr__" = some (some (.builtin "object.__setattr__")))
    (xi_Lonely : PySem.W.findIn K (.ref C_Lonely) "__init__" = some (some (.ref fx_Lonely)))
    (xt_Lonely : PySem.W.typeIn K (.ref fx_Lonely) = some (.type "function"))
    (xkp_Lonely : PySem.W.keepIn K (.ref C_Lonely) = true)
    (xty_Lonely : PySem.W.typeIn K (.ref C_Lonely) = some (.type "type"))
    (xl_Lonely : K.lookup fx_Lonely = some ⟨xoc_Lonely, xod_Lonely, .func (PySem.W.ksFn "__init__" "Lonely.__init__" (xA "kind" ⟨26, 17, 26, 21⟩ ⟨26, 23, 26, 27⟩) (xB "nobody suits the kind" "kind" "kind" ⟨27, 8, 27, 13⟩ ⟨27, 8, 27, 15⟩ ⟨27, 8, 27, 24⟩ ⟨27, 25, 27, 48⟩ ⟨27, 8, 27, 49⟩ ⟨27, 8, 27, 49⟩ ⟨28, 8, 28, 12⟩ ⟨28, 8, 28, 17⟩ ⟨28, 20, 28, 24⟩ ⟨28, 8, 28, 24⟩) (xS "kind") .none .none xdo_Lonely xpm_Lonely xan_Lonely (.ref xcd_Lonely) xct_Lonely xcc_Lonely), xsl_Lonely⟩)
    (xcc2_Lonely : PySem.W.codeIn K (.ref xcd_Lonely) "Lonely.__init__" = true)
    (xcl_Lonely : K.lookup xcc_Lonely = some ⟨xv2_Lonely, xd2_Lonely, .cell (some (.ref C_Lonely)), xs2_Lonely⟩)
    (xco2_Lonely : K.lookup xcd_Lonely = some ⟨xv3_Lonely, xd3_Lonely, .fields xvs_Lonely, xs3_Lonely⟩)
    (xfv_Lonely : xvs_Lonely[2]? = some (.str xfi_Lonely xtk_Lonely))
    (xff_Lonely : ((l.prog.main.file : Str) == xfi_Lonely) = true)
    (xsp_Lonely : PySem.W.ks_superIn K C_Lonely C_Lonely "__init__" = some (some (.builtin "ValueError.__init__")))
    (xsv_Lonely : PySem.W.subIn K (.ref C_Lonely) (.type "ValueError") = some true)
    (xsc_Lonely : PySem.W.mroIn K C_Lonely (.ref C_Lonely) = some true)
    (xL_NotComplete : K.lookup C_NotComplete = some (excClassObj xnm_NotComplete xqn_NotComplete C_NotComplete xN_NotComplete xbs_NotComplete [.ref C_SuitError, .type "ValueError", .type "Exception", .type "BaseException", .type "object"] true xsn_NotComplete xsu_NotComplete xab_NotComplete xco_NotComplete xdd_NotComplete xk0_NotComplete xk1_NotComplete xk2_NotComplete xk3_NotComplete xk5_NotComplete "ValueError.__new__"))
    (xsa_NotComplete : PySem.W.findIn K (.ref C_NotComplete) "__setattr__" = some (some (.builtin "object.__setattr__")))
    (xi_NotComplete : PySem.W.findIn K (.ref C_NotComplete) "__init__" = some (some (.ref fx_NotComplete)))
    (xt_NotComplete : PySem.W.typeIn K (.ref fx_NotComplete) = some (.type "function"))
    (xkp_NotComplete : PySem.W.keepIn K (.ref C_NotComplete) = true)
    (xty_NotComplete : PySem.W.typeIn K (.ref C_NotComplete) = some (.type "type"))
    (xl_NotComplete : K.lookup fx_NotComplete = some ⟨xoc_NotComplete, xod_NotComplete, .func (PySem.W.ksFn "__init__" "NotComplete.__init__" (xA "left" ⟨21, 17, 21, 21⟩ ⟨21, 23, 21, 27⟩) (xB "somebody waits after the row" "left" "left" ⟨22, 8, 22, 13⟩ ⟨22, 8, 22, 15⟩ ⟨22, 8, 22, 24⟩ ⟨22, 25, 22, 55⟩ ⟨22, 8, 22, 56⟩ ⟨22, 8, 22, 56⟩ ⟨23, 8, 23, 12⟩ ⟨23, 8, 23, 17⟩ ⟨23, 20, 23, 24⟩ ⟨23, 8, 23, 24⟩) (xS "left") .none .none xdo_NotComplete xpm_NotComplete xan_NotComplete (.ref xcd_NotComplete) xct_NotComplete xcc_NotComplete), xsl_NotComplete⟩)
    (xcc2_NotComplete : PySem.W.codeIn K (.ref xcd_NotComplete) "NotComplete.__init__" = true)
    (xcl_NotComplete : K.lookup xcc_NotComplete = some ⟨xv2_NotComplete, xd2_NotComplete, .cell (some (.ref C_NotComplete)), xs2_NotComplete⟩)
    (xco2_NotComplete : K.lookup xcd_NotComplete = some ⟨xv3_NotComplete, xd3_NotComplete, .fields xvs_NotComplete, xs3_NotComplete⟩)
    (xfv_NotComplete : xvs_NotComplete[2]? = some (.str xfi_NotComplete xtk_NotComplete))
    (xff_NotComplete : ((l.prog.main.file : Str) == xfi_NotComplete) = true)
    (xsp_NotComplete : PySem.W.ks_superIn K C_NotComplete C_NotComplete "__init__" = some (some (.builtin "ValueError.__init__")))
    (xsv_NotComplete : PySem.W.subIn K (.ref C_NotComplete) (.type "ValueError") = some true)
    (xsc_NotComplete : PySem.W.mroIn K C_NotComplete (.ref C_NotComplete) = some true)
    (xL_NoKind : K.lookup C_NoKind = some (excClassObj xnm_NoKind xqn_NoKind C_NoKind xN_NoKind xbs_NoKind [.ref C_SuitError, .type "ValueError", .type "Exception", .type "BaseException", .type "object"] true xsn_NoKind xsu_NoKind xab_NoKind xco_NoKind xdd_NoKind xk0_NoKind xk1_NoKind xk2_NoKind xk3_NoKind xk5_NoKind "ValueError.__new__"))
    (xsa_NoKind : PySem.W.findIn K (.ref C_NoKind) "__setattr__" = some (some (.builtin "object.__setattr__")))
    (xi_NoKind : PySem.W.findIn K (.ref C_NoKind) "__init__" = some (some (.ref fx_NoKind)))
    (xt_NoKind : PySem.W.typeIn K (.ref fx_NoKind) = some (.type "function"))
    (xkp_NoKind : PySem.W.keepIn K (.ref C_NoKind) = true)
    (xty_NoKind : PySem.W.typeIn K (.ref C_NoKind) = some (.type "type"))
    (xl_NoKind : K.lookup fx_NoKind = some ⟨xoc_NoKind, xod_NoKind, .func (PySem.W.ksFn "__init__" "NoKind.__init__" (xA "kind" ⟨16, 17, 16, 21⟩ ⟨16, 23, 16, 27⟩) (xB "the relation has no such kind" "kind" "kind" ⟨17, 8, 17, 13⟩ ⟨17, 8, 17, 15⟩ ⟨17, 8, 17, 24⟩ ⟨17, 25, 17, 56⟩ ⟨17, 8, 17, 57⟩ ⟨17, 8, 17, 57⟩ ⟨18, 8, 18, 12⟩ ⟨18, 8, 18, 17⟩ ⟨18, 20, 18, 24⟩ ⟨18, 8, 18, 24⟩) (xS "kind") .none .none xdo_NoKind xpm_NoKind xan_NoKind (.ref xcd_NoKind) xct_NoKind xcc_NoKind), xsl_NoKind⟩)
    (xcc2_NoKind : PySem.W.codeIn K (.ref xcd_NoKind) "NoKind.__init__" = true)
    (xcl_NoKind : K.lookup xcc_NoKind = some ⟨xv2_NoKind, xd2_NoKind, .cell (some (.ref C_NoKind)), xs2_NoKind⟩)
    (xco2_NoKind : K.lookup xcd_NoKind = some ⟨xv3_NoKind, xd3_NoKind, .fields xvs_NoKind, xs3_NoKind⟩)
    (xfv_NoKind : xvs_NoKind[2]? = some (.str xfi_NoKind xtk_NoKind))
    (xff_NoKind : ((l.prog.main.file : Str) == xfi_NoKind) = true)
    (xsp_NoKind : PySem.W.ks_superIn K C_NoKind C_NoKind "__init__" = some (some (.builtin "ValueError.__init__")))
    (xsv_NoKind : PySem.W.subIn K (.ref C_NoKind) (.type "ValueError") = some true)
    (xsc_NoKind : PySem.W.mroIn K C_NoKind (.ref C_NoKind) = some true)
    (xL_BadPair : K.lookup C_BadPair = some (excClassObj xnm_BadPair xqn_BadPair C_BadPair xN_BadPair xbs_BadPair [.ref C_SuitError, .type "ValueError", .type "Exception", .type "BaseException", .type "object"] true xsn_BadPair xsu_BadPair xab_BadPair xco_BadPair xdd_BadPair xk0_BadPair xk1_BadPair xk2_BadPair xk3_BadPair xk5_BadPair "ValueError.__new__"))
    (xsa_BadPair : PySem.W.findIn K (.ref C_BadPair) "__setattr__" = some (some (.builtin "object.__setattr__")))
    (xi_BadPair : PySem.W.findIn K (.ref C_BadPair) "__init__" = some (some (.ref fx_BadPair)))
    (xt_BadPair : PySem.W.typeIn K (.ref fx_BadPair) = some (.type "function"))
    (xkp_BadPair : PySem.W.keepIn K (.ref C_BadPair) = true)
    (xty_BadPair : PySem.W.typeIn K (.ref C_BadPair) = some (.type "type"))
    (xl_BadPair : K.lookup fx_BadPair = some ⟨xoc_BadPair, xod_BadPair, .func (PySem.W.ksFn "__init__" "BadPair.__init__" (xA "at" ⟨11, 17, 11, 21⟩ ⟨11, 23, 11, 25⟩) (xB "item is not a new pair of two of the kinds" "at" "at" ⟨12, 8, 12, 13⟩ ⟨12, 8, 12, 15⟩ ⟨12, 8, 12, 24⟩ ⟨12, 25, 12, 69⟩ ⟨12, 8, 12, 70⟩ ⟨12, 8, 12, 70⟩ ⟨13, 8, 13, 12⟩ ⟨13, 8, 13, 15⟩ ⟨13, 18, 13, 20⟩ ⟨13, 8, 13, 20⟩) (xS "at") .none .none xdo_BadPair xpm_BadPair xan_BadPair (.ref xcd_BadPair) xct_BadPair xcc_BadPair), xsl_BadPair⟩)
    (xcc2_BadPair : PySem.W.codeIn K (.ref xcd_BadPair) "BadPair.__init__" = true)
    (xcl_BadPair : K.lookup xcc_BadPair = some ⟨xv2_BadPair, xd2_BadPair, .cell (some (.ref C_BadPair)), xs2_BadPair⟩)
    (xco2_BadPair : K.lookup xcd_BadPair = some ⟨xv3_BadPair, xd3_BadPair, .fields xvs_BadPair, xs3_BadPair⟩)
    (xfv_BadPair : xvs_BadPair[2]? = some (.str xfi_BadPair xtk_BadPair))
    (xff_BadPair : ((l.prog.main.file : Str) == xfi_BadPair) = true)
    (xsp_BadPair : PySem.W.ks_superIn K C_BadPair C_BadPair "__init__" = some (some (.builtin "ValueError.__init__")))
    (xsv_BadPair : PySem.W.subIn K (.ref C_BadPair) (.type "ValueError") = some true)
    (xsc_BadPair : PySem.W.mroIn K C_BadPair (.ref C_BadPair) = some true)
    (xL_Wrong : K.lookup C_Wrong = some (excClassObj xnm_Wrong xqn_Wrong C_Wrong xN_Wrong xbs_Wrong [.ref C_SuitError, .type "ValueError", .type "Exception", .type "BaseException", .type "object"] true xsn_Wrong xsu_Wrong xab_Wrong xco_Wrong xdd_Wrong xk0_Wrong xk1_Wrong xk2_Wrong xk3_Wrong xk5_Wrong "ValueError.__new__"))
    (xsa_Wrong : PySem.W.findIn K (.ref C_Wrong) "__setattr__" = some (some (.builtin "object.__setattr__")))
    (xi_Wrong : PySem.W.findIn K (.ref C_Wrong) "__init__" = some (some (.ref fx_Wrong)))
    (xt_Wrong : PySem.W.typeIn K (.ref fx_Wrong) = some (.type "function"))
    (xkp_Wrong : PySem.W.keepIn K (.ref C_Wrong) = true)
    (xty_Wrong : PySem.W.typeIn K (.ref C_Wrong) = some (.type "type"))
    (xl_Wrong : K.lookup fx_Wrong = some ⟨xoc_Wrong, xod_Wrong, .func (PySem.W.ksFn "__init__" "Wrong.__init__" (xA "place" ⟨6, 17, 6, 21⟩ ⟨6, 23, 6, 28⟩) (xB "argument is not as described" "place" "place" ⟨7, 8, 7, 13⟩ ⟨7, 8, 7, 15⟩ ⟨7, 8, 7, 24⟩ ⟨7, 25, 7, 55⟩ ⟨7, 8, 7, 56⟩ ⟨7, 8, 7, 56⟩ ⟨8, 8, 8, 12⟩ ⟨8, 8, 8, 18⟩ ⟨8, 21, 8, 26⟩ ⟨8, 8, 8, 26⟩) (xS "place") .none .none xdo_Wrong xpm_Wrong xan_Wrong (.ref xcd_Wrong) xct_Wrong xcc_Wrong), xsl_Wrong⟩)
    (xcc2_Wrong : PySem.W.codeIn K (.ref xcd_Wrong) "Wrong.__init__" = true)
    (xcl_Wrong : K.lookup xcc_Wrong = some ⟨xv2_Wrong, xd2_Wrong, .cell (some (.ref C_Wrong)), xs2_Wrong⟩)
    (xco2_Wrong : K.lookup xcd_Wrong = some ⟨xv3_Wrong, xd3_Wrong, .fields xvs_Wrong, xs3_Wrong⟩)
    (xfv_Wrong : xvs_Wrong[2]? = some (.str xfi_Wrong xtk_Wrong))
    (xff_Wrong : ((l.prog.main.file : Str) == xfi_Wrong) = true)
    (xsp_Wrong : PySem.W.ks_superIn K C_Wrong C_Wrong "__init__" = some (some (.builtin "ValueError.__init__")))
    (xsv_Wrong : PySem.W.subIn K (.ref C_Wrong) (.type "ValueError") = some true)
    (xsc_Wrong : PySem.W.mroIn K C_Wrong (.ref C_Wrong) = some true)
    (xL_Broken : K.lookup C_Broken = some (excClassObj xnm_Broken xqn_Broken C_Broken xN_Broken xbs_Broken [.ref C_SuitError, .type "ValueError", .type "Exception", .type "BaseException", .type "object"] true xsn_Broken xsu_Broken xab_Broken xco_Broken xdd_Broken xk0_Broken xk1_Broken xk2_Broken xk3_Broken xk5_Broken "ValueError.__new__"))
    (xsa_Broken : PySem.W.findIn K (.ref C_Broken) "__setattr__" = some (some (.builtin "object.__setattr__")))
    (xi_Broken : PySem.W.findIn K (.ref C_Broken) "__init__" = some (some (.ref fx_Broken)))
    (xt_Broken : PySem.W.typeIn K (.ref fx_Broken) = some (.type "function"))
    (xkp_Broken : PySem.W.keepIn K (.ref C_Broken) = true)
    (xty_Broken : PySem.W.typeIn K (.ref C_Broken) = some (.type "type"))
    (xl_Broken : K.lookup fx_Broken = some ⟨xoc_Broken, xod_Broken, .func (PySem.W.ksFn "__init__" "Broken.__init__" (xA "at" ⟨56, 17, 56, 21⟩ ⟨56, 23, 56, 25⟩) (xB "a deed cannot be done" "at" "at" ⟨57, 8, 57, 13⟩ ⟨57, 8, 57, 15⟩ ⟨57, 8, 57, 24⟩ ⟨57, 25, 57, 48⟩ ⟨57, 8, 57, 49⟩ ⟨57, 8, 57, 49⟩ ⟨58, 8, 58, 12⟩ ⟨58, 8, 58, 15⟩ ⟨58, 18, 58, 20⟩ ⟨58, 8, 58, 20⟩) (xS "at") .none .none xdo_Broken xpm_Broken xan_Broken (.ref xcd_Broken) xct_Broken xcc_Broken), xsl_Broken⟩)
    (xcc2_Broken : PySem.W.codeIn K (.ref xcd_Broken) "Broken.__init__" = true)
    (xcl_Broken : K.lookup xcc_Broken = some ⟨xv2_Broken, xd2_Broken, .cell (some (.ref C_Broken)), xs2_Broken⟩)
    (xco2_Broken : K.lookup xcd_Broken = some ⟨xv3_Broken, xd3_Broken, .fields xvs_Broken, xs3_Broken⟩)
    (xfv_Broken : xvs_Broken[2]? = some (.str xfi_Broken xtk_Broken))
    (xff_Broken : ((l.prog.main.file : Str) == xfi_Broken) = true)
    (xsp_Broken : PySem.W.ks_superIn K C_Broken C_Broken "__init__" = some (some (.builtin "ValueError.__init__")))
    (xsv_Broken : PySem.W.subIn K (.ref C_Broken) (.type "ValueError") = some true)
    (xsc_Broken : PySem.W.mroIn K C_Broken (.ref C_Broken) = some true)
    (xL_Full : K.lookup C_Full = some (excClassObj xnm_Full xqn_Full C_Full xN_Full xbs_Full [.ref C_SuitError, .type "ValueError", .type "Exception", .type "BaseException", .type "object"] true xsn_Full xsu_Full xab_Full xco_Full xdd_Full xk0_Full xk1_Full xk2_Full xk3_Full xk5_Full "ValueError.__new__"))
    (xsa_Full : PySem.W.findIn K (.ref C_Full) "__setattr__" = some (some (.builtin "object.__setattr__")))
    (xi_Full : PySem.W.findIn K (.ref C_Full) "__init__" = some (some (.ref fx_Full)))
    (xt_Full : PySem.W.typeIn K (.ref fx_Full) = some (.type "function"))
    (xkp_Full : PySem.W.keepIn K (.ref C_Full) = true)
    (xty_Full : PySem.W.typeIn K (.ref C_Full) = some (.type "type"))
    (xl_Full : K.lookup fx_Full = some ⟨xoc_Full, xod_Full, .func (PySem.W.ksFn "__init__" "Full.__init__" (xA "limit" ⟨51, 17, 51, 21⟩ ⟨51, 23, 51, 28⟩) (xB "the log is full" "limit" "limit" ⟨52, 8, 52, 13⟩ ⟨52, 8, 52, 15⟩ ⟨52, 8, 52, 24⟩ ⟨52, 25, 52, 42⟩ ⟨52, 8, 52, 43⟩ ⟨52, 8, 52, 43⟩ ⟨53, 8, 53, 12⟩ ⟨53, 8, 53, 18⟩ ⟨53, 21, 53, 26⟩ ⟨53, 8, 53, 26⟩) (xS "limit") .none .none xdo_Full xpm_Full xan_Full (.ref xcd_Full) xct_Full xcc_Full), xsl_Full⟩)
    (xcc2_Full : PySem.W.codeIn K (.ref xcd_Full) "Full.__init__" = true)
    (xcl_Full : K.lookup xcc_Full = some ⟨xv2_Full, xd2_Full, .cell (some (.ref C_Full)), xs2_Full⟩)
    (xco2_Full : K.lookup xcd_Full = some ⟨xv3_Full, xd3_Full, .fields xvs_Full, xs3_Full⟩)
    (xfv_Full : xvs_Full[2]? = some (.str xfi_Full xtk_Full))
    (xff_Full : ((l.prog.main.file : Str) == xfi_Full) = true)
    (xsp_Full : PySem.W.ks_superIn K C_Full C_Full "__init__" = some (some (.builtin "ValueError.__init__")))
    (xsv_Full : PySem.W.subIn K (.ref C_Full) (.type "ValueError") = some true)
    (xsc_Full : PySem.W.mroIn K C_Full (.ref C_Full) = some true)
    (xL_NotWaiting : K.lookup C_NotWaiting = some (excClassObj xnm_NotWaiting xqn_NotWaiting C_NotWaiting xN_NotWaiting xbs_NotWaiting [.ref C_SuitError, .type "ValueError", .type "Exception", .type "BaseException", .type "object"] true xsn_NotWaiting xsu_NotWaiting xab_NotWaiting xco_NotWaiting xdd_NotWaiting xk0_NotWaiting xk1_NotWaiting xk2_NotWaiting xk3_NotWaiting xk5_NotWaiting "ValueError.__new__"))
    (xsa_NotWaiting : PySem.W.findIn K (.ref C_NotWaiting) "__setattr__" = some (some (.builtin "object.__setattr__")))
    (xi_NotWaiting : PySem.W.findIn K (.ref C_NotWaiting) "__init__" = some (some (.ref fx_NotWaiting)))
    (xt_NotWaiting : PySem.W.typeIn K (.ref fx_NotWaiting) = some (.type "function"))
    (xkp_NotWaiting : PySem.W.keepIn K (.ref C_NotWaiting) = true)
    (xty_NotWaiting : PySem.W.typeIn K (.ref C_NotWaiting) = some (.type "type"))
    (xl_NotWaiting : K.lookup fx_NotWaiting = some ⟨xoc_NotWaiting, xod_NotWaiting, .func (PySem.W.ksFn "__init__" "NotWaiting.__init__" (xA "name" ⟨46, 17, 46, 21⟩ ⟨46, 23, 46, 27⟩) (xB "nobody of this name waits" "name" "name" ⟨47, 8, 47, 13⟩ ⟨47, 8, 47, 15⟩ ⟨47, 8, 47, 24⟩ ⟨47, 25, 47, 52⟩ ⟨47, 8, 47, 53⟩ ⟨47, 8, 47, 53⟩ ⟨48, 8, 48, 12⟩ ⟨48, 8, 48, 17⟩ ⟨48, 20, 48, 24⟩ ⟨48, 8, 48, 24⟩) (xS "name") .none .none xdo_NotWaiting xpm_NotWaiting xan_NotWaiting (.ref xcd_NotWaiting) xct_NotWaiting xcc_NotWaiting), xsl_NotWaiting⟩)
    (xcc2_NotWaiting : PySem.W.codeIn K (.ref xcd_NotWaiting) "NotWaiting.__init__" = true)
    (xcl_NotWaiting : K.lookup xcc_NotWaiting = some ⟨xv2_NotWaiting, xd2_NotWaiting, .cell (some (.ref C_NotWaiting)), xs2_NotWaiting⟩)
    (xco2_NotWaiting : K.lookup xcd_NotWaiting = some ⟨xv3_NotWaiting, xd3_NotWaiting, .fields xvs_NotWaiting, xs3_NotWaiting⟩)
    (xfv_NotWaiting : xvs_NotWaiting[2]? = some (.str xfi_NotWaiting xtk_NotWaiting))
    (xff_NotWaiting : ((l.prog.main.file : Str) == xfi_NotWaiting) = true)
    (xsp_NotWaiting : PySem.W.ks_superIn K C_NotWaiting C_NotWaiting "__init__" = some (some (.builtin "ValueError.__init__")))
    (xsv_NotWaiting : PySem.W.subIn K (.ref C_NotWaiting) (.type "ValueError") = some true)
    (xsc_NotWaiting : PySem.W.mroIn K C_NotWaiting (.ref C_NotWaiting) = some true)
    (xL_Taken : K.lookup C_Taken = some (excClassObj xnm_Taken xqn_Taken C_Taken xN_Taken xbs_Taken [.ref C_SuitError, .type "ValueError", .type "Exception", .type "BaseException", .type "object"] true xsn_Taken xsu_Taken xab_Taken xco_Taken xdd_Taken xk0_Taken xk1_Taken xk2_Taken xk3_Taken xk5_Taken "ValueError.__new__"))
    (xsa_Taken : PySem.W.findIn K (.ref C_Taken) "__setattr__" = some (some (.builtin "object.__setattr__")))
    (xi_Taken : PySem.W.findIn K (.ref C_Taken) "__init__" = some (some (.ref fx_Taken)))
    (xt_Taken : PySem.W.typeIn K (.ref fx_Taken) = some (.type "function"))
    (xkp_Taken : PySem.W.keepIn K (.ref C_Taken) = true)
    (xty_Taken : PySem.W.typeIn K (.ref C_Taken) = some (.type "type"))
    (xl_Taken : K.lookup fx_Taken = some ⟨xoc_Taken, xod_Taken, .func (PySem.W.ksFn "__init__" "Taken.__init__" (xA "name" ⟨41, 17, 41, 21⟩ ⟨41, 23, 41, 27⟩) (xB "a person of this name has come before" "name" "name" ⟨42, 8, 42, 13⟩ ⟨42, 8, 42, 15⟩ ⟨42, 8, 42, 24⟩ ⟨42, 25, 42, 64⟩ ⟨42, 8, 42, 65⟩ ⟨42, 8, 42, 65⟩ ⟨43, 8, 43, 12⟩ ⟨43, 8, 43, 17⟩ ⟨43, 20, 43, 24⟩ ⟨43, 8, 43, 24⟩) (xS "name") .none .none xdo_Taken xpm_Taken xan_Taken (.ref xcd_Taken) xct_Taken xcc_Taken), xsl_Taken⟩)
    (xcc2_Taken : PySem.W.codeIn K (.ref xcd_Taken) "Taken.__init__" = true)
    (xcl_Taken : K.lookup xcc_Taken = some ⟨xv2_Taken, xd2_Taken, .cell (some (.ref C_Taken)), xs2_Taken⟩)
    (xco2_Taken : K.lookup xcd_Taken = some ⟨xv3_Taken, xd3_Taken, .fields xvs_Taken, xs3_Taken⟩)
    (xfv_Taken : xvs_Taken[2]? = some (.str xfi_Taken xtk_Taken))
    (xff_Taken : ((l.prog.main.file : Str) == xfi_Taken) = true)
    (xsp_Taken : PySem.W.ks_superIn K C_Taken C_Taken "__init__" = some (some (.builtin "ValueError.__init__")))
    (xsv_Taken : PySem.W.subIn K (.ref C_Taken) (.type "ValueError") = some true)
    (xsc_Taken : PySem.W.mroIn K C_Taken (.ref C_Taken) = some true)
    (xL_Crowded : K.lookup C_Crowded = some (excClassObj xnm_Crowded xqn_Crowded C_Crowded xN_Crowded xbs_Crowded [.ref C_SuitError, .type "ValueError", .type "Exception", .type "BaseException", .type "object"] true xsn_Crowded xsu_Crowded xab_Crowded xco_Crowded xdd_Crowded xk0_Crowded xk1_Crowded xk2_Crowded xk3_Crowded xk5_Crowded "ValueError.__new__"))
    (xsa_Crowded : PySem.W.findIn K (.ref C_Crowded) "__setattr__" = some (some (.builtin "object.__setattr__")))
    (xi_Crowded : PySem.W.findIn K (.ref C_Crowded) "__init__" = some (some (.ref fx_Crowded)))
    (xt_Crowded : PySem.W.typeIn K (.ref fx_Crowded) = some (.type "function"))
    (xkp_Crowded : PySem.W.keepIn K (.ref C_Crowded) = true)
    (xty_Crowded : PySem.W.typeIn K (.ref C_Crowded) = some (.type "type"))
    (xl_Crowded : K.lookup fx_Crowded = some ⟨xoc_Crowded, xod_Crowded, .func (PySem.W.ksFn "__init__" "Crowded.__init__" (xA "members" ⟨36, 17, 36, 21⟩ ⟨36, 23, 36, 30⟩) (xB "a set of kinds has at least the weight of its mates" "members" "members" ⟨37, 8, 37, 13⟩ ⟨37, 8, 37, 15⟩ ⟨37, 8, 37, 24⟩ ⟨37, 25, 37, 78⟩ ⟨37, 8, 37, 79⟩ ⟨37, 8, 37, 79⟩ ⟨38, 8, 38, 12⟩ ⟨38, 8, 38, 20⟩ ⟨38, 23, 38, 30⟩ ⟨38, 8, 38, 30⟩) (xS "members") .none .none xdo_Crowded xpm_Crowded xan_Crowded (.ref xcd_Crowded) xct_Crowded xcc_Crowded), xsl_Crowded⟩)
    (xcc2_Crowded : PySem.W.codeIn K (.ref xcd_Crowded) "Crowded.__init__" = true)
    (xcl_Crowded : K.lookup xcc_Crowded = some ⟨xv2_Crowded, xd2_Crowded, .cell (some (.ref C_Crowded)), xs2_Crowded⟩)
    (xco2_Crowded : K.lookup xcd_Crowded = some ⟨xv3_Crowded, xd3_Crowded, .fields xvs_Crowded, xs3_Crowded⟩)
    (xfv_Crowded : xvs_Crowded[2]? = some (.str xfi_Crowded xtk_Crowded))
    (xff_Crowded : ((l.prog.main.file : Str) == xfi_Crowded) = true)
    (xsp_Crowded : PySem.W.ks_superIn K C_Crowded C_Crowded "__init__" = some (some (.builtin "ValueError.__init__")))
    (xsv_Crowded : PySem.W.subIn K (.ref C_Crowded) (.type "ValueError") = some true)
    (xsc_Crowded : PySem.W.mroIn K C_Crowded (.ref C_Crowded) = some true)
    (xL_NoCommand : K.lookup C_NoCommand = some (excClassObj xnm_NoCommand xqn_NoCommand C_NoCommand xN_NoCommand xbs_NoCommand [.ref C_SuitError, .type "ValueError", .type "Exception", .type "BaseException", .type "object"] true xsn_NoCommand xsu_NoCommand xab_NoCommand xco_NoCommand xdd_NoCommand xk0_NoCommand xk1_NoCommand xk2_NoCommand xk3_NoCommand xk5_NoCommand "ValueError.__new__"))
    (xi_NoCommand : PySem.W.findIn K (.ref C_NoCommand) "__init__" = some (some (.ref fx_NoCommand)))
    (xt_NoCommand : PySem.W.typeIn K (.ref fx_NoCommand) = some (.type "function"))
    (xkp_NoCommand : PySem.W.keepIn K (.ref C_NoCommand) = true)
    (xty_NoCommand : PySem.W.typeIn K (.ref C_NoCommand) = some (.type "type"))
    (xl_NoCommand : K.lookup fx_NoCommand = some ⟨xoc_NoCommand, xod_NoCommand, .func (PySem.W.ksFn "__init__" "NoCommand.__init__" (xA0 ⟨69, 17, 69, 21⟩) (xB0 "the value is not a line of the desk" ⟨70, 8, 70, 13⟩ ⟨70, 8, 70, 15⟩ ⟨70, 8, 70, 24⟩ ⟨70, 25, 70, 62⟩ ⟨70, 8, 70, 63⟩ ⟨70, 8, 70, 63⟩) xS0 .none .none xdo_NoCommand xpm_NoCommand xan_NoCommand (.ref xcd_NoCommand) xct_NoCommand xcc_NoCommand), xsl_NoCommand⟩)
    (xcc2_NoCommand : PySem.W.codeIn K (.ref xcd_NoCommand) "NoCommand.__init__" = true)
    (xcl_NoCommand : K.lookup xcc_NoCommand = some ⟨xv2_NoCommand, xd2_NoCommand, .cell (some (.ref C_NoCommand)), xs2_NoCommand⟩)
    (xco2_NoCommand : K.lookup xcd_NoCommand = some ⟨xv3_NoCommand, xd3_NoCommand, .fields xvs_NoCommand, xs3_NoCommand⟩)
    (xfv_NoCommand : xvs_NoCommand[2]? = some (.str xfi_NoCommand xtk_NoCommand))
    (xff_NoCommand : ((l.prog.main.file : Str) == xfi_NoCommand) = true)
    (xsp_NoCommand : PySem.W.ks_superIn K C_NoCommand C_NoCommand "__init__" = some (some (.builtin "ValueError.__init__")))
    (xsv_NoCommand : PySem.W.subIn K (.ref C_NoCommand) (.type "ValueError") = some true)
    (xsc_NoCommand : PySem.W.mroIn K C_NoCommand (.ref C_NoCommand) = some true)
    (xL_NoText : K.lookup C_NoText = some (excClassObj xnm_NoText xqn_NoText C_NoText xN_NoText xbs_NoText [.ref C_SuitError, .type "ValueError", .type "Exception", .type "BaseException", .type "object"] true xsn_NoText xsu_NoText xab_NoText xco_NoText xdd_NoText xk0_NoText xk1_NoText xk2_NoText xk3_NoText xk5_NoText "ValueError.__new__"))
    (xi_NoText : PySem.W.findIn K (.ref C_NoText) "__init__" = some (some (.ref fx_NoText)))
    (xt_NoText : PySem.W.typeIn K (.ref fx_NoText) = some (.type "function"))
    (xkp_NoText : PySem.W.keepIn K (.ref C_NoText) = true)
    (xty_NoText : PySem.W.typeIn K (.ref C_NoText) = some (.type "type"))
    (xl_NoText : K.lookup fx_NoText = some ⟨xoc_NoText, xod_NoText, .func (PySem.W.ksFn "__init__" "NoText.__init__" (xA0 ⟨65, 17, 65, 21⟩) (xB0 "the value is not such a text" ⟨66, 8, 66, 13⟩ ⟨66, 8, 66, 15⟩ ⟨66, 8, 66, 24⟩ ⟨66, 25, 66, 55⟩ ⟨66, 8, 66, 56⟩ ⟨66, 8, 66, 56⟩) xS0 .none .none xdo_NoText xpm_NoText xan_NoText (.ref xcd_NoText) xct_NoText xcc_NoText), xsl_NoText⟩)
    (xcc2_NoText : PySem.W.codeIn K (.ref xcd_NoText) "NoText.__init__" = true)
    (xcl_NoText : K.lookup xcc_NoText = some ⟨xv2_NoText, xd2_NoText, .cell (some (.ref C_NoText)), xs2_NoText⟩)
    (xco2_NoText : K.lookup xcd_NoText = some ⟨xv3_NoText, xd3_NoText, .fields xvs_NoText, xs3_NoText⟩)
    (xfv_NoText : xvs_NoText[2]? = some (.str xfi_NoText xtk_NoText))
    (xff_NoText : ((l.prog.main.file : Str) == xfi_NoText) = true)
    (xsp_NoText : PySem.W.ks_superIn K C_NoText C_NoText "__init__" = some (some (.builtin "ValueError.__init__")))
    (xsv_NoText : PySem.W.subIn K (.ref C_NoText) (.type "ValueError") = some true)
    (xsc_NoText : PySem.W.mroIn K C_NoText (.ref C_NoText) = some true)
    (xL_Nothing : K.lookup C_Nothing = some (excClassObj xnm_Nothing xqn_Nothing C_Nothing xN_Nothing xbs_Nothing [.ref C_SuitError, .type "ValueError", .type "Exception", .type "BaseException", .type "object"] true xsn_Nothing xsu_Nothing xab_Nothing xco_Nothing xdd_Nothing xk0_Nothing xk1_Nothing xk2_Nothing xk3_Nothing xk5_Nothing "ValueError.__new__"))
    (xi_Nothing : PySem.W.findIn K (.ref C_Nothing) "__init__" = some (some (.ref fx_Nothing)))
    (xt_Nothing : PySem.W.typeIn K (.ref fx_Nothing) = some (.type "function"))
    (xkp_Nothing : PySem.W.keepIn K (.ref C_Nothing) = true)
    (xty_Nothing : PySem.W.typeIn K (.ref C_Nothing) = some (.type "type"))
    (xl_Nothing : K.lookup fx_Nothing = some ⟨xoc_Nothing, xod_Nothing, .func (PySem.W.ksFn "__init__" "Nothing.__init__" (xA0 ⟨61, 17, 61, 21⟩) (xB0 "there is nothing to take back or to do again" ⟨62, 8, 62, 13⟩ ⟨62, 8, 62, 15⟩ ⟨62, 8, 62, 24⟩ ⟨62, 25, 62, 71⟩ ⟨62, 8, 62, 72⟩ ⟨62, 8, 62, 72⟩) xS0 .none .none xdo_Nothing xpm_Nothing xan_Nothing (.ref xcd_Nothing) xct_Nothing xcc_Nothing), xsl_Nothing⟩)
    (xcc2_Nothing : PySem.W.codeIn K (.ref xcd_Nothing) "Nothing.__init__" = true)
    (xcl_Nothing : K.lookup xcc_Nothing = some ⟨xv2_Nothing, xd2_Nothing, .cell (some (.ref C_Nothing)), xs2_Nothing⟩)
    (xco2_Nothing : K.lookup xcd_Nothing = some ⟨xv3_Nothing, xd3_Nothing, .fields xvs_Nothing, xs3_Nothing⟩)
    (xfv_Nothing : xvs_Nothing[2]? = some (.str xfi_Nothing xtk_Nothing))
    (xff_Nothing : ((l.prog.main.file : Str) == xfi_Nothing) = true)
    (xsp_Nothing : PySem.W.ks_superIn K C_Nothing C_Nothing "__init__" = some (some (.builtin "ValueError.__init__")))
    (xsv_Nothing : PySem.W.subIn K (.ref C_Nothing) (.type "ValueError") = some true)
    (xsc_Nothing : PySem.W.mroIn K C_Nothing (.ref C_Nothing) = some true)
    (xL_SuitError : PySem.W.excInitIn K C_SuitError [.type "ValueError", .type "Exception", .type "BaseException", .type "object"] "ValueError.__new__" = true)
    (xi_SuitError : PySem.W.findIn K (.ref C_SuitError) "__init__" = some (some (.builtin "ValueError.__init__")))
    (xkp_SuitError : PySem.W.keepIn K (.ref C_SuitError) = true)
    (a0 : PySem.W.nsIn K mainGlobals "_law_bag" = some (some (.ref f0)))
    (l0 : K.lookup f0 = some ⟨oc0, od0, .func (PySem.W.fnOf "_law_bag" "_law_bag" (defArgs s__law_bag) (defBody s__law_bag) (defScope s__law_bag) .none kV0 dc0 pm0 an0 cd0 ct0), sl0⟩)
    (c0 : PySem.W.codeIn K cd0 "_law_bag" = true)
    (k0 : PySem.W.keepIn K (.ref f0) = true)
    (a1 : PySem.W.nsIn K mainGlobals "_law_take" = some (some (.ref f1)))
    (l1 : K.lookup f1 = some ⟨oc1, od1, .func (PySem.W.fnOf "_law_take" "_law_take" (defArgs s__law_take) (defBody s__law_take) (defScope s__law_take) .none kV1 dc1 pm1 an1 cd1 ct1), sl1⟩)
    (c1 : PySem.W.codeIn K cd1 "_law_take" = true)
    (k1 : PySem.W.keepIn K (.ref f1) = true)
    (a2 : PySem.W.nsIn K mainGlobals "_law_made" = some (some (.ref f2)))
    (l2 : K.lookup f2 = some ⟨oc2, od2, .func (PySem.W.fnOf "_law_made" "_law_made" (defArgs s__law_made) (defBody s__law_made) (defScope s__law_made) .none kV2 dc2 pm2 an2 cd2 ct2), sl2⟩)
    (c2 : PySem.W.codeIn K cd2 "_law_made" = true)
    (k2 : PySem.W.keepIn K (.ref f2) = true)
    (a3 : PySem.W.nsIn K mainGlobals "_law_classes" = some (some (.ref f3)))
    (l3 : K.lookup f3 = some ⟨oc3, od3, .func (PySem.W.fnOf "_law_classes" "_law_classes" (defArgs s__law_classes) (defBody s__law_classes) (defScope s__law_classes) .none kV3 dc3 pm3 an3 cd3 ct3), sl3⟩)
    (c3 : PySem.W.codeIn K cd3 "_law_classes" = true)
    (k3 : PySem.W.keepIn K (.ref f3) = true)
    (a4 : PySem.W.nsIn K mainGlobals "_law_fields" = some (some (.ref f4)))
    (l4 : K.lookup f4 = some ⟨oc4, od4, .func (PySem.W.fnOf "_law_fields" "_law_fields" (defArgs s__law_fields) (defBody s__law_fields) (defScope s__law_fields) .none kV4 dc4 pm4 an4 cd4 ct4), sl4⟩)
    (c4 : PySem.W.codeIn K cd4 "_law_fields" = true)
    (k4 : PySem.W.keepIn K (.ref f4) = true)
    (a5 : PySem.W.nsIn K mainGlobals "law" = some (some (.ref f5)))
    (l5 : K.lookup f5 = some ⟨oc5, od5, .func (PySem.W.fnOf "law" "law" (defArgs s_law) (defBody s_law) (defScope s_law) .none kV5 dc5 pm5 an5 cd5 ct5), sl5⟩)
    (c5 : PySem.W.codeIn K cd5 "law" = true)
    (k5 : PySem.W.keepIn K (.ref f5) = true)
    (z_abs : PySem.W.nsIn K mainGlobals "abs" = some none)
    (z_len : PySem.W.nsIn K mainGlobals "len" = some none)
    (z_isinstance : PySem.W.nsIn K mainGlobals "isinstance" = some none)
    (z_range : PySem.W.nsIn K mainGlobals "range" = some none)
    (z_ValueError : PySem.W.nsIn K mainGlobals "ValueError" = some none)
    (z_list : PySem.W.nsIn K mainGlobals "list" = some none)
    (z_dict : PySem.W.nsIn K mainGlobals "dict" = some none)
    (z_any : PySem.W.nsIn K mainGlobals "any" = some none)
    : ∃ fd : FuncData, (∀ (s : Shared) (v : Value), BindsTo s fd ⟨[v], []⟩ [("_law_script", v)]) ∧ ∀ base : Heap, K.In base → base.Ns mainGlobals mg → FnG l.prog w K mg base CX0 3 fa fd ["_law_script"] (lift K sp_law) := by
  have e := hfa.symm.trans (PySem.W.mg_of X G a5)
  cases e
  have xc_TooMany : XcT l.prog K mg "TooMany" C_TooMany fx_TooMany "limit" := { gC := PySem.W.mg_of X G gc_TooMany, cls := ⟨_, _, _, _, _, _, _, _, _, _, _, _, _, _, _, xL_TooMany, by rfl⟩, sa := xsa_TooMany, noN := xn_TooMany_limit, iC := xi_TooMany, tC := xt_TooMany, kC := xkp_TooMany, exC := xhs_TooMany, tyC := xty_TooMany, sup := xsp_TooMany, subV := xsv_TooMany, selfC := xsc_TooMany, opq := xopq, noS := PySem.W.mg_none_of X G xns, top := xtop, fn := ⟨_, _, _, _, _, _, _, _, _, _, _, _, _, _, _, _, _, _, _, _, _, _, _, _, xl_TooMany, xcc2_TooMany, ⟨_, _, _, _, _, _, xco2_TooMany, xfv_TooMany, xff_TooMany⟩, ⟨_, _, _, xcl_TooMany⟩, fun s a b => .of_eq rfl, by decide, by decide, by decide, by decide, by decide⟩ }
  have xc_Lonely : XcT l.prog K mg "Lonely" C_Lonely fx_Lonely "kind" := { gC := PySem.W.mg_of X G gc_Lonely, cls := ⟨_, _, _, _, _, _, _, _, _, _, _, _, _, _, _, xL_Lonely, by rfl⟩, sa := xsa_Lonely, noN := xn_Lonely_kind, iC := xi_Lonely, tC := xt_Lonely, kC := xkp_Lonely, exC := xhs_Lonely, tyC := xty_Lonely, sup := xsp_Lonely, subV := xsv_Lonely, selfC := xsc_Lonely, opq := xopq, noS := PySem.W.mg_none_of X G xns, top := xtop, fn := ⟨_, _, _, _, _, _, _, _, _, _, _, _, _, _, _, _, _, _, _, _, _, _, _, _, xl_Lonely, xcc2_Lonely, ⟨_, _, _, _, _, _, xco2_Lonely, xfv_Lonely, xff_Lonely⟩, ⟨_, _, _, xcl_Lonely⟩, fun s a b => .of_eq rfl, by decide, by decide, by decide, by decide, by decide⟩ }
  have xc_NotComplete : XcT l.prog K mg "NotComplete" C_NotComplete fx_NotComplete "left" := { gC := PySem.W.mg_of X G gc_NotComplete, cls := ⟨_, _, _, _, _, _, _, _, _, _, _, _, _, _, _, xL_NotComplete, by rfl⟩, sa := xsa_NotComplete, noN := xn_NotComplete_left, iC := xi_NotComplete, tC := xt_NotComplete, kC := xkp_NotComplete, exC := xhs_NotComplete, tyC := xty_NotComplete, sup := xsp_NotComplete, subV := xsv_NotComplete, selfC := xsc_NotComplete, opq := xopq, noS := PySem.W.mg_none_of X G xns, top := xtop, fn := ⟨_, _, _, _, _, _, _, _, _, _, _, _, _, _, _, _, _, _, _, _, _, _, _, _, xl_NotComplete, xcc2_NotComplete, ⟨_, _, _, _, _, _, xco2_NotComplete, xfv_NotComplete, xff_NotComplete⟩, ⟨_, _, _, xcl_NotComplete⟩, fun s a b => .of_eq rfl, by decide, by decide, by decide, by decide, by decide⟩ }
  have xc_NoKind : XcT l.prog K mg "NoKind" C_NoKind fx_NoKind "kind" := { gC := PySem.W.mg_of X G gc_NoKind, cls := ⟨_, _, _, _, _, _, _, _, _, _, _, _, _, _, _, xL_NoKind, by rfl⟩, sa := xsa_NoKind, noN := xn_NoKind_kind, iC := xi_NoKind, tC := xt_NoKind, kC := xkp_NoKind, exC := xhs_NoKind, tyC := xty_NoKind, sup := xsp_NoKind, subV := xsv_NoKind, selfC := xsc_NoKind, opq := xopq, noS := PySem.W.mg_none_of X G xns, top := xtop, fn := ⟨_, _, _, _, _, _, _, _, _, _, _, _, _, _, _, _, _, _, _, _, _, _, _, _, xl_NoKind, xcc2_NoKind, ⟨_, _, _, _, _, _, xco2_NoKind, xfv_NoKind, xff_NoKind⟩, ⟨_, _, _, xcl_NoKind⟩, fun s a b => .of_eq rfl, by decide, by decide, by decide, by decide, by decide⟩ }
  have xc_BadPair : XcT l.prog K mg "BadPair" C_BadPair fx_BadPair "at" := { gC := PySem.W.mg_of X G gc_BadPair, cls := ⟨_, _, _, _, _, _, _, _, _, _, _, _, _, _, _, xL_BadPair, by rfl⟩, sa := xsa_BadPair, noN := xn_BadPair_at, iC := xi_BadPair, tC := xt_BadPair, kC := xkp_BadPair, exC := xhs_BadPair, tyC := xty_BadPair, sup := xsp_BadPair, subV := xsv_BadPair, selfC := xsc_BadPair, opq := xopq, noS := PySem.W.mg_none_of X G xns, top := xtop, fn := ⟨_, _, _, _, _, _, _, _, _, _, _, _, _, _, _, _, _, _, _, _, _, _, _, _, xl_BadPair, xcc2_BadPair, ⟨_, _, _, _, _, _, xco2_BadPair, xfv_BadPair, xff_BadPair⟩, ⟨_, _, _, xcl_BadPair⟩, fun s a b => .of_eq rfl, by decide, by decide, by decide, by decide, by decide⟩ }
  have xc_Wrong : XcT l.prog K mg "Wrong" C_Wrong fx_Wrong "place" := { gC := PySem.W.mg_of X G gc_Wrong, cls := ⟨_, _, _, _, _, _, _, _, _, _, _, _, _, _, _, xL_Wrong, by rfl⟩, sa := xsa_Wrong, noN := xn_Wrong_place, iC := xi_Wrong, tC := xt_Wrong, kC := xkp_Wrong, exC := xhs_Wrong, tyC := xty_Wrong, sup := xsp_Wrong, subV := xsv_Wrong, selfC := xsc_Wrong, opq := xopq, noS := PySem.W.mg_none_of X G xns, top := xtop, fn := ⟨_, _, _, _, _, _, _, _, _, _, _, _, _, _, _, _, _, _, _, _, _, _, _, _, xl_Wrong, xcc2_Wrong, ⟨_, _, _, _, _, _, xco2_Wrong, xfv_Wrong, xff_Wrong⟩, ⟨_, _, _, xcl_Wrong⟩, fun s a b => .of_eq rfl, by decide, by decide, by decide, by decide, by decide⟩ }
  have xc_Broken : XcT l.prog K mg "Broken" C_Broken fx_Broken "at" := { gC := PySem.W.mg_of X G gc_Broken, cls := ⟨_, _, _, _, _, _, _, _, _, _, _, _, _, _, _, xL_Broken, by rfl⟩, sa := xsa_Broken, noN := xn_Broken_at, iC := xi_Broken, tC := xt_Broken, kC := xkp_Broken, exC := xhs_Broken, tyC := xty_Broken, sup := xsp_Broken, subV := xsv_Broken, selfC := xsc_Broken, opq := xopq, noS := PySem.W.mg_none_of X G xns, top := xtop, fn := ⟨_, _, _, _, _, _, _, _, _, _, _, _, _, _, _, _, _, _, _, _, _, _, _, _, xl_Broken, xcc2_Broken, ⟨_, _, _, _, _, _, xco2_Broken, xfv_Broken, xff_Broken⟩, ⟨_, _, _, xcl_Broken⟩, fun s a b => .of_eq rfl, by decide, by decide, by decide, by decide, by decide⟩ }
  have xc_Full : XcT l.prog K mg "Full" C_Full fx_Full "limit" := { gC := PySem.W.mg_of X G gc_Full, cls := ⟨_, _, _, _, _, _, _, _, _, _, _, _, _, _, _, xL_Full, by rfl⟩, sa := xsa_Full, noN := xn_Full_limit, iC := xi_Full, tC := xt_Full, kC := xkp_Full, exC := xhs_Full, tyC := xty_Full, sup := xsp_Full, subV := xsv_Full, selfC := xsc_Full, opq := xopq, noS := PySem.W.mg_none_of X G xns, top := xtop, fn := ⟨_, _, _, _, _, _, _, _, _, _, _, _, _, _, _, _, _, _, _, _, _, _, _, _, xl_Full, xcc2_Full, ⟨_, _, _, _, _, _, xco2_Full, xfv_Full, xff_Full⟩, ⟨_, _, _, xcl_Full⟩, fun s a b => .of_eq rfl, by decide, by decide, by decide, by decide, by decide⟩ }
  have xc_NotWaiting : XcT l.prog K mg "NotWaiting" C_NotWaiting fx_NotWaiting "name" := { gC := PySem.W.mg_of X G gc_NotWaiting, cls := ⟨_, _, _, _, _, _, _, _, _, _, _, _, _, _, _, xL_NotWaiting, by rfl⟩, sa := xsa_NotWaiting, noN := xn_NotWaiting_name, iC := xi_NotWaiting, tC := xt_NotWaiting, kC := xkp_NotWaiting, exC := xhs_NotWaiting, tyC := xty_NotWaiting, sup := xsp_NotWaiting, subV := xsv_NotWaiting, selfC := xsc_NotWaiting, opq := xopq, noS := PySem.W.mg_none_of X G xns, top := xtop, fn := ⟨_, _, _, _, _, _, _, _, _, _, _, _, _, _, _, _, _, _, _, _, _, _, _, _, xl_NotWaiting, xcc2_NotWaiting, ⟨_, _, _, _, _, _, xco2_NotWaiting, xfv_NotWaiting, xff_NotWaiting⟩, ⟨_, _, _, xcl_NotWaiting⟩, fun s a b => .of_eq rfl, by decide, by decide, by decide, by decide, by decide⟩ }
  have xc_Taken : XcT l.prog K mg "Taken" C_Taken fx_Taken "name" := { gC := PySem.W.mg_of X G gc_Taken, cls := ⟨_, _, _, _, _, _, _, _, _, _, _, _, _, _, _, xL_Taken, by rfl⟩, sa := xsa_Taken, noN := xn_Taken_name, iC := xi_Taken, tC := xt_Taken, kC := xkp_Taken, exC := xhs_Taken, tyC := xty_Taken, sup := xsp_Taken, subV := xsv_Taken, selfC := xsc_Taken, opq := xopq, noS := PySem.W.mg_none_of X G xns, top := xtop, fn := ⟨_, _, _, _, _, _, _, _, _, _, _, _, _, _, _, _, _, _, _, _, _, _, _, _, xl_Taken, xcc2_Taken, ⟨_, _, _, _, _, _, xco2_Taken, xfv_Taken, xff_Taken⟩, ⟨_, _, _, xcl_Taken⟩, fun s a b => .of_eq rfl, by decide, by decide, by decide, by decide, by decide⟩ }
  have xc_Crowded : XcT l.prog K mg "Crowded" C_Crowded fx_Crowded "members" := { gC := PySem.W.mg_of X G gc_Crowded, cls := ⟨_, _, _, _, _, _, _, _, _, _, _, _, _, _, _, xL_Crowded, by rfl⟩, sa := xsa_Crowded, noN := xn_Crowded_members, iC := xi_Crowded, tC := xt_Crowded, kC := xkp_Crowded, exC := xhs_Crowded, tyC := xty_Crowded, sup := xsp_Crowded, subV := xsv_Crowded, selfC := xsc_Crowded, opq := xopq, noS := PySem.W.mg_none_of X G xns, top := xtop, fn := ⟨_, _, _, _, _, _, _, _, _, _, _, _, _, _, _, _, _, _, _, _, _, _, _, _, xl_Crowded, xcc2_Crowded, ⟨_, _, _, _, _, _, xco2_Crowded, xfv_Crowded, xff_Crowded⟩, ⟨_, _, _, xcl_Crowded⟩, fun s a b => .of_eq rfl, by decide, by decide, by decide, by decide, by decide⟩ }
  have xc_NoCommand : XcN l.prog K mg "NoCommand" C_NoCommand fx_NoCommand := { gC := PySem.W.mg_of X G gc_NoCommand, cls := ⟨_, _, _, _, _, _, _, _, _, _, _, _, _, _, _, xL_NoCommand, by rfl⟩, iC := xi_NoCommand, tC := xt_NoCommand, kC := xkp_NoCommand, exC := xhs_NoCommand, tyC := xty_NoCommand, sup := xsp_NoCommand, subV := xsv_NoCommand, selfC := xsc_NoCommand, opq := xopq, noS := PySem.W.mg_none_of X G xns, top := xtop, fn := ⟨_, _, _, _, _, _, _, _, _, _, _, _, _, _, _, _, _, _, xl_NoCommand, xcc2_NoCommand, ⟨_, _, _, _, _, _, xco2_NoCommand, xfv_NoCommand, xff_NoCommand⟩, ⟨_, _, _, xcl_NoCommand⟩, fun s a => .of_eq rfl, by decide⟩ }
  have xc_NoText : XcN l.prog K mg "NoText" C_NoText fx_NoText := { gC := PySem.W.mg_of X G gc_NoText, cls := ⟨_, _, _, _, _, _, _, _, _, _, _, _, _, _, _, xL_NoText, by rfl⟩, iC := xi_NoText, tC := xt_NoText, kC := xkp_NoText, exC := xhs_NoText, tyC := xty_NoText, sup := xsp_NoText, subV := xsv_NoText, selfC := xsc_NoText, opq := xopq, noS := PySem.W.mg_none_of X G xns, top := xtop, fn := ⟨_, _, _, _, _, _, _, _, _, _, _, _, _, _, _, _, _, _, xl_NoText, xcc2_NoText, ⟨_, _, _, _, _, _, xco2_NoText, xfv_NoText, xff_NoText⟩, ⟨_, _, _, xcl_NoText⟩, fun s a => .of_eq rfl, by decide⟩ }
  have xc_Nothing : XcN l.prog K mg "Nothing" C_Nothing fx_Nothing := { gC := PySem.W.mg_of X G gc_Nothing, cls := ⟨_, _, _, _, _, _, _, _, _, _, _, _, _, _, _, xL_Nothing, by rfl⟩, iC := xi_Nothing, tC := xt_Nothing, kC := xkp_Nothing, exC := xhs_Nothing, tyC := xty_Nothing, sup := xsp_Nothing, subV := xsv_Nothing, selfC := xsc_Nothing, opq := xopq, noS := PySem.W.mg_none_of X G xns, top := xtop, fn := ⟨_, _, _, _, _, _, _, _, _, _, _, _, _, _, _, _, _, _, xl_Nothing, xcc2_Nothing, ⟨_, _, _, _, _, _, xco2_Nothing, xfv_Nothing, xff_Nothing⟩, ⟨_, _, _, xcl_Nothing⟩, fun s a => .of_eq rfl, by decide⟩ }
  have xb_SuitError : XcB K mg "SuitError" C_SuitError := ⟨PySem.W.mg_of X G gc_SuitError, xL_SuitError, xi_SuitError, xkp_SuitError⟩
  have xk_Wrong : ExcC K C_Wrong := ⟨xhg_Wrong, xhk_Wrong, xhs_Wrong, xhd_Wrong, xha_Wrong, xhn, xht, xhm_Wrong⟩
  have xk_BadPair : ExcC K C_BadPair := ⟨xhg_BadPair, xhk_BadPair, xhs_BadPair, xhd_BadPair, xha_BadPair, xhn, xht, xhm_BadPair⟩
  have xk_NoKind : ExcC K C_NoKind := ⟨xhg_NoKind, xhk_NoKind, xhs_NoKind, xhd_NoKind, xha_NoKind, xhn, xht, xhm_NoKind⟩
  have xk_NotComplete : ExcC K C_NotComplete := ⟨xhg_NotComplete, xhk_NotComplete, xhs_NotComplete, xhd_NotComplete, xha_NotComplete, xhn, xht, xhm_NotComplete⟩
  have xk_Lonely : ExcC K C_Lonely := ⟨xhg_Lonely, xhk_Lonely, xhs_Lonely, xhd_Lonely, xha_Lonely, xhn, xht, xhm_Lonely⟩
  have xk_TooMany : ExcC K C_TooMany := ⟨xhg_TooMany, xhk_TooMany, xhs_TooMany, xhd_TooMany, xha_TooMany, xhn, xht, xhm_TooMany⟩
  have xk_Crowded : ExcC K C_Crowded := ⟨xhg_Crowded, xhk_Crowded, xhs_Crowded, xhd_Crowded, xha_Crowded, xhn, xht, xhm_Crowded⟩
  have xk_Taken : ExcC K C_Taken := ⟨xhg_Taken, xhk_Taken, xhs_Taken, xhd_Taken, xha_Taken, xhn, xht, xhm_Taken⟩
  have xk_NotWaiting : ExcC K C_NotWaiting := ⟨xhg_NotWaiting, xhk_NotWaiting, xhs_NotWaiting, xhd_NotWaiting, xha_NotWaiting, xhn, xht, xhm_NotWaiting⟩
  have xk_Full : ExcC K C_Full := ⟨xhg_Full, xhk_Full, xhs_Full, xhd_Full, xha_Full, xhn, xht, xhm_Full⟩
  have xk_Broken : ExcC K C_Broken := ⟨xhg_Broken, xhk_Broken, xhs_Broken, xhd_Broken, xha_Broken, xhn, xht, xhm_Broken⟩
  have xk_Nothing : ExcC K C_Nothing := ⟨xhg_Nothing, xhk_Nothing, xhs_Nothing, xhd_Nothing, xha_Nothing, xhn, xht, xhm_Nothing⟩
  have xk_NoText : ExcC K C_NoText := ⟨xhg_NoText, xhk_NoText, xhs_NoText, xhd_NoText, xha_NoText, xhn, xht, xhm_NoText⟩
  have xk_NoCommand : ExcC K C_NoCommand := ⟨xhg_NoCommand, xhk_NoCommand, xhs_NoCommand, xhd_NoCommand, xha_NoCommand, xhn, xht, xhm_NoCommand⟩
  have xk_SuitError : ExcC K C_SuitError := ⟨xhg_SuitError, xhk_SuitError, xhs_SuitError, xhd_SuitError, xha_SuitError, xhn, xht, xhm_SuitError⟩
  have F0 := fun_mk (st := s__law_bag) l0 c0 k0
  have b0 := F0.binds (ps := ["_law_script"]) fun _ _ _ _ _ _ us hl => match us, hl with | [_], _ => rfl
  have F1 := fun_mk (st := s__law_take) l1 c1 k1
  have b1 := F1.binds (ps := ["_law_bag_here", "_law_many"]) fun _ _ _ _ _ _ us hl => match us, hl with | [_, _], _ => rfl
  have F2 := fun_mk (st := s__law_made) l2 c2 k2
  have b2 := F2.binds (ps := ["_law_thing"]) fun _ _ _ _ _ _ us hl => match us, hl with | [_], _ => rfl
  have F3 := fun_mk (st := s__law_classes) l3 c3 k3
  have b3 := F3.binds (ps := ["_law_e"]) fun _ _ _ _ _ _ us hl => match us, hl with | [_], _ => rfl
  have F4 := fun_mk (st := s__law_fields) l4 c4 k4
  have b4 := F4.binds (ps := ["_law_raised"]) fun _ _ _ _ _ _ us hl => match us, hl with | [_], _ => rfl
  have F5 := fun_mk (st := s_law) l5 c5 k5
  have b5 := F5.binds (ps := ["_law_script"]) fun _ _ _ _ _ _ us hl => match us, hl with | [_], _ => rfl
  refine ⟨PySem.W.fnOf "law" "law" (defArgs s_law) (defBody s_law) (defScope s_law) .none kV5 dc5 pm5 an5 cd5 ct5, fun s v => .of_eq rfl, fun base hK hG => ?_⟩
  have C0 : Cal l.prog w K mg base 1 "_law_bag" f0 _ ["_law_script"] sp__law_bag := ⟨PySem.W.mg_of X G a0, k0, b0, ok__law_bag (P := l.prog) (w := w) (mg := mg) (base := base)  F0 (PySem.W.mg_none_of X G z_abs)⟩
  have C1 : Cal l.prog w K mg base 1 "_law_take" f1 _ ["_law_bag_here", "_law_many"] sp__law_take := ⟨PySem.W.mg_of X G a1, k1, b1, ok__law_take (P := l.prog) (w := w) (mg := mg) (base := base)  F1 (PySem.W.mg_none_of X G z_len)⟩
  have C2 : Cal l.prog w K mg base 2 "_law_made" f2 _ ["_law_thing"] (sp__law_made C_Wrong C_BadPair C_NoKind C_NotComplete C_Lonely C_TooMany C_Crowded C_Taken C_NotWaiting C_Full C_Broken C_Nothing C_NoText C_NoCommand) := ⟨PySem.W.mg_of X G a2, k2, b2, ok__law_made (P := l.prog) (w := w) (mg := mg) (base := base) (C_TooMany := C_TooMany) (C_Lonely := C_Lonely) (C_NotComplete := C_NotComplete) (C_NoKind := C_NoKind) (C_BadPair := C_BadPair) (C_Wrong := C_Wrong) (C_Broken := C_Broken) (C_Full := C_Full) (C_NotWaiting := C_NotWaiting) (C_Taken := C_Taken) (C_Crowded := C_Crowded) (C_NoCommand := C_NoCommand) (C_NoText := C_NoText) (C_Nothing := C_Nothing) F2 xc_TooMany xc_Lonely xc_NotComplete xc_NoKind xc_BadPair xc_Wrong xc_Broken xc_Full xc_NotWaiting xc_Taken xc_Crowded xc_NoCommand xc_NoText xc_Nothing⟩
  have C3 : Cal l.prog w K mg base 1 "_law_classes" f3 _ ["_law_e"] (sp__law_classes C_Wrong C_BadPair C_NoKind C_NotComplete C_Lonely C_TooMany C_Crowded C_Taken C_NotWaiting C_Full C_Broken C_Nothing C_NoText C_NoCommand C_SuitError) := ⟨PySem.W.mg_of X G a3, k3, b3, ok__law_classes (P := l.prog) (w := w) (mg := mg) (base := base) (C_Wrong := C_Wrong) (C_BadPair := C_BadPair) (C_NoKind := C_NoKind) (C_NotComplete := C_NotComplete) (C_Lonely := C_Lonely) (C_TooMany := C_TooMany) (C_Crowded := C_Crowded) (C_Taken := C_Taken) (C_NotWaiting := C_NotWaiting) (C_Full := C_Full) (C_Broken := C_Broken) (C_Nothing := C_Nothing) (C_NoText := C_NoText) (C_NoCommand := C_NoCommand) (C_SuitError := C_SuitError) F3 xk_Wrong ki_Wrong_Wrong ki_Wrong_BadPair ki_Wrong_NoKind ki_Wrong_NotComplete ki_Wrong_Lonely ki_Wrong_TooMany ki_Wrong_Crowded ki_Wrong_Taken ki_Wrong_NotWaiting ki_Wrong_Full ki_Wrong_Broken ki_Wrong_Nothing ki_Wrong_NoText ki_Wrong_NoCommand xk_BadPair ki_BadPair_Wrong ki_BadPair_BadPair ki_BadPair_NoKind ki_BadPair_NotComplete ki_BadPair_Lonely ki_BadPair_TooMany ki_BadPair_Crowded ki_BadPair_Taken ki_BadPair_NotWaiting ki_BadPair_Full ki_BadPair_Broken ki_BadPair_Nothing ki_BadPair_NoText ki_BadPair_NoCommand xk_NoKind ki_NoKind_Wrong ki_NoKind_BadPair ki_NoKind_NoKind ki_NoKind_NotComplete ki_NoKind_Lonely ki_NoKind_TooMany ki_NoKind_Crowded ki_NoKind_Taken ki_NoKind_NotWaiting ki_NoKind_Full ki_NoKind_Broken ki_NoKind_Nothing ki_NoKind_NoText ki_NoKind_NoCommand xk_NotComplete ki_NotComplete_Wrong ki_NotComplete_BadPair ki_NotComplete_NoKind ki_NotComplete_NotComplete ki_NotComplete_Lonely ki_NotComplete_TooMany ki_NotComplete_Crowded ki_NotComplete_Taken ki_NotComplete_NotWaiting ki_NotComplete_Full ki_NotComplete_Broken ki_NotComplete_Nothing ki_NotComplete_NoText ki_NotComplete_NoCommand xk_Lonely ki_Lonely_Wrong ki_Lonely_BadPair ki_Lonely_NoKind ki_Lonely_NotComplete ki_Lonely_Lonely ki_Lonely_TooMany ki_Lonely_Crowded ki_Lonely_Taken ki_Lonely_NotWaiting ki_Lonely_Full ki_Lonely_Broken ki_Lonely_Nothing ki_Lonely_NoText ki_Lonely_NoCommand xk_TooMany ki_TooMany_Wrong ki_TooMany_BadPair ki_TooMany_NoKind ki_TooMany_NotComplete ki_TooMany_Lonely ki_TooMany_TooMany ki_TooMany_Crowded ki_TooMany_Taken ki_TooMany_NotWaiting ki_TooMany_Full ki_TooMany_Broken ki_TooMany_Nothing ki_TooMany_NoText ki_TooMany_NoCommand xk_Crowded ki_Crowded_Wrong ki_Crowded_BadPair ki_Crowded_NoKind ki_Crowded_NotComplete ki_Crowded_Lonely ki_Crowded_TooMany ki_Crowded_Crowded ki_Crowded_Taken ki_Crowded_NotWaiting ki_Crowded_Full ki_Crowded_Broken ki_Crowded_Nothing ki_Crowded_NoText ki_Crowded_NoCommand xk_Taken ki_Taken_Wrong ki_Taken_BadPair ki_Taken_NoKind ki_Taken_NotComplete ki_Taken_Lonely ki_Taken_TooMany ki_Taken_Crowded ki_Taken_Taken ki_Taken_NotWaiting ki_Taken_Full ki_Taken_Broken ki_Taken_Nothing ki_Taken_NoText ki_Taken_NoCommand xk_NotWaiting ki_NotWaiting_Wrong ki_NotWaiting_BadPair ki_NotWaiting_NoKind ki_NotWaiting_NotComplete ki_NotWaiting_Lonely ki_NotWaiting_TooMany ki_NotWaiting_Crowded ki_NotWaiting_Taken ki_NotWaiting_NotWaiting ki_NotWaiting_Full ki_NotWaiting_Broken ki_NotWaiting_Nothing ki_NotWaiting_NoText ki_NotWaiting_NoCommand xk_Full ki_Full_Wrong ki_Full_BadPair ki_Full_NoKind ki_Full_NotComplete ki_Full_Lonely ki_Full_TooMany ki_Full_Crowded ki_Full_Taken ki_Full_NotWaiting ki_Full_Full ki_Full_Broken ki_Full_Nothing ki_Full_NoText ki_Full_NoCommand xk_Broken ki_Broken_Wrong ki_Broken_BadPair ki_Broken_NoKind ki_Broken_NotComplete ki_Broken_Lonely ki_Broken_TooMany ki_Broken_Crowded ki_Broken_Taken ki_Broken_NotWaiting ki_Broken_Full ki_Broken_Broken ki_Broken_Nothing ki_Broken_NoText ki_Broken_NoCommand xk_Nothing ki_Nothing_Wrong ki_Nothing_BadPair ki_Nothing_NoKind ki_Nothing_NotComplete ki_Nothing_Lonely ki_Nothing_TooMany ki_Nothing_Crowded ki_Nothing_Taken ki_Nothing_NotWaiting ki_Nothing_Full ki_Nothing_Broken ki_Nothing_Nothing ki_Nothing_NoText ki_Nothing_NoCommand xk_NoText ki_NoText_Wrong ki_NoText_BadPair ki_NoText_NoKind ki_NoText_NotComplete ki_NoText_Lonely ki_NoText_TooMany ki_NoText_Crowded ki_NoText_Taken ki_NoText_NotWaiting ki_NoText_Full ki_NoText_Broken ki_NoText_Nothing ki_NoText_NoText ki_NoText_NoCommand xk_NoCommand ki_NoCommand_Wrong ki_NoCommand_BadPair ki_NoCommand_NoKind ki_NoCommand_NotComplete ki_NoCommand_Lonely ki_NoCommand_TooMany ki_NoCommand_Crowded ki_NoCommand_Taken ki_NoCommand_NotWaiting ki_NoCommand_Full ki_NoCommand_Broken ki_NoCommand_Nothing ki_NoCommand_NoText ki_NoCommand_NoCommand xk_SuitError ki_SuitError_Wrong ki_SuitError_BadPair ki_SuitError_NoKind ki_SuitError_NotComplete ki_SuitError_Lonely ki_SuitError_TooMany ki_SuitError_Crowded ki_SuitError_Taken ki_SuitError_NotWaiting ki_SuitError_Full ki_SuitError_Broken ki_SuitError_Nothing ki_SuitError_NoText ki_SuitError_NoCommand (PySem.W.mg_none_of X G z_isinstance) (PySem.W.mg_of X G gc_NotComplete) (PySem.W.mg_of X G gc_NoKind) (PySem.W.mg_of X G gc_BadPair) (PySem.W.mg_of X G gc_Wrong) (PySem.W.mg_of X G gc_Taken) (PySem.W.mg_of X G gc_Crowded) (PySem.W.mg_of X G gc_TooMany) (PySem.W.mg_of X G gc_Lonely) (PySem.W.mg_of X G gc_Nothing) (PySem.W.mg_of X G gc_Broken) (PySem.W.mg_of X G gc_Full) (PySem.W.mg_of X G gc_NotWaiting) (PySem.W.mg_of X G gc_NoCommand) (PySem.W.mg_of X G gc_NoText)⟩
  have C4 : Cal l.prog w K mg base 1 "_law_fields" f4 _ ["_law_raised"] (sp__law_fields C_Wrong C_BadPair C_NoKind C_NotComplete C_Lonely C_TooMany C_Crowded C_Taken C_NotWaiting C_Full C_Broken C_Nothing C_NoText C_NoCommand) := ⟨PySem.W.mg_of X G a4, k4, b4, ok__law_fields (P := l.prog) (w := w) (mg := mg) (base := base) (C_TooMany := C_TooMany) (C_Lonely := C_Lonely) (C_NotComplete := C_NotComplete) (C_NoKind := C_NoKind) (C_BadPair := C_BadPair) (C_Wrong := C_Wrong) (C_Broken := C_Broken) (C_Full := C_Full) (C_NotWaiting := C_NotWaiting) (C_Taken := C_Taken) (C_Crowded := C_Crowded) (C_Nothing := C_Nothing) (C_NoText := C_NoText) (C_NoCommand := C_NoCommand) F4 xk_TooMany xn_TooMany_limit xk_Lonely xn_Lonely_kind xk_NotComplete xn_NotComplete_left xk_NoKind xn_NoKind_kind xk_BadPair xn_BadPair_at xk_Wrong xn_Wrong_place xk_Broken xn_Broken_at xk_Full xn_Full_limit xk_NotWaiting xn_NotWaiting_name xk_Taken xn_Taken_name xk_Crowded xn_Crowded_members⟩
  exact ok_law (P := l.prog) (w := w) (mg := mg) (base := base) (C_Wrong := C_Wrong) (C_SuitError := C_SuitError) (C_BadPair := C_BadPair) (C_NoKind := C_NoKind) (C_NotComplete := C_NotComplete) (C_Lonely := C_Lonely) (C_TooMany := C_TooMany) (C_Crowded := C_Crowded) (C_Taken := C_Taken) (C_NotWaiting := C_NotWaiting) (C_Full := C_Full) (C_Broken := C_Broken) (C_Nothing := C_Nothing) (C_NoText := C_NoText) (C_NoCommand := C_NoCommand) F5 xk_Wrong ki_Wrong_SuitError ki_Wrong_ValueError xk_BadPair ki_BadPair_SuitError ki_BadPair_ValueError xk_NoKind ki_NoKind_SuitError ki_NoKind_ValueError xk_NotComplete ki_NotComplete_SuitError ki_NotComplete_ValueError xk_Lonely ki_Lonely_SuitError ki_Lonely_ValueError xk_TooMany ki_TooMany_SuitError ki_TooMany_ValueError xk_Crowded ki_Crowded_SuitError ki_Crowded_ValueError xk_Taken ki_Taken_SuitError ki_Taken_ValueError xk_NotWaiting ki_NotWaiting_SuitError ki_NotWaiting_ValueError xk_Full ki_Full_SuitError ki_Full_ValueError xk_Broken ki_Broken_SuitError ki_Broken_ValueError xk_Nothing ki_Nothing_SuitError ki_Nothing_ValueError xk_NoText ki_NoText_SuitError ki_NoText_ValueError xk_NoCommand ki_NoCommand_SuitError ki_NoCommand_ValueError xk_SuitError ki_SuitError_ValueError C0 (PySem.W.mg_none_of X G z_range) C1 C2 C3 (PySem.W.mg_none_of X G z_isinstance) (PySem.W.mg_none_of X G z_ValueError) (PySem.W.mg_of X G gc_SuitError) C4 (PySem.W.mg_none_of X G z_list) (PySem.W.mg_none_of X G z_dict) xb_SuitError (PySem.W.mg_none_of X G z_any)
end LW
open PySem PySem.W PyProof.Rows
set_option maxHeartbeats 0 in
theorem PySem.Challenge.cw_suitedpairs_k17_errors_apart_holds : PySem.Challenge.rw_suitedpairs_k17_errors_apart.Holds := by
  w_on; o_law; k_head; (case hw => w_witness2)
  k_fill
  refine DL.walkG (l := PySem.Challenge.rw_suitedpairs_k17_errors_apart) (n := 63) (k := 3) (x := "_law_script") rfl (by decide) rfl ⟨rfl, by decide, by decide⟩ (fun w h Y => PySem.W.kIn_of Y) ?F
  case F =>
    intro w mg fa h KX G hmg
    refine' LW.all_mk KX G hmg ?gc_TooMany ?gc_Lonely ?gc_NotComplete ?gc_NoKind ?gc_BadPair ?gc_Wrong ?gc_Broken ?gc_Full ?gc_NotWaiting ?gc_Taken ?gc_Crowded ?gc_NoCommand ?gc_NoText ?gc_Nothing ?gc_SuitError ?xhg_Wrong ?xhk_Wrong ?xhs_Wrong ?xhd_Wrong ?xha_Wrong ?xhn ?xht ?xhm_Wrong ?xhg_BadPair ?xhk_BadPair ?xhs_BadPair ?xhd_BadPair ?xha_BadPair ?xhm_BadPair ?xhg_NoKind ?xhk_NoKind ?xhs_NoKind ?xhd_NoKind ?xha_NoKind ?xhm_NoKind ?xhg_NotComplete ?xhk_NotComplete ?xhs_NotComplete ?xhd_NotComplete ?xha_NotComplete ?xhm_NotComplete ?xhg_Lonely ?xhk_Lonely ?xhs_Lonely ?xhd_Lonely ?xha_Lonely ?xhm_Lonely ?xhg_TooMany ?xhk_TooMany ?xhs_TooMany ?xhd_TooMany ?xha_TooMany ?xhm_TooMany ?xhg_Crowded ?xhk_Crowded ?xhs_Crowded ?xhd_Crowded ?xha_Crowded ?xhm_Crowded ?xhg_Taken ?xhk_Taken ?xhs_Taken ?xhd_Taken ?xha_Taken ?xhm_Taken ?xhg_NotWaiting ?xhk_NotWaiting ?xhs_NotWaiting ?xhd_NotWaiting ?xha_NotWaiting ?xhm_NotWaiting ?xhg_Full ?xhk_Full ?xhs_Full ?xhd_Full ?xha_Full ?xhm_Full ?xhg_Broken ?xhk_Broken ?xhs_Broken ?xhd_Broken ?xha_Broken ?xhm_Broken ?xhg_Nothing ?xhk_Nothing ?xhs_Nothing ?xhd_Nothing ?xha_Nothing ?xhm_Nothing ?xhg_NoText ?xhk_NoText ?xhs_NoText ?xhd_NoText ?xha_NoText ?xhm_NoText ?xhg_NoCommand ?xhk_NoCommand ?xhs_NoCommand ?xhd_NoCommand ?xha_NoCommand ?xhm_NoCommand ?xhg_SuitError ?xhk_SuitError ?xhs_SuitError ?xhd_SuitError ?xha_SuitError ?xhm_SuitError ?xn_TooMany_limit ?xn_Lonely_kind ?xn_NotComplete_left ?xn_NoKind_kind ?xn_BadPair_at ?xn_Wrong_place ?xn_Broken_at ?xn_Full_limit ?xn_NotWaiting_name ?xn_Taken_name ?xn_Crowded_members ?ki_Wrong_Wrong ?ki_Wrong_BadPair ?ki_Wrong_NoKind ?ki_Wrong_NotComplete ?ki_Wrong_Lonely ?ki_Wrong_TooMany ?ki_Wrong_Crowded ?ki_Wrong_Taken ?ki_Wrong_NotWaiting ?ki_Wrong_Full ?ki_Wrong_Broken ?ki_Wrong_Nothing ?ki_Wrong_NoText ?ki_Wrong_NoCommand ?ki_BadPair_Wrong ?ki_BadPair_BadPair ?ki_BadPair_NoKind ?ki_BadPair_NotComplete ?ki_BadPair_Lonely ?ki_BadPair_TooMany ?ki_BadPair_Crowded ?ki_BadPair_Taken ?ki_BadPair_NotWaiting ?ki_BadPair_Full ?ki_BadPair_Broken ?ki_BadPair_Nothing ?ki_BadPair_NoText ?ki_BadPair_NoCommand ?ki_NoKind_Wrong ?ki_NoKind_BadPair ?ki_NoKind_NoKind ?ki_NoKind_NotComplete ?ki_NoKind_Lonely ?ki_NoKind_TooMany ?ki_NoKind_Crowded ?ki_NoKind_Taken ?ki_NoKind_NotWaiting ?ki_NoKind_Full ?ki_NoKind_Broken ?ki_NoKind_Nothing ?ki_NoKind_NoText ?ki_NoKind_NoCommand ?ki_NotComplete_Wrong ?ki_NotComplete_BadPair ?ki_NotComplete_NoKind ?ki_NotComplete_NotComplete ?ki_NotComplete_Lonely ?ki_NotComplete_TooMany ?ki_NotComplete_Crowded ?ki_NotComplete_Taken ?ki_NotComplete_NotWaiting ?ki_NotComplete_Full ?ki_NotComplete_Broken ?ki_NotComplete_Nothing ?ki_NotComplete_NoText ?ki_NotComplete_NoCommand ?ki_Lonely_Wrong ?ki_Lonely_BadPair ?ki_Lonely_NoKind ?ki_Lonely_NotComplete ?ki_Lonely_Lonely ?ki_Lonely_TooMany ?ki_Lonely_Crowded ?ki_Lonely_Taken ?ki_Lonely_NotWaiting ?ki_Lonely_Full ?ki_Lonely_Broken ?ki_Lonely_Nothing ?ki_Lonely_NoText ?ki_Lonely_NoCommand ?ki_TooMany_Wrong ?ki_TooMany_BadPair ?ki_TooMany_NoKind ?ki_TooMany_NotComplete ?ki_TooMany_Lonely ?ki_TooMany_TooMany ?ki_TooMany_Crowded ?ki_TooMany_Taken ?ki_TooMany_NotWaiting ?ki_TooMany_Full ?ki_TooMany_Broken ?ki_TooMany_Nothing ?ki_TooMany_NoText ?ki_TooMany_NoCommand ?ki_Crowded_Wrong ?ki_Crowded_BadPair ?ki_Crowded_NoKind ?ki_Crowded_NotComplete ?ki_Crowded_Lonely ?ki_Crowded_TooMany ?ki_Crowded_Crowded ?ki_Crowded_Taken ?ki_Crowded_NotWaiting ?ki_Crowded_Full ?ki_Crowded_Broken ?ki_Crowded_Nothing ?ki_Crowded_NoText ?ki_Crowded_NoCommand ?ki_Taken_Wrong ?ki_Taken_BadPair ?ki_Taken_NoKind ?ki_Taken_NotComplete ?ki_Taken_Lonely ?ki_Taken_TooMany ?ki_Taken_Crowded ?ki_Taken_Taken ?ki_Taken_NotWaiting ?ki_Taken_Full ?ki_Taken_Broken ?ki_Taken_Nothing ?ki_Taken_NoText ?ki_Taken_NoCommand ?ki_NotWaiting_Wrong ?ki_NotWaiting_BadPair ?ki_NotWaiting_NoKind ?ki_NotWaiting_NotComplete ?ki_NotWaiting_Lonely ?ki_NotWaiting_TooMany ?ki_NotWaiting_Crowded ?ki_NotWaiting_Taken ?ki_NotWaiting_NotWaiting ?ki_NotWaiting_Full ?ki_NotWaiting_Broken ?ki_NotWaiting_Nothing ?ki_NotWaiting_NoText ?ki_NotWaiting_NoCommand ?ki_Full_Wrong ?ki_Full_BadPair ?ki_Full_NoKind ?ki_Full_NotComplete ?ki_Full_Lonely ?ki_Full_TooMany ?ki_Full_Crowded ?ki_Full_Taken ?ki_Full_NotWaiting ?ki_Full_Full ?ki_Full_Broken ?ki_Full_Nothing ?ki_Full_NoText ?ki_Full_NoCommand ?ki_Broken_Wrong ?ki_Broken_BadPair ?ki_Broken_NoKind ?ki_Broken_NotComplete ?ki_Broken_Lonely ?ki_Broken_TooMany ?ki_Broken_Crowded ?ki_Broken_Taken ?ki_Broken_NotWaiting ?ki_Broken_Full ?ki_Broken_Broken ?ki_Broken_Nothing ?ki_Broken_NoText ?ki_Broken_NoCommand ?ki_Nothing_Wrong ?ki_Nothing_BadPair ?ki_Nothing_NoKind ?ki_Nothing_NotComplete ?ki_Nothing_Lonely ?ki_Nothing_TooMany ?ki_Nothing_Crowded ?ki_Nothing_Taken ?ki_Nothing_NotWaiting ?ki_Nothing_Full ?ki_Nothing_Broken ?ki_Nothing_Nothing ?ki_Nothing_NoText ?ki_Nothing_NoCommand ?ki_NoText_Wrong ?ki_NoText_BadPair ?ki_NoText_NoKind ?ki_NoText_NotComplete ?ki_NoText_Lonely ?ki_NoText_TooMany ?ki_NoText_Crowded ?ki_NoText_Taken ?ki_NoText_NotWaiting ?ki_NoText_Full ?ki_NoText_Broken ?ki_NoText_Nothing ?ki_NoText_NoText ?ki_NoText_NoCommand ?ki_NoCommand_Wrong ?ki_NoCommand_BadPair ?ki_NoCommand_NoKind ?ki_NoCommand_NotComplete ?ki_NoCommand_Lonely ?ki_NoCommand_TooMany ?ki_NoCommand_Crowded ?ki_NoCommand_Taken ?ki_NoCommand_NotWaiting ?ki_NoCommand_Full ?ki_NoCommand_Broken ?ki_NoCommand_Nothing ?ki_NoCommand_NoText ?ki_NoCommand_NoCommand ?ki_SuitError_Wrong ?ki_SuitError_BadPair ?ki_SuitError_NoKind ?ki_SuitError_NotComplete ?ki_SuitError_Lonely ?ki_SuitError_TooMany ?ki_SuitError_Crowded ?ki_SuitError_Taken ?ki_SuitError_NotWaiting ?ki_SuitError_Full ?ki_SuitError_Broken ?ki_SuitError_Nothing ?ki_SuitError_NoText ?ki_SuitError_NoCommand ?ki_Wrong_SuitError ?ki_Wrong_ValueError ?ki_BadPair_SuitError ?ki_BadPair_ValueError ?ki_NoKind_SuitError ?ki_NoKind_ValueError ?ki_NotComplete_SuitError ?ki_NotComplete_ValueError ?ki_Lonely_SuitError ?ki_Lonely_ValueError ?ki_TooMany_SuitError ?ki_TooMany_ValueError ?ki_Crowded_SuitError ?ki_Crowded_ValueError ?ki_Taken_SuitError ?ki_Taken_ValueError ?ki_NotWaiting_SuitError ?ki_NotWaiting_ValueError ?ki_Full_SuitError ?ki_Full_ValueError ?ki_Broken_SuitError ?ki_Broken_ValueError ?ki_Nothing_SuitError ?ki_Nothing_ValueError ?ki_NoText_SuitError ?ki_NoText_ValueError ?ki_NoCommand_SuitError ?ki_NoCommand_ValueError ?ki_SuitError_ValueError ?xL_TooMany ?xsa_TooMany ?xi_TooMany ?xt_TooMany ?xkp_TooMany ?xty_TooMany ?xl_TooMany ?xcc2_TooMany ?xcl_TooMany ?xco2_TooMany ?xfv_TooMany ?xff_TooMany ?xsp_TooMany ?xsv_TooMany ?xsc_TooMany ?xopq ?xns ?xtop ?xL_Lonely ?xsa_Lonely ?xi_Lonely ?xt_Lonely ?xkp_Lonely ?xty_Lonely ?xl_Lonely ?xcc2_Lonely ?xcl_Lonely ?xco2_Lonely ?xfv_Lonely ?xff_Lonely ?xsp_Lonely ?xsv_Lonely ?xsc_Lonely ?xL_NotComplete ?xsa_NotComplete ?xi_NotComplete ?xt_NotComplete ?xkp_NotComplete ?xty_NotComplete ?xl_NotComplete ?xcc2_NotComplete ?xcl_NotComplete ?xco2_NotComplete ?xfv_NotComplete ?xff_NotComplete ?xsp_NotComplete ?xsv_NotComplete ?xsc_NotComplete ?xL_NoKind ?xsa_NoKind ?xi_NoKind ?xt_NoKind ?xkp_NoKind ?xty_NoKind ?xl_NoKind ?xcc2_NoKind ?xcl_NoKind ?xco2_NoKind ?xfv_NoKind ?xff_NoKind ?xsp_NoKind ?xsv_NoKind ?xsc_NoKind ?xL_BadPair ?xsa_BadPair ?xi_BadPair ?xt_BadPair ?xkp_BadPair ?xty_BadPair ?xl_BadPair ?xcc2_BadPair ?xcl_BadPair ?xco2_BadPair ?xfv_BadPair ?xff_BadPair ?xsp_BadPair ?xsv_BadPair ?xsc_BadPair ?xL_Wrong ?xsa_Wrong ?xi_Wrong ?xt_Wrong ?xkp_Wrong ?xty_Wrong ?xl_Wrong ?xcc2_Wrong ?xcl_Wrong ?xco2_Wrong ?xfv_Wrong ?xff_Wrong ?xsp_Wrong ?xsv_Wrong ?xsc_Wrong ?xL_Broken ?xsa_Broken ?xi_Broken ?xt_Broken ?xkp_Broken ?xty_Broken ?xl_Broken ?xcc2_Broken ?xcl_Broken ?xco2_Broken ?xfv_Broken ?xff_Broken ?xsp_Broken ?xsv_Broken ?xsc_Broken ?xL_Full ?xsa_Full ?xi_Full ?xt_Full ?xkp_Full ?xty_Full ?xl_Full ?xcc2_Full ?xcl_Full ?xco2_Full ?xfv_Full ?xff_Full ?xsp_Full ?xsv_Full ?xsc_Full ?xL_NotWaiting ?xsa_NotWaiting ?xi_NotWaiting ?xt_NotWaiting ?xkp_NotWaiting ?xty_NotWaiting ?xl_NotWaiting ?xcc2_NotWaiting ?xcl_NotWaiting ?xco2_NotWaiting ?xfv_NotWaiting ?xff_NotWaiting ?xsp_NotWaiting ?xsv_NotWaiting ?xsc_NotWaiting ?xL_Taken ?xsa_Taken ?xi_Taken ?xt_Taken ?xkp_Taken ?xty_Taken ?xl_Taken ?xcc2_Taken ?xcl_Taken ?xco2_Taken ?xfv_Taken ?xff_Taken ?xsp_Taken ?xsv_Taken ?xsc_Taken ?xL_Crowded ?xsa_Crowded ?xi_Crowded ?xt_Crowded ?xkp_Crowded ?xty_Crowded ?xl_Crowded ?xcc2_Crowded ?xcl_Crowded ?xco2_Crowded ?xfv_Crowded ?xff_Crowded ?xsp_Crowded ?xsv_Crowded ?xsc_Crowded ?xL_NoCommand ?xi_NoCommand ?xt_NoCommand ?xkp_NoCommand ?xty_NoCommand ?xl_NoCommand ?xcc2_NoCommand ?xcl_NoCommand ?xco2_NoCommand ?xfv_NoCommand ?xff_NoCommand ?xsp_NoCommand ?xsv_NoCommand ?xsc_NoCommand ?xL_NoText ?xi_NoText ?xt_NoText ?xkp_NoText ?xty_NoText ?xl_NoText ?xcc2_NoText ?xcl_NoText ?xco2_NoText ?xfv_NoText ?xff_NoText ?xsp_NoText ?xsv_NoText ?xsc_NoText ?xL_Nothing ?xi_Nothing ?xt_Nothing ?xkp_Nothing ?xty_Nothing ?xl_Nothing ?xcc2_Nothing ?xcl_Nothing ?xco2_Nothing ?xfv_Nothing ?xff_Nothing ?xsp_Nothing ?xsv_Nothing ?xsc_Nothing ?xL_SuitError ?xi_SuitError ?xkp_SuitError ?a0 ?l0 ?c0 ?k0 ?a1 ?l1 ?c1 ?k1 ?a2 ?l2 ?c2 ?k2 ?a3 ?l3 ?c3 ?k3 ?a4 ?l4 ?c4 ?k4 ?a5 ?l5 ?c5 ?k5 ?z_abs ?z_len ?z_isinstance ?z_range ?z_ValueError ?z_list ?z_dict ?z_any
    (case gc_TooMany => k_is); (case gc_Lonely => k_is); (case gc_NotComplete => k_is); (case gc_NoKind => k_is); (case gc_BadPair => k_is); (case gc_Wrong => k_is)
    (case gc_Broken => k_is); (case gc_Full => k_is); (case gc_NotWaiting => k_is); (case gc_Taken => k_is); (case gc_Crowded => k_is); (case gc_NoCommand => k_is)
    (case gc_NoText => k_is); (case gc_Nothing => k_is); (case gc_SuitError => k_is); (case xhg_Wrong => k_is); (case xhk_Wrong => k_is); (case xhs_Wrong => k_is)
    (case xhd_Wrong => k_is); (case xha_Wrong => k_is); (case xhn => k_is); (case xht => k_is); (case xhm_Wrong => k_is); (case xhg_BadPair => k_is)
    (case xhk_BadPair => k_is); (case xhs_BadPair => k_is); (case xhd_BadPair => k_is); (case xha_BadPair => k_is); (case xhm_BadPair => k_is); (case xhg_NoKind => k_is)
    (case xhk_NoKind => k_is); (case xhs_NoKind => k_is); (case xhd_NoKind => k_is); (case xha_NoKind => k_is); (case xhm_NoKind => k_is); (case xhg_NotComplete => k_is)
    (case xhk_NotComplete => k_is); (case xhs_NotComplete => k_is); (case xhd_NotComplete => k_is); (case xha_NotComplete => k_is); (case xhm_NotComplete => k_is); (case xhg_Lonely => k_is)
    (case xhk_Lonely => k_is); (case xhs_Lonely => k_is); (case xhd_Lonely => k_is); (case xha_Lonely => k_is); (case xhm_Lonely => k_is); (case xhg_TooMany => k_is)
    (case xhk_TooMany => k_is); (case xhs_TooMany => k_is); (case xhd_TooMany => k_is); (case xha_TooMany => k_is); (case xhm_TooMany => k_is); (case xhg_Crowded => k_is)
    (case xhk_Crowded => k_is); (case xhs_Crowded => k_is); (case xhd_Crowded => k_is); (case xha_Crowded => k_is); (case xhm_Crowded => k_is); (case xhg_Taken => k_is)
    (case xhk_Taken => k_is); (case xhs_Taken => k_is); (case xhd_Taken => k_is); (case xha_Taken => k_is); (case xhm_Taken => k_is); (case xhg_NotWaiting => k_is)
    (case xhk_NotWaiting => k_is); (case xhs_NotWaiting => k_is); (case xhd_NotWaiting => k_is); (case xha_NotWaiting => k_is); (case xhm_NotWaiting => k_is); (case xhg_Full => k_is)
    (case xhk_Full => k_is); (case xhs_Full => k_is); (case xhd_Full => k_is); (case xha_Full => k_is); (case xhm_Full => k_is); (case xhg_Broken => k_is)
    (case xhk_Broken => k_is); (case xhs_Broken => k_is); (case xhd_Broken => k_is); (case xha_Broken => k_is); (case xhm_Broken => k_is); (case xhg_Nothing => k_is)
    (case xhk_Nothing => k_is); (case xhs_Nothing => k_is); (case xhd_Nothing => k_is); (case xha_Nothing => k_is); (case xhm_Nothing => k_is); (case xhg_NoText => k_is)
    (case xhk_NoText => k_is); (case xhs_NoText => k_is); (case xhd_NoText => k_is); (case xha_NoText => k_is); (case xhm_NoText => k_is); (case xhg_NoCommand => k_is)
    (case xhk_NoCommand => k_is); (case xhs_NoCommand => k_is); (case xhd_NoCommand => k_is); (case xha_NoCommand => k_is); (case xhm_NoCommand => k_is); (case xhg_SuitError => k_is)
    (case xhk_SuitError => k_is); (case xhs_SuitError => k_is); (case xhd_SuitError => k_is); (case xha_SuitError => k_is); (case xhm_SuitError => k_is); (case xn_TooMany_limit => k_is)
    (case xn_Lonely_kind => k_is); (case xn_NotComplete_left => k_is); (case xn_NoKind_kind => k_is); (case xn_BadPair_at => k_is); (case xn_Wrong_place => k_is); (case xn_Broken_at => k_is)
    (case xn_Full_limit => k_is); (case xn_NotWaiting_name => k_is); (case xn_Taken_name => k_is); (case xn_Crowded_members => k_is); (case ki_Wrong_Wrong => first | rfl | kit_is | k_is); (case ki_Wrong_BadPair => first | rfl | kit_is | k_is)
    (case ki_Wrong_NoKind => first | rfl | kit_is | k_is); (case ki_Wrong_NotComplete => first | rfl | kit_is | k_is); (case ki_Wrong_Lonely => first | rfl | kit_is | k_is); (case ki_Wrong_TooMany => first | rfl | kit_is | k_is); (case ki_Wrong_Crowded => first | rfl | kit_is | k_is); (case ki_Wrong_Taken => first | rfl | kit_is | k_is)
    (case ki_Wrong_NotWaiting => first | rfl | kit_is | k_is); (case ki_Wrong_Full => first | rfl | kit_is | k_is); (case ki_Wrong_Broken => first | rfl | kit_is | k_is); (case ki_Wrong_Nothing => first | rfl | kit_is | k_is); (case ki_Wrong_NoText => first | rfl | kit_is | k_is); (case ki_Wrong_NoCommand => first | rfl | kit_is | k_is)
    (case ki_BadPair_Wrong => first | rfl | kit_is | k_is); (case ki_BadPair_BadPair => first | rfl | kit_is | k_is); (case ki_BadPair_NoKind => first | rfl | kit_is | k_is); (case ki_BadPair_NotComplete => first | rfl | kit_is | k_is); (case ki_BadPair_Lonely => first | rfl | kit_is | k_is); (case ki_BadPair_TooMany => first | rfl | kit_is | k_is)
    (case ki_BadPair_Crowded => first | rfl | kit_is | k_is); (case ki_BadPair_Taken => first | rfl | kit_is | k_is); (case ki_BadPair_NotWaiting => first | rfl | kit_is | k_is); (case ki_BadPair_Full => first | rfl | kit_is | k_is); (case ki_BadPair_Broken => first | rfl | kit_is | k_is); (case ki_BadPair_Nothing => first | rfl | kit_is | k_is)
    (case ki_BadPair_NoText => first | rfl | kit_is | k_is); (case ki_BadPair_NoCommand => first | rfl | kit_is | k_is); (case ki_NoKind_Wrong => first | rfl | kit_is | k_is); (case ki_NoKind_BadPair => first | rfl | kit_is | k_is); (case ki_NoKind_NoKind => first | rfl | kit_is | k_is); (case ki_NoKind_NotComplete => first | rfl | kit_is | k_is)
    (case ki_NoKind_Lonely => first | rfl | kit_is | k_is); (case ki_NoKind_TooMany => first | rfl | kit_is | k_is); (case ki_NoKind_Crowded => first | rfl | kit_is | k_is); (case ki_NoKind_Taken => first | rfl | kit_is | k_is); (case ki_NoKind_NotWaiting => first | rfl | kit_is | k_is); (case ki_NoKind_Full => first | rfl | kit_is | k_is)
    (case ki_NoKind_Broken => first | rfl | kit_is | k_is); (case ki_NoKind_Nothing => first | rfl | kit_is | k_is); (case ki_NoKind_NoText => first | rfl | kit_is | k_is); (case ki_NoKind_NoCommand => first | rfl | kit_is | k_is); (case ki_NotComplete_Wrong => first | rfl | kit_is | k_is); (case ki_NotComplete_BadPair => first | rfl | kit_is | k_is)
    (case ki_NotComplete_NoKind => first | rfl | kit_is | k_is); (case ki_NotComplete_NotComplete => first | rfl | kit_is | k_is); (case ki_NotComplete_Lonely => first | rfl | kit_is | k_is); (case ki_NotComplete_TooMany => first | rfl | kit_is | k_is); (case ki_NotComplete_Crowded => first | rfl | kit_is | k_is); (case ki_NotComplete_Taken => first | rfl | kit_is | k_is)
    (case ki_NotComplete_NotWaiting => first | rfl | kit_is | k_is); (case ki_NotComplete_Full => first | rfl | kit_is | k_is); (case ki_NotComplete_Broken => first | rfl | kit_is | k_is); (case ki_NotComplete_Nothing => first | rfl | kit_is | k_is); (case ki_NotComplete_NoText => first | rfl | kit_is | k_is); (case ki_NotComplete_NoCommand => first | rfl | kit_is | k_is)
    (case ki_Lonely_Wrong => first | rfl | kit_is | k_is); (case ki_Lonely_BadPair => first | rfl | kit_is | k_is); (case ki_Lonely_NoKind => first | rfl | kit_is | k_is); (case ki_Lonely_NotComplete => first | rfl | kit_is | k_is); (case ki_Lonely_Lonely => first | rfl | kit_is | k_is); (case ki_Lonely_TooMany => first | rfl | kit_is | k_is)
    (case ki_Lonely_Crowded => first | rfl | kit_is | k_is); (case ki_Lonely_Taken => first | rfl | kit_is | k_is); (case ki_Lonely_NotWaiting => first | rfl | kit_is | k_is); (case ki_Lonely_Full => first | rfl | kit_is | k_is); (case ki_Lonely_Broken => first | rfl | kit_is | k_is); (case ki_Lonely_Nothing => first | rfl | kit_is | k_is)
    (case ki_Lonely_NoText => first | rfl | kit_is | k_is); (case ki_Lonely_NoCommand => first | rfl | kit_is | k_is); (case ki_TooMany_Wrong => first | rfl | kit_is | k_is); (case ki_TooMany_BadPair => first | rfl | kit_is | k_is); (case ki_TooMany_NoKind => first | rfl | kit_is | k_is); (case ki_TooMany_NotComplete => first | rfl | kit_is | k_is)
    (case ki_TooMany_Lonely => first | rfl | kit_is | k_is); (case ki_TooMany_TooMany => first | rfl | kit_is | k_is); (case ki_TooMany_Crowded => first | rfl | kit_is | k_is); (case ki_TooMany_Taken => first | rfl | kit_is | k_is); (case ki_TooMany_NotWaiting => first | rfl | kit_is | k_is); (case ki_TooMany_Full => first | rfl | kit_is | k_is)
    (case ki_TooMany_Broken => first | rfl | kit_is | k_is); (case ki_TooMany_Nothing => first | rfl | kit_is | k_is); (case ki_TooMany_NoText => first | rfl | kit_is | k_is); (case ki_TooMany_NoCommand => first | rfl | kit_is | k_is); (case ki_Crowded_Wrong => first | rfl | kit_is | k_is); (case ki_Crowded_BadPair => first | rfl | kit_is | k_is)
    (case ki_Crowded_NoKind => first | rfl | kit_is | k_is); (case ki_Crowded_NotComplete => first | rfl | kit_is | k_is); (case ki_Crowded_Lonely => first | rfl | kit_is | k_is); (case ki_Crowded_TooMany => first | rfl | kit_is | k_is); (case ki_Crowded_Crowded => first | rfl | kit_is | k_is); (case ki_Crowded_Taken => first | rfl | kit_is | k_is)
    (case ki_Crowded_NotWaiting => first | rfl | kit_is | k_is); (case ki_Crowded_Full => first | rfl | kit_is | k_is); (case ki_Crowded_Broken => first | rfl | kit_is | k_is); (case ki_Crowded_Nothing => first | rfl | kit_is | k_is); (case ki_Crowded_NoText => first | rfl | kit_is | k_is); (case ki_Crowded_NoCommand => first | rfl | kit_is | k_is)
    (case ki_Taken_Wrong => first | rfl | kit_is | k_is); (case ki_Taken_BadPair => first | rfl | kit_is | k_is); (case ki_Taken_NoKind => first | rfl | kit_is | k_is); (case ki_Taken_NotComplete => first | rfl | kit_is | k_is); (case ki_Taken_Lonely => first | rfl | kit_is | k_is); (case ki_Taken_TooMany => first | rfl | kit_is | k_is)
    (case ki_Taken_Crowded => first | rfl | kit_is | k_is); (case ki_Taken_Taken => first | rfl | kit_is | k_is); (case ki_Taken_NotWaiting => first | rfl | kit_is | k_is); (case ki_Taken_Full => first | rfl | kit_is | k_is); (case ki_Taken_Broken => first | rfl | kit_is | k_is); (case ki_Taken_Nothing => first | rfl | kit_is | k_is)
    (case ki_Taken_NoText => first | rfl | kit_is | k_is); (case ki_Taken_NoCommand => first | rfl | kit_is | k_is); (case ki_NotWaiting_Wrong => first | rfl | kit_is | k_is); (case ki_NotWaiting_BadPair => first | rfl | kit_is | k_is); (case ki_NotWaiting_NoKind => first | rfl | kit_is | k_is); (case ki_NotWaiting_NotComplete => first | rfl | kit_is | k_is)
    (case ki_NotWaiting_Lonely => first | rfl | kit_is | k_is); (case ki_NotWaiting_TooMany => first | rfl | kit_is | k_is); (case ki_NotWaiting_Crowded => first | rfl | kit_is | k_is); (case ki_NotWaiting_Taken => first | rfl | kit_is | k_is); (case ki_NotWaiting_NotWaiting => first | rfl | kit_is | k_is); (case ki_NotWaiting_Full => first | rfl | kit_is | k_is)
    (case ki_NotWaiting_Broken => first | rfl | kit_is | k_is); (case ki_NotWaiting_Nothing => first | rfl | kit_is | k_is); (case ki_NotWaiting_NoText => first | rfl | kit_is | k_is); (case ki_NotWaiting_NoCommand => first | rfl | kit_is | k_is); (case ki_Full_Wrong => first | rfl | kit_is | k_is); (case ki_Full_BadPair => first | rfl | kit_is | k_is)
    (case ki_Full_NoKind => first | rfl | kit_is | k_is); (case ki_Full_NotComplete => first | rfl | kit_is | k_is); (case ki_Full_Lonely => first | rfl | kit_is | k_is); (case ki_Full_TooMany => first | rfl | kit_is | k_is); (case ki_Full_Crowded => first | rfl | kit_is | k_is); (case ki_Full_Taken => first | rfl | kit_is | k_is)
    (case ki_Full_NotWaiting => first | rfl | kit_is | k_is); (case ki_Full_Full => first | rfl | kit_is | k_is); (case ki_Full_Broken => first | rfl | kit_is | k_is); (case ki_Full_Nothing => first | rfl | kit_is | k_is); (case ki_Full_NoText => first | rfl | kit_is | k_is); (case ki_Full_NoCommand => first | rfl | kit_is | k_is)
    (case ki_Broken_Wrong => first | rfl | kit_is | k_is); (case ki_Broken_BadPair => first | rfl | kit_is | k_is); (case ki_Broken_NoKind => first | rfl | kit_is | k_is); (case ki_Broken_NotComplete => first | rfl | kit_is | k_is); (case ki_Broken_Lonely => first | rfl | kit_is | k_is); (case ki_Broken_TooMany => first | rfl | kit_is | k_is)
    (case ki_Broken_Crowded => first | rfl | kit_is | k_is); (case ki_Broken_Taken => first | rfl | kit_is | k_is); (case ki_Broken_NotWaiting => first | rfl | kit_is | k_is); (case ki_Broken_Full => first | rfl | kit_is | k_is); (case ki_Broken_Broken => first | rfl | kit_is | k_is); (case ki_Broken_Nothing => first | rfl | kit_is | k_is)
    (case ki_Broken_NoText => first | rfl | kit_is | k_is); (case ki_Broken_NoCommand => first | rfl | kit_is | k_is); (case ki_Nothing_Wrong => first | rfl | kit_is | k_is); (case ki_Nothing_BadPair => first | rfl | kit_is | k_is); (case ki_Nothing_NoKind => first | rfl | kit_is | k_is); (case ki_Nothing_NotComplete => first | rfl | kit_is | k_is)
    (case ki_Nothing_Lonely => first | rfl | kit_is | k_is); (case ki_Nothing_TooMany => first | rfl | kit_is | k_is); (case ki_Nothing_Crowded => first | rfl | kit_is | k_is); (case ki_Nothing_Taken => first | rfl | kit_is | k_is); (case ki_Nothing_NotWaiting => first | rfl | kit_is | k_is); (case ki_Nothing_Full => first | rfl | kit_is | k_is)
    (case ki_Nothing_Broken => first | rfl | kit_is | k_is); (case ki_Nothing_Nothing => first | rfl | kit_is | k_is); (case ki_Nothing_NoText => first | rfl | kit_is | k_is); (case ki_Nothing_NoCommand => first | rfl | kit_is | k_is); (case ki_NoText_Wrong => first | rfl | kit_is | k_is); (case ki_NoText_BadPair => first | rfl | kit_is | k_is)
    (case ki_NoText_NoKind => first | rfl | kit_is | k_is); (case ki_NoText_NotComplete => first | rfl | kit_is | k_is); (case ki_NoText_Lonely => first | rfl | kit_is | k_is); (case ki_NoText_TooMany => first | rfl | kit_is | k_is); (case ki_NoText_Crowded => first | rfl | kit_is | k_is); (case ki_NoText_Taken => first | rfl | kit_is | k_is)
    (case ki_NoText_NotWaiting => first | rfl | kit_is | k_is); (case ki_NoText_Full => first | rfl | kit_is | k_is); (case ki_NoText_Broken => first | rfl | kit_is | k_is); (case ki_NoText_Nothing => first | rfl | kit_is | k_is); (case ki_NoText_NoText => first | rfl | kit_is | k_is); (case ki_NoText_NoCommand => first | rfl | kit_is | k_is)
    (case ki_NoCommand_Wrong => first | rfl | kit_is | k_is); (case ki_NoCommand_BadPair => first | rfl | kit_is | k_is); (case ki_NoCommand_NoKind => first | rfl | kit_is | k_is); (case ki_NoCommand_NotComplete => first | rfl | kit_is | k_is); (case ki_NoCommand_Lonely => first | rfl | kit_is | k_is); (case ki_NoCommand_TooMany => first | rfl | kit_is | k_is)
    (case ki_NoCommand_Crowded => first | rfl | kit_is | k_is); (case ki_NoCommand_Taken => first | rfl | kit_is | k_is); (case ki_NoCommand_NotWaiting => first | rfl | kit_is | k_is); (case ki_NoCommand_Full => first | rfl | kit_is | k_is); (case ki_NoCommand_Broken => first | rfl | kit_is | k_is); (case ki_NoCommand_Nothing => first | rfl | kit_is | k_is)
    (case ki_NoCommand_NoText => first | rfl | kit_is | k_is); (case ki_NoCommand_NoCommand => first | rfl | kit_is | k_is); (case ki_SuitError_Wrong => first | rfl | kit_is | k_is); (case ki_SuitError_BadPair => first | rfl | kit_is | k_is); (case ki_SuitError_NoKind => first | rfl | kit_is | k_is); (case ki_SuitError_NotComplete => first | rfl | kit_is | k_is)
    (case ki_SuitError_Lonely => first | rfl | kit_is | k_is); (case ki_SuitError_TooMany => first | rfl | kit_is | k_is); (case ki_SuitError_Crowded => first | rfl | kit_is | k_is); (case ki_SuitError_Taken => first | rfl | kit_is | k_is); (case ki_SuitError_NotWaiting => first | rfl | kit_is | k_is); (case ki_SuitError_Full => first | rfl | kit_is | k_is)
    (case ki_SuitError_Broken => first | rfl | kit_is | k_is); (case ki_SuitError_Nothing => first | rfl | kit_is | k_is); (case ki_SuitError_NoText => first | rfl | kit_is | k_is); (case ki_SuitError_NoCommand => first | rfl | kit_is | k_is); (case ki_Wrong_SuitError => first | rfl | kit_is | k_is); (case ki_Wrong_ValueError => first | rfl | kit_is | k_is)
    (case ki_BadPair_SuitError => first | rfl | kit_is | k_is); (case ki_BadPair_ValueError => first | rfl | kit_is | k_is); (case ki_NoKind_SuitError => first | rfl | kit_is | k_is); (case ki_NoKind_ValueError => first | rfl | kit_is | k_is); (case ki_NotComplete_SuitError => first | rfl | kit_is | k_is); (case ki_NotComplete_ValueError => first | rfl | kit_is | k_is)
    (case ki_Lonely_SuitError => first | rfl | kit_is | k_is); (case ki_Lonely_ValueError => first | rfl | kit_is | k_is); (case ki_TooMany_SuitError => first | rfl | kit_is | k_is); (case ki_TooMany_ValueError => first | rfl | kit_is | k_is); (case ki_Crowded_SuitError => first | rfl | kit_is | k_is); (case ki_Crowded_ValueError => first | rfl | kit_is | k_is)
    (case ki_Taken_SuitError => first | rfl | kit_is | k_is); (case ki_Taken_ValueError => first | rfl | kit_is | k_is); (case ki_NotWaiting_SuitError => first | rfl | kit_is | k_is); (case ki_NotWaiting_ValueError => first | rfl | kit_is | k_is); (case ki_Full_SuitError => first | rfl | kit_is | k_is); (case ki_Full_ValueError => first | rfl | kit_is | k_is)
    (case ki_Broken_SuitError => first | rfl | kit_is | k_is); (case ki_Broken_ValueError => first | rfl | kit_is | k_is); (case ki_Nothing_SuitError => first | rfl | kit_is | k_is); (case ki_Nothing_ValueError => first | rfl | kit_is | k_is); (case ki_NoText_SuitError => first | rfl | kit_is | k_is); (case ki_NoText_ValueError => first | rfl | kit_is | k_is)
    (case ki_NoCommand_SuitError => first | rfl | kit_is | k_is); (case ki_NoCommand_ValueError => first | rfl | kit_is | k_is); (case ki_SuitError_ValueError => first | rfl | kit_is | k_is); (case xL_TooMany => k_is); (case xsa_TooMany => k_is); (case xi_TooMany => k_is)
    (case xt_TooMany => k_is); (case xkp_TooMany => k_is); (case xty_TooMany => k_is); (case xl_TooMany => k_is); (case xcc2_TooMany => k_is); (case xcl_TooMany => k_is)
    (case xco2_TooMany => k_is); (case xfv_TooMany => rfl); (case xff_TooMany => first | rfl | decide +kernel); (case xsp_TooMany => first | ks_is | rfl | k_is); (case xsv_TooMany => k_is); (case xsc_TooMany => first | rfl | k_is)
    (case xopq => k_is); (case xns => k_is); (case xtop => first | rfl | decide +kernel); (case xL_Lonely => k_is); (case xsa_Lonely => k_is); (case xi_Lonely => k_is)
    (case xt_Lonely => k_is); (case xkp_Lonely => k_is); (case xty_Lonely => k_is); (case xl_Lonely => k_is); (case xcc2_Lonely => k_is); (case xcl_Lonely => k_is)
    (case xco2_Lonely => k_is); (case xfv_Lonely => rfl); (case xff_Lonely => first | rfl | decide +kernel); (case xsp_Lonely => first | ks_is | rfl | k_is); (case xsv_Lonely => k_is); (case xsc_Lonely => first | rfl | k_is)
    (case xL_NotComplete => k_is); (case xsa_NotComplete => k_is); (case xi_NotComplete => k_is); (case xt_NotComplete => k_is); (case xkp_NotComplete => k_is); (case xty_NotComplete => k_is)
    (case xl_NotComplete => k_is); (case xcc2_NotComplete => k_is); (case xcl_NotComplete => k_is); (case xco2_NotComplete => k_is); (case xfv_NotComplete => rfl); (case xff_NotComplete => first | rfl | decide +kernel)
    (case xsp_NotComplete => first | ks_is | rfl | k_is); (case xsv_NotComplete => k_is); (case xsc_NotComplete => first | rfl | k_is); (case xL_NoKind => k_is); (case xsa_NoKind => k_is); (case xi_NoKind => k_is)
    (case xt_NoKind => k_is); (case xkp_NoKind => k_is); (case xty_NoKind => k_is); (case xl_NoKind => k_is); (case xcc2_NoKind => k_is); (case xcl_NoKind => k_is)
    (case xco2_NoKind => k_is); (case xfv_NoKind => rfl); (case xff_NoKind => first | rfl | decide +kernel); (case xsp_NoKind => first | ks_is | rfl | k_is); (case xsv_NoKind => k_is); (case xsc_NoKind => first | rfl | k_is)
    (case xL_BadPair => k_is); (case xsa_BadPair => k_is); (case xi_BadPair => k_is); (case xt_BadPair => k_is); (case xkp_BadPair => k_is); (case xty_BadPair => k_is)
    (case xl_BadPair => k_is); (case xcc2_BadPair => k_is); (case xcl_BadPair => k_is); (case xco2_BadPair => k_is); (case xfv_BadPair => rfl); (case xff_BadPair => first | rfl | decide +kernel)
    (case xsp_BadPair => first | ks_is | rfl | k_is); (case xsv_BadPair => k_is); (case xsc_BadPair => first | rfl | k_is); (case xL_Wrong => k_is); (case xsa_Wrong => k_is); (case xi_Wrong => k_is)
    (case xt_Wrong => k_is); (case xkp_Wrong => k_is); (case xty_Wrong => k_is); (case xl_Wrong => k_is); (case xcc2_Wrong => k_is); (case xcl_Wrong => k_is)
    (case xco2_Wrong => k_is); (case xfv_Wrong => rfl); (case xff_Wrong => first | rfl | decide +kernel); (case xsp_Wrong => first | ks_is | rfl | k_is); (case xsv_Wrong => k_is); (case xsc_Wrong => first | rfl | k_is)
    (case xL_Broken => k_is); (case xsa_Broken => k_is); (case xi_Broken => k_is); (case xt_Broken => k_is); (case xkp_Broken => k_is); (case xty_Broken => k_is)
    (case xl_Broken => k_is); (case xcc2_Broken => k_is); (case xcl_Broken => k_is); (case xco2_Broken => k_is); (case xfv_Broken => rfl); (case xff_Broken => first | rfl | decide +kernel)
    (case xsp_Broken => first | ks_is | rfl | k_is); (case xsv_Broken => k_is); (case xsc_Broken => first | rfl | k_is); (case xL_Full => k_is); (case xsa_Full => k_is); (case xi_Full => k_is)
    (case xt_Full => k_is); (case xkp_Full => k_is); (case xty_Full => k_is); (case xl_Full => k_is); (case xcc2_Full => k_is); (case xcl_Full => k_is)
    (case xco2_Full => k_is); (case xfv_Full => rfl); (case xff_Full => first | rfl | decide +kernel); (case xsp_Full => first | ks_is | rfl | k_is); (case xsv_Full => k_is); (case xsc_Full => first | rfl | k_is)
    (case xL_NotWaiting => k_is); (case xsa_NotWaiting => k_is); (case xi_NotWaiting => k_is); (case xt_NotWaiting => k_is); (case xkp_NotWaiting => k_is); (case xty_NotWaiting => k_is)
    (case xl_NotWaiting => k_is); (case xcc2_NotWaiting => k_is); (case xcl_NotWaiting => k_is); (case xco2_NotWaiting => k_is); (case xfv_NotWaiting => rfl); (case xff_NotWaiting => first | rfl | decide +kernel)
    (case xsp_NotWaiting => first | ks_is | rfl | k_is); (case xsv_NotWaiting => k_is); (case xsc_NotWaiting => first | rfl | k_is); (case xL_Taken => k_is); (case xsa_Taken => k_is); (case xi_Taken => k_is)
    (case xt_Taken => k_is); (case xkp_Taken => k_is); (case xty_Taken => k_is); (case xl_Taken => k_is); (case xcc2_Taken => k_is); (case xcl_Taken => k_is)
    (case xco2_Taken => k_is); (case xfv_Taken => rfl); (case xff_Taken => first | rfl | decide +kernel); (case xsp_Taken => first | ks_is | rfl | k_is); (case xsv_Taken => k_is); (case xsc_Taken => first | rfl | k_is)
    (case xL_Crowded => k_is); (case xsa_Crowded => k_is); (case xi_Crowded => k_is); (case xt_Crowded => k_is); (case xkp_Crowded => k_is); (case xty_Crowded => k_is)
    (case xl_Crowded => k_is); (case xcc2_Crowded => k_is); (case xcl_Crowded => k_is); (case xco2_Crowded => k_is); (case xfv_Crowded => rfl); (case xff_Crowded => first | rfl | decide +kernel)
    (case xsp_Crowded => first | ks_is | rfl | k_is); (case xsv_Crowded => k_is); (case xsc_Crowded => first | rfl | k_is); (case xL_NoCommand => k_is); (case xi_NoCommand => k_is); (case xt_NoCommand => k_is)
    (case xkp_NoCommand => k_is); (case xty_NoCommand => k_is); (case xl_NoCommand => k_is); (case xcc2_NoCommand => k_is); (case xcl_NoCommand => k_is); (case xco2_NoCommand => k_is)
    (case xfv_NoCommand => rfl); (case xff_NoCommand => first | rfl | decide +kernel); (case xsp_NoCommand => first | ks_is | rfl | k_is); (case xsv_NoCommand => k_is); (case xsc_NoCommand => first | rfl | k_is); (case xL_NoText => k_is)
    (case xi_NoText => k_is); (case xt_NoText => k_is); (case xkp_NoText => k_is); (case xty_NoText => k_is); (case xl_NoText => k_is); (case xcc2_NoText => k_is)
    (case xcl_NoText => k_is); (case xco2_NoText => k_is); (case xfv_NoText => rfl); (case xff_NoText => first | rfl | decide +kernel); (case xsp_NoText => first | ks_is | rfl | k_is); (case xsv_NoText => k_is)
    (case xsc_NoText => first | rfl | k_is); (case xL_Nothing => k_is); (case xi_Nothing => k_is); (case xt_Nothing => k_is); (case xkp_Nothing => k_is); (case xty_Nothing => k_is)
    (case xl_Nothing => k_is); (case xcc2_Nothing => k_is); (case xcl_Nothing => k_is); (case xco2_Nothing => k_is); (case xfv_Nothing => rfl); (case xff_Nothing => first | rfl | decide +kernel)
    (case xsp_Nothing => first | ks_is | rfl | k_is); (case xsv_Nothing => k_is); (case xsc_Nothing => first | rfl | k_is); (case xL_SuitError => first | k_exc | rfl | decide +kernel); (case xi_SuitError => k_is); (case xkp_SuitError => k_is)
    (case a0 => k_is); (case l0 => k_is); (case c0 => k_is); (case k0 => k_is); (case a1 => k_is); (case l1 => k_is)
    (case c1 => k_is); (case k1 => k_is); (case a2 => k_is); (case l2 => k_is); (case c2 => k_is); (case k2 => k_is)
    (case a3 => k_is); (case l3 => k_is); (case c3 => k_is); (case k3 => k_is); (case a4 => k_is); (case l4 => k_is)
    (case c4 => k_is); (case k4 => k_is); (case a5 => k_is); (case l5 => k_is); (case c5 => k_is); (case k5 => k_is)
    (case z_abs => k_is); (case z_len => k_is); (case z_isinstance => k_is); (case z_range => k_is); (case z_ValueError => k_is); (case z_list => k_is)
    (case z_dict => k_is); (case z_any => k_is)
