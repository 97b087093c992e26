import PyProof.Rows.All
import PySem.Challenge.RW_untorn_k47_orders_that_see_the_same
import Wide.All
import OpenK.AllK
import Wide.FinOn
import HandS.ForMost
import HandS.Zip
import HandS.Style
import HandS.Star
import KE.DataEq
import KE.GoesEnum
import KE.GoesMore
import HandS.WordsExc
import HandS.Defaults
import HandS.Conv
import HandS.Wide
import HandS.TupAny
import HandS.RaiseMore
import HandS.Strs
import KE.KIndexOf
import HandS.SortInts
import HandS.Dict
import HandS.TryOnly
import HandS.List
import PyProof.ReprRoads
import HandS.Sort
import HandS.WideMore
import KE.SortKeyHeap
import HandS.SortKw
import PyProof.TupleOfSeq
import HandS.DictEq
import KE.KDictPairs
import KE.KDictZip
import PyProof.StrLawsRepr
set_option Elab.async false
set_option linter.all false
set_option maxRecDepth 100000
set_option maxHeartbeats 4000000
set_option autoImplicit false
/-! Mir0: plain trees for frozen Python values, live cells, the relation with the abstract heap, readings made of plain functions. -/
namespace Mir
open PySem PySem.Spec L2
open PyProof.Rows hiding St

/-- a frozen value as a tree -/
inductive T where
  | non | bl (b : Bool) | int (i : Int) | str (s : Str) | ty (n : String)
  | tup (xs : List T) | lst (xs : List T) | scr (xs : List T) | pr (xs : List T)
  | dic (ks : List Key) (vs : List T) | ins (c : Str) (ns : List Str) (vs : List T)
  | cls (c : Str) | dit (ks : List (List Key)) (vs : List T) | exc (c : Str) (ns : List Str) (vs : List T)
/-- a value: a tree, or a live cell -/
inductive W where
  | t (x : T) | r (i : Nat)
inductive Cell where
  | lst (xs : List W)
  | dic (kvs : List (Key × W))
  | ins (c : Str) (fs : List (Str × W))
  | dit (kvs : List (T × W))
  | tpl (ws : List W)
abbrev IH := List (Option Cell)
structure Ex where
  cls : Str
  fs : List (Str × W)
inductive Res (A : Type) where
  | ok (a : A) (h : IH) | er (e : Ex) (eta : List (Option W)) (h : IH) | bad
abbrev IS := List (Option W)
abbrev M (A : Type) := IS → IH → Res A
def Res.bind {A B : Type} (r : Res A) (k : A → IH → Res B) : Res B := match r with
  | .ok a h => k a h
  | .er e eta h => .er e eta h
  | .bad => .bad

/-- the state of the relation -/
structure S4 where
  rho : List Addr
  fz : Addr → Prop
  hp : IH
  H : Hp

def KTup (K : PySem.W.Frag) (a : Addr) (xs : List V) : Prop :=
  ∃ (o : Obj) (its : Array Value) (n : Nat), K.lookup a = some o ∧ o.cls = .type "tuple" ∧ o.dict = none ∧ o.data = .seq its n ∧ its.size ≤ sizeLine ∧ Vals xs its.toList
def KLst (K : PySem.W.Frag) (a : Addr) (xs : List V) : Prop :=
  ∃ (o : Obj) (its : Array Value) (n : Nat), K.lookup a = some o ∧ o.cls = .type "list" ∧ o.dict = none ∧ o.data = .seq its n ∧ its.size ≤ sizeLine ∧ Vals xs its.toList
def FTup (K : PySem.W.Frag) (fz : Addr → Prop) (H : Hp) (a : Addr) (xs : List V) : Prop := (fz a ∧ ∃ o : Obj, H a = some (.frz o (.tup xs)) ∧ o.dict = none) ∨ KTup K a xs
/-- a pair that a walk lays -/
def FPr (fz : Addr → Prop) (H : Hp) (a : Addr) (xs : List V) : Prop := fz a ∧ H a = some (.tup xs)
/-- a dict whose keys are tuples -/
def FDit (fz : Addr → Prop) (H : Hp) (a : Addr) (kvs : List (List Key × V)) : Prop := fz a ∧ H a = some (.dT kvs)
def FLst (fz : Addr → Prop) (H : Hp) (a : Addr) (xs : List V) : Prop := fz a ∧ H a = some (.lst xs)
def FDic (fz : Addr → Prop) (H : Hp) (a : Addr) (kvs : List (Key × V)) : Prop := fz a ∧ ∃ o, H a = some (.frz o (.dK kvs))
def FScr (K : PySem.W.Frag) (fz : Addr → Prop) (H : Hp) (a : Addr) (xs : List V) : Prop := (fz a ∧ ∃ o, H a = some (.frz o (.lst xs))) ∨ KLst K a xs

/-- the class that the module's name c holds -/
def CN (K : PySem.W.Frag) (c : Str) (C : Addr) : Prop := PySem.W.nsIn K mainGlobals c = some (some (.ref C))
/-- a frozen instance -/
def FIns (fz : Addr → Prop) (H : Hp) (a C : Addr) (fs : List (Str × V)) : Prop := fz a ∧ ∃ dx, H a = some (.ins C dx fs)
mutual
def Rf (K : PySem.W.Frag) (fz : Addr → Prop) (H : Hp) : T → V → Prop
  | .non, v => v = .non
  | .bl b, v => v = .bl b
  | .int i, v => v = .int i
  | .str s, v => v = .str s
  | .ty n, v => v = .ty n
  | .tup xs, v => ∃ a vs, v = .ref a ∧ FTup K fz H a vs ∧ RfL K fz H xs vs
  | .lst xs, v => ∃ a vs, v = .ref a ∧ FLst fz H a vs ∧ RfL K fz H xs vs
  | .scr xs, v => ∃ a vs, v = .ref a ∧ FScr K fz H a vs ∧ RfL K fz H xs vs
  | .pr xs, v => ∃ a vs, v = .ref a ∧ FPr fz H a vs ∧ RfL K fz H xs vs
  | .dic ks xs, v => ∃ a vs, v = .ref a ∧ FDic fz H a (ks.zip vs) ∧ ks.length = xs.length ∧ RfL K fz H xs vs
  | .cls c, v => ∃ C, v = .ref C ∧ CN K c C
  | .dit ks xs, v => ∃ a vs, v = .ref a ∧ FDit fz H a (ks.zip vs) ∧ ks.length = xs.length ∧ RfL K fz H xs vs
  | .exc _ _ _, _ => False
  | .ins c ns xs, v => ∃ a C vs, v = .ref a ∧ CN K c C ∧ FIns fz H a C (ns.zip vs) ∧ ns.length = xs.length ∧ RfL K fz H xs vs
def RfL (K : PySem.W.Frag) (fz : Addr → Prop) (H : Hp) : List T → List V → Prop
  | [], vs => vs = []
  | x :: xs, vs => ∃ v r, vs = v :: r ∧ Rf K fz H x v ∧ RfL K fz H xs r
end

def Rw (K : PySem.W.Frag) (s : S4) : W → V → Prop
  | .t x, v => Rf K s.fz s.H x v
  | .r i, v => ∃ a, s.rho[i]? = some a ∧ v = .ref a
def RwL (K : PySem.W.Frag) (s : S4) : List W → List V → Prop
  | [], vs => vs = []
  | x :: xs, vs => ∃ v r, vs = v :: r ∧ Rw K s x v ∧ RwL K s xs r
def RwK (K : PySem.W.Frag) (s : S4) : List (Key × W) → List (Key × V) → Prop
  | [], vs => vs = []
  | x :: xs, vs => ∃ v r, vs = (x.1, v) :: r ∧ Rw K s x.2 v ∧ RwK K s xs r

def RwF (K : PySem.W.Frag) (s : S4) : List (Str × W) → List (Str × V) → Prop
  | [], vs => vs = []
  | x :: xs, vs => ∃ v r, vs = (x.1, v) :: r ∧ Rw K s x.2 v ∧ RwF K s xs r

def CellOk (K : PySem.W.Frag) (s : S4) : Cell → Option HO → Prop
  | .lst ws, o => ∃ vs, o = some (.lst vs) ∧ RwL K s ws vs
  | .dic kvs, o => ∃ vs, o = some (.dK vs) ∧ RwK K s kvs vs
  | .ins c fs, o => ∃ C dx vs, o = some (.ins C dx vs) ∧ CN K c C ∧ RwF K s fs vs
  | .dit _, _ => False
  | .tpl ws, o => ∃ ob vs, o = some (.frz ob (.tup vs)) ∧ ob.dict = none ∧ RwL K s ws vs

def Live (s : S4) (a : Addr) : Prop := ∃ (i : Nat) (c : Cell), s.hp[i]? = some (some c) ∧ s.rho[i]? = some a

structure Rel (K : PySem.W.Frag) (s : S4) : Prop where
  len : s.rho.length = s.hp.length
  nd : s.rho.Nodup
  trk : ∀ a ∈ s.rho, s.H a ≠ none
  ftrk : ∀ a, s.fz a → s.H a ≠ none
  fz : ∀ a, Live s a → ¬ s.fz a
  cell : ∀ (i : Nat) (c : Cell) (a : Addr), s.hp[i]? = some (some c) → s.rho[i]? = some a → CellOk K s c (s.H a)

structure Aft (s s' : S4) : Prop where
  pre : ∃ ex, s'.rho = s.rho ++ ex ∧ ∀ a ∈ ex, s.H a = none
  fz : ∀ a, s.fz a → s'.fz a
  keep : ∀ a o, s.H a = some o → ¬ Live s a → s'.H a = some o
  fnew : ∀ a, s'.fz a → s.fz a ∨ s.H a = none ∨ Live s a
  live : ∀ a, Live s' a → Live s a ∨ s.H a = none
  trk : ∀ a, s.H a ≠ none → s'.H a ≠ none

theorem Aft.refl (s : S4) : Aft s s := ⟨⟨[], by simp, by simp⟩, fun _ h => h, fun _ _ h _ => h, fun _ h => .inl h, fun _ h => .inl h, fun _ h => h⟩
theorem Aft.trans {s s1 s2 : S4} (a : Aft s s1) (b : Aft s1 s2) : Aft s s2 := by
  have none_of : ∀ x, s1.H x = none → s.H x = none := fun x h => by
    cases q : s.H x with
    | none => rfl
    | some o => exact absurd h (a.trk x (by rw [q]; intro z; cases z))
  refine ⟨?_, fun x h => b.fz x (a.fz x h), fun x o h nl => ?_, fun x h => ?_, fun x h => ?_, fun x h => b.trk x (a.trk x h)⟩
  · obtain ⟨e1, p1, q1⟩ := a.pre
    obtain ⟨e2, p2, q2⟩ := b.pre
    refine ⟨e1 ++ e2, by rw [p2, p1, List.append_assoc], fun x hx => ?_⟩
    rcases List.mem_append.mp hx with hx | hx
    · exact q1 x hx
    · exact none_of x (q2 x hx)
  · refine b.keep x o (a.keep x o h nl) fun l => ?_
    rcases a.live x l with l | l
    · exact nl l
    · rw [l] at h; cases h
  · rcases b.fnew x h with h | h | h
    · exact a.fnew x h
    · exact .inr (.inl (none_of x h))
    · rcases a.live x h with h | h
      · exact .inr (.inr h)
      · exact .inr (.inl h)
  · rcases b.live x h with h | h
    · exact a.live x h
    · exact .inr (none_of x h)

section
variable {K : PySem.W.Frag} {s s' : S4}
theorem FTup.aft {a : Addr} {xs : List V} (h : FTup K s.fz s.H a xs) (A : Aft s s') (R : Rel K s) : FTup K s'.fz s'.H a xs := by
  rcases h with ⟨f, o, h, d⟩ | h
  · exact .inl ⟨A.fz a f, o, A.keep a _ h fun l => R.fz a l f, d⟩
  · exact .inr h
theorem FPr.aft {a : Addr} {xs : List V} (h : FPr s.fz s.H a xs) (A : Aft s s') (R : Rel K s) : FPr s'.fz s'.H a xs := by
  obtain ⟨f, h⟩ := h
  exact ⟨A.fz a f, A.keep a _ h fun l => R.fz a l f⟩
theorem FDit.aft {a : Addr} {xs : List (List Key × V)} (h : FDit s.fz s.H a xs) (A : Aft s s') (R : Rel K s) : FDit s'.fz s'.H a xs := by
  obtain ⟨f, h⟩ := h
  exact ⟨A.fz a f, A.keep a _ h fun l => R.fz a l f⟩
theorem FLst.aft {a : Addr} {xs : List V} (h : FLst s.fz s.H a xs) (A : Aft s s') (R : Rel K s) : FLst s'.fz s'.H a xs :=
  ⟨A.fz a h.1, A.keep a _ h.2 fun l => R.fz a l h.1⟩
theorem FDic.aft {a : Addr} {xs : List (Key × V)} (h : FDic s.fz s.H a xs) (A : Aft s s') (R : Rel K s) : FDic s'.fz s'.H a xs :=
  let ⟨o, e⟩ := h.2; ⟨A.fz a h.1, o, A.keep a _ e fun l => R.fz a l h.1⟩
theorem FIns.aft {a C : Addr} {fs : List (Str × V)} (h : FIns s.fz s.H a C fs) (A : Aft s s') (R : Rel K s) : FIns s'.fz s'.H a C fs :=
  let ⟨dx, e⟩ := h.2; ⟨A.fz a h.1, dx, A.keep a _ e fun l => R.fz a l h.1⟩
theorem FScr.aft {a : Addr} {xs : List V} (h : FScr K s.fz s.H a xs) (A : Aft s s') (R : Rel K s) : FScr K s'.fz s'.H a xs :=
  h.imp (fun h => let ⟨o, e⟩ := h.2; ⟨A.fz a h.1, o, A.keep a _ e fun l => R.fz a l h.1⟩) id
mutual
theorem Rf.aft (A : Aft s s') (R : Rel K s) : ∀ (x : T) (v : V), Rf K s.fz s.H x v → Rf K s'.fz s'.H x v
  | .non, _, h => by simpa [Rf] using h
  | .bl _, _, h => by simpa [Rf] using h
  | .int _, _, h => by simpa [Rf] using h
  | .str _, _, h => by simpa [Rf] using h
  | .ty _, _, h => by simpa [Rf] using h
  | .cls _, _, h => by simpa [Rf] using h
  | .exc _ _ _, _, h => by simp [Rf] at h
  | .tup xs, v, h => by
    simp only [Rf] at h ⊢
    obtain ⟨a, vs, e, t, l⟩ := h
    exact ⟨a, vs, e, t.aft A R, RfL.aft A R xs vs l⟩
  | .lst xs, v, h => by
    simp only [Rf] at h ⊢
    obtain ⟨a, vs, e, t, l⟩ := h
    exact ⟨a, vs, e, t.aft A R, RfL.aft A R xs vs l⟩
  | .scr xs, v, h => by
    simp only [Rf] at h ⊢
    obtain ⟨a, vs, e, t, l⟩ := h
    exact ⟨a, vs, e, t.aft A R, RfL.aft A R xs vs l⟩
  | .pr xs, v, h => by
    simp only [Rf] at h ⊢
    obtain ⟨a, vs, e, t, l⟩ := h
    exact ⟨a, vs, e, t.aft A R, RfL.aft A R xs vs l⟩
  | .dic ks xs, v, h => by
    simp only [Rf] at h ⊢
    obtain ⟨a, vs, e, t, n, l⟩ := h
    exact ⟨a, vs, e, t.aft A R, n, RfL.aft A R xs vs l⟩
  | .dit ks xs, v, h => by
    simp only [Rf] at h ⊢
    obtain ⟨a, vs, e, t, n, l⟩ := h
    exact ⟨a, vs, e, t.aft A R, n, RfL.aft A R xs vs l⟩
  | .ins c ns xs, v, h => by
    simp only [Rf] at h ⊢
    obtain ⟨a, C, vs, e, cn, t, n, l⟩ := h
    exact ⟨a, C, vs, e, cn, t.aft A R, n, RfL.aft A R xs vs l⟩
theorem RfL.aft (A : Aft s s') (R : Rel K s) : ∀ (xs : List T) (vs : List V), RfL K s.fz s.H xs vs → RfL K s'.fz s'.H xs vs
  | [], _, h => by simpa [RfL] using h
  | x :: xs, vs, h => by
    simp only [RfL] at h ⊢
    obtain ⟨v, r, e, a, b⟩ := h
    exact ⟨v, r, e, Rf.aft A R x v a, RfL.aft A R xs r b⟩
end
theorem Rw.aft {w : W} {v : V} (h : Rw K s w v) (A : Aft s s') (R : Rel K s) : Rw K s' w v := by
  cases w with
  | t x => exact Rf.aft A R x v h
  | r i =>
    obtain ⟨a, e1, e2⟩ := h
    obtain ⟨ex, p, _⟩ := A.pre
    exact ⟨a, by rw [p, List.getElem?_append_left (List.getElem?_eq_some_iff.mp e1).1]; exact e1, e2⟩
theorem RwL.aft (A : Aft s s') (R : Rel K s) : ∀ (ws : List W) (vs : List V), RwL K s ws vs → RwL K s' ws vs
  | [], _, h => h
  | x :: xs, vs, h => by
    obtain ⟨v, r, e, a, b⟩ := h
    exact ⟨v, r, e, a.aft A R, RwL.aft A R xs r b⟩
theorem RwK.aft (A : Aft s s') (R : Rel K s) : ∀ (ws : List (Key × W)) (vs : List (Key × V)), RwK K s ws vs → RwK K s' ws vs
  | [], _, h => h
  | x :: xs, vs, h => by
    obtain ⟨v, r, e, a, b⟩ := h
    exact ⟨v, r, e, a.aft A R, RwK.aft A R xs r b⟩
theorem RwF.aft (A : Aft s s') (R : Rel K s) : ∀ (ws : List (Str × W)) (vs : List (Str × V)), RwF K s ws vs → RwF K s' ws vs
  | [], _, h => h
  | x :: xs, vs, h => by
    obtain ⟨v, r, e, a, b⟩ := h
    exact ⟨v, r, e, a.aft A R, RwF.aft A R xs r b⟩
theorem CellOk.aft {c : Cell} {o : Option HO} (h : CellOk K s c o) (A : Aft s s') (R : Rel K s) : CellOk K s' c o := by
  cases c with
  | lst ws => obtain ⟨vs, e, l⟩ := h; exact ⟨vs, e, RwL.aft A R ws vs l⟩
  | dic kvs => obtain ⟨vs, e, l⟩ := h; exact ⟨vs, e, RwK.aft A R kvs vs l⟩
  | ins c fs => obtain ⟨C, dx, vs, e, cn, l⟩ := h; exact ⟨C, dx, vs, e, cn, RwF.aft A R fs vs l⟩
  | dit _ => exact h.elim
  | tpl ws => obtain ⟨ob, vs, e, d, l⟩ := h; exact ⟨ob, vs, e, d, RwL.aft A R ws vs l⟩

theorem RwL.length : ∀ {ws : List W} {vs : List V}, RwL K s ws vs → ws.length = vs.length
  | [], _, h => by rw [show _ = [] from h]; rfl
  | x :: xs, vs, h => by
    obtain ⟨v, r, e, a, b⟩ := h
    rw [e, List.length_cons, List.length_cons, RwL.length b]
theorem RfL.length : ∀ {ws : List T} {vs : List V}, RfL K s.fz s.H ws vs → ws.length = vs.length
  | [], _, h => by simp only [RfL] at h; rw [h]; rfl
  | x :: xs, vs, h => by
    simp only [RfL] at h
    obtain ⟨v, r, e, a, b⟩ := h
    rw [e, List.length_cons, List.length_cons, RfL.length b]
theorem RwL.get : ∀ {ws : List W} {vs : List V} {i : Nat} {w : W}, RwL K s ws vs → ws[i]? = some w → ∃ v, vs[i]? = some v ∧ Rw K s w v
  | [], _, _, _, _, h => by simp at h
  | x :: xs, vs, 0, w, h, e => by
    obtain ⟨v, r, e', a, b⟩ := h
    simp at e
    subst e
    exact ⟨v, by rw [e']; rfl, a⟩
  | x :: xs, vs, i + 1, w, h, e => by
    obtain ⟨v, r, e', a, b⟩ := h
    obtain ⟨v', h1, h2⟩ := RwL.get (i := i) (w := w) b (by simpa using e)
    exact ⟨v', by rw [e']; simpa using h1, h2⟩
theorem RfL.get : ∀ {ws : List T} {vs : List V} {i : Nat} {w : T}, RfL K s.fz s.H ws vs → ws[i]? = some w → ∃ v, vs[i]? = some v ∧ Rf K s.fz s.H w v
  | [], _, _, _, _, h => by simp at h
  | x :: xs, vs, 0, w, h, e => by
    simp only [RfL] at h
    obtain ⟨v, r, e', a, b⟩ := h
    simp at e
    subst e
    exact ⟨v, by rw [e']; rfl, a⟩
  | x :: xs, vs, i + 1, w, h, e => by
    simp only [RfL] at h
    obtain ⟨v, r, e', a, b⟩ := h
    obtain ⟨v', h1, h2⟩ := RfL.get (i := i) (w := w) b (by simpa using e)
    exact ⟨v', by rw [e']; simpa using h1, h2⟩
/-- trees among values -/
theorem RwL.of_trees : ∀ {ts : List T} {vs : List V}, RwL K s (ts.map W.t) vs ↔ RfL K s.fz s.H ts vs
  | [], vs => by simp [RwL, RfL]
  | x :: xs, vs => by
    simp only [List.map_cons, RwL, RfL, Rw]
    constructor
    · rintro ⟨v, r, e, a, b⟩; exact ⟨v, r, e, a, RwL.of_trees.mp b⟩
    · rintro ⟨v, r, e, a, b⟩; exact ⟨v, r, e, a, RwL.of_trees.mpr b⟩
theorem RwL.append : ∀ {ws ws' : List W} {vs vs' : List V}, RwL K s ws vs → RwL K s ws' vs' → RwL K s (ws ++ ws') (vs ++ vs')
  | [], _, _, _, h, h' => by rw [show _ = [] from h]; exact h'
  | x :: xs, _, vs, _, h, h' => by
    obtain ⟨v, r, e, a, b⟩ := h
    rw [e]
    exact ⟨v, _, rfl, a, RwL.append b h'⟩
theorem FTup.sq {fz : Addr → Prop} {H : Hp} {a : Addr} {xs : List V} (h : FTup K fz H a xs) : SqT K H a xs := by
  rcases h with ⟨_, o, h, _⟩ | ⟨o, its, n, h1, h2, _, h3⟩
  · exact .inl (.inr ⟨o, h⟩)
  · exact .inr ⟨o, its, n, h1, h2, h3⟩
theorem FPr.sq {K : PySem.W.Frag} {fz : Addr → Prop} {H : Hp} {a : Addr} {xs : List V} (h : FPr fz H a xs) : SqT K H a xs := .inl (.inl h.2)
theorem FLst.sq {K : PySem.W.Frag} {fz : Addr → Prop} {H : Hp} {a : Addr} {xs : List V} (h : FLst fz H a xs) : SqL K H a xs := .inl (.inl h.2)
theorem FScr.sq {K : PySem.W.Frag} {fz : Addr → Prop} {H : Hp} {a : Addr} {xs : List V} (h : FScr K fz H a xs) : SqL K H a xs := h.elim (fun h => let ⟨o, e⟩ := h.2; .inl (.inr ⟨o, e⟩)) .inr
end

/-! ### slots -/
def Sl (K : PySem.W.Frag) (s : S4) (eta : IS) (σ : St) : Prop :=
  eta.length = σ.length ∧ ∀ (i : Nat) (w : W), eta[i]? = some (some w) → ∃ v, σ[i]? = some (some v) ∧ Rw K s w v
theorem Sl.aft {K : PySem.W.Frag} {s s' : S4} {eta : IS} {σ : St} (h : Sl K s eta σ) (A : Aft s s') (R : Rel K s) : Sl K s' eta σ :=
  ⟨h.1, fun i w e => let ⟨v, a, b⟩ := h.2 i w e; ⟨v, a, b.aft A R⟩⟩
theorem Sl.set {K : PySem.W.Frag} {s : S4} {eta : IS} {σ : St} {w : W} {v : V} (h : Sl K s eta σ) (i : Nat) (r : Rw K s w v) : Sl K s (eta.set i (some w)) (σ.set i (some v)) := by
  refine ⟨by simp [h.1], fun j u e => ?_⟩
  by_cases hj : i = j
  · subst hj
    by_cases hl : i < eta.length
    · rw [List.getElem?_set_self hl] at e
      cases e
      exact ⟨v, by rw [List.getElem?_set_self (by rw [← h.1]; exact hl)], r⟩
    · rw [List.getElem?_eq_none (by simpa using hl)] at e
      cases e
  · rw [List.getElem?_set_ne hj] at e
    obtain ⟨x, a, b⟩ := h.2 j u e
    exact ⟨x, by rw [List.getElem?_set_ne hj]; exact a, b⟩
theorem Sl.wipe {K : PySem.W.Frag} {s : S4} {eta : IS} {σ : St} (h : Sl K s eta σ) : ∀ (vs : List Nat), Sl K s (vs.foldr (fun v e => e.set v none) eta) (wipe σ vs)
  | [] => h
  | v :: vs => by
    have ih := Sl.wipe h vs
    refine ⟨by simp only [List.foldr_cons, L2.wipe, List.length_set]; exact ih.1, fun j u e => ?_⟩
    simp only [List.foldr_cons] at e
    by_cases hj : v = j
    · subst hj
      by_cases hl : v < (vs.foldr (fun v e => e.set v none) eta).length
      · rw [List.getElem?_set_self hl] at e; cases e
      · rw [List.getElem?_eq_none (by simpa using hl)] at e; cases e
    · rw [List.getElem?_set_ne hj] at e
      obtain ⟨x, a, b⟩ := ih.2 j u e
      exact ⟨x, by simp only [L2.wipe]; rw [List.getElem?_set_ne hj]; exact a, b⟩

/-! ### what a result asks -/
/-- how a raised error lies: its class by name, its fields in its own dict -/
def ExR (K : PySem.W.Frag) (s : S4) (e : Ex) (cls : Value) (d : Option Addr) : Prop :=
  ∃ C, cls = .ref C ∧ CN K e.cls C ∧ ((e.fs = [] ∧ d = none) ∨ ∃ dd vs, d = some dd ∧ s.H dd = some (.xd vs) ∧ RwF K s e.fs vs)
abbrev WX := Value → Option Addr → St → Hp → Prop

def Go {A B : Type} (K : PySem.W.Frag) (Wx : WX) (Fam : S4 → A → B → Prop) (s : S4) (r : Res A) (Q : B → Hp → Prop) : Prop := match r with
  | .ok a hp' => ∀ (b : B) (s' : S4), s'.hp = hp' → Aft s s' → Rel K s' → Fam s' a b → Q b s'.H
  | .er e eta' hp' => ∀ (s' : S4) (σ' : St) (cls : Value) (d : Option Addr), s'.hp = hp' → Aft s s' → Rel K s' → Sl K s' eta' σ' → ExR K s' e cls d → Wx cls d σ' s'.H
  | .bad => False

section
variable {K : PySem.W.Frag} {Wx : WX} {s s' : S4} {A B C D : Type} {Fam : S4 → A → B → Prop} {Gam : S4 → C → D → Prop}
theorem Go.aft {r : Res A} {Q : B → Hp → Prop} (g : Go K Wx Fam s r Q) (a : Aft s s') : Go K Wx Fam s' r Q := by
  cases r with
  | ok x hp => exact fun b s2 h1 h2 h3 h4 => g b s2 h1 (a.trans h2) h3 h4
  | er e eta hp => exact fun s2 σ' cls d h1 h2 h3 h4 h5 => g s2 σ' cls d h1 (a.trans h2) h3 h4 h5
  | bad => exact g
theorem Go.mono {r : Res A} {Q Q' : B → Hp → Prop} (g : Go K Wx Fam s r Q) (h : ∀ b H, Q b H → Q' b H) : Go K Wx Fam s r Q' := by
  cases r with
  | ok x hp => exact fun b s2 h1 h2 h3 h4 => h _ _ (g b s2 h1 h2 h3 h4)
  | er e eta hp => exact g
  | bad => exact g
/-- a run, then more -/
theorem Go.bind {r : Res A} {k : A → IH → Res C} {Q : D → Hp → Prop} {R : B → Hp → Prop} (g : Go K Wx Gam s (r.bind k) Q)
    (h : ∀ a b s', Aft s s' → Rel K s' → Fam s' a b → r = .ok a s'.hp → Go K Wx Gam s' (k a s'.hp) Q → R b s'.H) : Go K Wx Fam s r R := by
  cases r with
  | ok x hp =>
    intro b s2 h1 h2 h3 h4
    subst h1
    exact h x b s2 h2 h3 h4 rfl (Go.aft (show Go K Wx Gam s (k x s2.hp) Q from g) h2)
  | er e eta hp => exact g
  | bad => exact g
theorem Go.ret {a : A} {b : B} {hp : IH} {Q : B → Hp → Prop} (g : Go K Wx Fam s (.ok a hp) Q) (s' : S4) (h1 : s'.hp = hp) (h2 : Aft s s') (h3 : Rel K s') (h4 : Fam s' a b) : Q b s'.H := g b s' h1 h2 h3 h4
end

/-- the reading made of a plain function -/
def tM {A B : Type} (K : PySem.W.Frag) (Wx : WX) (Fam : S4 → A → B → Prop) (F : M A) : St → Hp → (B → Hp → Prop) → Prop := fun σ H Q =>
  ∃ (s : S4) (eta : IS), s.H = H ∧ Rel K s ∧ Sl K s eta σ ∧ Go K Wx Fam s (F eta s.hp) Q
abbrev tE (K : PySem.W.Frag) (Wx : WX) (F : M W) : TE := tM K Wx (Rw K) F
abbrev tA (K : PySem.W.Frag) (Wx : WX) (F : M (List W)) : TA := tM K Wx (RwL K) F
abbrev tT (K : PySem.W.Frag) (Wx : WX) (F : M Bool) : TT := tM K Wx (fun _ (a b : Bool) => a = b) F

/-- judgements -/
def IE (X : Cx) (Wx : WX) (e : Expr) (F : M W) : Prop := PE X e (tE X.K Wx F)
def IA (X : Cx) (Wx : WX) (es : List Expr) (F : M (List W)) : Prop := PA X es (tA X.K Wx F)
def IT (X : Cx) (Wx : WX) (e : Expr) (F : M Bool) : Prop := PT X e (tT X.K Wx F)

theorem PE.imp {X : Cx} {e : Expr} {t t' : TE} (h : PE X e t) (i : ∀ σ H Q, t' σ H Q → t σ H Q) : PE X e t' := ⟨fun pins s σ H Q I hw => h.run pins s σ H Q I (i _ _ _ hw)⟩
theorem PT.imp {X : Cx} {e : Expr} {t t' : TT} (h : PT X e t) (i : ∀ σ H Q, t' σ H Q → t σ H Q) : PT X e t' := ⟨fun pins s σ H Q I hw => h.run pins s σ H Q I (i _ _ _ hw)⟩
theorem PW.imp {X : Cx} {e : Expr} {t t' : TT} (h : PW X e t) (i : ∀ σ H Q, t' σ H Q → t σ H Q) : PW X e t' := ⟨fun wh pins s σ H Q I hw => h.run wh pins s σ H Q I (i _ _ _ hw)⟩
theorem PA.imp {X : Cx} {e : List Expr} {t t' : TA} (h : PA X e t) (i : ∀ σ H Q, t' σ H Q → t σ H Q) : PA X e t' := ⟨fun pos pins s σ H Q I hw => h.run pos pins s σ H Q I (i _ _ _ hw)⟩
theorem PS.imp {X : Cx} {e : Stmt} {t t' : TS} (h : PS X e t) (i : ∀ D σ H, t' D σ H → t D σ H) : PS X e t' := ⟨fun pins s σ H D I hw => h.run pins s σ H D I (i _ _ _ hw)⟩
theorem PSs.imp {X : Cx} {e : List Stmt} {t t' : TS} (h : PSs X e t) (i : ∀ D σ H, t' D σ H → t D σ H) : PSs X e t' := ⟨fun pins s σ H D I hw => h.run pins s σ H D I (i _ _ _ hw)⟩
theorem PG.imp {X : Cx} {e : Expr} {t t' : TG} (h : PG X e t) (i : ∀ v σ H Q, t' v σ H Q → t v σ H Q) : PG X e t' := ⟨fun pins s σ H v u Q I r hw => h.run pins s σ H v u Q I r (i _ _ _ _ hw)⟩
theorem PI.imp {X : Cx} {tg e : Expr} {t t' : TI} (h : PI X tg e t) (i : ∀ σ H Q, t' σ H Q → t σ H Q) : PI X tg e t' := ⟨fun pins s σ H Q I hw => h.run pins s σ H Q I (i _ _ _ hw)⟩
end Mir

/-! Mir1: expressions. -/
namespace Mir
open PySem PySem.Spec L2
open PyProof.Rows hiding St

/-! ### data: what == reads -/
mutual
def dat : T → PyData
  | .non => .none | .bl b => .bool b | .int i => .int i | .str s => .str s
  | .tup xs => .tuple (datL xs) | .lst xs => .list (datL xs) | .scr _ => .none | .pr _ => .none
  | .ty _ => .none | .dic _ _ => .none | .ins _ _ _ => .none | .cls _ => .none | .dit _ _ => .none | .exc _ _ _ => .none
def datL : List T → List PyData
  | [] => [] | x :: xs => dat x :: datL xs
end
mutual
/-- no dict, no instance; nested at most n deep -/
def fit : T → Nat → Bool
  | .non, _ => true | .bl _, _ => true | .int _, _ => true | .str _, _ => true
  | .tup xs, n => match n with | 0 => false | n + 1 => fitL xs n
  | .lst xs, n => match n with | 0 => false | n + 1 => fitL xs n
  | .scr _, _ => false | .pr _, _ => false | .ty _, _ => false | .dic _ _, _ => false | .ins _ _ _, _ => false | .cls _, _ => false | .dit _ _, _ => false | .exc _ _ _, _ => false
def fitL : List T → Nat → Bool
  | [], _ => true | x :: xs, n => fit x n && fitL xs n
end
mutual
def eqT : T → T → Bool
  | .non, y => match y with | .non => true | _ => false
  | .bl a, y => match y with | .bl b => a == b | .int j => (if a then 1 else 0) == j | _ => false
  | .int i, y => match y with | .bl b => i == (if b then 1 else 0) | .int j => i == j | _ => false
  | .str x, y => match y with | .str z => x == z | _ => false
  | .tup xs, y => match y with | .tup ys => eqTL xs ys | _ => false
  | .lst xs, y => match y with | .lst ys => eqTL xs ys | _ => false
  | .scr _, _ => false | .pr _, _ => false | .ty _, _ => false | .dic _ _, _ => false | .ins _ _ _, _ => false | .cls _, _ => false | .dit _ _, _ => false | .exc _ _ _, _ => false
def eqTL : List T → List T → Bool
  | [], ys => match ys with | [] => true | _ :: _ => false
  | x :: xs, ys => match ys with | [] => false | y :: ys => eqT x y && eqTL xs ys
end

mutual
theorem fit_plain : ∀ (x : T) (n : Nat), fit x n = true → (dat x).plain = true ∧ (dat x).depth ≤ n
  | .non, n, _ => by simp [dat, PyData.plain, PyData.depth]
  | .bl _, n, _ => by simp [dat, PyData.plain, PyData.depth]
  | .int _, n, _ => by simp [dat, PyData.plain, PyData.depth]
  | .str _, n, _ => by simp [dat, PyData.plain, PyData.depth]
  | .tup xs, 0, h => by simp [fit] at h
  | .tup xs, n + 1, h => by
    have := fit_plainL xs n (by simpa [fit] using h)
    simp only [dat, PyData.plain, PyData.depth]
    exact ⟨this.1, by omega⟩
  | .lst xs, 0, h => by simp [fit] at h
  | .lst xs, n + 1, h => by
    have := fit_plainL xs n (by simpa [fit] using h)
    simp only [dat, PyData.plain, PyData.depth]
    exact ⟨this.1, by omega⟩
  | .ty _, n, h => by simp [fit] at h
  | .scr _, n, h => by simp [fit] at h
  | .pr _, n, h => by simp [fit] at h
  | .dic _ _, n, h => by simp [fit] at h
  | .ins _ _ _, n, h => by simp [fit] at h
  | .cls _, n, h => by simp [fit] at h
  | .dit _ _, n, h => by simp [fit] at h
  | .exc _ _ _, n, h => by simp [fit] at h
theorem fit_plainL : ∀ (xs : List T) (n : Nat), fitL xs n = true → PyData.plainAll (datL xs) = true ∧ PyData.depthAll (datL xs) ≤ n
  | [], n, _ => by simp [datL, PyData.plainAll, PyData.depthAll]
  | x :: xs, n, h => by
    simp only [fitL, Bool.and_eq_true] at h
    have h1 := fit_plain x n h.1
    have h2 := fit_plainL xs n h.2
    simp only [datL, PyData.plainAll, PyData.depthAll, h1.1, h2.1, Bool.and_self, true_and]
    omega
end
mutual
theorem eqT_dat : ∀ (x y : T) (n m : Nat), fit x n = true → fit y m = true → PyData.eqv (dat x) (dat y) = eqT x y
  | .non, y, n, m, _, hy => by cases y <;> simp_all [dat, PyData.eqv, eqT, fit]
  | .bl a, y, n, m, _, hy => by cases y <;> simp_all [dat, PyData.eqv, eqT, fit]
  | .int i, y, n, m, _, hy => by cases y <;> simp_all [dat, PyData.eqv, eqT, fit]
  | .str x, y, n, m, _, hy => by cases y <;> simp_all [dat, PyData.eqv, eqT, fit]
  | .tup xs, .tup ys, 0, _, h, _ => by simp [fit] at h
  | .tup xs, .tup ys, n + 1, 0, _, h => by simp [fit] at h
  | .tup xs, .tup ys, n + 1, m + 1, hx, hy => by
    simp only [dat, PyData.eqv, eqT]
    exact eqTL_dat xs ys n m (by simpa [fit] using hx) (by simpa [fit] using hy)
  | .lst xs, .lst ys, 0, _, h, _ => by simp [fit] at h
  | .lst xs, .lst ys, n + 1, 0, _, h => by simp [fit] at h
  | .lst xs, .lst ys, n + 1, m + 1, hx, hy => by
    simp only [dat, PyData.eqv, eqT]
    exact eqTL_dat xs ys n m (by simpa [fit] using hx) (by simpa [fit] using hy)
  | .tup xs, .non, _, _, _, _ => by simp [dat, PyData.eqv, eqT]
  | .tup xs, .bl _, _, _, _, _ => by simp [dat, PyData.eqv, eqT]
  | .tup xs, .int _, _, _, _, _ => by simp [dat, PyData.eqv, eqT]
  | .tup xs, .str _, _, _, _, _ => by simp [dat, PyData.eqv, eqT]
  | .tup xs, .lst _, _, _, _, _ => by simp [dat, PyData.eqv, eqT]
  | .tup xs, .ty _, _, _, _, h => by simp [fit] at h
  | .tup xs, .scr _, _, _, _, h => by simp [fit] at h
  | .tup xs, .pr _, _, _, _, h => by simp [fit] at h
  | .tup xs, .dic _ _, _, _, _, h => by simp [fit] at h
  | .tup xs, .ins _ _ _, _, _, _, h => by simp [fit] at h
  | .tup xs, .cls _, _, _, _, h => by simp [fit] at h
  | .tup xs, .dit _ _, _, _, _, h => by simp [fit] at h
  | .tup xs, .exc _ _ _, _, _, _, h => by simp [fit] at h
  | .lst xs, .non, _, _, _, _ => by simp [dat, PyData.eqv, eqT]
  | .lst xs, .bl _, _, _, _, _ => by simp [dat, PyData.eqv, eqT]
  | .lst xs, .int _, _, _, _, _ => by simp [dat, PyData.eqv, eqT]
  | .lst xs, .str _, _, _, _, _ => by simp [dat, PyData.eqv, eqT]
  | .lst xs, .tup _, _, _, _, _ => by simp [dat, PyData.eqv, eqT]
  | .lst xs, .ty _, _, _, _, h => by simp [fit] at h
  | .lst xs, .scr _, _, _, _, h => by simp [fit] at h
  | .lst xs, .pr _, _, _, _, h => by simp [fit] at h
  | .lst xs, .dic _ _, _, _, _, h => by simp [fit] at h
  | .lst xs, .ins _ _ _, _, _, _, h => by simp [fit] at h
  | .lst xs, .cls _, _, _, _, h => by simp [fit] at h
  | .lst xs, .dit _ _, _, _, _, h => by simp [fit] at h
  | .lst xs, .exc _ _ _, _, _, _, h => by simp [fit] at h
  | .ty _, _, _, _, h, _ => by simp [fit] at h
  | .scr _, _, _, _, h, _ => by simp [fit] at h
  | .pr _, _, _, _, h, _ => by simp [fit] at h
  | .dic _ _, _, _, _, h, _ => by simp [fit] at h
  | .ins _ _ _, _, _, _, h, _ => by simp [fit] at h
  | .cls _, _, _, _, h, _ => by simp [fit] at h
  | .dit _ _, _, _, _, h, _ => by simp [fit] at h
  | .exc _ _ _, _, _, _, h, _ => by simp [fit] at h
theorem eqTL_dat : ∀ (xs ys : List T) (n m : Nat), fitL xs n = true → fitL ys m = true → PyData.eqvAll (datL xs) (datL ys) = eqTL xs ys
  | [], [], _, _, _, _ => by simp [datL, PyData.eqvAll, eqTL]
  | [], _ :: _, _, _, _, _ => by simp [datL, PyData.eqvAll, eqTL]
  | _ :: _, [], _, _, _, _ => by simp [datL, PyData.eqvAll, eqTL]
  | x :: xs, y :: ys, n, m, hx, hy => by
    simp only [fitL, Bool.and_eq_true] at hx hy
    simp only [datL, PyData.eqvAll, eqTL, eqT_dat x y n m hx.1 hy.1, eqTL_dat xs ys n m hx.2 hy.2]
end

section
variable {K : PySem.W.Frag} {s : S4}
mutual
theorem Rf.dp : ∀ (x : T) (v : V) (n : Nat), fit x n = true → Rf K s.fz s.H x v → Dp K s.H v (dat x)
  | .non, v, _, _, h => by simp only [Rf] at h; subst h; exact .non
  | .bl b, v, _, _, h => by simp only [Rf] at h; subst h; exact .bl b
  | .int b, v, _, _, h => by simp only [Rf] at h; subst h; exact .int b
  | .str b, v, _, _, h => by simp only [Rf] at h; subst h; exact .str b
  | .tup xs, v, 0, f, _ => by simp [fit] at f
  | .tup xs, v, n + 1, f, h => by
    simp only [Rf] at h
    obtain ⟨a, vs, e, t, l⟩ := h
    subst e
    exact .tup t.sq (RfL.dp xs vs n (by simpa [fit] using f) l)
  | .lst xs, v, 0, f, _ => by simp [fit] at f
  | .lst xs, v, n + 1, f, h => by
    simp only [Rf] at h
    obtain ⟨a, vs, e, t, l⟩ := h
    subst e
    exact .lst t.sq (RfL.dp xs vs n (by simpa [fit] using f) l)
  | .ty _, _, _, f, _ => by simp [fit] at f
  | .scr _, _, _, f, _ => by simp [fit] at f
  | .pr _, _, _, f, _ => by simp [fit] at f
  | .dic _ _, _, _, f, _ => by simp [fit] at f
  | .ins _ _ _, _, _, f, _ => by simp [fit] at f
  | .cls _, _, _, f, _ => by simp [fit] at f
  | .dit _ _, _, _, f, _ => by simp [fit] at f
  | .exc _ _ _, _, _, f, _ => by simp [fit] at f
theorem RfL.dp : ∀ (xs : List T) (vs : List V) (n : Nat), fitL xs n = true → RfL K s.fz s.H xs vs → DpAll K s.H vs (datL xs)
  | [], vs, _, _, h => by simp only [RfL] at h; subst h; exact .nil
  | x :: xs, vs, n, f, h => by
    simp only [fitL, Bool.and_eq_true] at f
    simp only [RfL] at h
    obtain ⟨v, r, e, a, b⟩ := h
    subst e
    exact .cons (Rf.dp x v n f.1 a) (RfL.dp xs r n f.2 b)
end
end

/-! ### reading a live list as a tree -/
def allT : List W → Option (List T)
  | [] => some []
  | .t x :: ws => (allT ws).map (x :: ·)
  | .r _ :: _ => none
theorem allT_eq : ∀ {ws : List W} {ts : List T}, allT ws = some ts → ws = ts.map W.t
  | [], ts, h => by simp [allT] at h; subst h; rfl
  | .t x :: ws, ts, h => by
    simp only [allT, Option.map_eq_some_iff] at h
    obtain ⟨r, h1, h2⟩ := h
    subst h2
    rw [allT_eq h1]
    rfl
  | .r _ :: _, _, h => by simp [allT] at h
theorem allT_map : ∀ (ts : List T), allT (ts.map W.t) = some ts
  | [] => rfl
  | x :: xs => by simp [allT, allT_map xs]
/-- a live list's items -/
def getL (hp : IH) (i : Nat) : Option (List W) := match hp[i]? with
  | some (some (.lst ws)) => some ws
  | _ => none
theorem getL_eq {hp : IH} {i : Nat} {ws : List W} (h : getL hp i = some ws) : hp[i]? = some (some (.lst ws)) := by
  unfold getL at h
  split at h
  · cases h; assumption
  · cases h
/-- as a tree (a live list of trees too) -/
def asT (hp : IH) : W → Option T
  | .t x => some x
  | .r i => ((getL hp i).bind allT).map T.lst
section
variable {K : PySem.W.Frag} {s : S4}
/-- where a live list lies -/
theorem Rel.lst (R : Rel K s) {i : Nat} {v : V} {ws : List W} (g : getL s.hp i = some ws) (r : Rw K s (.r i) v) : ∃ a vs, v = .ref a ∧ s.rho[i]? = some a ∧ s.H a = some (.lst vs) ∧ RwL K s ws vs ∧ ¬ s.fz a := by
  obtain ⟨a, e1, e2⟩ := r
  obtain ⟨vs, h1, h2⟩ := R.cell i _ a (getL_eq g) e1
  exact ⟨a, vs, e2, e1, h1, h2, R.fz a ⟨i, _, getL_eq g, e1⟩⟩
theorem asT_dp (R : Rel K s) {w : W} {x : T} {v : V} {n : Nat} (h : asT s.hp w = some x) (r : Rw K s w v) (f : fit x n = true) : Dp K s.H v (dat x) := by
  cases w with
  | t y => simp only [asT, Option.some.injEq] at h; subst h; exact Rf.dp _ v n f r
  | r i =>
    simp only [asT, Option.map_eq_some_iff, Option.bind_eq_some_iff] at h
    obtain ⟨ts, ⟨ws, g, h1⟩, h2⟩ := h
    subst h2
    obtain ⟨a, vs, e, _, e2, l, _⟩ := R.lst g r
    subst e
    cases n with
    | zero => simp [fit] at f
    | succ n =>
      rw [allT_eq h1] at l
      exact .lst (.inl (.inl e2)) (RfL.dp ts vs n (by simpa [fit] using f) (RwL.of_trees.mp l))
end

/-! ### comparisons of data -/
section
variable {X : Cx}
def rEqP (K : PySem.W.Frag) : R2 := fun x y H Q => ∃ d e, Dp K H x d ∧ Dp K H y e ∧ d.plain = true ∧ e.plain = true ∧ d.depth ≤ 60 ∧ Q (.bl (PyData.eqv d e)) H
def rNeP (K : PySem.W.Frag) : R2 := fun x y H Q => ∃ d e, Dp K H x d ∧ Dp K H y e ∧ d.plain = true ∧ e.plain = true ∧ d.depth ≤ 60 ∧ Q (.bl (!PyData.eqv d e)) H
theorem op_eqP (hu : X.A.units + 64 < cLine) : OpR X (compareOp .Eq) (rEqP X.K) := by
  intro pins s σ H x y v u Q I rx ry h
  obtain ⟨d, e, hd, he, sd, se, dd, q⟩ := h
  obtain ⟨as, r1⟩ := Dp.reads I d x v hd rx
  obtain ⟨bs, r2⟩ := Dp.reads I e y u he ry
  exact SeqAt.eq_plain r1 r2 sd se (by have : min d.depth e.depth ≤ d.depth := Nat.min_le_left _ _; omega) ⟨.bl _, H, I, rfl, q⟩
theorem op_neP (hu : X.A.units + 64 < cLine) : OpR X (compareOp .NotEq) (rNeP X.K) := by
  intro pins s σ H x y v u Q I rx ry h
  obtain ⟨d, e, hd, he, sd, se, dd, q⟩ := h
  obtain ⟨as, r1⟩ := Dp.reads I d x v hd rx
  obtain ⟨bs, r2⟩ := Dp.reads I e y u he ry
  exact SeqAt.ne_plain r1 r2 sd se (by have : min d.depth e.depth ≤ d.depth := Nat.min_le_left _ _; omega) ⟨.bl _, H, I, rfl, q⟩
/-- x in c: c a list or a tuple of data -/
def rInP (K : PySem.W.Frag) (neg : Bool) : R2 := fun x y H Q => ∃ d e, Dp K H x d ∧ (Dp K H y (.list e) ∨ Dp K H y (.tuple e)) ∧ d.plain = true ∧ PyData.plainAll e = true ∧ d.depth ≤ 60 ∧
  Q (.bl (if neg then !(e.any fun z => PyData.eqv z d) else e.any fun z => PyData.eqv z d)) H
theorem op_inP (hu : X.A.units + 64 < cLine) : OpR X (compareOp .In) (rInP X.K false) := by
  intro pins s σ H x y v u Q I rx ry h
  obtain ⟨d, e, hd, he, sd, se, dd, q⟩ := h
  obtain ⟨as, r1⟩ := Dp.reads I d x v hd rx
  have hm : X.A.units + 1 + min (PyData.depthAll e) d.depth < cLine := by have : min (PyData.depthAll e) d.depth ≤ d.depth := Nat.min_le_right _ _; omega
  rcases he with he | he
  · obtain ⟨bs, r2⟩ := Dp.reads I _ y u he ry
    exact SeqAt.in_list_data r2 r1 se sd hm ⟨.bl _, H, I, rfl, q⟩
  · obtain ⟨bs, r2⟩ := Dp.reads I _ y u he ry
    exact SeqAt.in_tuple_data r2 r1 se sd hm ⟨.bl _, H, I, rfl, q⟩
theorem op_ninP (hu : X.A.units + 64 < cLine) : OpR X (compareOp .NotIn) (rInP X.K true) := by
  intro pins s σ H x y v u Q I rx ry h
  obtain ⟨d, e, hd, he, sd, se, dd, q⟩ := h
  obtain ⟨as, r1⟩ := Dp.reads I d x v hd rx
  have hm : X.A.units + 1 + min (PyData.depthAll e) d.depth < cLine := by have : min (PyData.depthAll e) d.depth ≤ d.depth := Nat.min_le_right _ _; omega
  rcases he with he | he
  · obtain ⟨bs, r2⟩ := Dp.reads I _ y u he ry
    exact SeqAt.notIn_list_data r2 r1 se sd hm ⟨.bl _, H, I, rfl, q⟩
  · obtain ⟨bs, r2⟩ := Dp.reads I _ y u he ry
    exact SeqAt.notIn_tuple_data r2 r1 se sd hm ⟨.bl _, H, I, rfl, q⟩
end

/-! ### value operations -/
abbrev Op2 := W → W → IH → Res W
abbrev Op1 := W → IH → Res W
abbrev OpN := List W → IH → Res W
def Op2Ok (K : PySem.W.Frag) (Wx : WX) (f : Op2) (r : R2) : Prop := ∀ (s : S4) (a b : W) (x y : V) (Q : VK), Rel K s → Rw K s a x → Rw K s b y → Go K Wx (Rw K) s (f a b s.hp) Q → r x y s.H Q
def Op1Ok (K : PySem.W.Frag) (Wx : WX) (f : Op1) (r : V → Hp → VK → Prop) : Prop := ∀ (s : S4) (a : W) (x : V) (Q : VK), Rel K s → Rw K s a x → Go K Wx (Rw K) s (f a s.hp) Q → r x s.H Q
def OpNOk (K : PySem.W.Frag) (Wx : WX) (f : OpN) (r : List V → Hp → VK → Prop) : Prop := ∀ (s : S4) (a : List W) (x : List V) (Q : VK), Rel K s → RwL K s a x → Go K Wx (Rw K) s (f a s.hp) Q → r x s.H Q

def mBin (f : Op2) (Fa Fb : M W) : M W := fun eta hp => (Fa eta hp).bind fun a h1 => (Fb eta h1).bind fun b h2 => f a b h2
def mUn (f : Op1) (Fa : M W) : M W := fun eta hp => (Fa eta hp).bind fun a h1 => f a h1
def mNil : M (List W) := fun _ hp => .ok [] hp
def mCons (Fa : M W) (Fr : M (List W)) : M (List W) := fun eta hp => (Fa eta hp).bind fun a h1 => (Fr eta h1).bind fun r h2 => .ok (a :: r) h2
def mApp (f : OpN) (Fa : M (List W)) : M W := fun eta hp => (Fa eta hp).bind fun a h1 => f a h1

section
variable {X : Cx} {Wx : WX} {a b c e : Expr} {es : List Expr} {Fa Fb Fc F : M W} {Fs : M (List W)} {pos : Pos}

theorem tM.bind1 {A B C D : Type} {K : PySem.W.Frag} {Fam : S4 → A → B → Prop} {Gam : S4 → C → D → Prop} {Fa : M A} {k : A → IS → IH → Res C} {σ : St} {H : Hp} {Q : D → Hp → Prop} {R : B → Hp → Prop}
    (h : tM K Wx Gam (fun eta hp => (Fa eta hp).bind fun a h1 => k a eta h1) σ H Q)
    (n : ∀ (s : S4) (eta : IS) (a : A) (b : B), Rel K s → Sl K s eta σ → Fam s a b → Go K Wx Gam s (k a eta s.hp) Q → R b s.H) : tM K Wx Fam Fa σ H R := by
  obtain ⟨s, eta, e1, R1, S1, g⟩ := h
  refine ⟨s, eta, e1, R1, S1, Go.bind g fun a b s' A' R' f _ g' => n s' eta a b R' (S1.aft A' R1) f g'⟩
theorem tM.bind2 {A B C D A' B' : Type} {K : PySem.W.Frag} {Fam : S4 → A → B → Prop} {Fam' : S4 → A' → B' → Prop} {Gam : S4 → C → D → Prop} {Fa : M A} {Fb : M A'} {k : A → A' → IS → IH → Res C} {σ : St} {H : Hp} {Q : D → Hp → Prop} {R : B → B' → Hp → Prop}
    (keep : ∀ s s' a b, Fam s a b → Aft s s' → Rel K s → Fam s' a b)
    (h : tM K Wx Gam (fun eta hp => (Fa eta hp).bind fun a h1 => (Fb eta h1).bind fun b h2 => k a b eta h2) σ H Q)
    (n : ∀ (s : S4) (eta : IS) (a : A) (b : B) (a' : A') (b' : B'), Rel K s → Sl K s eta σ → Fam s a b → Fam' s a' b' → Go K Wx Gam s (k a a' eta s.hp) Q → R b b' s.H) : tM K Wx Fam Fa σ H fun b H1 => tM K Wx Fam' Fb σ H1 fun b' H2 => R b b' H2 := by
  refine tM.bind1 (k := fun a eta h1 => (Fb eta h1).bind fun b h2 => k a b eta h2) h fun s eta a b R1 S1 f g => ?_
  refine ⟨s, eta, rfl, R1, S1, Go.bind g fun a' b' s' A' R' f' _ g' => n s' eta a b a' b' R' (S1.aft A' R1) (keep _ _ _ _ f A' R1) f' g'⟩
theorem Rw.keep {K : PySem.W.Frag} : ∀ (s s' : S4) (a : W) (b : V), Rw K s a b → Aft s s' → Rel K s → Rw K s' a b := fun _ _ _ _ h A R => h.aft A R
theorem RwL.keep {K : PySem.W.Frag} : ∀ (s s' : S4) (a : List W) (b : List V), RwL K s a b → Aft s s' → Rel K s → RwL K s' a b := fun _ _ _ _ h A R => RwL.aft A R _ _ h

theorem t_bin {f : Op2} {r : R2} (hf : Op2Ok X.K Wx f r) : ∀ σ H Q, tE X.K Wx (mBin f Fa Fb) σ H Q → tOp r (tE X.K Wx Fa) (tE X.K Wx Fb) σ H Q := by
  intro σ H Q h
  exact tM.bind2 (R := fun x y H2 => r x y H2 Q) (k := fun a b _ hp => f a b hp) Rw.keep h fun s eta a b a' b' R1 S1 f1 f2 g => hf s a a' b b' Q R1 f1 f2 g
theorem ie_bin {op : Operator} {f : Op2} {r : R2} (ho : OpR X (binaryOp op) r) (hf : Op2Ok X.K Wx f r) (ha : IE X Wx a Fa) (hb : IE X Wx b Fb) : IE X Wx (.BinOp a op b pos) (mBin f Fa Fb) :=
  PE.imp (pe_op ho ha hb) (t_bin hf)
theorem ie_cmp {op : CmpOp} {f : Op2} {r : R2} (ho : OpR X (compareOp op) r) (hf : Op2Ok X.K Wx f r) (ha : IE X Wx a Fa) (hb : IE X Wx b Fb) (hm : behindInMarks op b = false) : IE X Wx (.Compare a [op] [b] pos) (mBin f Fa Fb) :=
  PE.imp (pe_cmpR ho ha hb hm) (t_bin hf)
theorem ie_un {op : UnaryOp} {f : Op1} {r : V → Hp → VK → Prop} (ho : UnR X (unaryOp op) r) (hf : Op1Ok X.K Wx f r) (ha : IE X Wx a Fa) : IE X Wx (.UnaryOp op a pos) (mUn f Fa) :=
  PE.imp (pe_un ho ha) fun σ H Q h => tM.bind1 (R := fun x H1 => r x H1 Q) (k := fun a _ hp => f a hp) h fun s eta a b R1 _ f1 g => hf s a b Q R1 f1 g
theorem ie_ix {f : Op2} {r : R2} (hr : IxR X r) (hf : Op2Ok X.K Wx f r) (ha : IE X Wx a Fa) (hb : IE X Wx b Fb) (hs : PlainIx b) : IE X Wx (.Subscript a b pos) (mBin f Fa Fb) :=
  PE.imp (pe_ix hr ha hb hs) (t_bin hf)

theorem ia_nil : IA X Wx [] mNil := PA.imp pa_nil fun σ H Q h => by
  obtain ⟨s, eta, e1, R1, S1, g⟩ := h
  subst e1
  exact g [] s rfl (Aft.refl s) R1 rfl
theorem ia_cons (ha : IE X Wx e Fa) (hr : IA X Wx es Fs) (hs : starEach (e :: es) X.env = (false, eval e X.env) :: starEach es X.env := by rfl) : IA X Wx (e :: es) (mCons Fa Fs) :=
  PA.imp (pa_cons ha hr hs) fun σ H Q h => tM.bind2 (R := fun x xs H2 => Q (x :: xs) H2) (k := fun a r _ hp => .ok (a :: r) hp) Rw.keep h fun s eta a b a' b' R1 S1 f1 f2 g => g (b :: b') s rfl (Aft.refl s) R1 ⟨b, b', rfl, f1, f2⟩
/-- *e: a tuple or a list -/
def items (hp : IH) : W → Option (List W)
  | .t (.tup xs) => some (xs.map W.t)
  | .t (.lst xs) => some (xs.map W.t)
  | .t (.scr xs) => some (xs.map W.t)
  | .t _ => none
  | .r i => getL hp i
theorem items_sq {K : PySem.W.Frag} {s : S4} (R : Rel K s) {w : W} {v : V} {ws : List W} (h : items s.hp w = some ws) (r : Rw K s w v) : ∃ p xs, v = .ref p ∧ (SqT K s.H p xs ∨ SqL K s.H p xs) ∧ RwL K s ws xs := by
  cases w with
  | t x =>
    cases x with
    | tup xs =>
      simp only [items, Option.some.injEq] at h
      subst h
      obtain ⟨a, vs, e, t, l⟩ : ∃ a vs, v = .ref a ∧ FTup K s.fz s.H a vs ∧ RfL K s.fz s.H xs vs := by simpa only [Rw, Rf] using r
      exact ⟨a, vs, e, .inl t.sq, RwL.of_trees.mpr l⟩
    | lst xs =>
      simp only [items, Option.some.injEq] at h
      subst h
      obtain ⟨a, vs, e, t, l⟩ : ∃ a vs, v = .ref a ∧ FLst s.fz s.H a vs ∧ RfL K s.fz s.H xs vs := by simpa only [Rw, Rf] using r
      exact ⟨a, vs, e, .inr t.sq, RwL.of_trees.mpr l⟩
    | scr xs =>
      simp only [items, Option.some.injEq] at h
      subst h
      obtain ⟨a, vs, e, t, l⟩ : ∃ a vs, v = .ref a ∧ FScr K s.fz s.H a vs ∧ RfL K s.fz s.H xs vs := by simpa only [Rw, Rf] using r
      exact ⟨a, vs, e, .inr t.sq, RwL.of_trees.mpr l⟩
    | _ => simp [items] at h
  | r i =>
    obtain ⟨a, vs, e, _, e2, l, _⟩ := R.lst (show getL s.hp i = some ws from h) r
    exact ⟨a, vs, e, .inr (.inl (.inl e2)), l⟩
def mStar (Fa : M W) (Fr : M (List W)) : M (List W) := fun eta hp => (Fa eta hp).bind fun a h1 => match items h1 a with
  | some ws => (Fr eta h1).bind fun r h2 => .ok (ws ++ r) h2
  | none => .bad
theorem ia_star {p : Pos} (ha : IE X Wx e Fa) (hr : IA X Wx es Fs) (hs : starEach (.Starred e p :: es) X.env = (true, eval e X.env) :: starEach es X.env := by rfl) : IA X Wx (.Starred e p :: es) (mStar Fa Fs) := by
  refine PA.imp (StX.pa_star ha hr hs) fun σ H Q h => ?_
  refine tM.bind1 (R := fun x H1 => ∃ p xs, x = V.ref p ∧ (SqT X.K H1 p xs ∨ SqL X.K H1 p xs) ∧ tA X.K Wx Fs σ H1 fun ys H2 => Q (xs ++ ys) H2)
    (k := fun a eta hp => match items hp a with | some ws => (Fs eta hp).bind fun r h2 => .ok (ws ++ r) h2 | none => .bad) h fun s eta a b R1 S1 f1 g => ?_
  cases hi : items s.hp a with
  | none => simp only [hi] at g; exact g.elim
  | some ws =>
    simp only [hi] at g
    obtain ⟨p, xs, ev, hq, l⟩ := items_sq R1 hi f1
    refine ⟨p, xs, ev, hq, s, eta, rfl, R1, S1, ?_⟩
    refine Go.bind g fun r ys s' A' R' f' _ g' => ?_
    exact g' (xs ++ ys) s' rfl (Aft.refl s') R' ((RwL.aft A' R1 _ _ l).append f')
end

/-! ### names and constants -/
section
variable {X : Cx} {Wx : WX} {pos : Pos}
def mVar (i : Nat) : M W := fun eta hp => match eta[i]? with
  | some (some w) => .ok w hp
  | _ => .bad
def mC (x : T) : M W := fun _ hp => .ok (.t x) hp
theorem ie_var (i : Nat) {x : Str} (hN : X.N[i]? = some x := by rfl) (hv : Vis X.env.scope x := by first | exact Or.inl rfl | exact Or.inr (Or.inl rfl) | exact Or.inr (Or.inr rfl)) (hd : (x == ("__debug__" : Str)) = false := by decide)
    (hcd : (x == ("__classdict__" : Str)) = false := by decide) : IE X Wx (.Name x pos) (mVar i) := PE.imp (pe_var hN hv hd hcd) fun σ H Q h => by
  obtain ⟨s, eta, e1, R1, S1, g⟩ := h
  subst e1
  unfold mVar at g
  split at g
  · rename_i w hw
    obtain ⟨v, h1, h2⟩ := S1.2 i w hw
    exact ⟨v, h1, g v s rfl (Aft.refl s) R1 h2⟩
  · exact g.elim
theorem t_const {v : V} {x : T} (hx : ∀ s, Rw X.K s (.t x) v) : ∀ σ H Q, tE X.K Wx (mC x) σ H Q → tC v σ H Q := fun σ H Q h => by
  obtain ⟨s, eta, e1, R1, S1, g⟩ := h
  subst e1
  exact g v s rfl (Aft.refl s) R1 (hx s)
theorem ie_int {i j} : IE X Wx (.Constant (.int i) j pos) (mC (.int i)) := PE.imp pe_int (t_const fun s => by simp [Rw, Rf])
theorem ie_bl {b j} : IE X Wx (.Constant (.bool b) j pos) (mC (.bl b)) := PE.imp pe_bl (t_const fun s => by simp [Rw, Rf])
theorem ie_non {j} : IE X Wx (.Constant .none j pos) (mC .non) := PE.imp pe_non (t_const fun s => by simp [Rw, Rf])
theorem ie_str {x j} : IE X Wx (.Constant (.str x) j pos) (mC (.str x)) := PE.imp pe_str (t_const fun s => by simp [Rw, Rf])
/-- a module's constant: what stands in the written part -/
def KT (K : PySem.W.Frag) (x : T) (v : V) : Prop := ∀ s, Rw K s (.t x) v
theorem ie_glob {x : Str} {v : V} {u : Value} {t : T} (hg : Gl X x) (hm : X.mg x = some u) (r : RelV v u) (k : KT X.K t v) (hd : (x == ("__debug__" : Str)) = false := by decide) : IE X Wx (.Name x pos) (mC t) :=
  PE.imp (pe_glob hg hm r hd) (t_const k)
end
end Mir

/-! Mir2: what a new object, a store, a freeze do to the relation; displays, tests. -/
namespace Mir
open PySem PySem.Spec L2
open PyProof.Rows hiding St

section
variable {K : PySem.W.Frag} {s : S4}
theorem Rel.fresh (R : Rel K s) {p : Addr} (h : s.H p = none) : p ∉ s.rho ∧ ¬ s.fz p := ⟨fun m => R.trk p m h, fun f => R.ftrk p f h⟩
theorem Rel.notlive (R : Rel K s) {p : Addr} (h : s.H p = none) : ¬ Live s p := fun ⟨i, c, _, e⟩ => (R.fresh h).1 (List.mem_of_getElem? e)
theorem Rel.liveH (R : Rel K s) {i : Nat} {c : Cell} {a : Addr} (h : s.hp[i]? = some (some c)) (e : s.rho[i]? = some a) : s.H a ≠ none := R.trk a (List.mem_of_getElem? e)

/-- a new frozen object -/
def S4.addF (s : S4) (p : Addr) (o : HO) : S4 := ⟨s.rho, fun a => s.fz a ∨ a = p, s.hp, upd s.H p o⟩
theorem aft_addF (R : Rel K s) {p : Addr} {o : HO} (h : s.H p = none) : Aft s (s.addF p o) := by
  refine ⟨⟨[], by simp [S4.addF], by simp⟩, fun a f => .inl f, fun a u e _ => ?_, fun a f => ?_, fun a l => .inl l, fun a e => ?_⟩
  · show upd s.H p o a = some u
    rw [upd_ne (ne_of_none e h)]; exact e
  · rcases f with f | f
    · exact .inl f
    · exact .inr (.inl (by rw [f]; exact h))
  · show upd s.H p o a ≠ none
    by_cases q : a = p
    · rw [q, upd_same]; intro z; cases z
    · rw [upd_ne q]; exact e
theorem rel_addF (R : Rel K s) {p : Addr} {o : HO} (h : s.H p = none) : Rel K (s.addF p o) := by
  have A := aft_addF (o := o) R h
  refine ⟨R.len, R.nd, fun a m => A.trk a (R.trk a m), fun a f => ?_, fun a l f => ?_, fun i c a e1 e2 => ?_⟩
  · rcases f with f | f
    · exact A.trk a (R.ftrk a f)
    · show upd s.H p o a ≠ none
      rw [f, upd_same]; intro z; cases z
  · rcases f with f | f
    · exact R.fz a l f
    · rw [f] at l; exact R.notlive h l
  · have q := R.cell i c a e1 e2
    have ne : a ≠ p := fun z => R.liveH e1 e2 (by rw [z]; exact h)
    show CellOk K (s.addF p o) c (upd s.H p o a)
    rw [upd_ne ne]
    exact q.aft A R
theorem addF_tup (R : Rel K s) {p : Addr} {o : Obj} {ts : List T} {vs : List V} (h : s.H p = none) (d : o.dict = none) (l : RfL K s.fz s.H ts vs) : Rw K (s.addF p (.frz o (.tup vs))) (.t (.tup ts)) (.ref p) := by
  have A := aft_addF (o := .frz o (.tup vs)) R h
  simp only [Rw, Rf]
  exact ⟨p, vs, rfl, .inl ⟨.inr rfl, o, upd_same, d⟩, RfL.aft A R _ _ l⟩
theorem addF_pr (R : Rel K s) {p : Addr} {ts : List T} {vs : List V} (h : s.H p = none) (l : RfL K s.fz s.H ts vs) : Rw K (s.addF p (.tup vs)) (.t (.pr ts)) (.ref p) := by
  have A := aft_addF (o := .tup vs) R h
  simp only [Rw, Rf]
  exact ⟨p, vs, rfl, ⟨.inr rfl, upd_same⟩, RfL.aft A R _ _ l⟩
theorem addF_lst (R : Rel K s) {p : Addr} {ts : List T} {vs : List V} (h : s.H p = none) (l : RfL K s.fz s.H ts vs) : Rw K (s.addF p (.lst vs)) (.t (.lst ts)) (.ref p) := by
  have A := aft_addF (o := .lst vs) R h
  simp only [Rw, Rf]
  exact ⟨p, vs, rfl, ⟨.inr rfl, upd_same⟩, RfL.aft A R _ _ l⟩

/-- a new live cell -/
def S4.addL (s : S4) (p : Addr) (c : Cell) (o : HO) : S4 := ⟨s.rho ++ [p], s.fz, s.hp ++ [some c], upd s.H p o⟩
theorem live_addL (R : Rel K s) {p a : Addr} {c : Cell} {o : HO} (l : Live (s.addL p c o) a) : Live s a ∨ a = p := by
  obtain ⟨i, d, e1, e2⟩ := l
  have e1 : (s.hp ++ [some c])[i]? = some (some d) := e1
  have e2 : (s.rho ++ [p])[i]? = some a := e2
  by_cases hi : i < s.hp.length
  · rw [List.getElem?_append_left hi] at e1
    rw [List.getElem?_append_left (by rw [R.len]; exact hi)] at e2
    exact .inl ⟨i, d, e1, e2⟩
  · rw [List.getElem?_append_right (by rw [R.len]; omega)] at e2
    have : i - s.rho.length = 0 := by
      have := (List.getElem?_eq_some_iff.mp e2).1
      simp at this
      omega
    rw [this] at e2
    simp at e2
    exact .inr e2.symm
theorem aft_addL (R : Rel K s) {p : Addr} {c : Cell} {o : HO} (h : s.H p = none) : Aft s (s.addL p c o) := by
  refine ⟨⟨[p], rfl, by simp [h]⟩, fun a f => f, fun a u e _ => ?_, fun a f => .inl f, fun a l => ?_, fun a e => ?_⟩
  · show upd s.H p o a = some u
    rw [upd_ne (ne_of_none e h)]; exact e
  · rcases live_addL R l with l | l
    · exact .inl l
    · exact .inr (by rw [l]; exact h)
  · show upd s.H p o a ≠ none
    by_cases q : a = p
    · rw [q, upd_same]; intro z; cases z
    · rw [upd_ne q]; exact e
theorem rel_addL (R : Rel K s) {p : Addr} {c : Cell} {o : HO} (h : s.H p = none) (ok : CellOk K s c (some o)) : Rel K (s.addL p c o) := by
  have A := aft_addL (c := c) (o := o) R h
  have hp := R.fresh h
  refine ⟨by simp [S4.addL, R.len], ?_, fun a m => ?_, fun a f => A.trk a (R.ftrk a f), fun a l f => ?_, fun i d a e1 e2 => ?_⟩
  · show (s.rho ++ [p]).Nodup
    refine List.nodup_append.mpr ⟨R.nd, by simp, fun a m b hb => ?_⟩
    simp at hb
    rintro rfl
    exact hp.1 (hb ▸ m)
  · have m : a ∈ s.rho ++ [p] := m
    rcases List.mem_append.mp m with m | m
    · exact A.trk a (R.trk a m)
    · simp at m
      show upd s.H p o a ≠ none
      rw [m, upd_same]; intro z; cases z
  · rcases live_addL R l with l | l
    · exact R.fz a l f
    · exact hp.2 (l ▸ f)
  · have e1 : (s.hp ++ [some c])[i]? = some (some d) := e1
    have e2 : (s.rho ++ [p])[i]? = some a := e2
    show CellOk K (s.addL p c o) d (upd s.H p o a)
    by_cases hi : i < s.hp.length
    · rw [List.getElem?_append_left hi] at e1
      rw [List.getElem?_append_left (by rw [R.len]; exact hi)] at e2
      have ne : a ≠ p := fun z => R.liveH e1 e2 (by rw [z]; exact h)
      rw [upd_ne ne]
      exact (R.cell i d a e1 e2).aft A R
    · have h0 : i = s.hp.length := by
        have := (List.getElem?_eq_some_iff.mp e1).1
        simp at this
        omega
      subst h0
      simp at e1
      rw [List.getElem?_append_right (by rw [R.len]; exact Nat.le_refl _), R.len] at e2
      simp at e2
      subst e1 e2
      rw [upd_same]
      exact ok.aft A R
theorem addL_r (R : Rel K s) {p : Addr} {c : Cell} {o : HO} : Rw K (s.addL p c o) (.r s.hp.length) (.ref p) :=
  ⟨p, by show (s.rho ++ [p])[s.hp.length]? = some p; rw [List.getElem?_append_right (by rw [R.len]; exact Nat.le_refl _), R.len]; simp, rfl⟩

/-- a live cell is changed -/
def S4.setL (s : S4) (i : Nat) (a : Addr) (c : Cell) (o : HO) : S4 := ⟨s.rho, s.fz, s.hp.set i (some c), upd s.H a o⟩
theorem live_setL {i : Nat} {a b : Addr} {c c0 : Cell} {o : HO} (h0 : s.hp[i]? = some (some c0)) (l : Live (s.setL i a c o) b) : Live s b := by
  obtain ⟨j, d, e1, e2⟩ := l
  have e1 : (s.hp.set i (some c))[j]? = some (some d) := e1
  by_cases hj : i = j
  · subst hj
    exact ⟨i, c0, h0, e2⟩
  · rw [List.getElem?_set_ne hj] at e1
    exact ⟨j, d, e1, e2⟩
theorem aft_setL (R : Rel K s) {i : Nat} {a : Addr} {c c0 : Cell} {o : HO} (h0 : s.hp[i]? = some (some c0)) (ha : s.rho[i]? = some a) : Aft s (s.setL i a c o) := by
  refine ⟨⟨[], by simp [S4.setL], by simp⟩, fun _ f => f, fun b u e nl => ?_, fun _ f => .inl f, fun b l => .inl (live_setL h0 l), fun b e => ?_⟩
  · show upd s.H a o b = some u
    rw [upd_ne (fun z => nl (by rw [z]; exact ⟨i, c0, h0, ha⟩))]; exact e
  · show upd s.H a o b ≠ none
    by_cases q : b = a
    · rw [q, upd_same]; intro z; cases z
    · rw [upd_ne q]; exact e
theorem rel_setL (R : Rel K s) {i : Nat} {a : Addr} {c c0 : Cell} {o : HO} (h0 : s.hp[i]? = some (some c0)) (ha : s.rho[i]? = some a) (ok : CellOk K s c (some o)) : Rel K (s.setL i a c o) := by
  have A := aft_setL (c := c) (o := o) R h0 ha
  refine ⟨by simp [S4.setL, R.len], R.nd, fun b m => A.trk b (R.trk b m), fun b f => A.trk b (R.ftrk b f), fun b l f => R.fz b (live_setL h0 l) f, fun j d b e1 e2 => ?_⟩
  have e1 : (s.hp.set i (some c))[j]? = some (some d) := e1
  show CellOk K (s.setL i a c o) d (upd s.H a o b)
  by_cases hj : i = j
  · subst hj
    have e2 : s.rho[i]? = some b := e2
    rw [ha] at e2; cases e2
    rw [List.getElem?_set_self (List.getElem?_eq_some_iff.mp h0).1] at e1
    cases e1
    rw [upd_same]
    exact ok.aft A R
  · rw [List.getElem?_set_ne hj] at e1
    have e2 : s.rho[j]? = some b := e2
    have ne : b ≠ a := fun z => by
      subst z
      exact hj ((List.getElem?_inj (List.getElem?_eq_some_iff.mp ha).1 R.nd).mp (ha.trans e2.symm))
    rw [upd_ne ne]
    exact (R.cell j d b e1 e2).aft A R

/-- a live cell is frozen -/
def S4.frz (s : S4) (i : Nat) (a : Addr) : S4 := ⟨s.rho, fun b => s.fz b ∨ b = a, s.hp.set i none, s.H⟩
theorem live_frz (R : Rel K s) {i : Nat} {a b : Addr} (ha : s.rho[i]? = some a) (l : Live (s.frz i a) b) : Live s b ∧ b ≠ a := by
  obtain ⟨j, d, e1, e2⟩ := l
  have e1 : (s.hp.set i none)[j]? = some (some d) := e1
  have e2 : s.rho[j]? = some b := e2
  by_cases hj : i = j
  · subst hj
    by_cases hl : i < s.hp.length
    · rw [List.getElem?_set_self hl] at e1; cases e1
    · rw [List.getElem?_eq_none (by simpa using hl)] at e1; cases e1
  · rw [List.getElem?_set_ne hj] at e1
    refine ⟨⟨j, d, e1, e2⟩, fun z => ?_⟩
    subst z
    exact hj ((List.getElem?_inj (List.getElem?_eq_some_iff.mp ha).1 R.nd).mp (ha.trans e2.symm))
theorem aft_frz (R : Rel K s) {i : Nat} {a : Addr} {c0 : Cell} (h0 : s.hp[i]? = some (some c0)) (ha : s.rho[i]? = some a) : Aft s (s.frz i a) := by
  refine ⟨⟨[], by simp [S4.frz], by simp⟩, fun _ f => .inl f, fun b u e nl => e, fun b f => ?_, fun b l => .inl (live_frz R ha l).1, fun b e => e⟩
  rcases f with f | f
  · exact .inl f
  · exact .inr (.inr (by rw [f]; exact ⟨i, c0, h0, ha⟩))
theorem rel_frz (R : Rel K s) {i : Nat} {a : Addr} {c0 : Cell} (h0 : s.hp[i]? = some (some c0)) (ha : s.rho[i]? = some a) : Rel K (s.frz i a) := by
  have A := aft_frz R h0 ha
  refine ⟨by simp [S4.frz, R.len], R.nd, R.trk, fun b f => ?_, fun b l f => ?_, fun j d b e1 e2 => ?_⟩
  · rcases f with f | f
    · exact R.ftrk b f
    · rw [f]; exact R.liveH h0 ha
  · obtain ⟨l1, ne⟩ := live_frz R ha l
    rcases f with f | f
    · exact R.fz b l1 f
    · exact ne f
  · have e1 : (s.hp.set i none)[j]? = some (some d) := e1
    by_cases hj : i = j
    · subst hj
      rw [List.getElem?_set_self (List.getElem?_eq_some_iff.mp h0).1] at e1; cases e1
    · rw [List.getElem?_set_ne hj] at e1
      exact (R.cell j d b e1 e2).aft A R
end

/-! ### freezing -/
/-- a live list of trees becomes a tree -/
def freeze (w : W) (hp : IH) : Res W := match w with
  | .t x => .ok (.t x) hp
  | .r i => match (getL hp i).bind allT with
    | some ts => .ok (.t (.lst ts)) (hp.set i none)
    | none => .bad
def mFrz (F : M W) : M W := fun eta hp => (F eta hp).bind fun a h1 => freeze a h1
section
variable {X : Cx} {Wx : WX} {e : Expr} {es : List Expr} {F : M W} {Fs : M (List W)} {pos : Pos}
theorem go_freeze {K : PySem.W.Frag} {s : S4} {w : W} {v : V} {Q : VK} (R : Rel K s) (r : Rw K s w v) (g : Go K Wx (Rw K) s (freeze w s.hp) Q) : Q v s.H := by
  cases w with
  | t x => exact g v s rfl (Aft.refl s) R r
  | r i =>
    simp only [freeze] at g
    cases hq : (getL s.hp i).bind allT with
    | none => simp only [hq] at g; exact g.elim
    | some ts =>
      simp only [hq] at g
      rw [Option.bind_eq_some_iff] at hq
      obtain ⟨ws, h1, h2⟩ := hq
      obtain ⟨a, vs, e, e1, e2, l, nf⟩ := R.lst h1 r
      subst e
      have A := aft_frz R (getL_eq h1) e1
      refine g (.ref a) (s.frz i a) rfl A (rel_frz R (getL_eq h1) e1) ?_
      rw [allT_eq h2] at l
      simp only [Rw, Rf]
      exact ⟨a, vs, rfl, ⟨.inr rfl, e2⟩, RfL.aft A R _ _ (RwL.of_trees.mp l)⟩
theorem ie_frz (he : IE X Wx e F) : IE X Wx e (mFrz F) := PE.imp he fun σ H Q h => by
  obtain ⟨s, eta, e1, R1, S1, g⟩ := h
  exact ⟨s, eta, e1, R1, S1, Go.bind g fun a b s' A' R' f' _ g' => go_freeze R' f' g'⟩

/-! ### displays -/
def tupOf (ws : List W) (hp : IH) : Res W := match allT ws with
  | some ts => if ts.length ≤ 16777216 then .ok (.t (.tup ts)) hp else .bad
  | none => .bad
def lstOf (ws : List W) (hp : IH) : Res W := match allT ws with
  | some ts => if ts.length ≤ 16777216 then .ok (.t (.lst ts)) hp else .bad
  | none => .bad
def newL (ws : List W) (hp : IH) : Res W := if ws.length ≤ 16777216 then .ok (.r hp.length) (hp ++ [some (.lst ws)]) else .bad
section
variable {K : PySem.W.Frag} {s : S4} {ws : List W} {vs : List V} {Q : VK}
theorem go_tup (R : Rel K s) (r : RwL K s ws vs) (g : Go K Wx (Rw K) s (tupOf ws s.hp) Q) : vs.length ≤ sizeLine ∧ ∀ (p : Addr) (o : Obj), s.H p = none → o.dict = none → Q (.ref p) (upd s.H p (.frz o (.tup vs))) := by
  unfold tupOf at g
  split at g
  · rename_i ts ht
    split at g
    · rename_i hz
      rw [allT_eq ht] at r
      refine ⟨by rw [← RwL.length r, List.length_map, sizeLine_eq]; exact hz, fun p o hp d => g (.ref p) (s.addF p (.frz o (.tup vs))) rfl (aft_addF R hp) (rel_addF R hp) (addF_tup R hp d (RwL.of_trees.mp r))⟩
    · exact g.elim
  · exact g.elim
theorem go_lst (R : Rel K s) (r : RwL K s ws vs) (g : Go K Wx (Rw K) s (lstOf ws s.hp) Q) : vs.length ≤ sizeLine ∧ ∀ p, s.H p = none → Q (.ref p) (upd s.H p (.lst vs)) := by
  unfold lstOf at g
  split at g
  · rename_i ts ht
    split at g
    · rename_i hz
      rw [allT_eq ht] at r
      refine ⟨by rw [← RwL.length r, List.length_map, sizeLine_eq]; exact hz, fun p hp => g (.ref p) (s.addF p (.lst vs)) rfl (aft_addF R hp) (rel_addF R hp) (addF_lst R hp (RwL.of_trees.mp r))⟩
    · exact g.elim
  · exact g.elim
theorem go_newL (R : Rel K s) (r : RwL K s ws vs) (g : Go K Wx (Rw K) s (newL ws s.hp) Q) : vs.length ≤ sizeLine ∧ ∀ p, s.H p = none → Q (.ref p) (upd s.H p (.lst vs)) := by
  unfold newL at g
  split at g
  · rename_i hz
    refine ⟨by rw [← RwL.length r, sizeLine_eq]; exact hz, fun p hp => g (.ref p) (s.addL p (.lst ws) (.lst vs)) rfl (aft_addL R hp) (rel_addL R hp ⟨vs, rfl, r⟩) (addL_r R)⟩
  · exact g.elim
end
/-- a tuple laid, its object known to have no dict -/
def tTupS (t : TA) : TE := fun σ H Q => t σ H fun xs H1 => xs.length ≤ sizeLine ∧ ∀ (p : Addr) (o : Obj), H1 p = none → o.dict = none → Q (.ref p) (upd H1 p (.frz o (.tup xs)))
theorem laid_tup {pins : List (Addr × Obj)} {σ : St} {H : Hp} {s : Shared} {xs : List V} {us : List Value} {t' : Nat} {Q : VK} (I : Inv X pins σ H s) (r : Vals xs us) (z : xs.length ≤ sizeLine)
    (q : ∀ (p : Addr) (o : Obj), H p = none → o.dict = none → Q (.ref p) (upd H p (.frz o (.tup xs)))) : EP X pins σ Q (.ref s.heap.objs.size) { s with heap := s.heap.push { cls := .type "tuple", data := .seq us.toArray }, toks := t' } := by
  refine ⟨.ref s.heap.objs.size, _, I.laid (t' := t') (o := .frz { cls := .type "tuple", data := .seq us.toArray } (.tup xs)) (fun b u e => Heap.get?_push_of_some _ e) (Nat.le_refl _) ?_, rfl, q _ _ I.fresh rfl⟩
  exact ⟨Heap.get?_push_size _ rfl, z, us, r, ⟨_, Heap.get?_push_size _ rfl, rfl, _, rfl⟩⟩
theorem pe_tupS {x1} {t : TA} (h : PA X es t) : PE X (.Tuple es x1 pos) (tTupS t) := by
  refine ⟨fun pn s0 σ H Q J hq => ?_⟩
  refine wpAny_Tuple_spliced (thn (h.run pos pn s0 σ H _ J hq) fun us s1 w => ?_)
  obtain ⟨xs, H1, J1, r, z, q⟩ := w
  exact ⟨by rw [← r.length]; exact z, laid_tup (t' := s1.toks) J1 r z q⟩
theorem ie_tup {x1} (h : IA X Wx es Fs) : IE X Wx (.Tuple es x1 pos) (mApp tupOf Fs) := PE.imp (pe_tupS h) fun σ H Q h =>
  tM.bind1 (R := fun (xs : List V) (H1 : Hp) => xs.length ≤ sizeLine ∧ ∀ (p : Addr) (o : Obj), H1 p = none → o.dict = none → Q (.ref p) (upd H1 p (.frz o (.tup xs)))) (k := fun (a : List W) _ hp => tupOf a hp) h fun s eta a b R1 _ f1 g => go_tup R1 f1 g
theorem ie_lstF (h : IA X Wx es Fs) : IE X Wx (.List es pos) (mApp lstOf Fs) := PE.imp (pe_lst h) fun σ H Q h =>
  tM.bind1 (R := fun (xs : List V) (H1 : Hp) => xs.length ≤ sizeLine ∧ ∀ p, H1 p = none → Q (.ref p) (upd H1 p (.lst xs))) (k := fun (a : List W) _ hp => lstOf a hp) h fun s eta a b R1 _ f1 g => go_lst R1 f1 g
theorem ie_lstL (h : IA X Wx es Fs) : IE X Wx (.List es pos) (mApp newL Fs) := PE.imp (pe_lst h) fun σ H Q h =>
  tM.bind1 (R := fun (xs : List V) (H1 : Hp) => xs.length ≤ sizeLine ∧ ∀ p, H1 p = none → Q (.ref p) (upd H1 p (.lst xs))) (k := fun (a : List W) _ hp => newL a hp) h fun s eta a b R1 _ f1 g => go_newL R1 f1 g
end

/-! ### tests -/
def asB (w : W) (hp : IH) : Res Bool := match w with
  | .t (.bl b) => .ok b hp
  | _ => .bad
/-- a value's truth -/
def truW (w : W) (hp : IH) : Res Bool := match w with
  | .t .non => .ok false hp
  | .t (.bl b) => .ok b hp
  | .t (.int i) => .ok (i != 0) hp
  | .t (.str s) => if s.length ≤ 16777216 then .ok ((s.length : Int) != 0) hp else .bad
  | w => match items hp w with
    | some ws => .ok (!ws.isEmpty) hp
    | none => .bad
def mTest (f : W → IH → Res Bool) (F : M W) : M Bool := fun eta hp => (F eta hp).bind fun a h1 => f a h1
def mAnd (A B : M Bool) : M Bool := fun eta hp => (A eta hp).bind fun a h1 => if a then B eta h1 else .ok false h1
def mOr (A B : M Bool) : M Bool := fun eta hp => (A eta hp).bind fun a h1 => if a then .ok true h1 else B eta h1
def mNot (A : M Bool) : M Bool := fun eta hp => (A eta hp).bind fun a h1 => .ok (!a) h1
def mIf {A : Type} (T : M Bool) (F G : M A) : M A := fun eta hp => (T eta hp).bind fun b h1 => if b then F eta h1 else G eta h1
def mBool (A : M Bool) : M W := fun eta hp => (A eta hp).bind fun a h1 => .ok (.t (.bl a)) h1
section
variable {X : Cx} {Wx : WX} {a b c e : Expr} {rest : List Expr} {Fa Fb Fc F : M W} {A B : M Bool} {pos : Pos}
theorem go_asB {K : PySem.W.Frag} {s : S4} {w : W} {v : V} {Q : Bool → Hp → Prop} (R : Rel K s) (r : Rw K s w v) (g : Go K Wx (fun _ (a b : Bool) => a = b) s (asB w s.hp) Q) : ∃ k, v = .bl k ∧ Q k s.H := by
  unfold asB at g
  split at g
  · rename_i k
    simp only [Rw, Rf] at r
    exact ⟨k, r, g k s rfl (Aft.refl s) R rfl⟩
  · exact g.elim
theorem it_val (h : IE X Wx e F) (he : ∀ whole, isTrue e X.env whole = (do let v ← whole; standAt e.pos; holding [v] (truthy v)) := by intro _; rfl) : IT X Wx e (mTest asB F) :=
  PT.imp (pt_val h he) fun σ H Q h => tM.bind1 (R := fun (x : V) (H1 : Hp) => ∃ c, x = .bl c ∧ Q c H1) (k := fun (a : W) _ hp => asB a hp) h fun s eta a b R1 _ f1 g => go_asB R1 f1 g
theorem it_cmp {op : CmpOp} {f : Op2} {r : R2} (ho : OpR X (compareOp op) r) (hf : Op2Ok X.K Wx f r) (ha : IE X Wx a Fa) (hb : IE X Wx b Fb) (hm : behindInMarks op b = false) : IT X Wx (.Compare a [op] [b] pos) (mTest asB (mBin f Fa Fb)) :=
  PT.imp (pt_cmpR ho ha hb hm) fun σ H Q h => by
    have h' : tE X.K Wx (mBin f Fa Fb) σ H (fun x H1 => ∃ k, x = .bl k ∧ Q k H1) := tM.bind1 (R := fun (x : V) (H1 : Hp) => ∃ k, x = .bl k ∧ Q k H1) (k := fun (a : W) _ hp => asB a hp) h fun s eta a b R1 _ f1 g => go_asB R1 f1 g
    exact t_bin hf σ H _ h'
theorem items_at {K : PySem.W.Frag} {s : S4} (R : Rel K s) {w : W} {v : V} {ws : List W} (h : items s.hp w = some ws) (r : Rw K s w v) : ∃ p xs, v = .ref p ∧ ((SqL K s.H p xs) ∨ SqT K s.H p xs) ∧ RwL K s ws xs := by
  obtain ⟨p, xs, e, q, l⟩ := items_sq R h r
  exact ⟨p, xs, e, q.symm, l⟩
theorem go_tru {K : PySem.W.Frag} {s : S4} {w : W} {v : V} {Q : Bool → Hp → Prop} (R : Rel K s) (r : Rw K s w v) (g : Go K Wx (fun _ (a b : Bool) => a = b) s (truW w s.hp) Q) : ∃ k, TruV K v s.H k ∧ Q k s.H := by
  have fin : ∀ {k : Bool}, Go K Wx (fun _ (a b : Bool) => a = b) s (.ok k s.hp) Q → Q k s.H := fun g => g _ s rfl (Aft.refl s) R rfl
  have seq : (match items s.hp w with | some ws => Res.ok (!ws.isEmpty) s.hp | none => .bad : Res Bool) = truW w s.hp → ∃ k, TruV K v s.H k ∧ Q k s.H := fun e => by
    rw [← e] at g
    cases hi : items s.hp w with
    | none => simp only [hi] at g; exact g.elim
    | some ws =>
      simp only [hi] at g
      obtain ⟨p, xs, ev, q, l⟩ := items_at R hi r
      subst ev
      have em : ws.isEmpty = xs.isEmpty := by
        have := RwL.length l
        cases ws <;> cases xs <;> simp_all
      refine ⟨!ws.isEmpty, ?_, fin g⟩
      rcases q with q | q
      · exact .inl ⟨xs, q, by rw [em]⟩
      · exact .inr (.inl ⟨xs, q, by rw [em]⟩)
  cases w with
  | r i => exact seq rfl
  | t x =>
    cases x with
    | non => simp only [Rw, Rf] at r; subst r; exact ⟨false, rfl, fin g⟩
    | bl b => simp only [Rw, Rf] at r; subst r; exact ⟨b, rfl, fin g⟩
    | int i => simp only [Rw, Rf] at r; subst r; exact ⟨_, rfl, fin g⟩
    | str z =>
      simp only [Rw, Rf] at r; subst r
      simp only [truW] at g
      split at g
      · rename_i hz
        exact ⟨_, ⟨by rw [sizeLine_eq]; exact hz, rfl⟩, fin g⟩
      · exact g.elim
    | _ => exact seq rfl
theorem it_tru (h : IE X Wx e F) (he : ∀ whole, isTrue e X.env whole = (do let v ← whole; standAt e.pos; holding [v] (truthy v)) := by intro _; rfl) : IT X Wx e (mTest truW F) := by
  refine PT.imp (pt_truth h he) fun σ H Q h => ?_
  exact tM.bind1 (R := fun (x : V) (H1 : Hp) => ∃ k, TruV X.K x H1 k ∧ Q k H1) (k := fun (a : W) _ hp => truW a hp) h fun s eta a b R1 _ f1 g => go_tru R1 f1 g
def IW (X : Cx) (Wx : WX) (e : Expr) (F : M Bool) : Prop := PW X e (tT X.K Wx F)
theorem IW.it (h : IW X Wx e A) : IT X Wx e A := PW.pt h
theorem iw_and1 (ha : IT X Wx a A) : IW X Wx (.BoolOp .And [a] pos) A := pw_and1 ha
theorem iw_or1 (ha : IT X Wx a A) : IW X Wx (.BoolOp .Or [a] pos) A := pw_or1 ha
theorem t_cond {R : Bool → Hp → Prop} {C D : Type} {K : PySem.W.Frag} {Gam : S4 → C → D → Prop} {k : Bool → IS → IH → Res C} {σ : St} {H : Hp} {Q : D → Hp → Prop}
    (h : tM K Wx Gam (fun eta hp => (A eta hp).bind fun b h1 => k b eta h1) σ H Q) (n : ∀ (s : S4) (eta : IS) (b : Bool), Rel K s → Sl K s eta σ → Go K Wx Gam s (k b eta s.hp) Q → R b s.H) : tT K Wx A σ H R :=
  tM.bind1 (R := R) h fun s eta a b R1 S1 f1 g => by subst f1; exact n s eta a R1 S1 g
theorem iw_and (ha : IT X Wx a A) (hb : IW X Wx (.BoolOp .And (b :: rest) pos) B) : IW X Wx (.BoolOp .And (a :: b :: rest) pos) (mAnd A B) :=
  PW.imp (pw_and ha hb) fun σ H Q h => t_cond (R := fun c H1 => if c = true then tT X.K Wx B σ H1 Q else Q false H1) (k := fun a eta h1 => if a then B eta h1 else .ok false h1) h fun s eta b R1 S1 g => by
    cases b with
    | true => exact ⟨s, eta, rfl, R1, S1, g⟩
    | false => exact g false s rfl (Aft.refl s) R1 rfl
theorem iw_or (ha : IT X Wx a A) (hb : IW X Wx (.BoolOp .Or (b :: rest) pos) B) : IW X Wx (.BoolOp .Or (a :: b :: rest) pos) (mOr A B) :=
  PW.imp (pw_or ha hb) fun σ H Q h => t_cond (R := fun c H1 => if c = true then Q true H1 else tT X.K Wx B σ H1 Q) (k := fun a eta h1 => if a then .ok true h1 else B eta h1) h fun s eta b R1 S1 g => by
    cases b with
    | true => exact g true s rfl (Aft.refl s) R1 rfl
    | false => exact ⟨s, eta, rfl, R1, S1, g⟩
theorem it_not (ha : IT X Wx a A) : IT X Wx (.UnaryOp .Not a pos) (mNot A) :=
  PT.imp (pt_not ha) fun σ H Q h => t_cond (R := fun c H1 => Q (!c) H1) (k := fun a eta h1 => .ok (!a) h1) h fun s eta b R1 S1 g => g (!b) s rfl (Aft.refl s) R1 rfl
theorem ie_if (hc : IT X Wx c A) (ha : IE X Wx a Fa) (hb : IE X Wx b Fb) : IE X Wx (.IfExp c a b pos) (mIf A Fa Fb) :=
  PE.imp (pe_ifExp hc ha hb) fun σ H Q h => t_cond (R := fun c H1 => if c = true then tE X.K Wx Fa σ H1 Q else tE X.K Wx Fb σ H1 Q) (k := fun b eta h1 => if b then Fa eta h1 else Fb eta h1) h fun s eta b R1 S1 g => by
    cases b with
    | true => exact ⟨s, eta, rfl, R1, S1, g⟩
    | false => exact ⟨s, eta, rfl, R1, S1, g⟩
/-- bools as values: and, or, not (all but the last a bool) -/
def mAndV (Fa Fb : M W) : M W := fun eta hp => (Fa eta hp).bind fun a h1 => match a with | .t (.bl true) => Fb eta h1 | .t (.bl false) => .ok (.t (.bl false)) h1 | _ => .bad
def mOrV (Fa Fb : M W) : M W := fun eta hp => (Fa eta hp).bind fun a h1 => match a with | .t (.bl true) => .ok (.t (.bl true)) h1 | .t (.bl false) => Fb eta h1 | _ => .bad
def mNotV (Fa : M W) : M W := fun eta hp => (Fa eta hp).bind fun a h1 => match a with | .t (.bl b) => .ok (.t (.bl (!b))) h1 | _ => .bad
theorem ie_one {op} (h : IE X Wx a F) : IE X Wx (.BoolOp op [a] pos) F := pe_one h
theorem ie_and (ha : IE X Wx a Fa) (hb : IE X Wx (.BoolOp .And (b :: rest) pos) Fb) : IE X Wx (.BoolOp .And (a :: b :: rest) pos) (mAndV Fa Fb) :=
  PE.imp (pe_and ha hb) fun σ H Q h => tM.bind1 (R := fun (x : V) (H1 : Hp) => ∃ c, x = .bl c ∧ if c = true then tE X.K Wx Fb σ H1 Q else Q (.bl false) H1)
    (k := fun (a : W) eta h1 => match a with | .t (.bl true) => Fb eta h1 | .t (.bl false) => .ok (.t (.bl false)) h1 | _ => .bad) h fun s eta a b R1 S1 f1 g => by
    split at g
    · simp only [Rw, Rf] at f1; exact ⟨true, f1, by rw [if_pos rfl]; exact ⟨s, eta, rfl, R1, S1, g⟩⟩
    · simp only [Rw, Rf] at f1; exact ⟨false, f1, by rw [if_neg Bool.false_ne_true]; exact g (.bl false) s rfl (Aft.refl s) R1 (by simp [Rw, Rf])⟩
    · exact g.elim
theorem ie_or (ha : IE X Wx a Fa) (hb : IE X Wx (.BoolOp .Or (b :: rest) pos) Fb) : IE X Wx (.BoolOp .Or (a :: b :: rest) pos) (mOrV Fa Fb) :=
  PE.imp (pe_or ha hb) fun σ H Q h => tM.bind1 (R := fun (x : V) (H1 : Hp) => ∃ c, x = .bl c ∧ if c = true then Q (.bl true) H1 else tE X.K Wx Fb σ H1 Q)
    (k := fun (a : W) eta h1 => match a with | .t (.bl true) => .ok (.t (.bl true)) h1 | .t (.bl false) => Fb eta h1 | _ => .bad) h fun s eta a b R1 S1 f1 g => by
    split at g
    · simp only [Rw, Rf] at f1; exact ⟨true, f1, by rw [if_pos rfl]; exact g (.bl true) s rfl (Aft.refl s) R1 (by simp [Rw, Rf])⟩
    · simp only [Rw, Rf] at f1; exact ⟨false, f1, by rw [if_neg Bool.false_ne_true]; exact ⟨s, eta, rfl, R1, S1, g⟩⟩
    · exact g.elim
theorem ie_not (ha : IE X Wx a Fa) : IE X Wx (.UnaryOp .Not a pos) (mNotV Fa) :=
  PE.imp (pe_not ha) fun σ H Q h => tM.bind1 (R := fun (x : V) (H1 : Hp) => ∃ c, x = .bl c ∧ Q (.bl (!c)) H1)
    (k := fun (a : W) _ h1 => (match a with | .t (.bl b) => .ok (W.t (.bl (!b))) h1 | _ => .bad : Res W)) h fun s eta a b R1 S1 f1 g => by
    split at g
    · rename_i c
      simp only [Rw, Rf] at f1; exact ⟨c, f1, g (.bl (!c)) s rfl (Aft.refl s) R1 (by simp [Rw, Rf])⟩
    · exact g.elim
/-- a < b <= c -/
def mChain (f f' : Op2) (Fa Fb Fc : M W) : M W := fun eta hp => (Fa eta hp).bind fun a h1 => (Fb eta h1).bind fun b h2 => (f a b h2).bind fun z h3 => match z with
  | .t (.bl true) => (Fc eta h3).bind fun c h4 => f' b c h4
  | .t (.bl false) => .ok (.t (.bl false)) h3
  | _ => .bad
end
end Mir

/-! MirZ: lists and tuples walked, alike: plainly, by enumerate, by zip (in any mix). -/
namespace Mir
open PySem PySem.Spec L2
open PyProof.Rows hiding St

inductive Kd where | l | t
def Sq (K : PySem.W.Frag) (H : Hp) : Kd → Addr → List V → Prop
  | .l => SqL K H
  | .t => SqT K H
def IterH (h : Heap) : Kd → Addr → Addr → Nat → Prop
  | .l => h.IsListIter
  | .t => h.IsTupleIter
def SeqH (h : Heap) : Kd → Addr → Array Value → Prop
  | .l => h.IsList
  | .t => h.IsTuple
def iterO (kd : Kd) (a : Addr) : Obj := match kd with
  | .l => { cls := .type "list_iterator", data := .fields #[.ref a, .int 0 0] }
  | .t => { cls := .type "tuple_iterator", data := .fields #[.ref a, .int 0 0] }
section
variable {X : Cx} {pins : List (Addr × Obj)} {σ : L2.St} {H : Hp} {s : Shared}
theorem Inv_sq (I : Inv X pins σ H s) {kd : Kd} {a : Addr} {xs : List V} (h : Sq X.K H kd a xs) : ∃ its : List Value, Vals xs its ∧ SeqH s.heap kd a its.toArray := by
  cases kd with
  | l => obtain ⟨its, r, p, _⟩ := I.list h; exact ⟨its, r, p.isList⟩
  | t => obtain ⟨its, r, p, _⟩ := I.tuple h; exact ⟨its, r, p⟩
theorem Inv_sq_inj (I : Inv X pins σ H s) {kd : Kd} {a : Addr} {xs ys : List V} (h : Sq X.K H kd a xs) (h' : Sq X.K H kd a ys) : xs = ys := by
  cases kd with
  | l => exact I.list_inj h h'
  | t => exact I.tuple_inj h h'
end
theorem SeqH.lt {h : Heap} {kd : Kd} {a : Addr} {its : Array Value} (x : SeqH h kd a its) : a < h.objs.size := by
  cases kd with
  | l => obtain ⟨o, e, _⟩ := x; exact Heap.lt_size e
  | t => obtain ⟨o, e, _⟩ := x; exact Heap.lt_size e
theorem IterH.lt {h : Heap} {kd : Kd} {it a : Addr} {i : Nat} (x : IterH h kd it a i) : it < h.objs.size := by
  cases kd with
  | l => obtain ⟨o, e, _⟩ := x; exact Heap.lt_size e
  | t => obtain ⟨o, e, _⟩ := x; exact Heap.lt_size e
theorem IterH.ob {h : Heap} {kd : Kd} {it a : Addr} {i : Nat} (x : IterH h kd it a i) : ∃ o, h.get? it = some o ∧ ∀ v, o.data ≠ .cell v := by
  cases kd with
  | l => obtain ⟨o, e, _, d⟩ := x; exact ⟨o, e, fun v z => by rw [d] at z; cases z⟩
  | t => obtain ⟨o, e, _, d⟩ := x; exact ⟨o, e, fun v z => by rw [d] at z; cases z⟩
theorem IterH.at_ {h h' : Heap} {kd : Kd} {it a : Addr} {i : Nat} (x : IterH h kd it a i) (k : ∀ o, h.get? it = some o → h'.get? it = some o) : IterH h' kd it a i := by
  cases kd with
  | l => exact Heap.IsListIter.at x k
  | t => exact Heap.IsTupleIter.at x k
theorem IterH.new {h : Heap} {kd : Kd} {it a : Addr} (e : h.get? it = some (iterO kd a)) : IterH h kd it a 0 := by
  cases kd with
  | l => exact ⟨_, e, rfl, rfl⟩
  | t => exact ⟨_, e, rfl, rfl⟩
theorem begins_sq (kd : Kd) (a : Addr) (its : Array Value) : Begins (.ref a) (iterO kd a) fun h => SeqH h kd a its := by
  cases kd with
  | l => exact begins_list a its
  | t => exact begins_tuple a its
theorem draws_sq {prog : Program} {w : World} {A : Around} (hh : A.handled = none) (kd : Kd) (it a : Addr) (hne : a ≠ it) (its : Array Value) :
    Draws prog w A it [it, a] its.size (fun i v => its[i]? = some v) (fun i h => IterH h kd it a i ∧ SeqH h kd a its) := by
  cases kd with
  | l => exact Draws.list hh it a hne its
  | t => exact Draws.tuple hh it a hne its

/-! ### plainly -/
def ItQ (K : PySem.W.Frag) (kd : Kd) (a : Addr) : It := match kd with | .l => Itl K a | .t => Itt K a
def iSq (K : PySem.W.Frag) (te : TE) : TI := fun σ H R => te σ H fun x H1 => ∃ kd a xs, x = .ref a ∧ Sq K H1 kd a xs ∧ R (ItQ K kd a) H1
theorem pi_sq {X : Cx} {tg e : Expr} {te : TE} (he : PE X e te) : PI X tg e (iSq X.K te) := ⟨fun pins s σ H R I h => by
  refine thn (he.run pins s σ H _ I h) ?_
  rintro v s1 ⟨x, H1, I1, r1, kd, a, xs, ex, hq, q⟩
  subst ex
  obtain rfl : v = Value.ref a := r1
  obtain ⟨its, rv, p⟩ := Inv_sq I1 hq
  have I2 : Inv X pins σ H1 { s1 with heap := s1.heap.push (iterO kd a) } := I1.kept (t' := s1.toks) fun b o e => Heap.get?_push_of_some _ e
  have fp : ∀ b ∈ [s1.heap.objs.size], FpOk X pins H1 b := fun b hb => by
    obtain rfl : b = s1.heap.objs.size := by simpa using hb
    exact I1.fpOk (Nat.le_refl _) (I1.hok.fresh (Nat.le_refl _))
  have hn : IterH (s1.heap.push (iterO kd a)) kd s1.heap.objs.size a 0 := IterH.new (Heap.get?_push_size _ (by cases kd <;> rfl))
  refine (begins_sq kd a its.toArray).iter _ _ _ _ _ _ p ?_
  cases kd with
  | l => exact ⟨s1.heap.objs.size, [s1.heap.objs.size], _, _, H1, rfl, I2, turn_list a _, hn, fp, q⟩
  | t => exact ⟨s1.heap.objs.size, [s1.heap.objs.size], _, _, H1, rfl, I2, turn_tuple a _, hn, fp, q⟩⟩

/-! ### enumerate -/
def ItEn (K : PySem.W.Frag) (kd : Kd) (a : Addr) : It :=
  ⟨fun i H => ∃ (xs : List V) (x : V), Sq K H kd a xs ∧ xs[i]? = some x,
   fun i H v H' => ∃ (T : Addr) (x : V), v = .ref T ∧ H T = none ∧ H' = upd H T (.tup [.int (i : Nat), x]) ∧ ∀ xs, Sq K H kd a xs → xs[i]? = some x,
   fun i H => ∃ xs : List V, Sq K H kd a xs ∧ xs.length = i⟩
def TnEn (kd : Kd) (a e it : Addr) (i : Nat) (h : Heap) : Prop := (∃ old, IsEnum h e it (0 + (i : Int)) old) ∧ IterH h kd it a i ∧ e ≠ it ∧ a ≠ it ∧ a ≠ e
theorem turn_en {P : Program} {w : World} {K : PySem.W.Frag} {elts : List Expr} {kk : Nat} {tpos : Pos} (kd : Kd) (a e it : Addr) : Turn P w K (.Tuple elts kk tpos) (ItEn K kd a) [e, it] e (TnEn kd a e it) where
  mem := by simp
  obj := fun i h st b hb => by
    obtain ⟨⟨old, he⟩, hi, _⟩ := st
    have e' : b = e ∨ b = it := by simpa using hb
    rcases e' with z | z
    · rw [z]; exact ⟨_, he, fun v q => nomatch q⟩
    · rw [z]; exact hi.ob
  keep := fun i h h' st k => by
    obtain ⟨⟨old, he⟩, hi, ne⟩ := st
    exact ⟨⟨old, k e (by simp) _ he⟩, hi.at_ fun o q => k it (by simp) o q, ne⟩
  item := by
    intro X hP hw hK hc i pins s σ H E I hf st hg
    subst hP hw hK
    obtain ⟨⟨old, he⟩, hit, hne, hae⟩ := st
    obtain ⟨xs, x, hq, hx⟩ := hg
    obtain ⟨its, rv, p⟩ := Inv_sq I hq
    obtain ⟨u, hu, ru⟩ := rv.get hx
    have hd : X.A.in1.handled = none := I.ok.hd hc
    have D := draws_sq (prog := X.prog) (w := X.w) hd kd it a hae.1 its.toArray
    have Wk := WalksT.enumFrom 0 D e hne (by simp [hne, Ne.symm hae.2]) (by simp)
    have hlt : i < its.toArray.size := by
      have := (List.getElem?_eq_some_iff.mp hu).1
      simpa using this
    refine Wk.item i s _ _ hlt ⟨⟨old, he⟩, hit, p⟩ fun T vals h1 tk hv hT hTup hm hk => ⟨_, rfl, ?_⟩
    refine Wk.go elts kk tpos i T { s with heap := h1, toks := tk } _ _ hm fun h2 st2 hk2 => ?_
    obtain ⟨t, y, hy, ev⟩ := hv
    subst ev
    have ey : y = u := by
      have hy' : its[i]? = some y := by simpa using hy
      exact Option.some.inj (hy'.symm.trans hu)
    subst ey
    have hTw : T ∉ [e, it] := Wk.apart i T h1 hm
    have hT2 : h2.IsTuple T #[.int (0 + (i : Int)) t, y] := hTup.at fun o q => hk2 T o hTw q
    have new : ObjOk X.prog X.w (upd H T (.tup [.int (i : Nat), x])) h2 T (.tup [.int (i : Nat), x]) :=
      ⟨by show 2 ≤ sizeLine; decide, [.int (0 + (i : Int)) t, y], .cons ⟨t, by rw [Int.zero_add]⟩ (.cons ru .nil), hT2⟩
    have I1 : Inv X pins σ (upd H T (.tup [.int (i : Nat), x])) { s with heap := h2, toks := tk } :=
      I.turnedNew (ch := [e, it]) (fun b ob hb q => hk2 b ob hb (hk b ob hb q)) hf hT new
    refine ⟨.ref T, _, I1, rfl, ⟨T, x, rfl, I.hok.fresh hT, rfl, fun ys hy => by rw [Inv_sq_inj I hy hq]; exact hx⟩, ?_, fun b hb => ?_⟩
    · exact ⟨by have := st2.1; simpa using this, st2.2.1, hne, hae⟩
    · have nb : b ≠ T := fun z => hTw (z ▸ hb)
      rw [upd_ne nb]
      exact (hf b hb).1
  done := by
    intro X hP hw hK hc i pins s σ H E I hf st hg
    subst hP hw hK
    obtain ⟨⟨old, he⟩, hit, hne, hae⟩ := st
    obtain ⟨xs, hq, hl⟩ := hg
    obtain ⟨its, rv, p⟩ := Inv_sq I hq
    have D := draws_sq (prog := X.prog) (w := X.w) (A := X.A.in1) (I.ok.hd hc) kd it a hae.1 its.toArray
    have Wk := WalksT.enumFrom 0 D e hne (by simp [hne, Ne.symm hae.2]) (by simp)
    have hn : its.toArray.size = i := by have := rv.length; simp; omega
    have := Wk.done s (fun r s1 => r = none ∧ Inv X pins σ H s1) E (by rw [hn]; exact ⟨⟨old, he⟩, hit, p⟩) fun h1 tk hk => ⟨rfl, I.turnedL (ch := [e, it]) hk hf⟩
    exact this
  self := fun A i s Q E st h => by
    obtain ⟨⟨old, he⟩, _⟩ := st
    exact wpAny_pyIter_enum he h
section
variable {prog : Program} {w : World} {A : Around} {E : Value → Shared → Prop} {s : Shared}
theorem meets_en1 {v : Value} {o : Obj} {Hv : Heap → Prop} (B : Begins v o Hv) :
    Meets (Builtin.«enumerate.__new__» ⟨[.type "enumerate", v], []⟩) (fun _ R s => Hv s.heap ∧
      R (.ok (.ret (.ref (s.heap.push o).objs.size))) { s with heap := (s.heap.push o).push { cls := .type "enumerate", data := .fields #[.none, .bool false, .ref s.heap.objs.size, rawInt 0, .none, .none] } }) :=
  .of_wp fun prog w A R s hs => by
    obtain ⟨hp, g, d, tk, os⟩ := s
    obtain ⟨hv, hr⟩ := hs
    have hsub := sub_enumerate
    have q1 : ∀ {A2 : Around} {E2 : Value → Shared → Prop} {Q2 : Value → Shared → Prop}, Q2 (.ref hp.objs.size) ⟨hp.push o, g, d, tk, os⟩ → wpAny (model prog w) A2 (pyIter v) Q2 E2 ⟨hp, g, d, tk, os⟩ :=
      fun q => B.iter prog w _ _ ⟨hp, g, d, tk, os⟩ _ hv q
    wp_walk using q1
    refine wpAny_stack_any fun st => ?_
    refine wpAny_pure ?_
    have fin : ∀ b : Bool, b = true ∨ b = false := fun b => by cases b <;> simp
    split
    · rename_i c _ _ _ _ _
      rcases fin (c == Value.type "enumerate") with q | q <;> rw [q] <;> (wp_walk using q1; exact ⟨_, rfl, hr⟩)
    · (wp_walk using q1; exact ⟨_, rfl, hr⟩)
theorem en1_begins {v : Value} {o : Obj} {Hv : Heap → Prop} {Q : Value → Shared → Prop} (B : Begins v o Hv) (h1 : Hv s.heap)
    (h : ∀ h', IsEnum h' (s.heap.objs.size + 1) s.heap.objs.size 0 .none → h'.get? s.heap.objs.size = some o → (∀ b ob, s.heap.get? b = some ob → h'.get? b = some ob) → Q (.ref (s.heap.objs.size + 1)) { s with heap := h' }) :
    wpAny (model prog w) A (call (.type "enumerate") [v]) Q E s := by
  refine callType_new F.called_enumerate (by decide) (F.typeCall_enumerate_1 _) (F.newCall_enumerate_1 _) (fun obj => F.args_object_init_2 obj _) F.entry_enumerate_new (meets_en1 B) ⟨h1, ?_⟩
  have hz : (s.heap.push o).objs.size = s.heap.objs.size + 1 := Heap.size_push ..
  show _ ∧ _
  rw [hz]
  have he := Heap.get?_push_size (s.heap.push o) (o := { cls := .type "enumerate", data := .fields #[.none, .bool false, .ref s.heap.objs.size, rawInt 0, .none, .none] }) rfl
  rw [hz] at he
  exact ⟨⟨_, he, rfl⟩, h _ he (Heap.get?_push_of_some _ (Heap.get?_push_size _ B.free)) fun b ob x => Heap.get?_push_of_some _ (Heap.get?_push_of_some _ x)⟩
end
def iEn (K : PySem.W.Frag) (ta : TA) : TI := fun σ H R => ta σ H fun vs H1 => ∃ kd a xs, vs = [.ref a] ∧ Sq K H1 kd a xs ∧ R (ItEn K kd a) H1
theorem pi_en {X : Cx} {e : Expr} {ta : TA} {p pos tpos : Pos} {elts : List Expr} {kk : Nat} (hg : Gl X "enumerate") (hm : X.mg "enumerate" = none) (ha : PA X [e] ta) (hs : starEach [e] X.env = [(false, eval e X.env)] := by rfl) :
    PI X (.Tuple elts kk tpos) (.Call (.Name "enumerate" p) [e] [] pos) (iEn X.K ta) := ⟨fun pins s σ H R I h => by
  refine Call_ (ld_blt I hg hm boot_enumerate (PyProof.Rows.callWith_type1 (thn (ha.run pos pins s σ H _ I h) ?_) hs rfl))
  rintro us s1 ⟨vs, H1, I1, r1, kd, a, xs, ex, hq, q⟩
  subst ex
  obtain rfl := Vals.ref1 r1
  obtain ⟨its, rv, p'⟩ := Inv_sq I1 hq
  refine en1_begins (begins_sq kd a its.toArray) p' fun h' he hit hk => wpAny_pyIter_enum he ?_
  have I2 : Inv X pins σ H1 { s1 with heap := h' } := I1.kept (t' := s1.toks) hk
  refine ⟨s1.heap.objs.size + 1, [s1.heap.objs.size + 1, s1.heap.objs.size], _, _, H1, rfl, I2, turn_en kd a (s1.heap.objs.size + 1) s1.heap.objs.size, ⟨⟨.none, by simpa using he⟩, IterH.new hit, Nat.succ_ne_self _, Nat.ne_of_lt p'.lt, Nat.ne_of_lt (Nat.lt_succ_of_lt p'.lt)⟩, fun b hb => ?_, q⟩
  have e' : b = s1.heap.objs.size + 1 ∨ b = s1.heap.objs.size := by simpa using hb
  have hle : s1.heap.objs.size ≤ b := by rcases e' with z | z <;> (rw [z]; first | exact Nat.le_refl _ | exact Nat.le_add_right _ _)
  exact I1.fpOk hle (I1.hok.fresh hle)⟩

/-! ### zip of two -/
def ItZp (K : PySem.W.Frag) (k1 k2 : Kd) (a b : Addr) : It :=
  ⟨fun i H => ∃ (xs ys : List V) (x y : V), Sq K H k1 a xs ∧ Sq K H k2 b ys ∧ xs[i]? = some x ∧ ys[i]? = some y,
   fun i H v H' => ∃ (T : Addr) (x y : V), v = .ref T ∧ H T = none ∧ H' = upd H T (.tup [x, y]) ∧ (∀ xs, Sq K H k1 a xs → xs[i]? = some x) ∧ ∀ ys, Sq K H k2 b ys → ys[i]? = some y,
   fun i H => ∃ xs ys : List V, Sq K H k1 a xs ∧ Sq K H k2 b ys ∧ min xs.length ys.length = i⟩
def TnZp (k1 k2 : Kd) (a b z TI TO i1 i2 : Addr) (i : Nat) (h : Heap) : Prop :=
  (IsZip h z TI TO .none ∧ IsTupOf2 h TI (.ref i1) (.ref i2) ∧ (∃ p q, IsTupOf2 h TO p q) ∧ IterH h k1 i1 a i ∧ IterH h k2 i2 b i) ∧ ZipSep2 z TI TO i1 i2 [i1, a] [i2, b] ∧ a ≠ i1 ∧ b ≠ i2
theorem turn_zp {P : Program} {w : World} {K : PySem.W.Frag} {elts : List Expr} {kk : Nat} {tpos : Pos} (k1 k2 : Kd) (a b z TI TO i1 i2 : Addr) :
    Turn P w K (.Tuple elts kk tpos) (ItZp K k1 k2 a b) [z, TI, TO, i1, i2] z (TnZp k1 k2 a b z TI TO i1 i2) where
  mem := by simp
  obj := fun i h st c hc => by
    obtain ⟨⟨hz, hTI, ⟨p, q, hTO⟩, h1, h2⟩, _⟩ := st
    have e' : c = z ∨ c = TI ∨ c = TO ∨ c = i1 ∨ c = i2 := by simpa using hc
    rcases e' with q | q | q | q | q <;> rw [q]
    · exact ⟨_, hz, fun v q => nomatch q⟩
    · exact ⟨_, hTI, fun v q => nomatch q⟩
    · exact ⟨_, hTO, fun v q => nomatch q⟩
    · exact h1.ob
    · exact h2.ob
  keep := fun i h h' st k => by
    obtain ⟨⟨hz, hTI, ⟨p, q, hTO⟩, h1, h2⟩, r⟩ := st
    exact ⟨⟨k z (by simp) _ hz, k TI (by simp) _ hTI, ⟨p, q, k TO (by simp) _ hTO⟩, h1.at_ fun o e => k i1 (by simp) o e, h2.at_ fun o e => k i2 (by simp) o e⟩, r⟩
  item := by
    intro X hP hw hK hc i pins s σ H E I hf st hg
    subst hP hw hK
    obtain ⟨⟨hz, hTI, hTO, h1, h2⟩, S, n1, n2⟩ := st
    obtain ⟨xs, ys, x, y, hqx, hqy, hx, hy⟩ := hg
    obtain ⟨its, rv, p⟩ := Inv_sq I hqx
    obtain ⟨its2, rv2, p2⟩ := Inv_sq I hqy
    obtain ⟨u, hu, ru⟩ := rv.get hx
    obtain ⟨u2, hu2, ru2⟩ := rv2.get hy
    have hd : X.A.in1.handled = none := I.ok.hd hc
    have Wk := WalksT.zipD2 S (draws_sq (prog := X.prog) (w := X.w) hd k1 i1 a n1 its.toArray) (draws_sq (prog := X.prog) (w := X.w) hd k2 i2 b n2 its2.toArray)
    have l1 := (List.getElem?_eq_some_iff.mp hu).1
    have l2 := (List.getElem?_eq_some_iff.mp hu2).1
    refine Wk.item i s _ _ (by simp; omega) ⟨hz, hTI, hTO, ⟨h1, p⟩, ⟨h2, p2⟩⟩ fun T vals g1 tk hv hT hTup hm hk => ⟨_, rfl, ?_⟩
    refine Wk.go elts kk tpos i T { s with heap := g1, toks := tk } _ _ hm fun g2 st2 hk2 => ?_
    obtain ⟨w1, w2, hw1, hw2, ev⟩ := hv
    subst ev
    have e1 : w1 = u := by
      have hw1' : its[i]? = some w1 := by simpa using hw1
      exact Option.some.inj (hw1'.symm.trans hu)
    have e2 : w2 = u2 := by
      have hw2' : its2[i]? = some w2 := by simpa using hw2
      exact Option.some.inj (hw2'.symm.trans hu2)
    subst e1 e2
    have hTw : T ∉ [z, TO, i1, i2] := Wk.apart i T g1 hm
    have hT2 : g2.IsTuple T #[w1, w2] := hTup.at fun o q => hk2 T o hTw q
    have new : ObjOk X.prog X.w (upd H T (.tup [x, y])) g2 T (.tup [x, y]) := ⟨by show 2 ≤ sizeLine; decide, [w1, w2], .cons ru (.cons ru2 .nil), hT2⟩
    have fp4 : ∀ c ∈ [z, TO, i1, i2], FpOk X pins H c := fun c hc => hf c (by
      have e' : c = z ∨ c = TO ∨ c = i1 ∨ c = i2 := by simpa using hc
      rcases e' with q | q | q | q <;> simp [q])
    have I1 : Inv X pins σ (upd H T (.tup [x, y])) { s with heap := g2, toks := tk } :=
      I.turnedNew (ch := [z, TO, i1, i2]) (fun c ob hc q => hk2 c ob hc (hk c ob hc q)) fp4 hT new
    refine ⟨.ref T, _, I1, rfl, ⟨T, x, y, rfl, I.hok.fresh hT, rfl, fun l hl => by rw [Inv_sq_inj I hl hqx]; exact hx, fun l hl => by rw [Inv_sq_inj I hl hqy]; exact hy⟩,
      ⟨⟨st2.1, st2.2.1, st2.2.2.1, st2.2.2.2.1.1, st2.2.2.2.2.1⟩, S, n1, n2⟩, fun c hc => ?_⟩
    have nc : c ≠ T := fun q => by
      have hTI2 : c = TI → False := fun e => by
        have hlt : TI < s.heap.objs.size := Heap.lt_size hTI
        have : T < s.heap.objs.size := by rw [← q, e]; exact hlt
        exact absurd hT (Nat.not_le_of_gt this)
      have e' : c = z ∨ c = TI ∨ c = TO ∨ c = i1 ∨ c = i2 := by simpa using hc
      rcases e' with e | e | e | e | e
      · exact hTw (by simp [← q, e])
      · exact hTI2 e
      · exact hTw (by simp [← q, e])
      · exact hTw (by simp [← q, e])
      · exact hTw (by simp [← q, e])
    rw [upd_ne nc]
    exact (hf c hc).1
  done := by
    intro X hP hw hK hc i pins s σ H E I hf st hg
    subst hP hw hK
    obtain ⟨⟨hz, hTI, hTO, h1, h2⟩, S, n1, n2⟩ := st
    obtain ⟨xs, ys, hqx, hqy, hend⟩ := hg
    obtain ⟨its, rv, p⟩ := Inv_sq I hqx
    obtain ⟨its2, rv2, p2⟩ := Inv_sq I hqy
    have hd : X.A.in1.handled = none := I.ok.hd hc
    have Wk := WalksT.zipD2 S (draws_sq (prog := X.prog) (w := X.w) hd k1 i1 a n1 its.toArray) (draws_sq (prog := X.prog) (w := X.w) hd k2 i2 b n2 its2.toArray)
    have hn : min its.toArray.size its2.toArray.size = i := by
      have l1 := rv.length
      have l2 := rv2.length
      simp; omega
    have fp4 : ∀ c ∈ [z, TO, i1, i2], FpOk X pins H c := fun c hc => hf c (by
      have e' : c = z ∨ c = TO ∨ c = i1 ∨ c = i2 := by simpa using hc
      rcases e' with q | q | q | q <;> simp [q])
    exact Wk.done s (fun r s1 => r = none ∧ Inv X pins σ H s1) E (by rw [hn]; exact ⟨hz, hTI, hTO, ⟨h1, p⟩, ⟨h2, p2⟩⟩) fun g1 tk hk => ⟨rfl, I.turnedL (ch := [z, TO, i1, i2]) hk fp4⟩
  self := fun A i s Q E st h => wpAny_pyIter_zip st.1.1 h
def iZp (K : PySem.W.Frag) (ta : TA) : TI := fun σ H R => ta σ H fun vs H1 => ∃ k1 k2 a b xs ys, vs = [.ref a, .ref b] ∧ Sq K H1 k1 a xs ∧ Sq K H1 k2 b ys ∧ R (ItZp K k1 k2 a b) H1
theorem pi_zp {X : Cx} {e e2 : Expr} {ta : TA} {p pos tpos : Pos} {elts : List Expr} {kk : Nat} (hg : Gl X "zip") (hm : X.mg "zip" = none) (ha : PA X [e, e2] ta)
    (hs : starEach [e, e2] X.env = (false, eval e X.env) :: starEach [e2] X.env := by rfl) (hpl : (backTo pos (starEach [e2] X.env)).any (·.1) = false := by rfl) :
    PI X (.Tuple elts kk tpos) (.Call (.Name "zip" p) [e, e2] [] pos) (iZp X.K ta) := ⟨fun pins s σ H R I h => by
  refine Call_ (ld_blt I hg hm boot_zip (PyProof.Rows.callWith_type1 (thn (ha.run pos pins s σ H _ I h) ?_) hs hpl))
  rintro us s1 ⟨vs, H1, I1, r1, k1, k2, a, b, xs, ys, ex, hqx, hqy, q⟩
  subst ex
  obtain ⟨w1, w2, rfl, rfl, rfl⟩ := r1.two
  obtain ⟨its, rv, p1⟩ := Inv_sq I1 hqx
  obtain ⟨its2, rv2, p2⟩ := Inv_sq I1 hqy
  refine zip_begins2 (begins_sq k1 a its.toArray) (begins_sq k2 b its2.toArray) p1 p2 fun h' hz hTI hTO h1 h2 hsz hk => wpAny_pyIter_zip hz ?_
  have I2 : Inv X pins σ H1 { s1 with heap := h' } := I1.kept (t' := s1.toks) hk
  have la := p1.lt
  have lb := p2.lt
  refine ⟨s1.heap.objs.size + 4, [s1.heap.objs.size + 4, s1.heap.objs.size + 2, s1.heap.objs.size + 3, s1.heap.objs.size, s1.heap.objs.size + 1], _, _, H1, rfl, I2,
    turn_zp k1 k2 a b (s1.heap.objs.size + 4) (s1.heap.objs.size + 2) (s1.heap.objs.size + 3) s1.heap.objs.size (s1.heap.objs.size + 1),
    ⟨⟨hz, hTI, ⟨_, _, hTO⟩, IterH.new h1, IterH.new h2⟩, zip_sep2 (fp1 := [a]) (fp2 := [b]) (by simpa using la) (by simpa using lb), Nat.ne_of_lt la, Nat.ne_of_lt (Nat.lt_succ_of_lt lb)⟩, fun c hc => ?_, q⟩
  have e' : c = s1.heap.objs.size + 4 ∨ c = s1.heap.objs.size + 2 ∨ c = s1.heap.objs.size + 3 ∨ c = s1.heap.objs.size ∨ c = s1.heap.objs.size + 1 := by simpa using hc
  have hle : s1.heap.objs.size ≤ c := by rcases e' with z | z | z | z | z <;> (rw [z]; first | exact Nat.le_refl _ | exact Nat.le_add_right _ _)
  exact I1.fpOk hle (I1.hok.fresh hle)⟩
end Mir

/-! Mir3: statements, targets, loops, comprehensions, defs and calls. -/
namespace Mir
open PySem PySem.Spec L2
open PyProof.Rows hiding St

inductive Fl where
  | nx (eta : IS) | rt (w : W) | bk (eta : IS) | ct (eta : IS)
inductive FlV where
  | nx (o : St) | rt (v : V) | bk (o : St) | ct (o : St)
def RFl (K : PySem.W.Frag) (s : S4) : Fl → FlV → Prop
  | .nx eta, .nx o => Sl K s eta o
  | .rt w, .rt v => Rw K s w v
  | .bk eta, .bk o => Sl K s eta o
  | .ct eta, .ct o => Sl K s eta o
  | _, _ => False
def endQ (D : Ends) : FlV → Hp → Prop
  | .nx o, H => D.nx o H
  | .rt v, H => D.rt v H
  | .bk o, H => D.bk o H
  | .ct o, H => D.ct o H
abbrev tS (K : PySem.W.Frag) (Wx : WX) (F : M Fl) : TS := fun D σ H => tM K Wx (RFl K) F σ H (endQ D)
def ISt (X : Cx) (Wx : WX) (st : Stmt) (F : M Fl) : Prop := PS X st (tS X.K Wx F)
def ISs (X : Cx) (Wx : WX) (st : List Stmt) (F : M Fl) : Prop := PSs X st (tS X.K Wx F)

theorem Res.bind_assoc {A B C : Type} (r : Res A) (k : A → IH → Res B) (k' : B → IH → Res C) : (r.bind k).bind k' = r.bind fun a h => (k a h).bind k' := by cases r <;> rfl
def mSkip : M Fl := fun eta hp => .ok (.nx eta) hp
def thenF (B : M Fl) (f : Fl) (hp : IH) : Res Fl := match f with
  | .nx eta => B eta hp
  | f => .ok f hp
def mSeq (A B : M Fl) : M Fl := fun eta hp => (A eta hp).bind (thenF B)
def mRet (F : M W) : M Fl := fun eta hp => (F eta hp).bind fun a h1 => .ok (.rt a) h1
def mRetN : M Fl := fun _ hp => .ok (.rt (.t .non)) hp
def mDrop (F : M W) : M Fl := fun eta hp => (F eta hp).bind fun _ h1 => .ok (.nx eta) h1
def mBrk : M Fl := fun eta hp => .ok (.bk eta) hp
def mCnt : M Fl := fun eta hp => .ok (.ct eta) hp

section
variable {K : PySem.W.Frag} {Wx : WX} {s : S4} {D : Ends}
theorem Go.nx {eta : IS} {σ : St} (R : Rel K s) (S : Sl K s eta σ) (g : Go K Wx (RFl K) s (.ok (.nx eta) s.hp) (endQ D)) : D.nx σ s.H := g (.nx σ) s rfl (Aft.refl s) R S
theorem Go.ct {eta : IS} {σ : St} (R : Rel K s) (S : Sl K s eta σ) (g : Go K Wx (RFl K) s (.ok (.ct eta) s.hp) (endQ D)) : D.ct σ s.H := g (.ct σ) s rfl (Aft.refl s) R S
theorem Go.bk {eta : IS} {σ : St} (R : Rel K s) (S : Sl K s eta σ) (g : Go K Wx (RFl K) s (.ok (.bk eta) s.hp) (endQ D)) : D.bk σ s.H := g (.bk σ) s rfl (Aft.refl s) R S
theorem Go.rt {w : W} {v : V} (R : Rel K s) (S : Rw K s w v) (g : Go K Wx (RFl K) s (.ok (.rt w) s.hp) (endQ D)) : D.rt v s.H := g (.rt v) s rfl (Aft.refl s) R S
end

section
variable {X : Cx} {Wx : WX} {st : Stmt} {rest sts sts' : List Stmt} {A B : M Fl} {e : Expr} {F : M W} {T : M Bool} {c : Expr} {pos : Pos}
theorem is_nil : ISs X Wx [] mSkip := PSs.imp pss_nil fun D σ H h => by
  obtain ⟨s, eta, e1, R1, S1, g⟩ := h
  subst e1
  exact Go.nx R1 S1 g
theorem is_cons (h1 : ISt X Wx st A) (h2 : ISs X Wx rest B) : ISs X Wx (st :: rest) (mSeq A B) := PSs.imp (pss_cons h1 h2) fun D σ H h => by
  obtain ⟨s, eta, e1, R1, S1, g⟩ := h
  refine ⟨s, eta, e1, R1, S1, Go.bind g fun f fv s' A' R' f' _ g' => ?_⟩
  cases f <;> cases fv <;> first | exact f'.elim | skip
  · exact ⟨s', _, rfl, R', f', g'⟩
  · exact Go.rt (D := D) R' f' g'
  · exact Go.bk (D := D) R' f' g'
  · exact Go.ct (D := D) R' f' g'
theorem is_one (h1 : ISt X Wx st A) : ISs X Wx [st] A := pss_one h1
theorem st_ret (he : IE X Wx e F) : ISt X Wx (.Return (some e) pos) (mRet F) := PS.imp (ps_ret he) fun D σ H h =>
  tM.bind1 (R := fun (x : V) (H1 : Hp) => D.rt x H1) (k := fun (a : W) _ hp => .ok (Fl.rt a) hp) h fun s eta a b R1 _ f1 g => Go.rt R1 f1 g
theorem st_retN : ISt X Wx (.Return none pos) mRetN := PS.imp ps_retN fun D σ H h => by
  obtain ⟨s, eta, e1, R1, S1, g⟩ := h
  subst e1
  exact Go.rt R1 (by simp [Rw, Rf]) g
theorem st_pass : ISt X Wx (.Pass pos) mSkip := PS.imp ps_pass fun D σ H h => by
  obtain ⟨s, eta, e1, R1, S1, g⟩ := h
  subst e1
  exact Go.nx R1 S1 g
theorem st_brk : ISt X Wx (.Break pos) mBrk := PS.imp ps_break fun D σ H h => by
  obtain ⟨s, eta, e1, R1, S1, g⟩ := h
  subst e1
  exact Go.bk R1 S1 g
theorem st_cnt : ISt X Wx (.Continue pos) mCnt := PS.imp ps_continue fun D σ H h => by
  obtain ⟨s, eta, e1, R1, S1, g⟩ := h
  subst e1
  exact Go.ct R1 S1 g
theorem st_doc {x j pos'} : ISt X Wx (.Expr (.Constant (.str x) j pos) pos') mSkip := PS.imp ps_doc fun D σ H h => by
  obtain ⟨s, eta, e1, R1, S1, g⟩ := h
  subst e1
  exact Go.nx R1 S1 g
theorem st_expr (he : IE X Wx e F) (hs : swapsWith e none pos.line X.env = pure false := by rfl) : ISt X Wx (.Expr e pos) (mDrop F) := PS.imp (ps_expr he hs) fun D σ H h =>
  tM.bind1 (R := fun (x : V) (H1 : Hp) => D.nx σ H1) (k := fun (a : W) eta hp => .ok (Fl.nx eta) hp) h fun s eta a b R1 S1 f1 g => Go.nx R1 S1 g
theorem st_if (hc : IT X Wx c T) (ha : ISs X Wx sts A) (hb : ISs X Wx sts' B) : ISt X Wx (.If c sts sts' pos) (mIf T A B) := PS.imp (ps_if hc ha hb) fun D σ H h =>
  t_cond (R := fun (b : Bool) (H1 : Hp) => if b = true then tS X.K Wx A D σ H1 else tS X.K Wx B D σ H1) (k := fun b eta h1 => if b then A eta h1 else B eta h1) h fun s eta b R1 S1 g => by
    cases b with
    | true => exact ⟨s, eta, rfl, R1, S1, g⟩
    | false => exact ⟨s, eta, rfl, R1, S1, g⟩
end

/-! ### targets -/
structure TgOk (K : PySem.W.Frag) (g : TG) (G : W → IS → Option IS) (vs : List Nat) : Prop where
  run : ∀ (s : S4) (w : W) (v : V) (eta : IS) (σ : St) (eta' : IS), Rel K s → Rw K s w v → Sl K s eta σ → G w eta = some eta' →
    ∃ σ', Sl K s eta' σ' ∧ (∀ us : List Nat, (∀ i ∈ vs, i ∈ us) → wipe σ' us = wipe σ us) ∧ ∀ Q : St → Hp → Prop, Q σ' s.H → g v σ s.H Q
structure TgsOk (K : PySem.W.Frag) (g : TGs) (G : List W → IS → Option IS) (vs : List Nat) : Prop where
  run : ∀ (s : S4) (ws : List W) (xs : List V) (eta : IS) (σ : St) (eta' : IS), Rel K s → RwL K s ws xs → Sl K s eta σ → G ws eta = some eta' →
    ∃ σ', Sl K s eta' σ' ∧ (∀ us : List Nat, (∀ i ∈ vs, i ∈ us) → wipe σ' us = wipe σ us) ∧ ∀ Q : St → Hp → Prop, Q σ' s.H → g xs σ s.H Q
def gN (i : Nat) : W → IS → Option IS := fun w eta => some (eta.set i (some w))
theorem wipe_get {σ : St} {j : Nat} : ∀ {us : List Nat}, j ∉ us → (wipe σ us)[j]? = σ[j]?
  | [], _ => rfl
  | u :: us, h => by
    simp only [List.mem_cons, not_or] at h
    unfold wipe
    rw [List.getElem?_set_ne (Ne.symm h.1)]
    exact wipe_get h.2
theorem wipe_in {σ : St} {j : Nat} : ∀ {us : List Nat}, j ∈ us → j < σ.length → (wipe σ us)[j]? = some none
  | u :: us, h, hl => by
    unfold wipe
    by_cases e : u = j
    · subst e
      rw [List.getElem?_set_self (by rw [wipe_length]; exact hl)]
    · rw [List.getElem?_set_ne e]
      rcases List.mem_cons.mp h with h | h
      · exact absurd h.symm e
      · exact wipe_in h hl
theorem wipe_set {σ : St} {i : Nat} {x : Option V} {us : List Nat} (h : i ∈ us) : wipe (σ.set i x) us = wipe σ us := by
  apply List.ext_getElem?
  intro j
  by_cases hj : j ∈ us
  · by_cases hl : j < σ.length
    · rw [wipe_in hj (by simpa using hl), wipe_in hj hl]
    · rw [List.getElem?_eq_none (by rw [wipe_length]; simpa using hl), List.getElem?_eq_none (by rw [wipe_length]; simpa using hl)]
  · rw [wipe_get hj, wipe_get hj, List.getElem?_set_ne (fun e => hj (by rw [← e]; exact h))]
theorem tg_name {K : PySem.W.Frag} (i : Nat) : TgOk K (gName i) (gN i) [i] := ⟨fun s w v eta σ eta' R1 r S1 e => by
  simp only [gN, Option.some.injEq] at e
  subst e
  exact ⟨σ.set i (some v), S1.set i r, fun us h => wipe_set (h i (by simp)), fun Q q => q⟩⟩
def gsN : List W → IS → Option IS := fun ws eta => match ws with | [] => some eta | _ :: _ => none
def gsC (G : W → IS → Option IS) (Gs : List W → IS → Option IS) : List W → IS → Option IS := fun ws eta => match ws with
  | [] => none
  | w :: ws => (G w eta).bind fun eta' => Gs ws eta'
def gT (n : Nat) (Gs : List W → IS → Option IS) : W → IS → Option IS := fun w eta => match w with
  | .t (.tup ts) => if ts.length = n then Gs (ts.map W.t) eta else none
  | .t (.pr ts) => if ts.length = n then Gs (ts.map W.t) eta else none
  | _ => none
theorem tgs_nil {K : PySem.W.Frag} : TgsOk K gNil gsN [] := ⟨fun s ws xs eta σ eta' R1 r S1 e => by
  cases ws with
  | nil =>
    simp only [gsN, Option.some.injEq] at e
    subst e
    exact ⟨σ, S1, fun _ _ => rfl, fun Q q => ⟨r, q⟩⟩
  | cons _ _ => simp [gsN] at e⟩
theorem tgs_cons {K : PySem.W.Frag} {g : TG} {gs : TGs} {G : W → IS → Option IS} {Gs : List W → IS → Option IS} {vs us : List Nat} (h1 : TgOk K g G vs) (h2 : TgsOk K gs Gs us) : TgsOk K (gCons g gs) (gsC G Gs) (vs ++ us) := ⟨fun s ws xs eta σ eta' R1 r S1 e => by
  cases ws with
  | nil => simp [gsC] at e
  | cons w ws =>
    simp only [gsC, Option.bind_eq_some_iff] at e
    obtain ⟨eta1, e1, e2⟩ := e
    obtain ⟨v, xr, ex, rv, rr⟩ := r
    obtain ⟨σ1, S2, w1, q1⟩ := h1.run s w v eta σ eta1 R1 rv S1 e1
    obtain ⟨σ2, S3, w2, q2⟩ := h2.run s ws xr eta1 σ1 eta' R1 rr S2 e2
    refine ⟨σ2, S3, fun u hu => ?_, fun Q q => ⟨v, xr, ex, q1 _ (q2 Q q)⟩⟩
    rw [w2 u fun i hi => hu i (List.mem_append_right _ hi), w1 u fun i hi => hu i (List.mem_append_left _ hi)]⟩
theorem tg_tup {K : PySem.W.Frag} {n : Nat} {gs : TGs} {Gs : List W → IS → Option IS} {vs : List Nat} (h : TgsOk K gs Gs vs) : TgOk K (gTup K n gs) (gT n Gs) vs := ⟨fun s w v eta σ eta' R1 r S1 e => by
  unfold gT at e
  split at e
  · rename_i ts
    split at e
    · rename_i hn
      obtain ⟨a, xs, ev, t, l⟩ : ∃ a vs, v = .ref a ∧ FTup K s.fz s.H a vs ∧ RfL K s.fz s.H ts vs := by simpa only [Rw, Rf] using r
      obtain ⟨σ', S2, w2, q2⟩ := h.run s (ts.map W.t) xs eta σ eta' R1 (RwL.of_trees.mpr l) S1 e
      exact ⟨σ', S2, w2, fun Q q => ⟨a, xs, ev, t.sq, by rw [← RfL.length l]; exact hn, q2 Q q⟩⟩
    · cases e
  · rename_i ts
    split at e
    · rename_i hn
      obtain ⟨a, xs, ev, t, l⟩ : ∃ a vs, v = .ref a ∧ FPr s.fz s.H a vs ∧ RfL K s.fz s.H ts vs := by simpa only [Rw, Rf] using r
      obtain ⟨σ', S2, w2, q2⟩ := h.run s (ts.map W.t) xs eta σ eta' R1 (RwL.of_trees.mpr l) S1 e
      exact ⟨σ', S2, w2, fun Q q => ⟨a, xs, ev, t.sq, by rw [← RfL.length l]; exact hn, q2 Q q⟩⟩
    · cases e
  · cases e⟩

def ofO {A : Type} (o : Option A) (hp : IH) : Res A := match o with | some a => .ok a hp | none => .bad
def mAsg (F : M W) (G : W → IS → Option IS) : M Fl := fun eta hp => (F eta hp).bind fun a h1 => match G a eta with | some e => .ok (.nx e) h1 | none => .bad
def mSet (i : Nat) (F : M W) : M Fl := fun eta hp => (F eta hp).bind fun a h1 => .ok (.nx (eta.set i (some a))) h1
section
variable {X : Cx} {Wx : WX} {e tg : Expr} {F : M W} {pos : Pos} {g : TG} {G : W → IS → Option IS} {vs : List Nat}
theorem st_asg (he : IE X Wx e F) (hg : PG X tg g) (ok : TgOk X.K g G vs) (hs : swapsWithSole [tg] e pos.line X.env = pure false := by rfl) (hw : swappedStores [tg] e X.env = pure none := by rfl)
    (h1 : (assignEach [tg] X.env).map (·.2) = [assign tg X.env] := by rfl) : ISt X Wx (.Assign [tg] e pos) (mAsg F G) := PS.imp (ps_asg he hg hs hw h1) fun D σ H h =>
  tM.bind1 (R := fun (x : V) (H1 : Hp) => g x σ H1 D.nx) (k := fun (a : W) eta hp => match G a eta with | some e => .ok (Fl.nx e) hp | none => .bad) h fun s eta a b R1 S1 f1 g1 => by
    cases hG : G a eta with
    | none => simp only [hG] at g1; exact g1.elim
    | some e1 =>
      simp only [hG] at g1
      obtain ⟨σ', S2, _, q⟩ := ok.run s a b eta σ e1 R1 f1 S1 hG
      exact q _ (Go.nx R1 S2 g1)
theorem st_set (i : Nat) {x : Str} {pos' : Pos} (hN : X.N.Nodup) (he : IE X Wx e F) (hi : X.N[i]? = some x := by rfl) (hx : Loc X.env.scope x := by first | exact Or.inl rfl | exact Or.inr rfl) (hs : swapsWith e (some (.Name x pos')) pos.line X.env = pure false := by rfl) (hf : X.fn x = true ∨ X.env.scope.names.lookup x = some .local := by first | exact .inl rfl | exact .inr rfl | assumption) :
    ISt X Wx (.Assign [.Name x pos'] e pos) (mSet i F) := PS.imp (ps_set hN hi hx he hs hf) fun D σ H h =>
  tM.bind1 (R := fun (y : V) (H1 : Hp) => D.nx (σ.set i (some y)) H1) (k := fun (a : W) eta hp => .ok (Fl.nx (eta.set i (some a))) hp) h fun s eta a b R1 S1 f1 g1 => Go.nx R1 (S1.set i f1) g1
end
/-- a, b = x, y: all sides first -/
def mPar (is : List Nat) (F : M (List W)) : M Fl := fun eta hp => (F eta hp).bind fun ws h1 => if ws.length = is.length then .ok (.nx ((is.zip ws).foldl (fun e p => e.set p.1 (some p.2)) eta)) h1 else .bad
section
variable {X : Cx} {Wx : WX} {F : M (List W)} {pos : Pos}
theorem st_par2 {i j : Nat} {x y : Str} {a b : Expr} {px py pt : Pos} {kt k2 pt2} (hc : X.calm = true) (hN : X.N.Nodup) (ha : IA X Wx [a, b] F)
    (hw : swappedStores [.Tuple [.Name x px, .Name y py] kt pt] (.Tuple [a, b] k2 pt2) X.env = pure (some [x, y]) := by rfl) (hi : X.N[i]? = some x := by rfl) (hj : X.N[j]? = some y := by rfl) (hij : i ≠ j := by decide)
    (hx : X.env.scope.names.lookup x = some .local := by rfl) (hy : X.env.scope.names.lookup y = some .local := by rfl)
    (hs : swapsWithSole [.Tuple [.Name x px, .Name y py] kt pt] (.Tuple [a, b] k2 pt2) pos.line X.env = pure false := by rfl) :
    ISt X Wx (.Assign [.Tuple [.Name x px, .Name y py] kt pt] (.Tuple [a, b] k2 pt2) pos) (mPar [i, j] F) := PS.imp (ps_par hc hN hi hj hij hx hy ha hw hs) fun D σ H h =>
  tM.bind1 (R := fun (vs : List V) (H1 : Hp) => ∃ v w, vs = [v, w] ∧ D.nx ((σ.set i (some v)).set j (some w)) H1) (k := fun (ws : List W) eta hp => if ws.length = [i, j].length then .ok (Fl.nx (([i, j].zip ws).foldl (fun e p => e.set p.1 (some p.2)) eta)) hp else .bad) h fun s eta ws vs R1 S1 f1 g1 => by
    match ws, f1, g1 with
    | [w1, w2], ⟨v1, r1, e1, q1, v2, r2, e2, q2, e3⟩, g1 =>
      subst e3 e2 e1
      exact ⟨v1, v2, rfl, Go.nx R1 ((S1.set i q1).set j q2) g1⟩
    | [], _, g1 => exact g1.elim
    | [_], _, g1 => exact g1.elim
    | _ :: _ :: _ :: _, _, g1 =>
      rw [if_neg (by simp)] at g1
      exact g1.elim
theorem st_par3 {i j l : Nat} {x y z : Str} {a b c : Expr} {px py pz pt : Pos} {kt k2 pt2} (hc : X.calm = true) (hN : X.N.Nodup) (ha : IA X Wx [a, b, c] F)
    (hw : swappedStores [.Tuple [.Name x px, .Name y py, .Name z pz] kt pt] (.Tuple [a, b, c] k2 pt2) X.env = pure (some [x, y, z]) := by rfl) (hi : X.N[i]? = some x := by rfl) (hj : X.N[j]? = some y := by rfl) (hl : X.N[l]? = some z := by rfl) (hij : i ≠ j := by decide) (hil : i ≠ l := by decide) (hjl : j ≠ l := by decide)
    (hx : X.env.scope.names.lookup x = some .local := by rfl) (hy : X.env.scope.names.lookup y = some .local := by rfl) (hz : X.env.scope.names.lookup z = some .local := by rfl)
    (hs : swapsWithSole [.Tuple [.Name x px, .Name y py, .Name z pz] kt pt] (.Tuple [a, b, c] k2 pt2) pos.line X.env = pure false := by rfl) :
    ISt X Wx (.Assign [.Tuple [.Name x px, .Name y py, .Name z pz] kt pt] (.Tuple [a, b, c] k2 pt2) pos) (mPar [i, j, l] F) := PS.imp (ps_par3 hc hN hi hj hl hij hil hjl hx hy hz ha hw hs) fun D σ H h =>
  tM.bind1 (R := fun (vs : List V) (H1 : Hp) => ∃ u v w, vs = [u, v, w] ∧ D.nx (((σ.set i (some u)).set j (some v)).set l (some w)) H1) (k := fun (ws : List W) eta hp => if ws.length = [i, j, l].length then .ok (Fl.nx (([i, j, l].zip ws).foldl (fun e p => e.set p.1 (some p.2)) eta)) hp else .bad) h fun s eta ws vs R1 S1 f1 g1 => by
    match ws, f1, g1 with
    | [w1, w2, w3], ⟨v1, r1, e1, q1, v2, r2, e2, q2, v3, r3, e4, q3, e3⟩, g1 =>
      subst e3 e4 e2 e1
      exact ⟨v1, v2, v3, rfl, Go.nx R1 (((S1.set i q1).set j q2).set l q3) g1⟩
    | [], _, g1 => exact g1.elim
    | [_], _, g1 => exact g1.elim
    | [_, _], _, g1 => exact g1.elim
    | _ :: _ :: _ :: _ :: _, _, g1 =>
      rw [if_neg (by simp)] at g1
      exact g1.elim
end
/-- x op= e -/
def mAug (i : Nat) (f : Op2) (F : M W) : M Fl := fun eta hp => match eta[i]? with
  | some (some x) => (F eta hp).bind fun y h1 => (f x y h1).bind fun z h2 => .ok (.nx (eta.set i (some z))) h2
  | _ => .bad
section
variable {X : Cx} {Wx : WX} {F : M W} {pos : Pos}
theorem st_aug (i : Nat) {x : Str} {e : Expr} {op : Operator} {r : R2} {f : Op2} {pos' : Pos} (hN : X.N.Nodup) (he : IE X Wx e F) (ho : OpR X (inplaceOp op) r) (hf2 : Op2Ok X.K Wx f r) (hi : X.N[i]? = some x := by rfl) (hx : Loc X.env.scope x := by first | exact Or.inl rfl | exact Or.inr rfl)
    (hf : X.fn x = true ∨ X.env.scope.names.lookup x = some .local := by first | exact .inl rfl | exact .inr rfl | assumption) : ISt X Wx (.AugAssign (.Name x pos') op e pos) (mAug i f F) := PS.imp (ps_aug hN hi hx he (ti := r) ho hf) fun D σ H h => by
  obtain ⟨s, eta, e1, R1, S1, g⟩ := h
  subst e1
  unfold mAug at g
  split at g
  · rename_i w hw
    obtain ⟨v, h1, h2⟩ := S1.2 i w hw
    refine ⟨v, h1, s, eta, rfl, R1, S1, Go.bind g fun y yv s' A' R' f' _ g' => ?_⟩
    refine hf2 s' w y v yv _ R' (h2.aft A' R1) f' ?_
    exact Go.bind g' fun z zv s2 A2 R2 f2 _ g2 => Go.nx R2 (((S1.aft A' R1).aft A2 R').set i f2) g2
  · exact g.elim
end

/-! ### sources of loops -/
def SrcF (K : PySem.W.Frag) (s : S4) (ws : List W) (J : It) : Prop := ∀ s', Aft s s' → Rel K s' → ∀ i : Nat,
  (∀ w, ws[i]? = some w → J.go i s'.H ∧ ∀ x H', J.yld i s'.H x H' → ∃ s2 : S4, s2.H = H' ∧ s2.hp = s'.hp ∧ Aft s' s2 ∧ Rel K s2 ∧ Rw K s2 w x) ∧ (i = ws.length → J.stop i s'.H)
def II (X : Cx) (Wx : WX) (tg e : Expr) (F : M (List W)) : Prop := PI X tg e (tM X.K Wx (SrcF X.K) F)

def forL (G : W → IS → Option IS) (B : M Fl) : List W → IS → IH → Res Fl
  | [], eta, hp => .ok (.nx eta) hp
  | w :: ws, eta, hp => match G w eta with
    | none => .bad
    | some eta1 => (B eta1 hp).bind fun f h2 => match f with
      | .nx e => forL G B ws e h2
      | .ct e => forL G B ws e h2
      | .bk e => .ok (.nx e) h2
      | .rt w => .ok (.rt w) h2
def mFor (Fi : M (List W)) (G : W → IS → Option IS) (B : M Fl) : M Fl := fun eta hp => (Fi eta hp).bind fun ws h1 => forL G B ws eta h1
section
variable {X : Cx} {Wx : WX} {tg iter : Expr} {Fi : M (List W)} {pos : Pos} {g : TG} {G : W → IS → Option IS} {vs : List Nat} {body : List Stmt} {B : M Fl}
theorem st_for (hp : PassesOwn (model X.prog X.w) X.A X.env X.xe) (hc : X.calm = true) (hi : II X Wx tg iter Fi) (hg : PG X tg g) (ok : TgOk X.K g G vs) (hb : ISs X Wx body B)
    (hs : ∀ x, foldedSetIterable iter X.env x = pure x := by intro _; rfl) : ISt X Wx (.For tg iter body [] pos) (mFor Fi G B) := PS.imp (ps_for hp hc hi hg hb hs) fun D σ H h =>
  tM.bind1 (R := fun (J : It) (H1 : Hp) => ∃ Wv : Nat → Nat → St → Hp → Prop, (∃ m, Wv 0 m σ H1) ∧ ∀ i m σ H, Wv i m σ H →
      (J.stop i H ∧ D.nx σ H) ∨ (J.go i H ∧ ∃ N : St → Hp → Prop, (∀ σ' H', N σ' H' → ∃ m', m' < m ∧ Wv (i + 1) m' σ' H') ∧ ∀ x H', J.yld i H x H' → g x σ H' fun σ2 H2 => tS X.K Wx B { D with nx := N, ct := N, bk := D.nx } σ2 H2))
    (k := fun (ws : List W) eta hp => forL G B ws eta hp) h fun s eta ws J R1 S1 src g1 => by
    refine ⟨fun i m σ H => m = ws.length - i ∧ i ≤ ws.length ∧ ∃ s' eta', s'.H = H ∧ Aft s s' ∧ Rel X.K s' ∧ Sl X.K s' eta' σ ∧ Go X.K Wx (RFl X.K) s' (forL G B (ws.drop i) eta' s'.hp) (endQ D), ⟨ws.length, by simp, Nat.zero_le _, s, eta, rfl, Aft.refl s, R1, S1, by simpa using g1⟩, ?_⟩
    rintro i m σ H ⟨rfl, hi, s', eta', rfl, A1, R2, S2, g2⟩
    obtain ⟨q1, q2⟩ := src s' A1 R2 i
    by_cases hlt : i < ws.length
    · obtain ⟨go, yl⟩ := q1 ws[i] (List.getElem?_eq_getElem hlt)
      refine .inr ⟨go, fun σ' H' => i + 1 ≤ ws.length ∧ ∃ s2 eta2, s2.H = H' ∧ Aft s s2 ∧ Rel X.K s2 ∧ Sl X.K s2 eta2 σ' ∧ Go X.K Wx (RFl X.K) s2 (forL G B (ws.drop (i + 1)) eta2 s2.hp) (endQ D), fun σ' H' n => ⟨ws.length - (i + 1), by omega, rfl, n⟩, fun x H' y => ?_⟩
      obtain ⟨s3, e3, hp3, A3, R3, rw3⟩ := yl x H' y
      subst e3
      rw [List.drop_eq_getElem_cons hlt] at g2
      simp only [forL] at g2
      cases hG : G ws[i] eta' with
      | none => simp only [hG] at g2; exact g2.elim
      | some eta1 =>
        simp only [hG] at g2
        obtain ⟨σ4, S4', _, q4⟩ := ok.run s3 ws[i] x eta' σ eta1 R3 rw3 (S2.aft A3 R2) hG
        refine q4 _ ⟨s3, eta1, rfl, R3, S4', ?_⟩
        have g3 := Go.aft g2 A3
        rw [← hp3] at g3
        refine Go.bind g3 fun f fv s5 A5 R5 f5 _ g5 => ?_
        cases f <;> cases fv <;> first | exact f5.elim | skip
        · exact ⟨hlt, s5, _, rfl, (A1.trans A3).trans A5, R5, f5, g5⟩
        · exact Go.rt (D := D) R5 f5 g5
        · exact Go.nx (D := D) R5 f5 g5
        · exact ⟨hlt, s5, _, rfl, (A1.trans A3).trans A5, R5, f5, g5⟩
    · have e : i = ws.length := by omega
      subst e
      refine .inl ⟨q2 rfl, ?_⟩
      rw [List.drop_length] at g2
      exact Go.nx R2 S2 g2
end

/-! ### while -/
def whileL (T : M Bool) (B : M Fl) : Nat → IS → IH → Res Fl
  | 0, _, _ => .bad
  | n + 1, eta, hp => (T eta hp).bind fun b h1 => if b then (B eta h1).bind fun f h2 => match f with
      | .nx e => whileL T B n e h2
      | .ct e => whileL T B n e h2
      | .bk e => .ok (.nx e) h2
      | .rt w => .ok (.rt w) h2
    else .ok (.nx eta) h1
def mWhile (n : Nat) (T : M Bool) (B : M Fl) : M Fl := fun eta hp => whileL T B n eta hp
section
variable {X : Cx} {Wx : WX} {c : Expr} {T : M Bool} {pos : Pos} {body : List Stmt} {B : M Fl}
theorem st_while (n : Nat) (hp : PassesOwn (model X.prog X.w) X.A X.env X.xe) (hc : IT X Wx c T) (hb : ISs X Wx body B) : ISt X Wx (.While c body [] pos) (mWhile n T B) := PS.imp (ps_while hp hc hb) fun D σ H h => by
  obtain ⟨s, eta, e1, R1, S1, g⟩ := h
  refine ⟨fun m σ H => ∃ s' eta', s'.H = H ∧ Rel X.K s' ∧ Sl X.K s' eta' σ ∧ Go X.K Wx (RFl X.K) s' (whileL T B m eta' s'.hp) (endQ D), ⟨n, s, eta, e1, R1, S1, g⟩, ?_⟩
  rintro m σ H ⟨s', eta', rfl, R2, S2, g2⟩
  cases m with
  | zero => exact g2.elim
  | succ m =>
    simp only [whileL] at g2
    refine ⟨s', eta', rfl, R2, S2, Go.bind g2 fun b bv s3 A3 R3 f3 _ g3 => ?_⟩
    subst f3
    cases b with
    | false => exact Go.nx R3 (S2.aft A3 R2) g3
    | true =>
      simp only [if_true] at g3
      refine ⟨fun σ' H' => ∃ s' eta', s'.H = H' ∧ Rel X.K s' ∧ Sl X.K s' eta' σ' ∧ Go X.K Wx (RFl X.K) s' (whileL T B m eta' s'.hp) (endQ D), fun σ' H' n => ⟨m, Nat.lt_succ_self m, n⟩, ?_⟩
      refine ⟨s3, eta', rfl, R3, S2.aft A3 R2, Go.bind g3 fun f fv s5 A5 R5 f5 _ g5 => ?_⟩
      cases f <;> cases fv <;> first | exact f5.elim | skip
      · exact ⟨s5, _, rfl, R5, f5, g5⟩
      · exact Go.rt (D := D) R5 f5 g5
      · exact Go.nx (D := D) R5 f5 g5
      · exact ⟨s5, _, rfl, R5, f5, g5⟩
end

/-! ### no error leaves -/
def W0 : WX := fun _ _ _ _ => False
def noEr {A : Type} (r : Res A) : Res A := match r with
  | .er _ _ _ => .bad
  | r => r
theorem noEr_bind {A B : Type} (r : Res A) (k : A → IH → Res B) : noEr (r.bind k) = (noEr r).bind fun a h => noEr (k a h) := by cases r <;> rfl
theorem Go.noEr {A B : Type} {K : PySem.W.Frag} {Wx Wx' : WX} {Fam : S4 → A → B → Prop} {s : S4} {r : Res A} {Q : B → Hp → Prop} (g : Go K Wx Fam s (noEr r) Q) : Go K Wx' Fam s r Q := by
  cases r with
  | ok a h => exact g
  | er e eta h => exact g.elim
  | bad => exact g

/-! ### comprehensions -/
def turnL (G : W → IS → Option IS) (T : M Bool) (E : M W) (eta : IS) (w : W) (hp : IH) : Res (Option W) := match G w eta with
  | none => .bad
  | some eta1 => (T eta1 hp).bind fun b h1 => if b then (E eta1 h1).bind fun y h2 => .ok (some y) h2 else .ok none h1
def compL (G : W → IS → Option IS) (T : M Bool) (E : M W) (eta : IS) : List W → IH → Res (List W)
  | [], hp => .ok [] hp
  | w :: ws, hp => (noEr (turnL G T E eta w hp)).bind fun o h1 => (compL G T E eta ws h1).bind fun r h2 => .ok (match o with | some y => y :: r | none => r) h2
def wipeI (eta : IS) (vs : List Nat) : IS := vs.foldr (fun v e => e.set v none) eta
/-- fin: lstOf (a tree), newL (a live list) -/
def mComp (fin : OpN) (Fi : M (List W)) (G : W → IS → Option IS) (T : M Bool) (E : M W) (vs : List Nat) : M W := fun eta hp => (Fi eta hp).bind fun ws h1 => if ws.length ≤ 16777216 then (compL G T E (wipeI eta vs) ws h1).bind fun r h2 => fin r h2 else .bad
/-- an untracked-by-us object is changed (a comprehension's list while it is made) -/
def S4.setD (s : S4) (D : Addr) (o : HO) : S4 := ⟨s.rho, s.fz, s.hp, upd s.H D o⟩
section
variable {K : PySem.W.Frag}
mutual
theorem Rf.congr {fz fz' : Addr → Prop} {H H' : Hp} (hf : ∀ a, fz a → fz' a) (k : ∀ a, fz a → H' a = H a) : ∀ (x : T) (v : V), Rf K fz H x v → Rf K fz' H' x v
  | .non, _, h => by simpa [Rf] using h
  | .bl _, _, h => by simpa [Rf] using h
  | .int _, _, h => by simpa [Rf] using h
  | .str _, _, h => by simpa [Rf] using h
  | .ty _, _, h => by simpa [Rf] using h
  | .cls _, _, h => by simpa [Rf] using h
  | .exc _ _ _, _, h => by simp [Rf] at h
  | .tup xs, v, h => by
    simp only [Rf] at h ⊢
    obtain ⟨a, vs, e, t, l⟩ := h
    refine ⟨a, vs, e, ?_, RfL.congr hf k xs vs l⟩
    rcases t with ⟨f, o, t, d⟩ | t
    · exact .inl ⟨hf a f, o, (k a f).trans t, d⟩
    · exact .inr t
  | .pr xs, v, h => by
    simp only [Rf] at h ⊢
    obtain ⟨a, vs, e, t, l⟩ := h
    exact ⟨a, vs, e, ⟨hf a t.1, (k a t.1).trans t.2⟩, RfL.congr hf k xs vs l⟩
  | .dit ks xs, v, h => by
    simp only [Rf] at h ⊢
    obtain ⟨a, vs, e, t, n, l⟩ := h
    exact ⟨a, vs, e, ⟨hf a t.1, (k a t.1).trans t.2⟩, n, RfL.congr hf k xs vs l⟩
  | .lst xs, v, h => by
    simp only [Rf] at h ⊢
    obtain ⟨a, vs, e, t, l⟩ := h
    exact ⟨a, vs, e, ⟨hf a t.1, (k a t.1).trans t.2⟩, RfL.congr hf k xs vs l⟩
  | .scr xs, v, h => by
    simp only [Rf] at h ⊢
    obtain ⟨a, vs, e, t, l⟩ := h
    exact ⟨a, vs, e, t.imp (fun t => ⟨hf a t.1, let ⟨o, u⟩ := t.2; ⟨o, (k a t.1).trans u⟩⟩) id, RfL.congr hf k xs vs l⟩
  | .dic ks xs, v, h => by
    simp only [Rf] at h ⊢
    obtain ⟨a, vs, e, t, n, l⟩ := h
    exact ⟨a, vs, e, ⟨hf a t.1, let ⟨o, u⟩ := t.2; ⟨o, (k a t.1).trans u⟩⟩, n, RfL.congr hf k xs vs l⟩
  | .ins c ns xs, v, h => by
    simp only [Rf] at h ⊢
    obtain ⟨a, C, vs, e, cn, t, n, l⟩ := h
    exact ⟨a, C, vs, e, cn, ⟨hf a t.1, let ⟨o, u⟩ := t.2; ⟨o, (k a t.1).trans u⟩⟩, n, RfL.congr hf k xs vs l⟩
theorem RfL.congr {fz fz' : Addr → Prop} {H H' : Hp} (hf : ∀ a, fz a → fz' a) (k : ∀ a, fz a → H' a = H a) : ∀ (xs : List T) (vs : List V), RfL K fz H xs vs → RfL K fz' H' xs vs
  | [], _, h => by simpa [RfL] using h
  | x :: xs, vs, h => by
    simp only [RfL] at h ⊢
    obtain ⟨v, r, e, a, b⟩ := h
    exact ⟨v, r, e, Rf.congr hf k x v a, RfL.congr hf k xs r b⟩
end
theorem Rw.congr {s s' : S4} (hr : s'.rho = s.rho) (hf : ∀ a, s.fz a → s'.fz a) (k : ∀ a, s.fz a → s'.H a = s.H a) {w : W} {v : V} (h : Rw K s w v) : Rw K s' w v := by
  cases w with
  | t x => exact Rf.congr hf k x v h
  | r i => obtain ⟨a, e1, e2⟩ := h; exact ⟨a, by rw [hr]; exact e1, e2⟩
theorem RwL.congr {s s' : S4} (hr : s'.rho = s.rho) (hf : ∀ a, s.fz a → s'.fz a) (k : ∀ a, s.fz a → s'.H a = s.H a) : ∀ {ws : List W} {vs : List V}, RwL K s ws vs → RwL K s' ws vs
  | [], _, h => h
  | x :: xs, vs, h => by
    obtain ⟨v, r, e, a, b⟩ := h
    exact ⟨v, r, e, a.congr hr hf k, RwL.congr hr hf k b⟩
theorem RwK.congr {s s' : S4} (hr : s'.rho = s.rho) (hf : ∀ a, s.fz a → s'.fz a) (k : ∀ a, s.fz a → s'.H a = s.H a) : ∀ {ws : List (Key × W)} {vs : List (Key × V)}, RwK K s ws vs → RwK K s' ws vs
  | [], _, h => h
  | x :: xs, vs, h => by
    obtain ⟨v, r, e, a, b⟩ := h
    exact ⟨v, r, e, a.congr hr hf k, RwK.congr hr hf k b⟩
theorem RwF.congr {s s' : S4} (hr : s'.rho = s.rho) (hf : ∀ a, s.fz a → s'.fz a) (k : ∀ a, s.fz a → s'.H a = s.H a) : ∀ {ws : List (Str × W)} {vs : List (Str × V)}, RwF K s ws vs → RwF K s' ws vs
  | [], _, h => h
  | x :: xs, vs, h => by
    obtain ⟨v, r, e, a, b⟩ := h
    exact ⟨v, r, e, a.congr hr hf k, RwF.congr hr hf k b⟩
theorem CellOk.congr {s s' : S4} (hr : s'.rho = s.rho) (hf : ∀ a, s.fz a → s'.fz a) (k : ∀ a, s.fz a → s'.H a = s.H a) {c : Cell} {o : Option HO} (h : CellOk K s c o) : CellOk K s' c o := by
  cases c with
  | lst ws => obtain ⟨vs, e, l⟩ := h; exact ⟨vs, e, l.congr hr hf k⟩
  | dic kvs => obtain ⟨vs, e, l⟩ := h; exact ⟨vs, e, l.congr hr hf k⟩
  | ins c fs => obtain ⟨C, dx, vs, e, cn, l⟩ := h; exact ⟨C, dx, vs, e, cn, l.congr hr hf k⟩
  | dit _ => exact h.elim
  | tpl ws => obtain ⟨ob, vs, e, d, l⟩ := h; exact ⟨ob, vs, e, d, l.congr hr hf k⟩
variable {s s' : S4} {D : Addr} {o : HO}
theorem setD_k (nf : ¬ s.fz D) : ∀ a, s.fz a → (s.setD D o).H a = s.H a := fun a f => upd_ne fun z => nf (z ▸ f)
theorem rel_setD (R : Rel K s) (nr : D ∉ s.rho) (nf : ¬ s.fz D) : Rel K (s.setD D o) := by
  have tr : ∀ a, s.H a ≠ none → (s.setD D o).H a ≠ none := fun a h => by
    show upd s.H D o a ≠ none
    by_cases q : a = D
    · rw [q, upd_same]; intro z; cases z
    · rw [upd_ne q]; exact h
  refine ⟨R.len, R.nd, fun a m => tr a (R.trk a m), fun a f => tr a (R.ftrk a f), R.fz, fun i c a e1 e2 => ?_⟩
  have ne : a ≠ D := fun z => nr (z ▸ List.mem_of_getElem? e2)
  show CellOk K (s.setD D o) c (upd s.H D o a)
  rw [upd_ne ne]
  exact CellOk.congr (s := s) (s' := s.setD D o) rfl (fun _ f => f) (setD_k nf) (R.cell i c a e1 e2)
/-- what is known of D stays behind a run -/
theorem Aft.away (A : Aft s s') (h : s.H D = some o) (nr : D ∉ s.rho) (nf : ¬ s.fz D) : s'.H D = some o ∧ D ∉ s'.rho ∧ ¬ s'.fz D := by
  have nl : ¬ Live s D := fun ⟨i, c, _, e⟩ => nr (List.mem_of_getElem? e)
  refine ⟨A.keep D o h nl, fun m => ?_, fun f => ?_⟩
  · obtain ⟨ex, e, n⟩ := A.pre
    rw [e] at m
    rcases List.mem_append.mp m with m | m
    · exact nr m
    · rw [n D m] at h; cases h
  · rcases A.fnew D f with f | f | f
    · exact nf f
    · rw [f] at h; cases h
    · exact nl f
theorem Aft.setD {s0 : S4} (A : Aft s0 s) (h0 : s0.H D = none) {o' : HO} : Aft s0 (s.setD D o') := by
  refine ⟨A.pre, A.fz, fun a u e nl => ?_, A.fnew, A.live, fun a h => ?_⟩
  · show upd s.H D o' a = some u
    rw [upd_ne (ne_of_none e h0)]; exact A.keep a u e nl
  · show upd s.H D o' a ≠ none
    by_cases q : a = D
    · rw [q, upd_same]; intro z; cases z
    · rw [upd_ne q]; exact A.trk a h
theorem Go.bind0 {Wx : WX} {A B C E : Type} {Fam : S4 → A → B → Prop} {Gam : S4 → C → E → Prop} {s0 s : S4} {r : Res A} {k : A → IH → Res C} {Q : E → Hp → Prop} {R : B → Hp → Prop} (g : Go K Wx Gam s0 (r.bind k) Q) (A0 : Aft s0 s)
    (h : ∀ a b s', Aft s s' → Rel K s' → Fam s' a b → Go K Wx Gam s0 (k a s'.hp) Q → R b s'.H) : Go K Wx Fam s r R := by
  cases r with
  | ok x hp =>
    intro b s2 h1 h2 h3 h4
    subst h1
    exact h x b s2 h2 h3 h4 g
  | er e eta hp => exact Go.aft (Fam := Fam) (r := .er e eta hp) (Q := R) (show Go K Wx Fam s0 (.er e eta hp) R from g) A0
  | bad => exact g
end
/-- what the end of a comprehension asks: the list at D is handed on -/
def FinOk (K : PySem.W.Frag) (Wx : WX) (fin : OpN) : Prop := ∀ (s0 s : S4) (ws : List W) (vs : List V) (D : Addr) (Q : VK), Aft s0 s → Rel K s → s0.H D = none → D ∉ s.rho → ¬ s.fz D → s.H D = some (.lst vs) → RwL K s ws vs → Go K Wx (Rw K) s0 (fin ws s.hp) Q →
  Q (.ref D) s.H
theorem fin_lst {K : PySem.W.Frag} {Wx : WX} : FinOk K Wx lstOf := by
  intro s0 s ws vs D Q A R h0 nr nf hD l g
  unfold lstOf at g
  split at g
  · rename_i ts ht
    split at g
    · rename_i hz
      rw [allT_eq ht] at l
      have R2 : Rel K ⟨s.rho, fun a => s.fz a ∨ a = D, s.hp, s.H⟩ := by
        refine ⟨R.len, R.nd, R.trk, fun a f => ?_, fun a l f => ?_, fun i c a e1 e2 => CellOk.congr (s := s) (s' := ⟨s.rho, fun a => s.fz a ∨ a = D, s.hp, s.H⟩) rfl (fun _ f => Or.inl f) (fun _ _ => rfl) (R.cell i c a e1 e2)⟩
        · rcases f with f | f
          · exact R.ftrk a f
          · rw [f, hD]; intro z; cases z
        · rcases f with f | f
          · exact R.fz a l f
          · obtain ⟨i, c, _, e⟩ := l
            exact nr (f ▸ List.mem_of_getElem? e)
      refine g (.ref D) ⟨s.rho, fun a => s.fz a ∨ a = D, s.hp, s.H⟩ rfl ⟨A.pre, fun a f => .inl (A.fz a f), A.keep, fun a f => ?_, A.live, A.trk⟩ R2 ?_
      · rcases f with f | f
        · exact A.fnew a f
        · exact .inr (.inl (by rw [f]; exact h0))
      · simp only [Rw, Rf]
        exact ⟨D, vs, rfl, ⟨.inr rfl, hD⟩, RfL.congr (fun _ f => .inl f) (fun _ _ => rfl) _ _ (RwL.of_trees.mp l)⟩
    · exact g.elim
  · exact g.elim
theorem fin_live {K : PySem.W.Frag} {Wx : WX} : FinOk K Wx newL := by
  intro s0 s ws vs D Q A R h0 nr nf hD l g
  unfold newL at g
  split at g
  · rename_i hz
    have lv : ∀ {a : Addr}, Live ⟨s.rho ++ [D], s.fz, s.hp ++ [some (.lst ws)], s.H⟩ a → Live s a ∨ a = D := fun {a} l => by
      have l' : Live (s.addL D (.lst ws) (.lst vs)) a := l
      exact live_addL R l'
    have cg : ∀ {c : Cell} {o : Option HO}, CellOk K s c o → CellOk K ⟨s.rho ++ [D], s.fz, s.hp ++ [some (.lst ws)], s.H⟩ c o := fun {c o} h => by
      have rwl : ∀ {w : W} {v : V}, Rw K s w v → Rw K ⟨s.rho ++ [D], s.fz, s.hp ++ [some (.lst ws)], s.H⟩ w v := fun {w v} h => by
        cases w with
        | t x => exact h
        | r i => obtain ⟨a, e1, e2⟩ := h; exact ⟨a, by show (s.rho ++ [D])[i]? = some a; rw [List.getElem?_append_left (List.getElem?_eq_some_iff.mp e1).1]; exact e1, e2⟩
      have rl : ∀ {ws' : List W} {vs' : List V}, RwL K s ws' vs' → RwL K ⟨s.rho ++ [D], s.fz, s.hp ++ [some (.lst ws)], s.H⟩ ws' vs' := by
        intro ws'
        induction ws' with
        | nil => intro vs' h; exact h
        | cons x xs ih => intro vs' h; obtain ⟨v, r, e, a, b⟩ := h; exact ⟨v, r, e, rwl a, ih b⟩
      have rk : ∀ {ws' : List (Key × W)} {vs' : List (Key × V)}, RwK K s ws' vs' → RwK K ⟨s.rho ++ [D], s.fz, s.hp ++ [some (.lst ws)], s.H⟩ ws' vs' := by
        intro ws'
        induction ws' with
        | nil => intro vs' h; exact h
        | cons x xs ih => intro vs' h; obtain ⟨v, r, e, a, b⟩ := h; exact ⟨v, r, e, rwl a, ih b⟩
      have rf : ∀ {ws' : List (Str × W)} {vs' : List (Str × V)}, RwF K s ws' vs' → RwF K ⟨s.rho ++ [D], s.fz, s.hp ++ [some (.lst ws)], s.H⟩ ws' vs' := by
        intro ws'
        induction ws' with
        | nil => intro vs' h; exact h
        | cons x xs ih => intro vs' h; obtain ⟨v, r, e, a, b⟩ := h; exact ⟨v, r, e, rwl a, ih b⟩
      cases c with
      | lst ws => obtain ⟨vs, e, l⟩ := h; exact ⟨vs, e, rl l⟩
      | dic kvs => obtain ⟨vs, e, l⟩ := h; exact ⟨vs, e, rk l⟩
      | ins c fs => obtain ⟨C, dx, vs, e, cn, l⟩ := h; exact ⟨C, dx, vs, e, cn, rf l⟩
      | dit _ => exact h.elim
      | tpl ws => obtain ⟨ob, vs, e, d, l⟩ := h; exact ⟨ob, vs, e, d, rl l⟩
    have ok := cg (c := .lst ws) (o := some (.lst vs)) ⟨vs, rfl, l⟩
    refine g (.ref D) ⟨s.rho ++ [D], s.fz, s.hp ++ [some (.lst ws)], s.H⟩ rfl ⟨?_, A.fz, A.keep, A.fnew, fun a l => ?_, A.trk⟩ ⟨by simp [R.len], ?_, fun a m => ?_, R.ftrk, fun a l f => ?_, fun i c a e1 e2 => ?_⟩ ?_
    · obtain ⟨ex, e, n⟩ := A.pre
      refine ⟨ex ++ [D], by rw [e, List.append_assoc], fun a m => ?_⟩
      rcases List.mem_append.mp m with m | m
      · exact n a m
      · simp at m; rw [m]; exact h0
    · rcases lv l with l | l
      · exact A.live a l
      · exact .inr (by rw [l]; exact h0)
    · refine List.nodup_append.mpr ⟨R.nd, by simp, fun a m b hb => ?_⟩
      simp at hb
      rintro rfl
      exact nr (hb ▸ m)
    · rcases List.mem_append.mp m with m | m
      · exact R.trk a m
      · simp at m; rw [m, hD]; intro z; cases z
    · rcases lv l with l | l
      · exact R.fz a l f
      · exact nf (l ▸ f)
    · by_cases hi : i < s.hp.length
      · rw [List.getElem?_append_left hi] at e1
        rw [List.getElem?_append_left (by rw [R.len]; exact hi)] at e2
        exact cg (R.cell i c a e1 e2)
      · have h0 : i = s.hp.length := by
          have := (List.getElem?_eq_some_iff.mp e1).1
          simp at this
          omega
        subst h0
        simp at e1
        rw [List.getElem?_append_right (by rw [R.len]; exact Nat.le_refl _), R.len] at e2
        simp at e2
        subst e1 e2
        show CellOk K _ _ (s.H D)
        rw [hD]
        exact ok
    · exact ⟨D, by show (s.rho ++ [D])[s.hp.length]? = some D; rw [List.getElem?_append_right (by rw [R.len]; exact Nat.le_refl _), R.len]; simp, rfl⟩
  · exact g.elim
theorem wipeI_eq (eta : IS) (vs : List Nat) : wipeI eta vs = vs.foldr (fun v e => e.set v none) eta := rfl
section
variable {X : Cx} {Wx : WX} {elt tg iter : Expr} {Fi : M (List W)} {pos : Pos} {g : TG} {G : W → IS → Option IS} {vs : List Nat} {T : M Bool} {E : M W} {fin : OpN} {own : List (Str × Nat)}
theorem t_comp (us : List Nat) (ok : TgOk X.K g G vs) (hv : ∀ i ∈ vs, i ∈ us) (hf : FinOk X.K Wx fin) : ∀ σ H Q, tE X.K Wx (mComp fin Fi G T E us) σ H Q →
    tLc (tM X.K Wx (SrcF X.K) Fi) g (tT X.K W0 T) (tE X.K W0 E) us σ H Q := fun σ H Q h =>
  tM.bind1 (R := fun (J : It) (H1 : Hp) => ∀ D, H1 D = none → ∃ Wv : Nat → Nat → Hp → Prop, (∃ m, Wv 0 m (upd H1 D (.lst []))) ∧ ∀ i m H, Wv i m H →
      (J.stop i H ∧ Q (.ref D) H) ∨ (J.go i H ∧ ∃ Nx : Hp → Prop, (∀ H', Nx H' → ∃ m', m' < m ∧ Wv (i + 1) m' H') ∧ ∀ x H', J.yld i H x H' → g x (wipe σ us) H' fun σ2 H2 => wipe σ2 us = wipe σ us ∧ tT X.K W0 T σ2 H2 fun b H3 =>
        if b = true then tE X.K W0 E σ2 H3 fun y H4 => ∃ acc, H4 D = some (.lst acc) ∧ acc.length < sizeLine ∧ Nx (upd H4 D (.lst (acc ++ [y]))) else Nx H3))
    (k := fun (ws : List W) eta hp => if ws.length ≤ 16777216 then (compL G T E (wipeI eta us) ws hp).bind fun r h2 => fin r h2 else .bad) h fun s0 eta ws J R0 S0 src g0 D hD => by
    split at g0
    · rename_i hz
      have hz' : ws.length ≤ sizeLine := by rw [sizeLine_eq]; exact hz
      have hw : Sl X.K s0 (wipeI eta us) (wipe σ us) := S0.wipe us
      refine ⟨fun i m H => m = ws.length - i ∧ i ≤ ws.length ∧ ∃ (s : S4) (acc : List W) (xs : List V), s.H = H ∧ Aft s0 s ∧ Rel X.K s ∧ D ∉ s.rho ∧ ¬ s.fz D ∧ s.H D = some (.lst xs) ∧ RwL X.K s acc xs ∧ acc.length ≤ i ∧
          Go X.K Wx (Rw X.K) s0 ((compL G T E (wipeI eta us) (ws.drop i) s.hp).bind fun r h => fin (acc ++ r) h) Q, ⟨ws.length, by simp, Nat.zero_le _, s0.setD D (.lst []), [], [], rfl, (Aft.refl s0).setD hD, rel_setD R0 (R0.fresh hD).1 (R0.fresh hD).2, (R0.fresh hD).1, (R0.fresh hD).2, upd_same, rfl, Nat.le_refl _, g0⟩, ?_⟩
      rintro i m H ⟨rfl, hi, s, acc, xs, rfl, A1, R1, nr, nf, hDx, l1, hl1, g1⟩
      obtain ⟨q1, q2⟩ := src s A1 R1 i
      by_cases hlt : i < ws.length
      · obtain ⟨go, yl⟩ := q1 ws[i] (List.getElem?_eq_getElem hlt)
        refine .inr ⟨go, fun H' => i + 1 ≤ ws.length ∧ ∃ (s : S4) (acc : List W) (xs : List V), s.H = H' ∧ Aft s0 s ∧ Rel X.K s ∧ D ∉ s.rho ∧ ¬ s.fz D ∧ s.H D = some (.lst xs) ∧ RwL X.K s acc xs ∧ acc.length ≤ i + 1 ∧
          Go X.K Wx (Rw X.K) s0 ((compL G T E (wipeI eta us) (ws.drop (i + 1)) s.hp).bind fun r h => fin (acc ++ r) h) Q, fun H' n => ⟨ws.length - (i + 1), by omega, rfl, n⟩, fun x H' y => ?_⟩
        obtain ⟨s3, e3, hp3, A3, R3, rw3⟩ := yl x H' y
        subst e3
        obtain ⟨hD3, nr3, nf3⟩ := A3.away hDx nr nf
        have l3 := RwL.aft A3 R1 _ _ l1
        have A03 := A1.trans A3
        rw [List.drop_eq_getElem_cons hlt] at g1
        rw [← hp3] at g1
        simp only [compL, Res.bind_assoc, turnL] at g1
        cases hG : G ws[i] (wipeI eta us) with
        | none => simp only [hG, noEr] at g1; exact g1.elim
        | some eta1 =>
          simp only [hG, noEr_bind, Res.bind_assoc] at g1
          obtain ⟨σ2, S2, w2, q4⟩ := ok.run s3 ws[i] x (wipeI eta us) (wipe σ us) eta1 R3 rw3 ((hw.aft A03 R0)) hG
          have wi : wipe (wipe σ us) us = wipe σ us := by
            apply List.ext_getElem?
            intro j
            by_cases hj : j ∈ us
            · by_cases hl : j < σ.length
              · rw [wipe_in hj (by rw [wipe_length]; exact hl), wipe_in hj hl]
              · rw [List.getElem?_eq_none (by rw [wipe_length, wipe_length]; simpa using hl), List.getElem?_eq_none (by rw [wipe_length]; simpa using hl)]
            · rw [wipe_get hj]
          refine q4 _ ⟨(w2 us hv).trans wi, s3, eta1, rfl, R3, S2, Go.noEr (Go.bind0 g1 A03 fun b bv s4 A4 R4 f4 g4 => ?_)⟩
          subst f4
          obtain ⟨hD4, nr4, nf4⟩ := A4.away hD3 nr3 nf3
          have l4 := RwL.aft A4 R3 _ _ l3
          have A04 := A03.trans A4
          cases b with
          | false =>
            simp only [Bool.false_eq_true, if_false, noEr, Res.bind] at g4
            rw [if_neg Bool.false_ne_true]
            exact ⟨hlt, s4, acc, xs, rfl, A04, R4, nr4, nf4, hD4, l4, by omega, g4⟩
          | true =>
            simp only [if_true, noEr_bind, Res.bind_assoc] at g4
            rw [if_pos rfl]
            refine ⟨s4, eta1, rfl, R4, S2.aft A4 R3, Go.noEr (Go.bind0 g4 A04 fun yw yv s5 A5 R5 f5 g5 => ?_)⟩
            obtain ⟨hD5, nr5, nf5⟩ := A5.away hD4 nr4 nf4
            have l5 := RwL.aft A5 R4 _ _ l4
            have A05 := A04.trans A5
            refine ⟨xs, hD5, by rw [← RwL.length l5]; omega, hlt, s5.setD D (.lst (xs ++ [yv])), acc ++ [yw], xs ++ [yv], rfl, A05.setD hD, rel_setD R5 nr5 nf5, nr5, nf5, upd_same, ?_, by simp; omega, ?_⟩
            · exact RwL.append (RwL.congr (s := s5) (s' := s5.setD D _) rfl (fun _ f => f) (setD_k nf5) l5) ⟨yv, [], rfl, Rw.congr (s := s5) (s' := s5.setD D _) rfl (fun _ f => f) (setD_k nf5) f5, rfl⟩
            · simp only [noEr, Res.bind] at g5
              have e : ∀ (r : Res (List W)), (r.bind fun r h2 => (Res.ok (yw :: r) h2).bind fun r h => fin (acc ++ r) h) = (r.bind fun r h => fin ((acc ++ [yw]) ++ r) h) := fun r => by cases r <;> simp [Res.bind]
              have e2 := e (compL G T E (wipeI eta us) (ws.drop (i + 1)) s5.hp)
              exact e2 ▸ g5
      · have e : i = ws.length := by omega
        subst e
        refine .inl ⟨q2 rfl, ?_⟩
        rw [List.drop_length] at g1
        simp only [compL, Res.bind, List.append_nil] at g1
        exact hf s0 s acc xs D Q A1 R1 hD nr nf hDx l1 g1
    · exact g0.elim
end
end Mir

/-! MirG: a def's promise where no repr is under way (the hand layer's FnOk asks nothing of that); its call, an instance made, the law's end. -/
namespace Mir
open PySem PySem.Spec L2
open PyProof.Rows hiding St

structure FnG (P : Program) (w : World) (K : PySem.W.Frag) (mg : Str → Option Value) (base : Heap) (CX : CXT) (k : Nat) (f : Addr) (fd : FuncData) (ps : List Str) (sp : Sp) : Prop where
  len : ∀ vs H Q E, sp vs H Q E → vs.length = ps.length
  run : ∀ (A : Around) (outer : List Env) (s : Shared) (H : Hp) (args : Args) (us : List Value) (vs : List V) (Q : VK) (E : XK), Room k A → A.guards = some [] → Env0 P w K mg base A outer s H → BindsTo s fd args (ps.zip us) → Vals vs us →
    sp vs H Q E → codeAny (model P w) A (.call (.ref f) args) (CR CX outer P w H s Q E) s
section
variable {P : Program} {w : World} {K : PySem.W.Frag} {mg : Str → Option Value} {base : Heap} {CX : CXT} {f : Addr} {fd : FuncData} {ps : List Str} {sp : Sp}
theorem FnG.mono {j k : Nat} (F : FnG P w K mg base CX j f fd ps sp) (h : j ≤ k) : FnG P w K mg base CX k f fd ps sp :=
  ⟨F.len, fun A outer s H args us vs Q E hr hg => F.run A outer s H args us vs Q E (hr.mono h) hg⟩
/-- a def by its body -/
theorem Fun.okG {k : Nat} {x qual : Str} {st : Stmt} {N : List Str} {dvs : List V} {kws : List (Str × V)} (F : FunD K x qual (defArgs st) (defBody st) (defScope st) dvs kws f fd) (S : FnScope N ps (defScope st)) (len : ∀ vs H Q E, sp vs H Q E → vs.length = ps.length)
    (hb : ∀ (cdv : Value) (A : Around) (outer : List Env) (s : Shared) (H : Hp) (vs : List V) (Q : VK) (E : XK), Room k (A.deeper (envOfC qual (defScope st) s.heap.objs.size f cdv)) → A.guards = some [] → sp vs H Q E →
      ∃ t, PSs (cxOf CX P w K mg base N qual (defScope st) f cdv A outer s H E) (defBody st) t ∧ t { nx := fun _ H' => Q .non H', rt := Q } (L2.start N vs) H) : FnG P w K mg base CX (k + 1) f fd ps sp := by
  obtain ⟨oc, od, dV, kV, doc, pm, an, cdv, ct, osl, rfl, lk, hcd, _, _⟩ := F.ex
  refine ⟨len, fun A outer s H args us vs Q E hr hgd e0 hbd r hsp => ?_⟩
  have hl := len _ _ _ _ hsp
  have keep : ∀ b o, base.get? b = some o → s.heap.get? b = some o := fun b o e => (e0.bs b o e).1
  have KX : K.In s.heap := e0.mod.kin.keeps keep
  have bound : ∀ y ∈ ps.zip us, (defScope st).names.lookup y.1 = some .local ∨ ((defScope st).names.lookup y.1 = some .cell ∧ ((cellsFrom (s.heap.objs.size + 1) (defScope st).names []).lookup y.1).isSome = true) := by
    rintro ⟨n, v⟩ hy
    refine (S.par n (List.of_mem_zip hy).1).imp id fun q => ⟨q, ?_⟩
    exact PySem.W.cellsFrom_some _ _ _ (.inl q)
  refine codeAny_call_function hr.depth (KX _ _ lk) rfl S.co S.gen rfl (PySem.W.codeRec_of KX hcd) (hbd _ _ _ _ ?_)
  refine wpAny_newFunctionEnv_cells S.kind bound ?_
  rintro env rfl s1 x
  refine ⟨(e0.mod.nolimit.keeps keep).keeps x.toInCall.keep, codeAny_func ?_⟩
  obtain ⟨t, ht, hq⟩ := hb cdv A outer s H vs Q E (hr.deeper _) hgd hsp
  have I := inv_start (CX := CX) (N := N) (E := E) S hr.hd e0 hl r x
  refine wpAny_mono (ht.run [] s1 (L2.start N vs) H _ I hq) ?_ fun e s' hs => hs
  have fin : ∀ {s' : Shared} {σ' : L2.St} {H' : Hp} {v : V} {u : Value}, Inv (cxOf CX P w K mg base N qual (defScope st) f cdv A outer s H E) [] σ' H' s' → RelV v u → Q v H' → CE outer P w H s Q u s' :=
    fun {s' σ' H' v u} J rv q => ⟨v, H', J.os, J.bare, J.base, J.hok, rv, q⟩
  intro fl s' hs
  cases fl with
  | ret u => obtain ⟨v, σ', H', J, rv, q⟩ := hs; exact fin J rv q
  | next => obtain ⟨σ', H', J, q⟩ := hs; exact fin (v := V.non) (u := Value.none) J rfl q
  | brk => obtain ⟨_, _, _, q⟩ := hs; exact q.elim
  | cont => obtain ⟨_, _, _, q⟩ := hs; exact q.elim
end
section
variable {X : Cx} {CX : CXT} {k : Nat} {f C : Addr} {fd : FuncData} {ps : List Str} {sp : Sp} {dvs : List V} {ds : List Value} {E : XK} {x m : Str} {p pos apos : Pos} {e o : Expr} {es : List Expr} {ta : TE} {t : TA}
theorem runG {pins : List (Addr × Obj)} {σ : L2.St} {H : Hp} {s : Shared} {Q : VK} {us : List Value} {vs : List V} (F : FnG X.prog X.w X.K X.mg X.base CX k f fd ps sp) (hr : Room k X.A) (hgd : X.A.guards = some []) (hb : Binds X.K fd ps ds) (hd : Vals dvs ds) (hx : Passes CX X E)
    (I : Inv X pins σ H s) (r : Vals vs us) (h : sp (vs ++ dvs) H Q E) : wpAny (model X.prog X.w) X.A (call (.ref f) us) (EP X pins σ Q) X.xe s := by
  have r2 := r.append hd
  have hl : (us ++ ds).length = ps.length := r2.length.symm.trans (F.len _ _ _ _ h)
  refine wpAny_call (codeAny_mono (F.run X.A X.stack s H ⟨us, []⟩ (us ++ ds) (vs ++ dvs) Q E hr hgd I.env0 (hb s us I.kIn hl) r2 h) ?_)
  rintro (e | fl) s' hq
  · exact hx pins σ H s e s' I hq
  · cases fl <;> first | exact I.after hq | exact (show False from hq).elim
theorem pe_callG (F : FnG X.prog X.w X.K X.mg X.base CX k f fd ps sp) (hr : Room k X.A) (hgd : X.A.guards = some []) (hg : Gl X x) (hm : X.mg x = some (.ref f)) (hk : PySem.W.keepIn X.K (.ref f) = true) (hb : Binds X.K fd ps ds) (hd : Vals dvs ds) (hx : Passes CX X E)
    (ha : PA X (e :: es) t) (hdb : (x == ("__debug__" : Str)) = false := by decide) (he : starEach (e :: es) X.env = (false, eval e X.env) :: starEach es X.env := by rfl) (hpl : (backTo pos (starEach es X.env)).any (·.1) = false := by rfl) :
    PE X (.Call (.Name x p) (e :: es) [] pos) (tCall sp dvs E t) := ⟨fun pins s σ H Q I h => by
  refine wpAny_Call_Name_kw (ld_glob I hg hm ?_ hdb)
  refine PySem.W.callWith_K (h₀ := X.base) I.ok.mod.kin hk (thn (ha.run pos pins s σ H _ I h) ?_) he hpl
  rintro us s1 ⟨vs, H1, I1, r, q⟩
  exact ⟨I1.kIn, runG F hr hgd hb hd hx I1 r q⟩⟩
theorem pe_call0G (F : FnG X.prog X.w X.K X.mg X.base CX k f fd ps sp) (hr : Room k X.A) (hgd : X.A.guards = some []) (hg : Gl X x) (hm : X.mg x = some (.ref f)) (hk : PySem.W.keepIn X.K (.ref f) = true) (hb : Binds X.K fd ps ds) (hd : Vals dvs ds) (hx : Passes CX X E)
    (hdb : (x == ("__debug__" : Str)) = false := by decide) : PE X (.Call (.Name x p) [] [] pos) (tCall sp dvs E tNil) := ⟨fun pins s σ H Q I h =>
  wpAny_Call_Name_kw (ld_glob I hg hm (PySem.W.callWith_K0 I.kIn hk (runG (us := []) F hr hgd hb hd hx I .nil h)) hdb)⟩
end

/-! ### the law's end -/
theorem law_callG {P : Program} {w : World} {K : PySem.W.Frag} {mg mb : Str → Option Value} {CX : CXT} {k : Nat} {fa a : Addr} {fd : FuncData} {x : Str} {sp : Sp} {s1 : Shared} {us : List Value} {ns : List Int}
    (KX : K.In s1.heap) (hns : s1.heap.Ns mainGlobals mg) (hb : s1.heap.Ns builtinsNs mb) (hbb : ∀ y : Str, y ≠ "__name__" → mb y = bootBuiltins y) (hlim : s1.heap.NoLimit) (hg : s1.gens = #[])
    (ha : s1.heap.get? a = some { cls := .type "list", data := .seq us.toArray }) (hi : IntsAre us ns) (hl : ns.length ≤ sizeLine) (hr : Room k callerA)
    (F : ∀ base : Heap, K.In base → base.Ns mainGlobals mg → FnG P w K mg base CX k fa fd [x] sp) (hbind : ∀ (s : Shared) (u : Value), BindsTo s fd ⟨[u], []⟩ [(x, u)])
    (hsp : ∀ H : Hp, ((∃ o, H a = some (.frz o (.lst (ns.map V.int)))) ∨ (∃ (o : Obj) (its : Array Value) (n : Nat), K.lookup a = some o ∧ o.cls = .type "list" ∧ o.dict = none ∧ o.data = .seq its n ∧ its.size ≤ sizeLine ∧ Vals (ns.map V.int) its.toList)) → sp [.ref a] H (fun v _ => v = .bl true) fun _ _ _ => False)
    (hCX : ∀ H e s', CX [] H s1 (fun _ _ _ => False) e s' → False) :
    codeAny (model P w) callerA (.call (.ref fa) ⟨[.ref a], []⟩) (fun r s' => r = .ok (.ret (.bool true)) ∧ OldK s1.heap s'.heap ∧ s'.os = s1.os ∧ AllBare s'.gens) s1 := by
  have rv := vals_ints hi
  have lenV := hi.length
  have main : ∀ H : Hp, Only H → ((∃ o, H a = some (.frz o (.lst (ns.map V.int)))) ∨ (∃ (o : Obj) (its : Array Value) (n : Nat), K.lookup a = some o ∧ o.cls = .type "list" ∧ o.dict = none ∧ o.data = .seq its n ∧ its.size ≤ sizeLine ∧ Vals (ns.map V.int) its.toList)) → HOk P w H s1.heap →
      (∀ b, H b ≠ none → b = a) → (H a ≠ none → K.lookup a = none) →
      codeAny (model P w) callerA (.call (.ref fa) ⟨[.ref a], []⟩) (fun r s' => r = .ok (.ret (.bool true)) ∧ OldK s1.heap s'.heap ∧ s'.os = s1.os ∧ AllBare s'.gens) s1 := by
    intro H hO hS hok hA hK
    have isA : ∀ {b : Addr} {u : HO}, H b = some u → b = a := fun {b u} q => hA b (by rw [q]; exact Option.some_ne_none u)
    have free : ∀ {b : Addr} {o : Obj} {es : Array DictEntry} {ep : Nat}, s1.heap.get? b = some o → o.data = .dict es ep → H b = none := fun {b o es ep} e d => by
      cases q : H b with
      | none => rfl
      | some u =>
        rw [isA q, ha] at e
        cases e
        cases (show Data.seq us.toArray _ = Data.dict es ep from d)
    have nsK : ∀ {b : Addr} {m : Str → Option Value}, s1.heap.Ns b m → (hidT s1.heap H).Ns b m := fun {b m} ⟨o, es, ep, e, d, r⟩ => ⟨o, es, ep, hidT_get e (free e d), d, r⟩
    have hKb : K.In (hidT s1.heap H) := fun b o e => hidT_get (KX b o e) (by
      cases q : H b with
      | none => rfl
      | some u =>
        obtain rfl := isA q
        rw [hK (by rw [q]; exact Option.some_ne_none u)] at e
        cases e)
    have hM : Mod K mg (hidT s1.heap H) := by
      obtain ⟨mc, m1, m2⟩ := hlim
      exact ⟨hKb, nsK hns, ⟨mb, nsK hb, hbb⟩, mc, nsK m1, m2⟩
    have e0 : Env0 P w K mg (hidT s1.heap H) callerA [] s1 H :=
      { frames := rfl, mod := hM, bs := fun b o e => of_hidT e, bsz := Nat.le_of_eq (hidT_size _ _), funs := trivial, frf := fun b q => absurd (show b ∈ ([] : List Addr) from q) (by simp), hok := hok, bare := .of_eq hg }
    refine codeAny_mono ((F _ hKb (nsK hns)).run callerA [] s1 H ⟨[.ref a], []⟩ [.ref a] [.ref a] _ _ hr rfl e0 (hbind s1 (.ref a)) (.cons rfl .nil) (hsp H hS)) ?_
    rintro (e | fl) s' h
    · exact (hCX H e s' h).elim
    · cases fl with
      | ret u =>
        obtain ⟨v, H', os, bare, un, hok', r', q⟩ := h
        obtain rfl : v = .bl true := q
        obtain rfl : u = Value.bool true := r'
        refine ⟨rfl, OldK.of_keep fun b o e => ?_, os, bare⟩
        rcases hO b with z | ⟨ob, xs, z⟩
        · exact un.keep b o e z (fun m => nomatch (show b ∈ ([] : List Addr) from m)) (fun m => nomatch m)
        · have z2 := un.frzs b ob _ z
          have e1 := (hok b _ z).1
          have e2 := (hok' b _ z2).1
          rw [e] at e1
          cases e1
          exact e2
      | next => exact (show False from h).elim
      | brk => exact (show False from h).elim
      | cont => exact (show False from h).elim
  cases hk : K.lookup a with
  | some o =>
    have e := KX a o hk
    rw [ha] at e
    cases e
    refine main (fun _ => none) (fun _ => .inl rfl) (.inr ⟨_, us.toArray, _, hk, rfl, rfl, rfl, by rw [List.size_toArray, lenV]; exact hl, by simpa using rv⟩) ?_ (fun b z => absurd rfl z) fun z => absurd rfl z
    intro b u z
    cases (show (none : Option HO) = some u from z)
  | none =>
    refine main (fun b => if b = a then some (.frz { cls := .type "list", data := .seq us.toArray } (.lst (ns.map V.int))) else none) ?_ (.inl ⟨{ cls := .type "list", data := .seq us.toArray }, if_pos rfl⟩) ?_ ?_ fun _ => hk
    · intro b
      by_cases hb : b = a
      · exact .inr ⟨_, _, if_pos hb⟩
      · exact .inl (if_neg hb)
    · intro b u z
      by_cases hb : b = a
      · cases (if_pos hb).symm.trans z
        subst hb
        exact ⟨ha, by rw [List.length_map]; exact hl, us, _, rv, ha⟩
      · cases (if_neg hb).symm.trans z
    · intro b z
      by_cases hb : b = a
      · exact hb
      · exact absurd (if_neg hb) z

/-- what k_head leaves, from the law's promise -/
theorem walkG {l : PySem.W.OpenLaw} {n k : Nat} {q : Program} {loose : List Str} {XP : (Str → Option Value) → Heap → Prop} {YP : World → Heap → Prop} {d : DefRec} {K : Params → PySem.W.Frag} {CX : World → CXT} {sp : World → Sp} {x : Str}
    (hn : l.most = some n) (hn2 : n ≤ sizeLine) (hdf : d.params.defaults = []) (hr : Room k callerA) (hY : ∀ (w : World) (h : Heap), YP w h → (K w.params).In h)
    (F : ∀ (w : World) (mg : Str → Option Value) (fa : Addr) (h : Heap), (K w.params).In h → h.Ns mainGlobals mg → mg d.name = some (.ref fa) →
      ∃ fd : FuncData, (∀ (s : Shared) (u : Value), BindsTo s fd ⟨[u], []⟩ [(x, u)]) ∧
        ∀ base : Heap, (K w.params).In base → base.Ns mainGlobals mg → FnG l.prog w (K w.params) mg base (CX w) k fa fd [x] (sp w))
    (hsp : ∀ (w : World) (H : Hp) (a : Addr) (ns : List Int), ns.length ≤ n → ((∃ o, H a = some (.frz o (.lst (ns.map V.int)))) ∨ (∃ (o : Obj) (its : Array Value) (m : Nat), (K w.params).lookup a = some o ∧ o.cls = .type "list" ∧ o.dict = none ∧ o.data = .seq its m ∧ its.size ≤ sizeLine ∧ Vals (ns.map V.int) its.toList)) →
      sp w [.ref a] H (fun v _ => v = .bl true) fun _ _ _ => False)
    (hCX : ∀ (w : World) (H : Hp) (s : Shared) (e : Value) (s' : Shared), CX w [] H s (fun _ _ _ => False) e s' → False) :
    PySem.W.WalkO q loose XP YP l.row.toRowW d [] (fun f vs => PySem.call f vs) := by
  refine Att.attach_call hn hdf ?_
  intro w s0 s1 mg mb fa o pm cd doc a us ns G Y ho hd hcd hmg hobj hints hlen hg
  have KX := hY w _ Y
  obtain ⟨fd, hb, hF⟩ := F w mg fa _ KX G.T.g hmg
  exact law_callG KX G.T.g G.T.b G.T.builtins G.T.nolimit hg hobj hints (Nat.le_trans hlen hn2) hr hF hb (fun H hS => hsp w H a ns hlen hS) fun H e s' => hCX w H s1 e s'
end Mir

/-! Mir4: what loops walk, comprehensions, defs and their calls. -/
namespace Mir
open PySem PySem.Spec L2
open PyProof.Rows hiding St

section
variable {K : PySem.W.Frag} {s : S4}
/-- a frozen sequence, as it lies -/
def FSq (K : PySem.W.Frag) (s : S4) (kd : Kd) (a : Addr) (ts : List T) : Prop := ∃ vs, Sq K s.H kd a vs ∧ RfL K s.fz s.H ts vs ∧ ∀ s', Aft s s' → Rel K s' → Sq K s'.H kd a vs
theorem fsq_of (R : Rel K s) {x : T} {v : V} (r : Rf K s.fz s.H x v) {ts : List T} (h : x = .tup ts ∨ x = .lst ts ∨ x = .scr ts) : ∃ kd a, v = .ref a ∧ FSq K s kd a ts := by
  rcases h with h | h | h <;> subst h
  · obtain ⟨a, vs, e, t, l⟩ : ∃ a vs, v = .ref a ∧ FTup K s.fz s.H a vs ∧ RfL K s.fz s.H ts vs := by simpa only [Rf] using r
    exact ⟨.t, a, e, vs, t.sq, l, fun s' A _ => (t.aft A R).sq⟩
  · obtain ⟨a, vs, e, t, l⟩ : ∃ a vs, v = .ref a ∧ FLst s.fz s.H a vs ∧ RfL K s.fz s.H ts vs := by simpa only [Rf] using r
    exact ⟨.l, a, e, vs, t.sq, l, fun s' A _ => (t.aft A R).sq⟩
  · obtain ⟨a, vs, e, t, l⟩ : ∃ a vs, v = .ref a ∧ FScr K s.fz s.H a vs ∧ RfL K s.fz s.H ts vs := by simpa only [Rf] using r
    exact ⟨.l, a, e, vs, t.sq, l, fun s' A _ => (t.aft A R).sq⟩
/-- what a value walks, frozen -/
def seqT : W → Option (List T)
  | .t (.tup ts) => some ts
  | .t (.lst ts) => some ts
  | .t (.scr ts) => some ts
  | _ => none
theorem seqT_of {w : W} {ts : List T} (h : seqT w = some ts) : ∃ x, w = .t x ∧ (x = .tup ts ∨ x = .lst ts ∨ x = .scr ts) := by
  unfold seqT at h
  split at h <;> simp only [Option.some.injEq, reduceCtorEq] at h <;> subst h
  · exact ⟨_, rfl, .inl rfl⟩
  · exact ⟨_, rfl, .inr (.inl rfl)⟩
  · exact ⟨_, rfl, .inr (.inr rfl)⟩
theorem fsq (R : Rel K s) {w : W} {v : V} {ts : List T} (h : seqT w = some ts) (r : Rw K s w v) : ∃ kd a, v = .ref a ∧ FSq K s kd a ts := by
  obtain ⟨x, rfl, hx⟩ := seqT_of h
  exact fsq_of R r hx

theorem Sq.get_inj {H : Hp} {kd : Kd} {a : Addr} {xs : List V} (h : Sq K H kd a xs) (J : It) : True := trivial
/-- plainly -/
theorem src_sq (R : Rel K s) {kd : Kd} {a : Addr} {ts : List T} (h : FSq K s kd a ts) : SrcF K s (ts.map W.t) (ItQ K kd a) := by
  obtain ⟨vs, _, l, st⟩ := h
  intro s' A' R' i
  have q := st s' A' R'
  have l' := RfL.aft A' R _ _ l
  have hl := RfL.length l
  refine ⟨fun w hw => ?_, fun e => ?_⟩
  · obtain ⟨t, ht, rfl⟩ : ∃ t, ts[i]? = some t ∧ W.t t = w := by simpa using hw
    obtain ⟨v, hv, rv⟩ := RfL.get l' ht
    cases kd with
    | l => exact ⟨⟨vs, v, q, hv⟩, fun x H' y => ⟨s', y.1.symm, rfl, Aft.refl _, R', by
        have := y.2 vs q
        rw [hv] at this
        cases this
        exact rv⟩⟩
    | t => exact ⟨⟨vs, v, q, hv⟩, fun x H' y => ⟨s', y.1.symm, rfl, Aft.refl _, R', by
        have := y.2 vs q
        rw [hv] at this
        cases this
        exact rv⟩⟩
  · cases kd with
    | l => exact ⟨vs, q, by rw [e, List.length_map, hl]; exact Nat.le_refl _⟩
    | t => exact ⟨vs, q, by rw [e, List.length_map, hl]; exact Nat.le_refl _⟩
theorem src_rng (lo : Int) (n : Nat) : SrcF K s ((List.range n).map fun i => W.t (.int (lo + (i : Nat)))) (Itr lo n) := by
  intro s' A' R' i
  refine ⟨fun w hw => ?_, fun e => ?_⟩
  · have hi : i < n := by
      have := (List.getElem?_eq_some_iff.mp hw).1
      simpa using this
    refine ⟨hi, fun x H' y => ⟨s', y.1.symm, rfl, Aft.refl _, R', ?_⟩⟩
    have e : W.t (.int (lo + (i : Nat))) = w := by
      rw [List.getElem?_map, List.getElem?_range hi] at hw
      simpa using hw
    subst e
    simp only [Rw, Rf]
    exact y.2
  · show n ≤ i
    rw [e]
    simp
/-- enumerate -/
def enumT : Nat → List T → List W
  | _, [] => []
  | i, t :: ts => .t (.pr [.int (i : Nat), t]) :: enumT (i + 1) ts
theorem enumT_get : ∀ (ts : List T) (j i : Nat), (enumT j ts)[i]? = (ts[i]?).map fun t => W.t (.pr [.int ((j + i : Nat)), t])
  | [], _, i => by simp [enumT]
  | t :: ts, j, 0 => by simp [enumT]
  | t :: ts, j, i + 1 => by
    simp only [enumT, List.getElem?_cons_succ]
    rw [enumT_get ts (j + 1) i, show j + 1 + i = j + (i + 1) by omega]
theorem enumT_length : ∀ (ts : List T) (j : Nat), (enumT j ts).length = ts.length
  | [], _ => rfl
  | t :: ts, j => by simp [enumT, enumT_length ts]
theorem src_en (R : Rel K s) {kd : Kd} {a : Addr} {ts : List T} (h : FSq K s kd a ts) : SrcF K s (enumT 0 ts) (ItEn K kd a) := by
  obtain ⟨vs, _, l, st⟩ := h
  intro s' A' R' i
  have q := st s' A' R'
  have l' := RfL.aft A' R _ _ l
  have hl := RfL.length l
  refine ⟨fun w hw => ?_, fun e => ⟨vs, q, by rw [e, enumT_length, hl]⟩⟩
  rw [enumT_get, Option.map_eq_some_iff] at hw
  obtain ⟨t, ht, rfl⟩ := hw
  obtain ⟨v, hv, rv⟩ := RfL.get l' ht
  refine ⟨⟨vs, v, q, hv⟩, fun x H' y => ?_⟩
  obtain ⟨p, x', ex, np, eH, hx⟩ := y
  have ev : x' = v := Option.some.inj ((hx vs q).symm.trans hv)
  subst ex eH ev
  refine ⟨s'.addF p (.tup [.int (i : Nat), x']), rfl, rfl, aft_addF R' np, rel_addF R' np, addF_pr R' np ?_⟩
  rw [Nat.zero_add]
  exact ⟨_, _, rfl, by simp [Rf], x', [], rfl, rv, by simp [RfL]⟩
/-- zip -/
def zipT : List T → List T → List W
  | t :: ts, u :: us => .t (.pr [t, u]) :: zipT ts us
  | _, _ => []
theorem zipT_get : ∀ (ts us : List T) (i : Nat) (w : W), (zipT ts us)[i]? = some w → ∃ t u, ts[i]? = some t ∧ us[i]? = some u ∧ w = .t (.pr [t, u])
  | [], _, i, w, h => by simp [zipT] at h
  | _ :: _, [], i, w, h => by simp [zipT] at h
  | t :: ts, u :: us, 0, w, h => ⟨t, u, rfl, rfl, by simpa [zipT] using h.symm⟩
  | t :: ts, u :: us, i + 1, w, h => by
    simp only [zipT, List.getElem?_cons_succ] at h ⊢
    exact zipT_get ts us i w h
theorem zipT_length : ∀ (ts us : List T), (zipT ts us).length = min ts.length us.length
  | [], _ => by simp [zipT]
  | _ :: _, [] => by simp [zipT]
  | t :: ts, u :: us => by simp [zipT, zipT_length ts us]
theorem src_zp (R : Rel K s) {k1 k2 : Kd} {a b : Addr} {ts us : List T} (h : FSq K s k1 a ts) (h2 : FSq K s k2 b us) : SrcF K s (zipT ts us) (ItZp K k1 k2 a b) := by
  obtain ⟨vs, _, l, st⟩ := h
  obtain ⟨vs2, _, l2, st2⟩ := h2
  intro s' A' R' i
  have q := st s' A' R'
  have q2 := st2 s' A' R'
  have l' := RfL.aft A' R _ _ l
  have l2' := RfL.aft A' R _ _ l2
  refine ⟨fun w hw => ?_, fun e => ⟨vs, vs2, q, q2, by rw [e, zipT_length, RfL.length l, RfL.length l2]⟩⟩
  obtain ⟨t, u, ht, hu, rfl⟩ := zipT_get _ _ _ _ hw
  obtain ⟨v, hv, rv⟩ := RfL.get l' ht
  obtain ⟨v2, hv2, rv2⟩ := RfL.get l2' hu
  refine ⟨⟨vs, vs2, v, v2, q, q2, hv, hv2⟩, fun x H' y => ?_⟩
  obtain ⟨p, x1, x2, ex, np, eH, hx, hx2⟩ := y
  have e1 : x1 = v := Option.some.inj ((hx vs q).symm.trans hv)
  have e2 : x2 = v2 := Option.some.inj ((hx2 vs2 q2).symm.trans hv2)
  subst ex eH e1 e2
  exact ⟨s'.addF p (.tup [x1, x2]), rfl, rfl, aft_addF R' np, rel_addF R' np, addF_pr R' np ⟨x1, _, rfl, rv, x2, [], rfl, rv2, by simp [RfL]⟩⟩
/-- a text, sign by sign -/
def signs (x : Str) : List W := x.cps.toList.map fun c => .t (.str ⟨#[c]⟩)
theorem src_str (x : Str) : SrcF K s (signs x) (Its x) := by
  intro s' A' R' i
  refine ⟨fun w hw => ?_, fun e => ?_⟩
  · unfold signs at hw
    rw [List.getElem?_map, Option.map_eq_some_iff] at hw
    obtain ⟨c, hc, rfl⟩ := hw
    have hc' : x.cps[i]? = some c := by simpa using hc
    refine ⟨(Array.getElem?_eq_some_iff.mp hc').1, fun v H' y => ⟨s', y.1.symm, rfl, Aft.refl _, R', ?_⟩⟩
    obtain ⟨_, c', h1, h2⟩ := y
    rw [hc'] at h1
    cases h1
    simp only [Rw, Rf]
    exact h2
  · show x.cps.size ≤ i
    rw [e]
    simp [signs]
end

/-! ### the sources -/
def mItems (F : M W) : M (List W) := fun eta hp => (F eta hp).bind fun a h1 => match a with
  | .t (.str x) => .ok (signs x) h1
  | a => match seqT a with | some ts => .ok (ts.map W.t) h1 | none => .bad
def rng1 (ws : List W) (hp : IH) : Res (List W) := match ws with
  | [.t (.int j)] => if -(2 ^ 62) ≤ j ∧ j < 2 ^ 62 then .ok ((List.range j.toNat).map fun i => W.t (.int (0 + (i : Nat)))) hp else .bad
  | _ => .bad
def rng2 (ws : List W) (hp : IH) : Res (List W) := match ws with
  | [.t (.int i), .t (.int j)] => if -(2 ^ 62) ≤ i ∧ i < 2 ^ 62 ∧ -(2 ^ 62) ≤ j ∧ j < 2 ^ 62 then .ok ((List.range (j - i).toNat).map fun k => W.t (.int (i + (k : Nat)))) hp else .bad
  | _ => .bad
def enum1 (ws : List W) (hp : IH) : Res (List W) := match ws with
  | [a] => (match seqT a with | some ts => .ok (enumT 0 ts) hp | none => .bad)
  | _ => .bad
def zip2 (ws : List W) (hp : IH) : Res (List W) := match ws with
  | [a, b] => (match seqT a, seqT b with | some ts, some us => .ok (zipT ts us) hp | _, _ => .bad)
  | _ => .bad
def sqI (a : W) (hp : IH) : Res (List W) := match seqT a with | some ts => .ok (ts.map W.t) hp | none => .bad
def strI (a : W) (hp : IH) : Res (List W) := match a with | .t (.str x) => .ok (signs x) hp | _ => .bad
def mSq (F : M W) : M (List W) := fun eta hp => (F eta hp).bind sqI
def mStrI (F : M W) : M (List W) := fun eta hp => (F eta hp).bind strI
def mSrc (f : List W → IH → Res (List W)) (Fs : M (List W)) : M (List W) := fun eta hp => (Fs eta hp).bind f
section
variable {X : Cx} {Wx : WX} {tg a b e : Expr} {F : M W} {Fs : M (List W)} {p pos tpos : Pos} {elts : List Expr} {kk : Nat}
theorem Go.src {s : S4} {ws : List W} {J : It} {Q : It → Hp → Prop} (R : Rel X.K s) (g : Go X.K Wx (SrcF X.K) s (.ok ws s.hp) Q) (h : SrcF X.K s ws J) : Q J s.H := g J s rfl (Aft.refl s) R h
/-- a list or a tuple -/
theorem ii_sq (he : IE X Wx e F) : II X Wx tg e (mSq F) := PI.imp (pi_sq he) fun σ H Q h =>
  tM.bind1 (R := fun (x : V) (H1 : Hp) => ∃ kd a xs, x = .ref a ∧ Sq X.K H1 kd a xs ∧ Q (ItQ X.K kd a) H1) (k := fun (a : W) _ h1 => sqI a h1) h fun s eta w v R1 S1 f1 g => by
    unfold sqI at g
    cases hq : seqT w with
    | none => simp only [hq] at g; exact g.elim
    | some ts =>
      simp only [hq] at g
      obtain ⟨kd, a, ev, fs⟩ := fsq R1 hq f1
      exact ⟨kd, a, _, ev, fs.choose_spec.1, Go.src R1 g (src_sq R1 fs)⟩
theorem ii_str (he : IE X Wx e F) : II X Wx tg e (mStrI F) := PI.imp (pi_str he) fun σ H Q h =>
  tM.bind1 (R := fun (x : V) (H1 : Hp) => ∃ z, x = .str z ∧ Q (Its z) H1) (k := fun (a : W) _ h1 => strI a h1) h fun s eta w v R1 S1 f1 g => by
    unfold strI at g
    split at g
    · rename_i x
      simp only [Rw, Rf] at f1
      exact ⟨x, f1, Go.src R1 g (src_str x)⟩
    · exact g.elim
theorem rwl1 {K : PySem.W.Frag} {s : S4} {a : W} {vs : List V} (h : RwL K s [a] vs) : ∃ v, vs = [v] ∧ Rw K s a v := by
  obtain ⟨v, r, e, q, n⟩ := h
  rw [show r = [] from n] at e
  exact ⟨v, e, q⟩
theorem rwl2 {K : PySem.W.Frag} {s : S4} {a b : W} {vs : List V} (h : RwL K s [a, b] vs) : ∃ v u, vs = [v, u] ∧ Rw K s a v ∧ Rw K s b u := by
  obtain ⟨v, r, e, q, n⟩ := h
  obtain ⟨u, e2, q2⟩ := rwl1 n
  subst e2
  exact ⟨v, u, e, q, q2⟩
theorem rwl3 {K : PySem.W.Frag} {s : S4} {a b c : W} {vs : List V} (h : RwL K s [a, b, c] vs) : ∃ v u w, vs = [v, u, w] ∧ Rw K s a v ∧ Rw K s b u ∧ Rw K s c w := by
  obtain ⟨v, r, e, q, n⟩ := h
  obtain ⟨u, w, e2, q2, q3⟩ := rwl2 n
  subst e2
  exact ⟨v, u, w, e, q, q2, q3⟩
theorem ii_rng1 (hg : Gl X "range") (hm : X.mg "range" = none) (ha : IA X Wx [a] Fs) (hs : starEach [a] X.env = [(false, eval a X.env)] := by rfl) : II X Wx tg (.Call (.Name "range" p) [a] [] pos) (mSrc rng1 Fs) := PI.imp (pi_range1 hg hm ha hs) fun σ H Q h =>
  tM.bind1 (R := fun (vs : List V) (H1 : Hp) => ∃ j : Int, vs = [.int j] ∧ -(2 ^ 62) ≤ j ∧ j < 2 ^ 62 ∧ Q (Itr 0 j.toNat) H1) (k := fun (ws : List W) _ h1 => rng1 ws h1) h fun s eta ws vs R1 S1 f1 g => by
    unfold rng1 at g
    split at g
    · rename_i j
      split at g
      · rename_i hj
        obtain ⟨v, ev, rv⟩ := rwl1 f1
        simp only [Rw, Rf] at rv
        subst rv
        exact ⟨j, ev, hj.1, hj.2, Go.src R1 g (src_rng 0 _)⟩
      · exact g.elim
    · exact g.elim
theorem ii_rng2 (hg : Gl X "range") (hm : X.mg "range" = none) (ha : IA X Wx [a, b] Fs) (hs : starEach [a, b] X.env = [(false, eval a X.env), (false, eval b X.env)] := by rfl) (hs2 : starEach [b] X.env = [(false, eval b X.env)] := by rfl) : II X Wx tg (.Call (.Name "range" p) [a, b] [] pos) (mSrc rng2 Fs) := PI.imp (pi_range2 hg hm ha hs hs2) fun σ H Q h =>
  tM.bind1 (R := fun (vs : List V) (H1 : Hp) => ∃ i j : Int, vs = [.int i, .int j] ∧ (-(2 ^ 62) ≤ i ∧ i < 2 ^ 62 ∧ -(2 ^ 62) ≤ j ∧ j < 2 ^ 62) ∧ Q (Itr i (j - i).toNat) H1) (k := fun (ws : List W) _ h1 => rng2 ws h1) h fun s eta ws vs R1 S1 f1 g => by
    unfold rng2 at g
    split at g
    · rename_i i j
      split at g
      · rename_i hj
        obtain ⟨v, u, ev, rv, ru⟩ := rwl2 f1
        simp only [Rw, Rf] at rv ru
        subst rv ru
        exact ⟨i, j, ev, hj, Go.src R1 g (src_rng i _)⟩
      · exact g.elim
    · exact g.elim
theorem ii_en (hg : Gl X "enumerate") (hm : X.mg "enumerate" = none) (ha : IA X Wx [a] Fs) (hs : starEach [a] X.env = [(false, eval a X.env)] := by rfl) : II X Wx (.Tuple elts kk tpos) (.Call (.Name "enumerate" p) [a] [] pos) (mSrc enum1 Fs) := PI.imp (pi_en hg hm ha hs) fun σ H Q h =>
  tM.bind1 (R := fun (vs : List V) (H1 : Hp) => ∃ kd a xs, vs = [.ref a] ∧ Sq X.K H1 kd a xs ∧ Q (ItEn X.K kd a) H1) (k := fun (ws : List W) _ h1 => enum1 ws h1) h fun s eta ws vs R1 S1 f1 g => by
    unfold enum1 at g
    split at g
    · rename_i w
      cases hq : seqT w with
      | none => simp only [hq] at g; exact g.elim
      | some ts =>
        simp only [hq] at g
        obtain ⟨v, ev, rv⟩ := rwl1 f1
        obtain ⟨kd, a, ev2, fs⟩ := fsq R1 hq rv
        subst ev2
        exact ⟨kd, a, _, ev, fs.choose_spec.1, Go.src R1 g (src_en R1 fs)⟩
    · exact g.elim
theorem ii_zip (hg : Gl X "zip") (hm : X.mg "zip" = none) (ha : IA X Wx [a, b] Fs) (hs : starEach [a, b] X.env = (false, eval a X.env) :: starEach [b] X.env := by rfl) (hpl : (backTo pos (starEach [b] X.env)).any (·.1) = false := by rfl) :
    II X Wx (.Tuple elts kk tpos) (.Call (.Name "zip" p) [a, b] [] pos) (mSrc zip2 Fs) := PI.imp (pi_zp hg hm ha hs hpl) fun σ H Q h =>
  tM.bind1 (R := fun (vs : List V) (H1 : Hp) => ∃ k1 k2 a b xs ys, vs = [.ref a, .ref b] ∧ Sq X.K H1 k1 a xs ∧ Sq X.K H1 k2 b ys ∧ Q (ItZp X.K k1 k2 a b) H1) (k := fun (ws : List W) _ h1 => zip2 ws h1) h fun s eta ws vs R1 S1 f1 g => by
    unfold zip2 at g
    split at g
    · rename_i w w2
      cases hq : seqT w with
      | none => simp only [hq] at g; exact g.elim
      | some ts =>
        cases hq2 : seqT w2 with
        | none => simp only [hq, hq2] at g; exact g.elim
        | some us =>
          simp only [hq, hq2] at g
          obtain ⟨v, v2, ev, rv, rv2⟩ := rwl2 f1
          obtain ⟨kd, a, ea, fs⟩ := fsq R1 hq rv
          obtain ⟨kd2, b, eb, fs2⟩ := fsq R1 hq2 rv2
          subst ea eb
          exact ⟨kd, kd2, a, b, _, _, ev, fs.choose_spec.1, fs2.choose_spec.1, Go.src R1 g (src_zp R1 fs fs2)⟩
    · exact g.elim
end

/-! ### comprehensions -/
section
variable {X : Cx} {Wx : WX} {elt tg iter : Expr} {ifs : List Expr} {scope : Scope} {own : List (Str × Nat)} {Fi : M (List W)} {pos : Pos} {g : TG} {G : W → IS → Option IS} {vs : List Nat} {tt : TT} {T : M Bool} {E : M W} {fin : OpN}
def mYes : M Bool := fun _ hp => .ok true hp
/-- a clause's tests -/
def ITs (X : Cx) (ifs : List Expr) (T : M Bool) : Prop := PTs X ifs (tT X.K W0 T)
theorem PTs.imp {t t' : TT} (h : PTs X ifs t) (i : ∀ σ H Q, t' σ H Q → t σ H Q) : PTs X ifs t' := ⟨fun pins s σ H Q I hw => h.run pins s σ H Q I (i _ _ _ hw)⟩
theorem its_nil : ITs X [] mYes := PTs.imp pts_nil fun σ H Q h => by
  obtain ⟨s, eta, e1, R1, S1, g⟩ := h
  subst e1
  exact g true s rfl (Aft.refl s) R1 rfl
theorem its_one {c : Expr} (h : IT X W0 c T) : ITs X [c] T := pts_one h
theorem ie_comp (hc : X.calm = true) (hN : X.N.Nodup) (hi : II X Wx tg iter Fi) (ok : BlkOk X.N X.env.scope scope own)
    (hg : ∀ (s : Shared) (H : Hp) (C : Addr) (cl : List (Str × Addr)) (fp : List Addr), PG (X.blk s H scope (compEnvC scope cl C X.env) fp) tg g) (tok : TgOk X.K g G vs)
    (ht : ∀ (s : Shared) (H : Hp) (C : Addr) (cl : List (Str × Addr)) (fp : List Addr), ITs (X.blk s H scope (compEnvC scope cl C X.env) fp) ifs T)
    (he : ∀ (s : Shared) (H : Hp) (C : Addr) (cl : List (Str × Addr)) (fp : List Addr), IE (X.blk s H scope (compEnvC scope cl C X.env) fp) W0 elt E) (hf : FinOk X.K Wx fin) (hv : ∀ i ∈ vs, i ∈ own.map (·.2) := by decide) (hs : ∀ x, foldedSetIterable iter X.env x = pure x := by intro _; rfl) :
    IE X Wx (.ListComp elt [⟨tg, iter, ifs, 0⟩] scope pos) (mComp fin Fi G T E (own.map (·.2))) := PE.imp (pe_lc (tt := tT X.K W0 T) (te := tE X.K W0 E) hc hN hi ok hg ht he hs) (t_comp _ tok hv hf)
theorem st_comp {i : Nat} {y : Str} {py spos : Pos} (hc : X.calm = true) (hN : X.N.Nodup) (hy : X.N[i]? = some y) (hyl : X.env.scope.names.lookup y = some .local)
    (hsw : swapsWith (.ListComp elt [⟨tg, iter, ifs, 0⟩] scope pos) (some (.Name y py)) spos.line X.env = pure true) (hi : II X Wx tg iter Fi) (ok : BlkOk X.N X.env.scope scope own)
    (hg : ∀ (s : Shared) (H : Hp) (C : Addr) (cl : List (Str × Addr)) (fp : List Addr), PG (X.blk s H scope (compEnvC scope cl C X.env) fp) tg g) (tok : TgOk X.K g G vs)
    (ht : ∀ (s : Shared) (H : Hp) (C : Addr) (cl : List (Str × Addr)) (fp : List Addr), ITs (X.blk s H scope (compEnvC scope cl C X.env) fp) ifs T)
    (he : ∀ (s : Shared) (H : Hp) (C : Addr) (cl : List (Str × Addr)) (fp : List Addr), IE (X.blk s H scope (compEnvC scope cl C X.env) fp) W0 elt E) (hf : FinOk X.K Wx fin) (hv : ∀ i ∈ vs, i ∈ own.map (·.2) := by decide) (hs : ∀ x, foldedSetIterable iter X.env x = pure x := by intro _; rfl) :
    ISt X Wx (.Assign [.Name y py] (.ListComp elt [⟨tg, iter, ifs, 0⟩] scope pos) spos) (mSet i (mComp fin Fi G T E (own.map (·.2)))) := PS.imp (ps_setLc (tt := tT X.K W0 T) (te := tE X.K W0 E) hc hN hy hyl hsw hi ok hg ht he hs) fun D σ H h => by
  have h' : tE X.K Wx (mComp fin Fi G T E (own.map (·.2))) σ H (fun x H1 => D.nx (σ.set i (some x)) H1) :=
    tM.bind1 (R := fun (y : V) (H1 : Hp) => D.nx (σ.set i (some y)) H1) (k := fun (a : W) eta hp => .ok (Fl.nx (eta.set i (some a))) hp) h fun s eta a b R1 S1 f1 g1 => Go.nx R1 (S1.set i f1) g1
  exact t_comp _ tok hv hf σ H _ h'
end

/-! ### defs and calls -/
/-- a def's function: its body at its parameters; a live result may not be younger than the call -/
def fnM (n nn : Nat) (B : M Fl) : OpN := fun ws hp => if ws.length = n then (match B (ws.map some ++ List.replicate (nn - n) none) hp with
    | .ok (.rt w) h => .ok w h
    | .ok (.nx _) h => .ok (.t .non) h
    | .er e _ h => .er e [] h
    | _ => .bad) else .bad
/-- .. of trees alone: its own cells are dropped -/
def fnP (n nn : Nat) (B : M Fl) : OpN := fun ws hp => if ws.length = n ∧ (allT ws).isSome = true then (match B (ws.map some ++ List.replicate (nn - n) none) [] with
    | .ok (.rt (.t x)) _ => .ok (.t x) hp
    | .ok (.nx _) _ => .ok (.t .non) hp
    | _ => .bad) else .bad
/-- the promise made of a function -/
def spM (K : PySem.W.Frag) (f : OpN) (n : Nat) : Sp := fun vs H Q _ => ∃ (s : S4) (ws : List W), s.H = H ∧ Rel K s ∧ RwL K s ws vs ∧ ws.length = n ∧ Go K W0 (Rw K) s (noEr (f ws s.hp)) Q
section
variable {K : PySem.W.Frag}
theorem spM_len {f : OpN} {n : Nat} {vs : List V} {H : Hp} {Q : VK} {E : XK} (h : spM K f n vs H Q E) : vs.length = n := by
  obtain ⟨s, ws, _, _, l, e, _⟩ := h
  rw [← RwL.length l, e]
theorem sl_start {s : S4} {N : List Str} {ws : List W} {vs : List V} (l : RwL K s ws vs) : Sl K s (ws.map some ++ List.replicate (N.length - ws.length) none) (L2.start N vs) := by
  have hl := RwL.length l
  refine ⟨by simp [L2.start, hl], fun i w e => ?_⟩
  by_cases hi : i < ws.length
  · rw [List.getElem?_append_left (by simpa using hi), List.getElem?_map] at e
    cases q : ws[i]? with
    | none => rw [q] at e; cases e
    | some w' =>
      rw [q] at e
      cases e
      obtain ⟨v, h1, h2⟩ := RwL.get l q
      refine ⟨v, ?_, h2⟩
      unfold L2.start
      rw [List.getElem?_append_left (by rw [List.length_map, ← hl]; exact hi), List.getElem?_map, h1]
      rfl
  · rw [List.getElem?_append_right (by simpa using hi), List.getElem?_replicate] at e
    split at e <;> cases e
/-- a run over the caller's heap without its cells -/
def S4.bare (s : S4) : S4 := ⟨[], s.fz, [], s.H⟩
theorem rel_bare {s : S4} (R : Rel K s) : Rel K s.bare := ⟨rfl, List.nodup_nil, fun a m => absurd m (by simp [S4.bare]), R.ftrk, fun a l => by obtain ⟨i, c, e, _⟩ := l; simp [S4.bare] at e, fun i c a e => by simp [S4.bare] at e⟩
theorem Rf.bare {s : S4} {x : T} {v : V} (h : Rw K s (.t x) v) : Rw K s.bare (.t x) v := h
theorem aft_bare {s s' : S4} (R : Rel K s) (A : Aft s.bare s') : Aft s ⟨s.rho, s'.fz, s.hp, s'.H⟩ ∧ (Rel K s' → Rel K ⟨s.rho, s'.fz, s.hp, s'.H⟩) := by
  have nl : ∀ a, ¬ Live s.bare a := fun a l => by obtain ⟨i, c, e, _⟩ := l; simp [S4.bare] at e
  have A1 : Aft s ⟨s.rho, s'.fz, s.hp, s'.H⟩ := by
    refine ⟨⟨[], by simp, by simp⟩, A.fz, fun a o e _ => A.keep a o e (nl a), fun a f => ?_, fun a l => .inl l, A.trk⟩
    rcases A.fnew a f with f | f | f
    · exact .inl f
    · exact .inr (.inl f)
    · exact (nl a f).elim
  refine ⟨A1, fun R' => ⟨R.len, R.nd, fun a m => A.trk a (R.trk a m), R'.ftrk, fun a l f => ?_, fun i c a e1 e2 => ?_⟩⟩
  · rcases A.fnew a f with f | f | f
    · exact R.fz a l f
    · obtain ⟨i, c, e1, e2⟩ := l
      exact R.liveH e1 e2 f
    · exact nl a f
  · have q := R.cell i c a e1 e2
    have ha : s.H a ≠ none := R.liveH e1 e2
    cases hq : s.H a with
    | none => exact absurd hq ha
    | some o =>
      show CellOk K _ c (s'.H a)
      rw [A.keep a o hq (nl a), ← hq]
      exact q.aft A1 R
variable {P : Program} {w : World} {mg : Str → Option Value} {base : Heap}
theorem okM {x qual : Str} {st : Stmt} {f : Addr} {fd : FuncData} {N ps : List Str} {k : Nat} {B : M Fl} {dfs : List V} {kws : List (Str × V)} (F : FunD K x qual (defArgs st) (defBody st) (defScope st) dfs kws f fd) (S : FnScope N ps (defScope st))
    (hb : ∀ (cdv : Value) (A : Around) (outer : List Env) (s : Shared) (H : Hp) (E : XK), Room k (A.deeper (envOfC qual (defScope st) s.heap.objs.size f cdv)) → A.guards = some [] → ISs (cxOf (L2.CX P w) P w K mg base N qual (defScope st) f cdv A outer s H E).nox W0 (defBody st) B) :
    FnG P w K mg base (L2.CX P w) (k + 1) f fd ps (spM K (fnM ps.length N.length B) ps.length) := by
  refine Fun.okG F S (fun vs H Q E h => spM_len h) fun cdv A outer s H vs Q E hr hgd h => ⟨_, PSs.nox (hb cdv A outer s H E hr hgd), ?_⟩
  obtain ⟨s0, ws, e1, R1, l, el, g⟩ := h
  refine ⟨s0, _, e1, R1, sl_start l, ?_⟩
  unfold fnM at g
  rw [if_pos el] at g
  rw [el]
  cases hB : B (ws.map some ++ List.replicate (N.length - ps.length) none) s0.hp with
  | ok fl hp =>
    rw [hB] at g
    cases fl with
    | rt wr => exact fun b s' h1 h2 h3 h4 => by cases b <;> first | exact h4.elim | exact g _ s' h1 h2 h3 h4
    | nx e => exact fun b s' h1 h2 h3 h4 => by cases b <;> first | exact h4.elim | exact g .non s' h1 h2 h3 (by simp [Rw, Rf])
    | bk e => exact g.elim
    | ct e => exact g.elim
  | er e eta hp => rw [hB] at g; exact g.elim
  | bad => rw [hB] at g; exact g.elim
theorem okP {x qual : Str} {st : Stmt} {f : Addr} {fd : FuncData} {N ps : List Str} {k : Nat} {B : M Fl} {dfs : List V} {kws : List (Str × V)} (F : FunD K x qual (defArgs st) (defBody st) (defScope st) dfs kws f fd) (S : FnScope N ps (defScope st))
    (hb : ∀ (cdv : Value) (A : Around) (outer : List Env) (s : Shared) (H : Hp) (E : XK), Room k (A.deeper (envOfC qual (defScope st) s.heap.objs.size f cdv)) → A.guards = some [] → ISs (cxOf (L2.CX P w) P w K mg base N qual (defScope st) f cdv A outer s H E).nox W0 (defBody st) B) :
    FnG P w K mg base (L2.CX P w) (k + 1) f fd ps (spM K (fnP ps.length N.length B) ps.length) := by
  refine Fun.okG F S (fun vs H Q E h => spM_len h) fun cdv A outer s H vs Q E hr hgd h => ⟨_, PSs.nox (hb cdv A outer s H E hr hgd), ?_⟩
  obtain ⟨s0, ws, e1, R1, l, el, g⟩ := h
  unfold fnP at g
  cases ht : allT ws with
  | none => simp only [ht, Option.isSome_none, Bool.false_eq_true, and_false, if_false] at g; exact g.elim
  | some ts =>
    rw [if_pos ⟨el, by rw [ht]; rfl⟩] at g
    have lb : RwL K s0.bare ws vs := by
      rw [allT_eq ht] at l ⊢
      exact (RwL.of_trees (s := s0.bare)).mpr ((RwL.of_trees (s := s0)).mp l)
    refine ⟨s0.bare, _, e1, rel_bare R1, sl_start lb, ?_⟩
    rw [el]
    show Go K W0 (RFl K) s0.bare (B _ []) _
    cases hB : B (ws.map some ++ List.replicate (N.length - ps.length) none) [] with
    | ok fl hp =>
      rw [hB] at g
      cases fl with
      | rt wr =>
        cases wr with
        | t y =>
          intro b s' h1 h2 h3 h4
          cases b <;> first | exact h4.elim | exact g _ ⟨s0.rho, s'.fz, s0.hp, s'.H⟩ rfl (aft_bare R1 h2).1 ((aft_bare R1 h2).2 h3) h4
        | r i => exact g.elim
      | nx e =>
        intro b s' h1 h2 h3 h4
        cases b <;> first | exact h4.elim | exact g .non ⟨s0.rho, s'.fz, s0.hp, s'.H⟩ rfl (aft_bare R1 h2).1 ((aft_bare R1 h2).2 h3) (by simp [Rw, Rf])
      | bk e => exact g.elim
      | ct e => exact g.elim
    | er e eta hp => rw [hB] at g; exact g.elim
    | bad => rw [hB] at g; exact g.elim
end
theorem fnM_len {n nn : Nat} {B : M Fl} : ∀ ws hp, ws.length ≠ n → fnM n nn B ws hp = .bad := fun ws hp h => by unfold fnM; rw [if_neg h]
theorem fnP_len {n nn : Nat} {B : M Fl} : ∀ ws hp, ws.length ≠ n → fnP n nn B ws hp = .bad := fun ws hp h => by unfold fnP; rw [if_neg fun z => h z.1]
/-- f(e, ..), then the defaults -/
def mCall (f : OpN) (ds : List T) (Fs : M (List W)) : M W := fun eta hp => (Fs eta hp).bind fun ws h1 => noEr (f (ws ++ ds.map W.t) h1)
section
variable {X : Cx} {Wx : WX} {k : Nat} {f : Addr} {fd : FuncData} {ps : List Str} {m : OpN} {n : Nat} {x : Str} {p pos : Pos} {e : Expr} {es : List Expr} {Fs : M (List W)} {dvs : List V} {ds : List Value} {dts : List T}
theorem ie_call (Fk : FnG X.prog X.w X.K X.mg X.base (L2.CX X.prog X.w) k f fd ps (spM X.K m n)) (hr : Room k X.A) (hgd : X.A.guards = some []) (hg : Gl X x) (hm : X.mg x = some (.ref f)) (hk : PySem.W.keepIn X.K (.ref f) = true) (hb : Binds X.K fd ps ds) (hd : Vals dvs ds) (hdt : ∀ s, RwL X.K s (dts.map W.t) dvs) (hl : ∀ ws hp, ws.length ≠ n → m ws hp = .bad) (ha : IA X Wx (e :: es) Fs)
    (hdb : (x == ("__debug__" : Str)) = false := by decide) (he : starEach (e :: es) X.env = (false, eval e X.env) :: starEach es X.env := by rfl) (hpl : (backTo pos (starEach es X.env)).any (·.1) = false := by rfl) : IE X Wx (.Call (.Name x p) (e :: es) [] pos) (mCall m dts Fs) :=
  PE.imp (pe_callG Fk hr hgd hg hm hk hb hd passL ha hdb he hpl) fun σ H Q h =>
    tM.bind1 (R := fun (vs : List V) (H1 : Hp) => spM X.K m n (vs ++ dvs) H1 Q E0) (k := fun (ws : List W) _ h1 => noEr (m (ws ++ dts.map W.t) h1)) h fun s eta ws vs R1 S1 f1 g => by
      refine ⟨s, ws ++ dts.map W.t, rfl, R1, RwL.append f1 (hdt s), ?_, ?_⟩
      · by_cases e : (ws ++ dts.map W.t).length = n
        · exact e
        · rw [hl _ _ e] at g; exact g.elim
      · cases hq : m (ws ++ dts.map W.t) s.hp with
        | ok a h => rw [hq] at g; exact g
        | er e eta h => rw [hq] at g; exact g.elim
        | bad => rw [hq] at g; exact g.elim
end
end Mir

/-! Mir5: operators, built-in functions, methods of lists. -/
namespace Mir
open PySem PySem.Spec L2
open PyProof.Rows hiding St

/-! ### ints -/
def opI (C : Int → Int → Bool) (g : Int → Int → Int) : Op2 := fun a b hp => match a, b with
  | .t (.int i), .t (.int j) => if C i j = true then .ok (.t (.int (g i j))) hp else .bad
  | _, _ => .bad
def opC (g : Int → Int → Bool) : Op2 := fun a b hp => match a, b with
  | .t (.int i), .t (.int j) => .ok (.t (.bl (g i j))) hp
  | _, _ => .bad
def cYes : Int → Int → Bool := fun _ _ => true
def cMul : Int → Int → Bool := fun i j => decide (i.natAbs.log2 + j.natAbs.log2 < 1000000)
def cDiv : Int → Int → Bool := fun _ j => decide (0 < j ∧ j.natAbs.log2 < 9000)
def cMod : Int → Int → Bool := fun _ j => decide (0 < j)
def cPow : Int → Int → Bool := fun i j => decide (0 ≤ j ∧ j ≤ 1000000 ∧ i.natAbs < 2 ^ 64)
section
variable {K : PySem.W.Frag} {Wx : WX}
theorem ok_opI {C : Int → Int → Bool} {g : Int → Int → Int} {P : Int → Int → Prop} (h : ∀ i j, C i j = true → P i j) : Op2Ok K Wx (opI C g) (rI P fun i j => .int (g i j)) := by
  intro s a b x y Q R ra rb go
  unfold opI at go
  split at go
  · rename_i i j
    split at go
    · rename_i hc
      simp only [Rw, Rf] at ra rb
      exact ⟨i, j, ra, rb, h i j hc, go _ s rfl (Aft.refl s) R (by simp [Rw, Rf])⟩
    · exact go.elim
  · exact go.elim
theorem ok_opI0 {g : Int → Int → Int} : Op2Ok K Wx (opI cYes g) (rI0 fun i j => .int (g i j)) := by
  intro s a b x y Q R ra rb go
  unfold opI at go
  split at go
  · rename_i i j
    rw [if_pos (show cYes i j = true from rfl)] at go
    simp only [Rw, Rf] at ra rb
    exact ⟨i, j, ra, rb, go _ s rfl (Aft.refl s) R (by simp [Rw, Rf])⟩
  · exact go.elim
theorem ok_opC {g : Int → Int → Bool} : Op2Ok K Wx (opC g) (rI0 fun i j => .bl (g i j)) := by
  intro s a b x y Q R ra rb go
  unfold opC at go
  split at go
  · rename_i i j
    simp only [Rw, Rf] at ra rb
    exact ⟨i, j, ra, rb, go _ s rfl (Aft.refl s) R (by simp [Rw, Rf])⟩
  · exact go.elim
end
abbrev iAdd : Op2 := opI cYes fun i j => i + j
abbrev iSub : Op2 := opI cYes fun i j => i - j
abbrev iMul : Op2 := opI cMul fun i j => i * j
abbrev iDiv : Op2 := opI cDiv fun i j => i / j
abbrev iMod : Op2 := opI cMod fun i j => i % j
abbrev iPow : Op2 := opI cPow fun i j => i ^ j.toNat
abbrev iLt : Op2 := opC fun i j => decide (i < j)
abbrev iLe : Op2 := opC fun i j => decide (i ≤ j)
abbrev iGt : Op2 := opC fun i j => decide (j < i)
abbrev iGe : Op2 := opC fun i j => decide (j ≤ i)
section
variable {X : Cx} {Wx : WX} {a b c e : Expr} {Fa Fb Fc F : M W} {pos : Pos}
theorem ie_add (ha : IE X Wx a Fa) (hb : IE X Wx b Fb) : IE X Wx (.BinOp a .Add b pos) (mBin iAdd Fa Fb) := ie_bin op_add ok_opI0 ha hb
theorem ie_sub (ha : IE X Wx a Fa) (hb : IE X Wx b Fb) : IE X Wx (.BinOp a .Sub b pos) (mBin iSub Fa Fb) := ie_bin op_sub ok_opI0 ha hb
theorem ie_mul (ha : IE X Wx a Fa) (hb : IE X Wx b Fb) : IE X Wx (.BinOp a .Mult b pos) (mBin iMul Fa Fb) := ie_bin op_mulW (ok_opI fun i j h => by simpa [cMul, CMulW] using h) ha hb
theorem ie_div (ha : IE X Wx a Fa) (hb : IE X Wx b Fb) : IE X Wx (.BinOp a .FloorDiv b pos) (mBin iDiv Fa Fb) := ie_bin op_fdivW (ok_opI fun i j h => by simpa [cDiv, CDivW] using h) ha hb
theorem ie_mod (ha : IE X Wx a Fa) (hb : IE X Wx b Fb) : IE X Wx (.BinOp a .Mod b pos) (mBin iMod Fa Fb) := ie_bin op_mod (ok_opI fun i j h => by simpa [cMod] using h) ha hb
theorem ie_pow (ha : IE X Wx a Fa) (hb : IE X Wx b Fb) : IE X Wx (.BinOp a .Pow b pos) (mBin iPow Fa Fb) := ie_bin op_pow (ok_opI fun i j h => by simpa [cPow, CPow] using h) ha hb
theorem ie_lt (ha : IE X Wx a Fa) (hb : IE X Wx b Fb) : IE X Wx (.Compare a [.Lt] [b] pos) (mBin iLt Fa Fb) := ie_cmp op_lt ok_opC ha hb (nomark _)
theorem ie_le (ha : IE X Wx a Fa) (hb : IE X Wx b Fb) : IE X Wx (.Compare a [.LtE] [b] pos) (mBin iLe Fa Fb) := ie_cmp op_le ok_opC ha hb (nomark _)
theorem ie_gt (ha : IE X Wx a Fa) (hb : IE X Wx b Fb) : IE X Wx (.Compare a [.Gt] [b] pos) (mBin iGt Fa Fb) := ie_cmp op_gt ok_opC ha hb (nomark _)
theorem ie_ge (ha : IE X Wx a Fa) (hb : IE X Wx b Fb) : IE X Wx (.Compare a [.GtE] [b] pos) (mBin iGe Fa Fb) := ie_cmp op_ge ok_opC ha hb (nomark _)
theorem it_lt (ha : IE X Wx a Fa) (hb : IE X Wx b Fb) : IT X Wx (.Compare a [.Lt] [b] pos) (mTest asB (mBin iLt Fa Fb)) := it_cmp op_lt ok_opC ha hb (nomark _)
theorem it_le (ha : IE X Wx a Fa) (hb : IE X Wx b Fb) : IT X Wx (.Compare a [.LtE] [b] pos) (mTest asB (mBin iLe Fa Fb)) := it_cmp op_le ok_opC ha hb (nomark _)
theorem it_gt (ha : IE X Wx a Fa) (hb : IE X Wx b Fb) : IT X Wx (.Compare a [.Gt] [b] pos) (mTest asB (mBin iGt Fa Fb)) := it_cmp op_gt ok_opC ha hb (nomark _)
theorem it_ge (ha : IE X Wx a Fa) (hb : IE X Wx b Fb) : IT X Wx (.Compare a [.GtE] [b] pos) (mTest asB (mBin iGe Fa Fb)) := it_cmp op_ge ok_opC ha hb (nomark _)
def iNeg : Op1 := fun a hp => match a with | .t (.int i) => .ok (.t (.int (-i))) hp | _ => .bad
theorem ie_neg (ha : IE X Wx a Fa) : IE X Wx (.UnaryOp .USub a pos) (mUn iNeg Fa) := ie_un un_neg (fun s a x Q R ra go => by
  unfold iNeg at go
  split at go
  · simp only [Rw, Rf] at ra
    exact ⟨_, ra, go _ s rfl (Aft.refl s) R (by simp [Rw, Rf])⟩
  · exact go.elim) ha
end
/-! ### texts by order -/
def sLt : Op2 := fun a b hp => match a, b with
  | .t (.str i), .t (.str j) => .ok (.t (.bl (decide (i.cps.toList < j.cps.toList)))) hp
  | _, _ => .bad
section
variable {X : Cx} {Wx : WX} {a b c e : Expr} {Fa Fb Fc F : M W} {pos : Pos}
theorem ok_sLt {K : PySem.W.Frag} : Op2Ok K Wx sLt (fun x y H Q => ∃ i j, x = .str i ∧ y = .str j ∧ Q (.bl (decide (i.cps.toList < j.cps.toList))) H) := by
  intro s a b x y Q R ra rb go
  unfold sLt at go
  split at go
  · simp only [Rw, Rf] at ra rb
    exact ⟨_, _, ra, rb, go _ s rfl (Aft.refl s) R (by simp [Rw, Rf])⟩
  · exact go.elim
theorem ie_slt (ha : IE X Wx a Fa) (hb : IE X Wx b Fb) : IE X Wx (.Compare a [.Lt] [b] pos) (mBin sLt Fa Fb) := ie_cmp op_lt_str ok_sLt ha hb (nomark _)
theorem it_slt (ha : IE X Wx a Fa) (hb : IE X Wx b Fb) : IT X Wx (.Compare a [.Lt] [b] pos) (mTest asB (mBin sLt Fa Fb)) := it_cmp op_lt_str ok_sLt ha hb (nomark _)
end
/-! ### ==, !=, is None, in -/
def eqW (neg : Bool) : Op2 := fun a b hp => match asT hp a, asT hp b with
  | some x, some y => if fit x 60 = true ∧ fit y 60 = true then .ok (.t (.bl (if neg then !eqT x y else eqT x y))) hp else .bad
  | _, _ => .bad
def isN (neg : Bool) : Op2 := fun a b hp => match b with
  | .t .non => (match a with
    | .t .non => .ok (.t (.bl (!neg))) hp
    | _ => .ok (.t (.bl neg)) hp)
  | _ => .bad
def isB (neg : Bool) : Op2 := fun a b hp => match a, b with
  | .t (.bl i), .t (.bl j) => .ok (.t (.bl (if neg then !decide (i = j) else decide (i = j)))) hp
  | _, _ => .bad
def inW (neg : Bool) : Op2 := fun a b hp => match asT hp a, (items hp b).bind allT with
  | some x, some ys => if fit x 60 = true ∧ fitL ys 60 = true then .ok (.t (.bl (if neg then !(ys.any fun y => eqT y x) else ys.any fun y => eqT y x))) hp else .bad
  | _, _ => .bad
section
variable {K : PySem.W.Frag} {Wx : WX}
theorem ok_eq : Op2Ok K Wx (eqW false) (rEqP K) := by
  intro s a b x y Q R ra rb go
  unfold eqW at go
  cases h1 : asT s.hp a with
  | none => simp only [h1] at go; exact go.elim
  | some u =>
    cases h2 : asT s.hp b with
    | none => simp only [h1, h2] at go; exact go.elim
    | some v =>
      simp only [h1, h2] at go
      split at go
      · rename_i hf
        have p1 := fit_plain u 60 hf.1
        have p2 := fit_plain v 60 hf.2
        refine ⟨dat u, dat v, asT_dp R h1 ra hf.1, asT_dp R h2 rb hf.2, p1.1, p2.1, p1.2, ?_⟩
        rw [eqT_dat u v 60 60 hf.1 hf.2]
        exact go _ s rfl (Aft.refl s) R (by simp [Rw, Rf])
      · exact go.elim
theorem ok_ne : Op2Ok K Wx (eqW true) (rNeP K) := by
  intro s a b x y Q R ra rb go
  unfold eqW at go
  cases h1 : asT s.hp a with
  | none => simp only [h1] at go; exact go.elim
  | some u =>
    cases h2 : asT s.hp b with
    | none => simp only [h1, h2] at go; exact go.elim
    | some v =>
      simp only [h1, h2] at go
      split at go
      · rename_i hf
        have p1 := fit_plain u 60 hf.1
        have p2 := fit_plain v 60 hf.2
        refine ⟨dat u, dat v, asT_dp R h1 ra hf.1, asT_dp R h2 rb hf.2, p1.1, p2.1, p1.2, ?_⟩
        rw [eqT_dat u v 60 60 hf.1 hf.2]
        exact go _ s rfl (Aft.refl s) R (by simp [Rw, Rf])
      · exact go.elim
theorem rf_non {s : S4} {w : W} {v : V} (r : Rw K s w v) : (v = .non ↔ w = .t .non) := by
  cases w with
  | r i => obtain ⟨a, _, e⟩ := r; subst e; simp
  | t x =>
    cases x <;> simp only [Rw, Rf] at r <;> first
      | (subst r; simp)
      | (obtain ⟨a, _, e, _⟩ := r; subst e; simp)
      | (obtain ⟨a, _, _, e, _⟩ := r; subst e; simp)
      | (obtain ⟨a, e, _⟩ := r; subst e; simp)
      | exact r.elim
theorem ok_isN : Op2Ok K Wx (isN false) (fun x y H Q => y = .non ∧ Q (.bl (decide (x = .non))) H) := by
  intro s a b x y Q R ra rb go
  unfold isN at go
  split at go
  · refine ⟨by simpa only [Rw, Rf] using rb, ?_⟩
    split at go
    · have e : x = .non := by simpa only [Rw, Rf] using ra
      rw [decide_eq_true e]
      exact go _ s rfl (Aft.refl s) R (by simp [Rw, Rf])
    · rename_i hn
      have e : ¬ x = .non := fun e => hn ((rf_non ra).mp e)
      rw [decide_eq_false e]
      exact go _ s rfl (Aft.refl s) R (by simp [Rw, Rf])
  · exact go.elim
theorem ok_notN : Op2Ok K Wx (isN true) (fun x y H Q => y = .non ∧ Q (.bl (!decide (x = .non))) H) := by
  intro s a b x y Q R ra rb go
  unfold isN at go
  split at go
  · refine ⟨by simpa only [Rw, Rf] using rb, ?_⟩
    split at go
    · have e : x = .non := by simpa only [Rw, Rf] using ra
      rw [decide_eq_true e]
      exact go _ s rfl (Aft.refl s) R (by simp [Rw, Rf])
    · rename_i hn
      have e : ¬ x = .non := fun e => hn ((rf_non ra).mp e)
      rw [decide_eq_false e]
      exact go _ s rfl (Aft.refl s) R (by simp [Rw, Rf])
  · exact go.elim
theorem ok_isB : Op2Ok K Wx (isB false) rIsB := by
  intro s a b x y Q R ra rb go
  unfold isB at go
  split at go
  · simp only [Rw, Rf] at ra rb
    exact ⟨_, _, ra, rb, go _ s rfl (Aft.refl s) R (by simp [Rw, Rf])⟩
  · exact go.elim
theorem ok_notB : Op2Ok K Wx (isB true) rNotB := by
  intro s a b x y Q R ra rb go
  unfold isB at go
  split at go
  · simp only [Rw, Rf] at ra rb
    exact ⟨_, _, ra, rb, go _ s rfl (Aft.refl s) R (by simp [Rw, Rf])⟩
  · exact go.elim
theorem items_dp {s : S4} (R : Rel K s) {w : W} {v : V} {ys : List T} {n : Nat} (h : (items s.hp w).bind allT = some ys) (r : Rw K s w v) (f : fitL ys n = true) : Dp K s.H v (.list (datL ys)) ∨ Dp K s.H v (.tuple (datL ys)) := by
  rw [Option.bind_eq_some_iff] at h
  obtain ⟨ws, h1, h2⟩ := h
  obtain ⟨p, xs, e, q, l⟩ := items_sq R h1 r
  subst e
  rw [allT_eq h2] at l
  have d := RfL.dp ys xs n f (RwL.of_trees.mp l)
  rcases q with q | q
  · exact .inr (.tup q d)
  · exact .inl (.lst q d)
theorem any_dat {x : T} {n m : Nat} (fx : fit x n = true) : ∀ (ys : List T), fitL ys m = true → (datL ys).any (fun z => PyData.eqv z (dat x)) = ys.any fun y => eqT y x
  | [], _ => rfl
  | y :: ys, f => by
    simp only [fitL, Bool.and_eq_true] at f
    simp only [datL, List.any_cons, eqT_dat y x m n f.1 fx, any_dat fx ys f.2]
theorem ok_in {neg : Bool} : Op2Ok K Wx (inW neg) (rInP K neg) := by
  intro s a b x y Q R ra rb go
  unfold inW at go
  cases h1 : asT s.hp a with
  | none => simp only [h1] at go; exact go.elim
  | some u =>
    cases h2 : (items s.hp b).bind allT with
    | none => simp only [h1, h2] at go; exact go.elim
    | some ys =>
      simp only [h1, h2] at go
      split at go
      · rename_i hf
        have p1 := fit_plain u 60 hf.1
        have p2 := fit_plainL ys 60 hf.2
        refine ⟨dat u, datL ys, asT_dp R h1 ra hf.1, items_dp R h2 rb hf.2, p1.1, p2.1, p1.2, ?_⟩
        rw [any_dat hf.1 ys hf.2]
        exact go _ s rfl (Aft.refl s) R (by simp [Rw, Rf])
      · exact go.elim
end
section
variable {X : Cx} {Wx : WX} {a b c e : Expr} {Fa Fb Fc F : M W} {pos : Pos}
theorem ie_eq (hu : X.A.units + 64 < cLine) (ha : IE X Wx a Fa) (hb : IE X Wx b Fb) : IE X Wx (.Compare a [.Eq] [b] pos) (mBin (eqW false) Fa Fb) := ie_cmp (op_eqP hu) ok_eq ha hb (nomark _)
theorem ie_ne (hu : X.A.units + 64 < cLine) (ha : IE X Wx a Fa) (hb : IE X Wx b Fb) : IE X Wx (.Compare a [.NotEq] [b] pos) (mBin (eqW true) Fa Fb) := ie_cmp (op_neP hu) ok_ne ha hb (nomark _)
theorem it_eq (hu : X.A.units + 64 < cLine) (ha : IE X Wx a Fa) (hb : IE X Wx b Fb) : IT X Wx (.Compare a [.Eq] [b] pos) (mTest asB (mBin (eqW false) Fa Fb)) := it_cmp (op_eqP hu) ok_eq ha hb (nomark _)
theorem it_ne (hu : X.A.units + 64 < cLine) (ha : IE X Wx a Fa) (hb : IE X Wx b Fb) : IT X Wx (.Compare a [.NotEq] [b] pos) (mTest asB (mBin (eqW true) Fa Fb)) := it_cmp (op_neP hu) ok_ne ha hb (nomark _)
theorem ie_isN (ha : IE X Wx a Fa) (hb : IE X Wx b Fb) : IE X Wx (.Compare a [.Is] [b] pos) (mBin (isN false) Fa Fb) := ie_cmp op_isN ok_isN ha hb (nomark _)
theorem ie_notN (ha : IE X Wx a Fa) (hb : IE X Wx b Fb) : IE X Wx (.Compare a [.IsNot] [b] pos) (mBin (isN true) Fa Fb) := ie_cmp op_notN ok_notN ha hb (nomark _)
theorem it_isN (ha : IE X Wx a Fa) (hb : IE X Wx b Fb) : IT X Wx (.Compare a [.Is] [b] pos) (mTest asB (mBin (isN false) Fa Fb)) := it_cmp op_isN ok_isN ha hb (nomark _)
theorem it_notN (ha : IE X Wx a Fa) (hb : IE X Wx b Fb) : IT X Wx (.Compare a [.IsNot] [b] pos) (mTest asB (mBin (isN true) Fa Fb)) := it_cmp op_notN ok_notN ha hb (nomark _)
theorem ie_isB (ha : IE X Wx a Fa) (hb : IE X Wx b Fb) : IE X Wx (.Compare a [.Is] [b] pos) (mBin (isB false) Fa Fb) := ie_cmp op_isBl ok_isB ha hb (nomark _)
theorem it_isB (ha : IE X Wx a Fa) (hb : IE X Wx b Fb) : IT X Wx (.Compare a [.Is] [b] pos) (mTest asB (mBin (isB false) Fa Fb)) := it_cmp op_isBl ok_isB ha hb (nomark _)
theorem it_notB (ha : IE X Wx a Fa) (hb : IE X Wx b Fb) : IT X Wx (.Compare a [.IsNot] [b] pos) (mTest asB (mBin (isB true) Fa Fb)) := it_cmp op_notBl ok_notB ha hb (nomark _)
theorem ie_in (hu : X.A.units + 64 < cLine) (ha : IE X Wx a Fa) (hb : IE X Wx b Fb) (hm : behindInMarks .In b = false := by rfl) : IE X Wx (.Compare a [.In] [b] pos) (mBin (inW false) Fa Fb) := ie_cmp (op_inP hu) ok_in ha hb hm
theorem it_in (hu : X.A.units + 64 < cLine) (ha : IE X Wx a Fa) (hb : IE X Wx b Fb) (hm : behindInMarks .In b = false := by rfl) : IT X Wx (.Compare a [.In] [b] pos) (mTest asB (mBin (inW false) Fa Fb)) := it_cmp (op_inP hu) ok_in ha hb hm
theorem ie_nin (hu : X.A.units + 64 < cLine) (ha : IE X Wx a Fa) (hb : IE X Wx b Fb) (hm : behindInMarks .NotIn b = false := by rfl) : IE X Wx (.Compare a [.NotIn] [b] pos) (mBin (inW true) Fa Fb) := ie_cmp (op_ninP hu) ok_in ha hb hm
theorem it_nin (hu : X.A.units + 64 < cLine) (ha : IE X Wx a Fa) (hb : IE X Wx b Fb) (hm : behindInMarks .NotIn b = false := by rfl) : IT X Wx (.Compare a [.NotIn] [b] pos) (mTest asB (mBin (inW true) Fa Fb)) := it_cmp (op_ninP hu) ok_in ha hb hm
end

/-! ### subscripts -/
def ixW : Op2 := fun a b hp => match b with
  | .t (.int i) => (match a with
    | .t (.str z) => (match atI z.cps.toList i with | some c => if z.length ≤ 16777216 then .ok (.t (.str ⟨#[c]⟩)) hp else .bad | none => .bad)
    | a => (match (items hp a).bind fun ws => atI ws i with | some w => .ok w hp | none => .bad))
  | _ => .bad
section
variable {K : PySem.W.Frag} {Wx : WX}
theorem atI_rw {s : S4} {ws : List W} {vs : List V} {i : Int} {w : W} (l : RwL K s ws vs) (h : atI ws i = some w) : ∃ v, atI vs i = some v ∧ Rw K s w v := by
  unfold atI at h ⊢
  rw [Option.bind_eq_some_iff] at h
  obtain ⟨j, h1, h2⟩ := h
  obtain ⟨v, q1, q2⟩ := RwL.get l h2
  exact ⟨v, by rw [← RwL.length l, h1]; exact q1, q2⟩
theorem ok_ix : Op2Ok K Wx ixW (rIx K) := by
  intro s a b x y Q R ra rb go
  unfold ixW at go
  split at go
  · rename_i i
    have ey : y = .int i := by simpa only [Rw, Rf] using rb
    split at go
    · rename_i z
      have ex : x = .str z := by simpa only [Rw, Rf] using ra
      split at go
      · rename_i c hc
        split at go
        · rename_i hz
          exact .inr (.inr ⟨z, i, c, ex, ey, by rw [sizeLine_eq]; exact hz, hc, go _ s rfl (Aft.refl s) R (by simp [Rw, Rf])⟩)
        · exact go.elim
      · exact go.elim
    · split at go
      · rename_i w hw
        rw [Option.bind_eq_some_iff] at hw
        obtain ⟨ws, h1, h2⟩ := hw
        obtain ⟨p, xs, e, q, l⟩ := items_sq R h1 ra
        obtain ⟨v, h3, h4⟩ := atI_rw l h2
        rcases q with q | q
        · exact .inr (.inl ⟨p, xs, i, v, e, ey, q, h3, go _ s rfl (Aft.refl s) R h4⟩)
        · exact .inl ⟨p, xs, i, v, e, ey, q, h3, go _ s rfl (Aft.refl s) R h4⟩
      · exact go.elim
  · exact go.elim
end
section
variable {X : Cx} {Wx : WX} {a b c e : Expr} {Fa Fb Fc F : M W} {pos : Pos}
theorem ie_sub1 (ha : IE X Wx a Fa) (hb : IE X Wx b Fb) (hs : PlainIx b := by intro _ _; rfl) : IE X Wx (.Subscript a b pos) (mBin ixW Fa Fb) := ie_ix ix_seq ok_ix ha hb hs
end
/-! ### slices -/
abbrev MO := M (Option Int)
def mNoPart : MO := fun _ hp => .ok none hp
def mPart (F : M W) : MO := fun eta hp => (F eta hp).bind fun a h1 => match a with | .t (.int i) => .ok (some i) h1 | _ => .bad
def IO (X : Cx) (Wx : WX) (e : Option Expr) (F : MO) : Prop := PO X e (tM X.K Wx (fun _ (a b : Option Int) => a = b) F)
def cutL {A : Type} (xs : List A) (lo hi : Option Int) : List A := (xs.drop (HT.sIx xs.length 0 lo)).take (HT.sIx xs.length xs.length hi - HT.sIx xs.length 0 lo)
/-- a slice: of a frozen list a frozen one, of a live list a frozen one -/
def slW (a : W) (lo hi : Option Int) (hp : IH) : Res W := match a with
  | .t (.str z) => if z.length ≤ 16777216 then .ok (.t (.str (cutS z lo hi))) hp else .bad
  | .t (.tup ts) => .ok (.t (.tup (cutL ts lo hi))) hp
  | .t (.lst ts) => .ok (.t (.lst (cutL ts lo hi))) hp
  | .t (.scr ts) => .ok (.t (.lst (cutL ts lo hi))) hp
  | .r i => (match (getL hp i).bind allT with | some ts => .ok (.t (.lst (cutL ts lo hi))) hp | none => .bad)
  | _ => .bad
def mSl (Fa : M W) (Fl Fh : MO) : M W := fun eta hp => (Fa eta hp).bind fun a h1 => (Fl eta h1).bind fun l h2 => (Fh eta h2).bind fun h h3 => slW a l h h3
section
variable {X : Cx} {Wx : WX} {a b c e : Expr} {lo hi : Option Expr} {Fa Fb Fc F : M W} {Fl Fh : MO} {pos p2 : Pos}
theorem PO.imp {e : Option Expr} {t t' : TO} (h : PO X e t) (i : ∀ σ H Q, t' σ H Q → t σ H Q) : PO X e t' := ⟨fun pins s σ H Q I hw => h.run pins s σ H Q I (i _ _ _ hw)⟩
theorem io_none : IO X Wx none mNoPart := PO.imp po_none fun σ H Q h => by
  obtain ⟨s, eta, e1, R1, S1, g⟩ := h
  subst e1
  exact g none s rfl (Aft.refl s) R1 rfl
theorem io_some (h : IE X Wx e F) : IO X Wx (some e) (mPart F) := PO.imp (po_some h) fun σ H Q h =>
  tM.bind1 (R := fun (x : V) (H1 : Hp) => ∃ i, x = .int i ∧ Q (some i) H1) (k := fun (a : W) _ h1 => (match a with | .t (.int i) => .ok (some i) h1 | _ => .bad : Res (Option Int))) h fun s eta a b R1 _ f1 g => by
    split at g
    · rename_i i
      simp only [Rw, Rf] at f1
      exact ⟨i, f1, g (some i) s rfl (Aft.refl s) R1 rfl⟩
    · exact g.elim
theorem cut_rf {K : PySem.W.Frag} {s : S4} : ∀ {ts : List T} {vs : List V} (n m : Nat), RfL K s.fz s.H ts vs → RfL K s.fz s.H ((ts.drop n).take m) ((vs.drop n).take m) := by
  intro ts vs n
  induction n generalizing ts vs with
  | zero =>
    intro m
    induction m generalizing ts vs with
    | zero => intro _; simp [RfL]
    | succ m ih =>
      intro h
      cases ts with
      | nil => simp only [RfL] at h; subst h; simp [RfL]
      | cons t ts =>
        simp only [RfL] at h
        obtain ⟨v, r, e, a, b⟩ := h
        subst e
        simp only [List.drop_zero, List.take_succ_cons, RfL]
        exact ⟨v, _, rfl, a, by simpa using ih b⟩
  | succ n ih =>
    intro m h
    cases ts with
    | nil => simp only [RfL] at h; subst h; simp [RfL]
    | cons t ts =>
      simp only [RfL] at h
      obtain ⟨v, r, e, a, b⟩ := h
      subst e
      simpa using ih m b
theorem cutL_rf {K : PySem.W.Frag} {s : S4} {ts : List T} {vs : List V} (lo hi : Option Int) (h : RfL K s.fz s.H ts vs) : RfL K s.fz s.H (cutL ts lo hi) (cutV vs lo hi) := by
  unfold cutL cutV
  rw [RfL.length h]
  exact cut_rf _ _ h
theorem cutL_whole {A : Type} {ts : List A} {lo hi : Option Int} (h : HT.sIx ts.length 0 lo = 0 ∧ HT.sIx ts.length ts.length hi = ts.length) : cutL ts lo hi = ts := by
  unfold cutL
  rw [h.1, h.2]
  simp
theorem SlR.or3 {r1 r2 r3 : V → Option Int → Option Int → Hp → VK → Prop} (h1 : SlR X r1) (h2 : SlR X r2) (h3 : SlR X r3) : SlR X (fun x lo hi H Q => r1 x lo hi H Q ∨ (r2 x lo hi H Q ∨ r3 x lo hi H Q)) := h1.or (h2.or h3)
/-- t[lo:hi]: the whole of it is t itself; the object of a new one is known -/
def rSlB (K : PySem.W.Frag) : V → Option Int → Option Int → Hp → VK → Prop := fun x l u H Q => ∃ a xs, x = .ref a ∧ SqT K H a xs ∧
  (HT.sIx xs.length 0 l = 0 ∧ HT.sIx xs.length xs.length u = xs.length → Q (.ref a) H) ∧
  (¬ (HT.sIx xs.length 0 l = 0 ∧ HT.sIx xs.length xs.length u = xs.length) → ∀ (p : Addr) (o : Obj), H p = none → o.dict = none → Q (.ref p) (upd H p (.frz o (.tup (cutV xs l u)))))
theorem sl_tupB : SlR X (rSlB X.K) := by
  intro pn s0 σ H x v vl vu l u sl Q J rx hs pl pu h
  obtain ⟨a, xs, ex, hx, q1, q2⟩ := h
  subst ex
  cases rx
  obtain ⟨its, r, ht, hz⟩ := J.tuple hx
  have hlen : its.toArray.size = xs.length := by rw [List.size_toArray]; exact r.length.symm
  by_cases hw : HT.sIx xs.length 0 l = 0 ∧ HT.sIx xs.length xs.length u = xs.length
  · exact ⟨"tuple", _, PyProof.Rows.slot_tuple_getitem.lookup, ht.typeIs, getItem_tuple_whole ht hs pl pu (by rw [hlen]; exact hw) ⟨.ref a, H, J, rfl, q1 hw⟩⟩
  · refine ⟨"tuple", _, PyProof.Rows.slot_tuple_getitem.lookup, ht.typeIs, HT.getItem_tuple_cut ht hs pl pu (by rw [hlen]; exact hw) ?_ (by rw [hlen]; exact hz)⟩
    rw [hlen]
    exact laid_tup (t' := s0.toks) J ((r.drop (HT.sIx xs.length 0 l)).take (HT.sIx xs.length xs.length u - HT.sIx xs.length 0 l)) (Nat.le_trans (cutV_length xs l u) hz) (q2 hw)
theorem ie_slice (ha : IE X Wx a Fa) (hl : IO X Wx lo Fl) (hh : IO X Wx hi Fh) : IE X Wx (.Subscript a (.Slice lo hi none p2) pos) (mSl Fa Fl Fh) :=
  PE.imp (pe_slice (SlR.or3 sl_list sl_tupB sl_str) ha hl hh) fun σ H Q h =>
    tM.bind1 (R := fun (x : V) (H1 : Hp) => tM X.K Wx (fun _ (a b : Option Int) => a = b) Fl σ H1 fun l H2 => tM X.K Wx (fun _ (a b : Option Int) => a = b) Fh σ H2 fun u H3 => rSlL X.K x l u H3 Q ∨ (rSlB X.K x l u H3 Q ∨ rSlS x l u H3 Q))
      (k := fun (w : W) eta h1 => (Fl eta h1).bind fun l h2 => (Fh eta h2).bind fun h h3 => slW w l h h3) h fun s eta w v R1 S1 f1 g => by
      refine ⟨s, eta, rfl, R1, S1, Go.bind g fun l l' s2 A2 R2 e2 _ g2 => ?_⟩
      subst e2
      refine ⟨s2, eta, rfl, R2, S1.aft A2 R1, Go.bind g2 fun u u' s3 A3 R3 e3 _ g3 => ?_⟩
      subst e3
      have f3 := (f1.aft A2 R1).aft A3 R2
      unfold slW at g3
      split at g3
      · rename_i z
        split at g3
        · rename_i hz
          simp only [Rw, Rf] at f3
          exact .inr (.inr ⟨z, f3, by rw [sizeLine_eq]; exact hz, g3 _ s3 rfl (Aft.refl s3) R3 (by simp [Rw, Rf])⟩)
        · exact g3.elim
      · rename_i ts
        obtain ⟨p, xs, e, t, q⟩ : ∃ a vs, v = .ref a ∧ FTup X.K s3.fz s3.H a vs ∧ RfL X.K s3.fz s3.H ts vs := by simpa only [Rw, Rf] using f3
        have hl := RfL.length q
        refine .inr (.inl ⟨p, xs, e, t.sq, fun hw => ?_, fun hw p' o np d => ?_⟩)
        · refine g3 (.ref p) s3 rfl (Aft.refl s3) R3 ?_
          rw [← hl] at hw
          rw [cutL_whole hw]
          simp only [Rw, Rf]
          exact ⟨p, xs, rfl, t, q⟩
        · exact g3 (.ref p') (s3.addF p' (.frz o (.tup (cutV xs l u)))) rfl (aft_addF R3 np) (rel_addF R3 np) (addF_tup R3 np d (cutL_rf l u q))
      · rename_i ts
        obtain ⟨p, xs, e, t, q⟩ : ∃ a vs, v = .ref a ∧ FLst s3.fz s3.H a vs ∧ RfL X.K s3.fz s3.H ts vs := by simpa only [Rw, Rf] using f3
        exact .inl ⟨p, xs, e, t.sq, fun p' np => g3 (.ref p') (s3.addF p' (.lst (cutV xs l u))) rfl (aft_addF R3 np) (rel_addF R3 np) (addF_lst R3 np (cutL_rf l u q))⟩
      · rename_i ts
        obtain ⟨p, xs, e, t, q⟩ : ∃ a vs, v = .ref a ∧ FScr X.K s3.fz s3.H a vs ∧ RfL X.K s3.fz s3.H ts vs := by simpa only [Rw, Rf] using f3
        exact .inl ⟨p, xs, e, t.sq, fun p' np => g3 (.ref p') (s3.addF p' (.lst (cutV xs l u))) rfl (aft_addF R3 np) (rel_addF R3 np) (addF_lst R3 np (cutL_rf l u q))⟩
      · rename_i i
        split at g3
        · rename_i ts hq
          rw [Option.bind_eq_some_iff] at hq
          obtain ⟨ws, h1, h2⟩ := hq
          obtain ⟨p, xs, e', _, e2, l', _⟩ := R3.lst h1 f3
          rw [allT_eq h2] at l'
          exact .inl ⟨p, xs, e', .inl (.inl e2), fun p' np => g3 (.ref p') (s3.addF p' (.lst (cutV xs l u))) rfl (aft_addF R3 np) (rel_addF R3 np) (addF_lst R3 np (cutL_rf l u (RwL.of_trees.mp l')))⟩
        · exact g3.elim
      · exact g3.elim
end
end Mir

/-! Mir6: calls of built-in functions, methods of lists and tuples. -/
namespace Mir
open PySem PySem.Spec L2
open PyProof.Rows hiding St

/-! ### lists of one kind -/
def litems (hp : IH) : W → Option (List W)
  | .t (.lst xs) => some (xs.map W.t)
  | .t (.scr xs) => some (xs.map W.t)
  | .t _ => none
  | .r i => getL hp i
def asI : W → Option Int | .t (.int i) => some i | _ => none
def asBl : W → Option Bool | .t (.bl b) => some b | _ => none
def asS : W → Option Str | .t (.str b) => some b | _ => none
def allW {A : Type} (f : W → Option A) : List W → Option (List A)
  | [] => some []
  | w :: ws => (f w).bind fun a => (allW f ws).map fun r => a :: r
section
variable {K : PySem.W.Frag} {s : S4}
theorem litems_sq (R : Rel K s) {w : W} {v : V} {ws : List W} (h : litems s.hp w = some ws) (r : Rw K s w v) : ∃ p xs, v = .ref p ∧ SqL K s.H p xs ∧ RwL K s ws xs := by
  unfold litems at h
  split at h
  · simp only [Option.some.injEq] at h
    subst h
    obtain ⟨p, xs, e, t, q⟩ : ∃ a vs, v = .ref a ∧ FLst s.fz s.H a vs ∧ RfL K s.fz s.H _ vs := by simpa only [Rw, Rf] using r
    exact ⟨p, xs, e, t.sq, RwL.of_trees.mpr q⟩
  · simp only [Option.some.injEq] at h
    subst h
    obtain ⟨p, xs, e, t, q⟩ : ∃ a vs, v = .ref a ∧ FScr K s.fz s.H a vs ∧ RfL K s.fz s.H _ vs := by simpa only [Rw, Rf] using r
    exact ⟨p, xs, e, t.sq, RwL.of_trees.mpr q⟩
  · cases h
  · obtain ⟨a, vs, e, _, e2, l, _⟩ := R.lst h r
    exact ⟨a, vs, e, .inl (.inl e2), l⟩
theorem allI_eq : ∀ {ws : List W} {ns : List Int} {vs : List V}, allW asI ws = some ns → RwL K s ws vs → vs = ns.map V.int
  | [], ns, vs, h, r => by
    simp only [allW, Option.some.injEq] at h
    subst h
    exact r
  | w :: ws, ns, vs, h, r => by
    simp only [allW, Option.bind_eq_some_iff, Option.map_eq_some_iff] at h
    obtain ⟨a, h1, m, h2, h3⟩ := h
    subst h3
    obtain ⟨v, t, e, rv, rt⟩ := r
    subst e
    rw [allI_eq h2 rt]
    unfold asI at h1
    split at h1
    · simp only [Option.some.injEq] at h1
      subst h1
      simp only [Rw, Rf] at rv
      rw [rv]; rfl
    · cases h1
theorem allB_eq : ∀ {ws : List W} {ns : List Bool} {vs : List V}, allW asBl ws = some ns → RwL K s ws vs → vs = ns.map V.bl
  | [], ns, vs, h, r => by
    simp only [allW, Option.some.injEq] at h
    subst h
    exact r
  | w :: ws, ns, vs, h, r => by
    simp only [allW, Option.bind_eq_some_iff, Option.map_eq_some_iff] at h
    obtain ⟨a, h1, m, h2, h3⟩ := h
    subst h3
    obtain ⟨v, t, e, rv, rt⟩ := r
    subst e
    rw [allB_eq h2 rt]
    unfold asBl at h1
    split at h1
    · simp only [Option.some.injEq] at h1
      subst h1
      simp only [Rw, Rf] at rv
      rw [rv]; rfl
    · cases h1
theorem allS_eq : ∀ {ws : List W} {ns : List Str} {vs : List V}, allW asS ws = some ns → RwL K s ws vs → vs = ns.map V.str
  | [], ns, vs, h, r => by
    simp only [allW, Option.some.injEq] at h
    subst h
    exact r
  | w :: ws, ns, vs, h, r => by
    simp only [allW, Option.bind_eq_some_iff, Option.map_eq_some_iff] at h
    obtain ⟨a, h1, m, h2, h3⟩ := h
    subst h3
    obtain ⟨v, t, e, rv, rt⟩ := r
    subst e
    rw [allS_eq h2 rt]
    unfold asS at h1
    split at h1
    · simp only [Option.some.injEq] at h1
      subst h1
      simp only [Rw, Rf] at rv
      rw [rv]; rfl
    · cases h1
theorem RwL.one {w : W} {vs : List V} (r : RwL K s [w] vs) : ∃ v, vs = [v] ∧ Rw K s w v := by
  obtain ⟨v, t, e, a, b⟩ := r
  rw [show t = [] from b] at e
  exact ⟨v, e, a⟩
theorem RwL.two {w u : W} {vs : List V} (r : RwL K s [w, u] vs) : ∃ v x, vs = [v, x] ∧ Rw K s w v ∧ Rw K s u x := by
  obtain ⟨v, t, e, a, b⟩ := r
  obtain ⟨x, e2, b2⟩ := RwL.one b
  exact ⟨v, x, by rw [e, e2], a, b2⟩
/-- ints, texts, as trees -/
theorem ints_rf {fz : Addr → Prop} {H : Hp} : ∀ ns : List Int, RfL K fz H (ns.map T.int) (ns.map V.int)
  | [] => by simp [RfL]
  | n :: ns => by simp only [List.map_cons, RfL]; exact ⟨_, _, rfl, by simp [Rf], ints_rf ns⟩
theorem strs_rf {fz : Addr → Prop} {H : Hp} : ∀ ns : List Str, RfL K fz H (ns.map T.str) (ns.map V.str)
  | [] => by simp [RfL]
  | n :: ns => by simp only [List.map_cons, RfL]; exact ⟨_, _, rfl, by simp [Rf], strs_rf ns⟩
end

/-! ### sorting, told plainly -/
def insI (x : Int) : List Int → List Int
  | [] => [x]
  | y :: ys => if x ≤ y then x :: y :: ys else y :: insI x ys
def srtI : List Int → List Int
  | [] => []
  | x :: xs => insI x (srtI xs)
theorem insI_perm (x : Int) : ∀ ys, (insI x ys).Perm (x :: ys)
  | [] => .refl _
  | y :: ys => by
    unfold insI
    split
    · exact .refl _
    · exact ((insI_perm x ys).cons y).trans (.swap x y ys)
theorem srtI_perm : ∀ xs, (srtI xs).Perm xs
  | [] => .refl _
  | x :: xs => (insI_perm x _).trans ((srtI_perm xs).cons x)
theorem insI_sorted (x : Int) : ∀ ys : List Int, ys.Pairwise (· ≤ ·) → (insI x ys).Pairwise (· ≤ ·)
  | [], _ => by simp [insI]
  | y :: ys, h => by
    unfold insI
    rw [List.pairwise_cons] at h
    split
    · rename_i hxy
      refine List.pairwise_cons.mpr ⟨fun z hz => ?_, List.pairwise_cons.mpr h⟩
      rcases List.mem_cons.mp hz with hz | hz
      · omega
      · have := h.1 z hz; omega
    · rename_i hxy
      refine List.pairwise_cons.mpr ⟨fun z hz => ?_, insI_sorted x ys h.2⟩
      rcases List.mem_cons.mp ((insI_perm x ys).mem_iff.mp hz) with hz | hz
      · omega
      · exact h.1 z hz
theorem srtI_sorted : ∀ xs, (srtI xs).Pairwise (· ≤ ·)
  | [] => .nil
  | x :: xs => insI_sorted x _ (srtI_sorted xs)
theorem srtI_unique {ns ns' : List Int} (p : ns'.Perm ns) (h : ns'.Pairwise (· ≤ ·)) : ns' = srtI ns :=
  (p.trans (srtI_perm ns).symm).eq_of_pairwise (fun a b _ _ h1 h2 => by omega) h (srtI_sorted ns)
/-- texts by order -/
def sle (a b : Str) : Bool := !ltCps b.cps.toList a.cps.toList
def insS (x : Str) : List Str → List Str
  | [] => [x]
  | y :: ys => if sle x y then x :: y :: ys else y :: insS x ys
def srtS : List Str → List Str
  | [] => []
  | x :: xs => insS x (srtS xs)
theorem ltCps_irr : ∀ a : List Nat, ltCps a a = false
  | [] => rfl
  | a :: r => by simp [ltCps, ltCps_irr r]
theorem ltCps_trans : ∀ a b c : List Nat, ltCps a b = true → ltCps b c = true → ltCps a c = true
  | [], [], _, h, _ => by simp [ltCps] at h
  | [], _ :: _, [], _, h => by simp [ltCps] at h
  | [], _ :: _, _ :: _, _, _ => rfl
  | _ :: _, [], _, h, _ => by simp [ltCps] at h
  | _ :: _, _ :: _, [], _, h => by simp [ltCps] at h
  | a :: r, b :: t, c :: u, h1, h2 => by
    simp only [ltCps, Bool.or_eq_true, Bool.and_eq_true, decide_eq_true_eq, beq_iff_eq] at h1 h2 ⊢
    rcases h1 with h1 | ⟨h1, h1'⟩ <;> rcases h2 with h2 | ⟨h2, h2'⟩
    · left; omega
    · left; omega
    · left; omega
    · right; exact ⟨by omega, ltCps_trans r t u h1' h2'⟩
theorem ltCps_tri : ∀ a b : List Nat, ltCps a b = false → ltCps b a = false → a = b
  | [], [], _, _ => rfl
  | [], _ :: _, h, _ => by simp [ltCps] at h
  | _ :: _, [], _, h => by simp [ltCps] at h
  | a :: r, b :: t, h1, h2 => by
    simp only [ltCps, Bool.or_eq_false_iff, decide_eq_false_iff_not, Bool.and_eq_false_iff, beq_eq_false_iff_ne] at h1 h2
    have e : a = b := by omega
    subst e
    rw [ltCps_tri r t (h1.2.resolve_left fun z => z rfl) (h2.2.resolve_left fun z => z rfl)]
theorem sle_total {a b : Str} (h : ¬ sle a b = true) : sle b a = true := by
  unfold sle at h ⊢
  simp only [Bool.not_eq_true', Bool.not_eq_false] at h ⊢
  cases q : ltCps a.cps.toList b.cps.toList with
  | false => rfl
  | true =>
    have z := ltCps_trans _ _ _ q h
    rw [ltCps_irr] at z
    cases z
theorem sle_trans {a b c : Str} (h1 : sle a b = true) (h2 : sle b c = true) : sle a c = true := by
  unfold sle at *
  simp only [Bool.not_eq_true'] at *
  cases q : ltCps c.cps.toList a.cps.toList with
  | false => rfl
  | true =>
    cases q2 : ltCps b.cps.toList c.cps.toList with
    | true => rw [ltCps_trans _ _ _ q2 q] at h1; cases h1
    | false => rw [ltCps_tri _ _ q2 h2, q] at h1; cases h1
theorem sle_anti {a b : Str} (h1 : sle a b = true) (h2 : sle b a = true) : a = b := by
  unfold sle at *
  simp only [Bool.not_eq_true'] at *
  have := ltCps_tri _ _ h2 h1
  cases a; cases b
  simp only [Str.mk.injEq] at *
  exact Array.toList_inj.mp this
theorem insS_perm (x : Str) : ∀ ys, (insS x ys).Perm (x :: ys)
  | [] => .refl _
  | y :: ys => by
    unfold insS
    split
    · exact .refl _
    · exact ((insS_perm x ys).cons y).trans (.swap x y ys)
theorem srtS_perm : ∀ xs, (srtS xs).Perm xs
  | [] => .refl _
  | x :: xs => (insS_perm x _).trans ((srtS_perm xs).cons x)
theorem insS_sorted (x : Str) : ∀ ys : List Str, ys.Pairwise (fun a b => sle a b = true) → (insS x ys).Pairwise (fun a b => sle a b = true)
  | [], _ => by simp [insS]
  | y :: ys, h => by
    unfold insS
    rw [List.pairwise_cons] at h
    split
    · rename_i hxy
      refine List.pairwise_cons.mpr ⟨fun z hz => ?_, List.pairwise_cons.mpr h⟩
      rcases List.mem_cons.mp hz with hz | hz
      · subst hz; exact hxy
      · exact sle_trans hxy (h.1 z hz)
    · rename_i hxy
      refine List.pairwise_cons.mpr ⟨fun z hz => ?_, insS_sorted x ys h.2⟩
      rcases List.mem_cons.mp ((insS_perm x ys).mem_iff.mp hz) with hz | hz
      · subst hz; exact sle_total hxy
      · exact h.1 z hz
theorem srtS_sorted : ∀ xs, (srtS xs).Pairwise (fun a b => sle a b = true)
  | [] => .nil
  | x :: xs => insS_sorted x _ (srtS_sorted xs)
theorem risingS_le : ∀ (p : Str) (l : List Str), risingS p l = true → (p :: l).Pairwise (fun a b => sle a b = true)
  | p, [], _ => by simp
  | p, x :: r, h => by
    simp only [risingS, Bool.and_eq_true] at h
    have ih := risingS_le x r h.2
    refine List.pairwise_cons.mpr ⟨fun z hz => ?_, ih⟩
    have hx : sle p x = true := h.1
    rcases List.mem_cons.mp hz with hz | hz
    · subst hz; exact hx
    · exact sle_trans hx ((List.pairwise_cons.mp ih).1 z hz)
theorem srtS_unique {ns ns' : List Str} (p : ns'.Perm ns) (h : sortedS ns' = true) : ns' = srtS ns := by
  have h' : ns'.Pairwise (fun a b => sle a b = true) := by
    cases ns' with
    | nil => exact .nil
    | cons x r => exact risingS_le x r h
  exact (p.trans (srtS_perm ns).symm).eq_of_pairwise (fun a b _ _ h1 h2 => sle_anti h1 h2) h' (srtS_sorted ns)

/-! ### built-in functions by values -/
def oLen : OpN := fun ws hp => match ws with
  | [.t (.str z)] => if z.length ≤ 16777216 then .ok (.t (.int z.length)) hp else .bad
  | [w] => (match items hp w with | some xs => .ok (.t (.int xs.length)) hp | none => .bad)
  | _ => .bad
def oInt : OpN := fun ws hp => match ws with
  | [.t (.int i)] => .ok (.t (.int i)) hp
  | [.t (.bl b)] => .ok (.t (.int (if b then 1 else 0))) hp
  | _ => .bad
def oAbs : OpN := fun ws hp => match ws with
  | [.t (.int i)] => .ok (.t (.int (if i < 0 then -i else i))) hp
  | _ => .bad
def oMax2 : OpN := fun ws hp => match ws with
  | [.t (.int i), .t (.int j)] => .ok (.t (.int (if j > i then j else i))) hp
  | _ => .bad
def oMin2 : OpN := fun ws hp => match ws with
  | [.t (.int i), .t (.int j)] => .ok (.t (.int (if j < i then j else i))) hp
  | _ => .bad
def oOnL {A : Type} (f : W → Option A) (g : List A → IH → Res W) : OpN := fun ws hp => match ws with
  | [w] => (match (litems hp w).bind (allW f) with | some ns => g ns hp | none => .bad)
  | _ => .bad
abbrev oSum : OpN := oOnL asI fun ns hp => .ok (.t (.int ns.sum)) hp
abbrev oAny : OpN := oOnL asBl fun bs hp => .ok (.t (.bl (bs.any id))) hp
abbrev oAll : OpN := oOnL asBl fun bs hp => .ok (.t (.bl (bs.all id))) hp
abbrev oMaxL : OpN := oOnL asI fun ns hp => match ns.max? with | some m => .ok (.t (.int m)) hp | none => .bad
abbrev oMinL : OpN := oOnL asI fun ns hp => match ns.min? with | some m => .ok (.t (.int m)) hp | none => .bad
abbrev oSortI : OpN := oOnL asI fun ns hp => .ok (.t (.lst ((srtI ns).map T.int))) hp
abbrev oSortS : OpN := oOnL asS fun ns hp => if ns.length < 64 then .ok (.t (.lst ((srtS ns).map T.str))) hp else .bad
def oListF : OpN := fun ws hp => match ws with
  | [w] => (match (items hp w).bind allT with | some ts => .ok (.t (.lst ts)) hp | none => .bad)
  | _ => .bad
def oListL : OpN := fun ws hp => match ws with
  | [w] => (match items hp w with | some xs => .ok (.r hp.length) (hp ++ [some (.lst xs)]) | none => .bad)
  | _ => .bad
def oTup : OpN := fun ws hp => match ws with
  | [.t (.tup ts)] => .ok (.t (.tup ts)) hp
  | [w] => (match (litems hp w).bind allT with | some ts => .ok (.t (.tup ts)) hp | none => .bad)
  | _ => .bad
def oStr : OpN := fun ws hp => match ws with
  | [.t (.str z)] => .ok (.t (.str z)) hp
  | [.t (.int i)] => if i.natAbs.log2 < 1920 then .ok (.t (.str (toString i))) hp else .bad
  | _ => .bad
section
variable {K : PySem.W.Frag} {Wx : WX}
theorem ok_len : OpNOk K Wx oLen (fun xs H Q => ∃ x n, xs = [x] ∧ LenV K x H n ∧ Q (.int n) H) := by
  intro s ws xs Q R r go
  unfold oLen at go
  split at go
  · obtain ⟨v, e, rv⟩ := RwL.one r
    subst e
    simp only [Rw, Rf] at rv
    subst rv
    split at go
    · rename_i hz
      exact ⟨_, _, rfl, ⟨by rw [sizeLine_eq]; exact hz, rfl⟩, go _ s rfl (Aft.refl s) R (by simp [Rw, Rf])⟩
    · exact go.elim
  · obtain ⟨v, e, rv⟩ := RwL.one r
    subst e
    split at go
    · rename_i ys hi
      obtain ⟨p, zs, e, q, l⟩ := items_sq R hi rv
      subst e
      refine ⟨_, zs.length, rfl, ?_, by rw [← RwL.length l]; exact go _ s rfl (Aft.refl s) R (by simp [Rw, Rf])⟩
      rcases q with q | q
      · exact .inr ⟨zs, q, rfl⟩
      · exact .inl ⟨zs, q, rfl⟩
    · exact go.elim
  · exact go.elim
theorem ok_int : OpNOk K Wx oInt (fun xs H Q => (∃ i, xs = [.int i] ∧ Q (.int i) H) ∨ ∃ k, xs = [.bl k] ∧ Q (.int (if k then 1 else 0)) H) := by
  intro s ws xs Q R r go
  unfold oInt at go
  split at go
  · obtain ⟨v, e, rv⟩ := RwL.one r
    simp only [Rw, Rf] at rv
    subst e rv
    exact .inl ⟨_, rfl, go _ s rfl (Aft.refl s) R (by simp [Rw, Rf])⟩
  · obtain ⟨v, e, rv⟩ := RwL.one r
    simp only [Rw, Rf] at rv
    subst e rv
    exact .inr ⟨_, rfl, go _ s rfl (Aft.refl s) R (by simp [Rw, Rf])⟩
  · exact go.elim
theorem ok_abs : OpNOk K Wx oAbs (fun xs H Q => ∃ i, xs = [.int i] ∧ Q (.int (if i < 0 then -i else i)) H) := by
  intro s ws xs Q R r go
  unfold oAbs at go
  split at go
  · obtain ⟨v, e, rv⟩ := RwL.one r
    simp only [Rw, Rf] at rv
    subst e rv
    exact ⟨_, rfl, go _ s rfl (Aft.refl s) R (by simp [Rw, Rf])⟩
  · exact go.elim
theorem ok_max2 : OpNOk K Wx oMax2 (fun xs H Q => ∃ i j, xs = [.int i, .int j] ∧ Q (.int (if j > i then j else i)) H) := by
  intro s ws xs Q R r go
  unfold oMax2 at go
  split at go
  · obtain ⟨v, u, e, rv, ru⟩ := RwL.two r
    simp only [Rw, Rf] at rv ru
    subst e rv ru
    exact ⟨_, _, rfl, go _ s rfl (Aft.refl s) R (by simp [Rw, Rf])⟩
  · exact go.elim
theorem ok_min2 : OpNOk K Wx oMin2 (fun xs H Q => ∃ i j, xs = [.int i, .int j] ∧ Q (.int (if j < i then j else i)) H) := by
  intro s ws xs Q R r go
  unfold oMin2 at go
  split at go
  · obtain ⟨v, u, e, rv, ru⟩ := RwL.two r
    simp only [Rw, Rf] at rv ru
    subst e rv ru
    exact ⟨_, _, rfl, go _ s rfl (Aft.refl s) R (by simp [Rw, Rf])⟩
  · exact go.elim
theorem onL {A : Type} {f : W → Option A} {g : List A → IH → Res W} {s : S4} {ws : List W} {xs : List V} {Q : VK} (R : Rel K s) (r : RwL K s ws xs) (go : Go K Wx (Rw K) s (oOnL f g ws s.hp) Q) :
    ∃ p zs ys ns, xs = [V.ref p] ∧ SqL K s.H p zs ∧ RwL K s ys zs ∧ allW f ys = some ns ∧ Go K Wx (Rw K) s (g ns s.hp) Q := by
  unfold oOnL at go
  split at go
  · obtain ⟨v, e, rv⟩ := RwL.one r
    split at go
    · rename_i ns hn
      rw [Option.bind_eq_some_iff] at hn
      obtain ⟨ys, h1, h2⟩ := hn
      obtain ⟨p, zs, ev, q, l⟩ := litems_sq R h1 rv
      subst e ev
      exact ⟨p, zs, ys, ns, rfl, q, l, h2, go⟩
    · exact go.elim
  · exact go.elim
theorem ok_sum : OpNOk K Wx oSum (rSum K) := by
  intro s ws xs Q R r go
  obtain ⟨p, zs, ys, ns, e, q, l, h, go⟩ := onL R r go
  rw [allI_eq h l] at q
  exact ⟨p, ns, e, q, go _ s rfl (Aft.refl s) R (by simp [Rw, Rf])⟩
theorem ok_any : OpNOk K Wx oAny (rAny K) := by
  intro s ws xs Q R r go
  obtain ⟨p, zs, ys, ns, e, q, l, h, go⟩ := onL R r go
  rw [allB_eq h l] at q
  exact ⟨p, ns, e, q, go _ s rfl (Aft.refl s) R (by simp [Rw, Rf])⟩
theorem ok_all : OpNOk K Wx oAll (rAll K) := by
  intro s ws xs Q R r go
  obtain ⟨p, zs, ys, ns, e, q, l, h, go⟩ := onL R r go
  rw [allB_eq h l] at q
  exact ⟨p, ns, e, q, go _ s rfl (Aft.refl s) R (by simp [Rw, Rf])⟩
theorem ok_maxL : OpNOk K Wx oMaxL (rMax K) := by
  intro s ws xs Q R r go
  obtain ⟨p, zs, ys, ns, e, q, l, h, go⟩ := onL R r go
  rw [allI_eq h l] at q
  split at go
  · rename_i m hm
    refine ⟨p, ns, e, q, ?_, fun m' h1 h2 => ?_⟩
    · cases ns with
      | nil => simp at hm
      | cons _ _ => exact Nat.succ_pos _
    · have hm' : m' = m := by
        have := List.max?_eq_some_iff.mp hm
        have a := this.2 m' h1
        have b := h2 m this.1
        omega
      subst hm'
      exact go _ s rfl (Aft.refl s) R (by simp [Rw, Rf])
  · exact go.elim
theorem ok_minL : OpNOk K Wx oMinL (rMin K) := by
  intro s ws xs Q R r go
  obtain ⟨p, zs, ys, ns, e, q, l, h, go⟩ := onL R r go
  rw [allI_eq h l] at q
  split at go
  · rename_i m hm
    refine ⟨p, ns, e, q, ?_, fun m' h1 h2 => ?_⟩
    · cases ns with
      | nil => simp at hm
      | cons _ _ => exact Nat.succ_pos _
    · have hm' : m' = m := by
        have := List.min?_eq_some_iff.mp hm
        have a := this.2 m' h1
        have b := h2 m this.1
        omega
      subst hm'
      exact go _ s rfl (Aft.refl s) R (by simp [Rw, Rf])
  · exact go.elim
theorem ok_sortI : OpNOk K Wx oSortI (rSortedI K) := by
  intro s ws xs Q R r go
  obtain ⟨p, zs, ys, ns, e, q, l, h, go⟩ := onL R r go
  rw [allI_eq h l] at q
  refine ⟨p, ns, e, q, fun ns' p' hp hs np => ?_⟩
  have := srtI_unique hp hs
  subst this
  exact go (.ref p') (s.addF p' (.lst ((srtI ns).map V.int))) rfl (aft_addF R np) (rel_addF R np) (addF_lst R np (ints_rf _))
theorem ok_sortS : OpNOk K Wx oSortS (rSortedS K) := by
  intro s ws xs Q R r go
  obtain ⟨p, zs, ys, ns, e, q, l, h, go⟩ := onL R r go
  rw [allS_eq h l] at q
  split at go
  · rename_i hn
    refine ⟨p, ns, e, q, hn, fun ns' p' hp hs np => ?_⟩
    have := srtS_unique hp hs
    subst this
    exact go (.ref p') (s.addF p' (.lst ((srtS ns).map V.str))) rfl (aft_addF R np) (rel_addF R np) (addF_lst R np (strs_rf _))
  · exact go.elim
theorem ok_listF : OpNOk K Wx oListF (fun xs H Q => ∃ p ys, xs = [.ref p] ∧ (SqL K H p ys ∨ SqT K H p ys) ∧ ∀ l, H l = none → Q (.ref l) (upd H l (.lst ys))) := by
  intro s ws xs Q R r go
  unfold oListF at go
  split at go
  · obtain ⟨v, e, rv⟩ := RwL.one r
    split at go
    · rename_i ts ht
      rw [Option.bind_eq_some_iff] at ht
      obtain ⟨ys, h1, h2⟩ := ht
      obtain ⟨p, zs, ev, q, l⟩ := items_sq R h1 rv
      subst e ev
      rw [allT_eq h2] at l
      exact ⟨p, zs, rfl, q.symm, fun p' np => go (.ref p') (s.addF p' (.lst zs)) rfl (aft_addF R np) (rel_addF R np) (addF_lst R np (RwL.of_trees.mp l))⟩
    · exact go.elim
  · exact go.elim
theorem ok_listL : OpNOk K Wx oListL (fun xs H Q => ∃ p ys, xs = [.ref p] ∧ (SqL K H p ys ∨ SqT K H p ys) ∧ ∀ l, H l = none → Q (.ref l) (upd H l (.lst ys))) := by
  intro s ws xs Q R r go
  unfold oListL at go
  split at go
  · obtain ⟨v, e, rv⟩ := RwL.one r
    split at go
    · rename_i ys h1
      obtain ⟨p, zs, ev, q, l⟩ := items_sq R h1 rv
      subst e ev
      exact ⟨p, zs, rfl, q.symm, fun p' np => go (.ref p') (s.addL p' (.lst ys) (.lst zs)) rfl (aft_addL R np) (rel_addL R np ⟨zs, rfl, l⟩) (addL_r R)⟩
    · exact go.elim
  · exact go.elim
end
/-- tuple(x), the object of a new one known -/
def rTupS (K : PySem.W.Frag) : List V → Hp → VK → Prop := fun xs H Q => ∃ p ys, xs = [.ref p] ∧ ((SqL K H p ys ∧ ∀ (q : Addr) (o : Obj), H q = none → o.dict = none → Q (.ref q) (upd H q (.frz o (.tup ys)))) ∨ (SqT K H p ys ∧ Q (.ref p) H))
theorem call_tupS {X : Cx} : CallR X (.type "tuple") (rTupS X.K) := by
  intro pn s0 σ H xs us Q J r h
  obtain ⟨p, ys, rfl, h⟩ := h
  obtain ⟨u, rfl, rx⟩ := vals1 r
  cases rx
  rcases h with ⟨hq, q⟩ | ⟨hq, q⟩
  · obtain ⟨its, rv, pl, hz⟩ := J.list hq
    refine call_tuple_list pl.isList (fun h' kp => ?_) (by rw [List.size_toArray, ← rv.length]; exact hz)
    exact laid_tup (s := { s0 with heap := h' }) (t' := s0.toks) (J.kept (t' := s0.toks) kp) rv hz q
  · obtain ⟨its, rv, pl, hz⟩ := J.tuple hq
    exact call_tuple_same pl ⟨.ref p, H, J, rfl, q⟩
section
variable {K : PySem.W.Frag} {Wx : WX}
theorem ok_tup : OpNOk K Wx oTup (rTupS K) := by
  intro s ws xs Q R r go
  unfold oTup at go
  split at go
  · obtain ⟨v, e, rv⟩ := RwL.one r
    subst e
    have rv' := rv
    obtain ⟨a, vs, ev, t, l⟩ : ∃ a vs, v = .ref a ∧ FTup K s.fz s.H a vs ∧ RfL K s.fz s.H _ vs := by simpa only [Rw, Rf] using rv
    subst ev
    exact ⟨a, vs, rfl, .inr ⟨t.sq, go _ s rfl (Aft.refl s) R rv'⟩⟩
  · obtain ⟨v, e, rv⟩ := RwL.one r
    split at go
    · rename_i ts ht
      rw [Option.bind_eq_some_iff] at ht
      obtain ⟨ys, h1, h2⟩ := ht
      obtain ⟨p, zs, ev, q, l⟩ := litems_sq R h1 rv
      subst e ev
      rw [allT_eq h2] at l
      exact ⟨p, zs, rfl, .inl ⟨q, fun p' o np d => go (.ref p') (s.addF p' (.frz o (.tup zs))) rfl (aft_addF R np) (rel_addF R np) (addF_tup R np d (RwL.of_trees.mp l))⟩⟩
    · exact go.elim
  · exact go.elim
theorem call_strS {X : Cx} : CallR X (.type "str") (fun xs H Q => (∃ a, xs = [.str a] ∧ Q (.str a) H) ∨ (∃ i, xs = [.int i] ∧ i.natAbs.log2 < 1920 ∧ Q (.str (toString i)) H)) := CallR.or SkE.call_str_str call_str_int
theorem ok_str : OpNOk K Wx oStr (fun xs H Q => (∃ a, xs = [.str a] ∧ Q (.str a) H) ∨ (∃ i, xs = [.int i] ∧ i.natAbs.log2 < 1920 ∧ Q (.str (toString i)) H)) := by
  intro s ws xs Q R r go
  unfold oStr at go
  split at go
  · obtain ⟨v, e, rv⟩ := RwL.one r
    simp only [Rw, Rf] at rv
    subst e rv
    exact .inl ⟨_, rfl, go _ s rfl (Aft.refl s) R (by simp [Rw, Rf])⟩
  · obtain ⟨v, e, rv⟩ := RwL.one r
    simp only [Rw, Rf] at rv
    subst e rv
    split at go
    · rename_i hz
      exact .inr ⟨_, rfl, hz, go _ s rfl (Aft.refl s) R (by simp [Rw, Rf])⟩
    · exact go.elim
  · exact go.elim
end

/-! ### calls -/
section
variable {X : Cx} {Wx : WX} {e : Expr} {es : List Expr} {Fs : M (List W)} {pos p : Pos} {x : Str} {id Ty : String} {f : OpN} {r : List V → Hp → VK → Prop}
theorem t_app (hf : OpNOk X.K Wx f r) : ∀ σ H Q, tE X.K Wx (mApp f Fs) σ H Q → tCB r (tA X.K Wx Fs) σ H Q := fun σ H Q h =>
  tM.bind1 (R := fun (xs : List V) (H1 : Hp) => r xs H1 Q) (k := fun (a : List W) _ hp => f a hp) h fun s eta a b R1 _ f1 g => hf s a b Q R1 f1 g
theorem ie_bi (hc : CallR X (.builtin id) r) (hf : OpNOk X.K Wx f r) (ha : IA X Wx (e :: es) Fs) (hm : X.mg x = none) (hg : Gl X x := by rfl) (hv : bootBuiltins x = some (.builtin id) := by with_unfolding_all rfl) (hn : x ≠ "__name__" := by decide) (hdb : (x == ("__debug__" : Str)) = false := by decide)
    (he : starEach (e :: es) X.env = (false, eval e X.env) :: starEach es X.env := by rfl) (hpl : (backTo pos (starEach es X.env)).any (·.1) = false := by rfl) : IE X Wx (.Call (.Name x p) (e :: es) [] pos) (mApp f Fs) :=
  PE.imp (pe_callB hc hg hm hv ha hn hdb he hpl) (t_app hf)
theorem ie_bt (hc : CallR X (.type Ty) r) (hf : OpNOk X.K Wx f r) (ha : IA X Wx (e :: es) Fs) (hm : X.mg x = none) (hg : Gl X x := by rfl) (hv : bootBuiltins x = some (.type Ty) := by with_unfolding_all rfl) (hn : x ≠ "__name__" := by decide) (hdb : (x == ("__debug__" : Str)) = false := by decide)
    (he : starEach (e :: es) X.env = (false, eval e X.env) :: starEach es X.env := by rfl) (hpl : (backTo pos (starEach es X.env)).any (·.1) = false := by rfl) : IE X Wx (.Call (.Name x p) (e :: es) [] pos) (mApp f Fs) :=
  PE.imp (pe_callTy hc hg hm hv ha hn hdb he hpl) (t_app hf)
end
end Mir

/-! Mir7: methods of lists and tuples, dicts, chains, turned lists, unpacked lists, repr. -/
namespace Mir
open PySem PySem.Spec L2
open PyProof.Rows hiding St

/-! ### methods -/
abbrev OpM := W → List W → IH → Res W
def OpMOk (K : PySem.W.Frag) (Wx : WX) (f : OpM) (r : V → List V → Hp → VK → Prop) : Prop :=
  ∀ (s : S4) (w : W) (ws : List W) (x : V) (xs : List V) (Q : VK), Rel K s → Rw K s w x → RwL K s ws xs → Go K Wx (Rw K) s (f w ws s.hp) Q → r x xs s.H Q
def mMeth0 (ty : W → IH → Bool) (f : OpM) (Fo : M W) : M W := fun eta hp => (Fo eta hp).bind fun w h1 => if ty w h1 = true then f w [] h1 else .bad
def mMeth (ty : W → IH → Bool) (f : OpM) (Fo : M W) (Fa : M (List W)) : M W := fun eta hp => (Fo eta hp).bind fun w h1 => if ty w h1 = true then (Fa eta h1).bind fun ws h2 => f w ws h2 else .bad
def isL (w : W) (hp : IH) : Bool := (litems hp w).isSome
def isTp (w : W) (hp : IH) : Bool := match w with | .t (.tup _) => true | _ => false
section
variable {X : Cx} {Wx : WX} {o e : Expr} {es : List Expr} {Fo : M W} {Fs : M (List W)} {name : Str} {apos cpos : Pos} {id : String} {f : OpM} {r : V → List V → Hp → VK → Prop}
theorem isL_ty {K : PySem.W.Frag} {s : S4} {w : W} {v : V} (R : Rel K s) (r : Rw K s w v) (h : isL w s.hp = true) : tyV K "list" v s.H := by
  unfold isL at h
  obtain ⟨ws, hw⟩ := Option.isSome_iff_exists.mp h
  obtain ⟨p, xs, e, q, _⟩ := litems_sq R hw r
  subst e
  exact .inl ⟨rfl, xs, q⟩
theorem ie_lm0 (slot : Slot "list" name id) (hty : typeOf (.builtin id) = pure (.type "method_descriptor")) (hm : MtR X id r) (hf : OpMOk X.K Wx f r) (ho : IE X Wx o Fo)
    (hbase : attributeBase o name X.env (eval o X.env) = eval o X.env := by rfl) (hline : (apos.endLine == cpos.line) = true := by rfl) : IE X Wx (.Call (.Attribute o name apos) [] [] cpos) (mMeth0 isL f Fo) :=
  PE.imp (pe_bm0 F.plainAttrs_list slot hty hm ho hbase hline) fun σ H Q h =>
    tM.bind1 (R := fun (x : V) (H1 : Hp) => tyV X.K "list" x H1 ∧ r x [] H1 Q) (k := fun (w : W) _ h1 => if isL w h1 = true then f w [] h1 else .bad) h fun s eta a b R1 _ f1 g => by
      split at g
      · rename_i ht
        exact ⟨isL_ty R1 f1 ht, hf s a [] b [] Q R1 f1 rfl g⟩
      · exact g.elim
theorem ie_lm (slot : Slot "list" name id) (hty : typeOf (.builtin id) = pure (.type "method_descriptor")) (hm : MtR X id r) (hf : OpMOk X.K Wx f r) (ho : IE X Wx o Fo) (ha : IA X Wx (e :: es) Fs)
    (hbase : attributeBase o name X.env (eval o X.env) = eval o X.env := by rfl)
    (hfew : ((backTo cpos (starEach (e :: es) X.env)).all (fun x => !x.1) && (backToKw cpos (keywordEach [] X.env)).all (fun x => x.1.isSome) && decide ((e :: es).length + ([] : List Keyword).length + (if ([] : List Keyword).isEmpty then 0 else 1) < 30)) = true := by rfl)
    (hline : (apos.endLine == cpos.line) = true := by rfl) (hs : starEach (e :: es) X.env = (false, eval e X.env) :: starEach es X.env := by rfl) (hp : (backTo cpos (starEach es X.env)).any (·.1) = false := by rfl) :
    IE X Wx (.Call (.Attribute o name apos) (e :: es) [] cpos) (mMeth isL f Fo Fs) :=
  PE.imp (pe_bm F.plainAttrs_list slot hty hm ho ha hbase hfew hline hs hp) fun σ H Q h =>
    tM.bind1 (R := fun (x : V) (H1 : Hp) => tyV X.K "list" x H1 ∧ tA X.K Wx Fs σ H1 fun xs H2 => r x xs H2 Q) (k := fun (w : W) eta h1 => if isL w h1 = true then (Fs eta h1).bind fun ws h2 => f w ws h2 else .bad) h fun s eta a b R1 S1 f1 g => by
      split at g
      · rename_i ht
        exact ⟨isL_ty R1 f1 ht, s, eta, rfl, R1, S1, Go.bind g fun ws xs s' A' R' r' _ g' => hf s' a ws b xs Q R' (f1.aft A' R1) r' g'⟩
      · exact g.elim
/-- a method of a tuple, its object known -/
theorem pe_tm {to : TE} {t : TA} (slot : Slot "tuple" name id) (hty : typeOf (.builtin id) = pure (.type "method_descriptor")) (hm : MtR X id r) (ho : PE X o to) (ha : PA X (e :: es) t)
    (hbase : attributeBase o name X.env (eval o X.env) = eval o X.env := by rfl)
    (hfew : ((backTo cpos (starEach (e :: es) X.env)).all (fun x => !x.1) && (backToKw cpos (keywordEach [] X.env)).all (fun x => x.1.isSome) && decide ((e :: es).length + ([] : List Keyword).length + (if ([] : List Keyword).isEmpty then 0 else 1) < 30)) = true := by rfl)
    (hline : (apos.endLine == cpos.line) = true := by rfl) (hs : starEach (e :: es) X.env = (false, eval e X.env) :: starEach es X.env := by rfl) (hp : (backTo cpos (starEach es X.env)).any (·.1) = false := by rfl) :
    PE X (.Call (.Attribute o name apos) (e :: es) [] cpos) (fun σ H Q => to σ H fun x H1 => (∃ fz a xs, x = .ref a ∧ FTup X.K fz H1 a xs) ∧ t σ H1 fun xs H2 => r x xs H2 Q) := by
  refine ⟨fun pn s0 σ H Q J h => ?_⟩
  refine wpAny_Call_method_late hbase hfew hline rfl (thn (ho.run pn s0 σ H _ J h) fun v s1 w => ?_)
  obtain ⟨x, H1, J1, r1, ⟨fz, a, xs, ex, ft⟩, q1⟩ := w
  subst ex
  have ev : v = .ref a := r1
  subst ev
  have hz : ∃ ob, s1.heap.get? a = some ob ∧ ob.cls = .type "tuple" ∧ ob.dict = none := by
    rcases ft with ⟨_, ob, hk, hd⟩ | ⟨ob, its, n, hk, hc, hd, _⟩
    · obtain ⟨e1, _, _, _, ob2, e2, hc, _⟩ := J1.hok a _ hk
      rw [e1] at e2
      cases e2
      exact ⟨ob, e1, hc, hd⟩
    · exact ⟨ob, J1.kIn _ ob hk, hc, hd⟩
  obtain ⟨ob, e1, hc, hd⟩ := hz
  refine ⟨"tuple", id, F.plainAttrs_tuple, slot, hty, ⟨ob, e1, hc⟩, fun b eb => by cases eb; exact ⟨ob, e1, hd⟩, ?_⟩
  have hA := ha.run cpos pn s1 σ H1 _ J1 q1
  rw [hs] at hA ⊢
  refine Calls.callWith_builtin (by show (false || (backTo cpos (starEach es X.env)).any (·.1)) = false; rw [hp] <;> rfl) (Calls.evalArgs_plain ?_)
  exact thn hA fun us s2 ⟨vs, H2, J2, r2, q2⟩ => hm pn s2 σ H2 (.ref a) vs (.ref a) us Q J2 rfl r2 q2
theorem ie_tm (slot : Slot "tuple" name id) (hty : typeOf (.builtin id) = pure (.type "method_descriptor")) (hm : MtR X id r) (hf : OpMOk X.K Wx f r) (ho : IE X Wx o Fo) (ha : IA X Wx (e :: es) Fs)
    (hbase : attributeBase o name X.env (eval o X.env) = eval o X.env := by rfl)
    (hfew : ((backTo cpos (starEach (e :: es) X.env)).all (fun x => !x.1) && (backToKw cpos (keywordEach [] X.env)).all (fun x => x.1.isSome) && decide ((e :: es).length + ([] : List Keyword).length + (if ([] : List Keyword).isEmpty then 0 else 1) < 30)) = true := by rfl)
    (hline : (apos.endLine == cpos.line) = true := by rfl) (hs : starEach (e :: es) X.env = (false, eval e X.env) :: starEach es X.env := by rfl) (hp : (backTo cpos (starEach es X.env)).any (·.1) = false := by rfl) :
    IE X Wx (.Call (.Attribute o name apos) (e :: es) [] cpos) (mMeth isTp f Fo Fs) :=
  PE.imp (pe_tm slot hty hm ho ha hbase hfew hline hs hp) fun σ H Q h =>
    tM.bind1 (R := fun (x : V) (H1 : Hp) => (∃ fz a xs, x = .ref a ∧ FTup X.K fz H1 a xs) ∧ tA X.K Wx Fs σ H1 fun xs H2 => r x xs H2 Q) (k := fun (w : W) eta h1 => if isTp w h1 = true then (Fs eta h1).bind fun ws h2 => f w ws h2 else .bad) h fun s eta a b R1 S1 f1 g => by
      split at g
      · rename_i ht
        refine ⟨?_, s, eta, rfl, R1, S1, Go.bind g fun ws xs s' A' R' r' _ g' => hf s' a ws b xs Q R' (f1.aft A' R1) r' g'⟩
        unfold isTp at ht
        split at ht
        · obtain ⟨p, xs, ev, t, q⟩ : ∃ p vs, b = .ref p ∧ FTup X.K s.fz s.H p vs ∧ RfL X.K s.fz s.H _ vs := by simpa only [Rw, Rf] using f1
          exact ⟨_, p, xs, ev, t⟩
        · cases ht
      · exact g.elim
end

/-! #### what they do -/
def oAppend : OpM := fun w ws hp => match w, ws with
  | .r i, [x] => (match getL hp i with | some xs => if xs.length < 16777216 then .ok (.t .non) (hp.set i (some (.lst (xs ++ [x])))) else .bad | none => .bad)
  | _, _ => .bad
/-- what is a list of its own in the heap -/
def hitems (hp : IH) : W → Option (List W)
  | .t (.lst xs) => some (xs.map W.t)
  | .t _ => none
  | .r i => getL hp i
def oExtend : OpM := fun w ws hp => match w, ws with
  | .r i, [x] => (match getL hp i, hitems hp x with | some xs, some zs => if xs.length + zs.length ≤ 16777216 then .ok (.t .non) (hp.set i (some (.lst (xs ++ zs)))) else .bad | _, _ => .bad)
  | _, _ => .bad
def oPop : OpM := fun w ws hp => match w, ws with
  | .r i, [] => (match getL hp i with | some xs => (match xs[xs.length - 1]? with | some y => .ok y (hp.set i (some (.lst xs.dropLast))) | none => .bad) | none => .bad)
  | _, _ => .bad
def oPopAt : OpM := fun w ws hp => match w, ws with
  | .r i, [.t (.int k)] => (match getL hp i with
    | some xs => if -(2 ^ 63) ≤ k ∧ k < 2 ^ 63 then (match seqIndex? k xs.length with | some j => (match xs[j]? with | some y => .ok y (hp.set i (some (.lst (xs.eraseIdx j)))) | none => .bad) | none => .bad) else .bad
    | none => .bad)
  | _, _ => .bad
def oIndexS : OpM := fun w ws hp => match ws with
  | [.t (.str z)] => (match (litems hp w).bind (allW asS) with | some ns => if z ∈ ns then .ok (.t (.int (ns.idxOf z : Nat))) hp else .bad | none => .bad)
  | _ => .bad
def oIndexT : OpM := fun w ws hp => match w, ws with
  | .t (.tup ts), [.t (.str z)] => (match allW asS (ts.map W.t) with | some ns => if z ∈ ns then .ok (.t (.int (ns.idxOf z : Nat))) hp else .bad | none => .bad)
  | _, _ => .bad
theorem idx_first {z : Str} : ∀ {ns : List Str}, z ∈ ns → ns[ns.idxOf z]? = some z ∧ ∀ m, m < ns.idxOf z → ns[m]? ≠ some z
  | [], h => by cases h
  | n :: ns, h => by
    by_cases e : n = z
    · subst e
      rw [List.idxOf_cons_self]
      exact ⟨rfl, fun m hm => absurd hm (Nat.not_lt_zero _)⟩
    · have hz : z ∈ ns := by
        rcases List.mem_cons.mp h with h | h
        · exact absurd h.symm e
        · exact h
      obtain ⟨h1, h2⟩ := idx_first hz
      have e0 : (n == z) = false := by simpa using e
      have e2 : (n :: ns).idxOf z = ns.idxOf z + 1 := by simp [List.idxOf_cons, e0]
      rw [e2]
      refine ⟨by simpa using h1, fun m hm => ?_⟩
      cases m with
      | zero => simpa using e
      | succ m => simpa using h2 m (by omega)
section
variable {K : PySem.W.Frag} {Wx : WX}
theorem RwL.dropLast {s : S4} : ∀ {ws : List W} {vs : List V}, RwL K s ws vs → RwL K s ws.dropLast vs.dropLast
  | [], _, h => by rw [show _ = [] from h]; rfl
  | [x], _, h => by
    obtain ⟨v, r, e, a, b⟩ := h
    rw [show r = [] from b] at e
    subst e
    rfl
  | x :: y :: ws, _, h => by
    obtain ⟨v, r, e, a, b⟩ := h
    subst e
    have b' := b
    obtain ⟨v2, r2, e2, a2, b2⟩ := b'
    subst e2
    exact ⟨v, _, rfl, a, RwL.dropLast b⟩
theorem RwL.eraseIdx {s : S4} : ∀ {ws : List W} {vs : List V} (j : Nat), RwL K s ws vs → RwL K s (ws.eraseIdx j) (vs.eraseIdx j)
  | [], _, _, h => by rw [show _ = [] from h]; rfl
  | x :: ws, _, 0, h => by
    obtain ⟨v, r, e, a, b⟩ := h
    subst e
    exact b
  | x :: ws, _, j + 1, h => by
    obtain ⟨v, r, e, a, b⟩ := h
    subst e
    exact ⟨v, _, rfl, a, RwL.eraseIdx j b⟩
theorem RwL.setL {s : S4} : ∀ {ws : List W} {vs : List V} (j : Nat) {w : W} {v : V}, RwL K s ws vs → Rw K s w v → RwL K s (ws.set j w) (vs.set j v)
  | [], _, _, _, _, h, _ => by rw [show _ = [] from h]; rfl
  | x :: ws, _, 0, w, v, h, r => by
    obtain ⟨u, t, e, a, b⟩ := h
    subst e
    exact ⟨v, t, rfl, r, b⟩
  | x :: ws, _, j + 1, w, v, h, r => by
    obtain ⟨u, t, e, a, b⟩ := h
    subst e
    exact ⟨u, _, rfl, a, RwL.setL j b r⟩
/-- the items are set anew -/
theorem go_set {s : S4} {i : Nat} {a : Addr} {xs ys : List W} {us : List V} {w : W} {v : V} {Q : VK} (R : Rel K s) (h0 : getL s.hp i = some xs) (ha : s.rho[i]? = some a) (l : RwL K s ys us) (rv : Rw K s w v)
    (g : Go K Wx (Rw K) s (.ok w (s.hp.set i (some (.lst ys)))) Q) : Q v (upd s.H a (.lst us)) := by
  have A := aft_setL R (getL_eq h0) ha (c := .lst ys) (o := .lst us)
  exact g v (s.setL i a (.lst ys) (.lst us)) rfl A (rel_setL R (getL_eq h0) ha ⟨us, rfl, l⟩) (rv.aft A R)
theorem ok_append : OpMOk K Wx oAppend rAppend := by
  intro s w ws x xs Q R rx rxs go
  unfold oAppend at go
  split at go
  · rename_i i y
    obtain ⟨u, e, ru⟩ := RwL.one rxs
    subst e
    split at go
    · rename_i zs hz
      split at go
      · rename_i hn
        obtain ⟨a, vs, ex, e1, e2, l, _⟩ := R.lst hz rx
        exact ⟨a, vs, u, ex, rfl, e2, by rw [← RwL.length l, sizeLine_eq]; exact hn, go_set R hz e1 (RwL.append l (show RwL K s [_] [u] from ⟨u, [], rfl, ru, rfl⟩)) (by simp [Rw, Rf]) go⟩
      · exact go.elim
    · exact go.elim
  · exact go.elim
theorem hitems_eq {s : S4} (R : Rel K s) {w : W} {v : V} {ws : List W} (h : hitems s.hp w = some ws) (r : Rw K s w v) : ∃ p xs, v = .ref p ∧ s.H p = some (.lst xs) ∧ RwL K s ws xs := by
  unfold hitems at h
  split at h
  · simp only [Option.some.injEq] at h
    subst h
    obtain ⟨p, xs, e, t, q⟩ : ∃ a vs, v = .ref a ∧ FLst s.fz s.H a vs ∧ RfL K s.fz s.H _ vs := by simpa only [Rw, Rf] using r
    exact ⟨p, xs, e, t.2, RwL.of_trees.mpr q⟩
  · cases h
  · obtain ⟨a, vs, e, _, e2, l, _⟩ := R.lst h r
    exact ⟨a, vs, e, e2, l⟩
theorem ok_extend : OpMOk K Wx oExtend rExtend := by
  intro s w ws x xs Q R rx rxs go
  unfold oExtend at go
  split at go
  · rename_i i y
    obtain ⟨u, e, ru⟩ := RwL.one rxs
    subst e
    split at go
    · rename_i zs ys hz hy
      split at go
      · rename_i hn
        obtain ⟨a, vs, ex, e1, e2, l, _⟩ := R.lst hz rx
        obtain ⟨b, us, eu, e3, l2⟩ := hitems_eq R hy ru
        subst eu
        exact ⟨a, b, vs, us, ex, rfl, e2, e3, by rw [← RwL.length l, ← RwL.length l2, sizeLine_eq]; exact hn, go_set R hz e1 (RwL.append l l2) (by simp [Rw, Rf]) go⟩
      · exact go.elim
    · exact go.elim
  · exact go.elim
theorem ok_pop : OpMOk K Wx oPop rPop := by
  intro s w ws x xs Q R rx rxs go
  unfold oPop at go
  split at go
  · rename_i i
    have e : xs = [] := rxs
    subst e
    split at go
    · rename_i zs hz
      split at go
      · rename_i y hy
        obtain ⟨a, vs, ex, e1, e2, l, _⟩ := R.lst hz rx
        obtain ⟨u, hu, ru⟩ := RwL.get l hy
        exact ⟨a, vs, u, ex, rfl, e2, by rw [← RwL.length l]; exact hu, go_set R hz e1 (RwL.dropLast l) ru go⟩
      · exact go.elim
    · exact go.elim
  · exact go.elim
theorem ok_popAt : OpMOk K Wx oPopAt rPopAt := by
  intro s w ws x xs Q R rx rxs go
  unfold oPopAt at go
  split at go
  · rename_i i k
    obtain ⟨u, e, ru⟩ := RwL.one rxs
    simp only [Rw, Rf] at ru
    subst e ru
    split at go
    · rename_i zs hz
      split at go
      · rename_i hk
        split at go
        · rename_i j hj
          split at go
          · rename_i y hy
            obtain ⟨a, vs, ex, e1, e2, l, _⟩ := R.lst hz rx
            obtain ⟨u, hu, ru⟩ := RwL.get l hy
            exact ⟨a, vs, k, j, u, ex, rfl, e2, hk.1, hk.2, by rw [← RwL.length l]; exact hj, hu, go_set R hz e1 (RwL.eraseIdx j l) ru go⟩
          · exact go.elim
        · exact go.elim
      · exact go.elim
    · exact go.elim
  · exact go.elim
theorem ok_indexS : OpMOk K Wx oIndexS (rIndex K) := by
  intro s w ws x xs Q R rx rxs go
  unfold oIndexS at go
  split at go
  · rename_i z
    obtain ⟨u, e, ru⟩ := RwL.one rxs
    simp only [Rw, Rf] at ru
    subst e ru
    split at go
    · rename_i ns hn
      rw [Option.bind_eq_some_iff] at hn
      obtain ⟨ys, h1, h2⟩ := hn
      split at go
      · rename_i hm
        obtain ⟨p, zs, ex, q, l⟩ := litems_sq R h1 rx
        have ez := allS_eq h2 l
        subst ex ez
        obtain ⟨i1, i2⟩ := idx_first hm
        refine ⟨p, _, _, ns.idxOf z, .str z, rfl, rfl, q, rfl, flat_strs ns, by rw [List.getElem?_map, i1]; rfl, by simp [eqV], fun m z' hm' hz' => ?_, go _ s rfl (Aft.refl s) R (by simp [Rw, Rf])⟩
        rw [List.getElem?_map, Option.map_eq_some_iff] at hz'
        obtain ⟨y, hy, ey⟩ := hz'
        subst ey
        have : y ≠ z := fun e => i2 m hm' (by rw [hy, e])
        simpa [eqV] using this
      · exact go.elim
    · exact go.elim
  · exact go.elim
theorem ok_indexT : OpMOk K Wx oIndexT (fun x xs H Q => ∃ p, ∃ ys : List Str, ∃ z j, x = .ref p ∧ xs = [.str z] ∧ SqT K H p (ys.map V.str) ∧ ys[j]? = some z ∧ (∀ m, m < j → ys[m]? ≠ some z) ∧ Q (.int (j : Nat)) H) := by
  intro s w ws x xs Q R rx rxs go
  unfold oIndexT at go
  split at go
  · rename_i ts z
    obtain ⟨u, e, ru⟩ := RwL.one rxs
    simp only [Rw, Rf] at ru
    subst e ru
    split at go
    · rename_i ns hn
      split at go
      · rename_i hm
        obtain ⟨p, zs, ex, t, q⟩ : ∃ a vs, x = .ref a ∧ FTup K s.fz s.H a vs ∧ RfL K s.fz s.H _ vs := by simpa only [Rw, Rf] using rx
        have ez := allS_eq hn (RwL.of_trees.mpr q)
        subst ex ez
        obtain ⟨i1, i2⟩ := idx_first hm
        exact ⟨p, ns, z, ns.idxOf z, rfl, rfl, t.sq, i1, i2, go _ s rfl (Aft.refl s) R (by simp [Rw, Rf])⟩
      · exact go.elim
    · exact go.elim
  · exact go.elim
end
section
variable {X : Cx} {Wx : WX} {o e : Expr} {Fo : M W} {Fs : M (List W)} {apos cpos : Pos}
theorem ie_append (ho : IE X Wx o Fo) (ha : IA X Wx [e] Fs) (hb : attributeBase o "append" X.env (eval o X.env) = eval o X.env := by rfl)
    (hfew : ((backTo cpos (starEach [e] X.env)).all (fun x => !x.1) && (backToKw cpos (keywordEach [] X.env)).all (fun x => x.1.isSome) && decide ([e].length + ([] : List Keyword).length + (if ([] : List Keyword).isEmpty then 0 else 1) < 30)) = true := by rfl)
    (hline : (apos.endLine == cpos.line) = true := by rfl) (hs : starEach [e] X.env = (false, eval e X.env) :: starEach [] X.env := by rfl) : IE X Wx (.Call (.Attribute o "append" apos) [e] [] cpos) (mMeth isL oAppend Fo Fs) :=
  ie_lm F.slot_list_append F.type_list_append mt_append ok_append ho ha hb hfew hline hs rfl
theorem ie_extend (ho : IE X Wx o Fo) (ha : IA X Wx [e] Fs) (hb : attributeBase o "extend" X.env (eval o X.env) = eval o X.env := by rfl)
    (hfew : ((backTo cpos (starEach [e] X.env)).all (fun x => !x.1) && (backToKw cpos (keywordEach [] X.env)).all (fun x => x.1.isSome) && decide ([e].length + ([] : List Keyword).length + (if ([] : List Keyword).isEmpty then 0 else 1) < 30)) = true := by rfl)
    (hline : (apos.endLine == cpos.line) = true := by rfl) (hs : starEach [e] X.env = (false, eval e X.env) :: starEach [] X.env := by rfl) : IE X Wx (.Call (.Attribute o "extend" apos) [e] [] cpos) (mMeth isL oExtend Fo Fs) :=
  ie_lm F.slot_list_extend F.type_list_extend mt_extend ok_extend ho ha hb hfew hline hs rfl
theorem ie_pop (ho : IE X Wx o Fo) (hb : attributeBase o "pop" X.env (eval o X.env) = eval o X.env := by rfl) (hline : (apos.endLine == cpos.line) = true := by rfl) :
    IE X Wx (.Call (.Attribute o "pop" apos) [] [] cpos) (mMeth0 isL oPop Fo) := ie_lm0 F.slot_list_pop F.type_list_pop mt_pop ok_pop ho hb hline
theorem ie_popAt (ho : IE X Wx o Fo) (ha : IA X Wx [e] Fs) (hb : attributeBase o "pop" X.env (eval o X.env) = eval o X.env := by rfl)
    (hfew : ((backTo cpos (starEach [e] X.env)).all (fun x => !x.1) && (backToKw cpos (keywordEach [] X.env)).all (fun x => x.1.isSome) && decide ([e].length + ([] : List Keyword).length + (if ([] : List Keyword).isEmpty then 0 else 1) < 30)) = true := by rfl)
    (hline : (apos.endLine == cpos.line) = true := by rfl) (hs : starEach [e] X.env = (false, eval e X.env) :: starEach [] X.env := by rfl) : IE X Wx (.Call (.Attribute o "pop" apos) [e] [] cpos) (mMeth isL oPopAt Fo Fs) :=
  ie_lm F.slot_list_pop F.type_list_pop mt_popAt ok_popAt ho ha hb hfew hline hs rfl
theorem ie_index (ho : IE X Wx o Fo) (ha : IA X Wx [e] Fs) (hb : attributeBase o "index" X.env (eval o X.env) = eval o X.env := by rfl)
    (hfew : ((backTo cpos (starEach [e] X.env)).all (fun x => !x.1) && (backToKw cpos (keywordEach [] X.env)).all (fun x => x.1.isSome) && decide ([e].length + ([] : List Keyword).length + (if ([] : List Keyword).isEmpty then 0 else 1) < 30)) = true := by rfl)
    (hline : (apos.endLine == cpos.line) = true := by rfl) (hs : starEach [e] X.env = (false, eval e X.env) :: starEach [] X.env := by rfl) : IE X Wx (.Call (.Attribute o "index" apos) [e] [] cpos) (mMeth isL oIndexS Fo Fs) :=
  ie_lm F.slot_list_index F.type_list_index mt_index ok_indexS ho ha hb hfew hline hs rfl
theorem ie_indexT (ho : IE X Wx o Fo) (ha : IA X Wx [e] Fs) (hb : attributeBase o "index" X.env (eval o X.env) = eval o X.env := by rfl)
    (hfew : ((backTo cpos (starEach [e] X.env)).all (fun x => !x.1) && (backToKw cpos (keywordEach [] X.env)).all (fun x => x.1.isSome) && decide ([e].length + ([] : List Keyword).length + (if ([] : List Keyword).isEmpty then 0 else 1) < 30)) = true := by rfl)
    (hline : (apos.endLine == cpos.line) = true := by rfl) (hs : starEach [e] X.env = (false, eval e X.env) :: starEach [] X.env := by rfl) : IE X Wx (.Call (.Attribute o "index" apos) [e] [] cpos) (mMeth isTp oIndexT Fo Fs) :=
  ie_tm F.slot_tuple_index F.type_tuple_index mt_tup_index ok_indexT ho ha hb hfew hline hs rfl
end
end Mir

/-! Mir8: dicts by keys, chains, turned lists, list(range(..)), sums of lists and tuples, unpacked lists, items set. -/
namespace Mir
open PySem PySem.Spec L2
open PyProof.Rows hiding St

/-! ### dicts -/
def asK : W → Option Key | .t (.int i) => some (.inl i) | .t (.str x) => some (.inr x) | _ => none
def getD (hp : IH) (i : Nat) : Option (List (Key × W)) := match hp[i]? with
  | some (some (.dic kvs)) => some kvs
  | _ => none
def valW (kvs : List (Key × W)) (k : Key) : Option W := (kvs.find? fun kv => decide (kv.1 = k)).map (·.2)
def putW (kvs : List (Key × W)) (k : Key) (w : W) : List (Key × W) :=
  if (kvs.any fun kv => decide (kv.1 = k)) = true then kvs.map (fun kv => if kv.1 = k then (kv.1, w) else kv) else kvs ++ [(k, w)]
def mergeW (kvs more : List (Key × W)) : List (Key × W) := more.foldl (fun acc kv => putW acc kv.1 kv.2) kvs
section
variable {K : PySem.W.Frag} {s : S4}
theorem getD_eq {hp : IH} {i : Nat} {ws : List (Key × W)} (h : getD hp i = some ws) : hp[i]? = some (some (.dic ws)) := by
  unfold getD at h
  split at h
  · rename_i kvs e
    simp only [Option.some.injEq] at h
    rw [e, h]
  · cases h
theorem asK_eq {w : W} {v : V} {k : Key} (h : asK w = some k) (r : Rw K s w v) : v = kV k := by
  unfold asK at h
  split at h
  · simp only [Option.some.injEq] at h
    subst h
    show v = V.int _
    simpa only [Rw, Rf] using r
  · simp only [Option.some.injEq] at h
    subst h
    show v = V.str _
    simpa only [Rw, Rf] using r
  · cases h
theorem Rel.dic (R : Rel K s) {i : Nat} {v : V} {ws : List (Key × W)} (g : getD s.hp i = some ws) (r : Rw K s (.r i) v) : ∃ a vs, v = .ref a ∧ s.rho[i]? = some a ∧ s.H a = some (.dK vs) ∧ RwK K s ws vs ∧ ¬ s.fz a := by
  obtain ⟨a, e1, e2⟩ := r
  obtain ⟨vs, h1, h2⟩ := R.cell i _ a (getD_eq g) e1
  exact ⟨a, vs, e2, e1, h1, h2, R.fz a ⟨i, _, getD_eq g, e1⟩⟩
theorem RwK.val (k : Key) : ∀ {ws : List (Key × W)} {vs : List (Key × V)} {w : W}, RwK K s ws vs → valW ws k = some w → ∃ v, valV vs k = some v ∧ Rw K s w v
  | [], _, _, _, h => by simp [valW] at h
  | x :: ws, _, w, r, h => by
    obtain ⟨v, t, e, a, b⟩ := r
    subst e
    by_cases q : x.1 = k
    · refine ⟨v, valV_pos (p := (x.1, v)) q, ?_⟩
      have : x.2 = w := by simpa [valW, List.find?_cons, q] using h
      rw [← this]; exact a
    · have h' : valW ws k = some w := by simpa [valW, List.find?_cons, q] using h
      obtain ⟨u, h1, h2⟩ := RwK.val k b h'
      exact ⟨u, by rw [valV_neg (p := (x.1, v)) q]; exact h1, h2⟩
theorem RwK.none (k : Key) : ∀ {ws : List (Key × W)} {vs : List (Key × V)}, RwK K s ws vs → valW ws k = none → valV vs k = none
  | [], _, r, _ => by rw [show _ = [] from r]; rfl
  | x :: ws, _, r, h => by
    obtain ⟨v, t, e, a, b⟩ := r
    subst e
    by_cases q : x.1 = k
    · simp [valW, List.find?_cons, q] at h
    · have h' : valW ws k = Option.none := by simpa [valW, List.find?_cons, q] using h
      rw [valV_neg (p := (x.1, v)) q]
      exact RwK.none k b h'
theorem RwK.any (k : Key) : ∀ {ws : List (Key × W)} {vs : List (Key × V)}, RwK K s ws vs → (vs.any fun kv => decide (kv.1 = k)) = ws.any fun kv => decide (kv.1 = k)
  | [], _, r => by rw [show _ = [] from r]; rfl
  | x :: ws, _, r => by
    obtain ⟨v, t, e, a, b⟩ := r
    subst e
    rw [List.any_cons, List.any_cons, RwK.any k b]
theorem RwK.repl (k : Key) {w : W} {v : V} (rv : Rw K s w v) : ∀ {ws : List (Key × W)} {vs : List (Key × V)}, RwK K s ws vs → RwK K s (ws.map fun kv => if kv.1 = k then (kv.1, w) else kv) (vs.map fun kv => if kv.1 = k then (kv.1, v) else kv)
  | [], _, r => by rw [show _ = [] from r]; rfl
  | x :: ws, _, r => by
    obtain ⟨u, t, e, a, b⟩ := r
    subst e
    rw [List.map_cons, List.map_cons]
    by_cases q : x.1 = k
    · rw [if_pos q, if_pos q]
      exact ⟨v, _, rfl, rv, RwK.repl k rv b⟩
    · rw [if_neg q, if_neg q]
      exact ⟨u, _, rfl, a, RwK.repl k rv b⟩
theorem RwK.snoc {k : Key} {w : W} {v : V} (rv : Rw K s w v) : ∀ {ws : List (Key × W)} {vs : List (Key × V)}, RwK K s ws vs → RwK K s (ws ++ [(k, w)]) (vs ++ [(k, v)])
  | [], _, r => by rw [show _ = [] from r]; exact ⟨v, [], rfl, rv, rfl⟩
  | x :: ws, _, r => by
    obtain ⟨u, t, e, a, b⟩ := r
    subst e
    exact ⟨u, _, rfl, a, RwK.snoc rv b⟩
theorem RwK.put (k : Key) {w : W} {v : V} (rv : Rw K s w v) {ws : List (Key × W)} {vs : List (Key × V)} (r : RwK K s ws vs) : RwK K s (putW ws k w) (putK vs k v) := by
  unfold putW putK
  rw [r.any k]
  split
  · exact r.repl k rv
  · exact r.snoc rv
theorem RwK.merge : ∀ {more : List (Key × W)} {mv : List (Key × V)} {ws : List (Key × W)} {vs : List (Key × V)}, RwK K s more mv → RwK K s ws vs → RwK K s (mergeW ws more) (mergeK vs mv)
  | [], _, ws, vs, h, r => by rw [show _ = [] from h]; exact r
  | x :: more, _, ws, vs, h, r => by
    obtain ⟨u, t, e, a, b⟩ := h
    subst e
    exact RwK.merge (ws := putW ws x.1 x.2) (vs := putK vs x.1 u) b (r.put x.1 a)
theorem RwK.length : ∀ {ws : List (Key × W)} {vs : List (Key × V)}, RwK K s ws vs → ws.length = vs.length
  | [], _, r => by rw [show _ = [] from r]; rfl
  | x :: ws, _, r => by
    obtain ⟨u, t, e, a, b⟩ := r
    subst e
    rw [List.length_cons, List.length_cons, RwK.length b]
theorem go_setD {Wx : WX} {i : Nat} {a : Addr} {xs ys : List (Key × W)} {us : List (Key × V)} {w : W} {v : V} {Q : VK} (R : Rel K s) (h0 : getD s.hp i = some xs) (ha : s.rho[i]? = some a) (l : RwK K s ys us) (rv : Rw K s w v)
    (g : Go K Wx (Rw K) s (.ok w (s.hp.set i (some (.dic ys)))) Q) : Q v (upd s.H a (.dK us)) := by
  have A := aft_setL R (getD_eq h0) ha (c := .dic ys) (o := .dK us)
  exact g v (s.setL i a (.dic ys) (.dK us)) rfl A (rel_setL R (getD_eq h0) ha ⟨us, rfl, l⟩) (rv.aft A R)
end
/-- d[k] -/
def dGet : Op2 := fun a b hp => match a, asK b with
  | .r i, some k => (match (getD hp i).bind fun kvs => valW kvs k with | some w => .ok w hp | none => .bad)
  | _, _ => .bad
/-- k in d -/
def dIn (neg : Bool) : Op2 := fun b a hp => match a, asK b with
  | .r i, some k => (match getD hp i with | some kvs => .ok (.t (.bl (if neg then !(valW kvs k).isSome else (valW kvs k).isSome))) hp | none => .bad)
  | _, _ => .bad
/-- d[k] = v: the value, the dict, the key -/
def mDPut (Fd Fk Fv : M W) : M Fl := fun eta hp => (Fv eta hp).bind fun v h1 => (Fd eta h1).bind fun d h2 => (Fk eta h2).bind fun k h3 => match d, asK k with
  | .r i, some k => (match getD h3 i with | some kvs => if kvs.length < 16777216 then .ok (.nx eta) (h3.set i (some (.dic (putW kvs k v)))) else .bad | none => .bad)
  | _, _ => .bad
def mVals : List (Key × M W) → M (List (Key × W))
  | [] => fun _ hp => .ok [] hp
  | (k, F) :: r => fun eta hp => (F eta hp).bind fun w h1 => (mVals r eta h1).bind fun ws h2 => .ok ((k, w) :: ws) h2
def mDisp (ps : List (Key × M W)) : M W := fun eta hp => (mVals ps eta (hp ++ [some (.dic [])])).bind fun kvs h1 => match getD h1 hp.length with
  | some [] => if kvs.length ≤ 15 then .ok (.r hp.length) (h1.set hp.length (some (.dic (mergeW [] kvs)))) else .bad
  | _ => .bad
section
variable {X : Cx} {Wx : WX} {o e i value : Expr} {Fo Fi Fv F : M W} {pos pos' : Pos}
theorem ie_dget (hu : X.A.units + 64 < cLine) (ho : IE X Wx o Fo) (hi : IE X Wx i Fi) (hs : NoSl i := by intro _ _; rfl) : IE X Wx (.Subscript o i pos) (mBin dGet Fo Fi) :=
  PE.imp (pe_dget (by omega) ho hi hs) fun σ H Q h =>
    tM.bind2 (Fam' := Rw X.K) (R := fun (x y : V) (H2 : Hp) => ∃ a v, x = .ref a ∧ DGet H2 a y (some v) ∧ Q v H2) (k := fun (a b : W) _ hp => dGet a b hp) Rw.keep h fun s eta a b a' b' R1 S1 f1 f2 g => by
      unfold dGet at g
      split at g
      · rename_i i k hk
        split at g
        · rename_i w hw
          rw [Option.bind_eq_some_iff] at hw
          obtain ⟨kvs, h1, h2⟩ := hw
          obtain ⟨a, vs, e, _, e2, l, _⟩ := R1.dic h1 f1
          obtain ⟨v, h3, h4⟩ := l.val k h2
          refine ⟨a, v, e, ?_, g v s rfl (Aft.refl s) R1 h4⟩
          rw [asK_eq hk f2, ← h3]
          exact DGet.k e2
        · exact g.elim
      · exact g.elim
theorem st_dput (hu : X.A.units + 64 < cLine) (ho : IE X Wx o Fo) (hi : IE X Wx i Fi) (hv : IE X Wx value Fv) (hs : swapsWith value (some (.Subscript o i pos')) pos.line X.env = pure false := by rfl) :
    ISt X Wx (.Assign [.Subscript o i pos'] value pos) (mDPut Fo Fi Fv) := PS.imp (ps_dput (by omega) ho hi hv hs) fun D σ H h =>
  tM.bind1 (R := fun v H1 => tE X.K Wx Fo σ H1 fun x H2 => tE X.K Wx Fi σ H2 fun y H3 => ∃ a H4, x = .ref a ∧ DPut H3 a y v H4 ∧ D.nx σ H4)
    (k := fun v eta h1 => (Fo eta h1).bind fun d h2 => (Fi eta h2).bind fun k h3 => (match d, asK k with
      | .r i, some k => (match getD h3 i with | some kvs => if kvs.length < 16777216 then .ok (Fl.nx eta) (h3.set i (some (.dic (putW kvs k v)))) else .bad | none => .bad)
      | _, _ => .bad : Res Fl)) h fun s eta a b R1 S1 f1 g1 => by
    refine ⟨s, eta, rfl, R1, S1, Go.bind g1 fun d d' s2 A2 R2 r2 _ g2 => ?_⟩
    refine ⟨s2, eta, rfl, R2, S1.aft A2 R1, Go.bind g2 fun k k' s3 A3 R3 r3 _ g3 => ?_⟩
    have S3 := (S1.aft A2 R1).aft A3 R2
    have rd := r2.aft A3 R2
    have rv := (f1.aft A2 R1).aft A3 R2
    split at g3
    · rename_i i key hk _
      split at g3
      · rename_i kvs hd
        split at g3
        · rename_i hn
          obtain ⟨p, vs, e, e1, e2, l, _⟩ := R3.dic hd rd
          have A := aft_setL R3 (getD_eq hd) e1 (c := .dic (putW kvs key a)) (o := .dK (putK vs key b))
          refine ⟨p, _, e, ?_, Go.nx (s := s3.setL i p (.dic (putW kvs key a)) (.dK (putK vs key b))) (rel_setL R3 (getD_eq hd) e1 ⟨_, rfl, l.put key rv⟩) (S3.aft A R3) (Go.aft g3 A)⟩
          rw [asK_eq hk r3]
          exact DPut.k e2 (by rw [← l.length, sizeLine_eq]; exact hn)
        · exact g3.elim
      · exact g3.elim
    · exact g3.elim
/-- the pairs of a display -/
structure IPs (X : Cx) (Wx : WX) (pos : Pos) (keys : List (Option Expr)) (values : List Expr) (ps : List (Key × M W)) : Prop where
  run : PPs X pos keys values (ps.map fun p => (tC (kV p.1), tE X.K Wx p.2))
  len : keys.length = ps.length ∧ values.length = ps.length ∧ keys.all (·.isSome) = true
theorem ip_nil : IPs X Wx pos [] [] [] := ⟨pps_nil, rfl, rfl, rfl⟩
theorem ip_str {x : Str} {k : Nat} {p1 : Pos} {ks : List (Option Expr)} {vs : List Expr} {ps : List (Key × M W)} (h : IE X Wx e F) (r : IPs X Wx pos ks vs ps) : IPs X Wx pos (some (.Constant (.str x) k p1) :: ks) (e :: vs) ((.inr x, F) :: ps) :=
  ⟨pps_cons pe_str h r.run, by simp [r.len.1], by simp [r.len.2.1], by simpa using r.len.2.2⟩
theorem vals_pairs {K : PySem.W.Frag} {B : Type} {Gam : S4 → B → V → Prop} : ∀ (ps : List (Key × M W)) {σ : St} {H : Hp} {Q : List (V × V) → Hp → Prop} {C D : Type} {Gm : S4 → C → D → Prop} {k : List (Key × W) → IS → IH → Res C} {Q' : D → Hp → Prop} {s : S4} {eta : IS},
    s.H = H → Rel K s → Sl K s eta σ → Go K Wx Gm s ((mVals ps eta s.hp).bind fun a h1 => k a eta h1) Q' →
    (∀ (s' : S4) (ws : List (Key × W)) (vs : List (Key × V)), Aft s s' → Rel K s' → Sl K s' eta σ → RwK K s' ws vs → Go K Wx Gm s' (k ws eta s'.hp) Q' → Q (vs.map fun kv => (kV kv.1, kv.2)) s'.H) →
    tPairs (ps.map fun p => (tC (kV p.1), tE K Wx p.2)) σ H Q
  | [], σ, H, Q, _, _, Gm, k, Q', s, eta, e1, R1, S1, g, n => by
    subst e1
    exact n s [] [] (Aft.refl s) R1 S1 rfl (show Go K Wx Gm s (k [] eta s.hp) Q' from g)
  | (key, F) :: ps, σ, H, Q, _, _, Gm, k, Q', s, eta, e1, R1, S1, g, n => by
    subst e1
    show tE K Wx F σ s.H fun y H2 => tPairs (ps.map fun p => (tC (kV p.1), tE K Wx p.2)) σ H2 fun qs H3 => Q ((kV key, y) :: qs) H3
    have g' : Go K Wx Gm s ((F eta s.hp).bind fun w h1 => (mVals ps eta h1).bind fun ws h2 => k ((key, w) :: ws) eta h2) Q' := by
      have e : ((mVals ((key, F) :: ps) eta s.hp).bind fun a h1 => k a eta h1) = (F eta s.hp).bind fun w h1 => (mVals ps eta h1).bind fun ws h2 => k ((key, w) :: ws) eta h2 := by
        simp only [mVals]
        cases F eta s.hp with
        | ok w h1 =>
          simp only [Res.bind]
          cases mVals ps eta h1 <;> rfl
        | er _ _ _ => rfl
        | bad => rfl
      rw [← e]; exact g
    refine ⟨s, eta, rfl, R1, S1, Go.bind g' fun w v s2 A2 R2 r2 _ g2 => ?_⟩
    exact vals_pairs (Gam := Gam) ps (k := fun ws eta h2 => k ((key, w) :: ws) eta h2) rfl R2 (S1.aft A2 R1) g2 fun s3 ws vs A3 R3 S3 r3 g3 =>
      n s3 ((key, w) :: ws) ((key, v) :: vs) (A2.trans A3) R3 S3 ⟨v, vs, rfl, r2.aft A3 R2, r3⟩ g3
theorem ie_disp {keys : List (Option Expr)} {values : List Expr} {ps : List (Key × M W)} (h : IPs X Wx pos keys values ps) (h0 : keys ≠ [] := by simp) (h15 : keys.length ≤ 15 := by decide) : IE X Wx (.Dict keys values pos) (mDisp ps) :=
  PE.imp (pe_disp h.run h.len.2.2 (h.len.1.trans h.len.2.1.symm) h0 h15) fun σ H Q q => by
    obtain ⟨s, eta, e1, R1, S1, g⟩ := q
    subst e1
    intro p np
    have A1 := aft_addL R1 np (c := .dic []) (o := .dK [])
    have R2 : Rel X.K (s.addL p (.dic []) (.dK [])) := rel_addL R1 np ⟨[], rfl, rfl⟩
    refine vals_pairs (Gam := fun _ (_ : Unit) _ => True) (Gm := Rw X.K) (Q' := Q) (k := fun kvs eta h1 => (match getD h1 s.hp.length with
      | some [] => if kvs.length ≤ 15 then .ok (.r s.hp.length) (h1.set s.hp.length (some (.dic (mergeW [] kvs)))) else .bad
      | _ => .bad : Res W)) ps (s := s.addL p (.dic []) (.dK [])) rfl R2 (S1.aft A1 R1) (Go.aft g A1) fun s' ws vs A' R' S' r' g' => ?_
    have hr : s'.rho[s.hp.length]? = some p := by
      obtain ⟨ex, e, _⟩ := A'.pre
      rw [e]
      have e0 : (s.addL p (.dic []) (.dK [])).rho = s.rho ++ [p] := rfl
      rw [e0, ← R1.len, List.getElem?_append_left (by simp)]
      simp
    split at g'
    · rename_i hd
      split at g'
      · rename_i hn
        obtain ⟨a, us, e, e2, e3, l, _⟩ := R'.dic hd (show Rw X.K s' (.r s.hp.length) (.ref p) from ⟨p, hr, rfl⟩)
        cases e
        rw [show us = [] from l] at e3
        refine ⟨e3, vs, rfl, by rw [← r'.length]; exact hn, ?_⟩
        have A := aft_setL R' (getD_eq hd) hr (c := .dic (mergeW [] ws)) (o := .dK (mergeK [] vs))
        exact g' (.ref p) (s'.setL s.hp.length p (.dic (mergeW [] ws)) (.dK (mergeK [] vs))) rfl A (rel_setL R' (getD_eq hd) hr ⟨_, rfl, RwK.merge r' (show RwK X.K s' [] [] from rfl)⟩) ⟨p, hr, rfl⟩
      · exact g'.elim
    · exact g'.elim
end
end Mir

/-! Mir9: operators by what stands there, chains, turned lists, list(range(..)), unpacked lists, items set, repr. -/
namespace Mir
open PySem PySem.Spec L2
open PyProof.Rows hiding St

/-! ### + : ints, texts, tuples, lists -/
/-- t + u of tuples, the object of a new one known -/
def rCatB (K : PySem.W.Frag) : R2 := fun x y H Q => ∃ a b xs ys, x = .ref a ∧ y = .ref b ∧ SqT K H a xs ∧ SqT K H b ys ∧ xs.length + ys.length ≤ sizeLine ∧
  (xs = [] → Q (.ref b) H) ∧ (xs ≠ [] → ys = [] → Q (.ref a) H) ∧ (xs ≠ [] → ys ≠ [] → ∀ (p : Addr) (o : Obj), H p = none → o.dict = none → Q (.ref p) (upd H p (.frz o (.tup (xs ++ ys)))))
theorem op_catB {X : Cx} : OpR X (binaryOp .Add) (rCatB X.K) := by
  intro pn s0 σ H x y v u Q J rx ry h
  obtain ⟨a, b, xs, ys, ex, ey, ha, hb, hz, q0, q1, q2⟩ := h
  subst ex ey
  by_cases hx : xs = []
  · exact op_catA pn s0 σ H _ _ v u Q J rx ry ⟨a, b, xs, ys, rfl, rfl, ha, hb, hz, q0, fun c => absurd hx c, fun c => absurd hx c⟩
  · cases rx
    cases ry
    obtain ⟨its, r1, p1, _⟩ := J.tuple ha
    obtain ⟨its2, r2, p2, _⟩ := J.tuple hb
    refine HT.cat_tup p1 p2 (fun z => hx (r1.nil_iff.mp z)) (fun z => ⟨.ref a, H, J, rfl, q1 hx (r2.nil_iff.mp z)⟩) (fun z => ?_) (by rw [← r1.length, ← r2.length]; exact hz)
    exact laid_tup (t' := s0.toks) J (r1.append r2) (by rw [List.length_append]; exact hz) (q2 hx fun c => z (r2.nil_iff.mpr c))
def wAdd : Op2 := fun a b hp => match a, b with
  | .t (.int i), .t (.int j) => .ok (.t (.int (i + j))) hp
  | .t (.str x), .t (.str y) => if x.length + y.length ≤ 16777216 then .ok (.t (.str (x ++ y))) hp else .bad
  | .t (.tup xs), .t (.tup ys) => if xs.length + ys.length ≤ 16777216 then .ok (.t (.tup (xs ++ ys))) hp else .bad
  | a, b => (match (hitems hp a).bind allT, (hitems hp b).bind allT with
    | some xs, some ys => if xs.length + ys.length ≤ 16777216 then .ok (.t (.lst (xs ++ ys))) hp else .bad
    | _, _ => .bad)
abbrev rAdd (K : PySem.W.Frag) : R2 := fun x y H Q => rI0 (fun i j => .int (i + j)) x y H Q ∨ (fun x y H Q => ∃ i j, x = .str i ∧ y = .str j ∧ i.length + j.length ≤ sizeLine ∧ Q (.str (i ++ j)) H : R2) x y H Q ∨ rCatB K x y H Q ∨ rCat x y H Q
theorem op_addA {X : Cx} : OpR X (binaryOp .Add) (rAdd X.K) := OpR.or op_add (OpR.or op_add_str (OpR.or op_catB op_cat))
section
variable {K : PySem.W.Frag} {Wx : WX}
theorem RfL.append {fz : Addr → Prop} {H : Hp} : ∀ {ws ws' : List T} {vs vs' : List V}, RfL K fz H ws vs → RfL K fz H ws' vs' → RfL K fz H (ws ++ ws') (vs ++ vs')
  | [], _, _, _, h, h' => by simp only [RfL] at h; subst h; exact h'
  | x :: xs, _, vs, _, h, h' => by
    simp only [RfL] at h
    obtain ⟨v, r, e, a, b⟩ := h
    subst e
    simp only [List.cons_append, RfL]
    exact ⟨v, _, rfl, a, RfL.append b h'⟩
theorem RfL.nil_of {fz : Addr → Prop} {H : Hp} {ts : List T} (h : RfL K fz H ts []) : ts = [] := by
  cases ts with
  | nil => rfl
  | cons t ts =>
    simp only [RfL] at h
    obtain ⟨v, r, e, _⟩ := h
    cases e
theorem ok_add : Op2Ok K Wx wAdd (rAdd K) := by
  intro s a b x y Q R ra rb go
  unfold wAdd at go
  split at go
  · simp only [Rw, Rf] at ra rb
    exact .inl ⟨_, _, ra, rb, go _ s rfl (Aft.refl s) R (by simp [Rw, Rf])⟩
  · split at go
    · rename_i hz
      simp only [Rw, Rf] at ra rb
      exact .inr (.inl ⟨_, _, ra, rb, by rw [sizeLine_eq]; exact hz, go _ s rfl (Aft.refl s) R (by simp [Rw, Rf])⟩)
    · exact go.elim
  · split at go
    · rename_i xs ys hz
      obtain ⟨p, us, e1, t1, q1⟩ : ∃ a vs, x = .ref a ∧ FTup K s.fz s.H a vs ∧ RfL K s.fz s.H xs vs := by simpa only [Rw, Rf] using ra
      obtain ⟨p2, us2, e2, t2, q2⟩ : ∃ a vs, y = .ref a ∧ FTup K s.fz s.H a vs ∧ RfL K s.fz s.H ys vs := by simpa only [Rw, Rf] using rb
      refine .inr (.inr (.inl ⟨p, p2, us, us2, e1, e2, t1.sq, t2.sq, by rw [← RfL.length q1, ← RfL.length q2, sizeLine_eq]; exact hz, fun c => ?_, fun _ c => ?_, fun _ _ q o np d => ?_⟩))
      · subst c
        rw [RfL.nil_of q1] at go
        rw [← e2]
        exact go _ s rfl (Aft.refl s) R rb
      · subst c
        rw [RfL.nil_of q2, List.append_nil] at go
        rw [← e1]
        exact go _ s rfl (Aft.refl s) R ra
      · exact go (.ref q) (s.addF q (.frz o (.tup (us ++ us2)))) rfl (aft_addF R np) (rel_addF R np) (addF_tup R np d (RfL.append q1 q2))
    · exact go.elim
  · split at go
    · rename_i xs ys hx hy
      split at go
      · rename_i hz
        rw [Option.bind_eq_some_iff] at hx hy
        obtain ⟨ws, h1, h2⟩ := hx
        obtain ⟨ws2, h3, h4⟩ := hy
        obtain ⟨p, us, e1, t1, q1⟩ := hitems_eq R h1 ra
        obtain ⟨p2, us2, e2, t2, q2⟩ := hitems_eq R h3 rb
        rw [allT_eq h2] at q1
        rw [allT_eq h4] at q2
        have l1 := RwL.of_trees.mp q1
        have l2 := RwL.of_trees.mp q2
        exact .inr (.inr (.inr ⟨p, p2, us, us2, e1, e2, t1, t2, by rw [← RfL.length l1, ← RfL.length l2, sizeLine_eq]; exact hz, fun q np =>
          go (.ref q) (s.addF q (.lst (us ++ us2))) rfl (aft_addF R np) (rel_addF R np) (addF_lst R np (RfL.append l1 l2))⟩))
      · exact go.elim
    · exact go.elim
end
/-! ### * : ints, a list times an int -/
def repT (n : Nat) (ts : List T) : List T := (List.replicate n ts).flatten
def wMul : Op2 := fun a b hp => match a, b with
  | .t (.int i), .t (.int j) => if cMul i j = true then .ok (.t (.int (i * j))) hp else .bad
  | a, .t (.int k) => (match (hitems hp a).bind allT with
    | some ts => if -(2 ^ 63) ≤ k ∧ k < 2 ^ 63 ∧ ts.length * k.toNat ≤ 16777216 then .ok (.t (.lst (repT k.toNat ts))) hp else .bad
    | none => .bad)
  | _, _ => .bad
abbrev rMulA : R2 := fun x y H Q => rI CMulW (fun i j => .int (i * j)) x y H Q ∨ rRep x y H Q
theorem op_mulA {X : Cx} : OpR X (binaryOp .Mult) rMulA := OpR.or op_mulW op_rep
theorem rep_rf {K : PySem.W.Frag} {fz : Addr → Prop} {H : Hp} {ts : List T} {vs : List V} (h : RfL K fz H ts vs) : ∀ n : Nat, RfL K fz H (repT n ts) (List.replicate n vs).flatten
  | 0 => by simp [repT, RfL]
  | n + 1 => by
    have := RfL.append h (rep_rf h n)
    simpa [repT, List.replicate_succ] using this
theorem ok_mul {K : PySem.W.Frag} {Wx : WX} : Op2Ok K Wx wMul rMulA := by
  intro s a b x y Q R ra rb go
  unfold wMul at go
  split at go
  · split at go
    · rename_i hc
      simp only [Rw, Rf] at ra rb
      exact .inl ⟨_, _, ra, rb, by simpa [cMul, CMulW] using hc, go _ s rfl (Aft.refl s) R (by simp [Rw, Rf])⟩
    · exact go.elim
  · rename_i k _
    split at go
    · rename_i ts hx
      split at go
      · rename_i hz
        rw [Option.bind_eq_some_iff] at hx
        obtain ⟨ws, h1, h2⟩ := hx
        obtain ⟨p, us, e1, t1, q1⟩ := hitems_eq R h1 ra
        rw [allT_eq h2] at q1
        have l1 := RwL.of_trees.mp q1
        have ey : y = .int k := by simpa only [Rw, Rf] using rb
        exact .inr ⟨p, k, us, e1, ey, t1, hz.1, hz.2.1, by rw [← RfL.length l1, sizeLine_eq]; exact hz.2.2, fun q np =>
          go (.ref q) (s.addF q (.lst (List.replicate k.toNat us).flatten)) rfl (aft_addF R np) (rel_addF R np) (addF_lst R np (rep_rf l1 k.toNat))⟩
      · exact go.elim
    · exact go.elim
  · exact go.elim
/-! ### < : ints, texts -/
def wLt : Op2 := fun a b hp => match a, b with
  | .t (.int i), .t (.int j) => .ok (.t (.bl (decide (i < j)))) hp
  | .t (.str x), .t (.str y) => .ok (.t (.bl (ltCps x.cps.toList y.cps.toList))) hp
  | _, _ => .bad
abbrev rLtA : R2 := fun x y H Q => rI0 (fun i j => .bl (decide (i < j))) x y H Q ∨ (fun x y H Q => ∃ i j, x = .str i ∧ y = .str j ∧ Q (.bl (decide (i.cps.toList < j.cps.toList))) H : R2) x y H Q
theorem op_ltA {X : Cx} : OpR X (compareOp .Lt) rLtA := OpR.or op_lt op_lt_str
theorem ok_lt {K : PySem.W.Frag} {Wx : WX} : Op2Ok K Wx wLt rLtA := by
  intro s a b x y Q R ra rb go
  unfold wLt at go
  split at go
  · simp only [Rw, Rf] at ra rb
    exact .inl ⟨_, _, ra, rb, go _ s rfl (Aft.refl s) R (by simp [Rw, Rf])⟩
  · simp only [Rw, Rf] at ra rb
    exact .inr ⟨_, _, ra, rb, go _ s rfl (Aft.refl s) R (by simp only [Rw, Rf, ltCps_eq])⟩
  · exact go.elim
/-! ### +=, -=, *=, //= of ints -/
def iMulS : Op2 := opI (fun i j => decide ((-(2 ^ 64) < i ∧ i < 2 ^ 64) ∨ (-(2 ^ 64) < j ∧ j < 2 ^ 64))) fun i j => i * j
theorem ok_iMulS {K : PySem.W.Frag} {Wx : WX} : Op2Ok K Wx iMulS (rI CMul fun i j => .int (i * j)) := ok_opI fun i j h => by simpa [CMul] using h
theorem ok_iDiv {K : PySem.W.Frag} {Wx : WX} : Op2Ok K Wx iDiv (rI CDivW fun i j => .int (i / j)) := ok_opI fun i j h => by simpa [cDiv, CDivW] using h
section
variable {X : Cx} {Wx : WX} {a b c e : Expr} {Fa Fb Fc F : M W} {pos : Pos}
theorem ie_addA (ha : IE X Wx a Fa) (hb : IE X Wx b Fb) : IE X Wx (.BinOp a .Add b pos) (mBin wAdd Fa Fb) := ie_bin op_addA ok_add ha hb
theorem ie_mulA (ha : IE X Wx a Fa) (hb : IE X Wx b Fb) : IE X Wx (.BinOp a .Mult b pos) (mBin wMul Fa Fb) := ie_bin op_mulA ok_mul ha hb
theorem ie_ltA (ha : IE X Wx a Fa) (hb : IE X Wx b Fb) : IE X Wx (.Compare a [.Lt] [b] pos) (mBin wLt Fa Fb) := ie_cmp op_ltA ok_lt ha hb (nomark _)
theorem it_ltA (ha : IE X Wx a Fa) (hb : IE X Wx b Fb) : IT X Wx (.Compare a [.Lt] [b] pos) (mTest asB (mBin wLt Fa Fb)) := it_cmp op_ltA ok_lt ha hb (nomark _)

/-! ### chains -/
theorem t_chain {f f' : Op2} {r r' : R2} (hf : Op2Ok X.K Wx f r) (hf' : Op2Ok X.K Wx f' r') : ∀ σ H Q, tE X.K Wx (mChain f f' Fa Fb Fc) σ H Q → tChain r r' (tE X.K Wx Fa) (tE X.K Wx Fb) (tE X.K Wx Fc) σ H Q := by
  intro σ H Q h
  refine tM.bind2 (Fam' := Rw X.K) (R := fun (x y : V) (H2 : Hp) => r x y H2 fun z H3 => ∃ k, z = .bl k ∧ (if k = true then tE X.K Wx Fc σ H3 (fun w' H4 => r' y w' H4 Q) else Q (.bl false) H3))
    (k := fun a b eta h2 => (f a b h2).bind fun z h3 => match z with
      | .t (.bl true) => (Fc eta h3).bind fun c h4 => f' b c h4
      | .t (.bl false) => .ok (.t (.bl false)) h3
      | _ => .bad) Rw.keep h fun s eta a b a' b' R1 S1 f1 f2 g => ?_
  refine hf s a a' b b' _ R1 f1 f2 (Go.bind g fun z z' s2 A2 R2 r2 _ g2 => ?_)
  split at g2
  · simp only [Rw, Rf] at r2
    subst r2
    refine ⟨true, rfl, ?_⟩
    rw [if_pos rfl]
    exact ⟨s2, eta, rfl, R2, S1.aft A2 R1, Go.bind g2 fun w w' s3 A3 R3 r3 _ g3 => hf' s3 a' w b' w' Q R3 ((f2.aft A2 R1).aft A3 R2) r3 g3⟩
  · simp only [Rw, Rf] at r2
    subst r2
    refine ⟨false, rfl, ?_⟩
    rw [if_neg (by decide)]
    exact g2 _ s2 rfl (Aft.refl s2) R2 (by simp [Rw, Rf])
  · exact g2.elim
theorem ie_chain {op op' : CmpOp} {f f' : Op2} {r r' : R2} (ho : OpR X (compareOp op) r) (hf : Op2Ok X.K Wx f r) (ho' : OpR X (compareOp op') r') (hf' : Op2Ok X.K Wx f' r') (ha : IE X Wx a Fa) (hb : IE X Wx b Fb) (hc : IE X Wx c Fc)
    (hm : lastMarks [op, op'] [b, c] = false := by with_unfolding_all rfl) : IE X Wx (.Compare a [op, op'] [b, c] pos) (mChain f f' Fa Fb Fc) := PE.imp (pe_chain ho ho' ha hb hc hm) (t_chain hf hf')
theorem it_chain {op op' : CmpOp} {f f' : Op2} {r r' : R2} (ho : OpR X (compareOp op) r) (hf : Op2Ok X.K Wx f r) (ho' : OpR X (compareOp op') r') (hf' : Op2Ok X.K Wx f' r') (ha : IE X Wx a Fa) (hb : IE X Wx b Fb) (hc : IE X Wx c Fc)
    (hm : lastMarks [op, op'] [b, c] = false := by with_unfolding_all rfl) : IT X Wx (.Compare a [op, op'] [b, c] pos) (mTest asB (mChain f f' Fa Fb Fc)) := PT.imp (pt_chain ho ho' ha hb hc hm) fun σ H Q h => by
  have h' : tE X.K Wx (mChain f f' Fa Fb Fc) σ H (fun x H1 => ∃ k, x = .bl k ∧ Q k H1) := tM.bind1 (R := fun (x : V) (H1 : Hp) => ∃ k, x = .bl k ∧ Q k H1) (k := fun (a : W) _ hp => asB a hp) h fun s eta a b R1 _ f1 g => go_asB R1 f1 g
  exact t_chain hf hf' σ H _ h'
end
/-! ### xs[::-1] -/
def oRev : Op1 := fun a hp => match (litems hp a).bind allT with
  | some ts => .ok (.t (.lst ts.reverse)) hp
  | none => .bad
theorem rf_rev {K : PySem.W.Frag} {fz : Addr → Prop} {H : Hp} : ∀ {ts : List T} {vs : List V}, RfL K fz H ts vs → RfL K fz H ts.reverse vs.reverse
  | [], _, h => by simp only [RfL] at h; subst h; simp [RfL]
  | x :: xs, vs, h => by
    simp only [RfL] at h
    obtain ⟨v, r, e, a, b⟩ := h
    subst e
    rw [List.reverse_cons, List.reverse_cons]
    exact RfL.append (rf_rev b) (by simp only [RfL]; exact ⟨v, [], rfl, a, rfl⟩)
section
variable {X : Cx} {Wx : WX} {e st : Expr} {F : M W} {pos p3 : Pos}
theorem t_rev : ∀ σ H Q, tE X.K Wx (mUn oRev F) σ H Q → tRevL X.K (tE X.K Wx F) σ H Q := fun σ H Q h =>
  tM.bind1 (R := fun (x : V) (H1 : Hp) => ∃ a xs, x = .ref a ∧ SqL X.K H1 a xs ∧ ∀ p, H1 p = none → Q (.ref p) (upd H1 p (.lst xs.reverse))) (k := fun (a : W) _ hp => oRev a hp) h fun s eta a b R1 _ f1 g => by
    unfold oRev at g
    split at g
    · rename_i ts hx
      rw [Option.bind_eq_some_iff] at hx
      obtain ⟨ws, h1, h2⟩ := hx
      obtain ⟨p, us, e1, t1, q1⟩ := litems_sq R1 h1 f1
      rw [allT_eq h2] at q1
      exact ⟨p, us, e1, t1, fun q np => g (.ref q) (s.addF q (.lst us.reverse)) rfl (aft_addF R1 np) (rel_addF R1 np) (addF_lst R1 np (rf_rev (RwL.of_trees.mp q1)))⟩
    · exact g.elim
theorem ie_rev {k : Nat} {p1 p2 : Pos} (he : IE X Wx e F) : IE X Wx (.Subscript e (.Slice none none (some (.UnaryOp .USub (.Constant (.int 1) k p1) p2)) p3) pos) (mUn oRev F) := PE.imp (pe_revL he) t_rev
/-- the step written in another way -/
theorem pe_revX {te ts : TE} (he : PE X e te) (hs : PE X st ts) (h1 : ∀ σ H (Q : VK), Q (.int (-1)) H → ts σ H Q) : PE X (.Subscript e (.Slice none none (some st) p3) pos) (tRevL X.K te) := by
  refine ⟨fun pn s0 σ H Q J h => Subscript_ (thn (he.run pn s0 σ H _ J h) fun v s1 w => ?_)⟩
  obtain ⟨x, H1, J1, r1, a, xs, ex, hx, q⟩ := w
  subst ex
  cases r1
  have hst : PO X (some st) (tPart ts) := po_some hs
  refine wpAny_Slice (thn (po_none.run pn s1 σ H1 (fun o Hb => o = none ∧ Hb = H1) J1 ⟨rfl, rfl⟩) fun vl s2 w2 => ?_)
  obtain ⟨l, H2, J2, pl, el, e2⟩ := w2
  subst el e2
  refine thn (po_none.run pn s2 σ H2 (fun o Hb => o = none ∧ Hb = H2) J2 ⟨rfl, rfl⟩) fun vu s3 w3 => ?_
  obtain ⟨u, H3, J3, pu, eu, e3⟩ := w3
  subst eu e3
  refine thn (hst.run pn s3 σ H3 (fun o Hb => o = some (-1) ∧ Hb = H3) J3 (h1 σ H3 _ ⟨-1, rfl, rfl, rfl⟩)) fun vs s4 w4 => ?_
  obtain ⟨o, H4, J4, ps, eo, e4⟩ := w4
  subst eo e4
  have J5 : Inv X pn σ H4 { s4 with heap := s4.heap.push { cls := .type "slice", data := .fields #[vl, vu, vs] } } := J4.kept (t' := s4.toks) fun b ob c => Heap.get?_push_of_some _ c
  obtain ⟨its, rv, ht, hz⟩ := J5.list hx
  have hlen := rv.length
  show wpAny (model X.prog X.w) X.A (subscriptTail e (.Slice none none (some st) p3) (.ref a) (.ref s4.heap.objs.size)) (EP X pn σ Q) X.xe { s4 with heap := s4.heap.push { cls := .type "slice", data := .fields #[vl, vu, vs] } }
  refine tail_any (ops := [.ref a, .ref s4.heap.objs.size]) ht.isList.typeIs (PySem.slot_list_getitem.lookup) ?_ (by with_unfolding_all rfl)
  refine wpAny_getItem_list_slice ht.isList (Heap.IsSliceOf.new _ vl vu vs) pl pu ps (by decide) ?_ (by rw [List.size_toArray]; omega)
  rw [PySem.W.krv_pick]
  exact ⟨.ref _, _, J5.laid (t' := s4.toks) (o := .lst xs.reverse) (fun b ob c => Heap.get?_push_of_some _ c) (Nat.le_refl _) ⟨by rw [List.length_reverse]; exact hz, _, 0, rv.reverse, Heap.get?_push_size _ rfl⟩, rfl, q _ (J5.hok.fresh (Nat.le_refl _))⟩
/-- xs[::0 - 1] -/
theorem ie_rev0 {k1 k2 : Nat} {p1 p2 p4 : Pos} (he : IE X Wx e F) : IE X Wx (.Subscript e (.Slice none none (some (.BinOp (.Constant (.int 0) k1 p1) .Sub (.Constant (.int 1) k2 p2) p4)) p3) pos) (mUn oRev F) :=
  PE.imp (pe_revX he (pe_op op_sub pe_int pe_int) fun σ H Q q => ⟨0, 1, rfl, rfl, q⟩) t_rev
end
/-! ### list(range(..)) -/
def rgT (a b : Int) : List T := (List.range (b - a).toNat).map fun i => T.int (a + (i : Nat))
def rgOk (a b : Int) : Bool := decide (-(2 ^ 62) ≤ a ∧ a < 2 ^ 62 ∧ -(2 ^ 62) ≤ b ∧ b < 2 ^ 62 ∧ (b - a).toNat ≤ 2 ^ 24)
def oRg1 (live : Bool) : OpN := fun ws hp => match ws with
  | [.t (.int n)] => if rgOk 0 n = true then (if live then .ok (.r hp.length) (hp ++ [some (.lst ((rgT 0 n).map W.t))]) else .ok (.t (.lst (rgT 0 n))) hp) else .bad
  | _ => .bad
theorem rg_rf {K : PySem.W.Frag} {fz : Addr → Prop} {H : Hp} (a b : Int) : RfL K fz H (rgT a b) (rgV a b) := by
  have h : ∀ (f : Nat → Int) (l : List Nat), RfL K fz H (l.map fun i => T.int (f i)) (l.map fun i => V.int (f i)) := by
    intro f l
    induction l with
    | nil => simp [RfL]
    | cons x l ih => simp only [List.map_cons, RfL]; exact ⟨_, _, rfl, by simp [Rf], ih⟩
  exact h (fun i => a + (i : Nat)) _
section
variable {X : Cx} {Wx : WX} {e a : Expr} {Fs : M (List W)} {p p1 pos pos1 : Pos} {live : Bool}
theorem ie_listRg (hc : X.calm = true) (hm : X.mg "list" = none) (hm2 : X.mg "range" = none) (ha : IA X Wx [a] Fs) (hg : Gl X "list" := by rfl) (hg2 : Gl X "range" := by rfl)
    (na : starEach [a] X.env = (false, eval a X.env) :: starEach [] X.env := by rfl) (nb : starEach [.Call (.Name "range" p1) [a] [] pos1] X.env = (false, eval (.Call (.Name "range" p1) [a] [] pos1) X.env) :: starEach [] X.env := by rfl) (t : TE) (hp : PE X a t) (ht : ∀ σ H Q, tA X.K Wx Fs σ H (fun xs H1 => ∃ x, xs = [x] ∧ Q x H1) → t σ H Q) :
    IE X Wx (.Call (.Name "list" p) [.Call (.Name "range" p1) [a] [] pos1] [] pos) (mApp (oRg1 live) Fs) :=
  PE.imp (pe_listRg hc hg hm (prg_1 hg2 hm2 hp na) nb) fun σ H Q h => by
    refine ht σ H _ (tM.bind1 (R := fun (xs : List V) (H1 : Hp) => ∃ x, xs = [x] ∧ ∃ n, x = V.int n ∧ RgOk 0 n ∧ ∀ q, H1 q = none → Q (.ref q) (upd H1 q (.lst (rgV 0 n)))) (k := fun (a : List W) _ hp => oRg1 live a hp) h fun s eta a b R1 _ f1 g => ?_)
    unfold oRg1 at g
    split at g
    · rename_i n
      obtain ⟨v, e1, r1⟩ := RwL.one f1
      simp only [Rw, Rf] at r1
      subst e1 r1
      split at g
      · rename_i ok
        have l := rg_rf (K := X.K) (fz := s.fz) (H := s.H) 0 n
        refine ⟨_, rfl, n, rfl, by simpa [rgOk, RgOk] using ok, fun q np => ?_⟩
        cases live with
        | false => exact g (.ref q) (s.addF q (.lst (rgV 0 n))) rfl (aft_addF R1 np) (rel_addF R1 np) (addF_lst R1 np l)
        | true => exact g (.ref q) (s.addL q (.lst ((rgT 0 n).map W.t)) (.lst (rgV 0 n))) rfl (aft_addL R1 np) (rel_addL R1 np ⟨_, rfl, RwL.of_trees.mpr l⟩) (addL_r R1)
      · exact g.elim
    · exact g.elim
end
end Mir

/-! MirA: pairs stored at once, lists unpacked, items set, a variable frozen, repr, globals. -/
namespace Mir
open PySem PySem.Spec L2
open PyProof.Rows hiding St

/-! ### a, b = x, y with any names -/
def mParG (n : Nat) (Fs : M (List W)) (Gs : List W → IS → Option IS) : M Fl := fun eta hp => (Fs eta hp).bind fun ws h1 => if ws.length = n ∧ n ≤ 16777216 then (match Gs ws eta with | some e => .ok (.nx e) h1 | none => .bad) else .bad
section
variable {X : Cx} {Wx : WX} {e : Expr} {es tgs : List Expr} {Fs : M (List W)} {F : M W} {pos p1 p2 : Pos} {gs : TGs} {Gs : List W → IS → Option IS} {vs : List Nat} {n k1 k2 : Nat}
theorem st_parG (hc : X.calm = true) (ha : IA X Wx es Fs) (hg : PGs X tgs gs) (ok : TgsOk X.K gs Gs vs) (hn : (assignEach tgs X.env).length = n := by rfl) (hst : (assignEach tgs X.env).findIdx? (·.1) = none := by rfl)
    (hs : swapsWithSole [.Tuple tgs k1 p1] (.Tuple es k2 p2) pos.line X.env = pure false := by rfl) (hw : swappedStores [.Tuple tgs k1 p1] (.Tuple es k2 p2) X.env = pure none := by rfl)
    (h1 : (assignEach [.Tuple tgs k1 p1] X.env).map (·.2) = [assign (.Tuple tgs k1 p1) X.env] := by rfl) : ISt X Wx (.Assign [.Tuple tgs k1 p1] (.Tuple es k2 p2) pos) (mParG n Fs Gs) :=
  PS.imp (ps_asg (pe_tup ha) (pg_tup hc hg hn hst) hs hw h1) fun D σ H h =>
    tM.bind1 (R := fun (xs : List V) (H1 : Hp) => xs.length ≤ sizeLine ∧ ∀ p, H1 p = none → gTup X.K n gs (.ref p) σ (upd H1 p (.tup xs)) D.nx)
      (k := fun (ws : List W) eta h1 => if ws.length = n ∧ n ≤ 16777216 then (match Gs ws eta with | some e => .ok (Fl.nx e) h1 | none => .bad) else .bad) h fun s eta ws xs R1 S1 f1 g1 => by
        split at g1
        · rename_i hl
          cases hG : Gs ws eta with
          | none => simp only [hG] at g1; exact g1.elim
          | some e1 =>
            simp only [hG] at g1
            have lx := RwL.length f1
            refine ⟨by rw [← lx, hl.1, sizeLine_eq]; exact hl.2, fun p np => ?_⟩
            have A := aft_addF (o := .tup xs) R1 np
            have R2 := rel_addF (o := .tup xs) R1 np
            obtain ⟨σ', S2, _, q⟩ := ok.run (s.addF p (.tup xs)) ws xs eta σ e1 R2 (RwL.aft A R1 _ _ f1) (S1.aft A R1) hG
            exact ⟨p, xs, rfl, .inl (.inl upd_same), by rw [← lx]; exact hl.1, q _ (Go.nx R2 S2 (Go.aft g1 A))⟩
        · exact g1.elim
/-! ### a, b = a tuple or a list -/
def gA (n : Nat) (Gs : List W → IS → Option IS) : W → IS → Option IS := fun w eta => match w with
  | .t (.tup ts) => if ts.length = n then Gs (ts.map W.t) eta else none
  | .t (.pr ts) => if ts.length = n then Gs (ts.map W.t) eta else none
  | .t (.lst ts) => if ts.length = n then Gs (ts.map W.t) eta else none
  | _ => none
theorem PG.or {t t' : TG} (h : PG X e t) (h' : PG X e t') : PG X e (fun v σ H Q => t v σ H Q ∨ t' v σ H Q) := ⟨fun pins s σ H v u Q I r hw => by
  rcases hw with q | q
  · exact h.run pins s σ H v u Q I r q
  · exact h'.run pins s σ H v u Q I r q⟩
theorem pg_any {k : Nat} (hc : X.calm = true) (h : PGs X tgs gs) (hn : (assignEach tgs X.env).length = n := by rfl) (hst : (assignEach tgs X.env).findIdx? (·.1) = none := by rfl) :
    PG X (.Tuple tgs k pos) (fun v σ H Q => gTup X.K n gs v σ H Q ∨ gLst X.K n gs v σ H Q) := PG.or (pg_tup hc h hn hst) (pg_lst hc h hn hst)
theorem tg_any {K : PySem.W.Frag} (h : TgsOk K gs Gs vs) : TgOk K (fun v σ H Q => gTup K n gs v σ H Q ∨ gLst K n gs v σ H Q) (gA n Gs) vs := ⟨fun s w v eta σ eta' R1 r S1 e => by
  unfold gA at e
  split at e
  · rename_i ts
    split at e
    · rename_i hn
      obtain ⟨a, xs, ev, t, l⟩ : ∃ a vs, v = .ref a ∧ FTup K s.fz s.H a vs ∧ RfL K s.fz s.H ts vs := by simpa only [Rw, Rf] using r
      obtain ⟨σ', S2, w2, q2⟩ := h.run s (ts.map W.t) xs eta σ eta' R1 (RwL.of_trees.mpr l) S1 e
      exact ⟨σ', S2, w2, fun Q q => .inl ⟨a, xs, ev, t.sq, by rw [← RfL.length l]; exact hn, q2 Q q⟩⟩
    · cases e
  · rename_i ts
    split at e
    · rename_i hn
      obtain ⟨a, xs, ev, t, l⟩ : ∃ a vs, v = .ref a ∧ FPr s.fz s.H a vs ∧ RfL K s.fz s.H ts vs := by simpa only [Rw, Rf] using r
      obtain ⟨σ', S2, w2, q2⟩ := h.run s (ts.map W.t) xs eta σ eta' R1 (RwL.of_trees.mpr l) S1 e
      exact ⟨σ', S2, w2, fun Q q => .inl ⟨a, xs, ev, t.sq, by rw [← RfL.length l]; exact hn, q2 Q q⟩⟩
    · cases e
  · rename_i ts
    split at e
    · rename_i hn
      obtain ⟨a, xs, ev, t, l⟩ : ∃ a vs, v = .ref a ∧ FLst s.fz s.H a vs ∧ RfL K s.fz s.H ts vs := by simpa only [Rw, Rf] using r
      obtain ⟨σ', S2, w2, q2⟩ := h.run s (ts.map W.t) xs eta σ eta' R1 (RwL.of_trees.mpr l) S1 e
      exact ⟨σ', S2, w2, fun Q q => .inr ⟨a, xs, ev, t.sq, by rw [← RfL.length l]; exact hn, q2 Q q⟩⟩
    · cases e
  · cases e⟩
end
/-! ### xs[i] = v, xs live -/
def mIput (Fd Fk Fv : M W) : M Fl := fun eta hp => (Fv eta hp).bind fun v h1 => (Fd eta h1).bind fun d h2 => (Fk eta h2).bind fun k h3 => match d, k with
  | .r i, .t (.int k) => (match getL h3 i with | some xs => (match ixN xs.length k with | some j => .ok (.nx eta) (h3.set i (some (.lst (xs.set j v)))) | none => .bad) | none => .bad)
  | _, _ => .bad
section
variable {X : Cx} {Wx : WX} {o i value : Expr} {Fo Fi Fv : M W} {pos pos' : Pos}
theorem st_iput (ho : IE X Wx o Fo) (hi : IE X Wx i Fi) (hv : IE X Wx value Fv)
    (ha : ∀ v, assign (.Subscript o i pos') X.env v = (do
      let ov ← holding [v] (eval o X.env)
      let iv ← holding [v, ov] (eval i X.env)
      standAt pos'
      holding [v, ov, iv] (setItem ov iv v)
      release [v, ov, iv] []) := by intro _; rfl) (hs : swapsWithSole [.Subscript o i pos'] value pos.line X.env = pure false := by rfl) (hw : swappedStores [.Subscript o i pos'] value X.env = pure none := by rfl)
    (h1 : (assignEach [.Subscript o i pos'] X.env).map (·.2) = [assign (.Subscript o i pos') X.env] := by rfl) : ISt X Wx (.Assign [.Subscript o i pos'] value pos) (mIput Fo Fi Fv) :=
  PS.imp (ps_asg hv (pg_sub ho hi set_list ha) hs hw h1) fun D σ H h =>
    tM.bind1 (R := fun v H1 => tE X.K Wx Fo σ H1 fun x H2 => tE X.K Wx Fi σ H2 fun y H3 => rSetL x y v H3 fun H4 => D.nx σ H4)
      (k := fun v eta h1 => (Fo eta h1).bind fun d h2 => (Fi eta h2).bind fun k h3 => (match d, k with
        | .r i, .t (.int k) => (match getL h3 i with | some xs => (match ixN xs.length k with | some j => .ok (Fl.nx eta) (h3.set i (some (.lst (xs.set j v)))) | none => .bad) | none => .bad)
        | _, _ => .bad : Res Fl)) h fun s eta a b R1 S1 f1 g1 => by
      refine ⟨s, eta, rfl, R1, S1, Go.bind g1 fun d d' s2 A2 R2 r2 _ g2 => ?_⟩
      refine ⟨s2, eta, rfl, R2, S1.aft A2 R1, Go.bind g2 fun k k' s3 A3 R3 r3 _ g3 => ?_⟩
      have S3 := (S1.aft A2 R1).aft A3 R2
      have rd := r2.aft A3 R2
      have rv := (f1.aft A2 R1).aft A3 R2
      split at g3
      · rename_i i k _ _
        split at g3
        · rename_i xs hx
          split at g3
          · rename_i j hj
            obtain ⟨p, vs, e, e1, e2, l, _⟩ := R3.lst hx rd
            have ek : k' = .int k := by simpa only [Rw, Rf] using r3
            have A := aft_setL R3 (getL_eq hx) e1 (c := .lst (xs.set j a)) (o := .lst (vs.set j b))
            exact ⟨p, vs, k, j, e, ek, e2, by rw [← RwL.length l]; exact hj, Go.nx (s := s3.setL i p (.lst (xs.set j a)) (.lst (vs.set j b))) (rel_setL R3 (getL_eq hx) e1 ⟨_, rfl, RwL.setL j l rv⟩) (S3.aft A R3) (Go.aft g3 A)⟩
          · exact g3.elim
        · exact g3.elim
      · exact g3.elim
end
/-! ### a variable frozen where it stands -/
def mFz (i : Nat) (B : M Fl) : M Fl := fun eta hp => match eta[i]? with
  | some (some w) => (freeze w hp).bind fun w' h1 => B (eta.set i (some w')) h1
  | _ => .bad
section
variable {X : Cx} {Wx : WX} {rest : List Stmt} {B : M Fl}
theorem sl_same {K : PySem.W.Frag} {s : S4} {eta : IS} {σ : St} (S1 : Sl K s eta σ) (i : Nat) {w : W} {v : V} (h : σ[i]? = some (some v)) (r : Rw K s w v) : Sl K s (eta.set i (some w)) σ := by
  have q := S1.set i r
  have e : σ.set i (some v) = σ := by
    apply List.ext_getElem?
    intro j
    by_cases hj : i = j
    · subst hj
      rw [List.getElem?_set_self (by exact (List.getElem?_eq_some_iff.mp h).1), h]
    · rw [List.getElem?_set_ne hj]
  rw [e] at q
  exact q
theorem is_fz (i : Nat) (h : ISs X Wx rest B) : ISs X Wx rest (mFz i B) := PSs.imp h fun D σ H q => by
  obtain ⟨s, eta, e1, R1, S1, g⟩ := q
  unfold mFz at g
  split at g
  · rename_i w hw
    obtain ⟨v, h1, h2⟩ := S1.2 i w hw
    cases w with
    | t x => exact ⟨s, _, e1, R1, sl_same S1 i h1 h2, g⟩
    | r j =>
      simp only [freeze] at g
      cases hl : (getL s.hp j).bind allT with
      | none => simp only [hl] at g; exact g.elim
      | some ts =>
        simp only [hl] at g
        rw [Option.bind_eq_some_iff] at hl
        obtain ⟨ws, q1, q2⟩ := hl
        obtain ⟨a, vs, e, ea, e2, l, _⟩ := R1.lst q1 h2
        subst e
        have A := aft_frz R1 (getL_eq q1) ea
        rw [allT_eq q2] at l
        refine ⟨s.frz j a, _, e1, rel_frz R1 (getL_eq q1) ea, sl_same (S1.aft A R1) i h1 ?_, Go.aft g A⟩
        simp only [Rw, Rf]
        exact ⟨a, vs, rfl, ⟨.inr rfl, e2⟩, RfL.aft A R1 _ _ (RwL.of_trees.mp l)⟩
  · exact g.elim
end
/-! ### repr -/
def oRepr : OpN := fun ws hp => match ws with
  | [w] => (match asT hp w with
    | some x => if fit x 60 = true ∧ (dat x).showable = true ∧ (dat x).shown.length ≤ 16777216 then .ok (.t (.str (dat x).shown)) hp else .bad
    | none => .bad)
  | _ => .bad
theorem fit_nodict : ∀ (x : T) (n : Nat), fit x n = true → (dat x).hasDict = false
  | .non, _, _ => rfl
  | .bl _, _, _ => rfl
  | .int _, _, _ => rfl
  | .str _, _, _ => rfl
  | .tup xs, 0, h => by simp [fit] at h
  | .tup xs, n + 1, h => by
    have : ∀ (xs : List T), fitL xs n = true → PyData.hasDictAll (datL xs) = false := by
      intro xs
      induction xs with
      | nil => intro _; rfl
      | cons x xs ih =>
        intro h
        simp only [fitL, Bool.and_eq_true] at h
        simp only [datL, PyData.hasDictAll, fit_nodict x n h.1, ih h.2, Bool.or_self]
    simpa [dat, PyData.hasDict] using this xs (by simpa [fit] using h)
  | .lst xs, 0, h => by simp [fit] at h
  | .lst xs, n + 1, h => by
    have : ∀ (xs : List T), fitL xs n = true → PyData.hasDictAll (datL xs) = false := by
      intro xs
      induction xs with
      | nil => intro _; rfl
      | cons x xs ih =>
        intro h
        simp only [fitL, Bool.and_eq_true] at h
        simp only [datL, PyData.hasDictAll, fit_nodict x n h.1, ih h.2, Bool.or_self]
    simpa [dat, PyData.hasDict] using this xs (by simpa [fit] using h)
  | .scr _, _, h => by simp [fit] at h
  | .pr _, _, h => by simp [fit] at h
  | .ty _, _, h => by simp [fit] at h
  | .dic _ _, _, h => by simp [fit] at h
  | .ins _ _ _, _, h => by simp [fit] at h
  | .cls _, _, h => by simp [fit] at h
  | .dit _ _, _, h => by simp [fit] at h
  | .exc _ _ _, _, h => by simp [fit] at h
termination_by _ n => n
def rRepr (K : PySem.W.Frag) : List V → Hp → VK → Prop := fun xs H Q => ∃ v d, xs = [v] ∧ Dp K H v d ∧ d.hasDict = false ∧ d.showable = true ∧ d.depth ≤ 60 ∧ d.shown.length ≤ sizeLine ∧ Q (.str d.shown) H
theorem call_reprD {X : Cx} (hgd : X.A.guards = some []) (hu : X.A.units + 64 < cLine) : CallR X (.builtin "repr") (rRepr X.K) := by
  intro pn s0 σ H xs us Q J r h
  obtain ⟨v, d, rfl, hd, hnd, hs, hdp, hz, q⟩ := h
  obtain ⟨u, rfl, rx⟩ := vals1 r
  obtain ⟨as, rd⟩ := Dp.reads J d v u hd rx
  have fin : ∀ (h' : Heap) (t : Tok) (tk : Nat), (∀ b o, s0.heap.get? b = some o → h'.get? b = some o) → EP X pn σ Q (.str d.shown t) { s0 with heap := h', toks := tk } := fun h' t tk hk => ⟨.str d.shown, H, J.kept (t' := tk) hk, ⟨t, rfl⟩, q⟩
  cases d with
  | none => cases rd; exact PySem.P.repr_of_none (fin s0.heap _ _ fun _ _ e => e)
  | bool b =>
    cases rd
    cases b
    · exact PySem.P.repr_of_bool (fin s0.heap _ _ fun _ _ e => e)
    · exact PySem.P.repr_of_bool (fin s0.heap _ _ fun _ _ e => e)
  | int i =>
    cases rd
    exact PySem.P.repr_of_int (by simpa [PyData.showable] using hs) (fin s0.heap _ _ fun _ _ e => e)
  | str x =>
    cases rd
    rw [PyData.shown_str] at hz
    exact PySem.P.repr_of_str (by have := fin s0.heap s0.toks (s0.toks + 1) fun _ _ e => e; rwa [PyData.shown_str] at this) hz
  | list xs =>
    obtain ⟨a, ea⟩ : ∃ a, u = .ref a := by cases rd; exact ⟨_, rfl⟩
    subst ea
    exact repr_of_reads' rd hs (fun z => by rw [hnd] at z; cases z) hgd (by omega) (fun _ _ e => e) fin hz
  | tuple xs =>
    obtain ⟨a, ea⟩ : ∃ a, u = .ref a := by cases rd; exact ⟨_, rfl⟩
    subst ea
    exact repr_of_reads' rd hs (fun z => by rw [hnd] at z; cases z) hgd (by omega) (fun _ _ e => e) fin hz
  | dict kvs => simp [PyData.hasDict] at hnd
theorem ok_repr {K : PySem.W.Frag} {Wx : WX} : OpNOk K Wx oRepr (rRepr K) := by
  intro s ws xs Q R r go
  unfold oRepr at go
  split at go
  · obtain ⟨v, e, rv⟩ := RwL.one r
    subst e
    split at go
    · rename_i x hx
      split at go
      · rename_i hf
        exact ⟨v, dat x, rfl, asT_dp R hx rv hf.1, fit_nodict x 60 hf.1, hf.2.1, (fit_plain x 60 hf.1).2, by rw [sizeLine_eq]; exact hf.2.2, go _ s rfl (Aft.refl s) R (by simp [Rw, Rf])⟩
      · exact go.elim
    · exact go.elim
  · exact go.elim
end Mir

/-! MirB: sorted of what stands there, turned lists that live, list(range(n)), sources that live. -/
namespace Mir
open PySem PySem.Spec L2
open PyProof.Rows hiding St

def oSort : OpN := fun ws hp => match ws with
  | [w] => (match litems hp w with
    | some xs => (match allW asI xs with
      | some ns => .ok (.t (.lst ((srtI ns).map T.int))) hp
      | none => (match allW asS xs with | some ns => if ns.length < 64 then .ok (.t (.lst ((srtS ns).map T.str))) hp else .bad | none => .bad))
    | none => .bad)
  | _ => .bad
theorem cr_sortA {X : Cx} : CallR X (.builtin "sorted") (fun xs H Q => rSortedI X.K xs H Q ∨ rSortedS X.K xs H Q) := CallR.or cr_sortedI cr_sortedS
theorem ok_sort {K : PySem.W.Frag} {Wx : WX} : OpNOk K Wx oSort (fun xs H Q => rSortedI K xs H Q ∨ rSortedS K xs H Q) := by
  intro s ws xs Q R r go
  unfold oSort at go
  split at go
  · rename_i w
    split at go
    · rename_i ys hy
      split at go
      · rename_i ns hn
        refine .inl (ok_sortI (Wx := Wx) s [w] xs Q R r ?_)
        simp only [oOnL, hy, Option.bind_some, hn]
        exact go
      · split at go
        · rename_i ns hn
          refine .inr (ok_sortS (Wx := Wx) s [w] xs Q R r ?_)
          simp only [oOnL, hy, Option.bind_some, hn]
          exact go
        · exact go.elim
    · exact go.elim
  · exact go.elim
/-- xs[::-1], a list that lives on -/
def oRevL : Op1 := fun a hp => match litems hp a with
  | some ws => .ok (.r hp.length) (hp ++ [some (.lst ws.reverse)])
  | none => .bad
theorem RwL.rev {K : PySem.W.Frag} {s : S4} : ∀ {ts : List W} {vs : List V}, RwL K s ts vs → RwL K s ts.reverse vs.reverse
  | [], _, h => by rw [show _ = [] from h]; rfl
  | x :: xs, vs, h => by
    obtain ⟨v, r, e, a, b⟩ := h
    subst e
    rw [List.reverse_cons, List.reverse_cons]
    exact RwL.append (RwL.rev b) (show RwL K s [x] [v] from ⟨v, [], rfl, a, rfl⟩)
section
variable {X : Cx} {Wx : WX} {e st a : Expr} {F : M W} {pos p3 p p1 pos1 : Pos} {live : Bool}
theorem t_revLv : ∀ σ H Q, tE X.K Wx (mUn oRevL F) σ H Q → tRevL X.K (tE X.K Wx F) σ H Q := fun σ H Q h =>
  tM.bind1 (R := fun (x : V) (H1 : Hp) => ∃ a xs, x = .ref a ∧ SqL X.K H1 a xs ∧ ∀ p, H1 p = none → Q (.ref p) (upd H1 p (.lst xs.reverse))) (k := fun (a : W) _ hp => oRevL a hp) h fun s eta a b R1 _ f1 g => by
    unfold oRevL at g
    split at g
    · rename_i ws h1
      obtain ⟨p, us, e1, t1, q1⟩ := litems_sq R1 h1 f1
      exact ⟨p, us, e1, t1, fun q np => g (.ref q) (s.addL q (.lst ws.reverse) (.lst us.reverse)) rfl (aft_addL R1 np) (rel_addL R1 np ⟨_, rfl, RwL.rev q1⟩) (addL_r R1)⟩
    · exact g.elim
theorem ie_revL {k : Nat} {p1 p2 : Pos} (he : IE X Wx e F) : IE X Wx (.Subscript e (.Slice none none (some (.UnaryOp .USub (.Constant (.int 1) k p1) p2)) p3) pos) (mUn oRevL F) := PE.imp (pe_revL he) t_revLv
theorem ie_rev0L {k1 k2 : Nat} {p1 p2 p4 : Pos} (he : IE X Wx e F) : IE X Wx (.Subscript e (.Slice none none (some (.BinOp (.Constant (.int 0) k1 p1) .Sub (.Constant (.int 1) k2 p2) p4)) p3) pos) (mUn oRevL F) :=
  PE.imp (pe_revX he (pe_op op_sub pe_int pe_int) fun σ H Q q => ⟨0, 1, rfl, rfl, q⟩) t_revLv
theorem ie_listRg1 (hc : X.calm = true) (hm : X.mg "list" = none) (hm2 : X.mg "range" = none) (ha : IE X Wx a F) (hg : Gl X "list" := by rfl) (hg2 : Gl X "range" := by rfl)
    (na : starEach [a] X.env = (false, eval a X.env) :: starEach [] X.env := by rfl) (nb : starEach [.Call (.Name "range" p1) [a] [] pos1] X.env = (false, eval (.Call (.Name "range" p1) [a] [] pos1) X.env) :: starEach [] X.env := by rfl) :
    IE X Wx (.Call (.Name "list" p) [.Call (.Name "range" p1) [a] [] pos1] [] pos) (mApp (oRg1 live) (mCons F mNil)) :=
  ie_listRg hc hm hm2 (ia_cons ha ia_nil na) hg hg2 na nb (tE X.K Wx F) ha fun σ H Q h =>
    tM.bind1 (R := Q) (k := fun (w : W) eta h1 => (mNil eta h1).bind fun r h2 => Res.ok (w :: r) h2) h fun s eta w v R1 S1 f1 g => by
      obtain ⟨x, e, q⟩ := g [v] s rfl (Aft.refl s) R1 ⟨v, [], rfl, f1, rfl⟩
      cases e
      exact q
end
end Mir

/-! MirC: one of two roads; index of a list or a tuple. -/
namespace Mir
open PySem PySem.Spec L2
open PyProof.Rows hiding St
section
variable {X : Cx} {Wx : WX} {o e : Expr} {Fo : M W} {Fs : M (List W)} {apos cpos : Pos}
theorem ie_alt {F F1 F2 : M W} (h1 : IE X Wx e F1) (h2 : IE X Wx e F2) (h : ∀ eta hp, F eta hp = F1 eta hp ∨ F eta hp = F2 eta hp) : IE X Wx e F := by
  refine ⟨fun pn s0 σ H Q J z => ?_⟩
  obtain ⟨s, eta, e1, R1, S1, g⟩ := z
  rcases h eta s.hp with k | k
  · exact h1.run pn s0 σ H Q J ⟨s, eta, e1, R1, S1, by rw [← k]; exact g⟩
  · exact h2.run pn s0 σ H Q J ⟨s, eta, e1, R1, S1, by rw [← k]; exact g⟩
/-- xs.index(x), xs a list or a tuple -/
def mIdxA (Fo : M W) (Fs : M (List W)) : M W := fun eta hp => match Fo eta hp with
  | .ok w h1 => if isTp w h1 = true then mMeth isTp oIndexT Fo Fs eta hp else mMeth isL oIndexS Fo Fs eta hp
  | _ => mMeth isL oIndexS Fo Fs eta hp
theorem ie_indexA (ho : IE X Wx o Fo) (ha : IA X Wx [e] Fs) (hb : attributeBase o "index" X.env (eval o X.env) = eval o X.env := by rfl)
    (hfew : ((backTo cpos (starEach [e] X.env)).all (fun x => !x.1) && (backToKw cpos (keywordEach [] X.env)).all (fun x => x.1.isSome) && decide ([e].length + ([] : List Keyword).length + (if ([] : List Keyword).isEmpty then 0 else 1) < 30)) = true := by rfl)
    (hline : (apos.endLine == cpos.line) = true := by rfl) (hs : starEach [e] X.env = (false, eval e X.env) :: starEach [] X.env := by rfl) : IE X Wx (.Call (.Attribute o "index" apos) [e] [] cpos) (mIdxA Fo Fs) := by
  refine ie_alt (ie_indexT ho ha hb hfew hline hs) (ie_index ho ha hb hfew hline hs) fun eta hp => ?_
  unfold mIdxA
  split
  · split
    · exact .inl rfl
    · exact .inr rfl
  · exact .inr rfl
end
end Mir

/-! MirD: comprehensions of two clauses. -/
namespace Mir
open PySem PySem.Spec L2
open PyProof.Rows hiding St
def compL2 (G : W → IS → Option IS) (T : M Bool) (Fe : M W) (G1 : W → IS → Option IS) (T1 : M Bool) (E : M W) (us1 : List Nat) (eta : IS) : Nat → List W → IH → Res (List W)
  | _, [], hp => .ok [] hp
  | n, w :: ws, hp => match G w eta with
    | none => .bad
    | some e1 => (noEr (T e1 hp)).bind fun b h1 => if b then (noEr (Fe e1 h1)).bind fun w1 h2 => match seqT w1 with
        | some ts => if n + ts.length ≤ 16777216 then (compL G1 T1 E (wipeI e1 us1) (ts.map W.t) h2).bind fun r h3 => (compL2 G T Fe G1 T1 E us1 eta (n + ts.length) ws h3).bind fun r2 h4 => .ok (r ++ r2) h4 else .bad
        | none => .bad
      else compL2 G T Fe G1 T1 E us1 eta n ws h1
def mComp2 (fin : OpN) (Fi : M (List W)) (G : W → IS → Option IS) (T : M Bool) (Fe : M W) (G1 : W → IS → Option IS) (T1 : M Bool) (E : M W) (us us1 : List Nat) : M W := fun eta hp => (Fi eta hp).bind fun ws h1 => (compL2 G T Fe G1 T1 E us1 (wipeI eta us) 0 ws h1).bind fun r h2 => fin r h2
theorem wipe_wipe (σ : St) (us : List Nat) : wipe (wipe σ us) us = wipe σ us := by
  apply List.ext_getElem?
  intro j
  by_cases hj : j ∈ us
  · by_cases hl : j < σ.length
    · rw [wipe_in hj (by rw [wipe_length]; exact hl), wipe_in hj hl]
    · rw [List.getElem?_eq_none (by rw [wipe_length, wipe_length]; simpa using hl), List.getElem?_eq_none (by rw [wipe_length]; simpa using hl)]
  · rw [wipe_get hj]
def kdW : W → Kd | .t (.tup _) => .t | _ => .l
theorem fsqK {K : PySem.W.Frag} {s : S4} (R : Rel K s) {w : W} {v : V} {ts : List T} (h : seqT w = some ts) (r : Rw K s w v) : ∃ a, v = .ref a ∧ FSq K s (kdW w) a ts := by
  obtain ⟨x, rfl, hx⟩ := seqT_of h
  have r : Rf K s.fz s.H x v := r
  rcases hx with h | h | h <;> subst h
  · obtain ⟨a, vs, e, t, l⟩ : ∃ a vs, v = .ref a ∧ FTup K s.fz s.H a vs ∧ RfL K s.fz s.H ts vs := by simpa only [Rf] using r
    exact ⟨a, e, vs, t.sq, l, fun s' A _ => (t.aft A R).sq⟩
  · obtain ⟨a, vs, e, t, l⟩ : ∃ a vs, v = .ref a ∧ FLst s.fz s.H a vs ∧ RfL K s.fz s.H ts vs := by simpa only [Rf] using r
    exact ⟨a, e, vs, t.sq, l, fun s' A _ => (t.aft A R).sq⟩
  · obtain ⟨a, vs, e, t, l⟩ : ∃ a vs, v = .ref a ∧ FScr K s.fz s.H a vs ∧ RfL K s.fz s.H ts vs := by simpa only [Rf] using r
    exact ⟨a, e, vs, t.sq, l, fun s' A _ => (t.aft A R).sq⟩
theorem Sl.congr {K : PySem.W.Frag} {s s' : S4} {eta : IS} {σ : St} (hr : s'.rho = s.rho) (hf : ∀ a, s.fz a → s'.fz a) (k : ∀ a, s.fz a → s'.H a = s.H a) (h : Sl K s eta σ) : Sl K s' eta σ :=
  ⟨h.1, fun i w e => let ⟨v, a, b⟩ := h.2 i w e; ⟨v, a, b.congr hr hf k⟩⟩
section
variable {X : Cx} {Wx : WX} {elt tg iter tg1 iter1 : Expr} {ifs ifs1 : List Expr} {scope : Scope} {Fi : M (List W)} {Fe : M W} {pos : Pos} {g g1 : TG} {G G1 : W → IS → Option IS} {vs vs1 : List Nat} {T T1 : M Bool} {E : M W} {fin : OpN} {own : List (Str × Nat)}
theorem t_comp2 (us us1 : List Nat) (ok : TgOk X.K g G vs) (hv : ∀ i ∈ vs, i ∈ us) (ok1 : TgOk X.K g1 G1 vs1) (hv1 : ∀ i ∈ vs1, i ∈ us1) (hf : FinOk X.K Wx fin) : ∀ σ H Q, tE X.K Wx (mComp2 fin Fi G T Fe G1 T1 E us us1) σ H Q →
    tLc2 (tM X.K Wx (SrcF X.K) Fi) g (tT X.K W0 T) (iSq X.K (tE X.K W0 Fe)) g1 (tT X.K W0 T1) (tE X.K W0 E) us us1 σ H Q := fun σ H Q h =>
  tM.bind1 (R := fun (J : It) (H1 : Hp) => ∀ D, H1 D = none → ∃ Wv : Nat → Nat → Hp → Prop, (∃ m, Wv 0 m (upd H1 D (.lst []))) ∧ ∀ i m H, Wv i m H →
      (J.stop i H ∧ Q (.ref D) H) ∨ (J.go i H ∧ ∃ Nx : Hp → Prop, (∀ H', Nx H' → ∃ m', m' < m ∧ Wv (i + 1) m' H') ∧ ∀ x H', J.yld i H x H' → g x (wipe σ us) H' fun σ2 H2 => wipe σ2 us = wipe σ us ∧ tT X.K W0 T σ2 H2 fun b H3 =>
        if b = true then iSq X.K (tE X.K W0 Fe) σ2 H3 fun J1 H4 => ∃ W1 : Nat → Nat → Hp → Prop, (∃ m, W1 0 m H4) ∧ ∀ j k H, W1 j k H →
          (J1.stop j H ∧ Nx H) ∨ (J1.go j H ∧ ∃ Nx1 : Hp → Prop, (∀ H', Nx1 H' → ∃ k', k' < k ∧ W1 (j + 1) k' H') ∧ ∀ x H', J1.yld j H x H' → g1 x (wipe σ2 us1) H' fun σ3 H5 => wipe σ3 us1 = wipe σ2 us1 ∧ tT X.K W0 T1 σ3 H5 fun b H6 =>
            if b = true then tE X.K W0 E σ3 H6 fun y H7 => ∃ acc, H7 D = some (.lst acc) ∧ acc.length < sizeLine ∧ Nx1 (upd H7 D (.lst (acc ++ [y]))) else Nx1 H6)
        else Nx H3))
    (k := fun (ws : List W) eta hp => (compL2 G T Fe G1 T1 E us1 (wipeI eta us) 0 ws hp).bind fun r h2 => fin r h2) h fun s0 eta ws J R0 S0 src g0 D hD => by
    have hw : Sl X.K s0 (wipeI eta us) (wipe σ us) := S0.wipe us
    let P : Nat → Hp → Prop := fun i H => ∃ (n : Nat) (s : S4) (acc : List W) (xs : List V), s.H = H ∧ Aft s0 s ∧ Rel X.K s ∧ D ∉ s.rho ∧ ¬ s.fz D ∧ s.H D = some (.lst xs) ∧ RwL X.K s acc xs ∧ acc.length ≤ n ∧
          Go X.K Wx (Rw X.K) s0 ((compL2 G T Fe G1 T1 E us1 (wipeI eta us) n (ws.drop i) s.hp).bind fun r h => fin (acc ++ r) h) Q
    refine ⟨fun i m H => m = ws.length - i ∧ i ≤ ws.length ∧ P i H, ⟨ws.length, by simp, Nat.zero_le _, 0, s0.setD D (.lst []), [], [], rfl, (Aft.refl s0).setD hD, rel_setD R0 (R0.fresh hD).1 (R0.fresh hD).2, (R0.fresh hD).1, (R0.fresh hD).2, upd_same, rfl, Nat.le_refl _, g0⟩, ?_⟩
    rintro i m H ⟨rfl, hi, n, s, acc, xs, rfl, A1, R1, nr, nf, hDx, l1, hl1, q1⟩
    obtain ⟨z1, z2⟩ := src s A1 R1 i
    by_cases hlt : i < ws.length
    · obtain ⟨go, yl⟩ := z1 ws[i] (List.getElem?_eq_getElem hlt)
      refine .inr ⟨go, fun H' => i + 1 ≤ ws.length ∧ P (i + 1) H', fun H' n => ⟨ws.length - (i + 1), by omega, rfl, n⟩, fun x H' y => ?_⟩
      obtain ⟨s3, e3, hp3, A3, R3, rw3⟩ := yl x H' y
      subst e3
      obtain ⟨hD3, nr3, nf3⟩ := A3.away hDx nr nf
      have l3 := RwL.aft A3 R1 _ _ l1
      have A03 := A1.trans A3
      rw [List.drop_eq_getElem_cons hlt] at q1
      rw [← hp3] at q1
      simp only [compL2] at q1
      cases hG : G ws[i] (wipeI eta us) with
      | none => simp only [hG, Res.bind] at q1; exact q1.elim
      | some eta1 =>
        simp only [hG, Res.bind_assoc] at q1
        obtain ⟨σ2, S2, w2, q4⟩ := ok.run s3 ws[i] x (wipeI eta us) (wipe σ us) eta1 R3 rw3 ((hw.aft A03 R0)) hG
        refine q4 _ ⟨(w2 us hv).trans (wipe_wipe σ us), s3, eta1, rfl, R3, S2, Go.noEr (Go.bind0 q1 A03 fun b bv s4 A4 R4 f4 g4 => ?_)⟩
        subst f4
        obtain ⟨hD4, nr4, nf4⟩ := A4.away hD3 nr3 nf3
        have l4 := RwL.aft A4 R3 _ _ l3
        have A04 := A03.trans A4
        cases b with
        | false =>
          simp only [Bool.false_eq_true, if_false] at g4
          rw [if_neg Bool.false_ne_true]
          exact ⟨hlt, n, s4, acc, xs, rfl, A04, R4, nr4, nf4, hD4, l4, hl1, g4⟩
        | true =>
          simp only [if_true, Res.bind_assoc] at g4
          rw [if_pos rfl]
          have S4' := S2.aft A4 R3
          refine ⟨s4, eta1, rfl, R4, S4', Go.noEr (Go.bind0 g4 A04 fun w1 v1 s5 A5 R5 f5 g5 => ?_)⟩
          obtain ⟨hD5, nr5, nf5⟩ := A5.away hD4 nr4 nf4
          have l5 := RwL.aft A5 R4 _ _ l4
          have A05 := A04.trans A5
          have S5 := S4'.aft A5 R4
          have hw1 : Sl X.K s5 (wipeI eta1 us1) (wipe σ2 us1) := S5.wipe us1
          cases hq : seqT w1 with
          | none => simp only [hq, Res.bind] at g5; exact g5.elim
          | some ts =>
          simp only [hq] at g5
          obtain ⟨a1, ev1, fs1⟩ := fsqK R5 hq f5
          refine ⟨kdW w1, a1, _, ev1, fs1.choose_spec.1, ?_⟩
          by_cases hz : n + ts.length ≤ 16777216
          · have hz' : n + ts.length ≤ sizeLine := by rw [sizeLine_eq]; exact hz
            rw [if_pos hz] at g5
            simp only [Res.bind_assoc] at g5
            have hwl : (ts.map W.t).length = ts.length := List.length_map ..
            generalize hws1 : ts.map W.t = ws1 at g5 hwl
            let P1 : Nat → Hp → Prop := fun j H => ∃ (s : S4) (acc : List W) (xs : List V), s.H = H ∧ Aft s0 s ∧ Rel X.K s ∧ D ∉ s.rho ∧ ¬ s.fz D ∧ s.H D = some (.lst xs) ∧ RwL X.K s acc xs ∧ Rw X.K s w1 v1 ∧ Sl X.K s (wipeI eta1 us1) (wipe σ2 us1) ∧ acc.length ≤ n + j ∧
              Go X.K Wx (Rw X.K) s0 ((compL G1 T1 E (wipeI eta1 us1) (ws1.drop j) s.hp).bind fun r h3 => (compL2 G T Fe G1 T1 E us1 (wipeI eta us) (n + ts.length) (ws.drop (i + 1)) h3).bind fun r2 h4 => fin (acc ++ (r ++ r2)) h4) Q
            refine ⟨fun j k H => k = ws1.length - j ∧ j ≤ ws1.length ∧ P1 j H, ⟨ws1.length, by simp, Nat.zero_le _, s5, acc, xs, rfl, A05, R5, nr5, nf5, hD5, l5, f5, hw1, by omega, g5⟩, ?_⟩
            rintro j k H ⟨rfl, hj, t, acc1, xs1, rfl, A0t, T1', mr, mf, hDt, m1, fv, sv, ml1, p1⟩
            obtain ⟨a2, ev2, fs2⟩ := fsqK T1' hq fv
            have ea : a2 = a1 := by rw [ev1] at ev2; cases ev2; rfl
            subst ea
            obtain ⟨y1, y2⟩ := src_sq T1' fs2 t (Aft.refl t) T1' j
            rw [hws1] at y1 y2
            by_cases hlt1 : j < ws1.length
            · obtain ⟨go1, yl1⟩ := y1 ws1[j] (List.getElem?_eq_getElem hlt1)
              refine .inr ⟨go1, fun H' => j + 1 ≤ ws1.length ∧ P1 (j + 1) H', fun H' n => ⟨ws1.length - (j + 1), by omega, rfl, n⟩, fun x1 H' yy => ?_⟩
              obtain ⟨t3, e3, hp3', B3, R3', rw3'⟩ := yl1 x1 H' yy
              subst e3
              obtain ⟨hDt3, mr3, mf3⟩ := B3.away hDt mr mf
              have m3 := RwL.aft B3 T1' _ _ m1
              have A0t3 := A0t.trans B3
              rw [List.drop_eq_getElem_cons hlt1] at p1
              rw [← hp3'] at p1
              simp only [compL, Res.bind_assoc, turnL] at p1
              cases hG1 : G1 ws1[j] (wipeI eta1 us1) with
              | none => simp only [hG1, noEr] at p1; exact p1.elim
              | some eta2 =>
                simp only [hG1, noEr_bind, Res.bind_assoc] at p1
                obtain ⟨σ3, Sa, wa, qa⟩ := ok1.run t3 ws1[j] x1 (wipeI eta1 us1) (wipe σ2 us1) eta2 R3' rw3' (sv.aft B3 T1') hG1
                refine qa _ ⟨(wa us1 hv1).trans (wipe_wipe σ2 us1), t3, eta2, rfl, R3', Sa, Go.noEr (Go.bind0 p1 A0t3 fun b bv t4 B4 R4' f4 g4' => ?_)⟩
                subst f4
                obtain ⟨hDt4, mr4, mf4⟩ := B4.away hDt3 mr3 mf3
                have m4 := RwL.aft B4 R3' _ _ m3
                have A0t4 := A0t3.trans B4
                cases b with
                | false =>
                  simp only [Bool.false_eq_true, if_false, noEr, Res.bind] at g4'
                  rw [if_neg Bool.false_ne_true]
                  exact ⟨hlt1, t4, acc1, xs1, rfl, A0t4, R4', mr4, mf4, hDt4, m4, (fv.aft B3 T1').aft B4 R3', (sv.aft B3 T1').aft B4 R3', by omega, g4'⟩
                | true =>
                  simp only [if_true, noEr_bind, Res.bind_assoc] at g4'
                  rw [if_pos rfl]
                  refine ⟨t4, eta2, rfl, R4', Sa.aft B4 R3', Go.noEr (Go.bind0 g4' A0t4 fun yw yv t5 B5 R5' f5 g5' => ?_)⟩
                  obtain ⟨hDt5, mr5, mf5⟩ := B5.away hDt4 mr4 mf4
                  have m5 := RwL.aft B5 R4' _ _ m4
                  have fv5 := ((fv.aft B3 T1').aft B4 R3').aft B5 R4'
                  have sv5 := ((sv.aft B3 T1').aft B4 R3').aft B5 R4'
                  have A0t5 := A0t4.trans B5
                  refine ⟨xs1, hDt5, by rw [← RwL.length m5]; omega, hlt1, t5.setD D (.lst (xs1 ++ [yv])), acc1 ++ [yw], xs1 ++ [yv], rfl, A0t5.setD hD, rel_setD R5' mr5 mf5, mr5, mf5, upd_same, ?_, Rw.congr (s := t5) (s' := t5.setD D _) rfl (fun _ f => f) (setD_k mf5) fv5, Sl.congr (s := t5) (s' := t5.setD D _) rfl (fun _ f => f) (setD_k mf5) sv5, by simp; omega, ?_⟩
                  · exact RwL.append (RwL.congr (s := t5) (s' := t5.setD D _) rfl (fun _ f => f) (setD_k mf5) m5) ⟨yv, [], rfl, Rw.congr (s := t5) (s' := t5.setD D _) rfl (fun _ f => f) (setD_k mf5) f5, rfl⟩
                  · simp only [noEr, Res.bind] at g5'
                    have e : ∀ (r : Res (List W)), (r.bind fun r h2 => (Res.ok (yw :: r) h2).bind fun r h3 => (compL2 G T Fe G1 T1 E us1 (wipeI eta us) (n + ts.length) (ws.drop (i + 1)) h3).bind fun r2 h4 => fin (acc1 ++ (r ++ r2)) h4) = (r.bind fun r h3 => (compL2 G T Fe G1 T1 E us1 (wipeI eta us) (n + ts.length) (ws.drop (i + 1)) h3).bind fun r2 h4 => fin ((acc1 ++ [yw]) ++ (r ++ r2)) h4) := fun r => by cases r <;> simp [Res.bind]
                    have e2 := e (compL G1 T1 E (wipeI eta1 us1) (ws1.drop (j + 1)) t5.hp)
                    exact e2 ▸ g5'
            · have e : j = ws1.length := by omega
              subst e
              refine .inl ⟨y2 rfl, hlt, n + ts.length, t, acc1, xs1, rfl, A0t, T1', mr, mf, hDt, m1, by omega, ?_⟩
              rw [List.drop_length] at p1
              simp only [compL, Res.bind, List.nil_append] at p1
              exact p1
          · rw [if_neg hz] at g5
            exact g5.elim
    · have e : i = ws.length := by omega
      subst e
      refine .inl ⟨z2 rfl, ?_⟩
      rw [List.drop_length] at q1
      simp only [compL2, Res.bind, List.append_nil] at q1
      exact hf s0 s acc xs D Q A1 R1 hD nr nf hDx l1 q1
theorem ie_comp2 (hc : X.calm = true) (hN : X.N.Nodup) (hi : II X Wx tg iter Fi) (ok : BlkOk X.N X.env.scope scope own) (us1 : List Nat) (hu : ∀ i ∈ us1, i ∈ own.map (·.2))
    (hg : ∀ (s : Shared) (H : Hp) (C : Addr) (cl : List (Str × Addr)) (fp : List Addr), PG (X.blk s H scope (compEnvC scope cl C X.env) fp) tg g) (tok : TgOk X.K g G vs)
    (ht : ∀ (s : Shared) (H : Hp) (C : Addr) (cl : List (Str × Addr)) (fp : List Addr), ITs (X.blk s H scope (compEnvC scope cl C X.env) fp) ifs T)
    (hi1 : ∀ (s : Shared) (H : Hp) (C : Addr) (cl : List (Str × Addr)) (fp : List Addr), IE (X.blk s H scope (compEnvC scope cl C X.env) fp) W0 iter1 Fe)
    (hg1 : ∀ (s : Shared) (H : Hp) (C : Addr) (cl : List (Str × Addr)) (fp : List Addr), PG (X.blk s H scope (compEnvC scope cl C X.env) fp) tg1 g1) (tok1 : TgOk X.K g1 G1 vs1)
    (ht1 : ∀ (s : Shared) (H : Hp) (C : Addr) (cl : List (Str × Addr)) (fp : List Addr), ITs (X.blk s H scope (compEnvC scope cl C X.env) fp) ifs1 T1)
    (he : ∀ (s : Shared) (H : Hp) (C : Addr) (cl : List (Str × Addr)) (fp : List Addr), IE (X.blk s H scope (compEnvC scope cl C X.env) fp) W0 elt E) (hf : FinOk X.K Wx fin) (hv : ∀ i ∈ vs, i ∈ own.map (·.2) := by decide) (hv1 : ∀ i ∈ vs1, i ∈ us1 := by decide)
    (hs : ∀ x, foldedSetIterable iter X.env x = pure x := by intro _; rfl) (hs1 : ∀ env x, foldedSetIterable iter1 env x = pure x := by intro _ _; rfl) :
    IE X Wx (.ListComp elt [⟨tg, iter, ifs, 0⟩, ⟨tg1, iter1, ifs1, 0⟩] scope pos) (mComp2 fin Fi G T Fe G1 T1 E (own.map (·.2)) us1) :=
  PE.imp (pe_lc2 (tt := tT X.K W0 T) (tt1 := tT X.K W0 T1) (te := tE X.K W0 E) (wi1 := iSq X.K (tE X.K W0 Fe)) hc hN hi ok hu hg ht (fun s H C cl fp => pi_sq (hi1 s H C cl fp)) hg1 ht1 he hs hs1) (t_comp2 _ us1 tok hv tok1 hv1 hf)
end
end Mir

/-! MirE: sorted(xs, key=str), xs a list of texts. -/
namespace Mir
open PySem PySem.Spec L2
open PyProof.Rows hiding St
theorem each_strs : ∀ {ns : List Str} {us : List Value}, Vals (ns.map V.str) us → PySem.W.EachIs (fun (v : Value) (x : Str) => ∃ t, v = .str x t) us ns
  | [], _, h => by cases h; exact .nil
  | n :: ns, _, h => by cases h with | cons a b => exact .cons a (each_strs b)
theorem strs_each : ∀ {us : List Value} {ns : List Str}, PySem.W.EachIs (fun (v : Value) (x : Str) => ∃ t, v = .str x t) us ns → Vals (ns.map V.str) us
  | _, _, .nil => .nil
  | _, _, .cons a b => .cons a (strs_each b)
theorem ltCps_lt : ∀ a b : List Nat, ltCps a b = true ↔ a < b
  | [], [] => by simp [ltCps]
  | [], _ :: _ => by simp [ltCps]
  | _ :: _, [] => by simp [ltCps]
  | a :: r, b :: t => by
    simp only [ltCps, Bool.or_eq_true, Bool.and_eq_true, decide_eq_true_eq, beq_iff_eq]
    rw [ltCps_lt r t, List.cons_lt_cons_iff]
theorem sle_le {a b : Str} : sle a b = decide (a.cps.toList ≤ b.cps.toList) := by
  unfold sle
  rw [Bool.eq_iff_iff, Bool.not_eq_true', ← Bool.not_eq_true, ltCps_lt, decide_eq_true_eq]
  exact List.not_lt
theorem merge_srt (ns : List Str) : ns.mergeSort (PySem.W.dataLe false fun x : Str => PyData.str x) = srtS ns := by
  have e : (PySem.W.dataLe false fun x : Str => PyData.str x) = sle := by
    funext a b
    rw [PySem.W.dataLe_str (fun x : Str => x), sle_le]
  rw [e]
  have p := List.mergeSort_perm ns sle
  have s : (ns.mergeSort sle).Pairwise (fun a b => sle a b = true) := List.pairwise_mergeSort (le := sle) (fun a b c h1 h2 => sle_trans h1 h2) (fun a b => by
    by_cases h : sle a b = true
    · simp [h]
    · simp [sle_total h]) ns
  exact (p.trans (srtS_perm ns).symm).eq_of_pairwise (fun a b _ _ h1 h2 => sle_anti h1 h2) s (srtS_sorted ns)
def rSortKS (K : PySem.W.Frag) : List V → List V → Hp → VK → Prop := fun vs zs H Q => ∃ (a : Addr) (ns : List Str), vs = [V.ref a] ∧ zs = [.ty "str"] ∧ SqL K H a (ns.map V.str) ∧ ∀ p : Addr, H p = none → Q (.ref p) (upd H p (.lst ((srtS ns).map V.str)))
theorem cr_sortKS {X : Cx} (hu : X.A.units + 64 < cLine) : CallRK X (.builtin "sorted") [Str.ofString "key"] (rSortKS X.K) := by
  intro pins s σ H vs zs us ws Q I r rz h
  obtain ⟨a, ns, rfl, rfl, hs, q⟩ := h
  obtain rfl := Vals.ref1 r
  obtain ⟨w1, rfl, e1⟩ := vals1 rz
  obtain rfl : w1 = Value.type "str" := e1
  obtain ⟨its, rv, hl, hz⟩ := I.list hs
  rw [List.length_map] at hz
  refine PySem.W.sorted_key_data (β := Str) (R := fun (v : Value) (x : Str) => ∃ t, v = .str x t) (k := fun x => .str x) (b := false) hl.isList (each_strs rv) (PySem.W.AllAlike.of fun _ _ => rfl) (PySem.W.Sortable.others (enc := fun x : Str => PyData.str x) fun b => ⟨nofun, nofun⟩) hz (fun x _ => by simp only [PyData.depth]; omega) (PyProof.Rows.ksk_s1 _ _) (fun _ => PyProof.Rows.ksk_l1 _ _) (fun x => rfl) (fun v x hv _ h tk kp => ?_) fun out c h' tk old fresh hD hlen er => ?_
  · obtain ⟨t, rfl⟩ := hv
    exact PySem.P.str_of_str ⟨h, tk, rfl, fun b o e => e, .str _ _⟩
  · rw [merge_srt] at er
    have sl : (srtS ns).length = ns.length := (srtS_perm ns).length_eq
    exact ⟨.ref _, upd H (s.heap.objs.size + 1) (.lst ((srtS ns).map V.str)), I.laid (t' := tk) old (Nat.le_succ _) ⟨by rw [List.length_map, sl]; exact hz, _, c, strs_each er, hD⟩, rfl, q _ (I.hok.fresh (Nat.le_succ _))⟩
def oSortK : OpN := fun ws hp => match ws with
  | [w] => (match (litems hp w).bind (allW asS) with | some ns => .ok (.t (.lst ((srtS ns).map T.str))) hp | none => .bad)
  | _ => .bad
theorem ok_sortK {K : PySem.W.Frag} {Wx : WX} (s : S4) (ws : List W) (xs : List V) (Q : VK) (R : Rel K s) (r : RwL K s ws xs) (go : Go K Wx (Rw K) s (oSortK ws s.hp) Q) : rSortKS K xs [.ty "str"] s.H Q := by
  unfold oSortK at go
  split at go
  · obtain ⟨v, e, rv⟩ := RwL.one r
    subst e
    split at go
    · rename_i ns h
      rw [Option.bind_eq_some_iff] at h
      obtain ⟨ys, h1, h2⟩ := h
      obtain ⟨p, zs, ev, q, l⟩ := litems_sq R h1 rv
      subst ev
      rw [allS_eq h2 l] at q
      exact ⟨p, ns, rfl, rfl, q, fun p' np => go (.ref p') (s.addF p' (.lst ((srtS ns).map V.str))) rfl (aft_addF R np) (rel_addF R np) (addF_lst R np (strs_rf _))⟩
    · exact go.elim
  · exact go.elim
section
variable {X : Cx} {Wx : WX} {e : Expr} {Fs : M (List W)} {p p2 kpos pos : Pos}
theorem ie_sortK (hu : X.A.units + 64 < cLine) (ha : IA X Wx [e] Fs) (hm : X.mg "sorted" = none) (hm2 : X.mg "str" = none) (hg : Gl X "sorted" := by rfl) (hg2 : Gl X "str" := by rfl)
    (he : backTo pos (starEach [e] X.env) = (false, eval e X.env) :: backTo pos (starEach [] X.env) := by rfl) (hpl : (backTo pos (starEach [e] X.env)).any (·.1) = false := by rfl)
    (hall : (backToKw pos (keywordEach [⟨some "key", .Name "str" p2, kpos⟩] X.env)).all (·.1.isSome) = true := by rfl) (hnone : (backToKw pos (keywordEach [⟨some "key", .Name "str" p2, kpos⟩] X.env)).any (·.1.isNone) = false := by rfl) (hks : (backToKw pos (keywordEach [⟨some "key", .Name "str" p2, kpos⟩] X.env)).filterMap (·.1) = [Str.ofString "key"] := by rfl) :
    IE X Wx (.Call (.Name "sorted" p) [e] [⟨some "key", .Name "str" p2, kpos⟩] pos) (mApp oSortK Fs) :=
  PE.imp (pe_callBK (cr_sortKS hu) hg hm (by with_unfolding_all rfl) ha (pk_cons (pe_bltn (v := .ty "str") hg2 hm2 (by with_unfolding_all rfl) rfl) pk_nil) (by decide) (by decide) he hpl hall hnone hks) fun σ H Q h =>
    tM.bind1 (R := fun (xs : List V) (H1 : Hp) => rSortKS X.K xs [.ty "str"] H1 Q) (k := fun (a : List W) _ hp => oSortK a hp) h fun s eta a b R1 _ f1 g => ok_sortK s a b Q R1 f1 g
end
end Mir

/-! MirF: sorted([x, y], key=str), x and y tuples with unlike texts. -/
namespace Mir
open PySem PySem.Spec L2
open PyProof.Rows hiding St
def txtLe (a b : V × PyData) : Bool := PySem.W.dataLe false (fun b : V × PyData => PyData.str b.2.shown) a b
theorem txtLe_eq : txtLe = fun a b => decide (a.2.shown.cps.toList ≤ b.2.shown.cps.toList) := by
  funext a b
  unfold txtLe
  rw [PySem.W.dataLe_str (fun b : V × PyData => b.2.shown)]
theorem merge2 {x y : V × PyData} (h : ltCps x.2.shown.cps.toList y.2.shown.cps.toList = true) : [x, y].mergeSort txtLe = [x, y] ∧ [y, x].mergeSort txtLe = [x, y] := by
  have tr : ∀ a b c, txtLe a b = true → txtLe b c = true → txtLe a c = true := fun a b c h1 h2 => by
    rw [txtLe_eq] at *
    simp only [decide_eq_true_eq] at *
    exact List.le_trans h1 h2
  have tot : ∀ a b, (txtLe a b || txtLe b a) = true := fun a b => by
    rw [txtLe_eq]
    simp only [Bool.or_eq_true, decide_eq_true_eq]
    exact List.le_total _ _
  have nb : txtLe y x = false := by
    rw [txtLe_eq]
    simp only [decide_eq_false_iff_not]
    rw [List.not_le]
    exact (ltCps_lt _ _).mp h
  have key : ∀ l : List (V × PyData), l.Perm [x, y] → l.mergeSort txtLe = [x, y] := fun l hp => by
    have p := (List.mergeSort_perm l txtLe).trans hp
    have s := List.pairwise_mergeSort (le := txtLe) tr tot l
    have len := p.length_eq
    match hm : l.mergeSort txtLe, len with
    | [a, b], _ =>
      rw [hm] at p s
      have ha : a = x ∨ a = y := by simpa using p.mem_iff.mp (show a ∈ [a, b] by simp)
      have sab : txtLe a b = true := by simpa using s
      rcases ha with e | e
      · subst e
        have := (List.perm_cons a).mp p
        have := List.perm_singleton.mp this
        cases this
        rfl
      · subst e
        have q : [b].Perm [x] := by
          have := p.trans (List.Perm.swap a x [])
          exact (List.perm_cons a).mp this
        have := List.perm_singleton.mp q
        cases this
        rw [nb] at sab
        cases sab
  exact ⟨key _ (List.Perm.refl _), key _ (List.Perm.swap x y [])⟩
def DItem (K : PySem.W.Frag) (H : Hp) (b : V × PyData) : Prop := (∃ p, b.1 = .ref p) ∧ Dp K H b.1 b.2 ∧ b.2.showable = true ∧ b.2.hasDict = false ∧ b.2.depth ≤ 50 ∧ b.2.shown.length ≤ sizeLine
def rSort2 (K : PySem.W.Frag) : List V → List V → Hp → VK → Prop := fun vs zs H Q => ∃ (a : Addr) (bs : List (V × PyData)), vs = [V.ref a] ∧ zs = [.ty "str"] ∧ SqL K H a (bs.map (·.1)) ∧ (∀ b ∈ bs, DItem K H b) ∧ ∀ p : Addr, H p = none → Q (.ref p) (upd H p (.lst ((bs.mergeSort txtLe).map (·.1))))
theorem each_items {K : PySem.W.Frag} {h : Heap} : ∀ {bs : List (V × PyData)} {us : List Value}, Vals (bs.map (·.1)) us → (∀ b ∈ bs, ∀ u, RelV b.1 u → ∃ as, Reads h u b.2 as) → PySem.W.EachIs (fun (v : Value) (b : V × PyData) => RelV b.1 v ∧ ∃ as, Reads h v b.2 as) us bs
  | [], _, h, _ => by cases h; exact .nil
  | b :: bs, _, h, k => by cases h with | cons a c => exact .cons ⟨a, k b (List.mem_cons_self ..) _ a⟩ (each_items (K := K) c fun x hx => k x (List.mem_cons_of_mem _ hx))
theorem items_each {h : Heap} : ∀ {us : List Value} {bs : List (V × PyData)}, PySem.W.EachIs (fun (v : Value) (b : V × PyData) => RelV b.1 v ∧ ∃ as, Reads h v b.2 as) us bs → Vals (bs.map (·.1)) us
  | _, _, .nil => .nil
  | _, _, .cons a b => .cons a.1 (items_each b)
theorem cr_sort2 {X : Cx} (hgd : X.A.guards = some []) (hu : X.A.units + 64 < cLine) : CallRK X (.builtin "sorted") [Str.ofString "key"] (rSort2 X.K) := by
  intro pins s σ H vs zs us ws Q I r rz h
  obtain ⟨a, bs, rfl, rfl, hs, hd, q⟩ := h
  obtain rfl := Vals.ref1 r
  obtain ⟨w1, rfl, e1⟩ := vals1 rz
  obtain rfl : w1 = Value.type "str" := e1
  obtain ⟨its, rv, hl, hz⟩ := I.list hs
  rw [List.length_map] at hz
  refine PySem.W.sorted_key_data (β := V × PyData) (R := fun (v : Value) (b : V × PyData) => RelV b.1 v ∧ ∃ as, Reads s.heap v b.2 as) (k := fun b => .str b.2.shown) (b := false) hl.isList (each_items (K := X.K) rv fun b hb u hu => (hd b hb).2.1.reads I b.2 b.1 u hu) (PySem.W.AllAlike.of fun _ _ => rfl) (PySem.W.Sortable.others (enc := fun b : V × PyData => PyData.str b.2.shown) fun b => ⟨nofun, nofun⟩) hz (fun x _ => by simp only [PyData.depth]; omega) (PyProof.Rows.ksk_s1 _ _) (fun _ => PyProof.Rows.ksk_l1 _ _) (fun x => rfl) (fun v x hv hx h tk kp => ?_) fun out c h' tk old fresh hD hlen er => ?_
  · obtain ⟨rv, as, rd⟩ := hv
    obtain ⟨⟨p, ep⟩, _, d1, d2, d3, d4⟩ := hd x hx
    have ev : v = .ref p := by rw [ep] at rv; exact rv
    subst ev
    exact PySem.str_of_reads rd d1 (fun z => by rw [d2] at z; cases z) hgd (by show X.A.units + 1 + 1 + _ < _; omega) kp (fun h'' u tk' hk => ⟨h'', tk', rfl, hk, .str _ _⟩) d4
  · have e : bs.mergeSort (PySem.W.dataLe false fun b : V × PyData => PyData.str b.2.shown) = bs.mergeSort txtLe := rfl
    rw [e] at er
    have sl : (bs.mergeSort txtLe).length = bs.length := (List.mergeSort_perm bs txtLe).length_eq
    exact ⟨.ref _, upd H (s.heap.objs.size + 1) (.lst ((bs.mergeSort txtLe).map (·.1))), I.laid (t' := tk) old (Nat.le_succ _) ⟨by rw [List.length_map, sl]; exact hz, _, c, items_each er, hD⟩, rfl, q _ (I.hok.fresh (Nat.le_succ _))⟩
def okTx (x : T) : Bool := fit x 50 && (dat x).showable && decide ((dat x).shown.length ≤ 16777216)
def oSort2 : OpN := fun ws hp => match ws with
  | [.t (.lst [.tup xs, .tup ys])] => if okTx (.tup xs) = true ∧ okTx (.tup ys) = true then
      (if ltCps (dat (.tup xs)).shown.cps.toList (dat (.tup ys)).shown.cps.toList = true then .ok (.t (.lst [.tup xs, .tup ys])) hp
      else if ltCps (dat (.tup ys)).shown.cps.toList (dat (.tup xs)).shown.cps.toList = true then .ok (.t (.lst [.tup ys, .tup xs])) hp else .bad) else .bad
  | _ => .bad
theorem item_of {K : PySem.W.Frag} {s : S4} (R : Rel K s) {xs : List T} {v : V} (h : okTx (.tup xs) = true) (r : Rf K s.fz s.H (.tup xs) v) : DItem K s.H (v, dat (.tup xs)) := by
  unfold okTx at h
  simp only [Bool.and_eq_true, decide_eq_true_eq] at h
  obtain ⟨⟨h1, h2⟩, h3⟩ := h
  have f60 : fit (.tup xs) 60 = true := by
    have : ∀ (x : T) (n : Nat), fit x n = true → fit x (n + 10) = true := fit_more
    exact this _ 50 h1
  obtain ⟨a, vs, e, _, _⟩ : ∃ a vs, v = .ref a ∧ FTup K s.fz s.H a vs ∧ RfL K s.fz s.H xs vs := by simpa only [Rf] using r
  exact ⟨⟨a, e⟩, asT_dp (w := .t (.tup xs)) R rfl r f60, h2, fit_nodict _ 60 f60, (fit_plain _ 50 h1).2, by rw [sizeLine_eq]; exact h3⟩
where
  fit_more : ∀ (x : T) (n : Nat), fit x n = true → fit x (n + 10) = true
  | .non, _, _ => by simp [fit]
  | .bl _, _, _ => by simp [fit]
  | .int _, _, _ => by simp [fit]
  | .str _, _, _ => by simp [fit]
  | .tup xs, 0, h => by simp [fit] at h
  | .tup xs, n + 1, h => by
    have : ∀ xs : List T, fitL xs n = true → fitL xs (n + 10) = true := by
      intro xs
      induction xs with
      | nil => intro _; simp [fitL]
      | cons x xs ih =>
        intro h
        simp only [fitL, Bool.and_eq_true] at h ⊢
        exact ⟨fit_more x n h.1, ih h.2⟩
    simpa [fit] using this xs (by simpa [fit] using h)
  | .lst xs, 0, h => by simp [fit] at h
  | .lst xs, n + 1, h => by
    have : ∀ xs : List T, fitL xs n = true → fitL xs (n + 10) = true := by
      intro xs
      induction xs with
      | nil => intro _; simp [fitL]
      | cons x xs ih =>
        intro h
        simp only [fitL, Bool.and_eq_true] at h ⊢
        exact ⟨fit_more x n h.1, ih h.2⟩
    simpa [fit] using this xs (by simpa [fit] using h)
  | .scr _, _, h => by simp [fit] at h
  | .pr _, _, h => by simp [fit] at h
  | .ty _, _, h => by simp [fit] at h
  | .dic _ _, _, h => by simp [fit] at h
  | .ins _ _ _, _, h => by simp [fit] at h
  | .cls _, _, h => by simp [fit] at h
  | .dit _ _, _, h => by simp [fit] at h
  | .exc _ _ _, _, h => by simp [fit] at h
  termination_by _ n => n
theorem ok_sort2 {K : PySem.W.Frag} {Wx : WX} (s : S4) (ws : List W) (xs : List V) (Q : VK) (R : Rel K s) (r : RwL K s ws xs) (go : Go K Wx (Rw K) s (oSort2 ws s.hp) Q) : rSort2 K xs [.ty "str"] s.H Q := by
  unfold oSort2 at go
  split at go
  · rename_i xs1 ys1
    obtain ⟨v, e, rv⟩ := RwL.one r
    subst e
    split at go
    · rename_i hok
      obtain ⟨a, vs, ev, t, l⟩ : ∃ a vs, v = .ref a ∧ FLst s.fz s.H a vs ∧ RfL K s.fz s.H [.tup xs1, .tup ys1] vs := by simpa only [Rw, Rf] using rv
      subst ev
      obtain ⟨v1, r1, e1, f1, l1⟩ := l
      obtain ⟨v2, r2, e2, f2, l2⟩ := l1
      have : r2 = [] := l2
      subst this e2 e1
      have i1 := item_of R hok.1 f1
      have i2 := item_of R hok.2 f2
      refine ⟨a, [(v1, dat (.tup xs1)), (v2, dat (.tup ys1))], rfl, rfl, t.sq, fun b hb => ?_, fun p np => ?_⟩
      · simp only [List.mem_cons, List.not_mem_nil, or_false] at hb
        rcases hb with hb | hb <;> subst hb
        · exact i1
        · exact i2
      · split at go
        · rename_i c
          rw [(merge2 (x := (v1, dat (.tup xs1))) (y := (v2, dat (.tup ys1))) c).1]
          exact go (.ref p) (s.addF p (.lst [v1, v2])) rfl (aft_addF R np) (rel_addF R np) (addF_lst R np ⟨v1, [v2], rfl, f1, v2, [], rfl, f2, rfl⟩)
        · split at go
          · rename_i c
            rw [(merge2 (x := (v2, dat (.tup ys1))) (y := (v1, dat (.tup xs1))) c).2]
            exact go (.ref p) (s.addF p (.lst [v2, v1])) rfl (aft_addF R np) (rel_addF R np) (addF_lst R np ⟨v2, [v1], rfl, f2, v1, [], rfl, f1, rfl⟩)
          · exact go.elim
    · exact go.elim
  · exact go.elim
section
variable {X : Cx} {Wx : WX} {e : Expr} {Fs : M (List W)} {p p2 kpos pos : Pos}
theorem ie_sort2 (hgd : X.A.guards = some []) (hu : X.A.units + 64 < cLine) (ha : IA X Wx [e] Fs) (hm : X.mg "sorted" = none) (hm2 : X.mg "str" = none) (hg : Gl X "sorted" := by rfl) (hg2 : Gl X "str" := by rfl)
    (he : backTo pos (starEach [e] X.env) = (false, eval e X.env) :: backTo pos (starEach [] X.env) := by rfl) (hpl : (backTo pos (starEach [e] X.env)).any (·.1) = false := by rfl)
    (hall : (backToKw pos (keywordEach [⟨some "key", .Name "str" p2, kpos⟩] X.env)).all (·.1.isSome) = true := by rfl) (hnone : (backToKw pos (keywordEach [⟨some "key", .Name "str" p2, kpos⟩] X.env)).any (·.1.isNone) = false := by rfl) (hks : (backToKw pos (keywordEach [⟨some "key", .Name "str" p2, kpos⟩] X.env)).filterMap (·.1) = [Str.ofString "key"] := by rfl) :
    IE X Wx (.Call (.Name "sorted" p) [e] [⟨some "key", .Name "str" p2, kpos⟩] pos) (mApp oSort2 Fs) :=
  PE.imp (pe_callBK (cr_sort2 hgd hu) hg hm (by with_unfolding_all rfl) ha (pk_cons (pe_bltn (v := .ty "str") hg2 hm2 (by with_unfolding_all rfl) rfl) pk_nil) (by decide) (by decide) he hpl hall hnone hks) fun σ H Q h =>
    tM.bind1 (R := fun (xs : List V) (H1 : Hp) => rSort2 X.K xs [.ty "str"] H1 Q) (k := fun (a : List W) _ hp => oSort2 a hp) h fun s eta a b R1 _ f1 g => ok_sort2 s a b Q R1 f1 g
end
end Mir

/-! MirH: one dict merged into another by a display: the model's rule. -/
namespace Mir
open PySem PySem.Spec L2
open Sem (wp)

section
variable {prog : Program} {w : World} {K : Type} [DecidableEq K] {knd : KeyKind prog w K} {A : Around} {E : Value → Shared → Prop} {s : Shared}
theorem dictPut_pairs {d : Addr} {kvs : List (K × Value)} {k : K} {key v : Value} {Q : Unit → Shared → Prop} (hkey : knd.is k key = true) (hm : s.heap.DictOf knd d kvs)
    (hQ : ∀ h', h'.DictOf knd d (stored kvs k v) → Heap.SameBut d s.heap h' → Q () { s with heap := h' })
    (hsz : kvs.length ≤ sizeLine) :
    wpAny (model prog w) A (dictPut d (knd.hash k) key v) Q E s := by
  obtain ⟨o, es, ep, ho, hc, hd, hk, hp, hn⟩ := hm
  have hes : es.size ≤ sizeLine := by have e1 := hp.length; have e2 : es.toList.length = es.size := by simp
                                      omega
  unfold dictPut
  refine wpAny_bind (wpAny_dictFind_of hkey ho hd hk ?_)
  have hidx : (es.findIdx? fun e => knd.is k e.key) = kvs.findIdx? fun kv => decide (kv.1 = k) := by
    rw [← hp.findIdx k]; obtain ⟨l⟩ := es; simp
  cases hi : es.findIdx? fun e => knd.is k e.key with
  | some i =>
    refine wpAny_updateDict ho hd (hQ _ ⟨_, _, ep, Heap.get?_update_self _ ho (Obj.isFreed_of_dict (Obj.data_mapDict hd _)),
      hc.mapDict _, Obj.data_mapDict hd _, hk.modify _ _, ?_, ?_⟩ (Heap.SameBut.update ..))
    · rw [stored, if_pos (any_of_findIdx_some (hidx ▸ hi))]
      have hl : (es.toList.findIdx? fun e => knd.is k e.key) = some i := by rw [← hi]; obtain ⟨l⟩ := es; simp
      have := hp.modify hn hl v
      obtain ⟨l⟩ := es
      simpa using this
    · rw [stored, if_pos (any_of_findIdx_some (hidx ▸ hi)), keys_map_store]; exact hn
  | none =>
    have hnot : k ∉ kvs.map (·.1) := not_mem_of_findIdx_none (hidx ▸ hi)
    have hany : ¬ (kvs.any fun kv => decide (kv.1 = k)) = true := by
      rw [List.any_eq_true]; rintro ⟨kv, hkv, he⟩
      exact hnot (List.mem_map.mpr ⟨kv, hkv, of_decide_eq_true he⟩)
    refine wpAny_updateDictKeys (hz := hes) ho hd (hQ _ ⟨_, _, ep + 1, Heap.get?_update_self _ ho (Obj.isFreed_of_dict (Obj.data_mapDictKeys hd _)),
      hc.mapDictKeys _, Obj.data_mapDictKeys hd _, hk.push hkey _, ?_, ?_⟩ (Heap.SameBut.update ..))
    · rw [stored, if_neg hany]
      have := hp.append hkey (knd.hash k) v
      obtain ⟨l⟩ := es
      simpa using this
    · rw [stored, if_neg hany, List.map_append, List.nodup_append]
      refine ⟨hn, by simp, ?_⟩
      intro a ha b hb
      simp only [List.map_cons, List.map_nil, List.mem_singleton] at hb
      subst hb
      exact fun e => hnot (e ▸ ha)

theorem mergeMapping_dict {d o : Addr} {kvs more : List (K × Value)} {Q : Unit → Shared → Prop} (hdo : d ≠ o) (hoS : (o == sysModules) = false)
    (hd : s.heap.DictOf knd d kvs) (ho : s.heap.DictOf knd o more)
    (hQ : ∀ h', h'.DictOf knd d (merged kvs more) → h'.DictOf knd o more → Heap.SameBut d s.heap h' → Q () { s with heap := h' })
    (hsz : kvs.length + more.length ≤ sizeLine) :
    wpAny (model prog w) A (mergeMapping d (.ref o) false) Q E s := by
  obtain ⟨od, esd, epd, hod, hcd, hdd, hkd, hpd, hnd⟩ := id hd
  obtain ⟨oo, eso, epo, hoo, hco, hdo', hko, hpo, hno⟩ := id ho
  have hlen : more.length = eso.size := by rw [← hpo.length]; simp
  unfold mergeMapping
  refine wpAny_bind (wpAny_isInstance ho.typeIs isSubtype_dict_dict ?_)
  simp only [if_true]
  refine wpAny_bind (wpAny_specialOf ho.typeIs F.slot_dict_iter.lookup (wpAny_bind (wpAny_pure ?_)))
  simp only [beq_self_eq_true]
  rw [if_neg (by rw [hoS]; exact Bool.false_ne_true)]
  have mid : ∀ (Q : Unit → Shared → Prop), (∀ h', h'.DictOf knd d (merged kvs more) → h'.DictOf knd o more → Heap.SameBut d s.heap h' → Q () { s with heap := h' }) → wpAny (model prog w) A (do
      let l ← dictEntries o
      let epoch ← dictEpoch o
      forIn (List.range l.size) PUnit.unit fun i (_ : PUnit) => (do
          let l' ← dictEntries o
          match l'[i]? with
            | some e => do
              holding [e.key, e.val] (dictPut d e.hash e.key e.val)
              let ep' ← dictEpoch o
              if (ep' != epoch) = true then do
                  (unsupported "dict.changed-during-merge" : Sem PUnit)
                  pure (ForInStep.yield PUnit.unit)
                else pure (ForInStep.yield PUnit.unit)
            | _ => do
              (unsupported "dict.changed-during-merge" : Sem PUnit)
              pure (ForInStep.yield PUnit.unit) : Sem (ForInStep PUnit))
      pure ()) Q E s := by
    intro Q hQ
    refine wpAny_bind (wpAny_dictEntries hoo hdo' ?_)
    refine wpAny_bind (wpAny_dictEpoch hoo hdo' ?_)
    refine wpAny_bind ?_
    rw [List.range_eq_range']
    refine wpAny_forIn_list _
      (fun rest _ s' => ∃ h' i, s' = { s with heap := h' } ∧ rest = List.range' i (eso.size - i) ∧ i ≤ eso.size ∧ h'.DictOf knd d (merged kvs (more.take i)) ∧ h'.get? o = some oo ∧ Heap.SameBut d s.heap h')
      _ ?_ ?_ _ _ ⟨s.heap, 0, rfl, by simp, Nat.zero_le _, by simpa [merged] using hd, hoo, Heap.SameBut.refl _ _⟩
    · rintro x rest b s' ⟨h', i, rfl, hr, hi, hd', hoo', hs'⟩
      have hlt : i < eso.size := by
        rcases Nat.lt_or_ge i eso.size with h | h
        · exact h
        · rw [Nat.sub_eq_zero_of_le h] at hr; simp at hr
      obtain ⟨rfl, hrest⟩ : x = i ∧ rest = List.range' (i + 1) (eso.size - (i + 1)) := by
        have e : eso.size - i = (eso.size - (i + 1)) + 1 := by omega
        rw [e, List.range'_succ] at hr
        injection hr with h1 h2
        exact ⟨h1, h2⟩
      refine wpAny_bind (wpAny_dictEntries hoo' hdo' ?_)
      rw [Array.getElem?_eq_getElem hlt]
      obtain ⟨kv, hkv⟩ : ∃ kv, more[x]? = some kv := ⟨more[x]'(by rw [hlen]; exact hlt), List.getElem?_eq_getElem _⟩
      obtain ⟨k, v⟩ := kv
      obtain ⟨hkey, hval⟩ := hpo.get? (e := eso[x]) (by simp [hlt]) hkv
      obtain ⟨k', hkey', hhash⟩ := hko eso[x] (Array.getElem_mem hlt)
      obtain rfl : k' = k := knd.inj _ _ _ hkey' hkey
      show wpAny _ _ (holding [eso[x].key, eso[x].val] (dictPut d eso[x].hash eso[x].key eso[x].val) >>= _) _ _ _
      rw [hhash, hval]
      have hmx : (merged kvs (more.take x)).length ≤ sizeLine := by
        have e1 := merged_length_le kvs (more.take x)
        have e2 : (more.take x).length ≤ more.length := by rw [List.length_take]; omega
        omega
      refine wpAny_bind (wpAny_holding (dictPut_pairs hkey hd' (fun h'' hd'' hs'' => ?_) hmx))
      have hoo'' : h''.get? o = some oo := (hs''.2 o (Ne.symm hdo)).trans hoo'
      refine wpAny_bind (wpAny_dictEpoch hoo'' hdo' ?_)
      rw [if_neg (by simp)]
      exact wpAny_pure ⟨h'', x + 1, rfl, hrest, hlt, by rw [merged_take_succ kvs more x (k', v) hkv]; exact hd'', hoo'', hs'.trans hs''⟩
    · rintro b s' ⟨h', i, rfl, hr, hi, hd', hoo', hs'⟩
      have hin : i = eso.size := by
        rcases Nat.lt_or_ge i eso.size with h | h
        · have e : eso.size - i = (eso.size - (i + 1)) + 1 := by omega
          rw [e, List.range'_succ] at hr; exact nomatch hr
        · exact Nat.le_antisymm hi h
      refine wpAny_pure (hQ h' ?_ ⟨oo, eso, epo, hoo', hco, hdo', hko, hpo, hno⟩ hs')
      rw [hin, ← hlen, List.take_length] at hd'; exact hd'
  refine wpAny_bind (wpAny_dictEntries hod hdd ?_)
  split
  · refine wpAny_bind (wpAny_dictEntries hoo hdo' ?_)
    refine wpAny_bind ?_
    refine wpAny_of_eq (a := PUnit.unit) ?_ ?_
    · rw [← Array.forIn_toList]
      refine forIn_yield_id _ fun e he c => ?_
      obtain ⟨k, hkey, _⟩ := hko e (Array.mem_toList_iff.mp he)
      have hb := knd.byValue k _ hkey
      split
      · rename_i z; rw [z] at hb; exact absurd hb Bool.false_ne_true
      · rfl
    · exact mid Q hQ
  · exact mid Q hQ
theorem dd_merge {M K' V' : Sem Value} {Q : Value → Shared → Prop}
    (h : wpAny (model prog w) A M (fun m s1 => ∃ o kvs, m = .ref o ∧ s.heap.objs.size ≠ o ∧ (o == sysModules) = false ∧ s1.heap.DictOf knd s.heap.objs.size [] ∧ s1.heap.DictOf knd o kvs ∧ kvs.length ≤ 1000 ∧
      ∀ h1, h1.DictOf knd s.heap.objs.size (merged [] kvs) → Heap.SameBut s.heap.objs.size s1.heap h1 →
        wpAny (model prog w) A (evalPairs [(K', V')]) (fun vs s2 => ∃ xs, Carries knd vs xs ∧ s2.heap.DictOf knd h1.objs.size [] ∧ s.heap.objs.size ≠ h1.objs.size ∧ (h1.objs.size == sysModules) = false ∧
          ∀ h2, h2.DictOf knd h1.objs.size (merged [] xs) → Heap.SameBut h1.objs.size s2.heap h2 → ∃ ds, h2.DictOf knd s.heap.objs.size ds ∧ ds.length ≤ 1000 ∧
            ∀ h3, h3.DictOf knd s.heap.objs.size (merged ds (merged [] xs)) → Heap.SameBut s.heap.objs.size h2 h3 → Q (.ref s.heap.objs.size) { s2 with heap := h3, toks := s2.toks + vs.length }) E
          { s1 with heap := h1.push { cls := .type "dict", data := .dict #[] } }) E
      { s with heap := s.heap.push { cls := .type "dict", data := .dict #[] } }) :
    wpAny (model prog w) A (dictDisplay [(none, M), (some K', V')]) Q E s := by
  unfold dictDisplay
  simp only [List.forIn_cons, List.forIn_nil, List.isEmpty_nil, if_true, pure_bind, bind_pure, List.nil_append, List.length_singleton]
  refine wpAny_bind (wpAny_bind (wpAny_bind (wpAny_alloc (wpAny_bind (wpAny_holding (wpAny_mono h (fun m s1 h1 => ?_) fun _ _ e => e))))))
  obtain ⟨o, kvs, rfl, hdo, hoS, hd, ho, hsz, hn⟩ := h1
  refine wpAny_bind (wpAny_onRaise (wpAny_tryCatch (wpAny_onRaise (wpAny_holding (mergeMapping_dict hdo hoS hd ho (fun h1 hd1 ho1 hs1 => ?_) (by rw [sizeLine_eq, List.length_nil]; omega))))))
  refine wpAny_pure ?_
  dsimp only
  rw [if_neg (by simp)]
  simp only [pure_bind]
  refine wpAny_pure ?_
  dsimp only
  rw [if_neg (by simp)]
  refine wpAny_bind (wpAny_bind (wpAny_holding (wpAny_subDict (knd := knd) (by simp) (wpAny_mono (wpAny_evalPairs_len (hn h1 hd1 hs1)) (fun vs s2 h2 => ?_) fun _ _ e => e))))
  obtain ⟨hvl, xs, hc, hq, hne, hqS, hn2⟩ := h2
  refine ⟨xs, hc, hq, fun h2 hq2 hs2 => ?_⟩
  obtain ⟨ds, hd2, hz2, hn3⟩ := hn2 h2 hq2 hs2
  refine wpAny_bind (wpAny_onRaise (wpAny_holding (mergeMapping_dict (s := { s2 with heap := h2, toks := s2.toks + vs.length }) hne hqS hd2 hq2 (fun h3 hd3 hq3 hs3 => ?_) ?_)))
  · exact wpAny_pure (wpAny_pure (hn3 h3 hd3 hs3))
  · have e2 := merged_length_le ([] : List (K × Value)) xs
    have e3 := hc.length
    rw [List.length_nil] at e2
    rw [sizeLine_eq]
    simp at hvl
    omega
end
/-- {**d, k: v} with keys ints and texts -/
def tMrg (td : TE) (trs : List (TE × TE)) : TE := fun σ H Q => ∀ p, H p = none → td σ (upd H p (.dK [])) fun x H1 => ∃ a kvs, x = .ref a ∧ a ≠ p ∧ Rd H1 a (.dK kvs) ∧ H1 p = some (.dK []) ∧ kvs.length ≤ 1000 ∧
  ∀ q, upd H1 p (.dK (mergeK [] kvs)) q = none → tPairs trs σ (upd (upd H1 p (.dK (mergeK [] kvs))) q (.dK [])) fun ps H2 => ∃ kv2, H2 p = some (.dK kv2) ∧ kv2.length ≤ 1000 ∧ H2 q = some (.dK []) ∧ ∃ mo : List (Key × V), ps = mo.map (fun kv => (kV kv.1, kv.2)) ∧ mo.length ≤ 15 ∧
    Q (.ref p) (upd (upd H2 q (.dK (mergeK [] mo))) p (.dK (mergeK kv2 (mergeK [] mo))))
theorem pe_mrg {X : Cx} {m k v : Expr} {pos : Pos} {td : TE} {trs : List (TE × TE)} (hm : PE X m td) (hp : PPs X pos [some k] [v] trs) : PE X (.Dict [none, some k] [m, v] pos) (tMrg td trs) := by
  refine ⟨fun pins s σ H Q I q => ?_⟩
  have hn := I.hok.fresh (Nat.le_refl s.heap.objs.size)
  have I1 := I.laid (a := s.heap.objs.size) (o := .dK []) (h' := s.heap.push { cls := .type "dict", data := .dict #[] }) (t' := s.toks) (fun _ _ q => Heap.get?_push_of_some _ q) (Nat.le_refl _) (dk_empty s.heap I.big)
  rw [arm_eval_Dict]
  refine wpAny_bind (wpAny_standAt ?_)
  refine dd_merge (knd := mixKind X.prog X.w) (M := do let x ← eval m X.env; standAt pos; pure x) (K' := eval k X.env) (V' := do let x ← eval v X.env; standAt pos; pure x)
    (wpAny_bind (thn (hm.run pins _ σ _ _ I1 (q _ hn)) fun u s1 ⟨x, H1, I2, rx, a, kvs, ex, ne, e1, e2, hz, q2⟩ => wpAny_bind (wpAny_standAt (wpAny_pure ?_))))
  subst ex
  obtain rfl : u = Value.ref a := rx
  obtain ⟨z1, ha, vs, r1, d1⟩ := dk_rd I2.hok e1
  obtain ⟨z0, hd, vs0, r0, d0⟩ := dk_of I2.hok e2
  cases r0
  refine ⟨a, vs, rfl, Ne.symm ne, ha, d0, d1, by rw [← r1.length]; exact hz, fun h1 dd1 hs1 => ?_⟩
  have hz1 : (mergeK [] kvs).length ≤ sizeLine := by
    have h1 := length_mergeK kvs []
    rw [List.length_nil] at h1
    rw [sizeLine_eq]; omega
  have he1 : ∃ q, h1.get? s.heap.objs.size = some q := let ⟨q, _, _, hq, _⟩ := dd1; ⟨q, hq⟩
  have I3 : Inv X pins σ (upd H1 s.heap.objs.size (.dK (mergeK [] kvs))) { s1 with heap := h1 } := d_write (t' := s1.toks) I2 (by rw [e2]; exact True.intro) hs1 he1 (dk_new hz1 hd (r1.merge .nil) dd1)
  have hn3 := I3.hok.fresh (Nat.le_refl h1.objs.size)
  have I4 := I3.laid (a := h1.objs.size) (o := .dK []) (h' := h1.push { cls := .type "dict", data := .dict #[] }) (t' := s1.toks) (fun _ _ q => Heap.get?_push_of_some _ q) (Nat.le_refl _) (dk_empty h1 I3.big)
  refine thn (hp.run pins _ σ _ _ I4 (q2 _ hn3)) fun ws s2 ⟨ps, H2, I5, rel, kv2, f1, hk2, f2, mo, ep, lk, q3⟩ => ?_
  subst ep
  obtain ⟨rs, c, rk⟩ := carries_of (P := X.prog) (w := X.w) rel
  obtain ⟨zq, hqS, vsq, rq, dq⟩ := dk_of I5.hok f2
  cases rq
  have npq : s.heap.objs.size ≠ h1.objs.size := fun z => by rw [← z, upd_same] at hn3; cases hn3
  refine ⟨rs, c, dq, npq, hqS, fun h2 dd2 hs2 => ?_⟩
  have hz2 : (mergeK [] mo).length ≤ sizeLine := by
    have h1 := length_mergeK mo []
    rw [List.length_nil] at h1
    rw [sizeLine_eq]; omega
  have he2 : ∃ q, h2.get? h1.objs.size = some q := let ⟨q, _, _, hq, _⟩ := dd2; ⟨q, hq⟩
  have I6 : Inv X pins σ (upd H2 h1.objs.size (.dK (mergeK [] mo))) { s2 with heap := h2, toks := s2.toks + ws.length } := d_write (t' := s2.toks + ws.length) I5 (by rw [f2]; exact True.intro) hs2 he2 (dk_new hz2 hqS (rk.merge .nil) dd2)
  have f3 : upd H2 h1.objs.size (.dK (mergeK [] mo)) s.heap.objs.size = some (.dK kv2) := by rw [upd_ne npq]; exact f1
  obtain ⟨z3, _, ds, r3, d3⟩ := dk_of I6.hok f3
  have hz3 : (mergeK kv2 (mergeK [] mo)).length ≤ sizeLine := by
    have h2 := length_mergeK mo []
    have h3 := length_mergeK (mergeK [] mo) kv2
    rw [List.length_nil] at h2
    rw [sizeLine_eq]; omega
  refine ⟨ds, d3, ?_, fun h3 dd3 hs3 => ?_⟩
  · rw [← r3.length]; exact hk2
  have he3 : ∃ q, h3.get? s.heap.objs.size = some q := let ⟨q, _, _, hq, _⟩ := dd3; ⟨q, hq⟩
  exact ⟨.ref s.heap.objs.size, _, d_write (s := { s2 with heap := h2, toks := s2.toks + ws.length }) (t' := s2.toks + ws.length) I6 (by rw [f3]; exact True.intro) hs3 he3 (dk_new hz3 hd ((rk.merge .nil).merge r3) dd3), rfl, q3⟩
end Mir

/-! MirI: dicts as trees: a dict frozen behind its making, {**d, k: v}, d.items(), keys, d[k], k in d. -/
namespace Mir
open PySem PySem.Spec L2
open PyProof.Rows hiding St

/-! ### a live dict is frozen -/
def S4.frzD (s : S4) (i : Nat) (a : Addr) (o : HO) : S4 := ⟨s.rho, fun b => s.fz b ∨ b = a, s.hp.set i none, upd s.H a o⟩
section
variable {K : PySem.W.Frag} {s : S4}
theorem aft_frzD (R : Rel K s) {i : Nat} {a : Addr} {c0 : Cell} {o : HO} (h0 : s.hp[i]? = some (some c0)) (ha : s.rho[i]? = some a) : Aft s (s.frzD i a o) := by
  refine ⟨⟨[], by simp [S4.frzD], by simp⟩, fun _ f => .inl f, fun b u e nl => ?_, fun b f => ?_, fun b l => .inl (live_frz R ha (show Live (s.frz i a) b from l)).1, fun b e => ?_⟩
  · show upd s.H a o b = some u
    rw [upd_ne (fun z => nl (by rw [z]; exact ⟨i, c0, h0, ha⟩))]; exact e
  · rcases f with f | f
    · exact .inl f
    · exact .inr (.inr (by rw [f]; exact ⟨i, c0, h0, ha⟩))
  · show upd s.H a o b ≠ none
    by_cases q : b = a
    · rw [q, upd_same]; intro z; cases z
    · rw [upd_ne q]; exact e
theorem rel_frzD (R : Rel K s) {i : Nat} {a : Addr} {c0 : Cell} {o : HO} (h0 : s.hp[i]? = some (some c0)) (ha : s.rho[i]? = some a) : Rel K (s.frzD i a o) := by
  have A := aft_frzD (o := o) R h0 ha
  refine ⟨by simp [S4.frzD, R.len], R.nd, fun b m => A.trk b (R.trk b m), fun b f => ?_, fun b l f => ?_, fun j d b e1 e2 => ?_⟩
  · rcases f with f | f
    · exact A.trk b (R.ftrk b f)
    · rw [f]; exact A.trk a (R.liveH h0 ha)
  · obtain ⟨l1, ne⟩ := live_frz R ha (show Live (s.frz i a) b from l)
    rcases f with f | f
    · exact R.fz b l1 f
    · exact ne f
  · have e1 : (s.hp.set i none)[j]? = some (some d) := e1
    have e2 : s.rho[j]? = some b := e2
    by_cases hj : i = j
    · subst hj
      rw [List.getElem?_set_self (List.getElem?_eq_some_iff.mp h0).1] at e1; cases e1
    · rw [List.getElem?_set_ne hj] at e1
      have ne : b ≠ a := fun z => by
        subst z
        exact hj ((List.getElem?_inj (List.getElem?_eq_some_iff.mp ha).1 R.nd).mp (ha.trans e2.symm))
      show CellOk K (s.frzD i a o) d (upd s.H a o b)
      rw [upd_ne ne]
      exact (R.cell j d b e1 e2).aft A R
theorem RwK.split : ∀ {ws : List (Key × W)} {vs : List (Key × V)} {ts : List T}, RwK K s ws vs → allT (ws.map (·.2)) = some ts → RfL K s.fz s.H ts (vs.map (·.2)) ∧ vs = (ws.map (·.1)).zip (vs.map (·.2)) := by
  intro ws
  induction ws with
  | nil =>
    intro vs ts h e
    rw [show vs = [] from h]
    have e' : ts = [] := by simpa [allT] using e.symm
    subst e'
    exact ⟨by simp [RfL], rfl⟩
  | cons x xs ih =>
    intro vs ts h e
    obtain ⟨v, r, e1, a, b⟩ := h
    subst e1
    have q := allT_eq e
    cases ts with
    | nil => cases q
    | cons t ts =>
      simp only [List.map_cons, List.cons.injEq] at q
      obtain ⟨q1, q2⟩ := q
      have e2 : allT (xs.map (·.2)) = some ts := by
        rw [q2]
        clear e ih q2 b
        induction ts with
        | nil => rfl
        | cons u us ih => simp [allT, ih]
      obtain ⟨i1, i2⟩ := ih b e2
      rw [q1] at a
      refine ⟨?_, ?_⟩
      · simp only [List.map_cons, RfL]
        exact ⟨v, _, rfl, a, i1⟩
      · simp only [List.map_cons, List.zip_cons_cons]
        rw [← i2]
theorem RwK.of_zip : ∀ {ks : List Key} {ts : List T} {vs : List V}, RfL K s.fz s.H ts vs → RwK K s (ks.zip (ts.map W.t)) (ks.zip vs)
  | [], _, _, _ => rfl
  | k :: ks, [], vs, h => by simp only [RfL] at h; rw [h]; rfl
  | k :: ks, t :: ts, vs, h => by
    simp only [RfL] at h
    obtain ⟨v, r, e, a, b⟩ := h
    subst e
    exact ⟨v, _, rfl, a, RwK.of_zip b⟩
end
/-- a tree for a key -/
def kT : Key → T | .inl i => .int i | .inr x => .str x
theorem kT_rf {K : PySem.W.Frag} {fz : Addr → Prop} {H : Hp} : ∀ (k : Key), Rf K fz H (kT k) (kV k)
  | .inl _ => by simp [kT, kV, Rf]
  | .inr _ => by simp [kT, kV, Rf]
/-- the dict that an expression gives, locked for good -/
def tFrzD (t : TE) : TE := fun σ H Q => t σ H fun x H1 => ∃ d kvs, x = .ref d ∧ H1 d = some (.dK kvs) ∧ ∀ od, Q x (upd H1 d (.frz od (.dK kvs)))
theorem pe_frzD {X : Cx} {e : Expr} {t : TE} (h : PE X e t) : PE X e (tFrzD t) := by
  refine ⟨fun pins s σ H Q I q => ?_⟩
  refine thn (h.run pins s σ H _ I q) fun v s1 ⟨x, H1, I1, r, d, kvs, ex, e, q1⟩ => ?_
  obtain ⟨od, I2⟩ := I1.lock e True.intro
  exact ⟨x, _, I2, r, q1 od⟩
def freezeD (w : W) (hp : IH) : Res W := match w with
  | .r i => (match getD hp i with
    | some kvs => (match allT (kvs.map (·.2)) with | some ts => .ok (.t (.dic (kvs.map (·.1)) ts)) (hp.set i none) | none => .bad)
    | none => .bad)
  | _ => .bad
def mFrzD (F : M W) : M W := fun eta hp => (F eta hp).bind fun a h1 => freezeD a h1
section
variable {X : Cx} {Wx : WX} {e m k v : Expr} {F Fd Fk Fv : M W} {pos : Pos}
theorem ie_frzD (he : IE X Wx e F) : IE X Wx e (mFrzD F) := PE.imp (pe_frzD he) fun σ H Q h =>
  tM.bind1 (R := fun (x : V) (H1 : Hp) => ∃ d kvs, x = .ref d ∧ H1 d = some (.dK kvs) ∧ ∀ od, Q x (upd H1 d (.frz od (.dK kvs)))) (k := fun (a : W) _ hp => freezeD a hp) h fun s eta w x R1 S1 f1 g => by
    unfold freezeD at g
    split at g
    · rename_i i
      split at g
      · rename_i kvs hd
        split at g
        · rename_i ts ht
          obtain ⟨a, vs, e, e1, e2, l, _⟩ := R1.dic hd f1
          subst e
          refine ⟨a, vs, rfl, e2, fun od => ?_⟩
          obtain ⟨l1, l2⟩ := l.split ht
          have A := aft_frzD (o := .frz od (.dK vs)) R1 (getD_eq hd) e1
          refine g (.ref a) (s.frzD i a (.frz od (.dK vs))) rfl A (rel_frzD R1 (getD_eq hd) e1) ?_
          simp only [Rw, Rf]
          refine ⟨a, vs.map (·.2), rfl, ⟨.inr rfl, od, ?_⟩, ?_, RfL.aft A R1 _ _ l1⟩
          · show upd s.H a _ a = _
            rw [upd_same, ← l2]
          · have := RfL.length l1
            rw [this, List.length_map, List.length_map, l.length]
        · exact g.elim
      · exact g.elim
    · exact g.elim
/-! ### d[k], k in d -/
def dGetT : Op2 := fun a b hp => match a, asK b with
  | .t (.dic ks ts), some k => (match valW (ks.zip (ts.map W.t)) k with | some w => .ok w hp | none => .bad)
  | _, _ => .bad
def dInT (neg : Bool) : Op2 := fun b a hp => match a, asK b with
  | .t (.dic ks ts), some k => .ok (.t (.bl (if neg then !(valW (ks.zip (ts.map W.t)) k).isSome else (valW (ks.zip (ts.map W.t)) k).isSome))) hp
  | _, _ => .bad
theorem dic_rf {K : PySem.W.Frag} {s : S4} {ks : List Key} {ts : List T} {v : V} (h : Rw K s (.t (.dic ks ts)) v) : ∃ a o vs, v = .ref a ∧ s.H a = some (.frz o (.dK (ks.zip vs))) ∧ s.fz a ∧ ks.length = ts.length ∧ RfL K s.fz s.H ts vs := by
  simp only [Rw, Rf] at h
  obtain ⟨a, vs, e, ⟨f, o, t⟩, n, l⟩ := h
  exact ⟨a, o, vs, e, t, f, n, l⟩
theorem RwK.isSome {K : PySem.W.Frag} {s : S4} (k : Key) {ws : List (Key × W)} {vs : List (Key × V)} (r : RwK K s ws vs) : (valV vs k).isSome = (valW ws k).isSome := by
  cases h : valW ws k with
  | none => rw [r.none k h]; rfl
  | some w => obtain ⟨v, h1, _⟩ := r.val k h; rw [h1]; rfl
theorem ie_dgetT (hu : X.A.units + 64 < cLine) (ho : IE X Wx m Fd) (hi : IE X Wx k Fk) (hs : NoSl k := by intro _ _; rfl) : IE X Wx (.Subscript m k pos) (mBin dGetT Fd Fk) :=
  PE.imp (pe_dget (by omega) ho hi hs) fun σ H Q h =>
    tM.bind2 (Fam' := Rw X.K) (R := fun (x y : V) (H2 : Hp) => ∃ a v, x = .ref a ∧ DGet H2 a y (some v) ∧ Q v H2) (k := fun (a b : W) _ hp => dGetT a b hp) Rw.keep h fun s eta a b a' b' R1 S1 f1 f2 g => by
      unfold dGetT at g
      split at g
      · rename_i ks ts k hk
        split at g
        · rename_i w hw
          obtain ⟨a, o, vs, e, e2, _, _, l⟩ := dic_rf f1
          obtain ⟨v, h3, h4⟩ := (RwK.of_zip (ks := ks) l).val k hw
          refine ⟨a, v, e, ?_, g v s rfl (Aft.refl s) R1 h4⟩
          exact .inl ⟨_, k, .inr ⟨o, e2⟩, asK_eq hk f2, h3.symm⟩
        · exact g.elim
      · exact g.elim
theorem t_dinT {σ : St} {H : Hp} {Q : VK} (h : tE X.K Wx (mBin (dInT false) Fk Fd) σ H Q) : tDIn (tE X.K Wx Fk) (tE X.K Wx Fd) σ H Q :=
    tM.bind2 (Fam' := Rw X.K) (R := fun (y x : V) (H2 : Hp) => ∃ a o, x = .ref a ∧ DGet H2 a y o ∧ Q (.bl o.isSome) H2) (k := fun (a b : W) _ hp => dInT false a b hp) Rw.keep h fun s eta b a b' a' R1 S1 f2 f1 g => by
      unfold dInT at g
      split at g
      · rename_i ks ts k hk
        obtain ⟨a, o, vs, e, e2, _, _, l⟩ := dic_rf f1
        refine ⟨a, _, e, .inl ⟨_, k, .inr ⟨o, e2⟩, asK_eq hk f2, rfl⟩, ?_⟩
        rw [(RwK.of_zip (ks := ks) l).isSome k]
        exact g _ s rfl (Aft.refl s) R1 (by simp [Rw, Rf])
      · exact g.elim
theorem ie_dinT (hu : X.A.units + 64 < cLine) (hi : IE X Wx k Fk) (ho : IE X Wx m Fd) (hm : behindInMarks .In m = false := by rfl) : IE X Wx (.Compare k [.In] [m] pos) (mBin (dInT false) Fk Fd) :=
  PE.imp (pe_cmp (pc_din (by omega) hi ho) hm) fun σ H Q h => t_dinT h
theorem it_dinT (hu : X.A.units + 64 < cLine) (hi : IE X Wx k Fk) (ho : IE X Wx m Fd) (hm : behindInMarks .In m = false := by rfl) : IT X Wx (.Compare k [.In] [m] pos) (mTest asB (mBin (dInT false) Fk Fd)) :=
  PT.imp (pt_cmp (pc_din (by omega) hi ho) hm) fun σ H Q h => by
    have h' : tE X.K Wx (mBin (dInT false) Fk Fd) σ H (fun x H1 => ∃ k, x = .bl k ∧ Q k H1) := tM.bind1 (R := fun (x : V) (H1 : Hp) => ∃ k, x = .bl k ∧ Q k H1) (k := fun (a : W) _ hp => asB a hp) h fun s eta a b R1 _ f1 g => go_asB R1 f1 g
    exact t_dinT h'
end
/-! ### d.items(), for k in d -/
def itemsD (a : W) (hp : IH) : Res (List W) := match a with
  | .t (.dic ks ts) => .ok (zipT (ks.map kT) ts) hp
  | _ => .bad
def keysD (a : W) (hp : IH) : Res (List W) := match a with
  | .t (.dic ks _) => .ok (ks.map fun k => W.t (kT k)) hp
  | _ => .bad
def mItemsD (F : M W) : M (List W) := fun eta hp => (F eta hp).bind itemsD
def mKeysD (F : M W) : M (List W) := fun eta hp => (F eta hp).bind keysD
section
variable {K : PySem.W.Frag} {s : S4}
theorem zip_get {ks : List Key} {vs : List V} {i : Nat} {k : Key} {v : V} (h1 : ks[i]? = some k) (h2 : vs[i]? = some v) : (ks.zip vs)[i]? = some (k, v) := by
  rw [List.getElem?_zip_eq_some]; exact ⟨h1, h2⟩
theorem src_itemsD (R : Rel K s) {a : Addr} {o : Obj} {ks : List Key} {ts : List T} {vs : List V} (f : s.fz a) (e : s.H a = some (.frz o (.dK (ks.zip vs)))) (n : ks.length = ts.length) (l : RfL K s.fz s.H ts vs) : SrcF K s (zipT (ks.map kT) ts) (Iti a o (ks.zip vs)) := by
  intro s' A' R' i
  have q := A'.keep a _ e fun z => R.fz a z f
  have l' := RfL.aft A' R _ _ l
  have hl := RfL.length l
  have hz : (ks.zip vs).length = ks.length := by rw [List.length_zip, ← hl, ← n, Nat.min_self]
  refine ⟨fun w hw => ?_, fun e2 => ⟨q, by rw [hz, e2, zipT_length, List.length_map, ← n, Nat.min_self]; exact Nat.le_refl _⟩⟩
  obtain ⟨t, u, ht, hu, rfl⟩ := zipT_get _ _ _ _ hw
  rw [List.getElem?_map, Option.map_eq_some_iff] at ht
  obtain ⟨k, hk, rfl⟩ := ht
  obtain ⟨v, hv, rv⟩ := RfL.get l' hu
  refine ⟨⟨q, by rw [hz]; exact (List.getElem?_eq_some_iff.mp hk).1⟩, fun x H' y => ?_⟩
  obtain ⟨p, k', v', h1, ex, np, eH⟩ := y
  rw [zip_get hk hv] at h1
  cases h1
  subst ex eH
  exact ⟨s'.addF p (.tup [kV k, v]), rfl, rfl, aft_addF R' np, rel_addF R' np, addF_pr R' np ⟨kV k, _, rfl, kT_rf k, v, [], rfl, rv, by simp [RfL]⟩⟩
theorem src_keysD (R : Rel K s) {a : Addr} {o : Obj} {ks : List Key} {ts : List T} {vs : List V} (f : s.fz a) (e : s.H a = some (.frz o (.dK (ks.zip vs)))) (n : ks.length = ts.length) (l : RfL K s.fz s.H ts vs) : SrcF K s (ks.map fun k => W.t (kT k)) (Itk a o (ks.zip vs)) := by
  intro s' A' R' i
  have q := A'.keep a _ e fun z => R.fz a z f
  have hl := RfL.length l
  have hz : (ks.zip vs).length = ks.length := by rw [List.length_zip, ← hl, ← n, Nat.min_self]
  refine ⟨fun w hw => ?_, fun e2 => ⟨q, by rw [hz, e2, List.length_map]; exact Nat.le_refl _⟩⟩
  rw [List.getElem?_map, Option.map_eq_some_iff] at hw
  obtain ⟨k, hk, rfl⟩ := hw
  refine ⟨⟨q, by rw [hz]; exact (List.getElem?_eq_some_iff.mp hk).1⟩, fun x H' y => ⟨s', y.1.symm, rfl, Aft.refl _, R', ?_⟩⟩
  obtain ⟨_, k', v', h1, h2⟩ := y
  rw [List.getElem?_zip_eq_some] at h1
  rw [hk] at h1
  obtain ⟨h1, _⟩ := h1
  cases h1
  rw [h2]
  exact kT_rf _
end
section
variable {X : Cx} {Wx : WX} {e tg : Expr} {F : M W} {pos tpos apos : Pos} {elts : List Expr} {kk : Nat}
theorem ii_itemsD (he : IE X Wx e F) (hbase : attributeBase e "items" X.env (eval e X.env) = eval e X.env := by rfl) (hline : (apos.endLine == pos.line) = true := by rfl) : II X Wx (.Tuple elts kk tpos) (.Call (.Attribute e "items" apos) [] [] pos) (mItemsD F) :=
  PI.imp (pi_items he hbase hline) fun σ H Q h =>
  tM.bind1 (R := fun (x : V) (H1 : Hp) => ∃ d o kvs, x = .ref d ∧ H1 d = some (.frz o (.dK kvs)) ∧ Q (Iti d o kvs) H1) (k := fun (a : W) _ h1 => itemsD a h1) h fun s eta w v R1 S1 f1 g => by
    unfold itemsD at g
    split at g
    · obtain ⟨a, o, vs, e, e2, f, n, l⟩ := dic_rf f1
      exact ⟨a, o, _, e, e2, Go.src R1 g (src_itemsD R1 f e2 n l)⟩
    · exact g.elim
theorem ii_keysD (he : IE X Wx e F) : II X Wx tg e (mKeysD F) :=
  PI.imp (pi_keys he) fun σ H Q h =>
  tM.bind1 (R := fun (x : V) (H1 : Hp) => ∃ d o, x = .ref d ∧ ((∃ kvs, H1 d = some (.frz o (.dK kvs)) ∧ Q (Itk d o kvs) H1) ∨ ∃ kvs, H1 d = some (.frz o (.dT kvs)) ∧ Q (Itkt d o kvs) H1)) (k := fun (a : W) _ h1 => keysD a h1) h fun s eta w v R1 S1 f1 g => by
    unfold keysD at g
    split at g
    · obtain ⟨a, o, vs, e, e2, f, n, l⟩ := dic_rf f1
      exact ⟨a, o, e, .inl ⟨_, e2, Go.src R1 g (src_keysD R1 f e2 n l)⟩⟩
    · exact g.elim
/-! ### {} -/
def mNewD : M W := fun _ hp => .ok (.r hp.length) (hp ++ [some (.dic [])])
theorem ie_newD : IE X Wx (.Dict [] [] pos) mNewD := PE.imp pe_dnewK fun σ H Q h => by
  obtain ⟨s, eta, e1, R1, S1, g⟩ := h
  subst e1
  intro p np
  have A1 := aft_addL R1 np (c := .dic []) (o := .dK [])
  have R2 : Rel X.K (s.addL p (.dic []) (.dK [])) := rel_addL R1 np ⟨[], rfl, rfl⟩
  refine g (.ref p) (s.addL p (.dic []) (.dK [])) rfl A1 R2 ⟨p, ?_, rfl⟩
  show (s.rho ++ [p])[s.hp.length]? = some p
  rw [List.getElem?_append_right (by rw [R1.len]; exact Nat.le_refl _), R1.len]
  simp
/-! ### {**d, k: v} -/
def mrgEnd (i j : Nat) (k v : W) (h3 : IH) : Res W := match asK k, getD h3 i, getD h3 j with
  | some key, some kvs, some [] => if kvs.length ≤ 1000 then .ok (.r i) ((h3.set j none).set i (some (.dic (putW kvs key v)))) else .bad
  | _, _, _ => .bad
def mMrg (Fd Fk Fv : M W) : M W := fun eta hp => (Fd eta (hp ++ [some (.dic [])])).bind fun d h1 => match d, getD h1 hp.length with
  | .t (.dic ks ts), some [] => if ks.length ≤ 1000 then (Fk eta (h1.set hp.length (some (.dic (mergeW [] (ks.zip (ts.map W.t))))) ++ [some (.dic [])])).bind fun k h2 => (Fv eta h2).bind fun v h3 => mrgEnd hp.length h1.length k v h3 else .bad
  | _, _ => .bad
variable {m k v : Expr} {Fd Fk Fv : M W}
theorem ie_mrg (hm : IE X Wx m Fd) (hk : IE X Wx k Fk) (hv : IE X Wx v Fv) : IE X Wx (.Dict [none, some k] [m, v] pos) (mMrg Fd Fk Fv) :=
  PE.imp (pe_mrg hm (pps_cons hk hv pps_nil)) fun σ H Q q => by
    obtain ⟨s, eta, e1, R1, S1, g⟩ := q
    subst e1
    intro p np
    have A1 := aft_addL R1 np (c := .dic []) (o := .dK [])
    have R2 : Rel X.K (s.addL p (.dic []) (.dK [])) := rel_addL R1 np ⟨[], rfl, rfl⟩
    have S2 := S1.aft A1 R1
    have g0 := Go.aft g A1
    unfold mMrg at g0
    refine ⟨s.addL p (.dic []) (.dK []), eta, rfl, R2, S2, Go.bind g0 fun d d' s1 A2 Rr rd _ g1 => ?_⟩
    have S3 := S2.aft A2 R2
    have hr : s1.rho[s.hp.length]? = some p := by
      obtain ⟨ex, e, _⟩ := A2.pre
      rw [e]
      have e0 : (s.addL p (.dic []) (.dK [])).rho = s.rho ++ [p] := rfl
      rw [e0, ← R1.len, List.getElem?_append_left (by simp)]
      simp
    split at g1
    · rename_i ks ts hd _
      split at g1
      · rename_i hl
        obtain ⟨a, o, vs, e, e2, f, n, l⟩ := dic_rf rd
        obtain ⟨p', us, e', e3, e4, l', _⟩ := Rr.dic hd (show Rw X.K s1 (.r s.hp.length) (.ref p) from ⟨p, hr, rfl⟩)
        cases e'
        rw [show us = [] from l'] at e4
        have ne : a ≠ p := fun z => by rw [z, e4] at e2; cases e2
        have hz : (ks.zip vs).length = ks.length := by rw [List.length_zip, ← RfL.length l, ← n, Nat.min_self]
        refine ⟨a, ks.zip vs, e, ne, .inr ⟨o, e2⟩, e4, by rw [hz]; exact hl, fun q nq => ?_⟩
        have A3 := aft_setL Rr (getD_eq hd) hr (c := .dic (mergeW [] (ks.zip (ts.map W.t)))) (o := .dK (mergeK [] (ks.zip vs)))
        have R3 : Rel X.K (s1.setL s.hp.length p (.dic (mergeW [] (ks.zip (ts.map W.t)))) (.dK (mergeK [] (ks.zip vs)))) := rel_setL Rr (getD_eq hd) hr ⟨_, rfl, RwK.merge (RwK.of_zip l) (show RwK X.K s1 [] [] from rfl)⟩
        have S4 := S3.aft A3 Rr
        have A4 := aft_addL R3 (show (s1.setL s.hp.length p (.dic (mergeW [] (ks.zip (ts.map W.t)))) (.dK (mergeK [] (ks.zip vs)))).H q = none from nq) (c := .dic []) (o := .dK [])
        have R4 : Rel X.K ((s1.setL s.hp.length p (.dic (mergeW [] (ks.zip (ts.map W.t)))) (.dK (mergeK [] (ks.zip vs)))).addL q (.dic []) (.dK [])) := rel_addL R3 nq ⟨[], rfl, rfl⟩
        have S5 := S4.aft A4 R3
        have hlt : s.hp.length < s1.hp.length := (List.getElem?_eq_some_iff.mp (getD_eq hd)).1
        refine ⟨(s1.setL s.hp.length p (.dic (mergeW [] (ks.zip (ts.map W.t)))) (.dK (mergeK [] (ks.zip vs)))).addL q (.dic []) (.dK []), eta, rfl, R4, S5, Go.bind (Go.aft g1 (A3.trans A4)) fun k k' s4 A5 R5 rk _ g2 => ?_⟩
        refine ⟨s4, eta, rfl, R5, S5.aft A5 R4, Go.bind g2 fun v v' s5 A6 R6 rv _ g3 => ?_⟩
        have A45 := A5.trans A6
        have hrp : s5.rho[s.hp.length]? = some p := by
          obtain ⟨ex, e, _⟩ := A45.pre
          rw [e]
          have e0 : ((s1.setL s.hp.length p (.dic (mergeW [] (ks.zip (ts.map W.t)))) (.dK (mergeK [] (ks.zip vs)))).addL q (.dic []) (.dK [])).rho = s1.rho ++ [q] := rfl
          have hl1 : s.hp.length < s1.rho.length := by rw [Rr.len]; exact hlt
          rw [e0, List.getElem?_append_left (by simp; omega), List.getElem?_append_left hl1]
          exact hr
        have hrq : s5.rho[s1.hp.length]? = some q := by
          obtain ⟨ex, e, _⟩ := A45.pre
          rw [e]
          have e0 : ((s1.setL s.hp.length p (.dic (mergeW [] (ks.zip (ts.map W.t)))) (.dK (mergeK [] (ks.zip vs)))).addL q (.dic []) (.dK [])).rho = s1.rho ++ [q] := rfl
          rw [e0, ← Rr.len, List.getElem?_append_left (by simp)]
          simp
        unfold mrgEnd at g3
        split at g3
        · rename_i key kvs hk hd1 hd2
          split at g3
          · rename_i hn
            obtain ⟨p1, us1, f1, f2, f3, l1, _⟩ := R6.dic hd1 (show Rw X.K s5 (.r s.hp.length) (.ref p) from ⟨p, hrp, rfl⟩)
            cases f1
            obtain ⟨q1, us2, f4, f5, f6, l2, _⟩ := R6.dic hd2 (show Rw X.K s5 (.r s1.hp.length) (.ref q) from ⟨q, hrq, rfl⟩)
            cases f4
            rw [show us2 = [] from l2] at f6
            refine ⟨us1, f3, by rw [← l1.length]; exact hn, f6, [(key, v')], by rw [asK_eq hk (rk.aft A6 R5)]; rfl, by simp, ?_⟩
            have A7 := aft_frzD (o := .dK (mergeK [] [(key, v')])) R6 (getD_eq hd2) hrq
            have R7 := rel_frzD (o := .dK (mergeK [] [(key, v')])) R6 (getD_eq hd2) hrq
            have hpi : (s5.frzD s1.hp.length q (.dK (mergeK [] [(key, v')]))).hp[s.hp.length]? = some (some (.dic kvs)) := by
              show (s5.hp.set s1.hp.length none)[s.hp.length]? = _
              rw [List.getElem?_set_ne (by omega)]
              exact getD_eq hd1
            have A8 := aft_setL R7 hpi (show (s5.frzD s1.hp.length q (.dK (mergeK [] [(key, v')]))).rho[s.hp.length]? = some p from hrp) (c := .dic (putW kvs key v)) (o := .dK (mergeK us1 (mergeK [] [(key, v')])))
            have R8 := rel_setL R7 hpi (show (s5.frzD s1.hp.length q (.dK (mergeK [] [(key, v')]))).rho[s.hp.length]? = some p from hrp) (c := .dic (putW kvs key v)) (o := .dK (mergeK us1 (mergeK [] [(key, v')])))
              ⟨putK us1 key v', rfl, RwK.aft A7 R6 _ _ (l1.put key rv)⟩
            exact g3 (.ref p) _ rfl (A7.trans A8) R8 ⟨p, hrp, rfl⟩
          · exact g3.elim
        · exact g3.elim
      · exact g1.elim
    · exact g1.elim
end
end Mir

/-! MirJ: the index of an int in a list of ints. -/
namespace Mir
open PySem PySem.Spec L2
open PyProof.Rows hiding St

def oIndexI : OpM := fun w ws hp => match ws with
  | [.t (.int z)] => (match (litems hp w).bind (allW asI) with | some ns => if z ∈ ns then .ok (.t (.int (ns.idxOf z : Nat))) hp else .bad | none => .bad)
  | _ => .bad
theorem idxI_first {z : Int} : ∀ {ns : List Int}, z ∈ ns → ns[ns.idxOf z]? = some z ∧ ∀ m, m < ns.idxOf z → ns[m]? ≠ some z
  | [], h => by cases h
  | n :: ns, h => by
    by_cases e : n = z
    · subst e
      rw [List.idxOf_cons_self]
      exact ⟨rfl, fun m hm => absurd hm (Nat.not_lt_zero _)⟩
    · have hz : z ∈ ns := by
        rcases List.mem_cons.mp h with h | h
        · exact absurd h.symm e
        · exact h
      obtain ⟨h1, h2⟩ := idxI_first hz
      have e0 : (n == z) = false := by simpa using e
      have e2 : (n :: ns).idxOf z = ns.idxOf z + 1 := by simp [List.idxOf_cons, e0]
      rw [e2]
      refine ⟨by simpa using h1, fun m hm => ?_⟩
      cases m with
      | zero => simpa using e
      | succ m => simpa using h2 m (by omega)
section
variable {K : PySem.W.Frag} {Wx : WX}
theorem flat_intsJ : ∀ (ns : List Int), (ns.map V.int).all flatV = true
  | [] => rfl
  | n :: ns => by simp [flatV]
theorem ok_indexI : OpMOk K Wx oIndexI (rIndex K) := by
  intro s w ws x xs Q R rx rxs go
  unfold oIndexI at go
  split at go
  · rename_i z
    obtain ⟨u, e, ru⟩ := RwL.one rxs
    simp only [Rw, Rf] at ru
    subst e ru
    split at go
    · rename_i ns hn
      rw [Option.bind_eq_some_iff] at hn
      obtain ⟨ys, h1, h2⟩ := hn
      split at go
      · rename_i hm
        obtain ⟨p, zs, ex, q, l⟩ := litems_sq R h1 rx
        have ez := allI_eq h2 l
        subst ex ez
        obtain ⟨i1, i2⟩ := idxI_first hm
        refine ⟨p, _, _, ns.idxOf z, .int z, rfl, rfl, q, rfl, flat_intsJ ns, by rw [List.getElem?_map, i1]; rfl, by simp [eqV], fun m z' hm' hz' => ?_, go _ s rfl (Aft.refl s) R (by simp [Rw, Rf])⟩
        rw [List.getElem?_map, Option.map_eq_some_iff] at hz'
        obtain ⟨y, hy, ey⟩ := hz'
        subst ey
        have : y ≠ z := fun e => i2 m hm' (by rw [hy, e])
        simpa [eqV] using this
      · exact go.elim
    · exact go.elim
  · exact go.elim
end
section
variable {X : Cx} {Wx : WX} {o e : Expr} {Fo : M W} {Fs : M (List W)} {apos cpos : Pos}
theorem ie_indexI (ho : IE X Wx o Fo) (ha : IA X Wx [e] Fs) (hb : attributeBase o "index" X.env (eval o X.env) = eval o X.env := by rfl)
    (hfew : ((backTo cpos (starEach [e] X.env)).all (fun x => !x.1) && (backToKw cpos (keywordEach [] X.env)).all (fun x => x.1.isSome) && decide ([e].length + ([] : List Keyword).length + (if ([] : List Keyword).isEmpty then 0 else 1) < 30)) = true := by rfl)
    (hline : (apos.endLine == cpos.line) = true := by rfl) (hs : starEach [e] X.env = (false, eval e X.env) :: starEach [] X.env := by rfl) : IE X Wx (.Call (.Attribute o "index" apos) [e] [] cpos) (mMeth isL oIndexI Fo Fs) :=
  ie_lm F.slot_list_index F.type_list_index mt_index ok_indexI ho ha hb hfew hline hs rfl
end
end Mir

/-! MirK: sorted of a list or a tuple, by any order that the items' machine has; here of ints. -/
namespace MirS
open PySem PyProof.Rows Srt SrtO
section
variable {prog : Program} {w : World} {A : Around} {E : Value → Shared → Prop} {s : Shared}
theorem collect_sq {Q : List Value → Shared → Prop} (l : Addr) {T : String} {o : Obj} {xs : Array Value} {n : Nat} (hT : T = "list" ∨ T = "tuple") (ho : s.heap.get? l = some o) (hc : o.cls = .type T) (hd : o.data = .seq xs n)
    (hq : ∀ h1, s.heap.objs.size ≤ h1.objs.size → (∀ b u, s.heap.get? b = some u → h1.get? b = some u) → Q xs.toList { s with heap := h1 }) (hz : xs.size ≤ sizeLine) : wpAny (model prog w) A (collect (.ref l)) Q E s := by
  let G : Heap := s.heap.push { cls := .type "list", data := .seq ([] : List Value).toArray }
  let G2 : Heap := G.update s.heap.objs.size (Obj.mapSeq (· ++ xs))
  have a0 : G.get? s.heap.objs.size = some { cls := .type "list", data := .seq #[] 0 } := Heap.get?_push_size _ rfl
  have a1 := Heap.get?_update_self (Obj.mapSeq (· ++ xs)) a0 rfl
  have read : wpAny (model prog w) A (match Value.ref s.heap.objs.size with
      | Value.ref a => do
        match (← load a).data with
          | Data.seq xs _ => pure xs.toList
          | _ => unsupported "internal:collect"
      | _ => unsupported "internal:collect") Q E { s with heap := G2 } := by
    show wpAny _ A (load s.heap.objs.size >>= _) _ _ _
    refine wpAny_bind (wpAny_load a1 (wpAny_pure ?_))
    show Q ((#[] : Array Value) ++ xs).toList _
    rw [show ((#[] : Array Value) ++ xs).toList = xs.toList by simp]
    refine hq _ (by rw [Heap.size_update, size_push']; exact Nat.le_succ _) fun b u q => ?_
    rw [Heap.get?_update_other _ _ (Nat.ne_of_gt (Heap.lt_size q))]
    exact Heap.get?_push_of_some _ q
  unfold collect
  refine wpAny_bind (wpAny_runValue (codeAny_builtin F.entry_proto_collect ?_))
  rw [Around.under_plainId F.plain_proto_collect _]
  refine wpAny_bind (m := newList []) (wpAny_newObj_type ?_)
  refine wpAny_pure ⟨plainId_quiet F.plain_list_iadd _, codeAny_builtin F.entry_list_iadd ?_⟩
  rw [Around.under_plainId F.plain_list_iadd _]
  show wpAny _ A.in1 (Builtin.List.listExtendWith (.ref s.heap.objs.size) (.ref l) (.ref s.heap.objs.size)) _ _ { s with heap := G }
  have ex := wpAny_extend_seq (prog := prog) (w := w) (hsz := hz) (A := A) (R := fun r s' => r = .ok (.ret (.ref s.heap.objs.size)) ∧ s' = { s with heap := G2 }) (s := { s with heap := G }) _ l _ 0 hT a0 (Heap.get?_push_of_some _ ho) hc hd ⟨rfl, rfl⟩
  refine wpAny_mono ex (fun r s' q => ?_) fun e s' q => absurd q.1 (by simp)
  cases r with
  | done f =>
    obtain ⟨e, rfl⟩ := q
    cases e
    exact read
  | again c => exact ⟨q.1, codeAny_mono q.2 fun r' s'' z => by obtain ⟨rfl, rfl⟩ := z; exact read⟩
theorem sorted_seqO {l : Addr} {T : String} {o : Obj} {vs : List Value} {n : Nat} {ltv : Value → Value → Bool} {Q : Value → Shared → Prop} (O : Swo ltv) (hT : T = "list" ∨ T = "tuple") (ho : s.heap.get? l = some o) (hc : o.cls = .type T) (hd : o.data = .seq vs.toArray n) (hz : vs.length ≤ sizeLine)
    (hS : 2 ≤ vs.length → ∀ (h₁ : Heap) (a : Addr), h₁.get? a = some (seqObj "list" vs.toArray 0) → (∀ b o, s.heap.get? b = some o → b ≠ a ∧ h₁.get? b = some o) → SortableO prog w A.in1.in1 { s with heap := h₁ } a vs ltv)
    (h : ∀ (h2 : Heap) (p : Addr) (out : List Value) (ep : Nat), Srtd ltv out → Stb ltv out vs → s.heap.objs.size ≤ p → (∀ b o, s.heap.get? b = some o → h2.get? b = some o) → h2.get? p = some (seqObj "list" out.toArray ep) → Q (.ref p) { s with heap := h2 }) :
    wpAny (model prog w) A (call (.builtin "sorted") [.ref l]) Q E s := by
  refine Calls.call_function_entry kind_sorted plain_sorted entry_sorted (args_sorted1 _) ?_
  unfold Builtin.«sorted»
  refine wpAny_bind (m := checkCount "sorted" 1 1 _) (wpAny_pure ?_)
  refine wpAny_bind (collect_sq l hT ho hc hd (fun h1 z1 k1 => ?_) (by rw [List.size_toArray]; exact hz))
  rw [show vs.toArray.toList = vs by simp]
  refine wpAny_bind (wpAny_newList ?_ hz)
  have hoL : (h1.push (seqObj "list" vs.toArray 0)).get? h1.objs.size = some (seqObj "list" vs.toArray 0) := Heap.get?_push_size _ rfl
  have lt1 : ∀ b o, s.heap.get? b = some o → b < h1.objs.size := fun b o q => Heap.lt_size (k1 b o q)
  have keep : ∀ b o, s.heap.get? b = some o → b ≠ h1.objs.size ∧ (h1.push (seqObj "list" vs.toArray 0)).get? b = some o := fun b o q =>
    ⟨Nat.ne_of_lt (lt1 b o q), Heap.get?_push_of_some _ (k1 b o q)⟩
  show wpAny _ _ _ _ _ { s with heap := h1.push (seqObj "list" vs.toArray 0) }
  refine wpAny_bind (wpAny_holding (wpAny_call_entry slot_list_sort ⟨_, hoL, rfl⟩ entry_list_sort (list_sort_ord O hoL hz (fun h2 => hS h2 _ _ hoL keep) fun out hs hb => ⟨_, rfl, ?_⟩) (args_list_sort _)))
  obtain ⟨ep, he⟩ := sortedHeap_at (vs := vs) (n := 0) (out := out.toArray) hoL
  refine wpAny_pure ⟨_, rfl, h _ h1.objs.size out ep hs hb ?_ (fun b o q => ?_) he⟩
  · exact z1
  · rw [sortedHeap_old (keep b o q).1 (by rw [size_push']; exact Nat.lt_succ_of_lt (lt1 b o q))]
    exact (keep b o q).2
end
end MirS
namespace Mir
open PySem PySem.Spec L2
open PyProof.Rows hiding St
/-- sorted(t), a tuple of ints -/
def rSortedIT (K : PySem.W.Frag) : List V → Hp → VK → Prop := fun vs H Q => ∃ (a : Addr) (ns : List Int), vs = [V.ref a] ∧ SqT K H a (ns.map V.int) ∧
  ∀ (ns' : List Int) (p : Addr), ns'.Perm ns → ns'.Pairwise (· ≤ ·) → H p = none → Q (.ref p) (upd H p (.lst (ns'.map V.int)))
theorem cr_sortedIT {X : Cx} : CallR X (.builtin "sorted") (rSortedIT X.K) := by
  intro pins s σ H vs us Q J r h
  obtain ⟨a, ns, rfl, hs, q⟩ := h
  obtain ⟨its, rv, hl, hz⟩ := J.tuple hs
  rw [Vals.ref1 r]
  have hi := rv.ints
  obtain ⟨o, ho, hc, n, hd⟩ := hl
  have hz' : its.length ≤ sizeLine := by rw [← rv.length]; exact hz
  refine MirS.sorted_seqO SrtO.swo_int (.inr rfl) ho hc hd hz' (fun h2 h1 a' _ _ => SrtO.ints_sortable hi h2) fun h2 p out ep g1 g2 lp kp hp => ?_
  obtain ⟨k1, k2, k3⟩ := SrtO.ints_out hi g1 g2
  have hlen : ((out.map SrtO.iv).map V.int).length ≤ sizeLine := by
    rw [List.length_map, k2.length_eq, ← List.length_map (f := V.int)]
    exact hz
  exact ⟨.ref p, upd H p (.lst ((out.map SrtO.iv).map V.int)), J.laid (t' := s.toks) kp lp ⟨hlen, out, ep, vals_of_ints k1, hp⟩, rfl, q _ _ k2 k3 (J.hok.fresh lp)⟩
def oSortT : OpN := fun ws hp => match ws with
  | [.t (.tup ts)] => (match allW asI (ts.map W.t) with | some ns => .ok (.t (.lst ((srtI ns).map T.int))) hp | none => .bad)
  | _ => .bad
theorem ok_sortT {K : PySem.W.Frag} {Wx : WX} : OpNOk K Wx oSortT (rSortedIT K) := by
  intro s ws xs Q R r go
  unfold oSortT at go
  split at go
  · rename_i ts
    obtain ⟨v, e, rv⟩ := RwL.one r
    split at go
    · rename_i ns hn
      obtain ⟨p, zs, ev, t, l⟩ : ∃ a vs, v = .ref a ∧ FTup K s.fz s.H a vs ∧ RfL K s.fz s.H ts vs := by simpa only [Rw, Rf] using rv
      have q := allI_eq hn (RwL.of_trees.mpr l)
      subst e ev
      have sq := t.sq (K := K) (fz := s.fz) (H := s.H)
      rw [q] at sq
      refine ⟨p, ns, rfl, sq, fun ns' p' hp hs np => ?_⟩
      have := srtI_unique hp hs
      subst this
      exact go (.ref p') (s.addF p' (.lst ((srtI ns).map V.int))) rfl (aft_addF R np) (rel_addF R np) (addF_lst R np (ints_rf _))
    · exact go.elim
  · exact go.elim
end Mir

/-! MirM: dicts whose keys are tuples, as trees: dict(list of pairs), ==. -/
namespace Mir
open PySem PySem.Spec L2
open PyProof.Rows hiding St

/-! ### == of two dicts whose keys are objects -/
section
variable {prog : Program} {w : World} {K : Type} [DecidableEq K] {knd : HeapKind prog w K} {A : Around} {E : Value → Shared → Prop} {s : Shared}
inductive HitsH {K : Type} [DecidableEq K] (A : Around) (s : Shared) (xb : List (K × Addr × Value)) : List (K × Addr × Value) → Bool → Prop
  | nil : HitsH A s xb [] true
  | miss {x : K × Addr × Value} {r : List (K × Addr × Value)} : atKey xb x.1 = none → HitsH A s xb (x :: r) false
  | hit {x : K × Addr × Value} {r : List (K × Addr × Value)} {q : Addr × Value} {e b : Bool} : atKey xb x.1 = some q → SeqAt.EqAt A s x.2.2 q.2 e → HitsH A s xb r b → HitsH A s xb (x :: r) (e && b)
theorem HitsH.inv {xb r : List (K × Addr × Value)} {x : K × Addr × Value} {b : Bool} (h : HitsH A s xb (x :: r) b) :
    (atKey xb x.1 = none ∧ b = false) ∨ ∃ q e b', atKey xb x.1 = some q ∧ SeqAt.EqAt A s x.2.2 q.2 e ∧ HitsH A s xb r b' ∧ b = (e && b') := by
  cases h with
  | miss hn => exact .inl ⟨hn, rfl⟩
  | hit hy he hr => exact .inr ⟨_, _, _, hy, he, hr, rfl⟩
theorem samePairsH {nm : String} {a b : Addr} {xa xb : List (K × Addr × Value)} {r : Bool} {Q : Bool → Shared → Prop} (ha : (a == sysModules) = false) (hb : (b == sysModules) = false)
    (da : s.heap.DictOfH knd a xa) (db : s.heap.DictOfH knd b xb) (hu : knd.room A) (hits : xa.length = xb.length → HitsH A s xb xa r) (h : Q (xa.length == xb.length && r) s) :
    wpAny (model prog w) A (Builtin.Dict.samePairs nm a b) Q E s := by
  obtain ⟨oa, es, ep, hoa, _, hda, hea, hia, _⟩ := da
  obtain ⟨ob, es', ep', hob, _, hdb, heb, hib, hnb⟩ := db
  have hla : xa.length = es.size := (size_of_entries hea).symm
  have hlb : xb.length = es'.size := (size_of_entries heb).symm
  rw [hla, hlb] at h
  unfold Builtin.Dict.samePairs Builtin.Dict.showsAll
  rw [if_neg (show ¬ (a == sysModules) = true by rw [ha]; exact Bool.false_ne_true), if_neg (show ¬ (b == sysModules) = true by rw [hb]; exact Bool.false_ne_true)]
  refine wpAny_bind (wpAny_pure (wpAny_bind (wpAny_pure ?_)))
  refine wpAny_bind (wpAny_dictEntries hoa hda ?_)
  dsimp only
  refine wpAny_bind (wpAny_dictEntries hob hdb ?_)
  by_cases hsz : es.size = es'.size
  case neg =>
    rw [if_pos (by simpa using hsz)]
    have hbf : (es.size == es'.size) = false := by simpa using hsz
    rw [hbf, Bool.false_and] at h
    exact wpAny_bind (wpAny_rule (wpAny_pure h))
  case pos =>
    have h' : Q r s := by simpa [hsz] using h
    have hits' := hits (by rw [hla, hlb]; exact hsz)
    rw [if_neg (by rw [hsz]; simp)]
    refine wpAny_bind (wpAny_dictEpoch hoa hda ?_)
    refine wpAny_bind ?_
    rw [Std.Legacy.Range.forIn_eq_forIn_range']
    simp only [Std.Legacy.Range.size, Nat.sub_zero, Nat.add_sub_cancel, Nat.div_one]
    refine wpAny_forIn_list _
      (fun rest q s' => s' = s ∧ q = (none, ()) ∧ ∃ i, rest = List.range' i (es.size - i) ∧ i ≤ es.size ∧ HitsH A s xb (xa.drop i) r)
      _ ?_ ?_ _ _ ⟨rfl, rfl, 0, by simp, Nat.zero_le _, hits'⟩
    · rintro x rest q s' ⟨rfl, rfl, i, hr, hi, hpre⟩
      have hlt : i < es.size := by
        rcases Nat.lt_or_ge i es.size with h | h
        · exact h
        · rw [Nat.sub_eq_zero_of_le h] at hr; simp at hr
      obtain ⟨rfl, hrest⟩ : x = i ∧ rest = List.range' (i + 1) (es.size - (i + 1)) := by
        have e : es.size - i = (es.size - (i + 1)) + 1 := by omega
        rw [e, List.range'_succ] at hr
        injection hr with h1 h2
        exact ⟨h1, h2⟩
      refine wpAny_bind (wpAny_dictEntries hoa hda ?_)
      rw [Array.getElem?_eq_getElem hlt]
      have hlt' : x < xa.length := by rw [hla]; exact hlt
      obtain ⟨k, p, v, hkv⟩ : ∃ k p v, xa[x] = (k, p, v) := ⟨_, _, _, rfl⟩
      have hdrop : xa.drop x = (k, p, v) :: xa.drop (x + 1) := by rw [← hkv]; exact List.drop_eq_getElem_cons hlt'
      have hent : es[x] = ⟨knd.hash k, .ref p, v⟩ := by
        have z := entry_at hea x
        rw [Array.getElem?_eq_getElem hlt, List.getElem?_eq_getElem hlt', hkv] at z
        exact Option.some.inj z
      have hkey : knd.is s'.heap k p := by
        have z := hia xa[x] (List.getElem_mem hlt')
        rw [hkv] at z
        exact z
      rw [hdrop] at hpre
      show wpAny _ _ (holding [es[x].key, es[x].val] _ >>= _) _ _ _
      rw [hent]
      refine wpAny_bind (wpAny_holding (wpAny_bind (wpAny_dictFind_heap hu hkey hob hdb heb hib hnb (fun hno => ?_) fun j q hj => ?_)))
      · have hn : atKey xb k = none := atKey_none_of_get hno
        rcases hpre.inv with ⟨_, er⟩ | ⟨y, _, _, hy, _⟩
        · rw [er] at h'
          refine wpAny_pure ?_
          show wpAny _ _ (if (!false) = true then _ else _) _ _ _
          rw [if_pos (by decide)]
          exact wpAny_pure (wpAny_pure h')
        · rw [hn] at hy; exact nomatch hy
      · have hv' : atKey xb k = some q := atKey_of_get hnb hj
        have hej : es'[j]? = some ⟨knd.hash k, .ref q.1, q.2⟩ := by rw [entry_at heb j, hj]; rfl
        refine wpAny_bind (wpAny_dictEntries hob hdb ?_)
        rw [hej]
        rcases hpre.inv with ⟨hn, _⟩ | ⟨y, e, b', hy, he, hrr, er⟩
        · rw [hv'] at hn; exact nomatch hn
        · have ey : q = y := Option.some.inj (hv'.symm.trans hy)
          rw [← ey] at he
          refine wpAny_holding (he prog w _ _ ?_)
          cases e with
          | false =>
            rw [er, Bool.false_and] at h'
            show wpAny _ _ (if (!false) = true then _ else _) _ _ _
            rw [if_pos (by decide)]
            exact wpAny_pure (wpAny_pure h')
          | true =>
            rw [Bool.true_and] at er
            rw [← er] at hrr
            show wpAny _ _ (if (!true) = true then _ else _) _ _ _
            rw [if_neg (by decide)]
            refine wpAny_bind (wpAny_dictEpoch hoa hda ?_)
            rw [if_neg (by simp)]
            exact wpAny_pure ⟨rfl, rfl, x + 1, hrest, hlt, hrr⟩
    · rintro q s' ⟨rfl, rfl, i, hr, hi, hpre⟩
      have hin : i = es.size := by
        rcases Nat.lt_or_ge i es.size with h | h
        · have e : es.size - i = (es.size - (i + 1)) + 1 := by omega
          rw [e, List.range'_succ] at hr; exact nomatch hr
        · exact Nat.le_antisymm hi h
      refine wpAny_pure ?_
      rw [hin, ← hla, List.drop_length] at hpre
      cases hpre
      exact h'
theorem eqH {a b : Addr} {xa xb : List (K × Addr × Value)} {r : Bool} {Q : Value → Shared → Prop} (ha : (a == sysModules) = false) (hb : (b == sysModules) = false)
    (da : s.heap.DictOfH knd a xa) (db : s.heap.DictOfH knd b xb) (hu : A.units < cLine) (hr : knd.room A.in1) (hits : xa.length = xb.length → HitsH A.in1 s xb xa r) (h : Q (.bool (xa.length == xb.length && r)) s) :
    wpAny (model prog w) A (compareOp .Eq (.ref a) (.ref b)) Q E s := by
  refine wpAny_richCompare_same_room (op := .Eq) da.typeIs db.typeIs PySem.F.slot_dict_eq (wpAny_call_entry PySem.F.slot_dict_eq da.typeIs PySem.F.entry_dict_eq ?_ (PySem.F.args_dict_eq_2 _ _)) hu
  show wpAny _ _ (Builtin.Dict.dictSlotArgs "__eq__" ⟨[.ref a, .ref b], []⟩ >>= _) _ _ s
  refine wpAny_bind ?_
  unfold Builtin.Dict.dictSlotArgs
  refine wpAny_bind (wpAny_notOrdered_dict da.typeIs ?_)
  show wpAny _ _ (pure (Value.ref a, Value.ref b)) _ _ s
  refine wpAny_pure ?_
  refine wpAny_bind (wpAny_isInstance (T := "dict") db.typeIs PySem.F.sub_dict_dict ?_)
  simp only [Bool.not_true, Bool.false_eq_true, if_false]
  refine wpAny_bind (wpAny_pure (wpAny_bind (wpAny_pure ?_)))
  refine wpAny_bind (samePairsH ha hb da db hr hits ?_)
  refine wpAny_pure ⟨_, rfl, ?_, ?_⟩
  · exact fun x => nomatch x
  · simpa using h
end

/-! ### the values' == -/
def leafV : V → V → Option Bool
  | .non, .non => some true
  | .non, .int _ => some false
  | .int _, .non => some false
  | .int i, .int j => some (i == j)
  | _, _ => none
theorem leafV_at {A : Around} {s : Shared} {x y : V} {v u : Value} {e : Bool} (h : leafV x y = some e) (rx : RelV x v) (ry : RelV y u) : SeqAt.EqAt A s v u e := by
  unfold leafV at h
  split at h
  · cases h; cases rx; cases ry; exact SeqAt.EqAt.same _
  · cases h; cases rx; obtain ⟨t, rfl⟩ := ry; exact SeqAt.EqAt.none_int _ _
  · cases h; obtain ⟨t, rfl⟩ := rx; cases ry; exact SeqAt.EqAt.int_none _ _
  · cases h; obtain ⟨t, rfl⟩ := rx; obtain ⟨t', rfl⟩ := ry; exact SeqAt.EqAt.int_int _ _ _ _
  · cases h
/-- whether all of kvs are in lvs, as far as it is asked -/
def hitsV (lvs : List (List Key × V)) : List (List Key × V) → Option Bool
  | [] => some true
  | (k, v) :: r => match valV lvs k with
    | none => some false
    | some u => match leafV v u, hitsV lvs r with
      | some e, some b => some (e && b)
      | _, _ => none
theorem hits_at {A : Around} {s : Shared} {H : Hp} {lvs : List (List Key × V)} {xb : List (List Key × Addr × Value)} (rb : L2.KT H lvs xb) : ∀ {kvs : List (List Key × V)} {xa : List (List Key × Addr × Value)} {r : Bool}, L2.KT H kvs xa → hitsV lvs kvs = some r → HitsH A s xb xa r
  | _, _, r, .nil, h => by
    have e : r = true := by simpa [hitsV] using h.symm
    subst e
    exact .nil
  | _, _, r, .cons (a := p) (b := q) hp t, h => by
    obtain ⟨h1, _, h2⟩ := hp
    obtain ⟨k, v⟩ := p
    have h1 : k = q.1 := h1
    have rv := rb.val k
    unfold hitsV at h
    cases e1 : valV lvs k with
    | none =>
      rw [e1] at h rv
      simp only [Option.some.injEq] at h
      subst h
      refine .miss ?_
      rw [← h1]
      cases e2 : atKey xb k with
      | none => rfl
      | some z => rw [e2] at rv; exact rv.elim
    | some u =>
      rw [e1] at h rv
      cases e2 : atKey xb k with
      | none => rw [e2] at rv; exact rv.elim
      | some z =>
        rw [e2] at rv
        simp only at h
        split at h
        · rename_i e b l1 l2
          cases h
          exact .hit (q := z) (by rw [← h1]; exact e2) (leafV_at l1 h2 rv) (hits_at rb t l2)
        · cases h
def rEqD : R2 := fun x y H Q => ∃ a b kvs lvs r, x = .ref a ∧ y = .ref b ∧ H a = some (.dT kvs) ∧ H b = some (.dT lvs) ∧ hitsV lvs kvs = some r ∧ Q (.bl (kvs.length == lvs.length && r)) H
theorem op_eqD {X : Cx} (hu : X.A.units + 64 < cLine) : OpR X (compareOp .Eq) rEqD := by
  intro pins s σ H x y v u Q I rx ry q
  obtain ⟨a, b, kvs, lvs, r, rfl, rfl, h1, h2, hr, q⟩ := q
  cases rx
  cases ry
  obtain ⟨_, na, xa, ka, da⟩ := dt_of I.hok h1
  obtain ⟨_, nb, xb, kb, db⟩ := dt_of I.hok h2
  refine eqH (knd := tupleKind (mixKind X.prog X.w)) (r := r) na nb da db (by omega) (show X.A.in1.units < cLine by simp only [Around.in1_units]; omega) (fun _ => hits_at kb ka hr) ?_
  rw [← Paired.length ka, ← Paired.length kb]
  exact ⟨.bl (kvs.length == lvs.length && r), H, I, rfl, q⟩

/-! ### dict(list of pairs) -/
theorem paired_at {α β : Type} {F : α → β → Prop} : ∀ {l : List α} {m : List β} {j : Nat} {x : β}, Paired F l m → m[j]? = some x → ∃ e, l[j]? = some e ∧ F e x
  | _, _, _, _, .nil, h => by simp at h
  | _, _, 0, _, .cons h _, e => by simp only [List.getElem?_cons_zero, Option.some.injEq] at e; subst e; exact ⟨_, rfl, h⟩
  | _, _, j + 1, _, .cons _ t, e => by
    obtain ⟨y, e1, e2⟩ := paired_at (j := j) t (by simpa using e)
    exact ⟨y, by simpa using e1, e2⟩
abbrev EntV := Addr × Addr × List Key × V
def mergeT (es : List EntV) (acc : List (List Key × V)) : List (List Key × V) := es.foldl (fun acc e => putK acc e.2.2.1 e.2.2.2) acc
def EntOk (K : PySem.W.Frag) (H : Hp) (e : EntV) : Prop := SqT K H e.1 [.ref e.2.1, e.2.2.2] ∧ H e.2.1 = some (.tup (e.2.2.1.map kV))
def rDictT (K : PySem.W.Frag) : List V → Hp → VK → Prop := fun xs H Q => ∃ (a : Addr) (es : List EntV), xs = [.ref a] ∧ SqL K H a ((es.map (·.1)).map V.ref) ∧ (∀ e ∈ es, EntOk K H e) ∧
  ∀ p, H p = none → Q (.ref p) (upd H p (.dT (mergeT es [])))
theorem merge_kt {H : Hp} : ∀ {es : List EntV} {ps : List (List Key × Addr × Value)} {acc : List (List Key × V)} {xs : List (List Key × Addr × Value)},
    Paired (fun (e : EntV) (p : List Key × Addr × Value) => p.1 = e.2.2.1 ∧ p.2.1 = e.2.1 ∧ RelV e.2.2.2 p.2.2) es ps → (∀ e ∈ es, H e.2.1 = some (.tup (e.2.2.1.map kV))) → L2.KT H acc xs → L2.KT H (mergeT es acc) (storedAllH xs ps)
  | _, _, _, _, .nil, _, r => r
  | _, _, _, _, .cons (a := e) (b := p) h t, he, r => by
    obtain ⟨h1, h2, h3⟩ := h
    refine merge_kt (acc := putK _ e.2.2.1 e.2.2.2) (xs := storedH _ p.1 p.2.1 p.2.2) t (fun x hx => he x (List.mem_cons_of_mem _ hx)) ?_
    rw [h1, h2]
    exact r.put _ (he e (List.mem_cons_self ..)) h3
theorem mergeT_len (es : List EntV) : ∀ acc, (mergeT es acc).length ≤ acc.length + es.length := by
  induction es with
  | nil => intro acc; exact Nat.le_refl _
  | cons e es ih =>
    intro acc
    have h := ih (putK acc e.2.2.1 e.2.2.2)
    have h2 : (putK acc e.2.2.1 e.2.2.2).length ≤ acc.length + 1 := by
      unfold putK
      split <;> simp
    simp only [List.length_cons]
    show (mergeT es (putK acc e.2.2.1 e.2.2.2)).length ≤ _
    omega
theorem ents_of {X : Cx} {pins : List (Addr × Obj)} {σ : St} {H : Hp} {s : Shared} (I : Inv X pins σ H s) : ∀ {es : List EntV}, (∀ e ∈ es, EntOk X.K H e) →
    ∃ ps : List (List Key × Addr × Value), Paired (fun (e : EntV) (p : List Key × Addr × Value) => p.1 = e.2.2.1 ∧ p.2.1 = e.2.1 ∧ RelV e.2.2.2 p.2.2) es ps ∧ Paired (fun (e : EntV) (p : List Key × Addr × Value) => PairAt s.heap e.1 (.ref p.2.1) p.2.2) es ps
  | [], _ => ⟨[], .nil, .nil⟩
  | e :: es, h => by
    obtain ⟨ps, p1, p2⟩ := ents_of I (es := es) fun x hx => h x (List.mem_cons_of_mem _ hx)
    obtain ⟨sq, _⟩ := h e (List.mem_cons_self ..)
    obtain ⟨its, rv, tp, _⟩ := I.tuple sq
    obtain ⟨u, v, ei, ru, ry⟩ := vals2 rv
    cases ru
    subst ei
    refine ⟨(e.2.2.1, e.2.1, v) :: ps, .cons ⟨rfl, rfl, ry⟩ p1, .cons ?_ p2⟩
    obtain ⟨o, ho, hc, n, hd⟩ := tp
    exact .inl ⟨o, ho, hc, n, hd⟩
theorem call_dictT {X : Cx} (hc : X.calm = true) (hu : X.A.units + 64 < cLine) : CallR X (.type "dict") (rDictT X.K) := by
  intro pins s σ H xs us Q I r q
  obtain ⟨a, es, rfl, hq, he, q⟩ := q
  obtain ⟨u, rfl, rx⟩ := vals1 r
  cases rx
  obtain ⟨its, rv, pl, hz⟩ := I.list hq
  have ei := refs_at rv
  subst ei
  rw [List.length_map, List.length_map] at hz
  obtain ⟨ps, p1, p2⟩ := ents_of I he
  have hl : es.length = ps.length := Paired.length p1
  obtain ⟨o, n, ho, hco, hd, hdat⟩ := pl
  let pv : List (Value × Value) := ps.map fun p => (.ref p.2.1, p.2.2)
  have hpv : pv.length = ps.length := List.length_map _
  have keys : ∀ x ∈ ps, ∃ ob, s.heap.get? x.2.1 = some ob ∧ (tupleKind (mixKind X.prog X.w)).is s.heap x.1 x.2.1 := by
    intro x hx
    obtain ⟨j, hj⟩ := List.mem_iff_getElem?.mp hx
    obtain ⟨e, e1, e2⟩ := paired_at p1 hj
    have z := key_of (P := X.prog) (w := X.w) I.hok (he e (List.mem_of_getElem? e1)).2
    rw [e2.1, e2.2.1]
    obtain ⟨ob, it, m, g, r⟩ := id z
    exact ⟨ob, g, z⟩
  refine call_dict_pairsH (knd := tupleKind (mixKind X.prog X.w)) (ps := ps) (PairArg.list a ((es.map (·.1)).map Value.ref).toArray (fun j => (es.map (·.1)).getD j 0) pv) (I.ok.hd hc) (show X.A.in1.in1.units < cLine by simp only [Around.in1_units]; omega) ⟨⟨o, n, ho, hco, hd, hdat⟩, ?_, ?_⟩ ⟨hpv.symm, ?_⟩ ?_ (by rw [hpv, ← hl]; exact hz) fun h' tk hd' k => ?_
  · simp [hpv, hl]
  · intro j k v hj
    obtain ⟨x, hx, ex⟩ : ∃ x, ps[j]? = some x ∧ (Value.ref x.2.1, x.2.2) = (k, v) := by
      rw [List.getElem?_map] at hj
      obtain ⟨x, hx, ex⟩ := Option.map_eq_some_iff.mp hj
      exact ⟨x, hx, ex⟩
    cases ex
    obtain ⟨e, e1, e2⟩ := paired_at p2 hx
    have g : (es.map (·.1)).getD j 0 = e.1 := by simp [List.getD, e1]
    show _ = some (Value.ref ((es.map (·.1)).getD j 0)) ∧ PairAt s.heap ((es.map (·.1)).getD j 0) _ _
    rw [g]
    exact ⟨by simp [e1], e2⟩
  · intro i key v hi
    obtain ⟨x, hx, ex⟩ : ∃ x, ps[i]? = some x ∧ (Value.ref x.2.1, x.2.2) = (key, v) := by
      have hi : pv[i]? = some (key, v) := hi
      rw [List.getElem?_map] at hi
      obtain ⟨x, hx, ex⟩ := Option.map_eq_some_iff.mp hi
      exact ⟨x, hx, ex⟩
    cases ex
    exact ⟨x.1, x.2.1, hx, rfl⟩
  · intro h1 hk x hx
    obtain ⟨ob, g, it⟩ := keys x hx
    obtain ⟨o2, items, m, g2, c2, d2, i2⟩ := it
    exact ⟨o2, items, m, hk _ _ (Nat.ne_of_lt (Heap.lt_size g2)) (by simp) g2, c2, d2, i2⟩
  · have kp : ∀ b o, s.heap.get? b = some o → h'.get? b = some o := fun b o e => k b o (by simp) e
    have hm : (s.heap.objs.size == sysModules) = false := beq_eq_false_iff_ne.mpr (Nat.ne_of_gt I.big)
    have fr := I.hok.fresh (Nat.le_refl s.heap.objs.size)
    have kt : L2.KT H (mergeT es []) (storedAllH [] ps) := merge_kt p1 (fun e hx => (he e hx).2) .nil
    obtain ⟨o1, es1, ep1, g1, x1, d1, e1, _, n1⟩ := hd'
    refine ⟨.ref s.heap.objs.size, upd H s.heap.objs.size (.dT (mergeT es [])), I.laid (t' := tk) kp (Nat.le_refl _) ⟨?_, hm, storedAllH [] ps, kt.keeps fun b ys e => ?_, o1, es1, ep1, g1, x1, d1, e1, n1⟩, rfl, q _ fr⟩
    · refine Nat.le_trans (mergeT_len es []) ?_
      rw [List.length_nil, Nat.zero_add]
      exact hz
    · rw [upd_ne fun z => by rw [z, fr] at e; cases e]
      exact e
/-! ### the mirror -/
def prOf (ws : List W) (hp : IH) : Res W := match allT ws with
  | some ts => if ts.length ≤ 16777216 then .ok (.t (.pr ts)) hp else .bad
  | none => .bad
def keyT : T → Option Key
  | .int i => some (.inl i)
  | .str x => some (.inr x)
  | _ => none
def keysT : List T → Option (List Key)
  | [] => some []
  | t :: r => match keyT t, keysT r with
    | some k, some ks => some (k :: ks)
    | _, _ => none
def entT : T → Option (List Key × T)
  | .tup [.pr ks, v] => (keysT ks).map fun k => (k, v)
  | _ => none
def entsT : List T → Option (List (List Key × T))
  | [] => some []
  | t :: r => match entT t, entsT r with
    | some e, some es => some (e :: es)
    | _, _ => none
def putG (kvs : List (List Key × T)) (k : List Key) (v : T) : List (List Key × T) :=
  if (kvs.any fun kv => decide (kv.1 = k)) = true then kvs.map (fun kv => if kv.1 = k then (kv.1, v) else kv) else kvs ++ [(k, v)]
def mergeG (es acc : List (List Key × T)) : List (List Key × T) := es.foldl (fun acc e => putG acc e.1 e.2) acc
/-- dict(list of pairs) -/
def oDictT : OpN := fun ws hp => match ws with
  | [.t (.lst ts)] => match entsT ts with
    | some es => if es.length ≤ 16777216 then .ok (.t (.dit ((mergeG es []).map (·.1)) ((mergeG es []).map (·.2)))) hp else .bad
    | none => .bad
  | _ => .bad
def leafG : T → T → Option Bool
  | .non, .non => some true
  | .non, .int _ => some false
  | .int _, .non => some false
  | .int i, .int j => some (i == j)
  | _, _ => none
def valD2 (kvs : List (List Key × T)) (k : List Key) : Option T := (kvs.find? fun kv => decide (kv.1 = k)).map (·.2)
def hitsG (lvs : List (List Key × T)) : List (List Key × T) → Option Bool
  | [] => some true
  | (k, v) :: r => match valD2 lvs k with
    | none => some false
    | some u => match leafG v u, hitsG lvs r with
      | some e, some b => some (e && b)
      | _, _ => none
/-- == of two dicts whose keys are tuples -/
def eqDW : Op2 := fun a b hp => match a, b with
  | .t (.dit k1 v1), .t (.dit k2 v2) => match hitsG (k2.zip v2) (k1.zip v1) with
    | some r => .ok (.t (.bl ((k1.zip v1).length == (k2.zip v2).length && r))) hp
    | none => .bad
  | _, _ => .bad
section
variable {K : PySem.W.Frag} {Wx : WX} {s : S4}
abbrev RD (K : PySem.W.Frag) (fz : Addr → Prop) (H : Hp) : List (List Key × T) → List (List Key × V) → Prop := Paired fun e p => p.1 = e.1 ∧ Rf K fz H e.2 p.2
theorem RD.any {fz : Addr → Prop} {H : Hp} {l : List (List Key × T)} {kvs : List (List Key × V)} (r : RD K fz H l kvs) (k : List Key) : (kvs.any fun kv => decide (kv.1 = k)) = l.any fun kv => decide (kv.1 = k) := by
  induction r with
  | nil => rfl
  | cons h t ih => simp only [List.any_cons, ih, h.1]
theorem RD.repl {fz : Addr → Prop} {H : Hp} {l : List (List Key × T)} {kvs : List (List Key × V)} (r : RD K fz H l kvs) (k : List Key) {x : T} {v : V} (h : Rf K fz H x v) :
    RD K fz H (l.map fun kv => if kv.1 = k then (kv.1, x) else kv) (kvs.map fun kv => if kv.1 = k then (kv.1, v) else kv) := by
  induction r with
  | nil => exact .nil
  | @cons e p _ _ h1 t ih =>
    rw [List.map_cons, List.map_cons]
    refine .cons ?_ ih
    by_cases q : e.1 = k
    · rw [if_pos q, if_pos (h1.1.trans q)]; exact ⟨h1.1, h⟩
    · rw [if_neg q, if_neg (fun z => q (h1.1.symm.trans z))]; exact h1
theorem RD.put {fz : Addr → Prop} {H : Hp} {l : List (List Key × T)} {kvs : List (List Key × V)} (r : RD K fz H l kvs) (k : List Key) {x : T} {v : V} (h : Rf K fz H x v) : RD K fz H (putG l k x) (putK kvs k v) := by
  unfold putG putK
  rw [r.any k]
  split
  · exact r.repl k h
  · exact Paired.snoc r ⟨rfl, h⟩
theorem RD.merge {fz : Addr → Prop} {H : Hp} : ∀ {es : List (List Key × T)} {fs : List EntV} {l : List (List Key × T)} {kvs : List (List Key × V)}, Paired (fun (e : List Key × T) (f : EntV) => f.2.2.1 = e.1 ∧ Rf K fz H e.2 f.2.2.2) es fs → RD K fz H l kvs → RD K fz H (mergeG es l) (mergeT fs kvs)
  | _, _, _, _, .nil, r => r
  | _, _, _, _, .cons (a := e) (b := f) h t, r => by
    refine RD.merge (l := putG _ e.1 e.2) (kvs := putK _ f.2.2.1 f.2.2.2) t ?_
    rw [h.1]
    exact r.put _ h.2
theorem RD.zip {fz : Addr → Prop} {H : Hp} {l : List (List Key × T)} {kvs : List (List Key × V)} (r : RD K fz H l kvs) : kvs = (l.map (·.1)).zip (kvs.map (·.2)) ∧ RfL K fz H (l.map (·.2)) (kvs.map (·.2)) := by
  induction r with
  | nil => exact ⟨rfl, by simp [RfL]⟩
  | @cons e p _ _ h t ih =>
    refine ⟨?_, ?_⟩
    · simp only [List.map_cons, List.zip_cons_cons]
      rw [← ih.1, ← h.1]
    · simp only [List.map_cons, RfL]
      exact ⟨_, _, rfl, h.2, ih.2⟩
theorem RD.of {fz : Addr → Prop} {H : Hp} : ∀ {ks : List (List Key)} {ts : List T} {vs : List V}, RfL K fz H ts vs → RD K fz H (ks.zip ts) (ks.zip vs)
  | [], _, _, _ => .nil
  | k :: ks, [], vs, h => by simp only [RfL] at h; rw [h]; exact .nil
  | k :: ks, t :: ts, vs, h => by
    simp only [RfL] at h
    obtain ⟨v, r, rfl, a, b⟩ := h
    exact .cons ⟨rfl, a⟩ (RD.of b)
theorem RD.val {fz : Addr → Prop} {H : Hp} {l : List (List Key × T)} {kvs : List (List Key × V)} (r : RD K fz H l kvs) (k : List Key) : (valD2 l k = none ∧ valV kvs k = none) ∨ ∃ x v, valD2 l k = some x ∧ valV kvs k = some v ∧ Rf K fz H x v := by
  induction r with
  | nil => exact .inl ⟨rfl, rfl⟩
  | @cons e p _ _ h t ih =>
    by_cases q : e.1 = k
    · refine .inr ⟨e.2, p.2, ?_, valV_pos (h.1.trans q), h.2⟩
      simp [valD2, List.find?_cons, q]
    · have e1 : valV (p :: _) k = valV _ k := valV_neg (r := by assumption) (fun z => q (h.1.symm.trans z))
      have e2 : ∀ r, valD2 (e :: r) k = valD2 r k := fun r => by simp [valD2, List.find?_cons, q]
      rw [e1, e2]
      exact ih
theorem leaf_rf {fz : Addr → Prop} {H : Hp} {x y : T} {v u : V} {e : Bool} (h : leafG x y = some e) (rx : Rf K fz H x v) (ry : Rf K fz H y u) : leafV v u = some e := by
  unfold leafG at h
  split at h <;> first | (cases h; simp only [Rf] at rx ry; subst rx ry; rfl) | cases h
theorem hits_rf {fz : Addr → Prop} {H : Hp} {m : List (List Key × T)} {lvs : List (List Key × V)} (rb : RD K fz H m lvs) : ∀ {l : List (List Key × T)} {kvs : List (List Key × V)} {r : Bool}, RD K fz H l kvs → hitsG m l = some r → hitsV lvs kvs = some r
  | _, _, r, .nil, h => h
  | _, _, r, .cons (a := e) (b := p) hp t, h => by
    obtain ⟨k, x⟩ := e
    obtain ⟨k', v⟩ := p
    obtain ⟨e1, rv⟩ := hp
    have e1 : k' = k := e1
    subst e1
    unfold hitsG at h
    unfold hitsV
    rcases rb.val k' with ⟨z1, z2⟩ | ⟨y, u, z1, z2, ru⟩
    · rw [z1] at h
      rw [z2]
      exact h
    · rw [z1] at h
      rw [z2]
      simp only at h ⊢
      split at h
      · rename_i e b l1 l2
        rw [leaf_rf l1 rv ru, hits_rf rb t l2]
        exact h
      · cases h
theorem ok_eqD : Op2Ok K Wx eqDW rEqD := by
  intro s a b x y Q R ra rb go
  unfold eqDW at go
  split at go
  · rename_i k1 v1 k2 v2
    split at go
    · rename_i r hr
      simp only [Rw, Rf] at ra rb
      obtain ⟨p, vs, rfl, ⟨_, h1⟩, n1, l1⟩ := ra
      obtain ⟨q, us, rfl, ⟨_, h2⟩, n2, l2⟩ := rb
      have d1 := RD.of (ks := k1) l1
      have d2 := RD.of (ks := k2) l2
      refine ⟨p, q, _, _, r, rfl, rfl, h1, h2, hits_rf d2 d1 hr, ?_⟩
      rw [← Paired.length d1, ← Paired.length d2]
      exact go _ s rfl (Aft.refl s) R (by simp [Rw, Rf])
    · exact go.elim
  · exact go.elim
theorem keys_rf {fz : Addr → Prop} {H : Hp} : ∀ {ts : List T} {vs : List V} {ks : List Key}, keysT ts = some ks → RfL K fz H ts vs → vs = ks.map kV
  | [], vs, ks, h, r => by
    simp only [keysT, Option.some.injEq] at h
    subst h
    simp only [RfL] at r
    exact r
  | t :: ts, vs, ks, h, r => by
    unfold keysT at h
    split at h
    · rename_i k ks' h1 h2
      cases h
      simp only [RfL] at r
      obtain ⟨v, r', rfl, a, b⟩ := r
      rw [keys_rf h2 b, List.map_cons]
      refine congrArg (· :: _) ?_
      unfold keyT at h1
      split at h1
      · cases h1; simp only [Rf] at a; exact a
      · cases h1; simp only [Rf] at a; exact a
      · cases h1
    · cases h
theorem ents_rf {s : S4} : ∀ {ts : List T} {vs : List V} {es : List (List Key × T)}, entsT ts = some es → RfL K s.fz s.H ts vs →
    ∃ fs : List EntV, vs = (fs.map (·.1)).map V.ref ∧ Paired (fun (e : List Key × T) (f : EntV) => f.2.2.1 = e.1 ∧ Rf K s.fz s.H e.2 f.2.2.2) es fs ∧ ∀ f ∈ fs, EntOk K s.H f
  | [], vs, es, h, r => by
    simp only [entsT, Option.some.injEq] at h
    subst h
    simp only [RfL] at r
    exact ⟨[], r, .nil, fun f hf => by simp at hf⟩
  | t :: ts, vs, es, h, r => by
    unfold entsT at h
    split at h
    · rename_i e es' h1 h2
      cases h
      simp only [RfL] at r
      obtain ⟨v, r', rfl, a, b⟩ := r
      obtain ⟨fs, e1, e2, e3⟩ := ents_rf h2 b
      unfold entT at h1
      split at h1
      · rename_i ks x
        obtain ⟨k, hk, ek⟩ := Option.map_eq_some_iff.mp h1
        subst ek
        simp only [Rf, RfL] at a
        obtain ⟨p, us, rfl, ft, u1, r1, rfl, ⟨q, ws, rfl, ⟨_, fp⟩, l⟩, u2, r2, rfl, x2, rfl⟩ := a
        have ew := keys_rf hk l
        subst ew
        refine ⟨(p, q, k, u2) :: fs, by rw [e1]; rfl, .cons ⟨rfl, x2⟩ e2, fun f hf => ?_⟩
        rcases List.mem_cons.mp hf with rfl | hf
        · exact ⟨ft.sq, fp⟩
        · exact e3 f hf
      · cases h1
    · cases h
theorem ok_dictT : OpNOk K Wx oDictT (rDictT K) := by
  intro s ws xs Q R r go
  unfold oDictT at go
  split at go
  · rename_i ts
    split at go
    · rename_i es he
      split at go
      · rename_i hz
        obtain ⟨v, e, rv⟩ := RwL.one r
        subst e
        simp only [Rw, Rf] at rv
        obtain ⟨a, vs, rfl, fl, l⟩ := rv
        obtain ⟨fs, e1, e2, e3⟩ := ents_rf he l
        refine ⟨a, fs, rfl, ?_, e3, fun p np => ?_⟩
        · rw [← e1]
          exact .inl (.inl fl.2)
        · have m := RD.merge e2 (.nil : RD K s.fz s.H [] [])
          obtain ⟨z1, z2⟩ := m.zip
          have A := aft_addF (o := .dT (mergeT fs [])) R np
          refine go (.ref p) (s.addF p (.dT (mergeT fs []))) rfl A (rel_addF R np) ?_
          simp only [Rw, Rf]
          refine ⟨p, _, rfl, ⟨.inr rfl, ?_⟩, by simp, RfL.aft A R _ _ z2⟩
          show upd s.H p _ p = _
          rw [upd_same, ← z1]
      · exact go.elim
    · exact go.elim
  · exact go.elim
theorem go_pr {ws : List W} {vs : List V} {Q : VK} (R : Rel K s) (r : RwL K s ws vs) (g : Go K Wx (Rw K) s (prOf ws s.hp) Q) : vs.length ≤ sizeLine ∧ ∀ p, s.H p = none → Q (.ref p) (upd s.H p (.tup vs)) := by
  unfold prOf at g
  split at g
  · rename_i ts ht
    split at g
    · rename_i hz
      rw [allT_eq ht] at r
      refine ⟨by rw [← RwL.length r, List.length_map, sizeLine_eq]; exact hz, fun p hp => g (.ref p) (s.addF p (.tup vs)) rfl (aft_addF R hp) (rel_addF R hp) (addF_pr R hp (RwL.of_trees.mp r))⟩
    · exact g.elim
  · exact g.elim
end
section
variable {X : Cx} {Wx : WX} {a b : Expr} {es : List Expr} {Fa Fb : M W} {Fs : M (List W)} {pos : Pos}
theorem ie_pr {x1} (h : IA X Wx es Fs) : IE X Wx (.Tuple es x1 pos) (mApp prOf Fs) := PE.imp (pe_tup h) fun σ H Q h =>
  tM.bind1 (R := fun (xs : List V) (H1 : Hp) => xs.length ≤ sizeLine ∧ ∀ p, H1 p = none → Q (.ref p) (upd H1 p (.tup xs))) (k := fun (a : List W) _ hp => prOf a hp) h fun s eta a b R1 _ f1 g => go_pr R1 f1 g
theorem ie_eqD (hu : X.A.units + 64 < cLine) (ha : IE X Wx a Fa) (hb : IE X Wx b Fb) : IE X Wx (.Compare a [.Eq] [b] pos) (mBin eqDW Fa Fb) := ie_cmp (op_eqD hu) ok_eqD ha hb (nomark _)
end
end Mir

/-! Dz: dict(zip(a, b)) of a list or tuple each, the keys ints and texts. -/
namespace Mir
open PySem PySem.Spec L2
open PyProof.Rows hiding St
section
variable {prog : Program} {w : World} {A : Around} {E : Value → Shared → Prop} {s : Shared} {z TI TO i1 i2 T : Addr} {fp1 fp2 : List Addr} {n1 n2 i : Nat} {P1 P2 : Nat → Value → Prop} {St1 St2 : Nat → Heap → Prop} {f : Bool} {oT : Obj}
/-- the next of a zip whose last tuple is still held: two iterators of any kind -/
theorem held_item {Q : Value → Shared → Prop} (S : ZipSep2 z TI TO i1 i2 fp1 fp2) (D1 : Draws prog w A i1 fp1 n1 P1 St1) (D2 : Draws prog w A i2 fp2 n2 P2 St2)
    (hz : PySem.IsZipHeld s.heap z TI TO T f) (hT : s.heap.get? T = some oT) (hTI : IsTupOf2 s.heap TI (.ref i1) (.ref i2)) (st1 : St1 i s.heap) (st2 : St2 i s.heap) (lt1 : i < n1) (lt2 : i < n2)
    (hQ : ∀ x y h' tk, P1 i x → P2 i y → PySem.IsZipHeld h' z TI TO T true → St1 (i + 1) h' → St2 (i + 1) h' → IsTupOf2 h' s.heap.objs.size x y →
      (∀ c o, c ≠ z → c ≠ i1 → c ≠ i2 → s.heap.get? c = some o → h'.get? c = some o) → Q (.ref s.heap.objs.size) { s with heap := h', toks := tk }) :
    wpAny (model prog w) A (Builtin.«zip.__next__» ⟨[.ref z], []⟩) (fun fin s' => ∃ v, fin = .done (.ret v) ∧ Q v s') E s := by
  obtain ⟨h0, g, d, t0, os⟩ := s
  show wpAny _ _ (field (.ref z) 2 >>= _) _ _ _
  refine wpAny_bind (wpAny_field hz rfl (x := .bool false) rfl ?_)
  show wpAny _ _ (field (.ref z) 3 >>= _) _ _ _
  refine wpAny_bind (wpAny_field hz rfl (x := .ref TI) rfl (wpAny_bind (wpAny_seqItems hTI rfl ?_)))
  show wpAny _ _ (Builtin.SmallTypes.ownedTupleIsFree (.ref z) >>= _) _ _ _
  refine wpAny_bind (wpAny_tupleHeld_zip hz hT fun ha za sa => ?_)
  simp only [Bool.false_eq_true, if_false]
  refine wpAny_bind ?_
  rw [← Array.forIn_toList]
  simp only [List.forIn_cons, List.forIn_nil]
  refine wpAny_bind (wpAny_bind (wpAny_holding ?_))
  show wpAny _ _ (Builtin.SmallTypes.nextOf (.ref i1) >>= _) _ _ _
  refine wpAny_bind (D1.item i _ _ _ lt1 (D1.over st1 sa S.zf1) fun x hb tb p1 u1 sb => wpAny_pure ?_)
  refine wpAny_pure (wpAny_bind (wpAny_bind (wpAny_holding ?_)))
  show wpAny _ _ (Builtin.SmallTypes.nextOf (.ref i2) >>= _) _ _ _
  refine wpAny_bind (D2.item i _ _ _ lt2 (D2.over (D2.over st2 sa S.zf2) sb S.sep1_2) fun y hc tc p2 u2 sc => wpAny_pure ?_)
  refine wpAny_pure (wpAny_pure ?_)
  show wpAny _ _ (newTuple [x, y] >>= _) _ _ _
  refine wpAny_bind (wpAny_newTuple (wpAny_pure ⟨_, rfl, ?_⟩))
  have sz : hc.objs.size = h0.objs.size := by rw [sc.1, sb.1, sa.1]
  have zc : PySem.IsZipHeld hc z TI TO T true := sc.extBut _ _ S.zi2 (sb.extBut _ _ S.zi1 za)
  have kp : ∀ c o, c ≠ z → c ≠ i1 → c ≠ i2 → h0.get? c = some o → hc.get? c = some o := fun c o c1 c2 c3 e => sc.extBut _ _ c3 (sb.extBut _ _ c2 (sa.extBut _ _ c1 e))
  have v1 : St1 (i + 1) hc := D1.over u1 sc S.sep2_1
  have up : ∀ c o, hc.get? c = some o → (hc.push { cls := .type "tuple", data := .seq #[x, y] }).get? c = some o := fun c o e => Heap.get?_push_of_some _ e
  have tp : IsTupOf2 (hc.push { cls := .type "tuple", data := .seq #[x, y] }) hc.objs.size x y := Heap.get?_push_size _ rfl
  show Q (.ref hc.objs.size) _
  rw [sz] at tp ⊢
  exact hQ x y _ _ p1 p2 (up _ _ zc) (D1.frame _ _ _ v1 fun c _ o e => up c o e) (D2.frame _ _ _ u2 fun c _ o e => up c o e) tp fun c o c1 c2 c3 e => up c o (kp c o c1 c2 c3 e)
theorem held_end {Q : Fin → Shared → Prop} (S : ZipSep2 z TI TO i1 i2 fp1 fp2) (D1 : Draws prog w A i1 fp1 n1 P1 St1) (D2 : Draws prog w A i2 fp2 n2 P2 St2)
    (hz : PySem.IsZipHeld s.heap z TI TO T f) (hT : s.heap.get? T = some oT) (hTI : IsTupOf2 s.heap TI (.ref i1) (.ref i2)) (st1 : St1 i s.heap) (st2 : St2 i s.heap) (le1 : i ≤ n1) (le2 : i ≤ n2) (hend : i = n1 ∨ i = n2)
    (hE : ∀ h' tk e, (∀ c o, c ≠ z → c ≠ i1 → c ≠ i2 → s.heap.get? c = some o → h'.get? c = some o) → (∃ o, h'.get? e = some o ∧ o.cls = .type "StopIteration") → E (.ref e) { s with heap := h', toks := tk }) :
    wpAny (model prog w) A (Builtin.«zip.__next__» ⟨[.ref z], []⟩) Q E s := by
  obtain ⟨h0, g, d, t0, os⟩ := s
  show wpAny _ _ (field (.ref z) 2 >>= _) _ _ _
  refine wpAny_bind (wpAny_field hz rfl (x := .bool false) rfl ?_)
  show wpAny _ _ (field (.ref z) 3 >>= _) _ _ _
  refine wpAny_bind (wpAny_field hz rfl (x := .ref TI) rfl (wpAny_bind (wpAny_seqItems hTI rfl ?_)))
  show wpAny _ _ (Builtin.SmallTypes.ownedTupleIsFree (.ref z) >>= _) _ _ _
  refine wpAny_bind (wpAny_tupleHeld_zip hz hT fun ha za sa => ?_)
  simp only [Bool.false_eq_true, if_false]
  refine wpAny_bind ?_
  rw [← Array.forIn_toList]
  simp only [List.forIn_cons, List.forIn_nil]
  refine wpAny_bind (wpAny_bind (wpAny_holding ?_))
  show wpAny _ _ (Builtin.SmallTypes.nextOf (.ref i1) >>= _) _ _ _
  by_cases e1 : i = n1
  · subst e1
    refine wpAny_bind (D1.done _ _ _ (D1.over st1 sa S.zf1) fun hb e kb he => ?_)
    exact hE hb t0 e (fun c o c1 c2 _ q => kb _ _ c2 (sa.extBut _ _ c1 q)) he
  · have e2 : i = n2 := hend.resolve_left e1
    refine wpAny_bind (D1.item i _ _ _ (by omega) (D1.over st1 sa S.zf1) fun x hb tb p1 u1 sb => wpAny_pure ?_)
    refine wpAny_pure (wpAny_bind (wpAny_bind (wpAny_holding ?_)))
    show wpAny _ _ (Builtin.SmallTypes.nextOf (.ref i2) >>= _) _ _ _
    subst e2
    refine wpAny_bind (D2.done _ _ _ (D2.over (D2.over st2 sa S.zf2) sb S.sep1_2) fun hc e kc he => ?_)
    exact hE hc tb e (fun c o c1 c2 c3 q => kc _ _ c3 (sb.extBut _ _ c2 (sa.extBut _ _ c1 q))) he
theorem next_held {Q : Option Value → Shared → Prop} (S : ZipSep2 z TI TO i1 i2 fp1 fp2) (D1 : Draws prog w A.in1 i1 fp1 n1 P1 St1) (D2 : Draws prog w A.in1 i2 fp2 n2 P2 St2)
    (hz : PySem.IsZipHeld s.heap z TI TO T f) (hT : s.heap.get? T = some oT) (hTI : IsTupOf2 s.heap TI (.ref i1) (.ref i2)) (st1 : St1 i s.heap) (st2 : St2 i s.heap) (lt1 : i < n1) (lt2 : i < n2)
    (hQ : ∀ x y h' tk, P1 i x → P2 i y → PySem.IsZipHeld h' z TI TO T true → St1 (i + 1) h' → St2 (i + 1) h' → IsTupOf2 h' s.heap.objs.size x y →
      (∀ c o, c ≠ z → c ≠ i1 → c ≠ i2 → s.heap.get? c = some o → h'.get? c = some o) → Q (some (.ref s.heap.objs.size)) { s with heap := h', toks := tk }) :
    wpAny (model prog w) A (pyNext (.ref z)) Q E s := by
  have ty : s.TypeIs (.ref z) "zip" := ⟨_, hz, rfl⟩
  unfold pyNext
  exact wpAny_bind (wpAny_attempt (wpAny_callSpecial?_slot (name := Str.ofString "__next__") ty F.slot_zip_next
    (wpAny_call_entry F.slot_zip_next ty F.entry_zip_next (held_item S D1 D2 hz hT hTI st1 st2 lt1 lt2 fun x y h' tk a b c d e k r => wpAny_pure (hQ x y h' tk a b c d e k r)) (F.args_zip_next_1 _))))
theorem stop_held {Q : Option Value → Shared → Prop} (S : ZipSep2 z TI TO i1 i2 fp1 fp2) (D1 : Draws prog w A.in1 i1 fp1 n1 P1 St1) (D2 : Draws prog w A.in1 i2 fp2 n2 P2 St2)
    (hz : PySem.IsZipHeld s.heap z TI TO T f) (hT : s.heap.get? T = some oT) (hTI : IsTupOf2 s.heap TI (.ref i1) (.ref i2)) (st1 : St1 i s.heap) (st2 : St2 i s.heap) (le1 : i ≤ n1) (le2 : i ≤ n2) (hend : i = n1 ∨ i = n2)
    (hQ : ∀ h' tk, (∀ c o, c ≠ z → c ≠ i1 → c ≠ i2 → s.heap.get? c = some o → h'.get? c = some o) → Q none { s with heap := h', toks := tk }) : wpAny (model prog w) A (pyNext (.ref z)) Q E s := by
  have ty : s.TypeIs (.ref z) "zip" := ⟨_, hz, rfl⟩
  unfold pyNext
  refine wpAny_bind (wpAny_attempt (wpAny_callSpecial?_slot (name := Str.ofString "__next__") ty F.slot_zip_next
    (wpAny_call_entry F.slot_zip_next ty F.entry_zip_next (held_end S D1 D2 hz hT hTI st1 st2 le1 le2 hend fun h' tk e k he => ?_) (F.args_zip_next_1 _))))
  obtain ⟨o, ho, hc⟩ := he
  exact wpAny_bind (wpAny_isInstance (T := "StopIteration") (b := true) ⟨o, ho, hc⟩ isSubtype_stop (wpAny_pure (hQ _ _ k)))
end
section
variable {prog : Program} {w : World}
theorem SeqH.there {h : Heap} {kd : Kd} {a : Addr} {its : Array Value} (x : SeqH h kd a its) : ∃ o, h.get? a = some o := by
  cases kd with
  | l => obtain ⟨o, e, _⟩ := x; exact ⟨o, e⟩
  | t => obtain ⟨o, e, _⟩ := x; exact ⟨o, e⟩
theorem SeqH.kp {h h' : Heap} {kd : Kd} {a : Addr} {its : Array Value} (x : SeqH h kd a its) (k : ∀ o, h.get? a = some o → h'.get? a = some o) : SeqH h' kd a its := by
  cases kd with
  | l => obtain ⟨o, e, r⟩ := x; exact ⟨o, k o e, r⟩
  | t => obtain ⟨o, e, r⟩ := x; exact ⟨o, k o e, r⟩
/-- a zip as the argument of dict() -/
theorem zip_arg {k1 k2 : Kd} {a b z TI TO i1 i2 : Addr} (S : ZipSep2 z TI TO i1 i2 [i1, a] [i2, b]) (na : a ≠ i1) (nb : b ≠ i2) (xs ys : Array Value) :
    PairArg prog w "zip" z [z, TI, TO, i1, a, i2, b] [z, TO, i1, i2] (min xs.size ys.size) (fun i k v => xs[i]? = some k ∧ ys[i]? = some v)
      (fun h => IsZip h z TI TO .none ∧ IsTupOf2 h TI (.ref i1) (.ref i2) ∧ (∃ p q, IsTupOf2 h TO p q) ∧ (IterH h k1 i1 a 0 ∧ SeqH h k1 a xs) ∧ (IterH h k2 i2 b 0 ∧ SeqH h k2 b ys)) where
  type := fun s ok => ⟨_, ok.1, rfl⟩
  notDict := by decide
  keep := fun h h' ok hk => by
    obtain ⟨hz, hTI, ⟨p, q, hTO⟩, ⟨j1, q1⟩, j2, q2⟩ := ok
    exact ⟨hk _ _ hz, hk _ _ hTI, ⟨p, q, hk _ _ hTO⟩, ⟨j1.at_ fun o e => hk _ o e, q1.kp fun o e => hk _ o e⟩, j2.at_ fun o e => hk _ o e, q2.kp fun o e => hk _ o e⟩
  there := fun h ok c hc => by
    obtain ⟨hz, hTI, ⟨p, q, hTO⟩, ⟨j1, q1⟩, j2, q2⟩ := ok
    simp only [List.mem_cons, List.not_mem_nil, or_false] at hc
    rcases hc with rfl | rfl | rfl | rfl | rfl | rfl | rfl
    · exact ⟨_, hz⟩
    · exact ⟨_, hTI⟩
    · exact ⟨_, hTO⟩
    · obtain ⟨o, e, _⟩ := j1.ob; exact ⟨o, e⟩
    · exact q1.there
    · obtain ⟨o, e, _⟩ := j2.ob; exact ⟨o, e⟩
    · exact q2.there
  sub := fun c hc => by simp at hc ⊢; rcases hc with rfl | rfl | rfl | rfl <;> simp
  noKeys := fun A s Q E hA ok h => getAttrOr_miss_zip ok.1 rfl rfl rfl zip_no_keys (by decide +kernel) hA h
  iter := fun A s d Q E hA ok hd hdf h => by
    obtain ⟨hz, hTI, ⟨p, q, hTO⟩, s1, s2⟩ := ok
    simp only [List.mem_cons, List.not_mem_nil, or_false, not_or] at hdf
    obtain ⟨dz, dTI, dTO, d1, da, d2, db⟩ := hdf
    have D1 := draws_sq (prog := prog) (w := w) (A := A.in1) (by simpa using hA) k1 i1 a na xs
    have D2 := draws_sq (prog := prog) (w := w) (A := A.in1) (by simpa using hA) k2 i2 b nb ys
    refine wpAny_pyIter_zip hz (h z [z, TO, i1, i2] (fun i h => IsTupOf2 h TI (.ref i1) (.ref i2) ∧ (IterH h k1 i1 a i ∧ SeqH h k1 a xs) ∧ (IterH h k2 i2 b i ∧ SeqH h k2 b ys) ∧
      ((IsZip h z TI TO .none ∧ ∃ p q, IsTupOf2 h TO p q) ∨ ∃ T f oT, PySem.IsZipHeld h z TI TO T f ∧ h.get? T = some oT ∧ T ≠ z ∧ T ≠ i1 ∧ T ≠ i2 ∧ T ≠ d)) s.heap s.toks ?_
      ⟨hTI, s1, s2, .inl ⟨hz, p, q, hTO⟩⟩ (fun _ _ e => e) fun c hc => .inl hc)
    exact {
      off := fun hm => by
        simp only [List.mem_cons, List.not_mem_nil, or_false] at hm
        rcases hm with e | e | e | e
        · exact dz e
        · exact dTO e
        · exact d1 e
        · exact d2 e
      frame := fun i g g' st hk => by
        obtain ⟨gTI, t1, t2, gz⟩ := st
        refine ⟨hk _ _ (Ne.symm dTI) gTI, D1.frame _ _ _ t1 fun c hc o e => hk c o (fun x => ?_) e, D2.frame _ _ _ t2 fun c hc o e => hk c o (fun x => ?_) e, ?_⟩
        · simp only [List.mem_cons, List.not_mem_nil, or_false] at hc
          rcases hc with y | y
          · exact d1 (x.symm.trans y)
          · exact da (x.symm.trans y)
        · simp only [List.mem_cons, List.not_mem_nil, or_false] at hc
          rcases hc with y | y
          · exact d2 (x.symm.trans y)
          · exact db (x.symm.trans y)
        · rcases gz with ⟨gz, p, q, gTO⟩ | ⟨T, f, oT, gz, gT, r1, r2, r3, r4⟩
          · exact .inl ⟨hk _ _ (Ne.symm dz) gz, p, q, hk _ _ (Ne.symm dTO) gTO⟩
          · exact .inr ⟨T, f, oT, hk _ _ (Ne.symm dz) gz, hk _ _ r4 gT, r1, r2, r3, r4⟩
      item := fun i u Q1 E1 hi st hds hQ => by
        obtain ⟨gTI, t1, t2, gz⟩ := st
        have l1 : i < xs.size := Nat.lt_of_lt_of_le hi (Nat.min_le_left ..)
        have l2 : i < ys.size := Nat.lt_of_lt_of_le hi (Nat.min_le_right ..)
        have lt : ∀ {c o}, u.heap.get? c = some o → u.heap.objs.size ≠ c := fun e => Nat.ne_of_gt (Heap.lt_size e)
        have m1 : u.heap.objs.size ≠ i1 := by obtain ⟨_, e⟩ := D1.live _ _ t1; exact lt e
        have m2 : u.heap.objs.size ≠ i2 := by obtain ⟨_, e⟩ := D2.live _ _ t2; exact lt e
        rcases gz with ⟨gz, p, q, gTO⟩ | ⟨T, f, oT, gz, gT, r1, r2, r3, r4⟩
        · refine wpAny_pyNext_zipD2_item S D1 D2 gz gTI gTO t1 t2 l1 l2 fun x y h' tk p1 p2 b1 b2 v1 v2 b5 b6 kp => ?_
          exact hQ u.heap.objs.size x y h' tk ⟨p1, p2⟩ (.inl ⟨_, b5, rfl, _, rfl⟩)
            ⟨kp _ _ S.TIz S.TITO S.TIi1 S.TIi2 gTI, v1, v2, .inr ⟨u.heap.objs.size, false, _, b1, b5, lt gz, m1, m2, Nat.ne_of_gt hds⟩⟩
            fun c o hc e => kp c o (fun x => hc (by simp [x])) (fun x => hc (by simp [x])) (fun x => hc (by simp [x])) (fun x => hc (by simp [x])) e
        · refine next_held S D1 D2 gz gT gTI t1 t2 l1 l2 fun x y h' tk p1 p2 b1 v1 v2 b5 kp => ?_
          exact hQ u.heap.objs.size x y h' tk ⟨p1, p2⟩ (.inl ⟨_, b5, rfl, _, rfl⟩)
            ⟨kp _ _ S.TIz S.TIi1 S.TIi2 gTI, v1, v2, .inr ⟨T, true, oT, b1, kp _ _ r1 r2 r3 gT, r1, r2, r3, r4⟩⟩
            fun c o hc e => kp c o (fun x => hc (by simp [x])) (fun x => hc (by simp [x])) (fun x => hc (by simp [x])) e
      done := fun u Q1 E1 st hQ => by
        obtain ⟨gTI, t1, t2, gz⟩ := st
        have en : min xs.size ys.size = xs.size ∨ min xs.size ys.size = ys.size := by omega
        rcases gz with ⟨gz, p, q, gTO⟩ | ⟨T, f, oT, gz, gT, r1, r2, r3, r4⟩
        · exact wpAny_pyNext_zipD2_end S D1 D2 gz gTI gTO t1 t2 (Nat.min_le_left ..) (Nat.min_le_right ..) en fun h' tk kp => hQ h' tk fun c o hc e => kp c o (fun x => hc (by simp [x])) (fun x => hc (by simp [x])) (fun x => hc (by simp [x])) (fun x => hc (by simp [x])) e
        · exact stop_held S D1 D2 gz gT gTI t1 t2 (Nat.min_le_left ..) (Nat.min_le_right ..) en fun h' tk kp => hQ h' tk fun c o hc e => kp c o (fun x => hc (by simp [x])) (fun x => hc (by simp [x])) (fun x => hc (by simp [x])) e }
end
section
variable {X : Cx}
def tDZip (K : PySem.W.Frag) (ta : TA) : TE := fun σ H Q => ta σ H fun vs H1 => ∃ (k1 k2 : Kd) (a b : Addr) (ks : List Key) (ys : List V), vs = [.ref a, .ref b] ∧ Sq K H1 k1 a (ks.map kV) ∧ Sq K H1 k2 b ys ∧ ks.length ≤ 16777216 ∧ ∀ p, H1 p = none → Q (.ref p) (upd H1 p (.dK (mergeK [] (ks.zip ys))))
theorem kv_zip : ∀ {ks : List Key} {ys : List V} {us : List Value}, Vals ys us → KV (ks.zip ys) (ks.zip us)
  | [], _, _, _ => .nil
  | k :: ks, [], _, r => by cases r; exact .nil
  | k :: ks, y :: ys, _, r => by
    cases r with
    | cons h t => exact .cons ⟨rfl, h⟩ (kv_zip t)
theorem pe_dzip {e e2 : Expr} {ta : TA} {p p2 q pos : Pos} (hc : X.calm = true) (hg : Gl X "dict") (hm : X.mg "dict" = none) (hg2 : Gl X "zip") (hm2 : X.mg "zip" = none) (ha : PA X [e, e2] ta)
    (hs : starEach [e, e2] X.env = (false, eval e X.env) :: starEach [e2] X.env := by rfl) (hpl : (backTo q (starEach [e2] X.env)).any (·.1) = false := by rfl)
    (na : starEach [Expr.Call (.Name "zip" p2) [e, e2] [] q] X.env = (false, eval (Expr.Call (.Name "zip" p2) [e, e2] [] q) X.env) :: starEach [] X.env := by rfl) :
    PE X (.Call (.Name "dict" p) [.Call (.Name "zip" p2) [e, e2] [] q] [] pos) (tDZip X.K ta) := ⟨fun pins s σ H Q I h => by
  refine Call_ (ld_blt I hg hm boot_dict (callWith_type1 (args_cons (Call_ (ld_blt I hg2 hm2 boot_zip (PyProof.Rows.callWith_type1 (thn (ha.run q pins s σ H _ I h) ?_) hs hpl))) na) na rfl))
  rintro us s1 ⟨vs, H1, I1, r1, k1, k2, a, b, ks, ys, ex, hqx, hqy, hz0, qq⟩
  subst ex
  obtain ⟨w1, w2, rfl, rfl, rfl⟩ := r1.two
  obtain ⟨xs, rv, p1⟩ := Inv_sq I1 hqx
  obtain ⟨zs, rv2, p2'⟩ := Inv_sq I1 hqy
  have la := p1.lt
  have lb := p2'.lt
  refine zip_begins2 (begins_sq k1 a xs.toArray) (begins_sq k2 b zs.toArray) p1 p2' fun h' hz hTI hTO h1 h2 hsz hk => ?_
  have lx : xs.length = ks.length := by rw [← rv.length, List.length_map]
  have ml : (mergeK [] (ks.zip ys)).length ≤ sizeLine := by
    refine Nat.le_trans (length_mergeK _ []) ?_
    rw [List.length_nil, Nat.zero_add, List.length_zip, sizeLine_eq]
    omega
  refine args_nil (call_dict_pairs (s := { s1 with heap := h' }) (knd := mixKind X.prog X.w) (kvs := ks.zip zs) (zip_arg (zip_sep2 (fp1 := [a]) (fp2 := [b]) (by simpa using la) (by simpa using lb)) (Nat.ne_of_lt la) (Nat.ne_of_lt (Nat.lt_succ_of_lt lb)) xs.toArray zs.toArray) (I1.ok.hd hc)
    ⟨hz, hTI, ⟨_, _, hTO⟩, ⟨IterH.new h1, p1.kp fun o e => hk _ o e⟩, IterH.new h2, p2'.kp fun o e => hk _ o e⟩ ⟨by simp [lx], ?_⟩ (by simp [lx, sizeLine_eq]; omega) fun g tk hd' kp => ?_)
  · rintro i key v ⟨ek, ev⟩
    have ek : xs[i]? = some key := by simpa using ek
    have ev : zs[i]? = some v := by simpa using ev
    have li : i < ks.length := by
      have := (List.getElem?_eq_some_iff.mp ek).1
      omega
    obtain ⟨u, e1, r⟩ := Vals.get rv (i := i) (x := kV ks[i]) (by rw [List.getElem?_map, List.getElem?_eq_getElem li]; rfl)
    rw [ek] at e1
    cases e1
    refine ⟨ks[i], ?_, kV_is (P := X.prog) (w := X.w) r⟩
    rw [List.getElem?_zip_eq_some]
    exact ⟨List.getElem?_eq_getElem li, ev⟩
  · have keep : ∀ c o, s1.heap.get? c = some o → g.get? c = some o := fun c o e => kp c o (fun hm => by
      have lt := Heap.lt_size e
      have e' : c = s1.heap.objs.size + 4 ∨ c = s1.heap.objs.size + 3 ∨ c = s1.heap.objs.size ∨ c = s1.heap.objs.size + 1 := by simpa using hm
      have nl : ∀ n : Nat, c = s1.heap.objs.size + n → False := fun n z => absurd lt (by rw [z]; exact Nat.not_lt.mpr (Nat.le_add_right _ _))
      rcases e' with z | z | z | z
      · exact nl 4 z
      · exact nl 3 z
      · exact nl 0 z
      · exact nl 1 z) (hk c o e)
    have le : s1.heap.objs.size ≤ h'.objs.size := by rw [hsz]; exact Nat.le_add_right _ _
    have ns : (h'.objs.size == sysModules) = false := beq_eq_false_iff_ne.mpr (Nat.ne_of_gt (Nat.lt_of_lt_of_le I1.big le))
    exact ⟨.ref h'.objs.size, upd H1 h'.objs.size (.dK (mergeK [] (ks.zip ys))), I1.laid (t' := tk) keep le (show ObjOk X.prog X.w _ _ _ (.dK (mergeK [] (ks.zip ys))) from ⟨ml, ns, merged [] (ks.zip zs), KV.merge (kv_zip rv2) .nil, hd'⟩), rfl, qq _ (I1.hok.fresh le)⟩⟩
end
/-- dict(zip(keys, values)): a live dict -/
def dzipE : OpN := fun ws hp => match ws with
  | [x, y] => match seqT x, seqT y with
    | some us, some ts => match keysT us with
      | some ks => if ks.length ≤ 16777216 then .ok (.r hp.length) (hp ++ [some (.dic (mergeW [] (ks.zip (ts.map W.t))))]) else .bad
      | none => .bad
    | _, _ => .bad
  | _ => .bad
section
variable {X : Cx} {Wx : WX} {e e2 : Expr} {Fs : M (List W)} {p p2 q pos : Pos}
theorem ie_dzip (hc : X.calm = true) (hm : X.mg "dict" = none) (hm2 : X.mg "zip" = none) (ha : IA X Wx [e, e2] Fs) (hg : Gl X "dict" := by rfl) (hg2 : Gl X "zip" := by rfl)
    (hs : starEach [e, e2] X.env = (false, eval e X.env) :: starEach [e2] X.env := by rfl) (hpl : (backTo q (starEach [e2] X.env)).any (·.1) = false := by rfl)
    (na : starEach [Expr.Call (.Name "zip" p2) [e, e2] [] q] X.env = (false, eval (Expr.Call (.Name "zip" p2) [e, e2] [] q) X.env) :: starEach [] X.env := by rfl) :
    IE X Wx (.Call (.Name "dict" p) [.Call (.Name "zip" p2) [e, e2] [] q] [] pos) (mApp dzipE Fs) :=
  PE.imp (pe_dzip hc hg hm hg2 hm2 ha hs hpl na) fun σ H Q h =>
    tM.bind1 (R := fun (vs : List V) (H1 : Hp) => ∃ (k1 k2 : Kd) (a b : Addr) (ks : List Key) (ys : List V), vs = [.ref a, .ref b] ∧ Sq X.K H1 k1 a (ks.map kV) ∧ Sq X.K H1 k2 b ys ∧ ks.length ≤ 16777216 ∧ ∀ p, H1 p = none → Q (.ref p) (upd H1 p (.dK (mergeK [] (ks.zip ys)))))
      (k := fun (ws : List W) _ h => dzipE ws h) h fun s eta ws vs R1 S1 f1 g => by
      unfold dzipE at g
      split at g
      · rename_i x y
        split at g
        · rename_i us ts h1 h2
          split at g
          · rename_i ks hk
            split at g
            · rename_i hz
              obtain ⟨v1, v2, rfl, r1, r2⟩ := RwL.two f1
              obtain ⟨k1, a, rfl, xs, q1, l1, _⟩ := fsq R1 h1 r1
              obtain ⟨k2, b, rfl, ys, q2, l2, _⟩ := fsq R1 h2 r2
              have ex := keys_rf hk l1
              subst ex
              exact ⟨k1, k2, a, b, ks, ys, rfl, q1, q2, hz, fun p np => g (.ref p) (s.addL p (.dic (mergeW [] (ks.zip (ts.map W.t)))) (.dK (mergeK [] (ks.zip ys)))) rfl (aft_addL R1 np) (rel_addL R1 np ⟨_, rfl, RwK.merge (RwK.of_zip l2) (show RwK X.K s [] [] from rfl)⟩) (addL_r R1)⟩
            · exact g.elim
          · exact g.elim
        · exact g.elim
      · exact g.elim
end
end Mir

/-! Pl: how the plain functions step (for simp). -/
namespace Mir
open PySem PySem.Spec L2
open PyProof.Rows hiding St
section
variable {A B : Type} {eta : IS} {hp : IH}
@[simp] theorem bind_ok {a : A} {k : A → IH → Res B} : (Res.ok a hp).bind k = k a hp := rfl
@[simp] theorem bind_bad {k : A → IH → Res B} : (Res.bad : Res A).bind k = .bad := rfl
@[simp] theorem bind_er {e : Ex} {k : A → IH → Res B} : (Res.er e eta hp : Res A).bind k = .er e eta hp := rfl
@[simp] theorem noEr_ok {a : A} : noEr (Res.ok a hp) = Res.ok a hp := rfl
@[simp] theorem noEr_bad : noEr (Res.bad : Res A) = .bad := rfl
@[simp] theorem then_nx {S : M Fl} {e : IS} : thenF S (.nx e) hp = S e hp := rfl
@[simp] theorem then_rt {S : M Fl} {w : W} : thenF S (.rt w) hp = .ok (.rt w) hp := rfl
@[simp] theorem then_bk {S : M Fl} {e : IS} : thenF S (.bk e) hp = .ok (.bk e) hp := rfl
@[simp] theorem then_ct {S : M Fl} {e : IS} : thenF S (.ct e) hp = .ok (.ct e) hp := rfl
@[simp] theorem p_var {i : Nat} : mVar i eta hp = (match eta[i]? with | some (some w) => .ok w hp | _ => .bad) := rfl
@[simp] theorem p_c {x : T} : mC x eta hp = (.ok (.t x) hp) := rfl
@[simp] theorem p_bin {f : Op2} {Fa Fb : M W} : mBin f Fa Fb eta hp = ((Fa eta hp).bind fun a h1 => (Fb eta h1).bind fun b h2 => f a b h2) := rfl
@[simp] theorem p_un {f : Op1} {Fa : M W} : mUn f Fa eta hp = ((Fa eta hp).bind fun a h1 => f a h1) := rfl
@[simp] theorem p_nil  : mNil eta hp = (.ok [] hp) := rfl
@[simp] theorem p_cons {Fa : M W} {Fr : M (List W)} : mCons Fa Fr eta hp = ((Fa eta hp).bind fun a h1 => (Fr eta h1).bind fun r h2 => .ok (a :: r) h2) := rfl
@[simp] theorem p_star {Fa : M W} {Fr : M (List W)} : mStar Fa Fr eta hp = ((Fa eta hp).bind fun a h1 => match items h1 a with | some ws => (Fr eta h1).bind fun r h2 => .ok (ws ++ r) h2 | none => .bad) := rfl
@[simp] theorem p_app {f : OpN} {Fs : M (List W)} : mApp f Fs eta hp = ((Fs eta hp).bind fun a h1 => f a h1) := rfl
@[simp] theorem p_frz {F : M W} : mFrz F eta hp = ((F eta hp).bind fun a h1 => freeze a h1) := rfl
@[simp] theorem p_test {f : W → IH → Res Bool} {F : M W} : mTest f F eta hp = ((F eta hp).bind fun a h1 => f a h1) := rfl
@[simp] theorem p_and {U V : M Bool} : mAnd U V eta hp = ((U eta hp).bind fun a h1 => if a then V eta h1 else .ok false h1) := rfl
@[simp] theorem p_or {U V : M Bool} : mOr U V eta hp = ((U eta hp).bind fun a h1 => if a then .ok true h1 else V eta h1) := rfl
@[simp] theorem p_not {U : M Bool} : mNot U eta hp = ((U eta hp).bind fun a h1 => .ok (!a) h1) := rfl
@[simp] theorem p_if {A : Type} {U : M Bool} {F G : M A} : mIf U F G eta hp = ((U eta hp).bind fun b h1 => if b then F eta h1 else G eta h1) := rfl
@[simp] theorem p_andV {Fa Fb : M W} : mAndV Fa Fb eta hp = ((Fa eta hp).bind fun a h1 => match a with | .t (.bl true) => Fb eta h1 | .t (.bl false) => .ok (.t (.bl false)) h1 | _ => .bad) := rfl
@[simp] theorem p_orV {Fa Fb : M W} : mOrV Fa Fb eta hp = ((Fa eta hp).bind fun a h1 => match a with | .t (.bl true) => .ok (.t (.bl true)) h1 | .t (.bl false) => Fb eta h1 | _ => .bad) := rfl
@[simp] theorem p_notV {Fa : M W} : mNotV Fa eta hp = ((Fa eta hp).bind fun a h1 => match a with | .t (.bl b) => .ok (.t (.bl (!b))) h1 | _ => .bad) := rfl
@[simp] theorem p_chain {f g : Op2} {Fa Fb Fc : M W} : mChain f g Fa Fb Fc eta hp = ((Fa eta hp).bind fun a h1 => (Fb eta h1).bind fun b h2 => (f a b h2).bind fun z h3 => match z with | .t (.bl true) => (Fc eta h3).bind fun c h4 => g b c h4 | .t (.bl false) => .ok (.t (.bl false)) h3 | _ => .bad) := rfl
@[simp] theorem p_skip  : mSkip eta hp = (.ok (.nx eta) hp) := rfl
@[simp] theorem p_seq {S R : M Fl} : mSeq S R eta hp = ((S eta hp).bind (thenF R)) := rfl
@[simp] theorem p_ret {F : M W} : mRet F eta hp = ((F eta hp).bind fun a h1 => .ok (.rt a) h1) := rfl
@[simp] theorem p_retN  : mRetN eta hp = (.ok (.rt (.t .non)) hp) := rfl
@[simp] theorem p_drop {F : M W} : mDrop F eta hp = ((F eta hp).bind fun _ h1 => .ok (.nx eta) h1) := rfl
@[simp] theorem p_brk  : mBrk eta hp = (.ok (.bk eta) hp) := rfl
@[simp] theorem p_cnt  : mCnt eta hp = (.ok (.ct eta) hp) := rfl
@[simp] theorem p_asg {F : M W} {G : W → IS → Option IS} : mAsg F G eta hp = ((F eta hp).bind fun a h1 => match G a eta with | some e => .ok (.nx e) h1 | none => .bad) := rfl
@[simp] theorem p_set {i : Nat} {F : M W} : mSet i F eta hp = ((F eta hp).bind fun a h1 => .ok (.nx (eta.set i (some a))) h1) := rfl
@[simp] theorem p_par {is : List Nat} {Fs : M (List W)} : mPar is Fs eta hp = ((Fs eta hp).bind fun ws h1 => if ws.length = is.length then .ok (.nx ((is.zip ws).foldl (fun e p => e.set p.1 (some p.2)) eta)) h1 else .bad) := rfl
@[simp] theorem p_parG {n : Nat} {Fs : M (List W)} {Gs : List W → IS → Option IS} : mParG n Fs Gs eta hp = ((Fs eta hp).bind fun ws h1 => if ws.length = n ∧ n ≤ 16777216 then (match Gs ws eta with | some e => .ok (.nx e) h1 | none => .bad) else .bad) := rfl
@[simp] theorem p_aug {i : Nat} {f : Op2} {F : M W} : mAug i f F eta hp = (match eta[i]? with | some (some x) => (F eta hp).bind fun y h1 => (f x y h1).bind fun z h2 => .ok (.nx (eta.set i (some z))) h2 | _ => .bad) := rfl
@[simp] theorem p_for {Fi : M (List W)} {G : W → IS → Option IS} {S : M Fl} : mFor Fi G S eta hp = ((Fi eta hp).bind fun ws h1 => forL G S ws eta h1) := rfl
@[simp] theorem p_while {n : Nat} {U : M Bool} {S : M Fl} : mWhile n U S eta hp = (whileL U S n eta hp) := rfl
@[simp] theorem p_comp {fin : OpN} {Fi : M (List W)} {G : W → IS → Option IS} {U : M Bool} {E : M W} {vs : List Nat} : mComp fin Fi G U E vs eta hp = ((Fi eta hp).bind fun ws h1 => if ws.length ≤ 16777216 then (compL G U E (wipeI eta vs) ws h1).bind fun r h2 => fin r h2 else .bad) := rfl
@[simp] theorem p_sq {F : M W} : mSq F eta hp = ((F eta hp).bind sqI) := rfl
@[simp] theorem p_src {f : List W → IH → Res (List W)} {Fs : M (List W)} : mSrc f Fs eta hp = ((Fs eta hp).bind f) := rfl
@[simp] theorem p_yes  : mYes eta hp = (.ok true hp) := rfl
@[simp] theorem p_call {f : OpN} {ds : List T} {Fs : M (List W)} : mCall f ds Fs eta hp = ((Fs eta hp).bind fun ws h1 => noEr (f (ws ++ ds.map W.t) h1)) := rfl
@[simp] theorem p_meth0 {ty : W → IH → Bool} {f : OpM} {Fo : M W} : mMeth0 ty f Fo eta hp = ((Fo eta hp).bind fun w h1 => if ty w h1 = true then f w [] h1 else .bad) := rfl
@[simp] theorem p_meth {ty : W → IH → Bool} {f : OpM} {Fo : M W} {Fs : M (List W)} : mMeth ty f Fo Fs eta hp = ((Fo eta hp).bind fun w h1 => if ty w h1 = true then (Fs eta h1).bind fun ws h2 => f w ws h2 else .bad) := rfl
@[simp] theorem p_sl {Fa : M W} {Fl Fh : MO} : mSl Fa Fl Fh eta hp = ((Fa eta hp).bind fun a h1 => (Fl eta h1).bind fun l h2 => (Fh eta h2).bind fun h h3 => slW a l h h3) := rfl
@[simp] theorem p_noPart  : mNoPart eta hp = (.ok none hp) := rfl
@[simp] theorem p_part {F : M W} : mPart F eta hp = ((F eta hp).bind fun a h1 => match a with | .t (.int i) => .ok (some i) h1 | _ => .bad) := rfl
@[simp] theorem p_disp {ps : List (Key × M W)} : mDisp ps eta hp = ((mVals ps eta (hp ++ [some (.dic [])])).bind fun kvs h1 => match getD h1 hp.length with | some [] => if kvs.length ≤ 15 then .ok (.r hp.length) (h1.set hp.length (some (.dic (mergeW [] kvs)))) else .bad | _ => .bad) := rfl
@[simp] theorem p_dput {Fd Fk Fv : M W} : mDPut Fd Fk Fv eta hp = ((Fv eta hp).bind fun v h1 => (Fd eta h1).bind fun d h2 => (Fk eta h2).bind fun k h3 => match d, asK k with | .r i, some k => (match getD h3 i with | some kvs => if kvs.length < 16777216 then .ok (.nx eta) (h3.set i (some (.dic (putW kvs k v)))) else .bad | none => .bad) | _, _ => .bad) := rfl
@[simp] theorem p_fz {i : Nat} {S : M Fl} : mFz i S eta hp = (match eta[i]? with | some (some w) => (freeze w hp).bind fun w' h1 => S (eta.set i (some w')) h1 | _ => .bad) := rfl
@[simp] theorem p_gN {i : Nat} {w : W} : gN i w eta = some (eta.set i (some w)) := rfl
@[simp] theorem p_gsN : gsN [] eta = some eta := rfl
@[simp] theorem p_gsC {G : W → IS → Option IS} {Gs : List W → IS → Option IS} {w : W} {ws : List W} : gsC G Gs (w :: ws) eta = (G w eta).bind fun e => Gs ws e := rfl
@[simp] theorem p_gTp {n : Nat} {Gs : List W → IS → Option IS} {ts : List T} : gT n Gs (.t (.pr ts)) eta = if ts.length = n then Gs (ts.map W.t) eta else none := rfl
@[simp] theorem p_gTt {n : Nat} {Gs : List W → IS → Option IS} {ts : List T} : gT n Gs (.t (.tup ts)) eta = if ts.length = n then Gs (ts.map W.t) eta else none := rfl
@[simp] theorem p_gAp {n : Nat} {Gs : List W → IS → Option IS} {ts : List T} : gA n Gs (.t (.pr ts)) eta = if ts.length = n then Gs (ts.map W.t) eta else none := rfl
@[simp] theorem p_gAt {n : Nat} {Gs : List W → IS → Option IS} {ts : List T} : gA n Gs (.t (.tup ts)) eta = if ts.length = n then Gs (ts.map W.t) eta else none := rfl
@[simp] theorem p_gAl {n : Nat} {Gs : List W → IS → Option IS} {ts : List T} : gA n Gs (.t (.lst ts)) eta = if ts.length = n then Gs (ts.map W.t) eta else none := rfl
@[simp] theorem p_forN {G : W → IS → Option IS} {S : M Fl} : forL G S [] eta hp = .ok (.nx eta) hp := rfl
@[simp] theorem p_compN {G : W → IS → Option IS} {U : M Bool} {E : M W} : compL G U E eta [] hp = .ok [] hp := rfl
@[simp] theorem allT_mapS {ts : List T} : allT (ts.map W.t) = some ts := by
  induction ts with
  | nil => rfl
  | cons t ts ih => simp [allT, ih]
@[simp] theorem seqT_t {ts : List T} : seqT (.t (.tup ts)) = some ts := rfl
@[simp] theorem seqT_l {ts : List T} : seqT (.t (.lst ts)) = some ts := rfl
@[simp] theorem seqT_s {ts : List T} : seqT (.t (.scr ts)) = some ts := rfl
@[simp] theorem items_t {ts : List T} : items hp (.t (.tup ts)) = some (ts.map W.t) := rfl
@[simp] theorem items_l {ts : List T} : items hp (.t (.lst ts)) = some (ts.map W.t) := rfl
@[simp] theorem items_s {ts : List T} : items hp (.t (.scr ts)) = some (ts.map W.t) := rfl
@[simp] theorem items_r {i : Nat} : items hp (.r i) = getL hp i := rfl
@[simp] theorem litems_l {ts : List T} : litems hp (.t (.lst ts)) = some (ts.map W.t) := rfl
@[simp] theorem litems_s {ts : List T} : litems hp (.t (.scr ts)) = some (ts.map W.t) := rfl
@[simp] theorem litems_r {i : Nat} : litems hp (.r i) = getL hp i := rfl
@[simp] theorem hitems_l {ts : List T} : hitems hp (.t (.lst ts)) = some (ts.map W.t) := rfl
@[simp] theorem hitems_r {i : Nat} : hitems hp (.r i) = getL hp i := rfl
@[simp] theorem asT_t {x : T} : asT hp (.t x) = some x := rfl
@[simp] theorem asT_r {i : Nat} : asT hp (.r i) = ((getL hp i).bind allT).map T.lst := rfl
/-! ### cells -/
@[simp] theorem getL_new {ws : List W} : getL (hp ++ [some (.lst ws)]) hp.length = some ws := by simp [getL]
@[simp] theorem getL_set {i : Nat} {ws : List W} (h : i < hp.length) : getL (hp.set i (some (.lst ws))) i = some ws := by simp [getL, h]
theorem getL_lt {i : Nat} {ws : List W} (h : getL hp i = some ws) : i < hp.length := (List.getElem?_eq_some_iff.mp (getL_eq h)).1
theorem getD_lt {i : Nat} {ws : List (Key × W)} (h : getD hp i = some ws) : i < hp.length := (List.getElem?_eq_some_iff.mp (getD_eq h)).1
end
/-! ### items of one kind -/
@[simp] theorem allI_map : ∀ {ns : List Int}, allW asI (ns.map fun n => W.t (.int n)) = some ns
  | [] => rfl
  | n :: ns => by simp [allW, asI, allI_map (ns := ns)]
@[simp] theorem allS_map : ∀ {ns : List Str}, allW asS (ns.map fun n => W.t (.str n)) = some ns
  | [] => rfl
  | n :: ns => by simp [allW, asS, allS_map (ns := ns)]
@[simp] theorem allB_map : ∀ {ns : List Bool}, allW asBl (ns.map fun n => W.t (.bl n)) = some ns
  | [] => rfl
  | n :: ns => by simp [allW, asBl, allB_map (ns := ns)]
/-! ### operations -/
section
variable {hp : IH} {i j : Int} {b c neg : Bool} {x y : Str} {u v : T}
@[simp] theorem asB_bl : asB (.t (.bl b)) hp = .ok b hp := rfl
@[simp] theorem truW_bl : truW (.t (.bl b)) hp = .ok b hp := rfl
@[simp] theorem iNeg_i : iNeg (.t (.int i)) hp = .ok (.t (.int (-i))) hp := rfl
@[simp] theorem opI_ii {C : Int → Int → Bool} {g : Int → Int → Int} : opI C g (.t (.int i)) (.t (.int j)) hp = if C i j = true then .ok (.t (.int (g i j))) hp else .bad := rfl
@[simp] theorem opC_ii {g : Int → Int → Bool} : opC g (.t (.int i)) (.t (.int j)) hp = .ok (.t (.bl (g i j))) hp := rfl
@[simp] theorem cYes_t : cYes i j = true := rfl
@[simp] theorem wLt_ii : wLt (.t (.int i)) (.t (.int j)) hp = .ok (.t (.bl (decide (i < j)))) hp := rfl
@[simp] theorem wLt_ss : wLt (.t (.str x)) (.t (.str y)) hp = .ok (.t (.bl (ltCps x.cps.toList y.cps.toList))) hp := rfl
@[simp] theorem wAdd_ii : wAdd (.t (.int i)) (.t (.int j)) hp = .ok (.t (.int (i + j))) hp := rfl
@[simp] theorem wAdd_tt {xs ys : List T} : wAdd (.t (.tup xs)) (.t (.tup ys)) hp = if xs.length + ys.length ≤ 16777216 then .ok (.t (.tup (xs ++ ys))) hp else .bad := rfl
@[simp] theorem wAdd_ll {xs ys : List T} : wAdd (.t (.lst xs)) (.t (.lst ys)) hp = if xs.length + ys.length ≤ 16777216 then .ok (.t (.lst (xs ++ ys))) hp else .bad := by simp [wAdd]
@[simp] theorem wMul_ii : wMul (.t (.int i)) (.t (.int j)) hp = if cMul i j = true then .ok (.t (.int (i * j))) hp else .bad := rfl
@[simp] theorem wMul_li {xs : List T} : wMul (.t (.lst xs)) (.t (.int j)) hp = if -(2 ^ 63) ≤ j ∧ j < 2 ^ 63 ∧ xs.length * j.toNat ≤ 16777216 then .ok (.t (.lst (repT j.toNat xs))) hp else .bad := by simp [wMul]
@[simp] theorem eqW_tt : eqW neg (.t u) (.t v) hp = if fit u 60 = true ∧ fit v 60 = true then .ok (.t (.bl (if neg then !Mir.eqT u v else Mir.eqT u v))) hp else .bad := rfl
@[simp] theorem isN_n : isN neg (.t .non) (.t .non) hp = .ok (.t (.bl (!neg))) hp := rfl
@[simp] theorem isN_i : isN neg (.t (.int i)) (.t .non) hp = .ok (.t (.bl neg)) hp := rfl
@[simp] theorem isN_b : isN neg (.t (.bl b)) (.t .non) hp = .ok (.t (.bl neg)) hp := rfl
@[simp] theorem isN_t {ts : List T} : isN neg (.t (.tup ts)) (.t .non) hp = .ok (.t (.bl neg)) hp := rfl
@[simp] theorem isB_bb : isB neg (.t (.bl b)) (.t (.bl c)) hp = .ok (.t (.bl (if neg then !decide (b = c) else decide (b = c)))) hp := rfl
@[simp] theorem ixW_l {ts : List T} : ixW (.t (.lst ts)) (.t (.int i)) hp = (match atI (ts.map W.t) i with | some w => .ok w hp | none => .bad) := rfl
@[simp] theorem ixW_t {ts : List T} : ixW (.t (.tup ts)) (.t (.int i)) hp = (match atI (ts.map W.t) i with | some w => .ok w hp | none => .bad) := rfl
@[simp] theorem ixW_r {k : Nat} : ixW (.r k) (.t (.int i)) hp = (match (getL hp k).bind fun ws => atI ws i with | some w => .ok w hp | none => .bad) := rfl
@[simp] theorem oInt_i : oInt [.t (.int i)] hp = .ok (.t (.int i)) hp := rfl
@[simp] theorem oAbs_i : oAbs [.t (.int i)] hp = .ok (.t (.int (if i < 0 then -i else i))) hp := rfl
@[simp] theorem oMax2_i : oMax2 [.t (.int i), .t (.int j)] hp = .ok (.t (.int (if j > i then j else i))) hp := rfl
@[simp] theorem oMin2_i : oMin2 [.t (.int i), .t (.int j)] hp = .ok (.t (.int (if j < i then j else i))) hp := rfl
@[simp] theorem oLen_l {ts : List T} : oLen [.t (.lst ts)] hp = .ok (.t (.int ts.length)) hp := by simp [oLen]
@[simp] theorem oLen_t {ts : List T} : oLen [.t (.tup ts)] hp = .ok (.t (.int ts.length)) hp := by simp [oLen]
@[simp] theorem oLen_r {k : Nat} : oLen [.r k] hp = (match getL hp k with | some xs => .ok (.t (.int xs.length)) hp | none => .bad) := rfl
@[simp] theorem oTup_t {ts : List T} : oTup [.t (.tup ts)] hp = .ok (.t (.tup ts)) hp := rfl
@[simp] theorem oTup_l {ts : List T} : oTup [.t (.lst ts)] hp = .ok (.t (.tup ts)) hp := by simp [oTup]
@[simp] theorem oListF_l {ts : List T} : oListF [.t (.lst ts)] hp = .ok (.t (.lst ts)) hp := by simp [oListF]
@[simp] theorem oListF_t {ts : List T} : oListF [.t (.tup ts)] hp = .ok (.t (.lst ts)) hp := by simp [oListF]
@[simp] theorem oListL_l {ts : List T} : oListL [.t (.lst ts)] hp = .ok (.r hp.length) (hp ++ [some (.lst (ts.map W.t))]) := rfl
@[simp] theorem oListL_t {ts : List T} : oListL [.t (.tup ts)] hp = .ok (.r hp.length) (hp ++ [some (.lst (ts.map W.t))]) := rfl
@[simp] theorem sqI_l {ts : List T} : sqI (.t (.lst ts)) hp = .ok (ts.map W.t) hp := rfl
@[simp] theorem sqI_t {ts : List T} : sqI (.t (.tup ts)) hp = .ok (ts.map W.t) hp := rfl
@[simp] theorem sqI_s {ts : List T} : sqI (.t (.scr ts)) hp = .ok (ts.map W.t) hp := rfl
@[simp] theorem rng1_i : rng1 [.t (.int i)] hp = if -(2 ^ 62) ≤ i ∧ i < 2 ^ 62 then .ok ((List.range i.toNat).map fun k => W.t (.int (0 + (k : Nat)))) hp else .bad := rfl
@[simp] theorem rng2_i : rng2 [.t (.int i), .t (.int j)] hp = if -(2 ^ 62) ≤ i ∧ i < 2 ^ 62 ∧ -(2 ^ 62) ≤ j ∧ j < 2 ^ 62 then .ok ((List.range (j - i).toNat).map fun k => W.t (.int (i + (k : Nat)))) hp else .bad := rfl
@[simp] theorem enum1_1 {a : W} : enum1 [a] hp = (match seqT a with | some ts => .ok (enumT 0 ts) hp | none => .bad) := rfl
@[simp] theorem zip2_2 {a b : W} : zip2 [a, b] hp = (match seqT a, seqT b with | some ts, some us => .ok (zipT ts us) hp | _, _ => .bad) := rfl
@[simp] theorem isL_r {k : Nat} : isL (.r k) hp = (getL hp k).isSome := rfl
@[simp] theorem isL_l {ts : List T} : isL (.t (.lst ts)) hp = true := rfl
@[simp] theorem isTp_t {ts : List T} : isTp (.t (.tup ts)) hp = true := rfl
@[simp] theorem freeze_t : freeze (.t u) hp = .ok (.t u) hp := rfl
@[simp] theorem freeze_r {k : Nat} : freeze (.r k) hp = (match (getL hp k).bind allT with | some ts => .ok (.t (.lst ts)) (hp.set k none) | none => .bad) := rfl
@[simp] theorem fit_n {n : Nat} : fit .non n = true := by cases n <;> rfl
@[simp] theorem fit_b {n : Nat} : fit (.bl b) n = true := by cases n <;> rfl
@[simp] theorem fit_i {n : Nat} : fit (.int i) n = true := by cases n <;> rfl
@[simp] theorem fit_s {n : Nat} : fit (.str x) n = true := by cases n <;> rfl
@[simp] theorem fit_t {n : Nat} {ts : List T} : fit (.tup ts) (n + 1) = fitL ts n := rfl
@[simp] theorem fit_l {n : Nat} {ts : List T} : fit (.lst ts) (n + 1) = fitL ts n := rfl
@[simp] theorem fitL_n {n : Nat} : fitL [] n = true := by cases n <;> rfl
@[simp] theorem fitL_c {n : Nat} {ts : List T} : fitL (u :: ts) n = (fit u n && fitL ts n) := by cases n <;> rfl
@[simp] theorem eqT_nn : Mir.eqT .non .non = true := by simp [Mir.eqT]
@[simp] theorem eqT_ii : Mir.eqT (.int i) (.int j) = (i == j) := by simp [Mir.eqT]
@[simp] theorem eqT_bb : Mir.eqT (.bl b) (.bl c) = (b == c) := by simp [Mir.eqT]
@[simp] theorem eqT_ss : Mir.eqT (.str x) (.str y) = (x == y) := by simp [Mir.eqT]
@[simp] theorem eqT_tt {ts us : List T} : Mir.eqT (.tup ts) (.tup us) = eqTL ts us := by simp [Mir.eqT]
@[simp] theorem eqT_ll {ts us : List T} : Mir.eqT (.lst ts) (.lst us) = eqTL ts us := by simp [Mir.eqT]
@[simp] theorem eqTL_nn : eqTL [] [] = true := by simp [eqTL]
@[simp] theorem eqTL_cn {ts : List T} : eqTL (u :: ts) [] = false := by simp [eqTL]
@[simp] theorem eqTL_nc {ts : List T} : eqTL [] (u :: ts) = false := by simp [eqTL]
@[simp] theorem eqTL_cc {ts us : List T} : eqTL (u :: ts) (v :: us) = (Mir.eqT u v && eqTL ts us) := by simp [eqTL]
@[simp] theorem allT_n : allT [] = some [] := rfl
@[simp] theorem allT_c {ws : List W} : allT (.t u :: ws) = (allT ws).map (u :: ·) := rfl
@[simp] theorem lstOf_e {ws : List W} : lstOf ws hp = (match allT ws with | some ts => if ts.length ≤ 16777216 then .ok (.t (.lst ts)) hp else .bad | none => .bad) := rfl
@[simp] theorem tupOf_e {ws : List W} : tupOf ws hp = (match allT ws with | some ts => if ts.length ≤ 16777216 then .ok (.t (.tup ts)) hp else .bad | none => .bad) := rfl
@[simp] theorem newL_e {ws : List W} : newL ws hp = if ws.length ≤ 16777216 then .ok (.r hp.length) (hp ++ [some (.lst ws)]) else .bad := rfl
@[simp] theorem oAppend_r {k : Nat} {w : W} : oAppend (.r k) [w] hp = (match getL hp k with | some xs => if xs.length < 16777216 then .ok (.t .non) (hp.set k (some (.lst (xs ++ [w])))) else .bad | none => .bad) := rfl
@[simp] theorem oPop_r {k : Nat} : oPop (.r k) [] hp = (match getL hp k with | some xs => (match xs[xs.length - 1]? with | some y => .ok y (hp.set k (some (.lst xs.dropLast))) | none => .bad) | none => .bad) := rfl
@[simp] theorem asK_i : asK (.t (.int i)) = some (.inl i) := rfl
@[simp] theorem asK_s : asK (.t (.str x)) = some (.inr x) := rfl
@[simp] theorem dGet_s {k : Nat} {w : W} : dGet (.r k) w hp = (match asK w with | some q => (match (getD hp k).bind fun kvs => valW kvs q with | some w => .ok w hp | none => .bad) | none => .bad) := by
  unfold dGet
  cases asK w <;> rfl
end
/-! ### == of one tree with itself -/
mutual
theorem eqT_self : ∀ (x : T) (n : Nat), fit x n = true → Mir.eqT x x = true
  | .non, _, _ => by simp
  | .bl _, _, _ => by simp
  | .int _, _, _ => by simp
  | .str _, _, _ => by simp
  | .tup xs, 0, h => by simp [fit] at h
  | .tup xs, n + 1, h => by rw [eqT_tt]; exact eqTL_self xs n h
  | .lst xs, 0, h => by simp [fit] at h
  | .lst xs, n + 1, h => by rw [eqT_ll]; exact eqTL_self xs n h
  | .scr _, _, h => by simp [fit] at h
  | .pr _, _, h => by simp [fit] at h
  | .ty _, _, h => by simp [fit] at h
  | .dic _ _, _, h => by simp [fit] at h
  | .ins _ _ _, _, h => by simp [fit] at h
  | .cls _, _, h => by simp [fit] at h
  | .dit _ _, _, h => by simp [fit] at h
  | .exc _ _ _, _, h => by simp [fit] at h
theorem eqTL_self : ∀ (xs : List T) (n : Nat), fitL xs n = true → eqTL xs xs = true
  | [], _, _ => by simp
  | x :: xs, n, h => by
    simp only [fitL_c, Bool.and_eq_true] at h
    simp only [eqTL_cc, eqT_self x n h.1, eqTL_self xs n h.2, Bool.and_self]
end
theorem fitL_ints {ns : List Int} {n : Nat} : fitL (ns.map T.int) n = true := by
  induction ns with
  | nil => simp
  | cons x xs ih => simp [ih]
theorem fitL_strs {ns : List Str} {n : Nat} : fitL (ns.map T.str) n = true := by
  induction ns with
  | nil => simp
  | cons x xs ih => simp [ih]
/-! ### steps one by one (the kernel's road past symbolic bounds) -/
theorem bin_ok {f : Op2} {Fa Fb : M W} {eta : IS} {hp h1 h2 : IH} {a b : W} {r : Res W} (ha : Fa eta hp = .ok a h1) (hb : Fb eta h1 = .ok b h2) (h : f a b h2 = r) : mBin f Fa Fb eta hp = r := by
  rw [p_bin, ha, bind_ok, hb, bind_ok]
  exact h
theorem cons_ok {Fa : M W} {Fs : M (List W)} {eta : IS} {hp h1 h2 : IH} {a : W} {as : List W} (ha : Fa eta hp = .ok a h1) (hs : Fs eta h1 = .ok as h2) : mCons Fa Fs eta hp = .ok (a :: as) h2 := by
  rw [p_cons, ha, bind_ok, hs, bind_ok]
theorem call_ok {f : OpN} {Fs : M (List W)} {eta : IS} {hp h1 h2 : IH} {w : W} {ws : List W} (hs : Fs eta hp = .ok ws h1) (h : f ws h1 = .ok w h2) : mCall f [] Fs eta hp = .ok w h2 := by
  rw [p_call, hs, bind_ok, List.map_nil, List.append_nil, h, noEr_ok]
theorem test_ok {F : M W} {eta : IS} {hp h1 : IH} {b : Bool} (h : F eta hp = .ok (.t (.bl b)) h1) : mTest asB F eta hp = .ok b h1 := by
  rw [p_test, h, bind_ok, asB_bl]
theorem if_no {A : Type} {U : M Bool} {F G : M A} {eta : IS} {hp h1 : IH} (h : U eta hp = .ok false h1) : mIf U F G eta hp = G eta h1 := by
  rw [p_if, h, bind_ok, if_neg Bool.false_ne_true]
theorem if_yes {A : Type} {U : M Bool} {F G : M A} {eta : IS} {hp h1 : IH} (h : U eta hp = .ok true h1) : mIf U F G eta hp = F eta h1 := by
  rw [p_if, h, bind_ok, if_pos rfl]
theorem seq_ok {S R : M Fl} {eta e1 : IS} {hp h1 : IH} {r : Res Fl} (h : S eta hp = .ok (.nx e1) h1) (g : R e1 h1 = r) : mSeq S R eta hp = r := by
  rw [p_seq, h, bind_ok, then_nx]
  exact g
theorem set_ok {i : Nat} {F : M W} {eta : IS} {hp h1 : IH} {w : W} (h : F eta hp = .ok w h1) : mSet i F eta hp = .ok (.nx (eta.set i (some w))) h1 := by
  rw [p_set, h, bind_ok]
theorem fnP_ok {n nn : Nat} {B : M Fl} {ts : List T} {hp h1 : IH} {x : T} {eta : IS} (hl : ts.length = n) (he : (ts.map W.t).map some ++ List.replicate (nn - n) none = eta) (h : B eta [] = .ok (.rt (.t x)) h1) : fnP n nn B (ts.map W.t) hp = .ok (.t x) hp := by
  unfold fnP
  rw [if_pos ⟨by rw [List.length_map]; exact hl, by rw [allT_mapS]; rfl⟩, he, h]
theorem fnM_ok {n nn : Nat} {B : M Fl} {ws : List W} {hp h1 : IH} {x : W} {eta : IS} (hl : ws.length = n) (he : ws.map some ++ List.replicate (nn - n) none = eta) (h : B eta hp = .ok (.rt x) h1) : fnM n nn B ws hp = .ok x h1 := by
  unfold fnM
  rw [if_pos hl, he, h]
end Mir

/-! Pl2: repr of small trees; comprehensions over typed lists; loops. -/
namespace Mir
open PySem PySem.Spec L2
open PyProof.Rows hiding St
mutual
/-- small enough to be shown -/
def sml : T → Bool
  | .non => true | .bl _ => true | .int i => decide (-(10 ^ 20) < i ∧ i < 10 ^ 20) | .str x => x.cps.toList.all fun c => decide (c < 16 ^ 8)
  | .tup xs => smlL xs | .lst xs => smlL xs | .scr _ => false | .pr _ => false
  | .ty _ => false | .dic _ _ => false | .ins _ _ _ => false | .cls _ => false | .dit _ _ => false | .exc _ _ _ => false
def smlL : List T → Bool
  | [] => true | x :: xs => sml x && smlL xs
end
mutual
/-- at most so many signs are shown -/
def wgt : T → Nat
  | .str x => 10 * x.length + 2
  | .tup xs => wgtL xs + 3 | .lst xs => wgtL xs + 3
  | _ => 21
def wgtL : List T → Nat
  | [] => 0 | x :: xs => wgt x + 2 + wgtL xs
end
theorem piled_listText : ∀ ts : List Str, (listText ts).length ≤ piled ts + 2
  | [] => by decide
  | t :: r => by
    have h := textFrom_length_pos r 1 (("[" : Str) ++ (if (0 : Nat) > 0 then ", " else "" : String) ++ t) (Nat.succ_pos 0)
    have e : ((("[" : Str) ++ (if (0 : Nat) > 0 then ", " else "" : String) ++ t)).length = 1 + t.length := by
      rw [strLen_append, strLen_append]; rfl
    have hX : (listText (t :: r)).length = (textFrom 0 "[" (t :: r)).length + 1 := by
      show (textFrom 0 "[" (t :: r) ++ "]").length = _
      rw [strLen_append]; rfl
    have hY : (textFrom 0 "[" (t :: r)).length = (textFrom 1 (("[" : Str) ++ (if (0 : Nat) > 0 then ", " else "" : String) ++ t) r).length := rfl
    rw [hX, hY, h, e, piled_cons]; omega
theorem piled_tupleText (ts : List Str) : (tupleText ts).length ≤ piled ts + 3 := by
  unfold tupleText
  rw [strLen_append, strLen_append]
  have e1 : ((("(" : String) : Str)).length = 1 := rfl
  have e3 : (((if ts.length == 1 then ",)" else ")" : String) : Str)).length ≤ 2 := by split <;> decide
  rw [e1]
  by_cases h : ts = []
  · subst h
    have : (Str.join ", " ([] : List Str)).length = 0 := rfl
    omega
  · have := join_length_add ts h
    omega
mutual
theorem sml_shown : ∀ x : T, sml x = true → (dat x).showable = true ∧ (dat x).shown.length ≤ wgt x
  | .non, _ => by refine ⟨rfl, ?_⟩; simp only [dat, PyData.shown, wgt]; decide
  | .bl b, _ => by refine ⟨rfl, ?_⟩; simp only [dat, PyData.shown, wgt]; cases b <;> decide
  | .int i, h => by
    simp only [sml, decide_eq_true_eq] at h
    have hn : i.natAbs < 10 ^ 20 := by omega
    refine ⟨?_, ?_⟩
    · simp only [dat, PyData.showable, decide_eq_true_eq]
      rcases Nat.eq_zero_or_pos i.natAbs with z | z
      · rw [z]; decide
      · refine (Nat.log2_lt (by omega)).mpr ?_
        refine Nat.lt_of_lt_of_le hn ?_
        exact Nat.le_trans (show 10 ^ 20 ≤ 2 ^ 67 by decide) (Nat.pow_le_pow_right (by decide) (by decide))
    · have := int_text_length_le10 (k := 20) (a := i) (by decide) hn
      simp only [dat, PyData.shown, wgt]
      rw [PySem.ofString_length]
      exact this
  | .str x, h => by
    refine ⟨rfl, ?_⟩
    simp only [sml, List.all_eq_true, decide_eq_true_eq] at h
    simp only [dat, PyData.shown, wgt]
    exact PySem.StrLaws.reprText_len x h
  | .tup xs, h => by
    have := sml_shownL xs (by simpa [sml] using h)
    refine ⟨by simpa [dat, PyData.showable] using this.1, ?_⟩
    simp only [dat, PyData.shown, wgt]
    have := piled_tupleText (PyData.shownAll (datL xs))
    omega
  | .lst xs, h => by
    have := sml_shownL xs (by simpa [sml] using h)
    refine ⟨by simpa [dat, PyData.showable] using this.1, ?_⟩
    simp only [dat, PyData.shown, wgt]
    have := piled_listText (PyData.shownAll (datL xs))
    omega
  | .scr _, h => by simp [sml] at h
  | .pr _, h => by simp [sml] at h
  | .ty _, h => by simp [sml] at h
  | .dic _ _, h => by simp [sml] at h
  | .ins _ _ _, h => by simp [sml] at h
  | .cls _, h => by simp [sml] at h
  | .dit _ _, h => by simp [sml] at h
  | .exc _ _ _, h => by simp [sml] at h
theorem sml_shownL : ∀ xs : List T, smlL xs = true → PyData.showableAll (datL xs) = true ∧ piled (PyData.shownAll (datL xs)) ≤ wgtL xs
  | [], _ => by simp [datL, PyData.showableAll, PyData.shownAll, wgtL, piled_nil]
  | x :: xs, h => by
    simp only [smlL, Bool.and_eq_true] at h
    have h1 := sml_shown x h.1
    have h2 := sml_shownL xs h.2
    refine ⟨by simp only [datL, PyData.showableAll, h1.1, h2.1, Bool.and_self], ?_⟩
    simp only [datL, PyData.shownAll, piled_cons, wgtL]
    omega
end
theorem repr_sml {x : T} {hp : IH} (h : fit x 60 = true) (h1 : sml x = true) (h2 : wgt x ≤ 16777216) : oRepr [.t x] hp = .ok (.t (.str (dat x).shown)) hp := by
  have := sml_shown x h1
  simp only [oRepr, asT_t, h, this.1, Nat.le_trans this.2 h2, and_self, if_true]
theorem fitL_all {n : Nat} : ∀ {xs : List T}, (∀ x ∈ xs, fit x n = true) → fitL xs n = true
  | [], _ => by simp
  | x :: xs, h => by simp only [fitL_c, h x (List.mem_cons_self ..), fitL_all fun y hy => h y (List.mem_cons_of_mem _ hy), Bool.and_self]
theorem smlL_all : ∀ {xs : List T}, (∀ x ∈ xs, sml x = true) → smlL xs = true
  | [], _ => by simp [smlL]
  | x :: xs, h => by simp only [smlL, h x (List.mem_cons_self ..), smlL_all fun y hy => h y (List.mem_cons_of_mem _ hy), Bool.and_self]
theorem wgtL_all {n : Nat} : ∀ {xs : List T}, (∀ x ∈ xs, wgt x ≤ n) → wgtL xs ≤ (n + 2) * xs.length
  | [], _ => by simp [wgtL]
  | x :: xs, h => by
    have h1 := h x (List.mem_cons_self ..)
    have h2 := wgtL_all fun y hy => h y (List.mem_cons_of_mem _ hy)
    simp only [wgtL, List.length_cons, Nat.mul_add, Nat.mul_one]
    omega
/-! ### comprehensions over typed lists -/
theorem comp_list {A : Type} {i : Nat} {U : M Bool} {E : M W} {f g : A → T} {p : A → Bool} {eta : IS} {hp : IH} : ∀ {as : List A}, (∀ a ∈ as, U (eta.set i (some (.t (f a)))) hp = .ok (p a) hp) → (∀ a ∈ as, p a = true → E (eta.set i (some (.t (f a)))) hp = .ok (.t (g a)) hp) →
    compL (gN i) U E eta ((as.map f).map W.t) hp = .ok (((as.filter p).map g).map W.t) hp
  | [], _, _ => rfl
  | a :: as, h, k => by
    have h1 := h a (List.mem_cons_self ..)
    have ih := comp_list (i := i) (eta := eta) (as := as) (fun u hu => h u (List.mem_cons_of_mem _ hu)) fun u hu => k u (List.mem_cons_of_mem _ hu)
    cases q : p a with
    | true =>
      have k1 := k a (List.mem_cons_self ..) q
      simp only [List.map_cons, compL, turnL, p_gN, h1, q, bind_ok, if_true, k1, noEr_ok, ih, List.filter_cons_of_pos q]
    | false =>
      simp only [List.map_cons, compL, turnL, p_gN, h1, q, bind_ok, Bool.false_eq_true, if_false, noEr_ok, ih, List.filter_cons_of_neg (by simp [q] : ¬ p a = true)]
theorem comp_all {A : Type} {i : Nat} {E : M W} {f g : A → T} {eta : IS} {hp : IH} {as : List A} (h : ∀ a ∈ as, E (eta.set i (some (.t (f a)))) hp = .ok (.t (g a)) hp) : compL (gN i) mYes E eta ((as.map f).map W.t) hp = .ok ((as.map g).map W.t) hp := by
  have := comp_list (i := i) (U := mYes) (E := E) (f := f) (g := g) (p := fun _ => true) (eta := eta) (hp := hp) (as := as) (fun _ _ => rfl) fun a ha _ => h a ha
  rw [List.filter_eq_self.mpr fun _ _ => rfl] at this
  exact this
theorem truW_b {b : Bool} {hp : IH} {U : M W} {eta : IS} (h : U eta hp = .ok (.t (.bl b)) hp) : mTest truW U eta hp = .ok b hp := by
  rw [p_test, h, bind_ok, truW_bl]
/-! ### what a law asks -/
theorem ne_same {x : T} {hp : IH} (h : fit x 60 = true) : eqW true (.t x) (.t x) hp = .ok (.t (.bl false)) hp := by
  rw [eqW_tt, if_pos ⟨h, h⟩, eqT_self x 60 h]
  rfl
theorem app1_ok {f : OpN} {F : M W} {eta : IS} {hp h1 : IH} {a : W} {r : Res W} (h : F eta hp = .ok a h1) (g : f [a] h1 = r) : mApp f (mCons F mNil) eta hp = r := by
  rw [p_app, cons_ok h rfl, bind_ok]
  exact g
theorem app2_ok {f : OpN} {F G : M W} {eta : IS} {hp h1 h2 : IH} {a b : W} {r : Res W} (h : F eta hp = .ok a h1) (h' : G eta h1 = .ok b h2) (g : f [a, b] h2 = r) : mApp f (mCons F (mCons G mNil)) eta hp = r := by
  rw [p_app, cons_ok h (cons_ok h' rfl), bind_ok]
  exact g
theorem tup1_ok {F : M W} {eta : IS} {hp h1 : IH} {ts : List T} (h : F eta hp = .ok (.t (.lst ts)) h1) : mApp oTup (mCons F mNil) eta hp = .ok (.t (.tup ts)) h1 := app1_ok h oTup_l
/-- if one != other: both tell the same -/
theorem same_ok {F G : M W} {S : M Fl} {eta : IS} {hp h1 h2 : IH} {x : T} (h : F eta hp = .ok (.t x) h1) (h' : G eta h1 = .ok (.t x) h2) (f : fit x 60 = true) : mIf (mTest asB (mBin (eqW true) F G)) S mSkip eta hp = .ok (.nx eta) h2 := by
  rw [if_no (test_ok (bin_ok h h' (ne_same f)))]
  rfl
/-- if repr(one) != repr(other): both tell the same -/
theorem reprs_ok {F G : M W} {S : M Fl} {eta : IS} {hp h1 h2 : IH} {x : T} (h : F eta hp = .ok (.t x) h1) (h' : G eta h1 = .ok (.t x) h2) (f : fit x 60 = true) (h1' : sml x = true) (h2' : wgt x ≤ 16777216) : mIf (mTest asB (mBin (eqW true) (mApp oRepr (mCons F mNil)) (mApp oRepr (mCons G mNil)))) S mSkip eta hp = .ok (.nx eta) h2 :=
  same_ok (app1_ok h (repr_sml f h1' h2')) (app1_ok h' (repr_sml f h1' h2')) (by simp)
end Mir

/-! Pl3: tools of the plain texts. -/
namespace Mir
open PySem PySem.Spec L2
open PyProof.Rows hiding St
abbrev wI (n : Int) : W := .t (.int n)
theorem allT_ints (ns : List Int) : allT (ns.map wI) = some (ns.map T.int) := by
  have : ns.map wI = (ns.map T.int).map W.t := by simp [wI]
  rw [this, allT_mapS]
theorem atI_end {A : Type} {xs : List A} {x : A} : atI (xs ++ [x]) (-1) = some x := by
  have h : ixN (xs.length + 1) (-1) = some xs.length := by
    unfold ixN
    rw [if_neg (by omega), if_pos (by omega)]
    congr 1
    omega
  simp [atI, h]
theorem set_same {hp : IH} {j : Nat} {c : Option Cell} (h : hp[j]? = some c) : hp.set j c = hp := by
  apply List.ext_getElem?
  intro k
  by_cases hk : j = k
  · subst hk
    rw [List.getElem?_set_self (List.getElem?_eq_some_iff.mp h).1, h]
  · rw [List.getElem?_set_ne hk]
theorem log_small {n : Nat} (h : n < 2 ^ 31) : n.log2 < 31 := by
  by_cases h0 : n = 0
  · subst h0; decide
  · exact (Nat.log2_lt h0).mpr h
theorem getD_set {hp : IH} {i : Nat} {kvs : List (Key × W)} (h : i < hp.length) : getD (hp.set i (some (.dic kvs))) i = some kvs := by simp [getD, h]
theorem getD_ne {hp : IH} {i j : Nat} {c : Option Cell} (h : j ≠ i) : getD (hp.set j c) i = getD hp i := by simp [getD, List.getElem?_set_ne h]
theorem getL_ne {hp : IH} {i j : Nat} {c : Option Cell} (h : j ≠ i) : getL (hp.set j c) i = getL hp i := by simp [getL, List.getElem?_set_ne h]
theorem cDiv_ok {x wide : Int} (hw : 0 < wide) (hw2 : wide < 2 ^ 64) : cDiv x wide = true := by
  simp only [cDiv, decide_eq_true_eq]
  refine ⟨hw, ?_⟩
  have : wide.natAbs.log2 < 64 := (Nat.log2_lt (by omega)).mpr (by omega)
  omega
theorem cMod_ok {x wide : Int} (hw : 0 < wide) : cMod x wide = true := by simpa [cMod] using hw
theorem cMul_ok {x y : Int} (hx : x.natAbs < 2 ^ 64) (hy : y.natAbs < 2 ^ 64) : cMul x y = true := by
  have h : ∀ n : Nat, n < 2 ^ 64 → n.log2 < 64 := fun n h => by
    by_cases h0 : n = 0
    · subst h0; decide
    · exact (Nat.log2_lt h0).mpr h
  simp only [cMul, decide_eq_true_eq]
  have := h _ hx
  have := h _ hy
  omega
theorem getL_keep {hp hp' : IH} {k : Nat} (h : hp'[k]? = hp[k]?) : getL hp' k = getL hp k := by unfold getL; rw [h]
theorem atI_nn {A : Type} {xs : List A} {n : Int} (h0 : 0 ≤ n) (h1 : n < xs.length) : atI xs n = xs[n.toNat]? := by
  unfold atI ixN
  rw [if_pos h0, if_pos h1]
  rfl
theorem fitL_erase {n : Nat} : ∀ {ts : List T} (k : Nat), fitL ts n = true → fitL (ts.eraseIdx k) n = true
  | [], _, _ => by simp
  | t :: ts, 0, h => by simp only [fitL_c, Bool.and_eq_true] at h; exact h.2
  | t :: ts, k + 1, h => by
    simp only [fitL_c, Bool.and_eq_true] at h
    simp only [List.eraseIdx_cons_succ, fitL_c, Bool.and_eq_true]
    exact ⟨h.1, fitL_erase k h.2⟩
theorem erase_map {A B : Type} (f : A → B) : ∀ (l : List A) (k : Nat), (l.map f).eraseIdx k = (l.eraseIdx k).map f
  | [], _ => rfl
  | _ :: _, 0 => rfl
  | x :: l, k + 1 => by simp [erase_map f l k]
theorem erase_perm {A : Type} : ∀ (l : List A) (k : Nat) (h : k < l.length), (l[k] :: l.eraseIdx k).Perm l
  | [], _, h => absurd h (Nat.not_lt_zero _)
  | x :: l, 0, _ => .refl _
  | x :: l, k + 1, h => by
    simp only [List.getElem_cons_succ, List.eraseIdx_cons_succ]
    exact (List.Perm.swap _ _ _).trans ((erase_perm l k (by simpa using h)).cons x)
theorem getL_app {hp : IH} {k : Nat} {c : List (Option Cell)} (h : k < hp.length) : getL (hp ++ c) k = getL hp k := by unfold getL; rw [List.getElem?_append_left h]
theorem getD_app {hp : IH} {k : Nat} {c : List (Option Cell)} (h : k < hp.length) : getD (hp ++ c) k = getD hp k := by unfold getD; rw [List.getElem?_append_left h]
theorem perm_strs {zs : List T} {l : List Str} (h : zs.Perm (l.map T.str)) : ∃ l' : List Str, l'.Perm l ∧ zs = l'.map T.str := by
  let g : T → Str := fun t => match t with | .str x => x | _ => "a"
  have e1 : (l.map T.str).map g = l := by simp [g, Function.comp_def]
  refine ⟨zs.map g, by rw [← e1]; exact h.map g, ?_⟩
  have : ∀ t ∈ zs, T.str (g t) = t := fun t ht => by
    have := h.mem_iff.mp ht
    rw [List.mem_map] at this
    obtain ⟨x, _, e⟩ := this
    rw [← e]
  rw [List.map_map]
  conv => lhs; rw [← List.map_id zs]
  exact List.map_congr_left fun t ht => (this t ht).symm
theorem comp_map {i : Nat} {E : M W} {f : T → T} {eta : IS} {hp : IH} : ∀ {ts : List T}, (∀ t ∈ ts, E (eta.set i (some (.t t))) hp = .ok (.t (f t)) hp) → compL (gN i) mYes E eta (ts.map W.t) hp = .ok ((ts.map f).map W.t) hp
  | [], _ => rfl
  | t :: ts, h => by
    have h1 := h t (List.mem_cons_self ..)
    have ih := comp_map (i := i) (eta := eta) (ts := ts) fun u hu => h u (List.mem_cons_of_mem _ hu)
    simp [compL, turnL, h1, ih]
theorem comp_filter {i : Nat} {U : M Bool} {E : M W} {f : T → T} {p : T → Bool} {eta : IS} {hp : IH} : ∀ {ts : List T}, (∀ t ∈ ts, U (eta.set i (some (.t t))) hp = .ok (p t) hp) → (∀ t ∈ ts, p t = true → E (eta.set i (some (.t t))) hp = .ok (.t (f t)) hp) →
    compL (gN i) U E eta (ts.map W.t) hp = .ok (((ts.filter p).map f).map W.t) hp
  | [], _, _ => rfl
  | t :: ts, h, g => by
    have h1 := h t (List.mem_cons_self ..)
    have ih := comp_filter (i := i) (eta := eta) (ts := ts) (fun u hu => h u (List.mem_cons_of_mem _ hu)) fun u hu => g u (List.mem_cons_of_mem _ hu)
    cases hp1 : p t with
    | true =>
      have g1 := g t (List.mem_cons_self ..) hp1
      simp [compL, turnL, h1, ih, hp1, g1]
    | false => simp [compL, turnL, h1, ih, hp1]
theorem cutL_map {A B : Type} (f : A → B) (xs : List A) (lo hi : Option Int) : cutL (xs.map f) lo hi = (cutL xs lo hi).map f := by
  unfold cutL
  rw [List.length_map, List.map_take, List.map_drop]
theorem cutL_len {A : Type} (xs : List A) (lo hi : Option Int) : (cutL xs lo hi).length ≤ xs.length := by
  unfold cutL
  rw [List.length_take, List.length_drop]
  omega
theorem enumT_len : ∀ (ts : List T) (k : Nat), (enumT k ts).length = ts.length
  | [], _ => rfl
  | _ :: ts, k => by simp [enumT, enumT_len ts]
theorem cutL_to {A : Type} (xs : List A) (k : Nat) : cutL xs none (some (k : Int)) = xs.take k := by
  unfold cutL
  rw [HT.sIx_none, HT.sIx_nat]
  simp only [List.drop_zero, Nat.sub_zero]
  rcases Nat.le_total k xs.length with h | h
  · rw [Nat.min_eq_left h]
  · rw [Nat.min_eq_right h, List.take_of_length_le h, List.take_of_length_le (Nat.le_refl _)]
theorem repr_b {b : Bool} {hp : IH} : oRepr [.t (.bl b)] hp = .ok (.t (.str (dat (.bl b)).shown)) hp := by
  have h1 : (dat (.bl b)).showable = true := rfl
  have h2 : (dat (.bl b)).shown.length ≤ 16777216 := by cases b <;> decide
  simp only [oRepr, asT_t, fit_b, h1, h2, and_self, if_true]
def oT : Option Int → T | none => .non | some i => .int i
/-- a list or a tuple -/
def sqT (b : Bool) (ts : List T) : T := if b then .tup ts else .lst ts
def pos (w : List Str) (x : Str) : Nat := w.idxOf x
theorem ixW_sq {b : Bool} {ts : List T} {n : Nat} {hp : IH} (h : n < ts.length) : ixW (.t (sqT b ts)) (.t (.int n)) hp = .ok (.t ts[n]) hp := by
  have e : atI (ts.map W.t) (n : Int) = some (.t ts[n]) := by
    rw [atI_nn (by omega) (by simpa using h)]
    simp [h]
  cases b <;> simp [sqT, e]
theorem index_is {w : List Str} {x : Str} {hp : IH} (h : x ∈ w) : oIndexS (.t (.lst (w.map T.str))) [.t (.str x)] hp = .ok (.t (.int (pos w x : Nat))) hp := by
  simp [oIndexS, Function.comp_def, h, pos]
def natW (k : Nat) : W := .t (.int (0 + (k : Nat)))
theorem natW_eq (k : Nat) : natW k = .t (.int k) := by simp [natW]
theorem oLen_sq {b : Bool} {ts : List T} {hp : IH} : oLen [.t (sqT b ts)] hp = .ok (.t (.int ts.length)) hp := by cases b <;> simp [sqT]
theorem newL_nil {hp : IH} : newL [] hp = .ok (.r hp.length) (hp ++ [some (.lst [])]) := by simp
theorem rng_is {n : Nat} {hp : IH} (hn : n < 100000) : rng1 [.t (.int n)] hp = .ok ((List.range n).map natW) hp := by
  have c : -(2 ^ 62) ≤ (n : Int) ∧ (n : Int) < 2 ^ 62 := ⟨by omega, by omega⟩
  rw [rng1_i, if_pos c, Int.toNat_natCast]
  rfl
theorem src_ok {f : List W → IH → Res (List W)} {Fs : M (List W)} {eta : IS} {hp h1 : IH} {ws : List W} {r : Res (List W)} (h : Fs eta hp = .ok ws h1) (h2 : f ws h1 = r) : mSrc f Fs eta hp = r := by
  rw [p_src, h]
  exact h2
theorem for_ok {Fi : M (List W)} {G : W → IS → Option IS} {S : M Fl} {eta : IS} {hp h1 : IH} {ws : List W} (h : Fi eta hp = .ok ws h1) : mFor Fi G S eta hp = forL G S ws eta h1 := by
  rw [p_for, h]
  rfl
theorem for_rng {Fa : M W} {G : W → IS → Option IS} {S : M Fl} {eta : IS} {hp h1 : IH} {n : Nat} (h : Fa eta hp = .ok (.t (.int n)) h1) (hn : n < 100000) : mFor (mSrc rng1 (mCons Fa mNil)) G S eta hp = forL G S ((List.range n).map natW) eta h1 :=
  for_ok (src_ok (by rw [p_cons, h]; rfl) (rng_is hn))
def rT (row : List Int) : T := .tup (row.map T.int)
theorem comp_ok {fin : OpN} {Fi : M (List W)} {G : W → IS → Option IS} {U : M Bool} {E : M W} {vs : List Nat} {eta : IS} {hp h1 h2 : IH} {ws ys : List W} {r : Res W} (h : Fi eta hp = .ok ws h1) (hl : ws.length ≤ 16777216) (hc : compL G U E (wipeI eta vs) ws h1 = .ok ys h2) (hf : fin ys h2 = r) :
    mComp fin Fi G U E vs eta hp = r := by
  rw [p_comp, h, bind_ok, if_pos hl, hc, bind_ok]
  exact hf
theorem natW_map (n : Nat) : (List.range n).map natW = ((List.range n).map fun k => T.int (0 + (k : Nat))).map W.t := by
  rw [List.map_map]
  rfl
end Mir

/-! Pl4: loops that make lists. -/
namespace Mir
open PySem PySem.Spec L2
open PyProof.Rows hiding St
theorem binP {f : Op2} {Fa Fb : M W} {eta : IS} {hp : IH} {a b : W} {r : Res W} (ha : Fa eta hp = .ok a hp) (hb : Fb eta hp = .ok b hp) (h : f a b hp = r) : mBin f Fa Fb eta hp = r := bin_ok ha hb h
theorem testP {F : M W} {eta : IS} {hp : IH} {b : Bool} (h : F eta hp = .ok (.t (.bl b)) hp) : mTest asB F eta hp = .ok b hp := test_ok h
theorem app1P {f : OpN} {F : M W} {eta : IS} {hp : IH} {a : W} {r : Res W} (h : F eta hp = .ok a hp) (g : f [a] hp = r) : mApp f (mCons F mNil) eta hp = r := app1_ok h g
theorem varP {i : Nat} {eta : IS} {hp : IH} {w : W} (h : eta[i]? = some (some w)) : mVar i eta hp = .ok w hp := by rw [p_var, h]
theorem iGt_ii {i j : Int} {hp : IH} : iGt (.t (.int i)) (.t (.int j)) hp = .ok (.t (.bl (decide (j < i)))) hp := rfl
theorem iGe_ii {i j : Int} {hp : IH} : iGe (.t (.int i)) (.t (.int j)) hp = .ok (.t (.bl (decide (j ≤ i)))) hp := rfl
theorem iLe_ii {i j : Int} {hp : IH} : iLe (.t (.int i)) (.t (.int j)) hp = .ok (.t (.bl (decide (i ≤ j)))) hp := rfl
theorem iSub_ii {i j : Int} {hp : IH} : iSub (.t (.int i)) (.t (.int j)) hp = .ok (.t (.int (i - j))) hp := rfl
theorem iGt_yes {i j : Int} {hp : IH} (h : j < i) : iGt (.t (.int i)) (.t (.int j)) hp = .ok (.t (.bl true)) hp := by rw [iGt_ii, decide_eq_true h]
theorem iGt_no {i j : Int} {hp : IH} (h : ¬ j < i) : iGt (.t (.int i)) (.t (.int j)) hp = .ok (.t (.bl false)) hp := by rw [iGt_ii, decide_eq_false h]
theorem wMul_ok {i j : Int} {hp : IH} (h : cMul i j = true) : wMul (.t (.int i)) (.t (.int j)) hp = .ok (.t (.int (i * j))) hp := by rw [wMul_ii, if_pos h]
theorem fz_ok {i : Nat} {S : M Fl} {eta : IS} {hp h1 : IH} {w w' : W} {r : Res Fl} (h : eta[i]? = some (some w)) (f : freeze w hp = .ok w' h1) (g : S (eta.set i (some w')) h1 = r) : mFz i S eta hp = r := by
  rw [p_fz, h]
  simp only [f, bind_ok, g]
theorem frz_ok {k : Nat} {ts : List T} {hp : IH} (h : getL hp k = some (ts.map W.t)) : freeze (.r k) hp = .ok (.t (.lst ts)) (hp.set k none) := by
  rw [freeze_r, h, Option.bind_some, allT_mapS]
theorem iMod_ok {i j : Int} {hp : IH} (h : cMod i j = true) : iMod (.t (.int i)) (.t (.int j)) hp = .ok (.t (.int (i % j))) hp := by unfold iMod; rw [opI_ii, if_pos h]
theorem iDiv_ok {i j : Int} {hp : IH} (h : cDiv i j = true) : iDiv (.t (.int i)) (.t (.int j)) hp = .ok (.t (.int (i / j))) hp := by unfold iDiv; rw [opI_ii, if_pos h]
theorem iput_ok {Fd Fk Fv : M W} {eta : IS} {hp h1 : IH} {i k : Nat} {v : W} {xs : List W} (hv : Fv eta hp = .ok v h1) (hd : Fd eta h1 = .ok (.r i) h1) (hk : Fk eta h1 = .ok (.t (.int k)) h1) (hx : getL h1 i = some xs) (hl : k < xs.length) : mIput Fd Fk Fv eta hp = .ok (.nx eta) (h1.set i (some (.lst (xs.set k v)))) := by
  have e : ixN xs.length (k : Int) = some k := by
    unfold ixN
    rw [if_pos (by omega), if_pos (by omega)]
    rfl
  unfold mIput
  rw [hv, bind_ok, hd, bind_ok, hk, bind_ok]
  simp only [hx, e]
/-- a loop with an invariant -/
theorem forL_inv {G : W → IS → Option IS} {S : M Fl} {I : IS → IH → Prop} : ∀ (ws : List W) (eta : IS) (hp : IH), (∀ w ∈ ws, ∀ eta hp, I eta hp → ∃ e1, G w eta = some e1 ∧ ∃ eta' hp', S e1 hp = .ok (.nx eta') hp' ∧ I eta' hp') → I eta hp → ∃ eta' hp', forL G S ws eta hp = .ok (.nx eta') hp' ∧ I eta' hp'
  | [], eta, hp, _, h => ⟨eta, hp, rfl, h⟩
  | w :: ws, eta, hp, hs, h => by
    obtain ⟨e1, g, e2, h2, q, i2⟩ := hs w (List.mem_cons_self ..) eta hp h
    obtain ⟨e3, h3, q3, i3⟩ := forL_inv ws e2 h2 (fun u hu => hs u (List.mem_cons_of_mem _ hu)) i2
    refine ⟨e3, h3, ?_, i3⟩
    simp only [forL, g, q, bind_ok, q3]
theorem set_get {A : Type} {xs : List A} {i : Nat} {a : A} (h : xs[i]? = some a) : xs.set i a = xs := by
  obtain ⟨h1, h2⟩ := List.getElem?_eq_some_iff.mp h
  rw [← h2, List.set_getElem_self]
theorem ext_loop {C : M W} {i k c : Nat} {g : T → List T} (hik : i ≠ k) : ∀ (rows : List T) (acc : List T) (eta : IS) (hp : IH), eta[k]? = some (some (.r c)) → i < eta.length → getL hp c = some (acc.map W.t) →
    (∀ row ∈ rows, ∀ e h, e.length = eta.length → (∀ x, x ≠ i → e[x]? = eta[x]?) → e[i]? = some (some (.t row)) → C e h = .ok (.t (.lst (g row))) h) → acc.length + (rows.flatMap g).length ≤ 16777216 →
    ∃ o, forL (gN i) (mDrop (mMeth isL oExtend (mVar k) (mCons C mNil))) (rows.map W.t) eta hp = .ok (.nx (eta.set i o)) (hp.set c (some (.lst ((acc ++ rows.flatMap g).map W.t))))
  | [], acc, eta, hp, hk, hi, hl, _, _ => by
    refine ⟨eta[i], ?_⟩
    rw [List.set_getElem_self, List.flatMap_nil, List.append_nil, set_same (getL_eq hl)]
    rfl
  | row :: rows, acc, eta, hp, hk, hi, hl, hC, hz => by
    have hz' : acc.length + (g row).length + (rows.flatMap g).length ≤ 16777216 := by rw [List.flatMap_cons, List.length_append] at hz; omega
    have hc := getL_lt hl
    let e1 := eta.set i (some (.t row))
    have ek : e1[k]? = some (some (.r c)) := by simp only [e1]; rw [List.getElem?_set_ne hik]; exact hk
    have ei : e1[i]? = some (some (.t row)) := by simp only [e1]; rw [List.getElem?_set_self hi]
    have el : e1.length = eta.length := by simp [e1]
    have c1 := hC row (List.mem_cons_self ..) e1 hp el (fun x hx => by simp only [e1]; rw [List.getElem?_set_ne (Ne.symm hx)]) ei
    let h1 := hp.set c (some (.lst ((acc ++ g row).map W.t)))
    obtain ⟨o, q⟩ := ext_loop hik rows (acc ++ g row) e1 h1 ek (by rw [el]; exact hi) (getL_set hc) (fun r hr e h l1 x1 i1 => hC r (List.mem_cons_of_mem _ hr) e h (l1.trans el) (fun x hx => (x1 x hx).trans (by simp only [e1]; rw [List.getElem?_set_ne (Ne.symm hx)])) i1) (by rw [List.length_append]; omega)
    refine ⟨o, ?_⟩
    have ext : oExtend (.r c) [.t (.lst (g row))] hp = .ok (.t .non) h1 := by
      have l2 : acc.length + (g row).length ≤ 16777216 := by omega
      simp only [oExtend, hl, hitems_l, List.length_map, l2, if_true, h1, List.map_append]
    have body : mDrop (mMeth isL oExtend (mVar k) (mCons C mNil)) e1 hp = .ok (.nx e1) h1 := by
      rw [p_drop, p_meth, p_var, ek]
      simp only [bind_ok, isL_r, hl, Option.isSome_some, if_true, p_cons, c1, p_nil, ext]
    simp only [List.map_cons, forL, p_gN, show eta.set i (some (.t row)) = e1 from rfl, body, bind_ok, q]
    simp only [e1, h1, List.set_set, List.flatMap_cons, List.append_assoc]
/-- found = [..]; for turn in range(n): longer = []; for row in found: longer.extend(C); found = longer -/
theorem grow_is {C : M W} {f k i tn : Nat} {eta0 : IS} {lvl : Nat → List T} {g : T → List T} (d1 : i ≠ k) (d2 : f ≠ k) (d3 : f ≠ i) (d4 : f ≠ tn) (d5 : k ≠ tn) (d6 : i ≠ tn) (l1 : f < eta0.length) (l2 : k < eta0.length) (l3 : i < eta0.length) (l4 : tn < eta0.length) :
    ∀ (n t : Nat) (ws : List W) (eta : IS) (hp : IH), ws.length = n → (∀ s, t ≤ s → s < t + n → lvl (s + 1) = (lvl s).flatMap g) → (∀ s, t ≤ s → s ≤ t + n → (lvl s).length ≤ 16777216) →
    eta[f]? = some (some (.t (.lst (lvl t)))) → eta.length = eta0.length → (∀ x, x ≠ f → x ≠ k → x ≠ i → x ≠ tn → eta[x]? = eta0[x]?) →
    (∀ s, t ≤ s → s < t + n → ∀ row ∈ lvl s, ∀ e h, e.length = eta0.length → (∀ x, x ≠ f → x ≠ k → x ≠ i → x ≠ tn → e[x]? = eta0[x]?) → e[i]? = some (some (.t row)) → C e h = .ok (.t (.lst (g row))) h) →
    ∃ eta' hp', forL (gN tn) (mSeq (mSet k (mApp newL mNil)) (mSeq (mFor (mSq (mVar f)) (gN i) (mDrop (mMeth isL oExtend (mVar k) (mCons C mNil)))) (mFz k (mSet f (mVar k))))) ws eta hp = .ok (.nx eta') hp' ∧
      eta'[f]? = some (some (.t (.lst (lvl (t + n))))) ∧ eta'.length = eta0.length ∧ (∀ x, x ≠ f → x ≠ k → x ≠ i → x ≠ tn → eta'[x]? = eta0[x]?) ∧ hp.length ≤ hp'.length ∧ ∀ x, x < hp.length → hp'[x]? = hp[x]?
  | 0, t, ws, eta, hp, hw, _, _, hf, hl, hx, _ => by
    have : ws = [] := List.length_eq_zero_iff.mp hw
    subst this
    exact ⟨eta, hp, rfl, hf, hl, hx, Nat.le_refl _, fun _ _ => rfl⟩
  | n + 1, t, [], eta, hp, hw, _, _, _, _, _, _ => by simp at hw
  | n + 1, t, w :: ws, eta, hp, hw, hlv, hz, hf, hl, hx, hC => by
    let ea := (eta.set tn (some w)).set k (some (.r hp.length))
    let h1 : IH := hp ++ [some (.lst [])]
    have la : ea.length = eta0.length := by simp [ea, hl]
    have fa : ea[f]? = some (some (.t (.lst (lvl t)))) := by simp only [ea]; rw [List.getElem?_set_ne (Ne.symm d2), List.getElem?_set_ne (Ne.symm d4)]; exact hf
    have ka : ea[k]? = some (some (.r hp.length)) := by simp only [ea]; rw [List.getElem?_set_self (by simp [hl, l2])]
    have xa : ∀ x, x ≠ f → x ≠ k → x ≠ i → x ≠ tn → ea[x]? = eta0[x]? := fun x a b c d => by
      simp only [ea]; rw [List.getElem?_set_ne (Ne.symm b), List.getElem?_set_ne (Ne.symm d)]; exact hx x a b c d
    have g1 : getL h1 hp.length = some (([] : List T).map W.t) := by simp [h1]
    obtain ⟨o, q⟩ := ext_loop (C := C) (g := g) d1 (lvl t) [] ea h1 ka (by rw [la]; exact l3) g1 (fun row hr e h a b c => hC t (Nat.le_refl _) (by omega) row hr e h (a.trans la) (fun x u1 u2 u3 u4 => (b x u3).trans (xa x u1 u2 u3 u4)) c) (by rw [← hlv t (Nat.le_refl _) (by omega)]; have := hz (t + 1) (by omega) (by omega); simpa using this)
    rw [List.nil_append, ← hlv t (Nat.le_refl _) (by omega)] at q
    let eb := ea.set i o
    let h2 := h1.set hp.length (some (.lst ((lvl (t + 1)).map W.t)))
    let h3 := h2.set hp.length none
    let ec := (eb.set k (some (.t (.lst (lvl (t + 1)))))).set f (some (.t (.lst (lvl (t + 1)))))
    have lb : eb.length = eta0.length := by simp [eb, la]
    have kb : eb[k]? = some (some (.r hp.length)) := by simp only [eb]; rw [List.getElem?_set_ne d1]; exact ka
    have g2 : getL h2 hp.length = some ((lvl (t + 1)).map W.t) := getL_set (by simp [h1])
    have lc : ec.length = eta0.length := by simp [ec, lb]
    have fc : ec[f]? = some (some (.t (.lst (lvl (t + 1))))) := by simp only [ec]; rw [List.getElem?_set_self (by simp [lb, l1])]
    have xc : ∀ x, x ≠ f → x ≠ k → x ≠ i → x ≠ tn → ec[x]? = eta0[x]? := fun x a b c d => by
      simp only [ec, eb]; rw [List.getElem?_set_ne (Ne.symm a), List.getElem?_set_ne (Ne.symm b), List.getElem?_set_ne (Ne.symm c)]; exact xa x a b c d
    obtain ⟨e', h', r1, r2, r3, r4, r5, r6⟩ := grow_is (C := C) (g := g) (lvl := lvl) d1 d2 d3 d4 d5 d6 l1 l2 l3 l4 n (t + 1) ws ec h3 (by simpa using hw) (fun s a b => hlv s (by omega) (by omega)) (fun s a b => hz s (by omega) (by omega)) fc lc xc (fun s a b => hC s (by omega) (by omega))
    refine ⟨e', h', ?_, by rw [r2]; congr 5; omega, r3, r4, by simp only [h3, h2, h1] at r5; simp at r5; omega, fun x hxl => ?_⟩
    · have body : (mSeq (mSet k (mApp newL mNil)) (mSeq (mFor (mSq (mVar f)) (gN i) (mDrop (mMeth isL oExtend (mVar k) (mCons C mNil)))) (mFz k (mSet f (mVar k))))) (eta.set tn (some w)) hp = .ok (.nx ec) h3 := by
        refine seq_ok (set_ok (w := .r hp.length) (h1 := h1) (by rw [p_app, p_nil, bind_ok, newL_nil])) ?_
        refine seq_ok (e1 := eb) (h1 := h2) ?_ ?_
        · rw [for_ok (ws := (lvl t).map W.t) (h1 := h1)]
          · exact q
          · rw [p_sq, p_var]
            have fa' : ((eta.set tn (some w)).set k (some (.r hp.length)))[f]? = some (some (.t (.lst (lvl t)))) := fa
            rw [fa']
            simp only [bind_ok, sqI_l]
        · rw [p_fz, kb]
          simp only [freeze_r, g2, Option.bind_some, allT_mapS, bind_ok]
          refine set_ok ?_
          rw [p_var, List.getElem?_set_self (by rw [lb]; exact l2)]
      simp only [forL, p_gN, body, bind_ok, r1]
    · rw [r6 x (by simp [h3, h2, h1]; omega)]
      simp only [h3, h2, h1]
      rw [List.getElem?_set_ne (by omega), List.getElem?_set_ne (by omega), List.getElem?_append_left hxl]
/-- a loop that appends -/
theorem app_loop {C : M W} {i k c : Nat} {g : T → T} (hik : i ≠ k) : ∀ (rows : List T) (acc : List T) (eta : IS) (hp : IH), eta[k]? = some (some (.r c)) → i < eta.length → getL hp c = some (acc.map W.t) →
    (∀ row ∈ rows, ∀ e h, e.length = eta.length → (∀ x, x ≠ i → e[x]? = eta[x]?) → e[i]? = some (some (.t row)) → C e h = .ok (.t (g row)) h) → acc.length + rows.length ≤ 16777216 →
    ∃ o, forL (gN i) (mDrop (mMeth isL oAppend (mVar k) (mCons C mNil))) (rows.map W.t) eta hp = .ok (.nx (eta.set i o)) (hp.set c (some (.lst ((acc ++ rows.map g).map W.t))))
  | [], acc, eta, hp, hk, hi, hl, _, _ => by
    refine ⟨eta[i], ?_⟩
    rw [List.set_getElem_self, show acc ++ List.map g [] = acc by simp, set_same (getL_eq hl)]
    rfl
  | row :: rows, acc, eta, hp, hk, hi, hl, hC, hz => by
    have hz' : acc.length + 1 + rows.length ≤ 16777216 := by rw [List.length_cons] at hz; omega
    have hc := getL_lt hl
    let e1 := eta.set i (some (.t row))
    have ek : e1[k]? = some (some (.r c)) := by simp only [e1]; rw [List.getElem?_set_ne hik]; exact hk
    have ei : e1[i]? = some (some (.t row)) := by simp only [e1]; rw [List.getElem?_set_self hi]
    have el : e1.length = eta.length := by simp [e1]
    have c1 := hC row (List.mem_cons_self ..) e1 hp el (fun x hx => by simp only [e1]; rw [List.getElem?_set_ne (Ne.symm hx)]) ei
    let h1 := hp.set c (some (.lst ((acc ++ [g row]).map W.t)))
    obtain ⟨o, q⟩ := app_loop hik rows (acc ++ [g row]) e1 h1 ek (by rw [el]; exact hi) (getL_set hc) (fun r hr e h l1 x1 i1 => hC r (List.mem_cons_of_mem _ hr) e h (l1.trans el) (fun x hx => (x1 x hx).trans (by simp only [e1]; rw [List.getElem?_set_ne (Ne.symm hx)])) i1) (by rw [List.length_append, List.length_singleton]; omega)
    refine ⟨o, ?_⟩
    have l2 : acc.length < 16777216 := by omega
    have body : mDrop (mMeth isL oAppend (mVar k) (mCons C mNil)) e1 hp = .ok (.nx e1) h1 := by
      rw [p_drop, p_meth, p_var, ek]
      simp only [bind_ok, isL_r, hl, Option.isSome_some, if_true, p_cons, c1, p_nil, oAppend_r, List.length_map, l2]
      simp only [h1, List.map_append, List.map_cons, List.map_nil]
    simp only [List.map_cons, forL, p_gN, show eta.set i (some (.t row)) = e1 from rfl, body, bind_ok, q]
    simp only [e1, h1, List.set_set, List.append_assoc, List.singleton_append]
/-- a comprehension over two lists of numbers -/
theorem comp_zip {a b : Nat} {E : M W} {hp : IH} {g : Int → Int → T} {eta0 : IS} (hab : a ≠ b) (ha : a < eta0.length) (hb : b < eta0.length) : ∀ (xs ys : List Int) (eta : IS), eta.length = eta0.length → (∀ x, x ≠ a → x ≠ b → eta[x]? = eta0[x]?) →
    (∀ x ∈ xs, ∀ y ∈ ys, ∀ e : IS, e.length = eta0.length → (∀ z, z ≠ a → z ≠ b → e[z]? = eta0[z]?) → e[a]? = some (some (.t (.int x))) → e[b]? = some (some (.t (.int y))) → E e hp = .ok (.t (g x y)) hp) →
    compL (gT 2 (gsC (gN a) (gsC (gN b) gsN))) mYes E eta (zipT (xs.map T.int) (ys.map T.int)) hp = .ok ((List.zipWith g xs ys).map W.t) hp
  | [], ys, eta, _, _, _ => by simp [zipT]
  | x :: xs, [], eta, _, _, _ => by simp [zipT]
  | x :: xs, y :: ys, eta, hl, hx, h => by
    let e1 := (eta.set a (some (.t (.int x)))).set b (some (.t (.int y)))
    have k1 := h x (List.mem_cons_self ..) y (List.mem_cons_self ..) e1 (by simp [e1, hl]) (fun z h1 h2 => by simp only [e1]; rw [List.getElem?_set_ne (Ne.symm h2), List.getElem?_set_ne (Ne.symm h1)]; exact hx z h1 h2) (by simp only [e1]; rw [List.getElem?_set_ne (Ne.symm hab), List.getElem?_set_self (by rw [hl]; exact ha)]) (by simp only [e1]; rw [List.getElem?_set_self (by rw [List.length_set, hl]; exact hb)])
    have ih := comp_zip (E := E) (hp := hp) (g := g) hab ha hb xs ys eta hl hx fun u hu v hv => h u (List.mem_cons_of_mem _ hu) v (List.mem_cons_of_mem _ hv)
    simp only [List.map_cons, zipT, compL, turnL, p_gTp, List.length_cons, List.length_nil, if_true, List.map_nil, p_gsC, p_gN, Option.bind_some, p_gsN, p_yes, bind_ok, show (eta.set a (some (.t (.int x)))).set b (some (.t (.int y))) = e1 from rfl, k1, noEr_ok, ih, List.zipWith_cons_cons]
theorem zipT_len2 : ∀ (ts us : List T), (zipT ts us).length = min ts.length us.length
  | [], _ => by simp [zipT]
  | _ :: _, [] => by simp [zipT]
  | _ :: ts, _ :: us => by simp [zipT, zipT_len2 ts us]
/-- the greatest of numbers, found one by one -/
def bestF (b : Option Int) (x : Int) : Option Int := some (match b with | none => x | some y => if y < x then x else y)
theorem best_foldl : ∀ (l : List Int) (y : Int), l.foldl bestF (some y) = some (l.foldl max y)
  | [], y => rfl
  | x :: l, y => by
    have : bestF (some y) x = some (max y x) := by simp only [bestF]; congr 1; omega
    rw [List.foldl_cons, List.foldl_cons, this, best_foldl l]
theorem best_max (l : List Int) : l.foldl bestF none = l.max? := by
  cases l with
  | nil => rfl
  | cons x l => rw [List.foldl_cons, show bestF none x = some x from rfl, best_foldl, List.max?_cons']
def dotV (ws vs : List Int) : Int := (List.zipWith (fun a b => a * b) ws vs).sum
theorem dot_nil {vs : List Int} : dotV [] vs = 0 := rfl
theorem dot_nil2 {ws : List Int} : dotV ws [] = 0 := by simp [dotV]
theorem dot_cons {a b : Int} {ws vs : List Int} : dotV (a :: ws) (b :: vs) = a * b + dotV ws vs := by simp [dotV]
theorem mul_bound {a b B C : Int} (ha : -B ≤ a ∧ a ≤ B) (hb : 0 ≤ b ∧ b ≤ C) : -(B * C) ≤ a * b ∧ a * b ≤ B * C := by
  have hB : 0 ≤ B := by omega
  have h1 : B * b ≤ B * C := Int.mul_le_mul_of_nonneg_left hb.2 hB
  have h2 : a * b ≤ B * b := Int.mul_le_mul_of_nonneg_right ha.2 hb.1
  have h3 : (-B) * b ≤ a * b := Int.mul_le_mul_of_nonneg_right ha.1 hb.1
  rw [Int.neg_mul] at h3
  omega
theorem dot_bound {B C : Int} (hB : 0 ≤ B) (hC : 0 ≤ C) : ∀ (ws vs : List Int), (∀ x ∈ ws, -B ≤ x ∧ x ≤ B) → (∀ v ∈ vs, 0 ≤ v ∧ v ≤ C) → -((ws.length : Int) * (B * C)) ≤ dotV ws vs ∧ dotV ws vs ≤ (ws.length : Int) * (B * C)
  | [], vs, _, _ => by simp [dotV]
  | a :: ws, [], _, _ => by
    rw [dot_nil2]
    have h1 : 0 ≤ B * C := Int.mul_nonneg hB hC
    have h2 : 0 ≤ ((a :: ws).length : Int) * (B * C) := Int.mul_nonneg (by omega) h1
    omega
  | a :: ws, b :: vs, hw, hv => by
    have ih := dot_bound hB hC ws vs (fun x hx => hw x (List.mem_cons_of_mem _ hx)) fun v hv' => hv v (List.mem_cons_of_mem _ hv')
    have m := mul_bound (hw a (List.mem_cons_self ..)) (hv b (List.mem_cons_self ..))
    rw [dot_cons, List.length_cons]
    have e : ((ws.length + 1 : Nat) : Int) * (B * C) = (ws.length : Int) * (B * C) + B * C := by rw [Int.natCast_add, Int.add_mul]; simp
    rw [e]
    omega
theorem sum_bound {B : Int} (hB : 0 ≤ B) : ∀ (ws : List Int), (∀ x ∈ ws, -B ≤ x ∧ x ≤ B) → -((ws.length : Int) * B) ≤ ws.sum ∧ ws.sum ≤ (ws.length : Int) * B
  | [], _ => by simp
  | a :: ws, hw => by
    have ih := sum_bound hB ws fun x hx => hw x (List.mem_cons_of_mem _ hx)
    have m := hw a (List.mem_cons_self ..)
    rw [List.sum_cons, List.length_cons]
    have e : ((ws.length + 1 : Nat) : Int) * B = (ws.length : Int) * B + B := by rw [Int.natCast_add, Int.add_mul]; simp
    rw [e]
    omega
theorem dot_shift {low : Int} : ∀ (ws vs : List Int), ws.length = vs.length → dotV ws (vs.map fun v => low + v) = low * ws.sum + dotV ws vs
  | [], [], _ => by simp [dotV]
  | a :: ws, b :: vs, h => by
    have ih := dot_shift (low := low) ws vs (by simpa using h)
    rw [List.map_cons, dot_cons, dot_cons, ih, List.sum_cons, Int.mul_add, Int.mul_add, Int.mul_comm a low]
    omega
theorem dot_neg : ∀ (ws vs : List Int), dotV (ws.map fun x => -x) vs = -dotV ws vs
  | [], vs => rfl
  | a :: ws, [] => by simp [dotV]
  | a :: ws, b :: vs => by rw [List.map_cons, dot_cons, dot_cons, dot_neg ws vs, Int.neg_mul]; omega
theorem sum_neg : ∀ (ws : List Int), (ws.map fun x => -x).sum = -ws.sum
  | [] => rfl
  | a :: ws => by rw [List.map_cons, List.sum_cons, List.sum_cons, sum_neg ws]; omega
/-- a loop that appends what passes a test -/
theorem filt_loop {A : Type} {U : M Bool} {C : M W} {i k c : Nat} {p : A → Bool} {f g : A → T} (hik : i ≠ k) : ∀ (as : List A) (acc : List T) (eta : IS) (hp : IH), eta[k]? = some (some (.r c)) → i < eta.length → getL hp c = some (acc.map W.t) →
    (∀ a ∈ as, ∀ e h, e.length = eta.length → (∀ x, x ≠ i → e[x]? = eta[x]?) → e[i]? = some (some (.t (f a))) → U e h = .ok (p a) h ∧ (p a = true → C e h = .ok (.t (g a)) h)) → acc.length + as.length ≤ 16777216 →
    ∃ o, forL (gN i) (mIf U (mDrop (mMeth isL oAppend (mVar k) (mCons C mNil))) mSkip) ((as.map f).map W.t) eta hp = .ok (.nx (eta.set i o)) (hp.set c (some (.lst ((acc ++ (as.filter p).map g).map W.t))))
  | [], acc, eta, hp, hk, hi, hl, _, _ => by
    refine ⟨eta[i], ?_⟩
    rw [List.set_getElem_self, show acc ++ List.map g (List.filter p []) = acc by simp, set_same (getL_eq hl)]
    rfl
  | a :: as, acc, eta, hp, hk, hi, hl, hC, hz => by
    have hz' : acc.length + 1 + as.length ≤ 16777216 := by rw [List.length_cons] at hz; omega
    have hc := getL_lt hl
    let e1 := eta.set i (some (.t (f a)))
    have ek : e1[k]? = some (some (.r c)) := by simp only [e1]; rw [List.getElem?_set_ne hik]; exact hk
    have ei : e1[i]? = some (some (.t (f a))) := by simp only [e1]; rw [List.getElem?_set_self hi]
    have el : e1.length = eta.length := by simp [e1]
    obtain ⟨u1, c1⟩ := hC a (List.mem_cons_self ..) e1 hp el (fun x hx => by simp only [e1]; rw [List.getElem?_set_ne (Ne.symm hx)]) ei
    have next : ∀ r ∈ as, ∀ e h, e.length = e1.length → (∀ x, x ≠ i → e[x]? = e1[x]?) → e[i]? = some (some (.t (f r))) → U e h = .ok (p r) h ∧ (p r = true → C e h = .ok (.t (g r)) h) := fun r hr e h l1 x1 i1 => hC r (List.mem_cons_of_mem _ hr) e h (l1.trans el) (fun x hx => (x1 x hx).trans (by simp only [e1]; rw [List.getElem?_set_ne (Ne.symm hx)])) i1
    cases q : p a with
    | false =>
      obtain ⟨o, q2⟩ := filt_loop hik as acc e1 hp ek (by rw [el]; exact hi) hl next (by omega)
      refine ⟨o, ?_⟩
      have body : mIf U (mDrop (mMeth isL oAppend (mVar k) (mCons C mNil))) mSkip e1 hp = .ok (.nx e1) hp := by
        rw [if_no (u1.trans (by rw [q]))]
        rfl
      simp only [List.map_cons, forL, p_gN, show eta.set i (some (.t (f a))) = e1 from rfl, body, bind_ok, q2, List.filter_cons_of_neg (by simp [q] : ¬ p a = true)]
      simp only [e1, List.set_set]
    | true =>
      let h1 := hp.set c (some (.lst ((acc ++ [g a]).map W.t)))
      obtain ⟨o, q2⟩ := filt_loop hik as (acc ++ [g a]) e1 h1 ek (by rw [el]; exact hi) (getL_set hc) next (by rw [List.length_append, List.length_singleton]; omega)
      refine ⟨o, ?_⟩
      have l2 : acc.length < 16777216 := by omega
      have body : mIf U (mDrop (mMeth isL oAppend (mVar k) (mCons C mNil))) mSkip e1 hp = .ok (.nx e1) h1 := by
        rw [if_yes (u1.trans (by rw [q])), p_drop, p_meth, p_var, ek]
        simp only [bind_ok, isL_r, hl, Option.isSome_some, if_true, p_cons, c1 q, p_nil, oAppend_r, List.length_map, l2]
        simp only [h1, List.map_append, List.map_cons, List.map_nil]
      simp only [List.map_cons, forL, p_gN, show eta.set i (some (.t (f a))) = e1 from rfl, body, bind_ok, q2, List.filter_cons_of_pos q]
      simp only [e1, h1, List.set_set, List.append_assoc, List.singleton_append, List.map_cons]
/-- a loop that tells the first that passes -/
theorem find_loop {A : Type} {S : M Fl} {i : Nat} {p : A → Bool} {f : A → T} {R : A → W} {I : IS → Prop} : ∀ (as : List A) (eta : IS) (hp : IH), I eta → (∀ a ∈ as, ∀ e h, I e → ∃ e', S (e.set i (some (.t (f a)))) h = (if p a = true then .ok (.rt (R a)) h else .ok (.nx e') h) ∧ I e') →
    ∃ eta', forL (gN i) S ((as.map f).map W.t) eta hp = (match as.find? p with | some a => .ok (.rt (R a)) hp | none => .ok (.nx eta') hp) ∧ I eta'
  | [], eta, hp, hI, _ => ⟨eta, rfl, hI⟩
  | a :: as, eta, hp, hI, h => by
    obtain ⟨e', q, hI'⟩ := h a (List.mem_cons_self ..) eta hp hI
    obtain ⟨e2, q2, hI2⟩ := find_loop (S := S) (i := i) (p := p) (f := f) (R := R) as e' hp hI' fun b hb => h b (List.mem_cons_of_mem _ hb)
    refine ⟨e2, ?_, hI2⟩
    cases c : p a with
    | true =>
      rw [c, if_pos rfl] at q
      simp only [List.map_cons, forL, p_gN, q, bind_ok, List.find?_cons_of_pos c]
    | false =>
      rw [c, if_neg (by decide)] at q
      simp only [List.map_cons, forL, p_gN, q, bind_ok, List.find?_cons_of_neg (by simp [c] : ¬ p a = true)]
      exact q2
/-! ### texts -/
def sT (o : List Str) : T := .tup (o.map T.str)
theorem allI_strs {x : Str} {l : List Str} : allW asI (((x :: l).map T.str).map W.t) = none := rfl
theorem sort_strs {l : List Str} {hp : IH} (h : l.length < 64) : oSort [.t (.lst (l.map T.str))] hp = .ok (.t (.lst ((srtS l).map T.str))) hp := by
  cases l with
  | nil => rfl
  | cons x l =>
    have al : allW asS (((x :: l).map T.str).map W.t) = some (x :: l) := by rw [List.map_map]; exact allS_map
    simp only [oSort, litems_l, allI_strs, al, h, if_true]
theorem any_str {x : Str} : ∀ {l : List Str}, (l.map T.str).any (fun y => Mir.eqT y (.str x)) = decide (x ∈ l)
  | [] => by simp
  | y :: l => by
    have ih := any_str (x := x) (l := l)
    simp only [List.map_cons, List.any_cons, ih, eqT_ss]
    by_cases h : y = x
    · subst h; simp
    · have : ¬ x = y := fun e => h e.symm
      simp [h, this]
theorem notin_strs {x : Str} {o : List Str} {hp : IH} : inW true (.t (.str x)) (.t (sT o)) hp = .ok (.t (.bl (!decide (x ∈ o)))) hp := by
  have f := fitL_strs (ns := o) (n := 60)
  simp only [inW, asT_t, sT, items_t, Option.bind_some, allT_mapS, fit_s, f, and_self, if_true, any_str]
theorem bools_any {l : List Bool} {hp : IH} : oAny [.t (.lst (l.map T.bl))] hp = .ok (.t (.bl (l.any id))) hp := by
  have al : allW asBl ((l.map T.bl).map W.t) = some l := by rw [List.map_map]; exact allB_map
  simp only [oOnL, litems_l, Option.bind_some, al]
theorem bools_all {l : List Bool} {hp : IH} : oAll [.t (.lst (l.map T.bl))] hp = .ok (.t (.bl (l.all id))) hp := by
  have al : allW asBl ((l.map T.bl).map W.t) = some l := by rw [List.map_map]; exact allB_map
  simp only [oOnL, litems_l, Option.bind_some, al]
theorem sqI_sq {b : Bool} {ts : List T} {hp : IH} : sqI (.t (sqT b ts)) hp = .ok (ts.map W.t) hp := by cases b <;> rfl
theorem seqT_sq {b : Bool} {ts : List T} : seqT (.t (sqT b ts)) = some ts := by cases b <;> rfl
theorem oTup_sq {b : Bool} {ts : List T} {hp : IH} : oTup [.t (sqT b ts)] hp = .ok (.t (.tup ts)) hp := by cases b <;> simp [sqT]
/-- all orders of names -/
def ordL (l : List Str) : Nat → List (List Str)
  | 0 => [[]]
  | t + 1 => (ordL l t).flatMap fun o => ((srtS l).filter fun x => !decide (x ∈ o)).map fun x => o ++ [x]
theorem srtS_mem {l : List Str} {x : Str} : x ∈ srtS l ↔ x ∈ l := (srtS_perm l).mem_iff
theorem ordL_mem {l : List Str} : ∀ (t : Nat) (o : List Str), o ∈ ordL l t ↔ o.length = t ∧ o.Nodup ∧ ∀ x ∈ o, x ∈ l
  | 0, o => by
    simp only [ordL, List.mem_singleton]
    constructor
    · intro h; subst h; simp
    · intro h; exact List.length_eq_zero_iff.mp h.1
  | t + 1, o => by
    simp only [ordL, List.mem_flatMap, List.mem_map, List.mem_filter, Bool.not_eq_true', decide_eq_false_iff_not, srtS_mem]
    constructor
    · rintro ⟨o0, h0, x, ⟨hx, hn⟩, e⟩
      subst e
      obtain ⟨a, b, c⟩ := (ordL_mem t o0).mp h0
      refine ⟨by simp [a], ?_, fun y hy => ?_⟩
      · rw [List.nodup_append]
        refine ⟨b, by simp, fun y hy z hz e => ?_⟩
        simp at hz
        subst hz e
        exact hn hy
      · rcases List.mem_append.mp hy with hy | hy
        · exact c y hy
        · simp at hy; subst hy; exact hx
    · rintro ⟨a, b, c⟩
      rcases List.eq_nil_or_concat o with e | ⟨o0, x, e⟩
      · subst e; simp at a
      · rw [List.concat_eq_append] at e
        subst e
        rw [List.nodup_append] at b
        refine ⟨o0, (ordL_mem t o0).mpr ⟨by simpa using a, b.1, fun y hy => c y (List.mem_append_left _ hy)⟩, x, ⟨c x (by simp), fun hx => b.2.2 x hx x (by simp) rfl⟩, rfl⟩
theorem ordL_size {l : List Str} : ∀ t : Nat, (ordL l t).length ≤ l.length ^ t
  | 0 => Nat.le_refl _
  | t + 1 => by
    have : ∀ os : List (List Str), (os.flatMap fun o => ((srtS l).filter fun x => !decide (x ∈ o)).map fun x => o ++ [x]).length ≤ os.length * l.length := by
      intro os
      induction os with
      | nil => simp
      | cons o os ih =>
        rw [List.flatMap_cons, List.length_append, List.length_cons, Nat.add_mul, Nat.one_mul]
        have h1 : (((srtS l).filter fun x => !decide (x ∈ o)).map fun x => o ++ [x]).length ≤ l.length := by
          rw [List.length_map]
          exact Nat.le_trans (List.length_filter_le _ _) (Nat.le_of_eq (srtS_perm l).length_eq)
        omega
    rw [ordL, Nat.pow_succ]
    exact Nat.le_trans (this _) (Nat.mul_le_mul_right _ (ordL_size t))
/-- all rows of 0 and 1 -/
def binL : Nat → List (List Int)
  | 0 => [[]]
  | t + 1 => (binL t).flatMap fun o => [o ++ [0], o ++ [1]]
theorem binL_mem : ∀ (t : Nat) (o : List Int), o ∈ binL t ↔ o.length = t ∧ ∀ x ∈ o, x = 0 ∨ x = 1
  | 0, o => by
    simp only [binL, List.mem_singleton]
    constructor
    · intro h; subst h; simp
    · intro h; exact List.length_eq_zero_iff.mp h.1
  | t + 1, o => by
    simp only [binL, List.mem_flatMap, List.mem_cons, List.not_mem_nil, or_false]
    constructor
    · rintro ⟨o0, h0, e⟩
      obtain ⟨a, b⟩ := (binL_mem t o0).mp h0
      rcases e with e | e <;> subst e <;> refine ⟨by simp [a], fun x hx => ?_⟩ <;> rcases List.mem_append.mp hx with hx | hx
      · exact b x hx
      · simp at hx; exact .inl hx
      · exact b x hx
      · simp at hx; exact .inr hx
    · rintro ⟨a, b⟩
      rcases List.eq_nil_or_concat o with e | ⟨o0, x, e⟩
      · subst e; simp at a
      · rw [List.concat_eq_append] at e
        subst e
        refine ⟨o0, (binL_mem t o0).mpr ⟨by simpa using a, fun y hy => b y (List.mem_append_left _ hy)⟩, ?_⟩
        rcases b x (by simp) with e | e <;> subst e <;> simp
theorem binL_size : ∀ t : Nat, (binL t).length = 2 ^ t
  | 0 => rfl
  | t + 1 => by
    have : ∀ os : List (List Int), (os.flatMap fun o => [o ++ [0], o ++ [1]]).length = os.length * 2 := by
      intro os
      induction os with
      | nil => rfl
      | cons o os ih => rw [List.flatMap_cons, List.length_append, ih]; simp; omega
    rw [binL, this, binL_size t, Nat.pow_succ]
end Mir

/-! Ev: the plain functions stepped by simp (proofs kept small: -implicitDefEqProofs); dev.py and asm.py print the row that names the lemmas. -/
namespace Mir
open PySem PySem.Spec L2
open PyProof.Rows hiding St
theorem bind_cg {A B : Type} {r r' : Res A} {k : A → IH → Res B} (h : r = r') : r.bind k = r'.bind k := by rw [h]
section
variable {hp : IH} {i j : Int} {x y z u v : T} {ts us : List T} {w : W} {b c : Bool} {s r : Str}
theorem ev_for0 {G : W → IS → Option IS} {S : M Fl} {eta : IS} : forL G S [] eta hp = .ok (.nx eta) hp := rfl
theorem ev_for1 {G : W → IS → Option IS} {S : M Fl} {eta : IS} {ws : List W} : forL G S (w :: ws) eta hp = (match G w eta with | none => .bad | some e1 => (S e1 hp).bind fun f h1 => match f with | .nx e2 => forL G S ws e2 h1 | .ct e2 => forL G S ws e2 h1 | .bk e2 => .ok (.nx e2) h1 | .rt w => .ok (.rt w) h1) := rfl
theorem ev_atl0 {A : Type} {a : A} {l : List A} : atI (a :: l) 0 = some a := by rw [atI_nn (by omega) (by rw [List.length_cons]; omega)]; rfl
theorem ev_atl1 {A : Type} {a a1 : A} {l : List A} : atI (a :: a1 :: l) 1 = some a1 := by rw [atI_nn (by omega) (by rw [List.length_cons, List.length_cons]; omega)]; rfl
theorem ev_atl2 {A : Type} {a a1 a2 : A} {l : List A} : atI (a :: a1 :: a2 :: l) 2 = some a2 := by rw [atI_nn (by omega) (by simp only [List.length_cons]; omega)]; rfl
theorem ev_atl3 {A : Type} {a a1 a2 a3 : A} {l : List A} : atI (a :: a1 :: a2 :: a3 :: l) 3 = some a3 := by rw [atI_nn (by omega) (by simp only [List.length_cons]; omega)]; rfl
theorem ev_ixl0 {a0 : T} : ixW (.t (.lst (a0 :: ts))) (.t (.int 0)) hp = .ok (.t a0) hp := by rw [ixW_l]; simp only [List.map_cons, ev_atl0]
theorem ev_ixt0 {a0 : T} : ixW (.t (.tup (a0 :: ts))) (.t (.int 0)) hp = .ok (.t a0) hp := by rw [ixW_t]; simp only [List.map_cons, ev_atl0]
theorem ev_ixl1 {a0 a1 : T} : ixW (.t (.lst (a0 :: a1 :: ts))) (.t (.int 1)) hp = .ok (.t a1) hp := by rw [ixW_l]; simp only [List.map_cons, ev_atl1]
theorem ev_ixt1 {a0 a1 : T} : ixW (.t (.tup (a0 :: a1 :: ts))) (.t (.int 1)) hp = .ok (.t a1) hp := by rw [ixW_t]; simp only [List.map_cons, ev_atl1]
theorem ev_ixl2 {a0 a1 a2 : T} : ixW (.t (.lst (a0 :: a1 :: a2 :: ts))) (.t (.int 2)) hp = .ok (.t a2) hp := by rw [ixW_l]; simp only [List.map_cons, ev_atl2]
theorem ev_ixt2 {a0 a1 a2 : T} : ixW (.t (.tup (a0 :: a1 :: a2 :: ts))) (.t (.int 2)) hp = .ok (.t a2) hp := by rw [ixW_t]; simp only [List.map_cons, ev_atl2]
theorem ev_ixl3 {a0 a1 a2 a3 : T} : ixW (.t (.lst (a0 :: a1 :: a2 :: a3 :: ts))) (.t (.int 3)) hp = .ok (.t a3) hp := by rw [ixW_l]; simp only [List.map_cons, ev_atl3]
theorem ev_ixt3 {a0 a1 a2 a3 : T} : ixW (.t (.tup (a0 :: a1 :: a2 :: a3 :: ts))) (.t (.int 3)) hp = .ok (.t a3) hp := by rw [ixW_t]; simp only [List.map_cons, ev_atl3]
theorem ev_atl4 {A : Type} {a a1 a2 a3 a4 : A} {l : List A} : atI (a :: a1 :: a2 :: a3 :: a4 :: l) 4 = some a4 := by rw [atI_nn (by omega) (by simp only [List.length_cons]; omega)]; rfl
theorem ev_ixl4 {a0 a1 a2 a3 a4 : T} : ixW (.t (.lst (a0 :: a1 :: a2 :: a3 :: a4 :: ts))) (.t (.int 4)) hp = .ok (.t a4) hp := by rw [ixW_l]; simp only [List.map_cons, ev_atl4]
theorem ev_ixt4 {a0 a1 a2 a3 a4 : T} : ixW (.t (.tup (a0 :: a1 :: a2 :: a3 :: a4 :: ts))) (.t (.int 4)) hp = .ok (.t a4) hp := by rw [ixW_t]; simp only [List.map_cons, ev_atl4]
theorem ev_gt : iGt (.t (.int i)) (.t (.int j)) hp = .ok (.t (.bl (decide (j < i)))) hp := rfl
theorem ev_ge : iGe (.t (.int i)) (.t (.int j)) hp = .ok (.t (.bl (decide (j ≤ i)))) hp := rfl
theorem ev_le : iLe (.t (.int i)) (.t (.int j)) hp = .ok (.t (.bl (decide (i ≤ j)))) hp := rfl
theorem ev_sub : iSub (.t (.int i)) (.t (.int j)) hp = .ok (.t (.int (i - j))) hp := rfl
theorem ev_eqi {neg : Bool} : eqW neg (.t (.int i)) (.t (.int j)) hp = .ok (.t (.bl (if neg then !decide (i = j) else decide (i = j)))) hp := by
  rw [eqW_tt, if_pos ⟨rfl, rfl⟩]
  rfl
theorem ev_eqs {neg : Bool} : eqW neg (.t (.str s)) (.t (.str r)) hp = .ok (.t (.bl (if neg then !decide (s = r) else decide (s = r)))) hp := by
  have h : (s == r) = decide (s = r) := by
    by_cases q : s = r
    · subst q; simp
    · simp [q]
  rw [eqW_tt, if_pos ⟨by simp, by simp⟩, eqT_ss, h]
theorem ev_eqb {neg : Bool} : eqW neg (.t (.bl b)) (.t (.bl c)) hp = .ok (.t (.bl (if neg then !decide (b = c) else decide (b = c)))) hp := by
  rw [eqW_tt, if_pos ⟨by simp, by simp⟩, eqT_bb]
  cases neg <;> cases b <;> cases c <;> rfl
theorem ev_wipe0 {eta : IS} : wipeI eta [] = eta := rfl
theorem ev_wipe1 {eta : IS} {k : Nat} {l : List Nat} : wipeI eta (k :: l) = (wipeI eta l).set k none := rfl
theorem ev_comp1 {G : W → IS → Option IS} {U : M Bool} {E : M W} {eta : IS} {ws : List W} : compL G U E eta (w :: ws) hp = (noEr (match G w eta with | none => .bad | some e1 => (U e1 hp).bind fun b h1 => if b then (E e1 h1).bind fun y h2 => .ok (some y) h2 else .ok none h1)).bind fun o h1 => (compL G U E eta ws h1).bind fun r h2 => .ok (match o with | some y => y :: r | none => r) h2 := rfl
end
end Mir

namespace K47
open PySem PySem.Spec L2 Mir
open PyProof.Rows hiding St
local macro_rules | `(tactic| simp_arith [$as,*]) => `(tactic| simp -implicitDefEqProofs only [Nat.reduceAdd, Nat.reduceMul, Nat.reduceSub, Nat.reduceLeDiff, Nat.reduceLT, Nat.reduceEqDiff, Nat.reduceBEq, Int.reduceAdd, Int.reduceSub, Int.reduceMul, Int.reduceNeg, Int.reduceLT, Int.reduceLE, Int.reduceEq, Int.reduceToNat, Int.reduceBEq, Int.reduceNegSucc, reduceIte, reduceCtorEq, if_true, if_false, Bool.false_eq_true, eq_self, and_self, and_true, true_and, and_false, false_and, decide_true, decide_false, decide_eq_true_eq, List.map_nil, List.map_cons, List.append_nil, List.nil_append, List.cons_append, List.getElem?_cons_zero, List.getElem?_cons_succ, List.set_cons_zero, List.set_cons_succ, List.length_cons, List.length_nil, List.replicate_succ, List.replicate_zero, Option.map_some, Option.bind_some, Bool.not_true, Bool.not_false, Bool.and_true, Bool.true_and, Bool.and_false, Bool.false_and, beq_self_eq_true, List.zip_cons_cons, List.zip_nil_right, List.foldl_cons, List.foldl_nil, Option.isSome_some, Option.isSome_none, ite_true, ite_false, List.length_map, bind_ok, bind_bad, bind_er, noEr_ok, noEr_bad, then_nx, then_rt, then_bk, then_ct, p_var, p_c, p_bin, p_un, p_nil, p_cons, p_star, p_app, p_frz, p_test, p_and, p_or, p_not, p_if, p_andV, p_orV, p_notV, p_chain, p_skip, p_seq, p_ret, p_retN, p_drop, p_brk, p_cnt, p_asg, p_set, p_par, p_parG, p_aug, p_for, p_while, p_comp, p_sq, p_src, p_yes, p_call, p_meth0, p_meth, p_sl, p_noPart, p_part, p_disp, p_dput, p_fz, p_gN, p_gsN, p_gsC, p_gTp, p_gTt, p_gAp, p_gAt, p_gAl, allT_mapS, seqT_t, seqT_l, seqT_s, items_t, items_l, items_s, items_r, litems_l, litems_s, litems_r, hitems_l, hitems_r, asT_t, asT_r, getL_new, getL_set, allI_map, allS_map, allB_map, asB_bl, truW_bl, iNeg_i, opI_ii, opC_ii, cYes_t, wLt_ii, wLt_ss, wAdd_ii, isN_n, isN_i, isN_b, isN_t, isB_bb, oInt_i, oAbs_i, oMax2_i, oMin2_i, oLen_l, oLen_t, oLen_r, oTup_t, oTup_l, oListF_l, oListF_t, oListL_l, oListL_t, sqI_l, sqI_t, sqI_s, enum1_1, zip2_2, isL_r, isL_l, isTp_t, freeze_t, freeze_r, fit_n, fit_b, fit_i, fit_s, fit_t, fit_l, fitL_n, fitL_c, eqT_nn, eqT_ii, eqT_bb, eqT_ss, eqT_tt, eqT_ll, eqTL_nn, eqTL_cn, eqTL_nc, eqTL_cc, allT_n, allT_c, lstOf_e, tupOf_e, newL_e, oAppend_r, oPop_r, asK_i, asK_s, dGet_s, ev_for0, ev_for1, ev_atl0, ev_atl1, ev_atl2, ev_atl3, ev_ixl0, ev_ixt0, ev_ixl1, ev_ixt1, ev_ixl2, ev_ixt2, ev_ixl3, ev_ixt3, ev_atl4, ev_ixl4, ev_ixt4, ev_gt, ev_ge, ev_le, ev_sub, ev_eqi, ev_eqs, ev_eqb, ev_wipe0, ev_wipe1, ev_comp1, $as,*])
/-! #### _law_deal -/
def f_w_deal_c1 : M Bool := mTest asB (mBin iGe (mVar 5) (mBin iPow (mC (.int 10)) (mC (.int 18))))
def f_w_deal_c2 : M W := mVar 5
def f_w_deal_l1 : M Fl := mSet 3 (mBin iMod (mApp oInt (mCons (mBin wAdd (mBin wMul (mBin wAdd (mBin wAdd (mVar 3) (mVar 4)) (mC (.int 2))) (mC (.int 48271))) (mBin iMod (mApp oInt (mCons (mVar 5) (mNil))) (mC (.int 2147483587)))) (mNil))) (mC (.int 2147483647)))
def f_w_deal_c3 : M W := mApp oAbs (mCons (mApp oInt (mCons (mVar 5) (mNil))) (mNil))
def B_w_deal : M Fl := mSeq (mSet 2 (mComp lstOf (mSq (mSl (mVar 0) (mPart (mVar 1)) (mPart (mC (.int 64))))) (gN 5) mYes f_w_deal_c3 [5])) (mSeq (mSet 3 (mBin wAdd (mC (.int 51749)) (mBin wMul (mC (.int 13)) (mVar 1)))) (mSeq (mFor (mSrc enum1 (mCons (mVar 2) (mNil))) (gT 2 (gsC (gN 4) (gsC (gN 5) gsN))) f_w_deal_l1) (mRet (mDisp ((.inr "great", mUn oRevL (mComp lstOf (mSq (mVar 2)) (gN 5) f_w_deal_c1 f_w_deal_c2 [5])) :: (.inr "stirred", mVar 3) :: [])))))
def F_w_deal : OpN := fnM 2 6 B_w_deal
/-! #### _law_draw -/
def f_w_draw_l1 : M Fl := mDrop (mMeth0 isL oPop (mVar 2))
def B_w_draw : M Fl := mSeq (mSet 2 (mBin dGet (mVar 0) (mC (.str "great")))) (mSeq (mWhile 4096 (mAnd (mTest asB (mBin (eqW true) (mVar 2) (mApp lstOf (mNil)))) (mTest asB (mBin (eqW false) (mBin ixW (mVar 2) (mUn iNeg (mC (.int 1)))) (mC (.int 0))))) f_w_draw_l1) (mSeq (mIf (mTest asB (mBin (eqW true) (mVar 2) (mApp lstOf (mNil)))) (mSeq (mSet 3 (mMeth0 isL oPop (mVar 2))) (mSeq (mDrop (mMeth isL oAppend (mVar 2) (mCons (mBin iDiv (mVar 3) (mVar 1)) (mNil)))) (mRet (mBin iMod (mApp oInt (mCons (mVar 3) (mNil))) (mVar 1))))) (mSkip)) (mSeq (mDPut (mVar 0) (mC (.str "stirred")) (mBin iMod (mApp oInt (mCons (mBin wAdd (mBin wMul (mBin dGet (mVar 0) (mC (.str "stirred"))) (mC (.int 48271))) (mC (.int 19))) (mNil))) (mC (.int 2147483647)))) (mRet (mBin iMod (mApp oInt (mCons (mBin iDiv (mBin dGet (mVar 0) (mC (.str "stirred"))) (mC (.int 16))) (mNil))) (mVar 1))))))
def F_w_draw : OpN := fnM 2 4 B_w_draw
/-! #### _law_mixed -/
def f_w_mixed_l1 : M Fl := mDrop (mMeth isL oAppend (mVar 3) (mCons (mMeth isL oPopAt (mVar 2) (mCons (mCall F_w_draw [] (mCons (mVar 0) (mCons (mApp oLen (mCons (mVar 2) (mNil))) (mNil)))) (mNil))) (mNil)))
def B_w_mixed : M Fl := mSeq (mPar [2, 3] (mCons (mApp oListL (mCons (mVar 1) (mNil))) (mCons (mApp newL (mNil)) (mNil)))) (mSeq (mWhile 4096 (mTest asB (mBin (eqW true) (mVar 2) (mApp lstOf (mNil)))) f_w_mixed_l1) (mFz 3 (mRet (mVar 3))))
def F_w_mixed : OpN := fnM 2 4 B_w_mixed
/-! #### _law_orders -/
def B_w_orders : M Fl := mSeq (mSet 2 (mSl (mCall F_w_mixed [] (mCons (mVar 0) (mCons (mApp lstOf (mCons (mC (.str "a")) (mCons (mC (.str "b")) (mCons (mC (.str "d")) (mCons (mC (.str "p")) (mCons (mC (.str "qq")) (mNil))))))) (mNil)))) mNoPart (mPart (mBin wAdd (mC (.int 1)) (mCall F_w_draw [] (mCons (mVar 0) (mCons (mVar 1) (mNil)))))))) (mRet (mApp tupOf (mCons (mCall F_w_mixed [] (mCons (mVar 0) (mCons (mVar 2) (mNil)))) (mCons (mCall F_w_mixed [] (mCons (mVar 0) (mCons (mVar 2) (mNil)))) (mNil)))))
def F_w_orders : OpN := fnM 2 3 B_w_orders
/-! #### _law_near -/
def B_w_near : M Fl := mSeq (mIf (mOr (mTest asB (mBin wLt (mApp oLen (mCons (mVar 1) (mNil))) (mC (.int 2)))) (mTest asB (mBin (eqW false) (mCall F_w_draw [] (mCons (mVar 0) (mCons (mC (.int 4)) (mNil)))) (mC (.int 0))))) (mRet (mApp oListF (mCons (mVar 1) (mNil)))) (mSkip)) (mSeq (mSet 2 (mCall F_w_draw [] (mCons (mVar 0) (mCons (mBin iSub (mApp oLen (mCons (mVar 1) (mNil))) (mC (.int 1))) (mNil))))) (mRet (mBin wAdd (mBin wAdd (mSl (mVar 1) mNoPart (mPart (mVar 2))) (mApp lstOf (mCons (mBin ixW (mVar 1) (mBin wAdd (mVar 2) (mC (.int 1)))) (mCons (mBin ixW (mVar 1) (mVar 2)) (mNil))))) (mSl (mVar 1) (mPart (mBin wAdd (mVar 2) (mC (.int 2)))) mNoPart))))
def F_w_near : OpN := fnM 2 3 B_w_near
/-! #### _law_rows -/
def f_w_rows_c1 : M W := mBin wAdd (mVar 5) (mApp tupOf (mCons (mVar 6) (mNil)))
def f_w_rows_l1 : M Fl := mDrop (mMeth isL oExtend (mVar 4) (mCons (mComp lstOf (mSrc rng1 (mCons (mVar 1) (mNil))) (gN 6) mYes f_w_rows_c1 [6]) (mNil)))
def f_w_rows_l2 : M Fl := mSeq (mSet 4 (mApp newL (mNil))) (mSeq (mFor (mSq (mVar 2)) (gN 5) f_w_rows_l1) (mFz 4 (mSet 2 (mVar 4))))
def B_w_rows : M Fl := mSeq (mSet 2 (mApp lstOf (mCons (mApp tupOf (mNil)) (mNil)))) (mSeq (mFor (mSrc rng1 (mCons (mVar 0) (mNil))) (gN 3) f_w_rows_l2) (mRet (mVar 2)))
def F_w_rows : OpN := fnP 2 7 B_w_rows
/-! #### greatest_excess -/
def B_greatest_excess : M Fl := mSeq (mPar [5, 6] (mCons (mMeth isL oIndexS (mVar 0) (mCons (mBin ixW (mVar 1) (mVar 2)) (mNil))) (mCons (mMeth isL oIndexS (mVar 0) (mCons (mBin ixW (mVar 1) (mVar 3)) (mNil))) (mNil)))) (mSeq (mIf (mTest asB (mBin wLt (mVar 2) (mVar 3))) (mRet (mIf (mTest asB (mBin wLt (mVar 5) (mVar 6))) (mC (.int 1)) (mC (.int 0)))) (mSkip)) (mSeq (mIf (mTest asB (mBin (isN false) (mVar 4) (mC .non))) (mRet (mC .non)) (mSkip)) (mRet (mIf (mTest asB (mBin (eqW false) (mVar 6) (mC (.int 0)))) (mVar 4) (mBin wAdd (mVar 4) (mC (.int 1)))))))
def F_greatest_excess : OpN := fnP 5 7 B_greatest_excess
/-! #### differences -/
def f_differences_l1 : M Fl := mDrop (mMeth isL oAppend (mVar 6) (mCons (mIf (mTest asB (mBin (eqW false) (mVar 5) (mVar 7))) (mC (.int 0)) (mCall F_greatest_excess [] (mCons (mVar 3) (mCons (mVar 1) (mCons (mVar 5) (mCons (mVar 7) (mCons (mVar 2) (mNil)))))))) (mNil)))
def f_differences_l2 : M Fl := mSeq (mSet 6 (mApp newL (mNil))) (mSeq (mFor (mSrc rng1 (mCons (mApp oLen (mCons (mVar 1) (mNil))) (mNil))) (gN 7) f_differences_l1) (mFz 6 (mDrop (mMeth isL oAppend (mVar 4) (mCons (mApp oTup (mCons (mVar 6) (mNil))) (mNil))))))
def B_differences : M Fl := mSeq (mPar [3, 4] (mCons (mApp oListF (mCons (mVar 0) (mNil))) (mCons (mApp newL (mNil)) (mNil)))) (mSeq (mFor (mSrc rng1 (mCons (mApp oLen (mCons (mVar 1) (mNil))) (mNil))) (gN 5) f_differences_l2) (mFz 4 (mRet (mApp oTup (mCons (mVar 4) (mNil))))))
def F_differences : OpN := fnP 3 8 B_differences
/-! #### named -/
def f_named_c1 : M W := mApp tupOf (mCons (mApp prOf (mCons (mVar 9) (mCons (mVar 10) (mNil)))) (mCons (mVar 8) (mNil)))
def f_named_c2 : M W := mApp tupOf (mCons (mBin ixW (mVar 2) (mVar 5)) (mCons (mBin ixW (mVar 2) (mVar 7)) (mCons (mVar 8) (mNil))))
def f_named_l1 : M Fl := mDrop (mMeth isL oExtend (mVar 4) (mCons (mComp lstOf (mSrc enum1 (mCons (mVar 6) (mNil))) (gT 2 (gsC (gN 7) (gsC (gN 8) gsN))) mYes f_named_c2 [7, 8]) (mNil)))
def B_named : M Fl := mSeq (mAsg (mVar 0) (gA 2 (gsC (gN 1) (gsC (gN 2) gsN)))) (mSeq (mPar [3, 4] (mCons (mCall F_differences [.non] (mCons (mVar 1) (mCons (mVar 2) (mNil)))) (mCons (mApp newL (mNil)) (mNil)))) (mSeq (mFor (mSrc enum1 (mCons (mVar 3) (mNil))) (gT 2 (gsC (gN 5) (gsC (gN 6) gsN))) f_named_l1) (mFz 4 (mRet (mApp oDictT (mCons (mComp lstOf (mSq (mVar 4)) (gT 3 (gsC (gN 9) (gsC (gN 10) (gsC (gN 8) gsN)))) mYes f_named_c1 [9, 10, 8]) (mNil)))))))
def F_named : OpN := fnP 1 11 B_named
/-! #### alike -/
def B_alike : M Fl := mRet (mBin eqDW (mCall F_named [] (mCons (mVar 0) (mNil))) (mCall F_named [] (mCons (mVar 1) (mNil))))
def F_alike : OpN := fnP 2 2 B_alike
/-! #### _law_stretch -/
def B_w_stretch : M Fl := mSeq (mPar [3, 4] (mCons (mApp oLen (mCons (mVar 0) (mNil))) (mCons (mMeth isL oIndexS (mVar 0) (mCons (mVar 1) (mNil))) (mNil)))) (mSeq (mSet 5 (mIf (mTest asB (mBin (eqW false) (mVar 2) (mC (.int 0)))) (mC (.int 0)) (mBin wAdd (mBin wAdd (mBin wMul (mBin iSub (mVar 2) (mC (.int 1))) (mVar 3)) (mVar 4)) (mC (.int 1))))) (mRet (mApp tupOf (mCons (mVar 5) (mCons (mBin wAdd (mBin wMul (mVar 2) (mVar 3)) (mVar 4)) (mNil))))))
def F_w_stretch : OpN := fnP 3 6 B_w_stretch
/-! #### _law_begun -/
def B_w_begun : M Fl := mRet (mBin iDiv (mApp oInt (mCons (mBin iSub (mBin wAdd (mVar 0) (mVar 1)) (mC (.int 1))) (mNil))) (mVar 1))
def F_w_begun : OpN := fnP 2 2 B_w_begun
/-! #### _law_possible -/
def f_w_possible_l1 : M Fl := mSeq (mSet 5 (mApp oMax2 (mCons (mApp oInt (mCons (mVar 5) (mNil))) (mCons (mApp oInt (mCons (mVar 7) (mNil))) (mNil))))) (mIf (mTest asB (mBin iGt (mVar 5) (mVar 8))) (mRet (mC (.bl false))) (mSkip))
def f_w_possible_c1 : M W := mApp oInt (mCons (mVar 8) (mNil))
def f_w_possible_c2 : M W := mCall F_w_stretch [] (mCons (mVar 0) (mCons (mVar 9) (mCons (mVar 10) (mNil))))
def B_w_possible : M Fl := mSeq (mSet 4 (mComp lstOf (mSrc zip2 (mCons (mVar 1) (mCons (mVar 2) (mNil)))) (gT 2 (gsC (gN 9) (gsC (gN 10) gsN))) mYes f_w_possible_c2 [9, 10])) (mSeq (mPar [5, 6] (mCons (mC (.int 0)) (mCons (mApp oMinL (mCons (mComp lstOf (mSq (mVar 4)) (gT 2 (gsC (gN 7) (gsC (gN 8) gsN))) mYes f_w_possible_c1 [7, 8]) (mNil))) (mNil)))) (mSeq (mFor (mSq (mVar 4)) (gT 2 (gsC (gN 7) (gsC (gN 8) gsN))) f_w_possible_l1) (mSeq (mIf (mTest asB (mBin (isN false) (mVar 3) (mC .non))) (mRet (mC (.bl true))) (mSkip)) (mRet (mBin iLe (mBin iSub (mCall F_w_begun [] (mCons (mApp oMax2 (mCons (mApp oInt (mCons (mVar 5) (mNil))) (mCons (mApp oInt (mCons (mVar 6) (mNil))) (mNil)))) (mCons (mApp oLen (mCons (mVar 0) (mNil))) (mNil)))) (mCall F_w_begun [] (mCons (mVar 6) (mCons (mApp oLen (mCons (mVar 0) (mNil))) (mNil))))) (mVar 3))))))
def F_w_possible : OpN := fnP 4 11 B_w_possible
/-! #### law -/
def f_law_c1 : M W := mBin dGetT (mVar 10) (mVar 12)
def f_law_l1 : M Fl := mSeq (mSet 10 (mFrzD (mApp dzipE (mCons (mVar 3) (mCons (mVar 9) (mNil)))))) (mIf (mTest truW (mCall F_w_possible [] (mCons (mBin ixW (mVar 7) (mC (.int 0))) (mCons (mBin ixW (mVar 7) (mC (.int 1))) (mCons (mComp lstOf (mSq (mBin ixW (mVar 7) (mC (.int 1)))) (gN 12) mYes f_law_c1 [12]) (mCons (mC .non) (mNil))))))) (mDrop (mMeth isL oAppend (mVar 8) (mCons (mVar 9) (mNil)))) (mSkip))
def f_law_l2 : M Fl := mSeq (mSet 8 (mApp newL (mNil))) (mSeq (mFor (mSq (mCall F_w_rows [] (mCons (mApp oLen (mCons (mVar 3) (mNil))) (mCons (mIf (mTest asB (mBin wLt (mApp oLen (mCons (mVar 3) (mNil))) (mC (.int 5)))) (mC (.int 4)) (mC (.int 3))) (mNil))))) (gN 9) f_law_l1) (mFz 8 (mDrop (mMeth isL oAppend (mVar 6) (mCons (mVar 8) (mNil))))))
def f_law_l3 : M Fl := mSeq (mAsg (mCall F_w_orders [] (mCons (mVar 1) (mCons (mC (.int 5)) (mNil)))) (gA 2 (gsC (gN 3) (gsC (gN 4) gsN)))) (mSeq (mSet 5 (mApp tupOf (mCons (mCall F_w_near [] (mCons (mVar 1) (mCons (mVar 3) (mNil)))) (mCons (mCall F_w_near [] (mCons (mVar 1) (mCons (mVar 4) (mNil)))) (mNil))))) (mSeq (mIf (mTest asB (mBin (eqW false) (mCall F_w_draw [] (mCons (mVar 1) (mCons (mC (.int 4)) (mNil)))) (mC (.int 0)))) (mSet 5 (mApp tupOf (mCons (mCall F_w_mixed [] (mCons (mVar 1) (mCons (mVar 3) (mNil)))) (mCons (mCall F_w_mixed [] (mCons (mVar 1) (mCons (mVar 4) (mNil)))) (mNil))))) (mSkip)) (mSeq (mSet 6 (mApp newL (mNil))) (mSeq (mFor (mSq (mApp tupOf (mCons (mApp tupOf (mCons (mVar 3) (mCons (mVar 4) (mNil)))) (mCons (mVar 5) (mNil))))) (gN 7) f_law_l2) (mFz 6 (mSeq (mSet 11 (mBin (eqW false) (mBin ixW (mVar 6) (mC (.int 0))) (mBin ixW (mVar 6) (mC (.int 1))))) (mSeq (mIf (mOr (mTest asB (mBin (eqW true) (mApp oRepr (mCons (mCall F_alike [] (mCons (mApp tupOf (mCons (mVar 3) (mCons (mVar 4) (mNil)))) (mCons (mVar 5) (mNil)))) (mNil))) (mApp oRepr (mCons (mVar 11) (mNil))))) (mTest asB (mBin (eqW true) (mCall F_alike [] (mCons (mVar 5) (mCons (mApp tupOf (mCons (mVar 3) (mCons (mVar 4) (mNil)))) (mNil)))) (mVar 11)))) (mRet (mC (.bl false))) (mSkip)) (mIf (mTest asB (mBin (isB true) (mCall F_alike [] (mCons (mApp tupOf (mCons (mApp oTup (mCons (mVar 3) (mNil))) (mCons (mApp oTup (mCons (mVar 4) (mNil))) (mNil)))) (mCons (mApp tupOf (mCons (mVar 3) (mCons (mVar 4) (mNil)))) (mNil)))) (mC (.bl true)))) (mRet (mC (.bl false))) (mSkip)))))))))
def B_law : M Fl := mSeq (mSet 1 (mCall F_w_deal [] (mCons (mVar 0) (mCons (mC (.int 0)) (mNil))))) (mSeq (mFor (mSrc rng1 (mCons (mC (.int 6)) (mNil))) (gN 2) f_law_l3) (mRet (mC (.bl true))))
def F_law : OpN := fnM 1 13 B_law
/-- where the draws lie: the dict i, the great cells j -/
structure DealAt (i j : Nat) (gs : List Int) (st : Int) (hp : IH) : Prop where
  d : getD hp i = some [(.inr "great", .r j), (.inr "stirred", .t (.int st))]
  g : getL hp j = some (gs.map wI)
  len : gs.length ≤ 63
  lo : 0 ≤ st
  hi : st < 2147483647
theorem DealAt.ne {i j : Nat} {gs : List Int} {st : Int} {hp : IH} (h : DealAt i j gs st hp) : i ≠ j := by
  intro e
  subst e
  have a := getD_eq h.d
  have b := getL_eq h.g
  rw [a] at b
  cases b
theorem ne_nil {gs : List Int} {hp : IH} {j : Nat} (h : getL hp j = some (gs.map wI)) : eqW true (.r j) (.t (.lst [])) hp = .ok (.t (.bl (!gs.isEmpty))) hp := by
  unfold eqW
  simp only [asT_r, h, Option.bind_some, allT_ints, Option.map_some, asT_t, fit_l, fitL_ints, fitL_n]
  cases gs <;> simp
abbrev popT : M Bool := mAnd (mTest asB (mBin (eqW true) (mVar 2) (mApp lstOf (mNil)))) (mTest asB (mBin (eqW false) (mBin ixW (mVar 2) (mUn iNeg (mC (.int 1)))) (mC (.int 0))))
theorem pop_loop {i j : Nat} {wd : W} {c : Option W} : ∀ (n : Nat) (gs : List Int) (hp : IH), gs.length < n → getL hp j = some (gs.map wI) →
    ∃ gs' : List Int, gs'.length ≤ gs.length ∧ whileL popT f_w_draw_l1 n [some (.r i), some wd, some (.r j), c] hp = .ok (.nx [some (.r i), some wd, some (.r j), c]) (hp.set j (some (.lst (gs'.map wI)))) := by
  intro n
  induction n with
  | zero => intro gs hp h; omega
  | succ n ih =>
    intro gs hp h hg
    have hj := getL_lt hg
    rcases List.eq_nil_or_concat gs with e | ⟨ys, y, e⟩
    · subst e
      refine ⟨[], Nat.le_refl _, ?_⟩
      unfold whileL
      simp [ne_nil hg]
      exact (set_same (getL_eq hg)).symm
    · rw [List.concat_eq_append] at e
      subst e
      have hg' : getL hp j = some (ys.map wI ++ [wI y]) := by rw [hg]; simp
      by_cases hy : y = 0
      · obtain ⟨gs', l, q⟩ := ih ys (hp.set j (some (.lst (ys.map wI)))) (by simp at h; omega) (getL_set hj)
        refine ⟨gs', by simp; omega, ?_⟩
        unfold whileL
        simp only [p_and, p_test, p_bin, p_var, p_app, p_nil, List.getElem?_cons_succ, List.getElem?_cons_zero, bind_ok, lstOf_e, allT_n]
        simp [ne_nil hg, hg', atI_end, f_w_draw_l1, hy]
        unfold f_w_draw_l1 at q
        simpa using q
      · refine ⟨ys ++ [y], Nat.le_refl _, ?_⟩
        unfold whileL
        simp [ne_nil hg, hg', atI_end, hy, set_same (getL_eq hg')]
theorem gs_ne : ¬ Str.ofString "great" = Str.ofString "stirred" := by decide
theorem valG {a b : W} : valW [(.inr (Str.ofString "great"), a), (.inr (Str.ofString "stirred"), b)] (.inr (Str.ofString "great")) = some a := by simp [valW]
theorem valS {a b : W} : valW [(.inr (Str.ofString "great"), a), (.inr (Str.ofString "stirred"), b)] (.inr (Str.ofString "stirred")) = some b := by simp [valW, List.find?_cons, gs_ne]
theorem putS {a b c : W} : putW [(.inr (Str.ofString "great"), a), (.inr (Str.ofString "stirred"), b)] (.inr (Str.ofString "stirred")) c = [(.inr (Str.ofString "great"), a), (.inr (Str.ofString "stirred"), c)] := by simp [putW, gs_ne]
theorem draw_ok {i j : Nat} {gs : List Int} {st : Int} {hp : IH} {wide : Int} (d : DealAt i j gs st hp) (hw : 0 < wide) (hw2 : wide < 2 ^ 64) :
    ∃ (n : Int) (hp' : IH) (gs' : List Int) (st' : Int), F_w_draw [.r i, .t (.int wide)] hp = .ok (.t (.int n)) hp' ∧ 0 ≤ n ∧ n < wide ∧ DealAt i j gs' st' hp' ∧ hp'.length = hp.length ∧ ∀ k, k ≠ i → k ≠ j → hp'[k]? = hp[k]? := by
  obtain ⟨hd, hg, hl, lo, hi⟩ := d
  have hne : i ≠ j := DealAt.ne ⟨hd, hg, hl, lo, hi⟩
  have hj := getL_lt hg
  have hi' := getD_lt hd
  obtain ⟨g2, l2, q2⟩ := pop_loop (i := i) (j := j) (wd := .t (.int wide)) (c := none) 4096 gs hp (by omega) hg
  have hg2 : getL (hp.set j (some (.lst (g2.map wI)))) j = some (g2.map wI) := getL_set hj
  have hmod : ∀ x : Int, 0 ≤ x % wide ∧ x % wide < wide := fun x => ⟨Int.emod_nonneg _ (by omega), Int.emod_lt_of_pos _ hw⟩
  rcases List.eq_nil_or_concat g2 with e | ⟨ys, y, e⟩
  · subst e
    have hd2 : getD (hp.set j (some (.lst (List.map wI [])))) i = some [(.inr "great", .r j), (.inr "stirred", .t (.int st))] := by rw [getD_ne hne.symm]; exact hd
    refine ⟨((st * 48271 + 19) % 2147483647 / 16) % wide, (hp.set j (some (.lst []))).set i (some (.dic [(.inr "great", .r j), (.inr "stirred", .t (.int ((st * 48271 + 19) % 2147483647)))])), [], (st * 48271 + 19) % 2147483647, ?_, (hmod _).1, (hmod _).2, ⟨?_, ?_, ?_, ?_, ?_⟩, ?_, ?_⟩
    · have he : eqW true (.r j) (.t (.lst [])) (hp.set j (some (.lst []))) = .ok (.t (.bl false)) (hp.set j (some (.lst []))) := by simpa using ne_nil (gs := []) (by simpa using hg2)
      have c1 : cMul st 48271 = true := cMul_ok (by omega) (by omega)
      have c2 : ∀ x, cMod x 2147483647 = true := fun x => cMod_ok (by omega)
      have c3 : ∀ x, cDiv x 16 = true := fun x => cDiv_ok (by omega) (by omega)
      simp only [List.map_nil] at hd2 q2
      have hi2 : i < (hp.set j (some (.lst []))).length := by simpa using hi'
      simp only [F_w_draw, fnM, B_w_draw]
      simp [hd, valG, q2, he, hd2, valS, c1, c2, putS, getD_set hi2, c3, cMod_ok hw]
    · rw [getD_set (by simpa using hi')]
    · rw [getL_ne hne, getL_set (by simpa using hj)]; rfl
    · simp
    · exact Int.emod_nonneg _ (by omega)
    · exact Int.emod_lt_of_pos _ (by omega)
    · simp
    · intro k h1 h2
      rw [List.getElem?_set_ne (Ne.symm h1), List.getElem?_set_ne (Ne.symm h2)]
  · rw [List.concat_eq_append] at e
    subst e
    have hne2 := ne_nil hg2
    have hg3 : getL (hp.set j (some (.lst ((ys ++ [y]).map wI)))) j = some (ys.map wI ++ [wI y]) := by rw [hg2]; simp
    refine ⟨y % wide, hp.set j (some (.lst ((ys ++ [y / wide]).map wI))), ys ++ [y / wide], st, ?_, (hmod _).1, (hmod _).2, ⟨?_, ?_, ?_, lo, hi⟩, ?_, ?_⟩
    · have hl2 : ys.length < 16777216 := by simp at l2; omega
      simp only [List.map_append, List.map_cons, List.map_nil] at hne2 q2 hg3
      simp only [F_w_draw, fnM, B_w_draw]
      simp [hd, valG, q2, hne2, hg3, getL_set, hj, hl2, cDiv_ok hw hw2, cMod_ok hw]
    · rw [getD_ne hne.symm]; exact hd
    · rw [getL_set hj]
    · simp at l2 ⊢; omega
    · simp
    · intro k h1 h2
      rw [List.getElem?_set_ne (Ne.symm h2)]
theorem DealAt.ltA {i j : Nat} {gs : List Int} {st : Int} {hp : IH} (h : DealAt i j gs st hp) : i < hp.length ∧ j < hp.length := ⟨getD_lt h.d, getL_lt h.g⟩
theorem DealAt.keepA {i j : Nat} {gs : List Int} {st : Int} {hp hp' : IH} (h : DealAt i j gs st hp) (h1 : hp'[i]? = hp[i]?) (h2 : hp'[j]? = hp[j]?) : DealAt i j gs st hp' := by
  obtain ⟨a, b, c, e, f⟩ := h
  exact ⟨by unfold getD at a ⊢; rw [h1]; exact a, by unfold getL at b ⊢; rw [h2]; exact b, c, e, f⟩

/-- the draws lie at i and j -/
def Deal (i j : Nat) (hp : IH) : Prop := ∃ gs st, DealAt i j gs st hp
theorem Deal.ne {i j : Nat} {hp : IH} (d : Deal i j hp) : i ≠ j := let ⟨_, _, h⟩ := d; h.ne
theorem Deal.lt {i j : Nat} {hp : IH} (d : Deal i j hp) : i < hp.length ∧ j < hp.length := let ⟨_, _, h⟩ := d; h.ltA
/-- cells besides the draws' stay -/
def Ext (i j : Nat) (hp hp' : IH) : Prop := hp.length ≤ hp'.length ∧ ∀ k, k < hp.length → k ≠ i → k ≠ j → hp'[k]? = hp[k]?
theorem Ext.refl {i j : Nat} {hp : IH} : Ext i j hp hp := ⟨Nat.le_refl _, fun _ _ _ _ => rfl⟩
theorem Ext.trans {i j : Nat} {a b c : IH} (h : Ext i j a b) (g : Ext i j b c) : Ext i j a c :=
  ⟨Nat.le_trans h.1 g.1, fun k hk h1 h2 => (g.2 k (Nat.lt_of_lt_of_le hk h.1) h1 h2).trans (h.2 k hk h1 h2)⟩
theorem Deal.keep {i j : Nat} {hp hp' : IH} (d : Deal i j hp) (h1 : hp'[i]? = hp[i]?) (h2 : hp'[j]? = hp[j]?) : Deal i j hp' := by
  obtain ⟨gs, st, h⟩ := d
  exact ⟨gs, st, h.keepA h1 h2⟩
theorem draw_is {i j : Nat} {hp : IH} {wide : Int} (d : Deal i j hp) (hw : 0 < wide) (hw2 : wide < 2 ^ 64) :
    ∃ (n : Int) (hp' : IH), F_w_draw [.r i, .t (.int wide)] hp = .ok (.t (.int n)) hp' ∧ 0 ≤ n ∧ n < wide ∧ Deal i j hp' ∧ hp'.length = hp.length ∧ ∀ k, k ≠ i → k ≠ j → hp'[k]? = hp[k]? := by
  obtain ⟨gs, st, h⟩ := d
  obtain ⟨n, hp', gs', st', h1, h2, h3, h4, h5, h6⟩ := draw_ok h hw hw2
  exact ⟨n, hp', h1, h2, h3, ⟨gs', st', h4⟩, h5, h6⟩
theorem neT_nil {ts : List T} {hp : IH} {j : Nat} (h : getL hp j = some (ts.map W.t)) (f : fitL ts 59 = true) : eqW true (.r j) (.t (.lst [])) hp = .ok (.t (.bl (!ts.isEmpty))) hp := by
  unfold eqW
  simp only [asT_r, h, Option.bind_some, allT_mapS, Option.map_some, asT_t, fit_l, fitL_n, f]
  cases ts <;> simp
theorem seqIx {n : Int} {m : Nat} (h0 : 0 ≤ n) (h1 : n < m) : seqIndex? n m = some n.toNat := by
  unfold seqIndex?
  simp only [show ¬ n < 0 by omega, if_false]
  simp [h0, h1]
theorem mix_loop {i j a b : Nat} {w1 : W} (hab : a ≠ b) (hia : i ≠ a) (hib : i ≠ b) (hja : j ≠ a) (hjb : j ≠ b) : ∀ (n : Nat) (xs ys : List T) (hp : IH), xs.length < n → ys.length + xs.length < 1000000 → fitL xs 59 = true →
    getL hp a = some (xs.map W.t) → getL hp b = some (ys.map W.t) → Deal i j hp →
    ∃ (zs : List T) (hp' : IH), zs.Perm xs ∧ whileL (mTest asB (mBin (eqW true) (mVar 2) (mApp lstOf (mNil)))) f_w_mixed_l1 n [some (.r i), some w1, some (.r a), some (.r b)] hp = .ok (.nx [some (.r i), some w1, some (.r a), some (.r b)]) hp' ∧
      getL hp' b = some ((ys ++ zs).map W.t) ∧ Deal i j hp' ∧ hp'.length = hp.length ∧ ∀ k, k ≠ i → k ≠ j → k ≠ a → k ≠ b → hp'[k]? = hp[k]? := by
  intro n
  induction n with
  | zero => intro xs ys hp h; omega
  | succ n ih =>
    intro xs ys hp h hz hf ha hb d
    cases xs with
    | nil =>
      refine ⟨[], hp, .refl _, ?_, by simpa using hb, d, rfl, fun _ _ _ _ _ => rfl⟩
      unfold whileL
      simp [neT_nil ha hf]
    | cons x0 xr =>
      obtain ⟨m, h1, e, m0, m1, d1, l1, k1⟩ := draw_is (wide := (x0 :: xr).length) d (by simp only [List.length_cons]; omega) (by simp only [List.length_cons] at hz ⊢; omega)
      have hm : m.toNat < (x0 :: xr).length := by omega
      have ha1 : getL h1 a = some ((x0 :: xr).map W.t) := by rw [getL_keep (k1 a hia.symm hja.symm)]; exact ha
      have hb1 : getL h1 b = some (ys.map W.t) := by rw [getL_keep (k1 b hib.symm hjb.symm)]; exact hb
      have la1 := getL_lt ha1
      have lb1 := getL_lt hb1
      let h2 := h1.set a (some (.lst (((x0 :: xr).eraseIdx m.toNat).map W.t)))
      have hb2 : getL h2 b = some (ys.map W.t) := by rw [getL_ne hab]; exact hb1
      have lb2 : b < h2.length := by simpa [h2] using lb1
      let h3 := h2.set b (some (.lst ((ys ++ [(x0 :: xr)[m.toNat]]).map W.t)))
      have ha3 : getL h3 a = some (((x0 :: xr).eraseIdx m.toNat).map W.t) := by rw [getL_ne hab.symm, getL_set la1]
      have hb3 : getL h3 b = some ((ys ++ [(x0 :: xr)[m.toNat]]).map W.t) := getL_set lb2
      have d3 : Deal i j h3 := d1.keep (by simp only [h3, h2]; rw [List.getElem?_set_ne hib.symm, List.getElem?_set_ne hia.symm]) (by simp only [h3, h2]; rw [List.getElem?_set_ne hjb.symm, List.getElem?_set_ne hja.symm])
      have el : ((x0 :: xr).eraseIdx m.toNat).length = xr.length := by rw [List.length_eraseIdx, if_pos hm]; rfl
      obtain ⟨zs, hp', p, q, r, d', l', k'⟩ := ih ((x0 :: xr).eraseIdx m.toNat) (ys ++ [(x0 :: xr)[m.toNat]]) h3 (by rw [el]; simp at h; omega) (by rw [el]; simp at hz ⊢; omega) (fitL_erase _ hf) ha3 hb3 d3
      refine ⟨(x0 :: xr)[m.toNat] :: zs, hp', (p.cons _).trans (erase_perm _ _ hm), ?_, by simpa using r, d', by rw [l']; simp [h3, h2, l1], fun k c1 c2 c3 c4 => by rw [k' k c1 c2 c3 c4]; simp only [h3, h2]; rw [List.getElem?_set_ne c4.symm, List.getElem?_set_ne c3.symm, k1 k c1 c2]⟩
      have body : f_w_mixed_l1 [some (.r i), some w1, some (.r a), some (.r b)] hp = .ok (.nx [some (.r i), some w1, some (.r a), some (.r b)]) h3 := by
        have pop : oPopAt (.r a) [.t (.int m)] h1 = .ok (.t (x0 :: xr)[m.toNat]) h2 := by
          have m1' : m < ((x0 :: xr).map W.t).length := by simpa using m1
          have hz' : m < 2 ^ 63 := by simp at m1 hz; omega
          simp only [oPopAt, ha1, seqIx m0 m1', List.getElem?_map, List.getElem?_eq_getElem hm, Option.map_some, erase_map]
          rw [if_pos ⟨by omega, hz'⟩]
        have app : oAppend (.r b) [.t (x0 :: xr)[m.toNat]] h2 = .ok (.t .non) h3 := by
          have : (ys.map W.t).length < 16777216 := by simp at hz ⊢; omega
          rw [oAppend_r, hb2]
          simp only [this, if_true]
          simp [h3]
        simp only [List.length_cons] at e
        simp only [f_w_mixed_l1, p_drop, p_meth, p_var, p_cons, p_nil, p_call, p_app, List.getElem?_cons_succ, List.getElem?_cons_zero, bind_ok, isL_r, hb, ha, oLen_r, Option.isSome_some, if_true, List.map_nil, List.append_nil, List.length_map, List.length_cons, e, noEr_ok, pop, app]
      unfold whileL
      simp only [p_test, p_bin, p_var, p_app, p_nil, List.getElem?_cons_succ, List.getElem?_cons_zero, bind_ok, lstOf_e, allT_n, List.length_nil, Nat.zero_le, if_true, neT_nil ha hf, asB_bl, body]
      simpa using q

theorem mixed_is {i j : Nat} {hp : IH} {ts : List T} (d : Deal i j hp) (hl : ts.length < 4000) (hf : fitL ts 59 = true) :
    ∃ (zs : List T) (hp' : IH), zs.Perm ts ∧ F_w_mixed [.r i, .t (.lst ts)] hp = .ok (.t (.lst zs)) hp' ∧ Deal i j hp' ∧ Ext i j hp hp' := by
  obtain ⟨li, lj⟩ := d.lt
  let h1 : IH := hp ++ [some (.lst (ts.map W.t))]
  let h2 : IH := h1 ++ [some (.lst [])]
  have l1 : h1.length = hp.length + 1 := by simp [h1]
  have ga : getL h2 hp.length = some (ts.map W.t) := by rw [getL_app (by omega)]; simp [h1]
  have gb : getL h2 h1.length = some (([] : List T).map W.t) := by simp [h2]
  have d2 : Deal i j h2 := d.keep (by simp only [h2, h1]; rw [List.append_assoc, List.getElem?_append_left li]) (by simp only [h2, h1]; rw [List.append_assoc, List.getElem?_append_left lj])
  obtain ⟨zs, h3, p, q, r, d3, l3, k3⟩ := mix_loop (i := i) (j := j) (a := hp.length) (b := h1.length) (w1 := .t (.lst ts)) (by omega) (by omega) (by omega) (by omega) (by omega) 4096 ts [] h2 (by omega) (by simp; omega) hf ga gb d2
  refine ⟨zs, h3.set h1.length none, p, ?_, d3.keep (by rw [List.getElem?_set_ne (by omega)]) (by rw [List.getElem?_set_ne (by omega)]), ⟨by rw [List.length_set, l3]; simp only [h2, List.length_append]; omega, fun k hk c1 c2 => ?_⟩⟩
  · have e1 : hp ++ [some (Cell.lst (ts.map W.t))] = h1 := rfl
    have e2 : h1 ++ [some (Cell.lst [])] = h2 := rfl
    simp only [List.nil_append] at r
    have e3 : (hp ++ [some (Cell.lst (ts.map W.t))]).length = h1.length := rfl
    simp only [F_w_mixed, fnM, B_w_mixed]
    simp [q, r, e1, e2]
  · rw [List.getElem?_set_ne (by omega), k3 k c1 c2 (by omega) (by omega)]
    simp only [h2, h1]
    rw [List.append_assoc, List.getElem?_append_left hk]
/-! ### comprehensions -/
/-! ### the deal -/
theorem stir_loop {w0 w1 w2 : W} : ∀ (cs : List Int) (k : Nat) (st : Int) (o4 o5 : Option W) (hp : IH), cs.length + k ≤ 64 → 0 ≤ st → st < 2147483647 →
    ∃ (st' : Int) (o4' o5' : Option W), 0 ≤ st' ∧ st' < 2147483647 ∧ forL (gT 2 (gsC (gN 4) (gsC (gN 5) gsN))) f_w_deal_l1 (enumT k (cs.map T.int)) [some w0, some w1, some w2, some (.t (.int st)), o4, o5] hp = .ok (.nx [some w0, some w1, some w2, some (.t (.int st')), o4', o5']) hp
  | [], _, st, o4, o5, hp, _, h0, h1 => ⟨st, o4, o5, h0, h1, rfl⟩
  | c :: cs, k, st, o4, o5, hp, hk, h0, h1 => by
    have c1 : cMul (st + k + 2) 48271 = true := cMul_ok (by simp only [List.length_cons] at hk; omega) (by omega)
    have c2 : ∀ x, cMod x 2147483647 = true := fun x => cMod_ok (by omega)
    have c3 : ∀ x, cMod x 2147483587 = true := fun x => cMod_ok (by omega)
    obtain ⟨st', o4', o5', a, b, q⟩ := stir_loop (w0 := w0) (w1 := w1) (w2 := w2) cs (k + 1) (((st + k + 2) * 48271 + c % 2147483587) % 2147483647) (some (.t (.int k))) (some (.t (.int c))) hp (by simp only [List.length_cons] at hk; omega) (Int.emod_nonneg _ (by omega)) (Int.emod_lt_of_pos _ (by omega))
    refine ⟨st', o4', o5', a, b, ?_⟩
    rw [← q]
    simp [enumT, forL, f_w_deal_l1, c1, c2, c3]
theorem deal_is {ns : List Int} {hp : IH} (hn : ns.length ≤ 63) : ∃ (hp' : IH), F_w_deal [.t (.scr (ns.map T.int)), .t (.int 0)] hp = .ok (.r hp.length) hp' ∧ Deal hp.length (hp.length + 1) hp' ∧ hp'.length = hp.length + 2 ∧ ∀ k, k < hp.length → hp'[k]? = hp[k]? := by
  let cs : List Int := (cutL ns (some 0) (some 64)).map fun c => if c < 0 then -c else c
  have lc : cs.length ≤ 63 := by
    have := cutL_len ns (some 0) (some 64)
    simp only [cs, List.length_map]
    omega
  obtain ⟨st, o4, o5, a, b, q⟩ := stir_loop (w0 := .t (.scr (ns.map T.int))) (w1 := .t (.int 0)) (w2 := .t (.lst (cs.map T.int))) cs 0 51749 none none hp (by omega) (by omega) (by omega)
  let f : T → T := fun t => match t with | .int c => .int (if c < 0 then -c else c) | t => t
  let p : T → Bool := fun t => match t with | .int c => decide ((10 : Int) ^ 18 ≤ c) | _ => false
  let g : Int → Bool := fun c => decide ((10 : Int) ^ 18 ≤ c)
  have ef : (cutL (ns.map T.int) (some 0) (some 64)).map f = cs.map T.int := by
    rw [cutL_map, List.map_map]
    simp only [cs, List.map_map]
    rfl
  have hc : compL (gN 5) mYes f_w_deal_c3 (wipeI [some (.t (.scr (ns.map T.int))), some (.t (.int 0)), none, none, none, none] [5]) ((cutL (ns.map T.int) (some 0) (some 64)).map W.t) hp = .ok ((cs.map T.int).map W.t) hp := by
    rw [← ef]
    refine comp_map fun t ht => ?_
    rw [cutL_map, List.mem_map] at ht
    obtain ⟨c, _, e⟩ := ht
    subst e
    simp [f_w_deal_c3, wipeI, f]
  have hfl : (cs.map T.int).filter p = (cs.filter g).map T.int := by
    rw [List.filter_map]
    rfl
  let h1 : IH := hp ++ [some (.dic [])]
  have hc2 : compL (gN 5) f_w_deal_c1 f_w_deal_c2 (wipeI [some (.t (.scr (ns.map T.int))), some (.t (.int 0)), some (.t (.lst (cs.map T.int))), some (.t (.int st)), o4, o5] [5]) ((cs.map T.int).map W.t) h1 = .ok (((cs.filter g).map T.int).map W.t) h1 := by
    have e : (((cs.map T.int).filter p).map (fun t => t)).map W.t = ((cs.filter g).map T.int).map W.t := by rw [hfl, List.map_id']
    rw [← e]
    refine comp_filter (fun t ht => ?_) fun t ht _ => ?_
    · rw [List.mem_map] at ht
      obtain ⟨c, _, e⟩ := ht
      subst e
      simp [f_w_deal_c1, wipeI, p, cPow]
    · simp [f_w_deal_c2, wipeI]
  have l1 : h1.length = hp.length + 1 := by simp [h1]
  have lz : (cs.filter g).length ≤ 63 := Nat.le_trans (List.length_filter_le _ _) lc
  let h2 : IH := h1 ++ [some (.lst (((cs.filter g).map T.int).map W.t).reverse)]
  have gd : getD h2 hp.length = some [] := by rw [getD_app (by omega)]; simp [getD, h1]
  let dd : List (Key × W) := [(.inr (Str.ofString "great"), .r h1.length), (.inr (Str.ofString "stirred"), .t (.int st))]
  have mg : mergeW [] dd = dd := by simp [mergeW, dd, putW, gs_ne]
  refine ⟨h2.set hp.length (some (.dic dd)), ?_, ⟨(cs.filter g).reverse, st, ?_, ?_, by simpa using lz, a, b⟩, by simp [h2, h1], fun k hk => ?_⟩
  · have k1 : (cutL (ns.map T.int) (some 0) (some 64)).length ≤ 16777216 := by
      have := cutL_len (ns.map T.int) (some 0) (some 64)
      rw [List.length_map] at this
      omega
    have k2 : cs.length ≤ 16777216 := by omega
    have k3 : (cs.filter g).length ≤ 16777216 := by omega
    have e1 : hp ++ [some (Cell.dic [])] = h1 := rfl
    have e2 : h1 ++ [some (Cell.lst (((cs.filter g).map T.int).map W.t).reverse)] = h2 := rfl
    simp only [F_w_deal, fnM, B_w_deal]
    have e6 : oRevL (.t (.lst ((cs.filter g).map T.int))) h1 = .ok (.r h1.length) h2 := rfl
    have mg2 : mergeW [] [(.inr (Str.ofString "great"), .r h1.length), (.inr (Str.ofString "stirred"), .t (.int st))] = dd := mg
    have cm : cMul 13 0 = true := by decide
    simp [-List.map_map, slW, hc, k1, k2, k3, q, cm, mVals, e1, hc2, e2, gd, e6, mg2]
  · rw [getD_set (by simp [h2, h1])]
    simp [dd, l1]
  · rw [getL_ne (by omega)]
    have : hp.length + 1 = h1.length := by simp [h1]
    rw [this]
    simp [h2, wI, Function.comp_def]
  · rw [List.getElem?_set_ne (by omega)]
    simp only [h2, h1]
    rw [List.append_assoc, List.getElem?_append_left hk]

/-! ### the bounds told plainly -/
def gexV (w r : List Str) (most : Option Int) (a b : Nat) : Option Int :=
  if a < b then some (if pos w (r.getD a "") < pos w (r.getD b "") then 1 else 0)
  else match most with | none => none | some m => some (if pos w (r.getD b "") = 0 then m else m + 1)
def cellV (w r : List Str) (most : Option Int) (a b : Nat) : Option Int := if a = b then some 0 else gexV w r most a b
def tabV (w r : List Str) (most : Option Int) : List (List (Option Int)) := (List.range r.length).map fun a => (List.range r.length).map fun b => cellV w r most a b
def rowT (row : List (Option Int)) : T := .tup (row.map oT)
def tabT (t : List (List (Option Int))) : T := .tup (t.map rowT)
theorem gex_is {w r : List Str} {bt : Bool} {most : Option Int} {a b : Nat} {hp : IH} (ha : a < r.length) (hb : b < r.length) (hr : ∀ x ∈ r, x ∈ w) :
    F_greatest_excess [.t (.lst (w.map T.str)), .t (sqT bt (r.map T.str)), .t (.int a), .t (.int b), .t (oT most)] hp = .ok (.t (oT (gexV w r most a b))) hp := by
  have e1 : ixW (.t (sqT bt (r.map T.str))) (.t (.int a)) [] = .ok (.t (.str (r[a]))) [] := by rw [ixW_sq (by simpa using ha)]; simp
  have e2 : ixW (.t (sqT bt (r.map T.str))) (.t (.int b)) [] = .ok (.t (.str (r[b]))) [] := by rw [ixW_sq (by simpa using hb)]; simp
  have i1 := index_is (hp := []) (hr r[a] (List.getElem_mem _))
  have i2 := index_is (hp := []) (hr r[b] (List.getElem_mem _))
  have g1 : r.getD a "" = r[a] := by simp [List.getD, ha]
  have g2 : r.getD b "" = r[b] := by simp [List.getD, hb]
  simp only [F_greatest_excess, fnP, B_greatest_excess]
  simp [e1, e2, i1, i2, allT]
  by_cases hab : a < b
  · by_cases hp1 : pos w r[a] < pos w r[b]
    · simp [hab, hp1, gexV, g1, g2, oT, ha, hb]
    · simp [hab, hp1, gexV, g1, g2, oT, ha, hb]
  · cases most with
    | none => simp [hab, gexV, oT]
    | some m =>
      by_cases h0 : pos w r[b] = 0
      · simp [hab, gexV, oT, h0, ha, hb]
      · simp [hab, gexV, oT, h0, ha, hb]

theorem row_loop {w r : List Str} {bt : Bool} {most : Option Int} {a k : Nat} {w0 w4 : W} (ha : a < r.length) (hr : ∀ x ∈ r, x ∈ w) : ∀ (bs : List Nat) (acc : List T) (c7 : Option W) (hp : IH), (∀ b ∈ bs, b < r.length) → acc.length + bs.length < 1000000 → getL hp k = some (acc.map W.t) →
    ∃ c7', forL (gN 7) f_differences_l1 (bs.map natW) [some w0, some (.t (sqT bt (r.map T.str))), some (.t (oT most)), some (.t (.lst (w.map T.str))), some w4, some (.t (.int a)), some (.r k), c7] hp =
      .ok (.nx [some w0, some (.t (sqT bt (r.map T.str))), some (.t (oT most)), some (.t (.lst (w.map T.str))), some w4, some (.t (.int a)), some (.r k), c7']) (hp.set k (some (.lst ((acc ++ bs.map fun b => oT (cellV w r most a b)).map W.t))))
  | [], acc, c7, hp, _, _, h => ⟨c7, by simp; exact (set_same (getL_eq h)).symm⟩
  | b :: bs, acc, c7, hp, hb, hz, h => by
    have hk := getL_lt h
    obtain ⟨c7', q⟩ := row_loop (bt := bt) (most := most) (w0 := w0) (w4 := w4) ha hr bs (acc ++ [oT (cellV w r most a b)]) (some (natW b)) (hp.set k (some (.lst ((acc ++ [oT (cellV w r most a b)]).map W.t)))) (fun x hx => hb x (List.mem_cons_of_mem _ hx)) (by simp only [List.length_append, List.length_cons, List.length_nil] at hz ⊢; omega) (getL_set hk)
    refine ⟨c7', ?_⟩
    have g := gex_is (w := w) (r := r) (bt := bt) (most := most) (a := a) (b := b) (hp := hp) ha (hb b (List.mem_cons_self ..)) hr
    have cell : (mIf (mTest asB (mBin (eqW false) (mVar 5) (mVar 7))) (mC (.int 0)) (mCall F_greatest_excess [] (mCons (mVar 3) (mCons (mVar 1) (mCons (mVar 5) (mCons (mVar 7) (mCons (mVar 2) (mNil)))))))) [some w0, some (.t (sqT bt (r.map T.str))), some (.t (oT most)), some (.t (.lst (w.map T.str))), some w4, some (.t (.int a)), some (.r k), some (natW b)] hp = .ok (.t (oT (cellV w r most a b))) hp := by
      rw [natW_eq]
      by_cases hab : a = b
      · subst hab
        simp [cellV, oT]
      · have : ¬ ((a : Int) = (b : Int)) := by omega
        simp [cellV, hab, this, g]
    have hl : acc.length < 16777216 := by simp only [List.length_cons] at hz; omega
    have body : f_differences_l1 [some w0, some (.t (sqT bt (r.map T.str))), some (.t (oT most)), some (.t (.lst (w.map T.str))), some w4, some (.t (.int a)), some (.r k), some (natW b)] hp = .ok (.nx [some w0, some (.t (sqT bt (r.map T.str))), some (.t (oT most)), some (.t (.lst (w.map T.str))), some w4, some (.t (.int a)), some (.r k), some (natW b)]) (hp.set k (some (.lst ((acc ++ [oT (cellV w r most a b)]).map W.t)))) := by
      unfold f_differences_l1
      simp only [p_drop, p_meth, p_var, p_cons, p_nil, List.getElem?_cons_succ, List.getElem?_cons_zero, bind_ok, isL_r, h, Option.isSome_some, if_true, cell, oAppend_r, List.length_map, hl]
      simp
    simp only [List.map_cons, forL, p_gN]
    simp only [List.set_cons_succ, List.set_cons_zero, body, bind_ok, q]
    simp
theorem tab_loop {w r : List Str} {bt : Bool} {most : Option Int} {w0 : W} (hr : ∀ x ∈ r, x ∈ w) (hn : r.length < 100000) : ∀ (as : List Nat) (acc : List T) (c5 c6 c7 : Option W) (hp : IH), (∀ a ∈ as, a < r.length) → acc.length + as.length < 1000000 → getL hp 0 = some (acc.map W.t) →
    ∃ c5' c6' c7' hp', getL hp' 0 = some ((acc ++ as.map fun a => rowT ((List.range r.length).map fun b => cellV w r most a b)).map W.t) ∧
      forL (gN 5) f_differences_l2 (as.map natW) [some w0, some (.t (sqT bt (r.map T.str))), some (.t (oT most)), some (.t (.lst (w.map T.str))), some (.r 0), c5, c6, c7] hp =
      .ok (.nx [some w0, some (.t (sqT bt (r.map T.str))), some (.t (oT most)), some (.t (.lst (w.map T.str))), some (.r 0), c5', c6', c7']) hp' := by
  intro as
  induction as with
  | nil => exact fun acc c5 c6 c7 hp _ _ h => ⟨c5, c6, c7, hp, by simpa using h, by simp⟩
  | cons a as ih =>
    intro acc c5 c6 c7 hp hb hz h
    have h0 := getL_lt h
    have ha : a < r.length := hb a (List.mem_cons_self ..)
    let h1 : IH := hp ++ [some (.lst [])]
    obtain ⟨d7, q⟩ := row_loop (w := w) (r := r) (bt := bt) (most := most) (a := a) (k := hp.length) (w0 := w0) (w4 := .r 0) ha hr (List.range r.length) [] c7 h1 (fun b hb => List.mem_range.mp hb) (by simp; omega) (by simp [h1])
    let row := rowT ((List.range r.length).map fun b => cellV w r most a b)
    let ro : List T := (List.range r.length).map fun b => oT (cellV w r most a b)
    have ero : row = .tup ro := by simp [row, rowT, ro, Function.comp_def]
    let h2 : IH := h1.set hp.length (some (.lst (ro.map W.t)))
    let h3 : IH := h2.set hp.length none
    have l1 : hp.length < h1.length := by simp [h1]
    have g2 : getL h2 hp.length = some (ro.map W.t) := getL_set l1
    have g3 : getL h3 0 = some (acc.map W.t) := by
      rw [getL_ne (by omega), getL_ne (by omega)]
      simp only [h1]
      rw [getL_app h0]; exact h
    have l3 : 0 < h3.length := by simp [h3, h2, h1]
    have hl : acc.length < 16777216 := by simp only [List.length_cons] at hz; omega
    let h4 : IH := h3.set 0 (some (.lst ((acc ++ [row]).map W.t)))
    obtain ⟨c5', c6', c7', hp', i1, i2⟩ := ih (acc ++ [row]) (some (natW a)) (some (.t (.lst ro))) d7 h4 (fun x hx => hb x (List.mem_cons_of_mem _ hx)) (by simp only [List.length_append, List.length_cons, List.length_nil] at hz ⊢; omega) (getL_set l3)
    refine ⟨c5', c6', c7', hp', by simpa [row] using i1, ?_⟩
    have q' : forL (gN 7) f_differences_l1 ((List.range r.length).map natW) [some w0, some (.t (sqT bt (r.map T.str))), some (.t (oT most)), some (.t (.lst (w.map T.str))), some (.r 0), some (natW a), some (.r hp.length), c7] h1 =
      .ok (.nx [some w0, some (.t (sqT bt (r.map T.str))), some (.t (oT most)), some (.t (.lst (w.map T.str))), some (.r 0), some (natW a), some (.r hp.length), d7]) h2 := by
      rw [natW_eq]
      simpa [h2, ro] using q
    have body : f_differences_l2 [some w0, some (.t (sqT bt (r.map T.str))), some (.t (oT most)), some (.t (.lst (w.map T.str))), some (.r 0), some (natW a), c6, c7] hp =
        .ok (.nx [some w0, some (.t (sqT bt (r.map T.str))), some (.t (oT most)), some (.t (.lst (w.map T.str))), some (.r 0), some (natW a), some (.t (.lst ro)), d7]) h4 := by
      have e1 : hp ++ [some (Cell.lst [])] = h1 := rfl
      have e3 : h2.set hp.length none = h3 := rfl
      have er : (fun k : Nat => W.t (T.int (0 + (k : Int)))) = natW := rfl
      have fr : ∀ (h : IH) (S : M Fl) (c6 : W), mFor (mSrc rng1 (mCons (mApp oLen (mCons (mVar 1) (mNil))) (mNil))) (gN 7) S [some w0, some (.t (sqT bt (r.map T.str))), some (.t (oT most)), some (.t (.lst (w.map T.str))), some (.r 0), some (natW a), some c6, c7] h = forL (gN 7) S ((List.range r.length).map natW) [some w0, some (.t (sqT bt (r.map T.str))), some (.t (oT most)), some (.t (.lst (w.map T.str))), some (.r 0), some (natW a), some c6, c7] h := fun h S c6 => for_rng (by simp [oLen_sq]) hn
      unfold f_differences_l2
      simp only [p_seq, p_set, p_app, p_nil, fr, p_cons, p_var, p_fz, p_drop, p_meth, bind_ok, then_nx, newL_nil, if_true, e1, List.set_cons_succ, List.set_cons_zero, List.getElem?_cons_succ, List.getElem?_cons_zero, q', then_nx, p_fz, p_drop, p_meth, p_cons, p_app, p_var, p_nil, List.getElem?_cons_succ, List.getElem?_cons_zero, freeze_r, g2, Option.bind_some, allT_mapS, e3, List.set_cons_succ, List.set_cons_zero, isL_r, g3, Option.isSome_some, if_true, oTup_l, oAppend_r, List.length_map, hl]
      simp [h4, ero]
    simp only [List.map_cons, forL, p_gN]
    simp only [List.set_cons_succ, List.set_cons_zero, body, bind_ok, i2]
theorem diff_is {w r : List Str} {bw bt : Bool} {most : Option Int} {hp : IH} (hr : ∀ x ∈ r, x ∈ w) (hn : r.length < 100000) :
    F_differences [.t (sqT bw (w.map T.str)), .t (sqT bt (r.map T.str)), .t (oT most)] hp = .ok (.t (tabT (tabV w r most))) hp := by
  obtain ⟨c5, c6, c7, hp', i1, i2⟩ := tab_loop (w := w) (r := r) (bt := bt) (most := most) (w0 := .t (sqT bw (w.map T.str))) hr hn (List.range r.length) [] none none none [some (.lst [])] (fun b hb => List.mem_range.mp hb) (by simp; omega) (by simp [getL])
  have er : (fun k : Nat => W.t (T.int (0 + (k : Int)))) = natW := rfl
  have el : oListF [.t (sqT bw (w.map T.str))] [] = .ok (.t (.lst (w.map T.str))) [] := by cases bw <;> simp [sqT]
  have c : -(2 ^ 62) ≤ (r.length : Int) ∧ (r.length : Int) < 2 ^ 62 := ⟨by omega, by omega⟩
  have et : tabT (tabV w r most) = .tup ((List.range r.length).map fun a => rowT ((List.range r.length).map fun b => cellV w r most a b)) := by simp [tabT, tabV, Function.comp_def]
  simp only [List.nil_append] at i1
  have fr : ∀ (h : IH) (S : M Fl) (c3 c4 : W), mFor (mSrc rng1 (mCons (mApp oLen (mCons (mVar 1) (mNil))) (mNil))) (gN 5) S [some (.t (sqT bw (w.map T.str))), some (.t (sqT bt (r.map T.str))), some (.t (oT most)), some c3, some c4, none, none, none] h = forL (gN 5) S ((List.range r.length).map natW) [some (.t (sqT bw (w.map T.str))), some (.t (sqT bt (r.map T.str))), some (.t (oT most)), some c3, some c4, none, none, none] h := fun h S c3 c4 => for_rng (by simp [oLen_sq]) hn
  simp only [F_differences, fnP, B_differences]
  simp only [allT_c, allT_n, Option.map_some, Option.isSome_some, List.length_cons, List.length_nil, and_self, if_true, List.map_cons, List.map_nil, List.replicate, List.cons_append, List.nil_append, p_seq, p_par, p_cons, p_app, p_var, p_nil, List.getElem?_cons_succ, List.getElem?_cons_zero, bind_ok, el, newL_nil,
    List.zip_cons_cons, List.zip_nil_right, List.foldl_cons, List.foldl_nil, List.set_cons_succ, List.set_cons_zero, then_nx, fr]
  simp [-List.map_map, i2, i1, et]

def inB (v : Int) : List (Option Int) → List Int → Bool
  | none :: ls, _ :: os => inB v ls os
  | some l :: ls, o :: os => !decide (l < v - o) && inB v ls os
  | _, _ => true
def withinB (vs : List Int) : List (List (Option Int)) → List Int → Bool
  | row :: t, v :: r => inB v row vs && withinB vs t r
  | _, _ => true

/-! ### bounds of pairs -/
def cOk (c : Option Int) (d : Int) : Bool := match c with | none => true | some l => decide (d ≤ l)
def pairsOk (c : Nat → Nat → Option Int) (n : Nat) (f : Nat → Int) : Prop := ∀ i j, i < n → j < n → cOk (c i j) (f i - f j) = true
theorem inB_iff {v : Int} : ∀ (ls : List (Option Int)) (os : List Int), inB v ls os = true ↔ ∀ (j : Nat) (l o : Int), ls[j]? = some (some l) → os[j]? = some o → v - o ≤ l
  | [], os => by simp [inB]
  | l :: ls, [] => by cases l <;> simp [inB]
  | none :: ls, o :: os => by
    rw [show inB v (none :: ls) (o :: os) = inB v ls os from rfl, inB_iff ls os]
    constructor
    · intro h j l o' e1 e2
      cases j with
      | zero => simp at e1
      | succ j => exact h j l o' (by simpa using e1) (by simpa using e2)
    · intro h j l o' e1 e2
      exact h (j + 1) l o' (by simpa using e1) (by simpa using e2)
  | some l :: ls, o :: os => by
    have e : inB v (some l :: ls) (o :: os) = (!decide (l < v - o) && inB v ls os) := rfl
    rw [e, Bool.and_eq_true, inB_iff ls os]
    simp only [Bool.not_eq_true', decide_eq_false_iff_not, Int.not_lt]
    constructor
    · rintro ⟨h0, h⟩ j l' o' e1 e2
      cases j with
      | zero =>
        simp at e1 e2
        omega
      | succ j => exact h j l' o' (by simpa using e1) (by simpa using e2)
    · intro h
      exact ⟨h 0 l o rfl rfl, fun j l' o' e1 e2 => h (j + 1) l' o' (by simpa using e1) (by simpa using e2)⟩
theorem withinB_iff {vs : List Int} : ∀ (t : List (List (Option Int))) (rs : List Int), withinB vs t rs = true ↔ ∀ (i : Nat) (row : List (Option Int)) (v : Int), t[i]? = some row → rs[i]? = some v → inB v row vs = true
  | [], rs => by simp [withinB]
  | _ :: _, [] => by simp [withinB]
  | row :: t, v :: rs => by
    rw [show withinB vs (row :: t) (v :: rs) = (inB v row vs && withinB vs t rs) from rfl, Bool.and_eq_true, withinB_iff t rs]
    constructor
    · rintro ⟨h0, h⟩ i row' v' e1 e2
      cases i with
      | zero =>
        simp at e1 e2
        rw [← e1, ← e2]; exact h0
      | succ i => exact h i row' v' (by simpa using e1) (by simpa using e2)
    · intro h
      exact ⟨h 0 row v rfl rfl, fun i row' v' e1 e2 => h (i + 1) row' v' (by simpa using e1) (by simpa using e2)⟩
theorem within_iff {w r : List Str} {vs : List Int} {most : Option Int} (hl : vs.length = r.length) : withinB vs (tabV w r most) vs = true ↔ ∀ (i j : Nat) (l : Int), i < r.length → j < r.length → cellV w r most i j = some l → vs.getD i 0 - vs.getD j 0 ≤ l := by
  rw [withinB_iff]
  constructor
  · intro h i j l hi hj e
    have h1 := h i ((List.range r.length).map fun b => cellV w r most i b) (vs.getD i 0) (by simp [tabV, hi]) (by simp [List.getD, hl, hi])
    rw [inB_iff] at h1
    exact h1 j l (vs.getD j 0) (by simp [hj, e]) (by simp [List.getD, hl, hj])
  · intro h i row v e1 e2
    have hi : i < r.length := by
      have := (List.getElem?_eq_some_iff.mp e2).1
      omega
    have er : row = (List.range r.length).map fun b => cellV w r most i b := by
      simp [tabV, hi] at e1
      exact e1.symm
    rw [inB_iff]
    intro j l o e3 e4
    have hj : j < r.length := by
      have := (List.getElem?_eq_some_iff.mp e4).1
      omega
    have := h i j l hi hj (by rw [er] at e3; simpa [hj] using e3)
    have g1 : vs.getD i 0 = v := by simp [List.getD, e2]
    have g2 : vs.getD j 0 = o := by simp [List.getD, e4]
    rw [g1, g2] at this
    exact this
section
variable {w r : List Str}
theorem pos_lt {x : Str} (h : x ∈ w) : pos w x < w.length := List.idxOf_lt_length_of_mem h
theorem pos_inj {x y : Str} (hx : x ∈ w) (hy : y ∈ w) (h : pos w x = pos w y) : x = y := by
  have h1 := List.getElem_idxOf (pos_lt hx)
  have h2 := List.getElem_idxOf (pos_lt hy)
  unfold pos at h
  have z : w[w.idxOf x]'(pos_lt hx) = w[w.idxOf y]'(pos_lt hy) := by
    have a : ∀ (i j : Nat) (hi : i < w.length) (hj : j < w.length), i = j → w[i] = w[j] := fun i j hi hj e => by subst e; rfl
    exact a _ _ _ _ h
  rw [h1, h2] at z
  exact z
theorem rank_ne (hr : r.Nodup) (hm : ∀ x ∈ r, x ∈ w) {i j : Nat} (hi : i < r.length) (hj : j < r.length) (h : i ≠ j) : pos w (r.getD i "") ≠ pos w (r.getD j "") := by
  have e1 : r.getD i "" = r[i] := by simp [List.getD, hi]
  have e2 : r.getD j "" = r[j] := by simp [List.getD, hj]
  rw [e1, e2]
  intro e
  have := pos_inj (hm _ (List.getElem_mem hi)) (hm _ (List.getElem_mem hj)) e
  have pw := List.pairwise_iff_getElem.mp hr
  rcases Nat.lt_or_gt_of_ne h with c | c
  · exact pw i j hi hj c this
  · exact pw j i hj hi c this.symm
theorem cell_lt {most : Option Int} {i j : Nat} (h : i < j) : cellV w r most i j = some (if pos w (r.getD i "") < pos w (r.getD j "") then 1 else 0) := by
  simp only [cellV, gexV, show ¬ i = j by omega, if_false, h, if_true]
theorem cell_gtN {i j : Nat} (h : j < i) : cellV w r none i j = none := by
  simp only [cellV, gexV, show ¬ i = j by omega, if_false, show ¬ i < j by omega]
theorem cell_gtS {m : Int} {i j : Nat} (h : j < i) : cellV w r (some m) i j = some (if pos w (r.getD j "") = 0 then m else m + 1) := by
  simp only [cellV, gexV, show ¬ i = j by omega, if_false, show ¬ i < j by omega]
theorem cell_eq {most : Option Int} {i : Nat} : cellV w r most i i = some 0 := by simp [cellV]
end
theorem cOk_iff {c : Option Int} {d : Int} : cOk c d = true ↔ ∀ l, c = some l → d ≤ l := by
  cases c with
  | none => simp [cOk]
  | some l => simp [cOk]
theorem within_pairs {w r : List Str} {vs : List Int} {most : Option Int} (hl : vs.length = r.length) : withinB vs (tabV w r most) vs = true ↔ pairsOk (cellV w r most) r.length fun i => vs.getD i 0 := by
  rw [within_iff hl]
  unfold pairsOk
  constructor
  · intro h i j hi hj
    exact cOk_iff.mpr fun l e => h i j l hi hj e
  · intro h i j l hi hj e
    exact cOk_iff.mp (h i j hi hj) l e
theorem getD_map {f : Int → Int} {vs : List Int} {i : Nat} (h : i < vs.length) : (vs.map f).getD i 0 = f (vs.getD i 0) := by
  simp [List.getD, h]
theorem within_shift {w r : List Str} {vs : List Int} {low : Int} {most : Option Int} (hl : vs.length = r.length) : withinB (vs.map fun v => low + v) (tabV w r most) (vs.map fun v => low + v) = true ↔ pairsOk (cellV w r most) r.length fun i => vs.getD i 0 := by
  rw [within_pairs (by simpa using hl)]
  unfold pairsOk
  constructor
  · intro h i j hi hj
    have := h i j hi hj
    dsimp only at this ⊢
    rw [getD_map (by omega), getD_map (by omega)] at this
    rw [show vs.getD i 0 - vs.getD j 0 = low + vs.getD i 0 - (low + vs.getD j 0) by omega]
    exact this
  · intro h i j hi hj
    dsimp only
    rw [getD_map (by omega), getD_map (by omega)]
    rw [show low + vs.getD i 0 - (low + vs.getD j 0) = vs.getD i 0 - vs.getD j 0 by omega]
    exact h i j hi hj
/-- bounds as they are without a limit: upper triangular, 0 or 1 -/
def upC (c : Nat → Nat → Option Int) : Prop := (∀ i j, i < j → c i j = some 0 ∨ c i j = some 1) ∧ (∀ i, c i i = some 0) ∧ ∀ i j, j < i → c i j = none
theorem upC_cell {w r : List Str} : upC (cellV w r none) := by
  refine ⟨fun i j h => ?_, fun i => by simp [cellV], fun i j h => by simp only [cellV, gexV, show ¬ i = j by omega, if_false, show ¬ i < j by omega]⟩
  simp only [cellV, gexV, show ¬ i = j by omega, if_false, h, if_true]
  split
  · exact .inr rfl
  · exact .inl rfl
theorem pairs_up {c : Nat → Nat → Option Int} (hc : upC c) {n : Nat} {u : Nat → Int} : pairsOk c n u ↔ ∀ i j, i < j → j < n → (c i j = some 0 ∧ u i ≤ u j) ∨ (c i j = some 1 ∧ u i ≤ u j + 1) := by
  constructor
  · intro h i j hij hj
    have := h i j (by omega) hj
    rcases hc.1 i j hij with e | e
    · rw [e] at this
      simp only [cOk, decide_eq_true_eq] at this
      exact .inl ⟨e, by omega⟩
    · rw [e] at this
      simp only [cOk, decide_eq_true_eq] at this
      exact .inr ⟨e, by omega⟩
  · intro h i j hi hj
    rcases Nat.lt_trichotomy i j with a | a | a
    · rcases h i j a hj with ⟨e, q⟩ | ⟨e, q⟩
      · rw [e]; simp only [cOk, decide_eq_true_eq]; omega
      · rw [e]; simp only [cOk, decide_eq_true_eq]; omega
    · subst a; rw [hc.2.1]; simp [cOk]
    · rw [hc.2.2 i j a]; rfl

/-! ### stretches -/
def stV (w : List Str) (x : Str) (v : Int) : Int × Int := (if v = 0 then 0 else (v - 1) * (w.length : Nat) + (pos w x : Nat) + 1, v * (w.length : Nat) + (pos w x : Nat))
def prT (p : Int × Int) : T := .tup [.int p.1, .int p.2]
def stsV (w : List Str) : List Str → List Int → List (Int × Int)
  | x :: r, v :: vs => stV w x v :: stsV w r vs
  | _, _ => []
def grV : Int → List (Int × Int) → Option Int
  | h, [] => some h
  | h, p :: t => if (if p.1 > h then p.1 else h) > p.2 then none else grV (if p.1 > h then p.1 else h) t
def bgV (n p : Int) : Int := (p + n - 1) / n
def posV (w r : List Str) (vs : List Int) (most : Option Int) : Bool :=
  match grV 0 (stsV w r vs), ((stsV w r vs).map (·.2)).min? with
  | some h, some last => (match most with | none => true | some m => decide (bgV (w.length : Nat) (if last > h then last else h) - bgV (w.length : Nat) last ≤ m))
  | _, _ => false
theorem stsV_len {w : List Str} : ∀ {r : List Str} {vs : List Int}, vs.length = r.length → (stsV w r vs).length = r.length
  | [], _, h => by cases ‹List Int› <;> simp [stsV]
  | x :: r, [], h => by simp at h
  | x :: r, v :: vs, h => by simp [stsV, stsV_len (r := r) (vs := vs) (by simpa using h)]

theorem stretch_is {w : List Str} {x : Str} {v : Int} {hp : IH} (hx : x ∈ w) (h0 : 0 ≤ v) (h1 : v < 2 ^ 62) (hn : w.length < 100000) : F_w_stretch [.t (.lst (w.map T.str)), .t (.str x), .t (.int v)] hp = .ok (.t (prT (stV w x v))) hp := by
  have i := index_is (hp := []) hx
  have m1 : cMul (v - 1) (w.length : Nat) = true := cMul_ok (by omega) (by omega)
  have m2 : cMul v (w.length : Nat) = true := cMul_ok (by omega) (by omega)
  simp only [F_w_stretch, fnP, B_w_stretch]
  by_cases hv : v = 0
  · subst hv
    simp [i, m2, stV, prT]
  · simp [i, m1, m2, hv, stV, prT]
theorem begun_is {p n : Int} {hp : IH} (h : 0 < n) (h2 : n < 2 ^ 64) : F_w_begun [.t (.int p), .t (.int n)] hp = .ok (.t (.int ((p + n - 1) / n))) hp := by
  simp [F_w_begun, fnP, B_w_begun, cDiv_ok h h2]
theorem stretch_comp {w : List Str} {w1 w2 w3 : W} {hp : IH} (hn : w.length < 100000) : ∀ (r : List Str) (vs : List Int), (∀ x ∈ r, x ∈ w) → (∀ v ∈ vs, 0 ≤ v ∧ v < 2 ^ 62) →
    compL (gT 2 (gsC (gN 9) (gsC (gN 10) gsN))) mYes f_w_possible_c2 [some (.t (.lst (w.map T.str))), some w1, some w2, some w3, none, none, none, none, none, none, none] (zipT (r.map T.str) (vs.map T.int)) hp = .ok ((stsV w r vs).map fun p => .t (prT p)) hp
  | [], vs, _, _ => by simp [zipT, stsV]
  | x :: r, [], _, _ => by simp [zipT, stsV]
  | x :: r, v :: vs, hr, hv => by
    have ih := stretch_comp (w1 := w1) (w2 := w2) (w3 := w3) (hp := hp) hn r vs (fun y hy => hr y (List.mem_cons_of_mem _ hy)) fun y hy => hv y (List.mem_cons_of_mem _ hy)
    have s := stretch_is (hp := hp) (hr x (List.mem_cons_self ..)) (hv v (List.mem_cons_self ..)).1 (hv v (List.mem_cons_self ..)).2 hn
    simp only [List.map_cons, zipT, compL, turnL, p_gTp, List.length_cons, List.length_nil, if_true, List.map_nil, p_gsC, p_gN, Option.bind_some, p_gsN, List.set_cons_succ, List.set_cons_zero, p_yes, bind_ok, f_w_possible_c2, p_call, p_cons, p_var, p_nil, List.getElem?_cons_succ, List.getElem?_cons_zero, List.append_nil, s, noEr_ok]
    have ih' : compL (gT 2 (gsC (gN 9) (gsC (gN 10) gsN))) mYes (mCall F_w_stretch [] (mCons (mVar 0) (mCons (mVar 9) (mCons (mVar 10) (mNil))))) [some (.t (.lst (w.map T.str))), some w1, some w2, some w3, none, none, none, none, none, none, none] (zipT (r.map T.str) (vs.map T.int)) hp = .ok ((stsV w r vs).map fun p => .t (prT p)) hp := ih
    simp only [ih', bind_ok, stsV, List.map_cons]
theorem end_comp {eta : IS} {hp : IH} (hl : eta.length = 11) : ∀ (ps : List (Int × Int)), compL (gT 2 (gsC (gN 7) (gsC (gN 8) gsN))) mYes f_w_possible_c1 eta (ps.map fun p => .t (prT p)) hp = .ok (ps.map fun p => .t (.int p.2)) hp
  | [] => rfl
  | p :: ps => by
    have ih := end_comp (eta := eta) (hp := hp) hl ps
    have h8 : ((eta.set 7 (some (.t (.int p.1)))).set 8 (some (.t (.int p.2))))[8]? = some (some (.t (.int p.2))) := by rw [List.getElem?_set_self (by simp [hl])]
    simp [compL, turnL, prT, f_w_possible_c1, h8]
    simp only [f_w_possible_c1, prT] at ih
    rw [ih]
    rfl
theorem gr_loop {w0 w1 w2 w3 w4 w6 : W} {c9 c10 : Option W} {hp : IH} : ∀ (ps : List (Int × Int)) (h : Int) (c7 c8 : Option W), ∃ c7' c8', forL (gT 2 (gsC (gN 7) (gsC (gN 8) gsN))) f_w_possible_l1 (ps.map fun p => .t (prT p)) [some w0, some w1, some w2, some w3, some w4, some (.t (.int h)), some w6, c7, c8, c9, c10] hp =
    match grV h ps with
    | some h' => .ok (.nx [some w0, some w1, some w2, some w3, some w4, some (.t (.int h')), some w6, c7', c8', c9, c10]) hp
    | none => .ok (.rt (.t (.bl false))) hp
  | [], h, c7, c8 => ⟨c7, c8, rfl⟩
  | p :: ps, h, c7, c8 => by
    obtain ⟨c7', c8', q⟩ := gr_loop (w0 := w0) (w1 := w1) (w2 := w2) (w3 := w3) (w4 := w4) (w6 := w6) (c9 := c9) (c10 := c10) (hp := hp) ps (if p.1 > h then p.1 else h) (some (.t (.int p.1))) (some (.t (.int p.2)))
    refine ⟨c7', c8', ?_⟩
    by_cases hh : (if p.1 > h then p.1 else h) > p.2
    · have e : grV h (p :: ps) = none := by simp only [grV, hh, if_true]
      have body : f_w_possible_l1 [some w0, some w1, some w2, some w3, some w4, some (.t (.int h)), some w6, some (.t (.int p.1)), some (.t (.int p.2)), c9, c10] hp = .ok (.rt (.t (.bl false))) hp := by
        have hd : decide (p.2 < (if h < p.1 then p.1 else h)) = true := decide_eq_true hh
        simp [f_w_possible_l1, hd]
      rw [e]
      simp only [List.map_cons, forL, prT, p_gTt, List.length_cons, List.length_nil, if_true, List.map_nil, p_gsC, p_gN, Option.bind_some, p_gsN, List.set_cons_succ, List.set_cons_zero, body, bind_ok]
    · have e : grV h (p :: ps) = grV (if p.1 > h then p.1 else h) ps := by simp only [grV, hh, if_false]
      have body : f_w_possible_l1 [some w0, some w1, some w2, some w3, some w4, some (.t (.int h)), some w6, some (.t (.int p.1)), some (.t (.int p.2)), c9, c10] hp = .ok (.nx [some w0, some w1, some w2, some w3, some w4, some (.t (.int (if p.1 > h then p.1 else h))), some w6, some (.t (.int p.1)), some (.t (.int p.2)), c9, c10]) hp := by
        have hd : decide (p.2 < (if h < p.1 then p.1 else h)) = false := decide_eq_false hh
        simp [f_w_possible_l1, hd]
      rw [e]
      simp only [List.map_cons, forL, prT, p_gTt, List.length_cons, List.length_nil, if_true, List.map_nil, p_gsC, p_gN, Option.bind_some, p_gsN, List.set_cons_succ, List.set_cons_zero, body, bind_ok]
      exact q
theorem zipT_len' (ts us : List T) (h : us.length = ts.length) : (zipT ts us).length = ts.length := by rw [zipT_length]; omega
theorem possible_is {w r : List Str} {vs : List Int} {bv : Bool} {most : Option Int} {hp : IH} (hr : ∀ x ∈ r, x ∈ w) (hv : ∀ v ∈ vs, 0 ≤ v ∧ v < 2 ^ 62) (hn : w.length < 100000) (h0 : 0 < w.length) (hl : vs.length = r.length) (hr0 : 0 < r.length) (hrn : r.length < 100000) :
    F_w_possible [.t (.lst (w.map T.str)), .t (.lst (r.map T.str)), .t (sqT bv (vs.map T.int)), .t (oT most)] hp = .ok (.t (.bl (posV w r vs most))) hp := by
  have c2 := stretch_comp (w := w) (w1 := .t (.lst (r.map T.str))) (w2 := .t (sqT bv (vs.map T.int))) (w3 := .t (oT most)) (hp := []) hn r vs hr hv
  have ls := stsV_len (w := w) hl
  have em : (stsV w r vs).map (fun p => W.t (prT p)) = ((stsV w r vs).map prT).map W.t := by simp
  have ee : (stsV w r vs).map (fun p => W.t (.int p.2)) = (((stsV w r vs).map (·.2)).map T.int).map W.t := by simp
  obtain ⟨last, hm⟩ : ∃ m, ((stsV w r vs).map (·.2)).min? = some m := by
    cases q : ((stsV w r vs).map (·.2)).min? with
    | some m => exact ⟨m, rfl⟩
    | none =>
      rw [List.min?_eq_none_iff, List.map_eq_nil_iff] at q
      rw [q] at ls
      simp at ls
      omega
  have c1 := end_comp (eta := [some (.t (.lst (w.map T.str))), some (.t (.lst (r.map T.str))), some (.t (sqT bv (vs.map T.int))), some (.t (oT most)), some (.t (.lst ((stsV w r vs).map prT))), none, none, none, none, none, none]) (hp := []) rfl (stsV w r vs)
  obtain ⟨c7, c8, q⟩ := gr_loop (w0 := .t (.lst (w.map T.str))) (w1 := .t (.lst (r.map T.str))) (w2 := .t (sqT bv (vs.map T.int))) (w3 := .t (oT most)) (w4 := .t (.lst ((stsV w r vs).map prT))) (w6 := .t (.int last)) (c9 := none) (c10 := none) (hp := []) (stsV w r vs) 0 none none
  have k1 : (zipT (r.map T.str) (vs.map T.int)).length ≤ 16777216 := by rw [zipT_len' _ _ (by simpa using hl)]; simp; omega
  have k2 : (stsV w r vs).length ≤ 16777216 := by omega
  have mn : oMinL [.t (.lst (((stsV w r vs).map (·.2)).map T.int))] [] = .ok (.t (.int last)) [] := by
    have a : allW asI ((((stsV w r vs).map (·.2)).map T.int).map W.t) = some ((stsV w r vs).map (·.2)) := by
      rw [List.map_map]
      exact allI_map
    simp only [oMinL, oOnL, litems_l, Option.bind_some, a, hm]
  have es : seqT (.t (sqT bv (vs.map T.int))) = some (vs.map T.int) := by cases bv <;> rfl
  have bg : ∀ p : Int, F_w_begun [.t (.int p), .t (.int w.length)] [] = .ok (.t (.int (bgV w.length p))) [] := fun p => begun_is (by omega) (by omega)
  rw [em] at c2 q
  rw [em, ee] at c1
  unfold posV
  rw [hm]
  simp only [F_w_possible, fnP, B_w_possible]
  cases hg : grV 0 (stsV w r vs) with
  | none =>
    rw [hg] at q
    simp [-List.map_map, wipeI, es, c2, k1, k2, c1, mn, q]
  | some h =>
    rw [hg] at q
    cases most with
    | none =>
      simp only [oT] at c2 q c1 ⊢
      simp [-List.map_map, wipeI, es, c2, k1, k2, c1, mn, q]
    | some m =>
      simp only [oT] at c2 q c1 ⊢
      simp [-List.map_map, wipeI, es, c2, k1, k2, c1, mn, q, bg]

theorem gr_some : ∀ (ps : List (Int × Int)) (h h' : Int), grV h ps = some h' → (∀ p ∈ ps, h ≤ p.2 ∧ p.1 ≤ p.2) ∧ ps.Pairwise (fun a b => a.1 ≤ b.2) ∧ h ≤ h' ∧ (∀ p ∈ ps, p.1 ≤ h') ∧ (h' = h ∨ ∃ p ∈ ps, h' = p.1)
  | [], h, h', e => by
    simp only [grV, Option.some.injEq] at e
    subst e
    exact ⟨by simp, .nil, by omega, by simp, .inl rfl⟩
  | p :: ps, h, h', e => by
    by_cases hh : (if p.1 > h then p.1 else h) > p.2
    · simp only [grV, hh, if_true] at e
      cases e
    · simp only [grV, hh, if_false] at e
      obtain ⟨a, b, c, d, f⟩ := gr_some ps _ _ e
      have m1 : p.1 ≤ (if p.1 > h then p.1 else h) := by split <;> omega
      have m2 : h ≤ (if p.1 > h then p.1 else h) := by split <;> omega
      refine ⟨fun q hq => ?_, List.pairwise_cons.mpr ⟨fun q hq => ?_, b⟩, by omega, fun q hq => ?_, ?_⟩
      · rcases List.mem_cons.mp hq with hq | hq
        · subst hq; omega
        · have := a q hq; omega
      · have := a q hq; omega
      · rcases List.mem_cons.mp hq with hq | hq
        · subst hq; omega
        · exact d q hq
      · rcases f with f | ⟨q, hq, f⟩
        · by_cases hp : p.1 > h
          · rw [if_pos hp] at f
            exact .inr ⟨p, List.mem_cons_self .., f⟩
          · rw [if_neg hp] at f
            exact .inl f
        · exact .inr ⟨q, List.mem_cons_of_mem _ hq, f⟩
theorem gr_is : ∀ (ps : List (Int × Int)) (h : Int), (∀ p ∈ ps, h ≤ p.2 ∧ p.1 ≤ p.2) → ps.Pairwise (fun a b => a.1 ≤ b.2) → ∃ h', grV h ps = some h'
  | [], h, _, _ => ⟨h, rfl⟩
  | p :: ps, h, a, b => by
    have hp := a p (List.mem_cons_self ..)
    rw [List.pairwise_cons] at b
    have hh : ¬ (if p.1 > h then p.1 else h) > p.2 := by split <;> omega
    obtain ⟨h', e⟩ := gr_is ps (if p.1 > h then p.1 else h) (fun q hq => by
      have := a q (List.mem_cons_of_mem _ hq)
      have := b.1 q hq
      split <;> omega) b.2
    exact ⟨h', by simp only [grV, hh, if_false, e]⟩
theorem stsV_get {w : List Str} : ∀ (r : List Str) (vs : List Int) (i : Nat) (hi : i < r.length) (hl : vs.length = r.length), (stsV w r vs)[i]? = some (stV w (r.getD i "") (vs.getD i 0))
  | x :: r, v :: vs, 0, _, _ => by simp [stsV]
  | x :: r, v :: vs, i + 1, hi, hl => by
    have := stsV_get (w := w) r vs i (by simpa using hi) (by simpa using hl)
    simpa [stsV] using this
  | x :: r, [], _, _, hl => by simp at hl
theorem bg_le {n p k : Int} (h : 0 < n) : bgV n p ≤ k ↔ p ≤ k * n := by
  unfold bgV
  constructor
  · intro q
    have := Int.lt_ediv_add_one_mul_self (p + n - 1) h
    have h2 : ((p + n - 1) / n + 1) * n ≤ (k + 1) * n := Int.mul_le_mul_of_nonneg_right (by omega) (by omega)
    rw [Int.add_mul, Int.one_mul] at h2
    rw [Int.add_mul, Int.one_mul] at h2
    rw [Int.add_mul, Int.one_mul] at this
    omega
  · intro q
    have : (p + n - 1) / n < k + 1 := by
      rw [Int.ediv_lt_iff_lt_mul h, Int.add_mul, Int.one_mul]
      omega
    omega

theorem first_le {n a b p q : Int} (hn : 0 < n) (ha : 0 ≤ a) (hb : 0 ≤ b) (hp : 0 ≤ p ∧ p < n) (hq : 0 ≤ q ∧ q < n) (hne : p ≠ q) :
    (if a = 0 then 0 else (a - 1) * n + p + 1) ≤ b * n + q ↔ a - b ≤ (if p < q then 1 else 0) := by
  have hbn : 0 ≤ b * n := Int.mul_nonneg hb (by omega)
  by_cases h0 : a = 0
  · rw [if_pos h0]
    constructor
    · intro _; split <;> omega
    · intro _; omega
  · rw [if_neg h0]
    have e : (a - 1) * n = (a - 1 - b) * n + b * n := by rw [← Int.add_mul]; congr 1; omega
    rw [e]
    generalize hd : a - 1 - b = d
    rcases Int.lt_trichotomy d 0 with h | h | h
    · have : d * n ≤ (-1) * n := Int.mul_le_mul_of_nonneg_right (by omega) (by omega)
      constructor
      · intro _; split <;> omega
      · intro _; omega
    · subst h
      rw [Int.zero_mul]
      constructor
      · intro h; rw [if_pos (by omega)]; omega
      · intro h
        by_cases hpq : p < q
        · omega
        · rw [if_neg hpq] at h; omega
    · have : 1 * n ≤ d * n := Int.mul_le_mul_of_nonneg_right (by omega) (by omega)
      constructor
      · intro _; omega
      · intro h; exfalso; split at h <;> omega
theorem bg_end {n b q : Int} (hn : 0 < n) (hq : 0 ≤ q ∧ q < n) : bgV n (b * n + q) = if q = 0 then b else b + 1 := by
  have h1 : bgV n (b * n + q) ≤ (if q = 0 then b else b + 1) := by
    rw [bg_le hn]
    split
    · omega
    · rw [Int.add_mul]; omega
  have h2 : ¬ bgV n (b * n + q) ≤ (if q = 0 then b else b + 1) - 1 := by
    rw [bg_le hn, Int.sub_mul]
    split
    · omega
    · rw [Int.add_mul]; omega
  omega
section
variable {w r : List Str} {vs : List Int}
theorem pos_within {most : Option Int} (hw : w.Nodup) (hp : r.Perm w) (hl : vs.length = r.length) (h0 : 0 < r.length) (hv : ∀ v ∈ vs, 0 ≤ v) (hm : ∀ m, most = some m → 0 ≤ m) : posV w r vs most = withinB vs (tabV w r most) vs := by
  have hmem : ∀ x ∈ r, x ∈ w := fun x hx => hp.mem_iff.mp hx
  have hnr : r.Nodup := hp.nodup_iff.mpr hw
  have hln : r.length = w.length := hp.length_eq
  have hn : (0 : Int) < (w.length : Nat) := by omega
  have ls := stsV_len (w := w) hl
  have V0 : ∀ i, i < r.length → 0 ≤ vs.getD i 0 := fun i hi => by
    have e : vs.getD i 0 = vs[i]'(by omega) := by simp [List.getD, hl, hi]
    rw [e]; exact hv _ (List.getElem_mem _)
  have P0 : ∀ i, i < r.length → (0 : Int) ≤ (pos w (r.getD i "") : Nat) ∧ ((pos w (r.getD i "") : Nat) : Int) < (w.length : Nat) := fun i hi => by
    have e : r.getD i "" = r[i] := by simp [List.getD, hi]
    have := pos_lt (hmem _ (List.getElem_mem hi))
    rw [e]; omega
  have Pne : ∀ i j, i < r.length → j < r.length → i ≠ j → ((pos w (r.getD i "") : Nat) : Int) ≠ (pos w (r.getD j "") : Nat) := fun i j hi hj h => by
    have := rank_ne (w := w) hnr hmem hi hj h
    omega
  have get : ∀ i, i < r.length → (stsV w r vs)[i]? = some (stV w (r.getD i "") (vs.getD i 0)) := fun i hi => stsV_get r vs i hi hl
  have mem : ∀ p ∈ stsV w r vs, ∃ i, i < r.length ∧ p = stV w (r.getD i "") (vs.getD i 0) := fun p hpp => by
    obtain ⟨i, hi, e⟩ := List.getElem_of_mem hpp
    have hi' : i < r.length := by omega
    refine ⟨i, hi', ?_⟩
    have := get i hi'
    rw [List.getElem?_eq_getElem hi] at this
    rw [← e]; exact Option.some.inj this
  have low : ∀ p ∈ stsV w r vs, 0 ≤ p.2 ∧ p.1 ≤ p.2 := fun p hpp => by
    obtain ⟨i, hi, e⟩ := mem p hpp
    subst e
    have v0 := V0 i hi
    have p0 := P0 i hi
    have hbn : 0 ≤ vs.getD i 0 * (w.length : Nat) := Int.mul_nonneg v0 (by omega)
    simp only [stV]
    refine ⟨by omega, ?_⟩
    split
    · omega
    · rw [Int.sub_mul]; omega
  have pw : (stsV w r vs).Pairwise (fun a b => a.1 ≤ b.2) ↔ ∀ i j, i < j → j < r.length → vs.getD i 0 - vs.getD j 0 ≤ (if ((pos w (r.getD i "") : Nat) : Int) < (pos w (r.getD j "") : Nat) then 1 else 0) := by
    rw [List.pairwise_iff_getElem]
    constructor
    · intro h i j hij hj
      have hi : i < r.length := by omega
      have q := h i j (by omega) (by omega) hij
      have e1 := get i hi
      have e2 := get j hj
      rw [List.getElem?_eq_getElem (by omega)] at e1 e2
      rw [Option.some.inj e1, Option.some.inj e2] at q
      exact (first_le hn (V0 i hi) (V0 j hj) (P0 i hi) (P0 j hj) (Pne i j hi hj (by omega))).mp q
    · intro h i j hi' hj' hij
      have hi : i < r.length := by omega
      have hj : j < r.length := by omega
      have e1 := get i hi
      have e2 := get j hj
      rw [List.getElem?_eq_getElem (by omega)] at e1 e2
      rw [Option.some.inj e1, Option.some.inj e2]
      exact (first_le hn (V0 i hi) (V0 j hj) (P0 i hi) (P0 j hj) (Pne i j hi hj (by omega))).mpr (h i j hij hj)
  have lastE : ∃ last, ((stsV w r vs).map (·.2)).min? = some last := by
    cases q : ((stsV w r vs).map (·.2)).min? with
    | some m => exact ⟨m, rfl⟩
    | none =>
      rw [List.min?_eq_none_iff, List.map_eq_nil_iff] at q
      rw [q] at ls
      simp at ls
      omega
  obtain ⟨last, hlast⟩ := lastE
  have hl2 := List.min?_eq_some_iff.mp hlast
  have cl : ∀ i j, i < j → cellV w r most i j = some (if ((pos w (r.getD i "") : Nat) : Int) < (pos w (r.getD j "") : Nat) then 1 else 0) := fun i j h => by
    have e : ((pos w (r.getD i "") : Nat) : Int) < (pos w (r.getD j "") : Nat) ↔ pos w (r.getD i "") < pos w (r.getD j "") := by omega
    simp only [cellV, gexV, show ¬ i = j by omega, if_false, h, if_true, e]
  rw [Bool.eq_iff_iff, within_iff hl]
  unfold posV
  rw [hlast]
  cases hg : grV 0 (stsV w r vs) with
  | none =>
    simp only [Bool.false_eq_true, false_iff]
    intro h
    obtain ⟨h', e⟩ := gr_is (stsV w r vs) 0 low (pw.mpr fun i j hij hj => h i j _ (by omega) hj (cl i j hij))
    rw [hg] at e
    cases e
  | some hh =>
    obtain ⟨_, q2, q3, q4, q5⟩ := gr_some _ _ _ hg
    have up := pw.mp q2
    cases most with
    | none =>
      simp only [true_iff]
      intro i j l hi hj e
      rcases Nat.lt_trichotomy i j with c | c | c
      · rw [cl i j c] at e
        cases e
        exact up i j c hj
      · subst c
        simp [cellV] at e
        omega
      · simp [cellV, gexV, show ¬ i = j by omega, show ¬ i < j by omega] at e
    | some m =>
      have m0 := hm m rfl
      simp only [decide_eq_true_eq]
      have endE : ∀ j, j < r.length → bgV (w.length : Nat) (vs.getD j 0 * (w.length : Nat) + (pos w (r.getD j "") : Nat)) = if ((pos w (r.getD j "") : Nat) : Int) = 0 then vs.getD j 0 else vs.getD j 0 + 1 := fun j hj => bg_end hn (P0 j hj)
      have lastLe : ∀ j, j < r.length → last ≤ vs.getD j 0 * (w.length : Nat) + (pos w (r.getD j "") : Nat) := fun j hj => by
        refine hl2.2 _ (List.mem_map.mpr ⟨stV w (r.getD j "") (vs.getD j 0), List.mem_of_getElem? (get j hj), rfl⟩)
      obtain ⟨j0, hj0, ej0⟩ : ∃ j, j < r.length ∧ last = vs.getD j 0 * (w.length : Nat) + (pos w (r.getD j "") : Nat) := by
        obtain ⟨p, hp1, hp2⟩ := List.mem_map.mp hl2.1
        obtain ⟨j, hj, e⟩ := mem p hp1
        exact ⟨j, hj, by rw [← hp2, e]; rfl⟩
      have bmono : ∀ j, j < r.length → bgV (w.length : Nat) last ≤ bgV (w.length : Nat) (vs.getD j 0 * (w.length : Nat) + (pos w (r.getD j "") : Nat)) := fun j hj => by
        rw [bg_le hn]
        exact Int.le_trans (lastLe j hj) ((bg_le hn).mp (Int.le_refl _))
      have key : bgV (w.length : Nat) (if last > hh then last else hh) - bgV (w.length : Nat) last ≤ m ↔ hh ≤ (m + bgV (w.length : Nat) last) * (w.length : Nat) := by
        have a1 : bgV (w.length : Nat) (if last > hh then last else hh) - bgV (w.length : Nat) last ≤ m ↔ bgV (w.length : Nat) (if last > hh then last else hh) ≤ m + bgV (w.length : Nat) last := by omega
        rw [a1, bg_le hn]
        have a2 : last ≤ bgV (w.length : Nat) last * (w.length : Nat) := (bg_le hn).mp (Int.le_refl _)
        have a3 : bgV (w.length : Nat) last * (w.length : Nat) ≤ (m + bgV (w.length : Nat) last) * (w.length : Nat) := Int.mul_le_mul_of_nonneg_right (by omega) (by omega)
        constructor
        · intro z; split at z <;> omega
        · intro z; split <;> omega
      rw [key]
      constructor
      · intro hk i j l hi hj e
        rcases Nat.lt_trichotomy i j with c | c | c
        · rw [cl i j c] at e
          cases e
          exact up i j c hj
        · subst c
          simp [cellV] at e
          omega
        · have el : l = if ((pos w (r.getD j "") : Nat) : Int) = 0 then m else m + 1 := by
            have e0 : ((pos w (r.getD j "") : Nat) : Int) = 0 ↔ pos w (r.getD j "") = 0 := by omega
            simp only [cellV, gexV, show ¬ i = j by omega, if_false, show ¬ i < j by omega, Option.some.injEq] at e
            simp only [e0]
            exact e.symm
          have f1 := q4 _ (List.mem_of_getElem? (get i hi))
          have b1 := bmono j hj
          rw [endE j hj] at b1
          have v0 := V0 i hi
          have p0 := P0 i hi
          have vj := V0 j hj
          by_cases hv0 : vs.getD i 0 = 0
          · rw [el]; split <;> omega
          · simp only [stV, hv0, if_false] at f1
            have g1 : (m + bgV (w.length : Nat) last) * (w.length : Nat) ≤ (m + (if ((pos w (r.getD j "") : Nat) : Int) = 0 then vs.getD j 0 else vs.getD j 0 + 1)) * (w.length : Nat) := Int.mul_le_mul_of_nonneg_right (by omega) (by omega)
            have g2 : (vs.getD i 0 - 1) * (w.length : Nat) < (m + (if ((pos w (r.getD j "") : Nat) : Int) = 0 then vs.getD j 0 else vs.getD j 0 + 1)) * (w.length : Nat) := by omega
            have g3 := Int.lt_of_mul_lt_mul_right g2 (by omega)
            rw [el]
            split at g3 <;> rename_i hz <;> simp only [hz, if_true, if_false] <;> omega
      · intro hk
        rcases q5 with q5 | ⟨p, hpp, q5⟩
        · rw [q5]
          have b0 : 0 ≤ bgV (w.length : Nat) last := by
            rw [ej0, endE j0 hj0]
            have := V0 j0 hj0
            split <;> omega
          exact Int.mul_nonneg (by omega) (by omega)
        · obtain ⟨i, hi, e⟩ := mem p hpp
          have vi : vs.getD i 0 ≤ m + bgV (w.length : Nat) last := by
            rw [ej0, endE j0 hj0]
            have vi0 := V0 i hi
            have vj0 := V0 j0 hj0
            have pj := P0 j0 hj0
            have pi := P0 i hi
            rcases Nat.lt_trichotomy i j0 with c | c | c
            · have := hk i j0 _ hi hj0 (cl i j0 c)
              by_cases h1 : ((pos w (r.getD i "") : Nat) : Int) < (pos w (r.getD j0 "") : Nat)
              · rw [if_pos h1] at this
                rw [if_neg (by omega)]
                omega
              · rw [if_neg h1] at this
                split <;> omega
            · subst c
              split <;> omega
            · have := hk i j0 (if pos w (r.getD j0 "") = 0 then m else m + 1) hi hj0 (by simp only [cellV, gexV, show ¬ i = j0 by omega, if_false, show ¬ i < j0 by omega])
              have e0 : ((pos w (r.getD j0 "") : Nat) : Int) = 0 ↔ pos w (r.getD j0 "") = 0 := by omega
              simp only [e0]
              split at this <;> rename_i hz <;> simp only [hz, if_true, if_false] <;> omega
          have v0 := V0 i hi
          have p0 := P0 i hi
          have f1 : p.1 ≤ vs.getD i 0 * (w.length : Nat) := by
            rw [e]
            simp only [stV]
            split
            · exact Int.mul_nonneg v0 (by omega)
            · rw [Int.sub_mul]; omega
          have := Int.mul_le_mul_of_nonneg_right vi (show (0 : Int) ≤ (w.length : Nat) by omega)
          omega
end

abbrev five : List Str := ["a", "b", "d", "p", "qq"]
theorem orders_is {i j : Nat} {hp : IH} {m : Int} (d : Deal i j hp) (hm : 0 < m ∧ m ≤ 5) : ∃ (w r : List Str) (hp' : IH), F_w_orders [.r i, .t (.int m)] hp = .ok (.t (.tup [.lst (w.map T.str), .lst (r.map T.str)])) hp' ∧ w.Nodup ∧ r.Perm w ∧ 0 < w.length ∧ w.length ≤ m ∧ Deal i j hp' ∧ Ext i j hp hp' := by
  obtain ⟨zs, h1, p1, e1, d1, x1⟩ := mixed_is (ts := five.map T.str) d (by simp) fitL_strs
  obtain ⟨l, pl, el⟩ := perm_strs p1
  subst el
  obtain ⟨n, h2, e2, n0, n1, d2, l2, k2⟩ := draw_is (wide := m) d1 hm.1 (by omega)
  have x2 : Ext i j h1 h2 := ⟨by omega, fun k _ c1 c2 => k2 k c1 c2⟩
  have hll : l.length = 5 := pl.length_eq
  have hnd : l.Nodup := pl.nodup_iff.mpr (by decide)
  let t : List Str := l.take (n.toNat + 1)
  have tl : t.length = n.toNat + 1 := by simp only [t, List.length_take]; omega
  have tnd : t.Nodup := hnd.sublist (List.take_sublist _ _)
  have ec : cutL (l.map T.str) none (some (1 + n)) = t.map T.str := by
    have : 1 + n = ((n.toNat + 1 : Nat) : Int) := by omega
    rw [this, cutL_to, ← List.map_take]
  obtain ⟨z1, h3, p3, e3, d3, x3⟩ := mixed_is (ts := t.map T.str) d2 (by simp; omega) fitL_strs
  obtain ⟨w, pw, ew⟩ := perm_strs p3
  subst ew
  obtain ⟨z2, h4, p4, e4, d4, x4⟩ := mixed_is (ts := t.map T.str) d3 (by simp; omega) fitL_strs
  obtain ⟨r, pr, er⟩ := perm_strs p4
  subst er
  refine ⟨w, r, h4, ?_, pw.nodup_iff.mpr tnd, pr.trans pw.symm, by rw [pw.length_eq]; omega, by rw [pw.length_eq]; omega, d4, ((x1.trans x2).trans x3).trans x4⟩
  have e1' : F_w_mixed [.r i, .t (.lst [.str "a", .str "b", .str "d", .str "p", .str "qq"])] hp = .ok (.t (.lst (l.map T.str))) h1 := e1
  have sl : slW (.t (.lst (l.map T.str))) none (some (1 + n)) h2 = .ok (.t (.lst (t.map T.str))) h2 := by
    simp only [slW, ec]
  simp only [F_w_orders, fnM, B_w_orders]
  simp [-List.map_map, e1', e2, sl, e3, e4]
theorem rep_is {b : Int} {n : Nat} {hp : IH} (hn : n < 100000) : wMul (.t (.lst [.int b])) (.t (.int n)) hp = .ok (.t (.lst ((List.replicate n b).map T.int))) hp := by
  have c : -(2 ^ 63) ≤ (n : Int) ∧ (n : Int) < 2 ^ 63 ∧ [T.int b].length * (n : Int).toNat ≤ 16777216 := ⟨by omega, by omega, by simp only [List.length_cons, List.length_nil, Int.toNat_natCast]; omega⟩
  rw [wMul_li, if_pos c]
  congr 3
  unfold repT
  rw [Int.toNat_natCast, List.map_replicate]
  induction n with
  | zero => rfl
  | succ n ih => simp [List.replicate_succ, ih (by omega) ⟨by omega, by omega, by simp only [List.length_cons, List.length_nil, Int.toNat_natCast]; omega⟩]
theorem flat_within {w r : List Str} {b : Int} {most : Option Int} (hm : ∀ m, most = some m → 0 ≤ m) : withinB (List.replicate r.length b) (tabV w r most) (List.replicate r.length b) = true := by
  rw [within_iff (by simp)]
  intro i j l hi hj e
  have g1 : (List.replicate r.length b).getD i 0 = b := by simp [List.getD, hi]
  have g2 : (List.replicate r.length b).getD j 0 = b := by simp [List.getD, hj]
  rw [g1, g2]
  have : 0 ≤ l := by
    unfold cellV gexV at e
    split at e
    · cases e; omega
    · split at e
      · cases e; split <;> omega
      · cases most with
        | none => cases e
        | some m =>
          have := hm m rfl
          simp only [Option.some.injEq] at e
          subst e
          split <;> omega
  omega
/-! ### all rows -/
def rowsL (many : Nat) : Nat → List (List Int)
  | 0 => [[]]
  | n + 1 => (rowsL many n).flatMap fun row => (List.range many).map fun (k : Nat) => row ++ [(k : Int)]
theorem rowsL_mem {many : Nat} : ∀ {n : Nat} {row : List Int}, row ∈ rowsL many n ↔ row.length = n ∧ ∀ v ∈ row, 0 ≤ v ∧ v < many
  | 0, row => by
    simp only [rowsL, List.mem_singleton]
    constructor
    · intro h; subst h; simp
    · intro h; exact List.length_eq_zero_iff.mp h.1
  | n + 1, row => by
    simp only [rowsL, List.mem_flatMap, List.mem_map, List.mem_range]
    constructor
    · rintro ⟨r0, h0, k, hk, e⟩
      subst e
      obtain ⟨h1, h2⟩ := rowsL_mem.mp h0
      refine ⟨by simp [h1], fun v hv => ?_⟩
      rcases List.mem_append.mp hv with hv | hv
      · exact h2 v hv
      · simp at hv
        subst hv
        omega
    · rintro ⟨h1, h2⟩
      rcases List.eq_nil_or_concat row with e | ⟨ys, y, e⟩
      · subst e; simp at h1
      · rw [List.concat_eq_append] at e
        subst e
        have hy := h2 y (by simp)
        refine ⟨ys, rowsL_mem.mpr ⟨by simpa using h1, fun v hv => h2 v (List.mem_append_left _ hv)⟩, y.toNat, by omega, ?_⟩
        congr 2
        omega
theorem rowsL_len {many : Nat} : ∀ n : Nat, (rowsL many n).length = many ^ n
  | 0 => rfl
  | n + 1 => by
    have : ∀ l : List (List Int), (l.flatMap fun row => (List.range many).map fun (k : Nat) => row ++ [(k : Int)]).length = l.length * many := by
      intro l
      induction l with
      | nil => simp
      | cons x l ih => rw [List.flatMap_cons, List.length_append, ih]; simp [Nat.add_mul, Nat.add_comm]
    rw [rowsL, this, rowsL_len n, Nat.pow_succ]
theorem longer {row : List Int} {many : Nat} {w0 w2 w3 w4 : W} {c6 : Option W} {hp : IH} (hm : many < 1000) (hr : row.length < 1000) :
    mComp lstOf (mSrc rng1 (mCons (mVar 1) (mNil))) (gN 6) mYes f_w_rows_c1 [6] [some w0, some (.t (.int many)), some w2, some w3, some w4, some (.t (rT row)), c6] hp = .ok (.t (.lst (((List.range many).map fun (k : Nat) => row ++ [(k : Int)]).map rT))) hp := by
  refine comp_ok (ws := (List.range many).map natW) (src_ok (ws := [.t (.int many)]) rfl (rng_is (by omega))) (by simp; omega) (ys := (((List.range many).map fun (k : Nat) => row ++ [(k : Int)]).map rT).map W.t) (h2 := hp) ?_ ?_
  · rw [natW_map]
    have e : (((List.range many).map fun (k : Nat) => row ++ [(k : Int)]).map rT) = ((List.range many).map fun k => T.int (0 + (k : Nat))).map (fun t => match t with | .int k => T.tup (row.map T.int ++ [.int k]) | t => t) := by
      simp [rT, Function.comp_def]
    rw [e]
    refine comp_map fun t ht => ?_
    obtain ⟨k, hk, e⟩ := List.mem_map.mp ht
    subst e
    have hl : row.length + 1 ≤ 16777216 := by omega
    simp [wipeI, f_w_rows_c1, rT, hl]
  · have : many ≤ 16777216 := by omega
    simp [-List.map_map, this]
theorem rows_in {many : Nat} {w0 w2 w3 : W} (hm : many < 1000) {k : Nat} : ∀ (rows acc : List (List Int)) (c5 c6 : Option W) (hp : IH), (∀ r ∈ rows, r.length < 1000) → acc.length + rows.length * many < 1000000 → getL hp k = some ((acc.map rT).map W.t) →
    ∃ c5' c6', forL (gN 5) f_w_rows_l1 ((rows.map rT).map W.t) [some w0, some (.t (.int many)), some w2, some w3, some (.r k), c5, c6] hp =
      .ok (.nx [some w0, some (.t (.int many)), some w2, some w3, some (.r k), c5', c6']) (hp.set k (some (.lst (((acc ++ rows.flatMap fun row => (List.range many).map fun (k : Nat) => row ++ [(k : Int)]).map rT).map W.t)))) := by
  intro rows
  induction rows with
  | nil => exact fun acc c5 c6 hp _ _ h => ⟨c5, c6, by simp only [List.flatMap_nil, List.append_nil]; rw [set_same (getL_eq h)]; rfl⟩
  | cons row rows ih =>
    intro acc c5 c6 hp hr hz h
    have hk := getL_lt h
    let add := (List.range many).map fun (k : Nat) => row ++ [(k : Int)]
    have la : add.length = many := by simp [add]
    have hz' : acc.length + many + rows.length * many < 1000000 := by simp only [List.length_cons, Nat.add_mul, Nat.one_mul] at hz; omega
    obtain ⟨c5', c6', q⟩ := ih (acc ++ add) (some (.t (rT row))) c6 (hp.set k (some (.lst (((acc ++ add).map rT).map W.t)))) (fun r hr' => hr r (List.mem_cons_of_mem _ hr')) (by rw [List.length_append, la]; omega) (getL_set hk)
    refine ⟨c5', c6', ?_⟩
    have lg := longer (row := row) (w0 := w0) (w2 := w2) (w3 := w3) (w4 := .r k) (c6 := c6) (hp := hp) hm (hr row (List.mem_cons_self ..))
    have ext : oExtend (.r k) [.t (.lst (add.map rT))] hp = .ok (.t .non) (hp.set k (some (.lst (((acc ++ add).map rT).map W.t)))) := by
      have hl : acc.length + many ≤ 16777216 := by omega
      simp only [oExtend, h, hitems_l, List.length_map, la, hl, if_true]
      simp
    have body : f_w_rows_l1 [some w0, some (.t (.int many)), some w2, some w3, some (.r k), some (.t (rT row)), c6] hp = .ok (.nx [some w0, some (.t (.int many)), some w2, some w3, some (.r k), some (.t (rT row)), c6]) (hp.set k (some (.lst (((acc ++ add).map rT).map W.t)))) := by
      unfold f_w_rows_l1
      rw [p_drop, p_meth]
      simp only [p_var, List.getElem?_cons_succ, List.getElem?_cons_zero, bind_ok, isL_r, h, Option.isSome_some, if_true, p_cons, p_nil, lg]
      rw [show ((List.range many).map fun (k : Nat) => row ++ [(k : Int)]) = add from rfl, ext, bind_ok]
    simp only [List.map_cons, forL, p_gN, List.set_cons_succ, List.set_cons_zero, body, bind_ok, q, List.set_set, List.flatMap_cons, List.append_assoc]
    rfl
theorem rows_out {many : Nat} {w0 : W} (hm : many < 1000) : ∀ (ks : List Nat) (t : Nat) (c3 c4 c5 c6 : Option W) (hp : IH), (∀ k, k ≤ t + ks.length → many ^ k < 1000000) → t + ks.length < 1000 →
    ∃ (c3' c4' c5' c6' : Option W) (hp' : IH), forL (gN 3) f_w_rows_l2 (ks.map natW) [some w0, some (.t (.int many)), some (.t (.lst ((rowsL many t).map rT))), c3, c4, c5, c6] hp =
      .ok (.nx [some w0, some (.t (.int many)), some (.t (.lst ((rowsL many (t + ks.length)).map rT))), c3', c4', c5', c6']) hp' := by
  intro ks
  induction ks with
  | nil => exact fun t c3 c4 c5 c6 hp _ _ => ⟨c3, c4, c5, c6, hp, rfl⟩
  | cons k ks ih =>
    intro t c3 c4 c5 c6 hp hB ht
    have hB1 : many ^ (t + 1) < 1000000 := hB (t + 1) (by simp only [List.length_cons]; omega)
    let h1 : IH := hp ++ [some (.lst [])]
    obtain ⟨c5', c6', q⟩ := rows_in (w0 := w0) (w2 := .t (.lst ((rowsL many t).map rT))) (w3 := natW k) hm (k := hp.length) (rowsL many t) [] c5 c6 h1
      (fun r hr => by have := (rowsL_mem.mp hr).1; simp only [List.length_cons] at ht; omega) (by rw [rowsL_len, ← Nat.pow_succ]; simp only [List.length_nil, Nat.zero_add]; exact hB1) (by simp [h1])
    let new := (rowsL many (t + 1)).map rT
    let h2 : IH := h1.set hp.length (some (.lst (new.map W.t)))
    let h3 : IH := h2.set hp.length none
    obtain ⟨d3, d4, d5, d6, hp', p⟩ := ih (t + 1) (some (natW k)) (some (.t (.lst new))) c5' c6' h3 (fun j hj => hB j (by simp only [List.length_cons]; omega)) (by simp only [List.length_cons] at ht; omega)
    have el : t + (k :: ks).length = t + 1 + ks.length := by simp only [List.length_cons]; omega
    refine ⟨d3, d4, d5, d6, hp', ?_⟩
    rw [el, ← p]
    have g2 : getL h2 hp.length = some (new.map W.t) := getL_set (by simp [h1])
    have q' : forL (gN 5) f_w_rows_l1 (((rowsL many t).map rT).map W.t) [some w0, some (.t (.int many)), some (.t (.lst ((rowsL many t).map rT))), some (natW k), some (.r hp.length), c5, c6] h1 =
        .ok (.nx [some w0, some (.t (.int many)), some (.t (.lst ((rowsL many t).map rT))), some (natW k), some (.r hp.length), c5', c6']) h2 := q
    have fr : mFor (mSq (mVar 2)) (gN 5) f_w_rows_l1 [some w0, some (.t (.int many)), some (.t (.lst ((rowsL many t).map rT))), some (natW k), some (.r hp.length), c5, c6] h1 =
        .ok (.nx [some w0, some (.t (.int many)), some (.t (.lst ((rowsL many t).map rT))), some (natW k), some (.r hp.length), c5', c6']) h2 := by
      rw [for_ok (ws := ((rowsL many t).map rT).map W.t) (h1 := h1) rfl, q']
    have body : f_w_rows_l2 [some w0, some (.t (.int many)), some (.t (.lst ((rowsL many t).map rT))), some (natW k), c4, c5, c6] hp =
        .ok (.nx [some w0, some (.t (.int many)), some (.t (.lst new)), some (natW k), some (.t (.lst new)), c5', c6']) h3 := by
      have e1 : hp ++ [some (Cell.lst [])] = h1 := rfl
      have e3 : h2.set hp.length none = h3 := rfl
      unfold f_w_rows_l2
      simp only [p_seq, p_set, p_app, p_nil, bind_ok, newL_nil, e1, List.set_cons_succ, List.set_cons_zero, then_nx, fr, p_fz, p_var, List.getElem?_cons_succ, List.getElem?_cons_zero, freeze_r, g2, Option.bind_some, allT_mapS, e3]
    simp only [List.map_cons, forL, p_gN, List.set_cons_succ, List.set_cons_zero, body, bind_ok]
    rfl
theorem rows_is {n many : Nat} {hp : IH} (hm : many < 1000) (hn : n < 1000) (hB : ∀ k, k ≤ n → many ^ k < 1000000) : F_w_rows [.t (.int n), .t (.int many)] hp = .ok (.t (.lst ((rowsL many n).map rT))) hp := by
  obtain ⟨c3, c4, c5, c6, hp', q⟩ := rows_out (w0 := .t (.int n)) hm (List.range n) 0 none none none none [] (by simpa using hB) (by simpa using hn)
  have fr : mFor (mSrc rng1 (mCons (mVar 0) (mNil))) (gN 3) f_w_rows_l2 [some (.t (.int n)), some (.t (.int many)), some (.t (.lst [.tup []])), none, none, none, none] [] = forL (gN 3) f_w_rows_l2 ((List.range n).map natW) [some (.t (.int n)), some (.t (.int many)), some (.t (.lst [.tup []])), none, none, none, none] [] := for_rng rfl (by omega)
  have q' : forL (gN 3) f_w_rows_l2 ((List.range n).map natW) [some (.t (.int n)), some (.t (.int many)), some (.t (.lst [.tup []])), none, none, none, none] [] = .ok (.nx [some (.t (.int n)), some (.t (.int many)), some (.t (.lst ((rowsL many n).map rT))), c3, c4, c5, c6]) hp' := by
    have e : (0 : Nat) + (List.range n).length = n := by simp
    rw [e] at q
    exact q
  have hb : B_w_rows [some (.t (.int n)), some (.t (.int many)), none, none, none, none, none] [] = .ok (.rt (.t (.lst ((rowsL many n).map rT)))) hp' :=
    seq_ok (e1 := [some (.t (.int n)), some (.t (.int many)), some (.t (.lst [.tup []])), none, none, none, none]) (h1 := []) rfl (seq_ok (fr.trans q') rfl)
  exact fnP_ok (ts := [.int n, .int many]) rfl rfl hb

/-! ### named, alike -/
theorem comp_enum {i j : Nat} {E : M W} {eta : IS} {hp : IH} : ∀ (ts ys : List T) (s : Nat), ts.length = ys.length → (∀ k t y, ts[k]? = some t → ys[k]? = some y → E ((eta.set i (some (.t (.int ((s + k : Nat) : Int))))).set j (some (.t t))) hp = .ok (.t y) hp) →
    compL (gT 2 (gsC (gN i) (gsC (gN j) gsN))) mYes E eta (enumT s ts) hp = .ok (ys.map W.t) hp
  | [], ys, s, hl, _ => by
    have e : ys = [] := List.length_eq_zero_iff.mp hl.symm
    subst e
    rfl
  | t :: ts, [], s, hl, _ => by simp at hl
  | t :: ts, y :: ys, s, hl, h => by
    have h1 := h 0 t y rfl rfl
    have ih := comp_enum (i := i) (j := j) (E := E) (eta := eta) (hp := hp) ts ys (s + 1) (by simpa using hl) fun k t' y' e1 e2 => by
      have := h (k + 1) t' y' (by simpa using e1) (by simpa using e2)
      rwa [show s + (k + 1) = s + 1 + k by omega] at this
    simp only [Nat.add_zero] at h1
    simp [compL, turnL, enumT, h1, ih]
theorem comp_t3 {i j k : Nat} {E : M W} {f : T × T × T → T} {eta : IS} {hp : IH} : ∀ (es : List (T × T × T)), (∀ e ∈ es, E (((eta.set i (some (.t e.1))).set j (some (.t e.2.1))).set k (some (.t e.2.2))) hp = .ok (.t (f e)) hp) →
    compL (gT 3 (gsC (gN i) (gsC (gN j) (gsC (gN k) gsN)))) mYes E eta ((es.map fun e => T.tup [e.1, e.2.1, e.2.2]).map W.t) hp = .ok ((es.map f).map W.t) hp
  | [], _ => rfl
  | e :: es, h => by
    have h1 := h e (List.mem_cons_self ..)
    have ih := comp_t3 (i := i) (j := j) (k := k) (E := E) (f := f) (eta := eta) (hp := hp) es fun u hu => h u (List.mem_cons_of_mem _ hu)
    simp only [List.map_map] at ih
    simp [compL, turnL, h1, ih]
abbrev ent (w r : List Str) (p : Nat × Nat) : T := .tup [.str (r.getD p.1 ""), .str (r.getD p.2 ""), oT (cellV w r none p.1 p.2)]
def prs (n : Nat) : List (Nat × Nat) := (List.range n).flatMap fun a => (List.range n).map fun b => (a, b)
def keyN (r : List Str) (p : Nat × Nat) : List Key := [.inr (r.getD p.1 ""), .inr (r.getD p.2 "")]
theorem mem_prs {n : Nat} {p : Nat × Nat} : p ∈ prs n ↔ p.1 < n ∧ p.2 < n := by
  obtain ⟨a, b⟩ := p
  simp [prs]
theorem named_loop {w r : List Str} {bt : Bool} {w0 w1 w3 : Option W} (hn : r.length < 1000) : ∀ (m s : Nat) (acc : List T) (c5 c6 c7 c8 c9 c10 : Option W), s + m = r.length → acc.length + m * r.length ≤ 1000000 →
    ∃ c5' c6', forL (gT 2 (gsC (gN 5) (gsC (gN 6) gsN))) f_named_l1 (enumT s ((List.range' s m).map fun a => rowT ((List.range r.length).map fun b => cellV w r none a b))) [w0, w1, some (.t (sqT bt (r.map T.str))), w3, some (.r 0), c5, c6, c7, c8, c9, c10] [some (.lst (acc.map W.t))] =
      .ok (.nx [w0, w1, some (.t (sqT bt (r.map T.str))), w3, some (.r 0), c5', c6', c7, c8, c9, c10]) [some (.lst ((acc ++ (List.range' s m).flatMap fun a => (List.range r.length).map fun b => ent w r (a, b)).map W.t))]
  | 0, s, acc, c5, c6, c7, c8, c9, c10, _, _ => ⟨c5, c6, by simp [enumT, forL]⟩
  | m + 1, s, acc, c5, c6, c7, c8, c9, c10, hs, hl => by
    have hl' : acc.length + r.length + m * r.length ≤ 1000000 := by
      have : (m + 1) * r.length = m * r.length + r.length := Nat.succ_mul ..
      omega
    obtain ⟨c5', c6', q⟩ := named_loop (w := w) (r := r) (bt := bt) (w0 := w0) (w1 := w1) (w3 := w3) hn m (s + 1) (acc ++ (List.range r.length).map fun b => ent w r (s, b)) (some (.t (.int s))) (some (.t (rowT ((List.range r.length).map fun b => cellV w r none s b)))) c7 c8 c9 c10 (by omega) (by simpa using hl')
    refine ⟨c5', c6', ?_⟩
    let eta : IS := [w0, w1, some (.t (sqT bt (r.map T.str))), w3, some (.r 0), some (.t (.int s)), some (.t (rowT ((List.range r.length).map fun b => cellV w r none s b))), c7, c8, c9, c10]
    have cp : mComp lstOf (mSrc enum1 (mCons (mVar 6) (mNil))) (gT 2 (gsC (gN 7) (gsC (gN 8) gsN))) mYes f_named_c2 [7, 8] eta [some (.lst (acc.map W.t))] = .ok (.t (.lst ((List.range r.length).map fun b => ent w r (s, b)))) [some (.lst (acc.map W.t))] := by
      refine comp_ok (ws := enumT 0 (((List.range r.length).map fun b => cellV w r none s b).map oT)) (ys := ((List.range r.length).map fun b => ent w r (s, b)).map W.t) (h1 := [some (.lst (acc.map W.t))]) (h2 := [some (.lst (acc.map W.t))]) ?_ ?_ ?_ ?_
      · exact src_ok (ws := [.t (rowT ((List.range r.length).map fun b => cellV w r none s b))]) (h1 := [some (.lst (acc.map W.t))]) (cons_ok rfl rfl) rfl
      · rw [enumT_len]; simp; omega
      · refine comp_enum _ _ 0 (by simp) fun k t y e1 e2 => ?_
        have hk : k < r.length := by
          have := (List.getElem?_eq_some_iff.mp e2).1
          simpa using this
        simp [hk] at e1 e2
        subst e1 e2
        have ix : ∀ (k : Nat) (h : k < r.length) (hp : IH), ixW (.t (sqT bt (r.map T.str))) (.t (.int k)) hp = .ok (.t (.str (r.getD k ""))) hp := fun k h hp => by
          rw [ixW_sq (by simpa using h)]
          simp [List.getD, h]
        have i1 := ix s (by omega) [some (.lst (acc.map W.t))]
        have i2 := ix k hk [some (.lst (acc.map W.t))]
        simp only [List.getD] at i1 i2
        simp only [Nat.zero_add]
        unfold f_named_c2
        simp [eta, wipeI, i1, i2, ent, List.getD]
      · unfold lstOf
        rw [allT_mapS]
        have z : ((List.range r.length).map fun b => ent w r (s, b)).length ≤ 16777216 := by simp; omega
        simp only [z, if_true]
    have hlx : ((acc.map W.t) ++ (((List.range r.length).map fun b => ent w r (s, b)).map W.t)).length ≤ 16777216 := by
      simp; omega
    have body : f_named_l1 eta [some (.lst (acc.map W.t))] = .ok (.nx eta) [some (.lst ((acc ++ (List.range r.length).map fun b => ent w r (s, b)).map W.t))] := by
      have v4 : mVar 4 eta [some (.lst (acc.map W.t))] = .ok (.r 0) [some (.lst (acc.map W.t))] := rfl
      have ex : oExtend (.r 0) [.t (.lst ((List.range r.length).map fun b => ent w r (s, b)))] [some (.lst (acc.map W.t))] = .ok (.t .non) [some (.lst ((acc ++ (List.range r.length).map fun b => ent w r (s, b)).map W.t))] := by
        have hz : acc.length + r.length ≤ 16777216 := by omega
        simp [getL, oExtend, hz]
      unfold f_named_l1
      rw [p_drop, p_meth, v4, bind_ok, cons_ok cp rfl]
      simp only [bind_ok]
      rw [show isL (.r 0) [some (.lst (acc.map W.t))] = true from rfl, if_pos rfl, ex]
      rfl
    rw [List.range'_succ, List.map_cons, enumT]
    simp only [forL]
    have g : gT 2 (gsC (gN 5) (gsC (gN 6) gsN)) (.t (.pr [.int (s : Nat), rowT ((List.range r.length).map fun b => cellV w r none s b)])) [w0, w1, some (.t (sqT bt (r.map T.str))), w3, some (.r 0), c5, c6, c7, c8, c9, c10] = some eta := by simp [eta]
    rw [g]
    simp only [body, bind_ok, eta]
    rw [q]
    simp [List.flatMap_cons]

def entsN (w r : List Str) : List (List Key × T) := (prs r.length).map fun p => (keyN r p, oT (cellV w r none p.1 p.2))
theorem fm_prs {A : Type} {f : Nat × Nat → A} (n : Nat) : ((List.range n).flatMap fun a => (List.range n).map fun b => f (a, b)) = (prs n).map f := by
  unfold prs
  rw [List.map_flatMap]
  congr 1
  funext a
  rw [List.map_map]
  rfl
theorem fm_len {n : Nat} : ∀ l : List Nat, (l.flatMap fun a => (List.range n).map fun b => (a, b)).length = l.length * n
  | [] => by simp
  | a :: l => by
    rw [List.flatMap_cons, List.length_append, fm_len l, List.length_cons, Nat.succ_mul, List.length_map, List.length_range]
    omega
theorem prs_len (n : Nat) : (prs n).length = n * n := by
  unfold prs
  rw [fm_len, List.length_range]
theorem ents_is {w r : List Str} : ∀ (l : List (Nat × Nat)), entsT (l.map fun p => T.tup [.pr [.str (r.getD p.1 ""), .str (r.getD p.2 "")], oT (cellV w r none p.1 p.2)]) = some (l.map fun p => (keyN r p, oT (cellV w r none p.1 p.2)))
  | [] => rfl
  | p :: l => by
    have ih := ents_is (w := w) (r := r) l
    simp only [List.map_cons, entsT, entT, keysT, keyT, Option.map_some, ih]
    rfl
theorem merge_new {es : List (List Key × T)} : ∀ (acc : List (List Key × T)), ((acc ++ es).map (·.1)).Nodup → mergeG es acc = acc ++ es := by
  induction es with
  | nil => intro acc _; simp [mergeG]
  | cons e es ih =>
    intro acc h
    have hn : ¬ (acc.any fun kv => decide (kv.1 = e.1)) = true := by
      rw [List.any_eq_true]
      rintro ⟨x, hx, ex⟩
      simp only [decide_eq_true_eq] at ex
      rw [List.map_append, List.map_cons] at h
      have := (List.nodup_append.mp h).2.2 x.1 (List.mem_map.mpr ⟨x, hx, rfl⟩) e.1 (by simp)
      exact this ex
    have e1 : putG acc e.1 e.2 = acc ++ [e] := by unfold putG; rw [if_neg hn]
    show mergeG es (putG acc e.1 e.2) = _
    rw [e1, ih (acc ++ [e]) (by simpa using h)]
    simp
theorem fm_nodup {n : Nat} : ∀ l : List Nat, l.Nodup → (l.flatMap fun a => (List.range n).map fun b => (a, b)).Nodup
  | [], _ => List.nodup_nil
  | a :: l, h => by
    rw [List.nodup_cons] at h
    rw [List.flatMap_cons, List.nodup_append]
    refine ⟨?_, fm_nodup l h.2, ?_⟩
    · exact List.pairwise_map.mpr ((List.nodup_range (n := n)).imp fun ne e => ne (by simpa using e))
    · intro x hx y hy e
      obtain ⟨b, _, rfl⟩ := List.mem_map.mp hx
      obtain ⟨c, hc, hy⟩ := List.mem_flatMap.mp hy
      obtain ⟨d, _, rfl⟩ := List.mem_map.mp hy
      exact h.1 (by have := congrArg Prod.fst e; simp only at this; rw [this]; exact hc)
theorem prs_nodup (n : Nat) : (prs n).Nodup := fm_nodup _ List.nodup_range
theorem keyN_inj {r : List Str} (hn : r.Nodup) {p q : Nat × Nat} (hp : p.1 < r.length ∧ p.2 < r.length) (hq : q.1 < r.length ∧ q.2 < r.length) (e : keyN r p = keyN r q) : p = q := by
  simp only [keyN, List.cons.injEq, Sum.inr.injEq, and_true] at e
  have g : ∀ {a b : Nat}, a < r.length → b < r.length → r.getD a "" = r.getD b "" → a = b := fun {a b} ha hb h => by
    simp only [List.getD, List.getElem?_eq_getElem ha, List.getElem?_eq_getElem hb, Option.getD_some] at h
    exact (List.getElem_inj hn).mp h
  exact Prod.ext (g hp.1 hq.1 e.1) (g hp.2 hq.2 e.2)
theorem entsN_nodup {w r : List Str} (hn : r.Nodup) : ((entsN w r).map (·.1)).Nodup := by
  unfold entsN
  rw [List.map_map]
  refine (List.pairwise_map.mpr ?_)
  refine List.Pairwise.imp_of_mem ?_ (prs_nodup r.length)
  intro p q hp hq ne e
  exact ne (keyN_inj hn (mem_prs.mp hp) (mem_prs.mp hq) e)
theorem named_is {w r : List Str} {bw bt : Bool} {hp : IH} (hr : ∀ x ∈ r, x ∈ w) (hn : r.length < 1000) (nd : r.Nodup) :
    F_named [.t (.tup [sqT bw (w.map T.str), sqT bt (r.map T.str)])] hp = .ok (.t (.dit ((entsN w r).map (·.1)) ((entsN w r).map (·.2)))) hp := by
  have hm : r.length * r.length ≤ 1000000 := Nat.mul_le_mul (by omega : r.length ≤ 1000) (by omega : r.length ≤ 1000)
  obtain ⟨c5, c6, q⟩ := named_loop (w := w) (r := r) (bt := bt) (w0 := some (.t (.tup [sqT bw (w.map T.str), sqT bt (r.map T.str)]))) (w1 := some (.t (sqT bw (w.map T.str)))) (w3 := some (.t (tabT (tabV w r none)))) hn r.length 0 [] none none none none none none (by omega) (by simpa using hm)
  have d := diff_is (w := w) (r := r) (bw := bw) (bt := bt) (most := none) (hp := []) hr (by omega)
  simp only [List.nil_append, ← List.range_eq_range'] at q
  rw [fm_prs] at q
  have src : mSrc enum1 (mCons (mVar 3) (mNil)) [some (.t (.tup [sqT bw (w.map T.str), sqT bt (r.map T.str)])), some (.t (sqT bw (w.map T.str))), some (.t (sqT bt (r.map T.str))), some (.t (tabT (tabV w r none))), some (.r 0), none, none, none, none, none, none] [some (.lst [])] = .ok (enumT 0 ((List.range r.length).map fun a => rowT ((List.range r.length).map fun b => cellV w r none a b))) [some (.lst [])] := by
    refine src_ok (ws := [.t (tabT (tabV w r none))]) (h1 := [some (.lst [])]) (cons_ok rfl rfl) ?_
    simp [tabT, tabV, seqT, Function.comp_def]
  have hz : ((prs r.length).map fun p => ent w r p).length ≤ 16777216 := by rw [List.length_map, prs_len]; omega
  let E : IS := [some (.t (.tup [sqT bw (w.map T.str), sqT bt (r.map T.str)])), some (.t (sqT bw (w.map T.str))), some (.t (sqT bt (r.map T.str))), some (.t (tabT (tabV w r none))), some (.t (.lst ((prs r.length).map fun p => ent w r p))), c5, c6, none, none, none, none]
  have cp : mComp lstOf (mSq (mVar 4)) (gT 3 (gsC (gN 9) (gsC (gN 10) (gsC (gN 8) gsN)))) mYes f_named_c1 [9, 10, 8] E [none] = .ok (.t (.lst ((prs r.length).map fun p => T.tup [.pr [.str (r.getD p.1 ""), .str (r.getD p.2 "")], oT (cellV w r none p.1 p.2)]))) [none] := by
    refine comp_ok (ws := ((prs r.length).map fun p => ent w r p).map W.t) (ys := ((prs r.length).map fun p => T.tup [.pr [.str (r.getD p.1 ""), .str (r.getD p.2 "")], oT (cellV w r none p.1 p.2)]).map W.t) (h1 := [none]) (h2 := [none]) ?_ ?_ ?_ ?_
    · rw [p_sq, varP rfl, bind_ok]; rfl
    · rw [List.length_map]; exact hz
    · have z := comp_t3 (i := 9) (j := 10) (k := 8) (E := f_named_c1) (f := fun e => T.tup [.pr [e.1, e.2.1], e.2.2]) (eta := wipeI E [9, 10, 8]) (hp := [none]) ((prs r.length).map fun p => (T.str (r.getD p.1 ""), T.str (r.getD p.2 ""), oT (cellV w r none p.1 p.2))) fun e _ => by
        unfold f_named_c1
        simp [wipeI, E, prOf, allT]
      simp only [List.map_map, Function.comp_def] at z ⊢
      exact z
    · unfold lstOf
      rw [allT_mapS]
      have : ((prs r.length).map fun p => T.tup [.pr [.str (r.getD p.1 ""), .str (r.getD p.2 "")], oT (cellV w r none p.1 p.2)]).length ≤ 16777216 := by rw [List.length_map, prs_len]; omega
      simp only [this, if_true]
  have dt : oDictT [.t (.lst ((prs r.length).map fun p => T.tup [.pr [.str (r.getD p.1 ""), .str (r.getD p.2 "")], oT (cellV w r none p.1 p.2)]))] [none] = .ok (.t (.dit ((entsN w r).map (·.1)) ((entsN w r).map (·.2)))) [none] := by
    have mg := merge_new (es := entsN w r) [] (by simpa using entsN_nodup (w := w) nd)
    have lz : ((prs r.length).map fun p => (keyN r p, oT (cellV w r none p.1 p.2))).length ≤ 16777216 := by rw [List.length_map, prs_len]; omega
    unfold oDictT
    simp only [ents_is, if_pos lz]
    show Res.ok (W.t (.dit ((mergeG (entsN w r) []).map (·.1)) ((mergeG (entsN w r) []).map (·.2)))) _ = _
    rw [mg]
    rfl
  refine fnP_ok (x := .dit ((entsN w r).map (·.1)) ((entsN w r).map (·.2))) (ts := [.tup [sqT bw (w.map T.str), sqT bt (r.map T.str)]]) (h1 := [none]) rfl rfl ?_
  unfold B_named
  refine seq_ok (e1 := [some (.t (.tup [sqT bw (w.map T.str), sqT bt (r.map T.str)])), some (.t (sqT bw (w.map T.str))), some (.t (sqT bt (r.map T.str))), none, none, none, none, none, none, none, none]) (h1 := []) (by simp) ?_
  refine seq_ok (e1 := [some (.t (.tup [sqT bw (w.map T.str), sqT bt (r.map T.str)])), some (.t (sqT bw (w.map T.str))), some (.t (sqT bt (r.map T.str))), some (.t (tabT (tabV w r none))), some (.r 0), none, none, none, none, none, none]) (h1 := [some (.lst [])]) ?_ ?_
  · have dv : mCall F_differences [.non] (mCons (mVar 1) (mCons (mVar 2) (mNil))) [some (.t (.tup [sqT bw (w.map T.str), sqT bt (r.map T.str)])), some (.t (sqT bw (w.map T.str))), some (.t (sqT bt (r.map T.str))), none, none, none, none, none, none, none, none] [] = .ok (.t (tabT (tabV w r none))) [] := by
      rw [p_call, cons_ok rfl (cons_ok rfl rfl), bind_ok]
      exact congrArg noEr d
    rw [p_par, cons_ok dv (cons_ok (a := .r 0) (h1 := [some (.lst [])]) rfl rfl), bind_ok]
    rfl
  refine seq_ok (e1 := _) (h1 := _) ((for_ok src).trans q) ?_
  have fz : freeze (.r 0) [some (.lst (((prs r.length).map fun p => ent w r p).map W.t))] = .ok (.t (.lst ((prs r.length).map fun p => ent w r p))) [none] := frz_ok (by rfl)
  rw [p_fz]
  simp only [List.getElem?_cons_succ, List.getElem?_cons_zero]
  rw [fz, bind_ok]
  show mRet _ E [none] = _
  rw [p_ret, app1P cp dt]
  rfl
def alikeB (w r w' r' : List Str) : Bool := (prs r.length).all fun p => decide (cellV w r none p.1 p.2 = cellV w' r' none (pos r' (r.getD p.1 "")) (pos r' (r.getD p.2 "")))
theorem val_ents {w r : List Str} (nd : r.Nodup) {p : Nat × Nat} (hp : p.1 < r.length ∧ p.2 < r.length) : valD2 (entsN w r) (keyN r p) = some (oT (cellV w r none p.1 p.2)) := by
  have h : ∀ l : List (Nat × Nat), (∀ q ∈ l, q.1 < r.length ∧ q.2 < r.length) → p ∈ l → valD2 (l.map fun p => (keyN r p, oT (cellV w r none p.1 p.2))) (keyN r p) = some (oT (cellV w r none p.1 p.2)) := by
    intro l
    induction l with
    | nil => intro _ h; simp at h
    | cons q l ih =>
      intro hl hm
      by_cases e : q = p
      · subst e
        simp [valD2, List.find?_cons]
      · have ne : ¬ keyN r q = keyN r p := fun z => e (keyN_inj nd (hl q (List.mem_cons_self ..)) hp z)
        have hm' : p ∈ l := by
          rcases List.mem_cons.mp hm with z | z
          · exact absurd z.symm e
          · exact z
        have := ih (fun q hq => hl q (List.mem_cons_of_mem _ hq)) hm'
        simp only [valD2, List.map_cons, List.find?_cons, ne, decide_false] at this ⊢
        exact this
  exact h (prs r.length) (fun q hq => mem_prs.mp hq) (mem_prs.mpr hp)
theorem leaf_o (a b : Option Int) : leafG (oT a) (oT b) = some (decide (a = b)) := by
  cases a with
  | none =>
    cases b with
    | none => rfl
    | some y => simp [oT, leafG]
  | some x =>
    cases b with
    | none => simp [oT, leafG]
    | some y =>
      simp only [oT, leafG, Option.some.injEq]
      by_cases h : x = y
      · subst h; simp
      · rw [decide_eq_false h]; simpa using h
theorem hits_all {m : List (List Key × T)} {k : Nat × Nat → List Key} {f g : Nat × Nat → Option Int} : ∀ (l : List (Nat × Nat)), (∀ p ∈ l, valD2 m (k p) = some (oT (g p))) → hitsG m (l.map fun p => (k p, oT (f p))) = some (l.all fun p => decide (f p = g p))
  | [], _ => rfl
  | p :: l, h => by
    have h1 := h p (List.mem_cons_self ..)
    have ih := hits_all (m := m) (k := k) (f := f) (g := g) l fun q hq => h q (List.mem_cons_of_mem _ hq)
    simp only [List.map_cons, hitsG, h1, ih, leaf_o, List.all_cons]
theorem zip_split {A B : Type} (l : List (A × B)) : (l.map (·.1)).zip (l.map (·.2)) = l := by
  induction l with
  | nil => rfl
  | cons x l ih => simp [ih]
theorem alike_is {w r w' r' : List Str} {b1 b2 b3 b4 : Bool} {hp : IH} (hr : ∀ x ∈ r, x ∈ w) (hr' : ∀ x ∈ r', x ∈ w') (hn : r.length < 1000) (hl : r'.length = r.length) (nd : r.Nodup) (nd' : r'.Nodup) (hs : ∀ x ∈ r, x ∈ r') :
    F_alike [.t (.tup [sqT b1 (w.map T.str), sqT b2 (r.map T.str)]), .t (.tup [sqT b3 (w'.map T.str), sqT b4 (r'.map T.str)])] hp = .ok (.t (.bl (alikeB w r w' r'))) hp := by
  have n1 := named_is (w := w) (r := r) (bw := b1) (bt := b2) (hp := []) hr hn nd
  have n2 := named_is (w := w') (r := r') (bw := b3) (bt := b4) (hp := []) hr' (by omega) nd'
  have hh : hitsG (entsN w' r') (entsN w r) = some (alikeB w r w' r') := by
    refine hits_all (g := fun p => cellV w' r' none (pos r' (r.getD p.1 "")) (pos r' (r.getD p.2 ""))) (prs r.length) fun p hp => ?_
    have hp := mem_prs.mp hp
    have at_ : ∀ a, a < r.length → pos r' (r.getD a "") < r'.length ∧ r'.getD (pos r' (r.getD a "")) "" = r.getD a "" := fun a ha => by
      have m : r.getD a "" ∈ r' := hs _ (by simp [List.getD, ha])
      have lt := List.idxOf_lt_length_of_mem m
      refine ⟨lt, ?_⟩
      revert lt
      unfold pos
      generalize r.getD a "" = x
      intro lt
      rw [List.getD_eq_getElem?_getD, List.getElem?_eq_getElem lt, Option.getD_some]
      exact List.getElem_idxOf lt
    obtain ⟨a1, a2⟩ := at_ p.1 hp.1
    obtain ⟨c1, c2⟩ := at_ p.2 hp.2
    have v := val_ents (w := w') nd' (p := (pos r' (r.getD p.1 ""), pos r' (r.getD p.2 ""))) ⟨a1, c1⟩
    have ek : keyN r' (pos r' (r.getD p.1 ""), pos r' (r.getD p.2 "")) = keyN r p := by
      unfold keyN
      rw [a2, c2]
    rw [ek] at v
    exact v
  have el : ((entsN w r).length == (entsN w' r').length) = true := by
    simp [entsN, prs_len, hl]
  refine fnP_ok (x := .bl (alikeB w r w' r')) (ts := [.tup [sqT b1 (w.map T.str), sqT b2 (r.map T.str)], .tup [sqT b3 (w'.map T.str), sqT b4 (r'.map T.str)]]) (h1 := []) rfl rfl ?_
  unfold B_alike
  rw [p_ret, binP (call_ok (ws := [.t (.tup [sqT b1 (w.map T.str), sqT b2 (r.map T.str)])]) (h1 := []) (cons_ok rfl rfl) n1) (call_ok (ws := [.t (.tup [sqT b3 (w'.map T.str), sqT b4 (r'.map T.str)])]) (h1 := []) (cons_ok rfl rfl) n2) (r := .ok (.t (.bl (alikeB w r w' r'))) []) ?_]
  · rfl
  · unfold eqDW
    simp only [zip_split, hh, el, Bool.true_and]

/-! ### limits by names -/
def nameC (w r : List Str) (x y : Str) : Option Int := if x = y then some 0 else if pos r x < pos r y then some (if pos w x < pos w y then 1 else 0) else none
theorem at_pos {r : List Str} {x : Str} (h : x ∈ r) : pos r x < r.length ∧ r.getD (pos r x) "" = x := by
  have lt := List.idxOf_lt_length_of_mem h
  refine ⟨lt, ?_⟩
  unfold pos
  rw [List.getD_eq_getElem?_getD, List.getElem?_eq_getElem lt, Option.getD_some]
  exact List.getElem_idxOf lt
theorem getD_inj {r : List Str} (nd : r.Nodup) {a b : Nat} (ha : a < r.length) (hb : b < r.length) (h : r.getD a "" = r.getD b "") : a = b := by
  simp only [List.getD, List.getElem?_eq_getElem ha, List.getElem?_eq_getElem hb, Option.getD_some] at h
  exact (List.getElem_inj nd).mp h
theorem getD_mem {r : List Str} {a : Nat} (ha : a < r.length) : r.getD a "" ∈ r := by
  simp only [List.getD, List.getElem?_eq_getElem ha, Option.getD_some]
  exact List.getElem_mem ha
theorem pos_at {r : List Str} (nd : r.Nodup) {a : Nat} (ha : a < r.length) : pos r (r.getD a "") = a :=
  getD_inj nd (at_pos (getD_mem ha)).1 ha (at_pos (getD_mem ha)).2
theorem cell_name {w r : List Str} (nd : r.Nodup) {a b : Nat} (ha : a < r.length) (hb : b < r.length) : cellV w r none a b = nameC w r (r.getD a "") (r.getD b "") := by
  unfold cellV gexV nameC
  rw [pos_at nd ha, pos_at nd hb]
  by_cases e : a = b
  · subst e; rw [if_pos rfl, if_pos rfl]
  · rw [if_neg e, if_neg fun z => e (getD_inj nd ha hb z)]
theorem name_cell {w r : List Str} (nd : r.Nodup) {x y : Str} (hx : x ∈ r) (hy : y ∈ r) : cellV w r none (pos r x) (pos r y) = nameC w r x y := by
  rw [cell_name nd (at_pos hx).1 (at_pos hy).1, (at_pos hx).2, (at_pos hy).2]
/-- parts left out keep the order -/
theorem pos_filter {p : Str → Bool} : ∀ {l : List Str} {x y : Str}, l.Nodup → x ∈ l.filter p → y ∈ l.filter p → (pos (l.filter p) x < pos (l.filter p) y ↔ pos l x < pos l y)
  | [], x, y, _, h, _ => by simp at h
  | z :: l, x, y, nd, hx, hy => by
    rw [List.nodup_cons] at nd
    by_cases pz : p z = true
    · rw [List.filter_cons_of_pos pz] at hx hy ⊢
      by_cases ex : z = x
      · subst ex
        by_cases ey : z = y
        · subst ey; simp
        · have by_ : (z == y) = false := by simpa using ey
          simp [pos, List.idxOf_cons, by_]
      · by_cases ey : z = y
        · subst ey
          have bx : (z == x) = false := by simpa using ex
          simp [pos, List.idxOf_cons, bx]
        · have hx' : x ∈ l.filter p := (List.mem_cons.mp hx).resolve_left fun e => ex e.symm
          have hy' : y ∈ l.filter p := (List.mem_cons.mp hy).resolve_left fun e => ey e.symm
          have ih := pos_filter (p := p) nd.2 hx' hy'
          simp only [pos] at ih
          have bx : (z == x) = false := by simpa using ex
          have by_ : (z == y) = false := by simpa using ey
          simp [pos, List.idxOf_cons, bx, by_, ih]
    · rw [List.filter_cons_of_neg pz] at hx hy ⊢
      have ex : ¬ z = x := fun e => pz (by subst e; exact (List.mem_filter.mp hx).2)
      have ey : ¬ z = y := fun e => pz (by subst e; exact (List.mem_filter.mp hy).2)
      have ih := pos_filter (p := p) nd.2 hx hy
      simp only [pos] at ih
      have bx : (z == x) = false := by simpa using ex
      have by_ : (z == y) = false := by simpa using ey
      simp [pos, List.idxOf_cons, bx, by_, ih]
theorem name_filter {p : Str → Bool} {w r : List Str} (wn : w.Nodup) (rn : r.Nodup) (hs : ∀ x ∈ r, x ∈ w) {x y : Str} (hx : x ∈ r.filter p) (hy : y ∈ r.filter p) : nameC (w.filter p) (r.filter p) x y = nameC w r x y := by
  have wx : x ∈ w.filter p := List.mem_filter.mpr ⟨hs x (List.mem_filter.mp hx).1, (List.mem_filter.mp hx).2⟩
  have wy : y ∈ w.filter p := List.mem_filter.mpr ⟨hs y (List.mem_filter.mp hy).1, (List.mem_filter.mp hy).2⟩
  unfold nameC
  simp only [pos_filter rn hx hy, pos_filter wn wx wy]
/-- alike orders have the same limits by names -/
theorem alike_iff {w r w' r' : List Str} (nd : r.Nodup) (nd' : r'.Nodup) (hs : ∀ x ∈ r, x ∈ r') : alikeB w r w' r' = true ↔ ∀ x y, x ∈ r → y ∈ r → nameC w r x y = nameC w' r' x y := by
  unfold alikeB
  rw [List.all_eq_true]
  constructor
  · intro h x y hx hy
    have q := h (pos r x, pos r y) (mem_prs.mpr ⟨(at_pos hx).1, (at_pos hy).1⟩)
    simp only [decide_eq_true_eq, (at_pos hx).2, (at_pos hy).2] at q
    rw [name_cell nd hx hy, name_cell nd' (hs x hx) (hs y hy)] at q
    exact q
  · intro h p hp
    have hp := mem_prs.mp hp
    simp only [decide_eq_true_eq]
    rw [cell_name nd hp.1 hp.2, name_cell nd' (hs _ (getD_mem hp.1)) (hs _ (getD_mem hp.2))]
    exact h _ _ (getD_mem hp.1) (getD_mem hp.2)

/-! ### alike just if the same small rows are seen -/
def seeV (w r : List Str) (row : List Int) : List Int := r.map fun x => row.getD (pos w x) 0
def seeB (w w' r' : List Str) (row : List Int) : Bool := withinB (seeV w r' row) (tabV w' r' none) (seeV w r' row)
theorem seeV_len {w r : List Str} {row : List Int} : (seeV w r row).length = r.length := by simp [seeV]
theorem seeV_get {w r : List Str} {row : List Int} {i : Nat} (h : i < r.length) : (seeV w r row).getD i 0 = row.getD (pos w (r.getD i "")) 0 := by
  simp [seeV, List.getD, h]
/-- by names -/
theorem see_iff {w w' r' : List Str} {row : List Int} (nd : r'.Nodup) : seeB w w' r' row = true ↔ ∀ x y, x ∈ r' → y ∈ r' → cOk (nameC w' r' x y) (row.getD (pos w x) 0 - row.getD (pos w y) 0) = true := by
  unfold seeB
  rw [within_pairs seeV_len]
  unfold pairsOk
  constructor
  · intro h x y hx hy
    have q := h (pos r' x) (pos r' y) (at_pos hx).1 (at_pos hy).1
    dsimp only at q
    rw [seeV_get (at_pos hx).1, seeV_get (at_pos hy).1, (at_pos hx).2, (at_pos hy).2, name_cell nd hx hy] at q
    exact q
  · intro h i j hi hj
    dsimp only
    rw [seeV_get hi, seeV_get hj, cell_name nd hi hj]
    exact h _ _ (getD_mem hi) (getD_mem hj)
/-- a row of w from a number for each name -/
theorem row_of {w : List Str} (wn : w.Nodup) (f : Str → Int) {x : Str} (h : x ∈ w) : (w.map f).getD (pos w x) 0 = f x := by
  have a := at_pos h
  simp only [List.getD, List.getElem?_map, List.getElem?_eq_getElem a.1, Option.map_some, Option.getD_some]
  have b := a.2
  simp only [List.getD, List.getElem?_eq_getElem a.1, Option.getD_some] at b
  rw [b]
/-- what tells two orders from each other -/
theorem tells {w w1 r1 w2 r2 : List Str} (wn : w.Nodup) (n1 : r1.Nodup) (n2 : r2.Nodup) (p1 : r1.Perm w) (q1 : w1.Perm w) (p2 : r2.Perm w) {x y : Str} (hx : x ∈ w) (hy : y ∈ w) {l : Int} (hl : l = 0 ∨ l = 1) (h2 : nameC w2 r2 x y = some l)
    (h1 : nameC w1 r1 x y = none ∨ (nameC w1 r1 x y = some 1 ∧ l = 0)) (ne : x ≠ y) : ∃ row : List Int, row.length = w.length ∧ (∀ v ∈ row, 0 ≤ v ∧ v ≤ 2) ∧ seeB w w1 r1 row = true ∧ seeB w w2 r2 row = false := by
  have m1 : ∀ z, z ∈ r1 ↔ z ∈ w := fun z => p1.mem_iff
  have m2 : ∀ z, z ∈ r2 ↔ z ∈ w := fun z => p2.mem_iff
  have fin : ∀ f : Str → Int, (∀ z, 0 ≤ f z ∧ f z ≤ 2) → (∀ a b, a ∈ w → b ∈ w → cOk (nameC w1 r1 a b) (f a - f b) = true) → l < f x - f y → ∃ row : List Int, row.length = w.length ∧ (∀ v ∈ row, 0 ≤ v ∧ v ≤ 2) ∧ seeB w w1 r1 row = true ∧ seeB w w2 r2 row = false := by
    intro f fb ok lt
    refine ⟨w.map f, by simp, fun v hv => ?_, (see_iff n1).mpr fun a b ha hb => ?_, ?_⟩
    · obtain ⟨z, _, rfl⟩ := List.mem_map.mp hv
      exact fb z
    · rw [row_of wn f ((m1 a).mp ha), row_of wn f ((m1 b).mp hb)]
      exact ok a b ((m1 a).mp ha) ((m1 b).mp hb)
    · rw [Bool.eq_false_iff]
      intro h
      have q := (see_iff n2).mp h x y ((m2 x).mpr hx) ((m2 y).mpr hy)
      rw [row_of wn f hx, row_of wn f hy, h2] at q
      simp only [cOk, decide_eq_true_eq] at q
      omega
  rcases h1 with h1 | ⟨h1, e⟩
  · -- y is read ahead of x
    have rd : ¬ pos r1 x < pos r1 y := fun z => by
      unfold nameC at h1
      rw [if_neg ne, if_pos z] at h1
      cases h1
    have rd2 : pos r1 y < pos r1 x := by
      rcases Nat.lt_trichotomy (pos r1 x) (pos r1 y) with z | z | z
      · exact absurd z rd
      · exfalso
        have a := (at_pos ((m1 x).mpr hx)).2
        rw [z, (at_pos ((m1 y).mpr hy)).2] at a
        exact ne a.symm
      · exact z
    refine fin (fun z => if pos r1 x ≤ pos r1 z then 2 else 0) (fun z => by split <;> omega) (fun a b ha hb => ?_) ?_
    · unfold nameC
      by_cases e : a = b
      · subst e
        rw [if_pos rfl]
        simp [cOk]
      · rw [if_neg e]
        by_cases ab : pos r1 a < pos r1 b
        · rw [if_pos ab]
          simp only [cOk, decide_eq_true_eq]
          split <;> split <;> split <;> omega
        · rw [if_neg ab]
          rfl
    · rw [if_pos (Nat.le_refl _), if_neg (by omega)]
      rcases hl with rfl | rfl <;> omega
  · subst e
    have wr : pos w1 x < pos w1 y := by
      unfold nameC at h1
      rw [if_neg ne] at h1
      by_cases z : pos r1 x < pos r1 y
      · rw [if_pos z] at h1
        by_cases z2 : pos w1 x < pos w1 y
        · exact z2
        · rw [if_neg z2] at h1
          simp at h1
      · rw [if_neg z] at h1
        cases h1
    refine fin (fun z => if pos w1 z ≤ pos w1 x then 1 else 0) (fun z => by split <;> omega) (fun a b ha hb => ?_) ?_
    · unfold nameC
      by_cases e : a = b
      · subst e
        rw [if_pos rfl]
        simp [cOk]
      · rw [if_neg e]
        by_cases ab : pos r1 a < pos r1 b
        · rw [if_pos ab]
          simp only [cOk, decide_eq_true_eq]
          split <;> split <;> split <;> omega
        · rw [if_neg ab]
          rfl
    · rw [if_pos (Nat.le_refl _), if_neg (by omega)]
      omega
theorem name_cases {w r : List Str} {x y : Str} (ne : x ≠ y) : nameC w r x y = none ∨ nameC w r x y = some 0 ∨ nameC w r x y = some 1 := by
  unfold nameC
  rw [if_neg ne]
  split
  · split
    · exact .inr (.inr rfl)
    · exact .inr (.inl rfl)
  · exact .inl rfl
theorem filter_eq {A : Type} {p q : A → Bool} : ∀ {l : List A}, l.filter p = l.filter q ↔ ∀ x ∈ l, p x = q x
  | [] => by simp
  | a :: l => by
    have ih := filter_eq (p := p) (q := q) (l := l)
    constructor
    · intro h x hx
      have ha : p a = q a := by
        cases h1 : p a <;> cases h2 : q a
        · rfl
        · rw [List.filter_cons_of_neg (by simp [h1]), List.filter_cons_of_pos h2] at h
          have m : a ∈ l.filter p := by rw [h]; exact List.mem_cons_self ..
          rw [(List.mem_filter.mp m).2] at h1
          cases h1
        · rw [List.filter_cons_of_pos h1, List.filter_cons_of_neg (by simp [h2])] at h
          have m : a ∈ l.filter q := by rw [← h]; exact List.mem_cons_self ..
          rw [(List.mem_filter.mp m).2] at h2
          cases h2
        · rfl
      rcases List.mem_cons.mp hx with rfl | hx
      · exact ha
      · refine ih.mp ?_ x hx
        cases h1 : p a
        · rw [List.filter_cons_of_neg (by simp [h1]), List.filter_cons_of_neg (by rw [← ha]; simp [h1])] at h
          exact h
        · rw [List.filter_cons_of_pos h1, List.filter_cons_of_pos (by rw [← ha]; exact h1)] at h
          exact List.tail_eq_of_cons_eq h
    · intro h
      exact List.filter_congr h
/-- THE LAW'S QUESTION -/
theorem due_alike {w r w2 r2 : List Str} {many : Nat} (wn : w.Nodup) (pr : r.Perm w) (pw2 : w2.Perm w) (pr2 : r2.Perm w) (hm : 3 ≤ many) :
    decide ((rowsL many w.length).filter (seeB w w r) = (rowsL many w.length).filter (seeB w w2 r2)) = alikeB w r w2 r2 := by
  have rn : r.Nodup := pr.nodup_iff.mpr wn
  have rn2 : r2.Nodup := pr2.nodup_iff.mpr wn
  have mr : ∀ z, z ∈ r ↔ z ∈ w := fun z => pr.mem_iff
  have mr2 : ∀ z, z ∈ r2 ↔ z ∈ w := fun z => pr2.mem_iff
  rw [Bool.eq_iff_iff, decide_eq_true_eq, filter_eq, alike_iff rn rn2 fun z hz => (mr2 z).mpr ((mr z).mp hz)]
  constructor
  · intro h x y hx hy
    have hx := (mr x).mp hx
    have hy := (mr y).mp hy
    by_cases ne : x = y
    · subst ne
      unfold nameC
      rw [if_pos rfl, if_pos rfl]
    · have no : ∀ row : List Int, row.length = w.length → (∀ v ∈ row, 0 ≤ v ∧ v ≤ 2) → seeB w w r row = seeB w w2 r2 row := fun row h1 h2 => h row (rowsL_mem.mpr ⟨h1, fun v hv => by have := h2 v hv; omega⟩)
      have t1 : ∀ l : Int, l = 0 ∨ l = 1 → nameC w2 r2 x y = some l → nameC w r x y = none ∨ (nameC w r x y = some 1 ∧ l = 0) → False := fun l hl h2 h1 => by
        obtain ⟨row, a, b, c, d⟩ := tells wn rn rn2 pr (List.Perm.refl w) pr2 hx hy hl h2 h1 ne
        rw [no row a b, d] at c
        cases c
      have t2 : ∀ l : Int, l = 0 ∨ l = 1 → nameC w r x y = some l → nameC w2 r2 x y = none ∨ (nameC w2 r2 x y = some 1 ∧ l = 0) → False := fun l hl h2 h1 => by
        obtain ⟨row, a, b, c, d⟩ := tells wn rn2 rn pr2 pw2 pr hx hy hl h2 h1 ne
        rw [← no row a b, d] at c
        cases c
      rcases name_cases (w := w) (r := r) ne with a | a | a <;> rcases name_cases (w := w2) (r := r2) ne with b | b | b
      · rw [a, b]
      · exact (t1 0 (.inl rfl) b (.inl a)).elim
      · exact (t1 1 (.inr rfl) b (.inl a)).elim
      · exact (t2 0 (.inl rfl) a (.inl b)).elim
      · rw [a, b]
      · exact (t2 0 (.inl rfl) a (.inr ⟨b, rfl⟩)).elim
      · exact (t2 1 (.inr rfl) a (.inl b)).elim
      · exact (t1 0 (.inl rfl) b (.inr ⟨a, rfl⟩)).elim
      · rw [a, b]
  · intro h row _
    rw [Bool.eq_iff_iff, see_iff rn, see_iff rn2]
    constructor
    · intro q x y hx hy
      have hx' := (mr x).mpr ((mr2 x).mp hx)
      have hy' := (mr y).mpr ((mr2 y).mp hy)
      rw [← h x y hx' hy']
      exact q x y hx' hy'
    · intro q x y hx hy
      rw [h x y hx hy]
      exact q x y ((mr2 x).mpr ((mr x).mp hx)) ((mr2 y).mpr ((mr y).mp hy))

/-! ### the law k47 (printed by mk47.py) -/
theorem cutL_from {A : Type} (xs : List A) (k : Nat) : cutL xs (some (k : Int)) none = xs.drop k := by
  unfold cutL
  rw [HT.sIx_none, HT.sIx_nat]
  rcases Nat.le_total k xs.length with h | h
  · rw [Nat.min_eq_left h, List.take_of_length_le (by rw [List.length_drop]; exact Nat.le_refl _)]
  · rw [Nat.min_eq_right h, List.drop_eq_nil_of_le h, List.drop_eq_nil_of_le (Nat.le_refl _), List.take_nil]
theorem near_perm {l : List Str} {k : Nat} (h : k + 1 < l.length) : (l.take k ++ [l[k + 1], l[k]] ++ l.drop (k + 2)).Perm l := by
  have e : l = l.take k ++ l[k] :: l[k + 1] :: l.drop (k + 2) := by
    have h1 := List.take_append_drop k l
    rw [List.drop_eq_getElem_cons (by omega : k < l.length), List.drop_eq_getElem_cons h] at h1
    exact h1.symm
  have q : (l.take k ++ [l[k + 1], l[k]] ++ l.drop (k + 2)).Perm (l.take k ++ l[k] :: l[k + 1] :: l.drop (k + 2)) := by
    rw [List.append_assoc]
    exact List.Perm.append_left _ (List.Perm.swap ..)
  rw [← e] at q
  exact q
theorem near_is {i j : Nat} {hp : IH} {l : List Str} (d : Deal i j hp) (h5 : l.length ≤ 5) : ∃ (l' : List Str) (hp' : IH), F_w_near [.r i, .t (.lst (l.map T.str))] hp = .ok (.t (.lst (l'.map T.str))) hp' ∧ l'.Perm l ∧ Deal i j hp' := by
  by_cases h2 : l.length < 2
  · refine ⟨l, hp, ?_, List.Perm.refl _, d⟩
    have h2' : (l.length : Int) < 2 := by omega
    simp only [F_w_near, fnM, B_w_near]
    simp [-List.map_map, h2']
  · have h2' : ¬ (l.length : Int) < 2 := by omega
    obtain ⟨n, h1, q1, n0, n1, d1, _⟩ := draw_is (wide := 4) d (by omega) (by omega)
    by_cases z : n = 0
    · subst z
      refine ⟨l, h1, ?_, List.Perm.refl _, d1⟩
      simp only [F_w_near, fnM, B_w_near]
      simp [-List.map_map, h2', q1]
    · obtain ⟨m, h3, q3, m0, m1, d3, _⟩ := draw_is (wide := (l.length : Int) - 1) d1 (by omega) (by omega)
      obtain ⟨k, rfl⟩ : ∃ k : Nat, m = (k : Int) := ⟨m.toNat, by omega⟩
      have hk : k + 1 < l.length := by omega
      refine ⟨l.take k ++ [l[k + 1], l[k]] ++ l.drop (k + 2), h3, ?_, near_perm hk, d3⟩
      have s1 : slW (.t (.lst (l.map T.str))) none (some (k : Int)) h3 = .ok (.t (.lst ((l.take k).map T.str))) h3 := by
        simp only [slW, cutL_to, List.map_take]
      have s2 : slW (.t (.lst (l.map T.str))) (some ((k : Int) + 2)) none h3 = .ok (.t (.lst ((l.drop (k + 2)).map T.str))) h3 := by
        rw [show (k : Int) + 2 = ((k + 2 : Nat) : Int) by omega]
        simp only [slW, cutL_from, List.map_drop]
      have i1 : ixW (.t (.lst (l.map T.str))) (.t (.int ((k : Int) + 1))) h3 = .ok (.t (.str l[k + 1])) h3 := by
        have := ixW_sq (b := false) (ts := l.map T.str) (n := k + 1) (hp := h3) (by simpa using hk)
        rw [show (k : Int) + 1 = ((k + 1 : Nat) : Int) by omega]
        refine this.trans ?_
        simp
      have i2 : ixW (.t (.lst (l.map T.str))) (.t (.int (k : Int))) h3 = .ok (.t (.str l[k])) h3 := by
        have := ixW_sq (b := false) (ts := l.map T.str) (n := k) (hp := h3) (by simp; omega)
        refine this.trans ?_
        simp
      have ad : ∀ (as bs : List T) (h : IH), as.length + bs.length ≤ 1000 → wAdd (.t (.lst as)) (.t (.lst bs)) h = .ok (.t (.lst (as ++ bs))) h := fun as bs h hl => by
        have : as.length + bs.length ≤ 16777216 := by omega
        simp only [wAdd, hitems_l, Option.bind_some, allT_mapS, this, if_true]
      have nz : decide (n = 0) = false := decide_eq_false z
      have a1 := ad ((l.take k).map T.str) [.str l[k + 1], .str l[k]] h3 (by simp; omega)
      have a2 := ad ((l.take k).map T.str ++ [.str l[k + 1], .str l[k]]) ((l.drop (k + 2)).map T.str) h3 (by simp; omega)
      have nz2 : eqW false (.t (.int n)) (.t (.int 0)) h1 = .ok (.t (.bl false)) h1 := by rw [ev_eqi]; simp [z]
      have lt2 : wLt (.t (.int (l.length : Int))) (.t (.int 2)) hp = .ok (.t (.bl false)) hp := by
        have : wLt (.t (.int (l.length : Int))) (.t (.int 2)) hp = .ok (.t (.bl (decide ((l.length : Int) < 2)))) hp := rfl
        rw [this, decide_eq_false h2']
      unfold F_w_near fnM B_w_near
      simp_arith [q1, q3, lt2, nz2, s1, s2, i1, i2, a1, a2, oLen_l, List.length_map, List.map_append, wAdd_ii]
theorem merge_newW {es : List (Key × W)} : ∀ (acc : List (Key × W)), ((acc ++ es).map (·.1)).Nodup → mergeW acc es = acc ++ es := by
  induction es with
  | nil => intro acc _; simp [mergeW]
  | cons e es ih =>
    intro acc h
    have hn : ¬ (acc.any fun kv => decide (kv.1 = e.1)) = true := by
      rw [List.any_eq_true]
      rintro ⟨x, hx, ex⟩
      simp only [decide_eq_true_eq] at ex
      rw [List.map_append, List.map_cons] at h
      exact (List.nodup_append.mp h).2.2 x.1 (List.mem_map.mpr ⟨x, hx, rfl⟩) e.1 (by simp) ex
    have e1 : putW acc e.1 e.2 = acc ++ [e] := by unfold putW; rw [if_neg hn]
    show mergeW (putW acc e.1 e.2) es = _
    rw [e1, ih (acc ++ [e]) (by simpa using h)]
    simp
abbrev kN (x : Str) : Key := .inr x
theorem keysT_strs : ∀ (w : List Str), keysT (w.map T.str) = some (w.map kN)
  | [] => rfl
  | x :: w => by simp [keysT, keyT, keysT_strs w]
theorem val_zip {w : List Str} {ts : List T} : ∀ {x : Str}, x ∈ w → ts.length = w.length → valW ((w.map kN).zip (ts.map W.t)) (kN x) = some (.t (ts.getD (pos w x) .non)) := by
  induction w generalizing ts with
  | nil => intro x h; simp at h
  | cons a w ih =>
    intro x h hl
    cases ts with
    | nil => simp at hl
    | cons t ts =>
      by_cases e : a = x
      · subst e
        simp [valW, pos]
      · have m : x ∈ w := (List.mem_cons.mp h).resolve_left fun z => e z.symm
        have be : (a == x) = false := by simpa using e
        have q := ih (ts := ts) m (by simpa using hl)
        simp only [valW, pos] at q ⊢
        simp [List.find?_cons, e, List.idxOf_cons, be]
        simpa using q
/-- the numbers of a row by names -/
theorem ver_is {w : List Str} {row : List Int} {eta : IS} {hp : IH} (wn : w.Nodup) (hl : row.length = w.length) (h5 : w.length ≤ 5) (h3 : eta[3]? = some (some (.t (.lst (w.map T.str))))) (h9 : eta[9]? = some (some (.t (rT row)))) :
    mFrzD (mApp dzipE (mCons (mVar 3) (mCons (mVar 9) (mNil)))) eta hp = .ok (.t (.dic (w.map kN) (row.map T.int))) (hp ++ [none]) := by
  have mg : mergeW [] ((w.map kN).zip ((row.map T.int).map W.t)) = (w.map kN).zip ((row.map T.int).map W.t) := by
    have := merge_newW (es := (w.map kN).zip ((row.map T.int).map W.t)) [] (by
      rw [List.nil_append, List.map_fst_zip (by simp [hl])]
      exact List.pairwise_map.mpr (wn.imp fun ne e => ne (by simpa using e)))
    simpa using this
  have dz : dzipE [.t (.lst (w.map T.str)), .t (rT row)] hp = .ok (.r hp.length) (hp ++ [some (.dic ((w.map kN).zip ((row.map T.int).map W.t)))]) := by
    unfold dzipE
    simp only [seqT, rT, keysT_strs]
    rw [if_pos (by simp; omega), mg]
  have fr : freezeD (.r hp.length) (hp ++ [some (.dic ((w.map kN).zip ((row.map T.int).map W.t)))]) = .ok (.t (.dic (w.map kN) (row.map T.int))) (hp ++ [none]) := by
    have gd : getD (hp ++ [some (.dic ((w.map kN).zip ((row.map T.int).map W.t)))]) hp.length = some ((w.map kN).zip ((row.map T.int).map W.t)) := by simp [getD]
    unfold freezeD
    simp only [gd]
    rw [List.map_snd_zip (by simp [hl]), allT_mapS, List.map_fst_zip (by simp [hl])]
    simp
  show (mApp dzipE _ eta hp).bind _ = _
  rw [p_app, cons_ok (varP h3) (cons_ok (varP h9) rfl), bind_ok, dz, bind_ok]
  exact fr
theorem row_is {w r w' r' : List Str} {row : List Int} {many : Nat} {i kf : Nat} {w0 w2 : W} {c5 c6 c10 c11 c12 : Option W} {hp : IH} {acc : List (List Int)} (wn : w.Nodup) (h5 : w.length ≤ 5) (h0 : 0 < w.length) (pw : w'.Perm w) (pr : r'.Perm w) (hrow : row ∈ rowsL many w.length) (hm : many ≤ 5) (hk : getL hp kf = some ((acc.map rT).map W.t)) (ha : acc.length < 10000) :
    ∃ hp', f_law_l1 [some w0, some (.r i), some w2, some (.t (.lst (w.map T.str))), some (.t (.lst (r.map T.str))), c5, c6, some (.t (.tup [.lst (w'.map T.str), .lst (r'.map T.str)])), some (.r kf), some (.t (rT row)), c10, c11, c12] hp = .ok (.nx [some w0, some (.r i), some w2, some (.t (.lst (w.map T.str))), some (.t (.lst (r.map T.str))), c5, c6, some (.t (.tup [.lst (w'.map T.str), .lst (r'.map T.str)])), some (.r kf), some (.t (rT row)), some (.t (.dic (w.map kN) (row.map T.int))), c11, c12]) hp' ∧ getL hp' kf = some (((acc ++ if seeB w w' r' row = true then [row] else []).map rT).map W.t) ∧ hp.length ≤ hp'.length ∧ ∀ q, q < hp.length → q ≠ kf → hp'[q]? = hp[q]? := by
  obtain ⟨rl, rb⟩ := rowsL_mem.mp hrow
  have wn' : w'.Nodup := pw.nodup_iff.mpr wn
  have lt := getL_lt hk
  let E : IS := [some w0, some (.r i), some w2, some (.t (.lst (w.map T.str))), some (.t (.lst (r.map T.str))), c5, c6, some (.t (.tup [.lst (w'.map T.str), .lst (r'.map T.str)])), some (.r kf), some (.t (rT row)), some (.t (.dic (w.map kN) (row.map T.int))), c11, c12]
  let h1 : IH := hp ++ [none]
  have hk1 : getL h1 kf = some ((acc.map rT).map W.t) := by rw [getL_app lt]; exact hk
  have rlen : r'.length = w.length := pr.length_eq
  have mw : ∀ z ∈ r', z ∈ w := fun z hz => pr.mem_iff.mp hz
  have vb : ∀ v ∈ seeV w r' row, 0 ≤ v ∧ v < 2 ^ 62 := fun v hv => by
    obtain ⟨z, hz, rfl⟩ := List.mem_map.mp hv
    have p1 := (at_pos (mw z hz)).1
    have := rb (row.getD (pos w z) 0) (by
      simp only [List.getD, List.getElem?_eq_getElem (show pos w z < row.length by omega), Option.getD_some]
      exact List.getElem_mem _)
    omega
  have cp : mComp lstOf (mSq (mBin ixW (mVar 7) (mC (.int 1)))) (gN 12) mYes f_law_c1 [12] E h1 = .ok (.t (.lst ((seeV w r' row).map T.int))) h1 := by
    refine comp_ok (ws := (r'.map T.str).map W.t) (ys := (r'.map fun z => T.int (row.getD (pos w z) 0)).map W.t) (h1 := h1) (h2 := h1) ?_ (by simp; omega) ?_ ?_
    · rw [p_sq, binP (a := .t (.tup [.lst (w'.map T.str), .lst (r'.map T.str)])) rfl rfl ev_ixt1, bind_ok]; rfl
    · refine comp_all fun z hz => ?_
      have v := val_zip (w := w) (ts := row.map T.int) (mw z hz) (by simpa using rl)
      have p1 := (at_pos (mw z hz)).1
      have e : (row.map T.int).getD (pos w z) .non = .int (row.getD (pos w z) 0) := by
        simp [List.getD, show pos w z < row.length by omega]
      rw [e] at v
      refine binP (f := dGetT) (a := .t (.dic (w.map kN) (row.map T.int))) (b := .t (.str z)) rfl rfl ?_
      show (match valW ((w.map kN).zip ((row.map T.int).map W.t)) (kN z) with | some w => Res.ok w h1 | none => .bad) = _
      rw [v]
    · unfold lstOf
      rw [allT_mapS]
      have : (r'.map fun z => T.int (row.getD (pos w z) 0)).length ≤ 16777216 := by rw [List.length_map]; omega
      simp only [this, if_true, seeV, List.map_map, Function.comp_def]
  have ps := possible_is (w := w') (r := r') (vs := seeV w r' row) (bv := false) (most := none) (hp := h1) (fun z hz => pw.mem_iff.mpr (mw z hz)) vb (by rw [pw.length_eq]; omega) (by rw [pw.length_eq]; omega) seeV_len (by omega) (by omega)
  rw [pos_within wn' (pr.trans pw.symm) seeV_len (by omega) (fun v hv => (vb v hv).1) (fun m e => by cases e)] at ps
  have ts : mTest truW (mCall F_w_possible [] (mCons (mBin ixW (mVar 7) (mC (.int 0))) (mCons (mBin ixW (mVar 7) (mC (.int 1))) (mCons (mComp lstOf (mSq (mBin ixW (mVar 7) (mC (.int 1)))) (gN 12) mYes f_law_c1 [12]) (mCons (mC .non) (mNil)))))) E h1 = .ok (seeB w w' r' row) h1 := by
    rw [p_test, call_ok (cons_ok (binP rfl rfl ev_ixt0) (cons_ok (binP rfl rfl ev_ixt1) (cons_ok cp (cons_ok rfl rfl)))) ps]
    rfl
  have lt1 : kf < h1.length := getL_lt hk1
  cases sb : seeB w w' r' row with
  | true =>
    refine ⟨h1.set kf (some (.lst (((acc ++ [row]).map rT).map W.t))), ?_, ?_, ?_, ?_⟩
    · unfold f_law_l1
      refine seq_ok (e1 := E) (h1 := h1) (set_ok (ver_is wn rl h5 rfl rfl)) ?_
      rw [if_yes (h1 := h1) (by rw [ts, sb])]
      have la : acc.length < 16777216 := by omega
      rw [p_drop, p_meth, varP (w := .r kf) rfl, bind_ok]
      simp only [isL_r, hk1, Option.isSome_some, if_true]
      rw [cons_ok (varP (w := .t (rT row)) rfl) rfl, bind_ok, oAppend_r, hk1]
      simp only [List.length_map, la, if_true]
      simp [E]
    · rw [getL_set lt1]
      simp
    · simp [h1]
    · intro q hq ne
      rw [List.getElem?_set_ne (Ne.symm ne)]
      simp only [h1]
      rw [List.getElem?_append_left hq]
  | false =>
    refine ⟨h1, ?_, ?_, ?_, ?_⟩
    · unfold f_law_l1
      refine seq_ok (e1 := E) (h1 := h1) (set_ok (ver_is wn rl h5 rfl rfl)) ?_
      rw [if_no (h1 := h1) (by rw [ts, sb])]
      rfl
    · simpa using hk1
    · simp [h1]
    · intro q hq _
      simp only [h1]
      rw [List.getElem?_append_left hq]
theorem rows_loop {w r w' r' : List Str} {many : Nat} {i kf : Nat} {w0 w2 : W} {c5 c6 c11 c12 : Option W} (wn : w.Nodup) (h5 : w.length ≤ 5) (h0 : 0 < w.length) (pw : w'.Perm w) (pr : r'.Perm w) (hm : many ≤ 5) : ∀ (rows acc : List (List Int)) (c9 c10 : Option W) (hp : IH), (∀ row ∈ rows, row ∈ rowsL many w.length) → acc.length + rows.length < 10000 → getL hp kf = some ((acc.map rT).map W.t) →
    ∃ (e9 e10 : Option W) (hp' : IH), forL (gN 9) f_law_l1 ((rows.map rT).map W.t) [some w0, some (.r i), some w2, some (.t (.lst (w.map T.str))), some (.t (.lst (r.map T.str))), c5, c6, some (.t (.tup [.lst (w'.map T.str), .lst (r'.map T.str)])), some (.r kf), c9, c10, c11, c12] hp = .ok (.nx [some w0, some (.r i), some w2, some (.t (.lst (w.map T.str))), some (.t (.lst (r.map T.str))), c5, c6, some (.t (.tup [.lst (w'.map T.str), .lst (r'.map T.str)])), some (.r kf), e9, e10, c11, c12]) hp' ∧ getL hp' kf = some (((acc ++ rows.filter (seeB w w' r')).map rT).map W.t) ∧ hp.length ≤ hp'.length ∧ ∀ q, q < hp.length → q ≠ kf → hp'[q]? = hp[q]?
  | [], acc, c9, c10, hp, _, _, hk => ⟨c9, c10, hp, rfl, by simpa using hk, Nat.le_refl _, fun _ _ _ => rfl⟩
  | row :: rows, acc, c9, c10, hp, hr, hl, hk => by
    have hl : acc.length + (rows.length + 1) < 10000 := by simpa using hl
    obtain ⟨h1, q1, k1, l1, x1⟩ := row_is (w := w) (r := r) (w' := w') (r' := r') (row := row) (many := many) (i := i) (kf := kf) (w0 := w0) (w2 := w2) (c5 := c5) (c6 := c6) (c10 := c10) (c11 := c11) (c12 := c12) (hp := hp) (acc := acc) wn h5 h0 pw pr (hr row (List.mem_cons_self ..)) hm hk (by omega)
    obtain ⟨e9, e10, h2, q2, k2, l2, x2⟩ := rows_loop (r := r) (i := i) (w0 := w0) (w2 := w2) (c5 := c5) (c6 := c6) (c11 := c11) (c12 := c12) wn h5 h0 pw pr hm rows (acc ++ if seeB w w' r' row = true then [row] else []) (some (.t (rT row))) (some (.t (.dic (w.map kN) (row.map T.int)))) h1 (fun z hz => hr z (List.mem_cons_of_mem _ hz)) (by split <;> simp <;> omega) k1
    refine ⟨e9, e10, h2, ?_, ?_, Nat.le_trans l1 l2, fun q hq ne => (x2 q (Nat.lt_of_lt_of_le hq l1) ne).trans (x1 q hq ne)⟩
    · simp only [List.map_cons, forL, p_gN, List.set_cons_succ, List.set_cons_zero]
      rw [q1, bind_ok]
      exact q2
    · rw [k2]
      congr 2
      by_cases sb : seeB w w' r' row = true
      · rw [if_pos sb, List.filter_cons_of_pos sb]
        simp
      · rw [if_neg sb, List.filter_cons_of_neg sb]
        simp

/-! ### the law k47, on (printed by mk47.py) -/
def manyOf (n : Nat) : Nat := if n < 5 then 4 else 3
theorem lot_is {w r w' r' : List Str} {i j kl : Nat} {w0 w2 : W} {c5 c8 c9 c10 c11 c12 : Option W} {hp : IH} {lots : List T} (wn : w.Nodup) (h5 : w.length ≤ 5) (h0 : 0 < w.length) (pw : w'.Perm w) (pr : r'.Perm w) (hk : getL hp kl = some (lots.map W.t)) (hz : lots.length < 1000) (d : Deal i j hp) (ni : kl ≠ i) (nj : kl ≠ j) :
    ∃ (e9 e10 : Option W) (hp' : IH), f_law_l2 [some w0, some (.r i), some w2, some (.t (.lst (w.map T.str))), some (.t (.lst (r.map T.str))), c5, some (.r kl), some (.t (.tup [.lst (w'.map T.str), .lst (r'.map T.str)])), c8, c9, c10, c11, c12] hp = .ok (.nx [some w0, some (.r i), some w2, some (.t (.lst (w.map T.str))), some (.t (.lst (r.map T.str))), c5, some (.r kl), some (.t (.tup [.lst (w'.map T.str), .lst (r'.map T.str)])), some (.t (.lst (((rowsL (manyOf w.length) w.length).filter (seeB w w' r')).map rT))), e9, e10, c11, c12]) hp' ∧ getL hp' kl = some ((lots ++ [T.lst (((rowsL (manyOf w.length) w.length).filter (seeB w w' r')).map rT)]).map W.t) ∧ Deal i j hp' := by
  have lt := getL_lt hk
  obtain ⟨li, lj⟩ := d.lt
  have m5 : manyOf w.length ≤ 5 := by unfold manyOf; split <;> omega
  have mB : ∀ k, k ≤ w.length → manyOf w.length ^ k < 10000 := fun k hk => by
    unfold manyOf
    by_cases c : w.length < 5
    · rw [if_pos c]
      exact Nat.lt_of_le_of_lt (Nat.pow_le_pow_right (by omega) (show k ≤ 4 by omega)) (by decide)
    · rw [if_neg c]
      exact Nat.lt_of_le_of_lt (Nat.pow_le_pow_right (by omega) (show k ≤ 5 by omega)) (by decide)
  let h1 : IH := hp ++ [some (.lst [])]
  have rows := rows_is (n := w.length) (many := manyOf w.length) (hp := h1) (by omega) (by omega) (fun k hk => Nat.lt_trans (mB k hk) (by omega))
  have rz : (rowsL (manyOf w.length) w.length).length < 10000 := by rw [rowsL_len]; exact mB _ (Nat.le_refl _)
  obtain ⟨e9, e10, h2, q2, k2, l2, x2⟩ := rows_loop (w := w) (r := r) (w' := w') (r' := r') (many := manyOf w.length) (i := i) (kf := hp.length) (w0 := w0) (w2 := w2) (c5 := c5) (c6 := some (.r kl)) (c11 := c11) (c12 := c12) wn h5 h0 pw pr m5 (rowsL (manyOf w.length) w.length) [] c9 c10 h1 (fun z hz => hz) (by simpa using rz) (by simp [h1])
  rw [List.nil_append] at k2
  let found : List T := ((rowsL (manyOf w.length) w.length).filter (seeB w w' r')).map rT
  let h3 : IH := h2.set hp.length none
  have hl1 : h1.length = hp.length + 1 := by simp [h1]
  have g3 : ∀ q, q < hp.length → h3[q]? = hp[q]? := fun q hq => by
    simp only [h3]
    rw [List.getElem?_set_ne (by omega), x2 q (by omega) (by omega)]
    simp only [h1]
    rw [List.getElem?_append_left hq]
  have hk3 : getL h3 kl = some (lots.map W.t) := by
    unfold getL at hk ⊢
    rw [g3 kl lt]
    exact hk
  have lt3 : kl < h3.length := getL_lt hk3
  refine ⟨e9, e10, h3.set kl (some (.lst ((lots ++ [T.lst found]).map W.t))), ?_, getL_set lt3, ?_⟩
  · unfold f_law_l2
    refine seq_ok (set_ok (w := .r hp.length) (h1 := h1) (by rw [p_app, p_nil, bind_ok, newL_nil])) ?_
    simp only [List.set_cons_succ, List.set_cons_zero]
    have lw : ∀ (eta : IS) (h : IH), eta[3]? = some (some (.t (.lst (w.map T.str)))) → mApp oLen (mCons (mVar 3) (mNil)) eta h = .ok (.t (.int (w.length : Nat))) h := fun eta h e => by
      refine app1P (varP e) ?_
      rw [oLen_l, List.length_map]
    have mn : ∀ (eta : IS) (h : IH), eta[3]? = some (some (.t (.lst (w.map T.str)))) → (mIf (mTest asB (mBin wLt (mApp oLen (mCons (mVar 3) (mNil))) (mC (.int 5)))) (mC (.int 4)) (mC (.int 3))) eta h = .ok (.t (.int (manyOf w.length : Nat))) h := fun eta h e => by
      have lt5 : wLt (.t (.int (w.length : Nat))) (.t (.int 5)) h = .ok (.t (.bl (decide ((w.length : Int) < 5)))) h := rfl
      unfold manyOf
      by_cases c : w.length < 5
      · rw [if_yes (h1 := h) (testP (b := true) (binP (lw eta h e) rfl (by rw [lt5, decide_eq_true (by omega)]))), if_pos c]
        rfl
      · rw [if_no (h1 := h) (testP (b := false) (binP (lw eta h e) rfl (by rw [lt5, decide_eq_false (by omega)]))), if_neg c]
        rfl
    refine seq_ok ((for_ok (ws := ((rowsL (manyOf w.length) w.length).map rT).map W.t) (h1 := h1) ?_).trans q2) ?_
    · rw [p_sq, call_ok (h1 := h1) (cons_ok (h1 := h1) (lw _ h1 rfl) (cons_ok (h1 := h1) (mn _ h1 rfl) rfl)) rows, bind_ok, sqI_l]
    refine fz_ok (h1 := h3) (w := .r hp.length) rfl (frz_ok k2) ?_
    have ll : lots.length < 16777216 := by omega
    rw [p_drop, p_meth, varP (w := .r kl) rfl, bind_ok]
    simp only [isL_r, hk3, Option.isSome_some, if_true]
    rw [cons_ok (varP (w := .t (.lst found)) rfl) rfl, bind_ok, oAppend_r, hk3]
    simp only [List.length_map, ll, if_true]
    simp [found]
  · refine d.keep ?_ ?_
    · rw [List.getElem?_set_ne ni]
      exact g3 i li
    · rw [List.getElem?_set_ne nj]
      exact g3 j lj
theorem eqT_row : ∀ (a b : List Int), eqTL (a.map T.int) (b.map T.int) = decide (a = b)
  | [], [] => rfl
  | [], _ :: _ => by simp [eqTL]
  | _ :: _, [] => by simp [eqTL]
  | x :: a, y :: b => by
    have ih := eqT_row a b
    simp only [List.map_cons, eqTL, eqT_ii, ih, List.cons.injEq]
    by_cases h : x = y
    · subst h; simp
    · simp [h]
theorem eqT_rows : ∀ (a b : List (List Int)), eqTL (a.map rT) (b.map rT) = decide (a = b)
  | [], [] => rfl
  | [], _ :: _ => by simp [eqTL]
  | _ :: _, [] => by simp [eqTL]
  | x :: a, y :: b => by
    have ih := eqT_rows a b
    have e : eqT (rT x) (rT y) = decide (x = y) := by
      rw [← eqT_row x y]
      simp only [rT, Mir.eqT]
    simp only [List.map_cons, eqTL, e, ih, List.cons.injEq]
    by_cases h : x = y
    · subst h; simp
    · simp [h]
theorem fit_rows (a : List (List Int)) : fit (.lst (a.map rT)) 60 = true := by
  rw [fit_l]
  induction a with
  | nil => simp
  | cons x a ih =>
    rw [List.map_cons, fitL_c, ih, Bool.and_true]
    show fit (.tup (x.map T.int)) 59 = true
    rw [fit_t]
    exact fitL_ints
theorem rows_eq {a b : List (List Int)} {hp : IH} : eqW false (.t (.lst (a.map rT))) (.t (.lst (b.map rT))) hp = .ok (.t (.bl (decide (a = b)))) hp := by
  rw [eqW_tt, if_pos ⟨fit_rows a, fit_rows b⟩, ← eqT_rows a b]
  simp only [Mir.eqT]
  rfl
theorem lots_is {w r w' r' : List Str} {i j kl : Nat} {w0 w2 : W} {c7 c8 c9 c10 c11 c12 : Option W} {hp : IH} (wn : w.Nodup) (h5 : w.length ≤ 5) (h0 : 0 < w.length) (pr0 : r.Perm w) (pw : w'.Perm w) (pr : r'.Perm w) (hk : getL hp kl = some (([] : List T).map W.t)) (d : Deal i j hp) (ni : kl ≠ i) (nj : kl ≠ j) :
    ∃ (e7 e8 e9 e10 : Option W) (hp' : IH), mFor (mSq (mApp tupOf (mCons (mApp tupOf (mCons (mVar 3) (mCons (mVar 4) (mNil)))) (mCons (mVar 5) (mNil))))) (gN 7) f_law_l2 [some w0, some (.r i), some w2, some (.t (.lst (w.map T.str))), some (.t (.lst (r.map T.str))), some (.t (.tup [.lst (w'.map T.str), .lst (r'.map T.str)])), some (.r kl), c7, c8, c9, c10, c11, c12] hp = .ok (.nx [some w0, some (.r i), some w2, some (.t (.lst (w.map T.str))), some (.t (.lst (r.map T.str))), some (.t (.tup [.lst (w'.map T.str), .lst (r'.map T.str)])), some (.r kl), e7, e8, e9, e10, c11, c12]) hp' ∧ getL hp' kl = some (([T.lst (((rowsL (manyOf w.length) w.length).filter (seeB w w r)).map rT), T.lst (((rowsL (manyOf w.length) w.length).filter (seeB w w' r')).map rT)] : List T).map W.t) ∧ Deal i j hp' := by
  obtain ⟨a9, a10, h1, q1, k1, d1⟩ := lot_is (w := w) (r := r) (w' := w) (r' := r) (i := i) (j := j) (kl := kl) (w0 := w0) (w2 := w2) (c5 := some (.t (.tup [.lst (w'.map T.str), .lst (r'.map T.str)]))) (c8 := c8) (c9 := c9) (c10 := c10) (c11 := c11) (c12 := c12) (hp := hp) (lots := []) wn h5 h0 (List.Perm.refl w) pr0 hk (by simp) d ni nj
  obtain ⟨b9, b10, h2, q2, k2, d2⟩ := lot_is (w := w) (r := r) (w' := w') (r' := r') (i := i) (j := j) (kl := kl) (w0 := w0) (w2 := w2) (c5 := some (.t (.tup [.lst (w'.map T.str), .lst (r'.map T.str)]))) (c8 := some (.t (.lst (((rowsL (manyOf w.length) w.length).filter (seeB w w r)).map rT)))) (c9 := a9) (c10 := a10) (c11 := c11) (c12 := c12) (hp := h1) (lots := [T.lst (((rowsL (manyOf w.length) w.length).filter (seeB w w r)).map rT)]) wn h5 h0 pw pr (by simpa using k1) (by simp) d1 ni nj
  refine ⟨some (.t (.tup [.lst (w'.map T.str), .lst (r'.map T.str)])), some (.t (.lst (((rowsL (manyOf w.length) w.length).filter (seeB w w' r')).map rT))), b9, b10, h2, ?_, by simpa using k2, d2⟩
  rw [for_ok (ws := [.t (.tup [.lst (w.map T.str), .lst (r.map T.str)]), .t (.tup [.lst (w'.map T.str), .lst (r'.map T.str)])]) (h1 := hp) (by rw [p_sq, app2_ok (h1 := hp) (h2 := hp) (app2_ok (h1 := hp) (h2 := hp) rfl rfl rfl) rfl rfl]; rfl)]
  simp only [forL, p_gN, List.set_cons_succ, List.set_cons_zero]
  rw [q1, bind_ok]
  simp only [forL, p_gN, List.set_cons_succ, List.set_cons_zero]
  rw [q2, bind_ok]

/-! ### the law k47, the end (printed by mk47.py) -/
theorem alike_swap {w r w' r' : List Str} (rn : r.Nodup) (rn' : r'.Nodup) (h : ∀ x, x ∈ r ↔ x ∈ r') : alikeB w' r' w r = alikeB w r w' r' := by
  rw [Bool.eq_iff_iff, alike_iff rn' rn fun z hz => (h z).mpr hz, alike_iff rn rn' fun z hz => (h z).mp hz]
  exact ⟨fun q x y hx hy => (q x y ((h x).mp hx) ((h y).mp hy)).symm, fun q x y hx hy => (q x y ((h x).mpr hx) ((h y).mpr hy)).symm⟩
theorem alike_self {w r : List Str} (rn : r.Nodup) : alikeB w r w r = true := (alike_iff rn rn fun _ h => h).mpr fun _ _ _ _ => rfl
theorem tail_is {w r w' r' : List Str} {i j : Nat} {w0 w2 : W} {c6 c7 c8 c9 c10 c11 c12 : Option W} {hp : IH} (wn : w.Nodup) (h5 : w.length ≤ 5) (h0 : 0 < w.length) (pr0 : r.Perm w) (pw : w'.Perm w) (pr : r'.Perm w) (d : Deal i j hp) :
    ∃ (e7 e8 e9 e10 : Option W) (hp' : IH), (mSeq (mSet 6 (mApp newL (mNil))) (mSeq (mFor (mSq (mApp tupOf (mCons (mApp tupOf (mCons (mVar 3) (mCons (mVar 4) (mNil)))) (mCons (mVar 5) (mNil))))) (gN 7) f_law_l2) (mFz 6 (mSeq (mSet 11 (mBin (eqW false) (mBin ixW (mVar 6) (mC (.int 0))) (mBin ixW (mVar 6) (mC (.int 1))))) (mSeq (mIf (mOr (mTest asB (mBin (eqW true) (mApp oRepr (mCons (mCall F_alike [] (mCons (mApp tupOf (mCons (mVar 3) (mCons (mVar 4) (mNil)))) (mCons (mVar 5) (mNil)))) (mNil))) (mApp oRepr (mCons (mVar 11) (mNil))))) (mTest asB (mBin (eqW true) (mCall F_alike [] (mCons (mVar 5) (mCons (mApp tupOf (mCons (mVar 3) (mCons (mVar 4) (mNil)))) (mNil)))) (mVar 11)))) (mRet (mC (.bl false))) (mSkip)) (mIf (mTest asB (mBin (isB true) (mCall F_alike [] (mCons (mApp tupOf (mCons (mApp oTup (mCons (mVar 3) (mNil))) (mCons (mApp oTup (mCons (mVar 4) (mNil))) (mNil)))) (mCons (mApp tupOf (mCons (mVar 3) (mCons (mVar 4) (mNil)))) (mNil)))) (mC (.bl true)))) (mRet (mC (.bl false))) (mSkip))))))) [some w0, some (.r i), some w2, some (.t (.lst (w.map T.str))), some (.t (.lst (r.map T.str))), some (.t (.tup [.lst (w'.map T.str), .lst (r'.map T.str)])), c6, c7, c8, c9, c10, c11, c12] hp = .ok (.nx [some w0, some (.r i), some w2, some (.t (.lst (w.map T.str))), some (.t (.lst (r.map T.str))), some (.t (.tup [.lst (w'.map T.str), .lst (r'.map T.str)])), some (.t (.lst [.lst (((rowsL (manyOf w.length) w.length).filter (seeB w w r)).map rT), .lst (((rowsL (manyOf w.length) w.length).filter (seeB w w' r')).map rT)])), e7, e8, e9, e10, some (.t (.bl (alikeB w r w' r'))), c12]) hp' ∧ Deal i j hp' := by
  obtain ⟨li, lj⟩ := d.lt
  have rn : r.Nodup := pr0.nodup_iff.mpr wn
  have rn' : r'.Nodup := pr.nodup_iff.mpr wn
  have mr : ∀ z, z ∈ r ↔ z ∈ r' := fun z => pr0.mem_iff.trans pr.mem_iff.symm
  have rl := pr0.length_eq
  have rl' := pr.length_eq
  let h1 : IH := hp ++ [some (.lst [])]
  have d1 : Deal i j h1 := d.keep (by simp only [h1]; rw [List.getElem?_append_left li]) (by simp only [h1]; rw [List.getElem?_append_left lj])
  obtain ⟨e7, e8, e9, e10, h2, q2, k2, d2⟩ := lots_is (w := w) (r := r) (w' := w') (r' := r') (i := i) (j := j) (kl := hp.length) (w0 := w0) (w2 := w2) (c7 := c7) (c8 := c8) (c9 := c9) (c10 := c10) (c11 := c11) (c12 := c12) (hp := h1) wn h5 h0 pr0 pw pr (by simp [h1]) d1 (by omega) (by omega)
  let h3 : IH := h2.set hp.length none
  have qa : ∀ h : IH, F_alike [.t (.tup [.lst (w.map T.str), .lst (r.map T.str)]), .t (.tup [.lst (w'.map T.str), .lst (r'.map T.str)])] h = .ok (.t (.bl (alikeB w r w' r'))) h := fun h =>
    alike_is (b1 := false) (b2 := false) (b3 := false) (b4 := false) (fun z hz => pr0.mem_iff.mp hz) (fun z hz => pw.mem_iff.mpr (pr.mem_iff.mp hz)) (by omega) (by omega) rn rn' fun z hz => (mr z).mp hz
  have qb : ∀ h : IH, F_alike [.t (.tup [.lst (w'.map T.str), .lst (r'.map T.str)]), .t (.tup [.lst (w.map T.str), .lst (r.map T.str)])] h = .ok (.t (.bl (alikeB w r w' r'))) h := fun h => by
    rw [← alike_swap rn rn' mr]
    exact alike_is (b1 := false) (b2 := false) (b3 := false) (b4 := false) (fun z hz => pw.mem_iff.mpr (pr.mem_iff.mp hz)) (fun z hz => pr0.mem_iff.mp hz) (by omega) (by omega) rn' rn fun z hz => (mr z).mpr hz
  have qc : ∀ h : IH, F_alike [.t (.tup [.tup (w.map T.str), .tup (r.map T.str)]), .t (.tup [.lst (w.map T.str), .lst (r.map T.str)])] h = .ok (.t (.bl true)) h := fun h => by
    rw [← alike_self (w := w) rn]
    exact alike_is (b1 := true) (b2 := true) (b3 := false) (b4 := false) (fun z hz => pr0.mem_iff.mp hz) (fun z hz => pr0.mem_iff.mp hz) (by omega) rfl rn rn fun z hz => hz
  have due := due_alike (w := w) (r := r) (w2 := w') (r2 := r') (many := manyOf w.length) wn pr0 pw pr (by unfold manyOf; split <;> omega)
  refine ⟨e7, e8, e9, e10, h3, ?_, d2.keep (List.getElem?_set_ne (by omega)) (List.getElem?_set_ne (by omega))⟩
  refine seq_ok (set_ok (w := .r hp.length) (h1 := h1) (by rw [p_app, p_nil, bind_ok, newL_nil])) ?_
  simp only [List.set_cons_succ, List.set_cons_zero]
  refine seq_ok q2 ?_
  refine fz_ok (h1 := h3) (w := .r hp.length) rfl (frz_ok k2) ?_
  simp only [List.set_cons_succ, List.set_cons_zero]
  refine seq_ok (set_ok (w := .t (.bl (alikeB w r w' r'))) (h1 := h3) (by
    rw [← due]
    exact binP (binP rfl rfl ev_ixl0) (binP rfl rfl ev_ixl1) rows_eq)) ?_
  simp only [List.set_cons_succ, List.set_cons_zero]
  clear due q2 k2
  generalize alikeB w r w' r' = b at *
  cases b <;> simp_arith [qa, qb, qc, repr_b]
theorem turn_is {i j : Nat} {w0 w2 : W} {c3 c4 c5 c6 c7 c8 c9 c10 c11 c12 : Option W} {hp : IH} (d : Deal i j hp) :
    ∃ (e3 e4 e5 e6 e7 e8 e9 e10 e11 : Option W) (hp' : IH), f_law_l3 [some w0, some (.r i), some w2, c3, c4, c5, c6, c7, c8, c9, c10, c11, c12] hp = .ok (.nx [some w0, some (.r i), some w2, e3, e4, e5, e6, e7, e8, e9, e10, e11, c12]) hp' ∧ Deal i j hp' := by
  obtain ⟨w, r, h1, q1, wn, pr, w0l, w5, d1, _⟩ := orders_is (m := 5) d (by omega)
  have w5 : w.length ≤ 5 := by omega
  have rl := pr.length_eq
  obtain ⟨wa, h2, q2, pa, d2⟩ := near_is (l := w) d1 (by omega)
  obtain ⟨ra, h3, q3, pb, d3⟩ := near_is (l := r) d2 (by omega)
  obtain ⟨n, h4, q4, n0, n1, d4, _⟩ := draw_is (wide := 4) d3 (by omega) (by omega)
  have go : ∃ (w' r' : List Str) (h5 : IH), w'.Perm w ∧ r'.Perm w ∧ Deal i j h5 ∧ (mIf (mTest asB (mBin (eqW false) (mCall F_w_draw [] (mCons (mVar 1) (mCons (mC (.int 4)) (mNil)))) (mC (.int 0)))) (mSet 5 (mApp tupOf (mCons (mCall F_w_mixed [] (mCons (mVar 1) (mCons (mVar 3) (mNil)))) (mCons (mCall F_w_mixed [] (mCons (mVar 1) (mCons (mVar 4) (mNil)))) (mNil))))) (mSkip)) [some w0, some (.r i), some w2, some (.t (.lst (w.map T.str))), some (.t (.lst (r.map T.str))), some (.t (.tup [.lst (wa.map T.str), .lst (ra.map T.str)])), c6, c7, c8, c9, c10, c11, c12] h3 = .ok (.nx [some w0, some (.r i), some w2, some (.t (.lst (w.map T.str))), some (.t (.lst (r.map T.str))), some (.t (.tup [.lst (w'.map T.str), .lst (r'.map T.str)])), c6, c7, c8, c9, c10, c11, c12]) h5 := by
    by_cases z : n = 0
    · subst z
      obtain ⟨z1, h5, p1, q5, d5, _⟩ := mixed_is (ts := w.map T.str) d4 (by rw [List.length_map]; omega) fitL_strs
      obtain ⟨w', pw, rfl⟩ := perm_strs p1
      obtain ⟨z2, h6, p2, q6, d6, _⟩ := mixed_is (ts := r.map T.str) d5 (by rw [List.length_map]; omega) fitL_strs
      obtain ⟨r', pr', rfl⟩ := perm_strs p2
      refine ⟨w', r', h6, pw, pr'.trans pr, d6, ?_⟩
      simp_arith [q4, q5, q6]
    · refine ⟨wa, ra, h4, pa, pb.trans pr, d4, ?_⟩
      have nz : decide (n = 0) = false := decide_eq_false z
      simp_arith [q4, nz]
  obtain ⟨w', r', h5, pw, pr', d5, q5⟩ := go
  obtain ⟨e7, e8, e9, e10, h6, q6, d6⟩ := tail_is (w := w) (r := r) (w' := w') (r' := r') (i := i) (j := j) (w0 := w0) (w2 := w2) (c6 := c6) (c7 := c7) (c8 := c8) (c9 := c9) (c10 := c10) (c11 := c11) (c12 := c12) (hp := h5) wn w5 w0l pr pw pr' d5
  refine ⟨some (.t (.lst (w.map T.str))), some (.t (.lst (r.map T.str))), some (.t (.tup [.lst (w'.map T.str), .lst (r'.map T.str)])), some (.t (.lst [.lst (((rowsL (manyOf w.length) w.length).filter (seeB w w r)).map rT), .lst (((rowsL (manyOf w.length) w.length).filter (seeB w w' r')).map rT)])), e7, e8, e9, e10, some (.t (.bl (alikeB w r w' r'))), h6, ?_, d6⟩
  unfold f_law_l3
  refine seq_ok (e1 := [some w0, some (.r i), some w2, some (.t (.lst (w.map T.str))), some (.t (.lst (r.map T.str))), c5, c6, c7, c8, c9, c10, c11, c12]) (h1 := h1) (by simp_arith [q1]) ?_
  refine seq_ok (e1 := [some w0, some (.r i), some w2, some (.t (.lst (w.map T.str))), some (.t (.lst (r.map T.str))), some (.t (.tup [.lst (wa.map T.str), .lst (ra.map T.str)])), c6, c7, c8, c9, c10, c11, c12]) (h1 := h3) (by simp_arith [q2, q3]) ?_
  refine seq_ok q5 ?_
  exact q6
theorem turns {i j : Nat} {w0 : W} : ∀ (ks : List Nat) (c2 c3 c4 c5 c6 c7 c8 c9 c10 c11 c12 : Option W) (hp : IH), Deal i j hp → ∃ (eta : IS) (hp' : IH),
    forL (gN 2) f_law_l3 (ks.map natW) [some w0, some (.r i), c2, c3, c4, c5, c6, c7, c8, c9, c10, c11, c12] hp = .ok (.nx eta) hp'
  | [], c2, c3, c4, c5, c6, c7, c8, c9, c10, c11, c12, hp, _ => ⟨_, hp, rfl⟩
  | k :: ks, c2, c3, c4, c5, c6, c7, c8, c9, c10, c11, c12, hp, d => by
    obtain ⟨e3, e4, e5, e6, e7, e8, e9, e10, e11, h1, q1, d1⟩ := turn_is (w0 := w0) (w2 := natW k) (c3 := c3) (c4 := c4) (c5 := c5) (c6 := c6) (c7 := c7) (c8 := c8) (c9 := c9) (c10 := c10) (c11 := c11) (c12 := c12) d
    obtain ⟨eta, h2, q2⟩ := turns (w0 := w0) ks (some (natW k)) e3 e4 e5 e6 e7 e8 e9 e10 e11 c12 h1 d1
    refine ⟨eta, h2, ?_⟩
    simp only [List.map_cons, forL, p_gN, List.set_cons_succ, List.set_cons_zero, q1, bind_ok, q2]
theorem law_is {ns : List Int} (hn : ns.length ≤ 63) : ∃ hp', F_law [.t (.scr (ns.map T.int))] [] = .ok (.t (.bl true)) hp' := by
  obtain ⟨h1, q1, d1, _, _⟩ := deal_is (hp := []) hn
  obtain ⟨eta, h2, q2⟩ := turns (w0 := .t (.scr (ns.map T.int))) (List.range 6) none none none none none none none none none none none h1 d1
  refine ⟨h2, ?_⟩
  have rg : rng1 [W.t (.int 6)] h1 = .ok ((List.range 6).map natW) h1 := rng_is (n := 6) (by omega)
  simp only [List.length_nil] at q1 q2
  unfold F_law fnM B_law
  simp_arith [q1, rg, q2]

def topS (i : Nat) : Stmt := PySem.Challenge.pw_untorn_k47_orders_that_see_the_same.main.body.getD i (.Pass ⟨0, 0, 0, 0⟩)
section
variable {P : Program} {w : World} {K : PySem.W.Frag} {mg : Str → Option Value} {base : Heap}
abbrev s_w_deal : Stmt := topS 6
abbrev N_w_deal : List Str := ["_law_script", "_law_base", "_law_cells", "_law_stirred", "_law_at", "_law_cell"]
theorem sc_w_deal : FnScope N_w_deal ["_law_script", "_law_base"] (defScope s_w_deal) := ⟨rfl, rfl, rfl, by decide +kernel, rfl, by decide +kernel, by decide +kernel⟩
theorem okf_w_deal {f : Addr} {fd : FuncData} {dfs : List V} {kws : List (Str × V)} (F : FunD K "_law_deal" "_law_deal" (defArgs s_w_deal) (defBody s_w_deal) (defScope s_w_deal) dfs kws f fd) (m_enumerate : mg "enumerate" = none) (m_int : mg "int" = none) (m_abs : mg "abs" = none) :
    FnG P w K mg base (L2.CX P w) 1 f fd ["_law_script", "_law_base"] (spM K F_w_deal 2) :=
  okM (k := 0) F sc_w_deal fun cdv A outer s H E hr hgd => by
    have hN : N_w_deal.Nodup := sc_w_deal.nd
    have hu := hr.units
    exact is_cons (by first | exact st_comp (i := 2) (own := [("_law_cell", 5)]) (T := mYes) (E := f_w_deal_c3) rfl hN rfl rfl rfl (ii_sq (ie_slice (ie_var 0) (io_some (ie_var 1)) (io_some (ie_int)))) (by first | exact blkOk_by (N := N_w_deal) (sc := defScope s_w_deal) (by decide +kernel) | exact blkOk_by (by with_unfolding_all rfl) | exact blkOk_by (by decide +kernel +revert)) (fun _ _ _ _ _ => pg_name (i := 5) hN rfl (by first | exact .inl rfl | exact .inr rfl)) (tg_name 5) (fun _ _ _ _ _ => its_nil) (fun _ _ _ _ _ => ie_bi call_abs ok_abs (ia_cons (ie_bt call_int1 ok_int (ia_cons (ie_var 5) (ia_nil)) m_int) (ia_nil)) m_abs) fin_lst | exact st_set 2 hN (ie_comp (own := [("_law_cell", 5)]) (T := mYes) (E := f_w_deal_c3) rfl hN (ii_sq (ie_slice (ie_var 0) (io_some (ie_var 1)) (io_some (ie_int)))) (by first | exact blkOk_by (N := N_w_deal) (sc := defScope s_w_deal) (by decide +kernel) | exact blkOk_by (by with_unfolding_all rfl) | exact blkOk_by (by decide +kernel +revert)) (fun _ _ _ _ _ => pg_name (i := 5) hN rfl (by first | exact .inl rfl | exact .inr rfl)) (tg_name 5) (fun _ _ _ _ _ => its_nil) (fun _ _ _ _ _ => ie_bi call_abs ok_abs (ia_cons (ie_bt call_int1 ok_int (ia_cons (ie_var 5) (ia_nil)) m_int) (ia_nil)) m_abs) fin_lst)) (is_cons (st_set 3 hN (ie_addA (ie_int) (ie_mulA (ie_int) (ie_var 1)))) (is_cons (st_for (B := f_w_deal_l1) PassesOwn.never rfl (ii_en (by rfl) m_enumerate (ia_cons (ie_var 2) (ia_nil))) (pg_tup rfl (pgs_cons (pg_name (i := 4) hN rfl (by first | exact .inl rfl | exact .inr rfl)) (pgs_cons (pg_name (i := 5) hN rfl (by first | exact .inl rfl | exact .inr rfl)) (pgs_nil)))) (tg_tup (tgs_cons (tg_name 4) (tgs_cons (tg_name 5) (tgs_nil)))) (is_one (st_set 3 hN (ie_mod (ie_bt call_int1 ok_int (ia_cons (ie_addA (ie_mulA (ie_addA (ie_addA (ie_var 3) (ie_var 4)) (ie_int)) (ie_int)) (ie_mod (ie_bt call_int1 ok_int (ia_cons (ie_var 5) (ia_nil)) m_int) (ie_int))) (ia_nil)) m_int) (ie_int))))) (is_one (st_ret (ie_disp (ip_str (ie_revL (ie_comp (own := [("_law_cell", 5)]) (T := f_w_deal_c1) (E := f_w_deal_c2) rfl hN (ii_sq (ie_var 2)) (by first | exact blkOk_by (N := N_w_deal) (sc := defScope s_w_deal) (by decide +kernel) | exact blkOk_by (by with_unfolding_all rfl) | exact blkOk_by (by decide +kernel +revert)) (fun _ _ _ _ _ => pg_name (i := 5) hN rfl (by first | exact .inl rfl | exact .inr rfl)) (tg_name 5) (fun _ _ _ _ _ => its_one (it_ge (ie_var 5) (ie_pow (ie_int) (ie_int)))) (fun _ _ _ _ _ => ie_var 5) fin_lst)) (ip_str (ie_var 3) (ip_nil))))))))
abbrev s_w_draw : Stmt := topS 7
abbrev N_w_draw : List Str := ["_law_deal_here", "_law_wide", "_law_great", "_law_cell"]
theorem sc_w_draw : FnScope N_w_draw ["_law_deal_here", "_law_wide"] (defScope s_w_draw) := ⟨rfl, rfl, rfl, by decide +kernel, rfl, by decide +kernel, by decide +kernel⟩
theorem okf_w_draw {f : Addr} {fd : FuncData} {dfs : List V} {kws : List (Str × V)} (F : FunD K "_law_draw" "_law_draw" (defArgs s_w_draw) (defBody s_w_draw) (defScope s_w_draw) dfs kws f fd) (m_int : mg "int" = none) :
    FnG P w K mg base (L2.CX P w) 1 f fd ["_law_deal_here", "_law_wide"] (spM K F_w_draw 2) :=
  okM (k := 0) F sc_w_draw fun cdv A outer s H E hr hgd => by
    have hN : N_w_draw.Nodup := sc_w_draw.nd
    have hu := hr.units
    exact is_cons (st_set 2 hN (ie_dget hu (ie_var 0) (ie_str))) (is_cons (st_while (B := f_w_draw_l1) 4096 PassesOwn.never ((iw_and (it_ne hu (ie_var 2) (ie_lstF (ia_nil))) (iw_and1 (it_eq hu (ie_sub1 (ie_var 2) (ie_neg (ie_int))) (ie_int)))).it) (is_one (st_expr (ie_pop (ie_var 2))))) (is_cons (st_if (it_ne hu (ie_var 2) (ie_lstF (ia_nil))) (is_cons (st_set 3 hN (ie_pop (ie_var 2))) (is_cons (st_expr (ie_append (ie_var 2) (ia_cons (ie_div (ie_var 3) (ie_var 1)) (ia_nil)))) (is_one (st_ret (ie_mod (ie_bt call_int1 ok_int (ia_cons (ie_var 3) (ia_nil)) m_int) (ie_var 1)))))) (is_nil)) (is_cons (st_dput hu (ie_var 0) (ie_str) (ie_mod (ie_bt call_int1 ok_int (ia_cons (ie_addA (ie_mulA (ie_dget hu (ie_var 0) (ie_str)) (ie_int)) (ie_int)) (ia_nil)) m_int) (ie_int))) (is_one (st_ret (ie_mod (ie_bt call_int1 ok_int (ia_cons (ie_div (ie_dget hu (ie_var 0) (ie_str)) (ie_int)) (ia_nil)) m_int) (ie_var 1)))))))
abbrev s_w_mixed : Stmt := topS 9
abbrev N_w_mixed : List Str := ["_law_deal_here", "_law_some", "_law_left", "_law_found"]
theorem sc_w_mixed : FnScope N_w_mixed ["_law_deal_here", "_law_some"] (defScope s_w_mixed) := ⟨rfl, rfl, rfl, by decide +kernel, rfl, by decide +kernel, by decide +kernel⟩
theorem okf_w_mixed {f : Addr} {fd : FuncData} {dfs : List V} {kws : List (Str × V)} (F : FunD K "_law_mixed" "_law_mixed" (defArgs s_w_mixed) (defBody s_w_mixed) (defScope s_w_mixed) dfs kws f fd) (m_len : mg "len" = none) (m_list : mg "list" = none) {a_w_draw : Addr} {d_w_draw : FuncData} (ok_w_draw : FnG P w K mg base (L2.CX P w) 1 a_w_draw d_w_draw ["_law_deal_here", "_law_wide"] (spM K F_w_draw 2)) (g_w_draw : mg "_law_draw" = some (.ref a_w_draw)) (k_w_draw : PySem.W.keepIn K (.ref a_w_draw) = true) (b_w_draw2 : Binds K d_w_draw ["_law_deal_here", "_law_wide"] []) :
    FnG P w K mg base (L2.CX P w) 2 f fd ["_law_deal_here", "_law_some"] (spM K F_w_mixed 2) :=
  okM (k := 1) F sc_w_mixed fun cdv A outer s H E hr hgd => by
    have hN : N_w_mixed.Nodup := sc_w_mixed.nd
    have hu := hr.units
    exact is_cons (st_par2 rfl hN (ia_cons (ie_bt call_list_of ok_listL (ia_cons (ie_var 1) (ia_nil)) m_list) (ia_cons (ie_lstL (ia_nil)) (ia_nil)))) (is_cons (st_while (B := f_w_mixed_l1) 4096 PassesOwn.never (it_ne hu (ie_var 2) (ie_lstF (ia_nil))) (is_one (st_expr (ie_append (ie_var 3) (ia_cons (ie_popAt (ie_var 2) (ia_cons (ie_call (dts := []) (dvs := []) ok_w_draw (hr.mono (by decide)) hgd (by rfl) g_w_draw k_w_draw b_w_draw2 .nil (fun s => rfl) fnM_len (ia_cons (ie_var 0) (ia_cons (ie_bi call_len ok_len (ia_cons (ie_var 2) (ia_nil)) m_len) (ia_nil)))) (ia_nil))) (ia_nil)))))) (is_fz 3 (is_one (st_ret (ie_var 3)))))
abbrev s_w_orders : Stmt := topS 14
abbrev N_w_orders : List Str := ["_law_deal_here", "_law_most", "_law_names"]
theorem sc_w_orders : FnScope N_w_orders ["_law_deal_here", "_law_most"] (defScope s_w_orders) := ⟨rfl, rfl, rfl, by decide +kernel, rfl, by decide +kernel, by decide +kernel⟩
theorem okf_w_orders {f : Addr} {fd : FuncData} {dfs : List V} {kws : List (Str × V)} (F : FunD K "_law_orders" "_law_orders" (defArgs s_w_orders) (defBody s_w_orders) (defScope s_w_orders) dfs kws f fd) {a_w_mixed : Addr} {d_w_mixed : FuncData} (ok_w_mixed : FnG P w K mg base (L2.CX P w) 2 a_w_mixed d_w_mixed ["_law_deal_here", "_law_some"] (spM K F_w_mixed 2)) (g_w_mixed : mg "_law_mixed" = some (.ref a_w_mixed)) (k_w_mixed : PySem.W.keepIn K (.ref a_w_mixed) = true) (b_w_mixed2 : Binds K d_w_mixed ["_law_deal_here", "_law_some"] []) {a_w_draw : Addr} {d_w_draw : FuncData} (ok_w_draw : FnG P w K mg base (L2.CX P w) 1 a_w_draw d_w_draw ["_law_deal_here", "_law_wide"] (spM K F_w_draw 2)) (g_w_draw : mg "_law_draw" = some (.ref a_w_draw)) (k_w_draw : PySem.W.keepIn K (.ref a_w_draw) = true) (b_w_draw2 : Binds K d_w_draw ["_law_deal_here", "_law_wide"] []) :
    FnG P w K mg base (L2.CX P w) 3 f fd ["_law_deal_here", "_law_most"] (spM K F_w_orders 2) :=
  okM (k := 2) F sc_w_orders fun cdv A outer s H E hr hgd => by
    have hN : N_w_orders.Nodup := sc_w_orders.nd
    have hu := hr.units
    exact is_cons (st_set 2 hN (ie_slice (ie_call (dts := []) (dvs := []) ok_w_mixed (hr.mono (by decide)) hgd (by rfl) g_w_mixed k_w_mixed b_w_mixed2 .nil (fun s => rfl) fnM_len (ia_cons (ie_var 0) (ia_cons (ie_lstF (ia_cons (ie_str) (ia_cons (ie_str) (ia_cons (ie_str) (ia_cons (ie_str) (ia_cons (ie_str) (ia_nil))))))) (ia_nil)))) io_none (io_some (ie_addA (ie_int) (ie_call (dts := []) (dvs := []) ok_w_draw (hr.mono (by decide)) hgd (by rfl) g_w_draw k_w_draw b_w_draw2 .nil (fun s => rfl) fnM_len (ia_cons (ie_var 0) (ia_cons (ie_var 1) (ia_nil)))))))) (is_one (st_ret (ie_tup (ia_cons (ie_call (dts := []) (dvs := []) ok_w_mixed (hr.mono (by decide)) hgd (by rfl) g_w_mixed k_w_mixed b_w_mixed2 .nil (fun s => rfl) fnM_len (ia_cons (ie_var 0) (ia_cons (ie_var 2) (ia_nil)))) (ia_cons (ie_call (dts := []) (dvs := []) ok_w_mixed (hr.mono (by decide)) hgd (by rfl) g_w_mixed k_w_mixed b_w_mixed2 .nil (fun s => rfl) fnM_len (ia_cons (ie_var 0) (ia_cons (ie_var 2) (ia_nil)))) (ia_nil))))))
abbrev s_w_near : Stmt := topS 15
abbrev N_w_near : List Str := ["_law_deal_here", "_law_some", "_law_at"]
theorem sc_w_near : FnScope N_w_near ["_law_deal_here", "_law_some"] (defScope s_w_near) := ⟨rfl, rfl, rfl, by decide +kernel, rfl, by decide +kernel, by decide +kernel⟩
theorem okf_w_near {f : Addr} {fd : FuncData} {dfs : List V} {kws : List (Str × V)} (F : FunD K "_law_near" "_law_near" (defArgs s_w_near) (defBody s_w_near) (defScope s_w_near) dfs kws f fd) (m_len : mg "len" = none) (m_list : mg "list" = none) {a_w_draw : Addr} {d_w_draw : FuncData} (ok_w_draw : FnG P w K mg base (L2.CX P w) 1 a_w_draw d_w_draw ["_law_deal_here", "_law_wide"] (spM K F_w_draw 2)) (g_w_draw : mg "_law_draw" = some (.ref a_w_draw)) (k_w_draw : PySem.W.keepIn K (.ref a_w_draw) = true) (b_w_draw2 : Binds K d_w_draw ["_law_deal_here", "_law_wide"] []) :
    FnG P w K mg base (L2.CX P w) 2 f fd ["_law_deal_here", "_law_some"] (spM K F_w_near 2) :=
  okM (k := 1) F sc_w_near fun cdv A outer s H E hr hgd => by
    have hN : N_w_near.Nodup := sc_w_near.nd
    have hu := hr.units
    exact is_cons (st_if ((iw_or (it_ltA (ie_bi call_len ok_len (ia_cons (ie_var 1) (ia_nil)) m_len) (ie_int)) (iw_or1 (it_eq hu (ie_call (dts := []) (dvs := []) ok_w_draw (hr.mono (by decide)) hgd (by rfl) g_w_draw k_w_draw b_w_draw2 .nil (fun s => rfl) fnM_len (ia_cons (ie_var 0) (ia_cons (ie_int) (ia_nil)))) (ie_int)))).it) (is_one (st_ret (ie_bt call_list_of ok_listF (ia_cons (ie_var 1) (ia_nil)) m_list))) (is_nil)) (is_cons (st_set 2 hN (ie_call (dts := []) (dvs := []) ok_w_draw (hr.mono (by decide)) hgd (by rfl) g_w_draw k_w_draw b_w_draw2 .nil (fun s => rfl) fnM_len (ia_cons (ie_var 0) (ia_cons (ie_sub (ie_bi call_len ok_len (ia_cons (ie_var 1) (ia_nil)) m_len) (ie_int)) (ia_nil))))) (is_one (st_ret (ie_addA (ie_addA (ie_slice (ie_var 1) io_none (io_some (ie_var 2))) (ie_lstF (ia_cons (ie_sub1 (ie_var 1) (ie_addA (ie_var 2) (ie_int))) (ia_cons (ie_sub1 (ie_var 1) (ie_var 2)) (ia_nil))))) (ie_slice (ie_var 1) (io_some (ie_addA (ie_var 2) (ie_int))) io_none)))))
abbrev s_w_rows : Stmt := topS 13
abbrev N_w_rows : List Str := ["_law_size", "_law_many", "_law_found", "_law_turn", "_law_longer", "_law_row", "_law_number"]
theorem sc_w_rows : FnScope N_w_rows ["_law_size", "_law_many"] (defScope s_w_rows) := ⟨rfl, rfl, rfl, by decide +kernel, rfl, by decide +kernel, by decide +kernel⟩
theorem okf_w_rows {f : Addr} {fd : FuncData} {dfs : List V} {kws : List (Str × V)} (F : FunD K "_law_rows" "_law_rows" (defArgs s_w_rows) (defBody s_w_rows) (defScope s_w_rows) dfs kws f fd) (m_range : mg "range" = none) :
    FnG P w K mg base (L2.CX P w) 1 f fd ["_law_size", "_law_many"] (spM K F_w_rows 2) :=
  okP (k := 0) F sc_w_rows fun cdv A outer s H E hr hgd => by
    have hN : N_w_rows.Nodup := sc_w_rows.nd
    have hu := hr.units
    exact is_cons (st_set 2 hN (ie_lstF (ia_cons (ie_tup (ia_nil)) (ia_nil)))) (is_cons (st_for (B := f_w_rows_l2) PassesOwn.never rfl (ii_rng1 (by rfl) m_range (ia_cons (ie_var 0) (ia_nil))) (pg_name (i := 3) hN rfl (by first | exact .inl rfl | exact .inr rfl)) (tg_name 3) (is_cons (st_set 4 hN (ie_lstL (ia_nil))) (is_cons (st_for (B := f_w_rows_l1) PassesOwn.never rfl (ii_sq (ie_var 2)) (pg_name (i := 5) hN rfl (by first | exact .inl rfl | exact .inr rfl)) (tg_name 5) (is_one (st_expr (ie_extend (ie_var 4) (ia_cons (ie_comp (own := [("_law_number", 6)]) (T := mYes) (E := f_w_rows_c1) rfl hN (ii_rng1 (by rfl) m_range (ia_cons (ie_var 1) (ia_nil))) (by first | exact blkOk_by (N := N_w_rows) (sc := defScope s_w_rows) (by decide +kernel) | exact blkOk_by (by with_unfolding_all rfl) | exact blkOk_by (by decide +kernel +revert)) (fun _ _ _ _ _ => pg_name (i := 6) hN rfl (by first | exact .inl rfl | exact .inr rfl)) (tg_name 6) (fun _ _ _ _ _ => its_nil) (fun _ _ _ _ _ => ie_addA (ie_var 5) (ie_tup (ia_cons (ie_var 6) (ia_nil)))) fin_lst) (ia_nil)))))) (is_fz 4 (is_one (st_set 2 hN (ie_var 4))))))) (is_one (st_ret (ie_var 2))))
abbrev s_greatest_excess : Stmt := topS 1
abbrev N_greatest_excess : List Str := ["writes", "reads", "earlier", "later", "most", "one", "other"]
theorem sc_greatest_excess : FnScope N_greatest_excess ["writes", "reads", "earlier", "later", "most"] (defScope s_greatest_excess) := ⟨rfl, rfl, rfl, by decide +kernel, rfl, by decide +kernel, by decide +kernel⟩
theorem okf_greatest_excess {f : Addr} {fd : FuncData} {dfs : List V} {kws : List (Str × V)} (F : FunD K "greatest_excess" "greatest_excess" (defArgs s_greatest_excess) (defBody s_greatest_excess) (defScope s_greatest_excess) dfs kws f fd) :
    FnG P w K mg base (L2.CX P w) 1 f fd ["writes", "reads", "earlier", "later", "most"] (spM K F_greatest_excess 5) :=
  okP (k := 0) F sc_greatest_excess fun cdv A outer s H E hr hgd => by
    have hN : N_greatest_excess.Nodup := sc_greatest_excess.nd
    have hu := hr.units
    exact is_cons (st_par2 rfl hN (ia_cons (ie_index (ie_var 0) (ia_cons (ie_sub1 (ie_var 1) (ie_var 2)) (ia_nil))) (ia_cons (ie_index (ie_var 0) (ia_cons (ie_sub1 (ie_var 1) (ie_var 3)) (ia_nil))) (ia_nil)))) (is_cons (st_if (it_ltA (ie_var 2) (ie_var 3)) (is_one (st_ret (ie_if (it_ltA (ie_var 5) (ie_var 6)) (ie_int) (ie_int)))) (is_nil)) (is_cons (st_if (it_isN (ie_var 4) (ie_non)) (is_one (st_ret (ie_non))) (is_nil)) (is_one (st_ret (ie_if (it_eq hu (ie_var 6) (ie_int)) (ie_var 4) (ie_addA (ie_var 4) (ie_int)))))))
abbrev s_differences : Stmt := topS 2
abbrev N_differences : List Str := ["writes", "reads", "most", "order", "found", "at", "row", "spot"]
theorem sc_differences : FnScope N_differences ["writes", "reads", "most"] (defScope s_differences) := ⟨rfl, rfl, rfl, by decide +kernel, rfl, by decide +kernel, by decide +kernel⟩
theorem okf_differences {f : Addr} {fd : FuncData} {dfs : List V} {kws : List (Str × V)} (F : FunD K "differences" "differences" (defArgs s_differences) (defBody s_differences) (defScope s_differences) dfs kws f fd) (m_tuple : mg "tuple" = none) (m_range : mg "range" = none) (m_len : mg "len" = none) (m_list : mg "list" = none) {a_greatest_excess : Addr} {d_greatest_excess : FuncData} (ok_greatest_excess : FnG P w K mg base (L2.CX P w) 1 a_greatest_excess d_greatest_excess ["writes", "reads", "earlier", "later", "most"] (spM K F_greatest_excess 5)) (g_greatest_excess : mg "greatest_excess" = some (.ref a_greatest_excess)) (k_greatest_excess : PySem.W.keepIn K (.ref a_greatest_excess) = true) (b_greatest_excess5 : Binds K d_greatest_excess ["writes", "reads", "earlier", "later", "most"] []) :
    FnG P w K mg base (L2.CX P w) 2 f fd ["writes", "reads", "most"] (spM K F_differences 3) :=
  okP (k := 1) F sc_differences fun cdv A outer s H E hr hgd => by
    have hN : N_differences.Nodup := sc_differences.nd
    have hu := hr.units
    exact is_cons (st_par2 rfl hN (ia_cons (ie_bt call_list_of ok_listF (ia_cons (ie_var 0) (ia_nil)) m_list) (ia_cons (ie_lstL (ia_nil)) (ia_nil)))) (is_cons (st_for (B := f_differences_l2) PassesOwn.never rfl (ii_rng1 (by rfl) m_range (ia_cons (ie_bi call_len ok_len (ia_cons (ie_var 1) (ia_nil)) m_len) (ia_nil))) (pg_name (i := 5) hN rfl (by first | exact .inl rfl | exact .inr rfl)) (tg_name 5) (is_cons (st_set 6 hN (ie_lstL (ia_nil))) (is_cons (st_for (B := f_differences_l1) PassesOwn.never rfl (ii_rng1 (by rfl) m_range (ia_cons (ie_bi call_len ok_len (ia_cons (ie_var 1) (ia_nil)) m_len) (ia_nil))) (pg_name (i := 7) hN rfl (by first | exact .inl rfl | exact .inr rfl)) (tg_name 7) (is_one (st_expr (ie_append (ie_var 6) (ia_cons (ie_if (it_eq hu (ie_var 5) (ie_var 7)) (ie_int) (ie_call (dts := []) (dvs := []) ok_greatest_excess (hr.mono (by decide)) hgd (by rfl) g_greatest_excess k_greatest_excess b_greatest_excess5 .nil (fun s => rfl) fnP_len (ia_cons (ie_var 3) (ia_cons (ie_var 1) (ia_cons (ie_var 5) (ia_cons (ie_var 7) (ia_cons (ie_var 2) (ia_nil)))))))) (ia_nil)))))) (is_fz 6 (is_one (st_expr (ie_append (ie_var 4) (ia_cons (ie_bt call_tupS ok_tup (ia_cons (ie_var 6) (ia_nil)) m_tuple) (ia_nil))))))))) (is_fz 4 (is_one (st_ret (ie_bt call_tupS ok_tup (ia_cons (ie_var 4) (ia_nil)) m_tuple)))))
abbrev s_named : Stmt := topS 3
abbrev N_named : List Str := ["pair", "writes", "reads", "table", "found", "at", "row", "spot", "limit", "one", "other"]
theorem sc_named : FnScope N_named ["pair"] (defScope s_named) := ⟨rfl, rfl, rfl, by decide +kernel, rfl, by decide +kernel, by decide +kernel⟩
theorem okf_named {f : Addr} {fd : FuncData} {dfs : List V} {kws : List (Str × V)} (F : FunD K "named" "named" (defArgs s_named) (defBody s_named) (defScope s_named) dfs kws f fd) (m_dict : mg "dict" = none) (m_enumerate : mg "enumerate" = none) {a_differences : Addr} {d_differences : FuncData} (ok_differences : FnG P w K mg base (L2.CX P w) 2 a_differences d_differences ["writes", "reads", "most"] (spM K F_differences 3)) (g_differences : mg "differences" = some (.ref a_differences)) (k_differences : PySem.W.keepIn K (.ref a_differences) = true) (b_differences2 : Binds K d_differences ["writes", "reads", "most"] [.none]) :
    FnG P w K mg base (L2.CX P w) 3 f fd ["pair"] (spM K F_named 1) :=
  okP (k := 2) F sc_named fun cdv A outer s H E hr hgd => by
    have hN : N_named.Nodup := sc_named.nd
    have hu := hr.units
    exact is_cons (st_asg (ie_var 0) (pg_any rfl (pgs_cons (pg_name (i := 1) hN rfl (by first | exact .inl rfl | exact .inr rfl)) (pgs_cons (pg_name (i := 2) hN rfl (by first | exact .inl rfl | exact .inr rfl)) (pgs_nil)))) (tg_any (tgs_cons (tg_name 1) (tgs_cons (tg_name 2) (tgs_nil))))) (is_cons (st_par2 rfl hN (ia_cons (ie_call (dts := [.non]) (dvs := [V.non]) ok_differences (hr.mono (by decide)) hgd (by rfl) g_differences k_differences b_differences2 (.cons rfl .nil) (fun s => ⟨_, _, rfl, by simp [Rw, Rf], rfl⟩) fnP_len (ia_cons (ie_var 1) (ia_cons (ie_var 2) (ia_nil)))) (ia_cons (ie_lstL (ia_nil)) (ia_nil)))) (is_cons (st_for (B := f_named_l1) PassesOwn.never rfl (ii_en (by rfl) m_enumerate (ia_cons (ie_var 3) (ia_nil))) (pg_tup rfl (pgs_cons (pg_name (i := 5) hN rfl (by first | exact .inl rfl | exact .inr rfl)) (pgs_cons (pg_name (i := 6) hN rfl (by first | exact .inl rfl | exact .inr rfl)) (pgs_nil)))) (tg_tup (tgs_cons (tg_name 5) (tgs_cons (tg_name 6) (tgs_nil)))) (is_one (st_expr (ie_extend (ie_var 4) (ia_cons (ie_comp (own := [("spot", 7), ("limit", 8)]) (T := mYes) (E := f_named_c2) rfl hN (ii_en (by rfl) m_enumerate (ia_cons (ie_var 6) (ia_nil))) (by first | exact blkOk_by (N := N_named) (sc := defScope s_named) (by decide +kernel) | exact blkOk_by (by with_unfolding_all rfl) | exact blkOk_by (by decide +kernel +revert)) (fun _ _ _ _ _ => pg_tup rfl (pgs_cons (pg_name (i := 7) hN rfl (by first | exact .inl rfl | exact .inr rfl)) (pgs_cons (pg_name (i := 8) hN rfl (by first | exact .inl rfl | exact .inr rfl)) (pgs_nil)))) (tg_tup (tgs_cons (tg_name 7) (tgs_cons (tg_name 8) (tgs_nil)))) (fun _ _ _ _ _ => its_nil) (fun _ _ _ _ _ => ie_tup (ia_cons (ie_sub1 (ie_var 2) (ie_var 5)) (ia_cons (ie_sub1 (ie_var 2) (ie_var 7)) (ia_cons (ie_var 8) (ia_nil))))) fin_lst) (ia_nil)))))) (is_fz 4 (is_one (st_ret (ie_bt (call_dictT rfl hu) ok_dictT (ia_cons (ie_comp (own := [("one", 9), ("other", 10), ("limit", 8)]) (T := mYes) (E := f_named_c1) rfl hN (ii_sq (ie_var 4)) (by first | exact blkOk_by (N := N_named) (sc := defScope s_named) (by decide +kernel) | exact blkOk_by (by with_unfolding_all rfl) | exact blkOk_by (by decide +kernel +revert)) (fun _ _ _ _ _ => pg_tup rfl (pgs_cons (pg_name (i := 9) hN rfl (by first | exact .inl rfl | exact .inr rfl)) (pgs_cons (pg_name (i := 10) hN rfl (by first | exact .inl rfl | exact .inr rfl)) (pgs_cons (pg_name (i := 8) hN rfl (by first | exact .inl rfl | exact .inr rfl)) (pgs_nil))))) (tg_tup (tgs_cons (tg_name 9) (tgs_cons (tg_name 10) (tgs_cons (tg_name 8) (tgs_nil))))) (fun _ _ _ _ _ => its_nil) (fun _ _ _ _ _ => ie_tup (ia_cons (ie_pr (ia_cons (ie_var 9) (ia_cons (ie_var 10) (ia_nil)))) (ia_cons (ie_var 8) (ia_nil)))) fin_lst) (ia_nil)) m_dict))))))
abbrev s_alike : Stmt := topS 4
abbrev N_alike : List Str := ["one", "other"]
theorem sc_alike : FnScope N_alike ["one", "other"] (defScope s_alike) := ⟨rfl, rfl, rfl, by decide +kernel, rfl, by decide +kernel, by decide +kernel⟩
theorem okf_alike {f : Addr} {fd : FuncData} {dfs : List V} {kws : List (Str × V)} (F : FunD K "alike" "alike" (defArgs s_alike) (defBody s_alike) (defScope s_alike) dfs kws f fd) {a_named : Addr} {d_named : FuncData} (ok_named : FnG P w K mg base (L2.CX P w) 3 a_named d_named ["pair"] (spM K F_named 1)) (g_named : mg "named" = some (.ref a_named)) (k_named : PySem.W.keepIn K (.ref a_named) = true) (b_named1 : Binds K d_named ["pair"] []) :
    FnG P w K mg base (L2.CX P w) 4 f fd ["one", "other"] (spM K F_alike 2) :=
  okP (k := 3) F sc_alike fun cdv A outer s H E hr hgd => by
    have hN : N_alike.Nodup := sc_alike.nd
    have hu := hr.units
    exact is_one (st_ret (ie_eqD hu (ie_call (dts := []) (dvs := []) ok_named (hr.mono (by decide)) hgd (by rfl) g_named k_named b_named1 .nil (fun s => rfl) fnP_len (ia_cons (ie_var 0) (ia_nil))) (ie_call (dts := []) (dvs := []) ok_named (hr.mono (by decide)) hgd (by rfl) g_named k_named b_named1 .nil (fun s => rfl) fnP_len (ia_cons (ie_var 1) (ia_nil)))))
abbrev s_w_stretch : Stmt := topS 10
abbrev N_w_stretch : List Str := ["_law_writes", "_law_part", "_law_version", "_law_size", "_law_spot", "_law_first"]
theorem sc_w_stretch : FnScope N_w_stretch ["_law_writes", "_law_part", "_law_version"] (defScope s_w_stretch) := ⟨rfl, rfl, rfl, by decide +kernel, rfl, by decide +kernel, by decide +kernel⟩
theorem okf_w_stretch {f : Addr} {fd : FuncData} {dfs : List V} {kws : List (Str × V)} (F : FunD K "_law_stretch" "_law_stretch" (defArgs s_w_stretch) (defBody s_w_stretch) (defScope s_w_stretch) dfs kws f fd) (m_len : mg "len" = none) :
    FnG P w K mg base (L2.CX P w) 1 f fd ["_law_writes", "_law_part", "_law_version"] (spM K F_w_stretch 3) :=
  okP (k := 0) F sc_w_stretch fun cdv A outer s H E hr hgd => by
    have hN : N_w_stretch.Nodup := sc_w_stretch.nd
    have hu := hr.units
    exact is_cons (st_par2 rfl hN (ia_cons (ie_bi call_len ok_len (ia_cons (ie_var 0) (ia_nil)) m_len) (ia_cons (ie_index (ie_var 0) (ia_cons (ie_var 1) (ia_nil))) (ia_nil)))) (is_cons (st_set 5 hN (ie_if (it_eq hu (ie_var 2) (ie_int)) (ie_int) (ie_addA (ie_addA (ie_mulA (ie_sub (ie_var 2) (ie_int)) (ie_var 3)) (ie_var 4)) (ie_int)))) (is_one (st_ret (ie_tup (ia_cons (ie_var 5) (ia_cons (ie_addA (ie_mulA (ie_var 2) (ie_var 3)) (ie_var 4)) (ia_nil)))))))
abbrev s_w_begun : Stmt := topS 11
abbrev N_w_begun : List Str := ["_law_place", "_law_size"]
theorem sc_w_begun : FnScope N_w_begun ["_law_place", "_law_size"] (defScope s_w_begun) := ⟨rfl, rfl, rfl, by decide +kernel, rfl, by decide +kernel, by decide +kernel⟩
theorem okf_w_begun {f : Addr} {fd : FuncData} {dfs : List V} {kws : List (Str × V)} (F : FunD K "_law_begun" "_law_begun" (defArgs s_w_begun) (defBody s_w_begun) (defScope s_w_begun) dfs kws f fd) (m_int : mg "int" = none) :
    FnG P w K mg base (L2.CX P w) 1 f fd ["_law_place", "_law_size"] (spM K F_w_begun 2) :=
  okP (k := 0) F sc_w_begun fun cdv A outer s H E hr hgd => by
    have hN : N_w_begun.Nodup := sc_w_begun.nd
    have hu := hr.units
    exact is_one (st_ret (ie_div (ie_bt call_int1 ok_int (ia_cons (ie_sub (ie_addA (ie_var 0) (ie_var 1)) (ie_int)) (ia_nil)) m_int) (ie_var 1)))
abbrev s_w_possible : Stmt := topS 12
abbrev N_w_possible : List Str := ["_law_writes", "_law_reads", "_law_some", "_law_most", "_law_stretches", "_law_here", "_law_last", "_law_first", "_law_end", "_law_part", "_law_version"]
theorem sc_w_possible : FnScope N_w_possible ["_law_writes", "_law_reads", "_law_some", "_law_most"] (defScope s_w_possible) := ⟨rfl, rfl, rfl, by decide +kernel, rfl, by decide +kernel, by decide +kernel⟩
theorem okf_w_possible {f : Addr} {fd : FuncData} {dfs : List V} {kws : List (Str × V)} (F : FunD K "_law_possible" "_law_possible" (defArgs s_w_possible) (defBody s_w_possible) (defScope s_w_possible) dfs kws f fd) (m_len : mg "len" = none) (m_max : mg "max" = none) (m_int : mg "int" = none) (m_min : mg "min" = none) (m_zip : mg "zip" = none) {a_w_begun : Addr} {d_w_begun : FuncData} (ok_w_begun : FnG P w K mg base (L2.CX P w) 1 a_w_begun d_w_begun ["_law_place", "_law_size"] (spM K F_w_begun 2)) (g_w_begun : mg "_law_begun" = some (.ref a_w_begun)) (k_w_begun : PySem.W.keepIn K (.ref a_w_begun) = true) (b_w_begun2 : Binds K d_w_begun ["_law_place", "_law_size"] []) {a_w_stretch : Addr} {d_w_stretch : FuncData} (ok_w_stretch : FnG P w K mg base (L2.CX P w) 1 a_w_stretch d_w_stretch ["_law_writes", "_law_part", "_law_version"] (spM K F_w_stretch 3)) (g_w_stretch : mg "_law_stretch" = some (.ref a_w_stretch)) (k_w_stretch : PySem.W.keepIn K (.ref a_w_stretch) = true) (b_w_stretch3 : Binds K d_w_stretch ["_law_writes", "_law_part", "_law_version"] []) :
    FnG P w K mg base (L2.CX P w) 2 f fd ["_law_writes", "_law_reads", "_law_some", "_law_most"] (spM K F_w_possible 4) :=
  okP (k := 1) F sc_w_possible fun cdv A outer s H E hr hgd => by
    have hN : N_w_possible.Nodup := sc_w_possible.nd
    have hu := hr.units
    exact is_cons (by first | exact st_comp (i := 4) (own := [("_law_part", 9), ("_law_version", 10)]) (T := mYes) (E := f_w_possible_c2) rfl hN rfl rfl rfl (ii_zip (by rfl) m_zip (ia_cons (ie_var 1) (ia_cons (ie_var 2) (ia_nil)))) (by first | exact blkOk_by (N := N_w_possible) (sc := defScope s_w_possible) (by decide +kernel) | exact blkOk_by (by with_unfolding_all rfl) | exact blkOk_by (by decide +kernel +revert)) (fun _ _ _ _ _ => pg_tup rfl (pgs_cons (pg_name (i := 9) hN rfl (by first | exact .inl rfl | exact .inr rfl)) (pgs_cons (pg_name (i := 10) hN rfl (by first | exact .inl rfl | exact .inr rfl)) (pgs_nil)))) (tg_tup (tgs_cons (tg_name 9) (tgs_cons (tg_name 10) (tgs_nil)))) (fun _ _ _ _ _ => its_nil) (fun _ _ _ _ _ => ie_call (dts := []) (dvs := []) ok_w_stretch (hr.mono (by decide)) hgd (by rfl) g_w_stretch k_w_stretch b_w_stretch3 .nil (fun s => rfl) fnP_len (ia_cons (ie_var 0) (ia_cons (ie_var 9) (ia_cons (ie_var 10) (ia_nil))))) fin_lst | exact st_set 4 hN (ie_comp (own := [("_law_part", 9), ("_law_version", 10)]) (T := mYes) (E := f_w_possible_c2) rfl hN (ii_zip (by rfl) m_zip (ia_cons (ie_var 1) (ia_cons (ie_var 2) (ia_nil)))) (by first | exact blkOk_by (N := N_w_possible) (sc := defScope s_w_possible) (by decide +kernel) | exact blkOk_by (by with_unfolding_all rfl) | exact blkOk_by (by decide +kernel +revert)) (fun _ _ _ _ _ => pg_tup rfl (pgs_cons (pg_name (i := 9) hN rfl (by first | exact .inl rfl | exact .inr rfl)) (pgs_cons (pg_name (i := 10) hN rfl (by first | exact .inl rfl | exact .inr rfl)) (pgs_nil)))) (tg_tup (tgs_cons (tg_name 9) (tgs_cons (tg_name 10) (tgs_nil)))) (fun _ _ _ _ _ => its_nil) (fun _ _ _ _ _ => ie_call (dts := []) (dvs := []) ok_w_stretch (hr.mono (by decide)) hgd (by rfl) g_w_stretch k_w_stretch b_w_stretch3 .nil (fun s => rfl) fnP_len (ia_cons (ie_var 0) (ia_cons (ie_var 9) (ia_cons (ie_var 10) (ia_nil))))) fin_lst)) (is_cons (st_par2 rfl hN (ia_cons (ie_int) (ia_cons (ie_bi (cr_min rfl) ok_minL (ia_cons (ie_comp (own := [("_law_first", 7), ("_law_end", 8)]) (T := mYes) (E := f_w_possible_c1) rfl hN (ii_sq (ie_var 4)) (by first | exact blkOk_by (N := N_w_possible) (sc := defScope s_w_possible) (by decide +kernel) | exact blkOk_by (by with_unfolding_all rfl) | exact blkOk_by (by decide +kernel +revert)) (fun _ _ _ _ _ => pg_tup rfl (pgs_cons (pg_name (i := 7) hN rfl (by first | exact .inl rfl | exact .inr rfl)) (pgs_cons (pg_name (i := 8) hN rfl (by first | exact .inl rfl | exact .inr rfl)) (pgs_nil)))) (tg_tup (tgs_cons (tg_name 7) (tgs_cons (tg_name 8) (tgs_nil)))) (fun _ _ _ _ _ => its_nil) (fun _ _ _ _ _ => ie_bt call_int1 ok_int (ia_cons (ie_var 8) (ia_nil)) m_int) fin_lst) (ia_nil)) m_min) (ia_nil)))) (is_cons (st_for (B := f_w_possible_l1) PassesOwn.never rfl (ii_sq (ie_var 4)) (pg_tup rfl (pgs_cons (pg_name (i := 7) hN rfl (by first | exact .inl rfl | exact .inr rfl)) (pgs_cons (pg_name (i := 8) hN rfl (by first | exact .inl rfl | exact .inr rfl)) (pgs_nil)))) (tg_tup (tgs_cons (tg_name 7) (tgs_cons (tg_name 8) (tgs_nil)))) (is_cons (st_set 5 hN (ie_bi (call_max2 rfl) ok_max2 (ia_cons (ie_bt call_int1 ok_int (ia_cons (ie_var 5) (ia_nil)) m_int) (ia_cons (ie_bt call_int1 ok_int (ia_cons (ie_var 7) (ia_nil)) m_int) (ia_nil))) m_max)) (is_one (st_if (it_gt (ie_var 5) (ie_var 8)) (is_one (st_ret (ie_bl))) (is_nil))))) (is_cons (st_if (it_isN (ie_var 3) (ie_non)) (is_one (st_ret (ie_bl))) (is_nil)) (is_one (st_ret (ie_le (ie_sub (ie_call (dts := []) (dvs := []) ok_w_begun (hr.mono (by decide)) hgd (by rfl) g_w_begun k_w_begun b_w_begun2 .nil (fun s => rfl) fnP_len (ia_cons (ie_bi (call_max2 rfl) ok_max2 (ia_cons (ie_bt call_int1 ok_int (ia_cons (ie_var 5) (ia_nil)) m_int) (ia_cons (ie_bt call_int1 ok_int (ia_cons (ie_var 6) (ia_nil)) m_int) (ia_nil))) m_max) (ia_cons (ie_bi call_len ok_len (ia_cons (ie_var 0) (ia_nil)) m_len) (ia_nil)))) (ie_call (dts := []) (dvs := []) ok_w_begun (hr.mono (by decide)) hgd (by rfl) g_w_begun k_w_begun b_w_begun2 .nil (fun s => rfl) fnP_len (ia_cons (ie_var 6) (ia_cons (ie_bi call_len ok_len (ia_cons (ie_var 0) (ia_nil)) m_len) (ia_nil))))) (ie_var 3)))))))
abbrev s_law : Stmt := topS 16
abbrev N_law : List Str := ["_law_script", "_law_deal_here", "_law_turn", "_law_writes", "_law_reads", "_law_other", "_law_lots", "_law_pair", "_law_found", "_law_row", "_law_versions", "_law_due", "_law_part"]
theorem sc_law : FnScope N_law ["_law_script"] (defScope s_law) := ⟨rfl, rfl, rfl, by decide +kernel, rfl, by decide +kernel, by decide +kernel⟩
theorem okf_law {f : Addr} {fd : FuncData} {dfs : List V} {kws : List (Str × V)} (F : FunD K "law" "law" (defArgs s_law) (defBody s_law) (defScope s_law) dfs kws f fd) (m_range : mg "range" = none) (m_tuple : mg "tuple" = none) (m_repr : mg "repr" = none) (m_len : mg "len" = none) (m_dict : mg "dict" = none) (m_zip : mg "zip" = none) {a_alike : Addr} {d_alike : FuncData} (ok_alike : FnG P w K mg base (L2.CX P w) 4 a_alike d_alike ["one", "other"] (spM K F_alike 2)) (g_alike : mg "alike" = some (.ref a_alike)) (k_alike : PySem.W.keepIn K (.ref a_alike) = true) (b_alike2 : Binds K d_alike ["one", "other"] []) {a_w_rows : Addr} {d_w_rows : FuncData} (ok_w_rows : FnG P w K mg base (L2.CX P w) 1 a_w_rows d_w_rows ["_law_size", "_law_many"] (spM K F_w_rows 2)) (g_w_rows : mg "_law_rows" = some (.ref a_w_rows)) (k_w_rows : PySem.W.keepIn K (.ref a_w_rows) = true) (b_w_rows2 : Binds K d_w_rows ["_law_size", "_law_many"] []) {a_w_possible : Addr} {d_w_possible : FuncData} (ok_w_possible : FnG P w K mg base (L2.CX P w) 2 a_w_possible d_w_possible ["_law_writes", "_law_reads", "_law_some", "_law_most"] (spM K F_w_possible 4)) (g_w_possible : mg "_law_possible" = some (.ref a_w_possible)) (k_w_possible : PySem.W.keepIn K (.ref a_w_possible) = true) (b_w_possible4 : Binds K d_w_possible ["_law_writes", "_law_reads", "_law_some", "_law_most"] []) {a_w_draw : Addr} {d_w_draw : FuncData} (ok_w_draw : FnG P w K mg base (L2.CX P w) 1 a_w_draw d_w_draw ["_law_deal_here", "_law_wide"] (spM K F_w_draw 2)) (g_w_draw : mg "_law_draw" = some (.ref a_w_draw)) (k_w_draw : PySem.W.keepIn K (.ref a_w_draw) = true) (b_w_draw2 : Binds K d_w_draw ["_law_deal_here", "_law_wide"] []) {a_w_mixed : Addr} {d_w_mixed : FuncData} (ok_w_mixed : FnG P w K mg base (L2.CX P w) 2 a_w_mixed d_w_mixed ["_law_deal_here", "_law_some"] (spM K F_w_mixed 2)) (g_w_mixed : mg "_law_mixed" = some (.ref a_w_mixed)) (k_w_mixed : PySem.W.keepIn K (.ref a_w_mixed) = true) (b_w_mixed2 : Binds K d_w_mixed ["_law_deal_here", "_law_some"] []) {a_w_near : Addr} {d_w_near : FuncData} (ok_w_near : FnG P w K mg base (L2.CX P w) 2 a_w_near d_w_near ["_law_deal_here", "_law_some"] (spM K F_w_near 2)) (g_w_near : mg "_law_near" = some (.ref a_w_near)) (k_w_near : PySem.W.keepIn K (.ref a_w_near) = true) (b_w_near2 : Binds K d_w_near ["_law_deal_here", "_law_some"] []) {a_w_orders : Addr} {d_w_orders : FuncData} (ok_w_orders : FnG P w K mg base (L2.CX P w) 3 a_w_orders d_w_orders ["_law_deal_here", "_law_most"] (spM K F_w_orders 2)) (g_w_orders : mg "_law_orders" = some (.ref a_w_orders)) (k_w_orders : PySem.W.keepIn K (.ref a_w_orders) = true) (b_w_orders2 : Binds K d_w_orders ["_law_deal_here", "_law_most"] []) {a_w_deal : Addr} {d_w_deal : FuncData} (ok_w_deal : FnG P w K mg base (L2.CX P w) 1 a_w_deal d_w_deal ["_law_script", "_law_base"] (spM K F_w_deal 2)) (g_w_deal : mg "_law_deal" = some (.ref a_w_deal)) (k_w_deal : PySem.W.keepIn K (.ref a_w_deal) = true) (b_w_deal2 : Binds K d_w_deal ["_law_script", "_law_base"] []) :
    FnG P w K mg base (L2.CX P w) 5 f fd ["_law_script"] (spM K F_law 1) :=
  okM (k := 4) F sc_law fun cdv A outer s H E hr hgd => by
    have hN : N_law.Nodup := sc_law.nd
    have hu := hr.units
    exact is_cons (st_set 1 hN (ie_call (dts := []) (dvs := []) ok_w_deal (hr.mono (by decide)) hgd (by rfl) g_w_deal k_w_deal b_w_deal2 .nil (fun s => rfl) fnM_len (ia_cons (ie_var 0) (ia_cons (ie_int) (ia_nil))))) (is_cons (st_for (B := f_law_l3) PassesOwn.never rfl (ii_rng1 (by rfl) m_range (ia_cons (ie_int) (ia_nil))) (pg_name (i := 2) hN rfl (by first | exact .inl rfl | exact .inr rfl)) (tg_name 2) (is_cons (st_asg (ie_call (dts := []) (dvs := []) ok_w_orders (hr.mono (by decide)) hgd (by rfl) g_w_orders k_w_orders b_w_orders2 .nil (fun s => rfl) fnM_len (ia_cons (ie_var 1) (ia_cons (ie_int) (ia_nil)))) (pg_any rfl (pgs_cons (pg_name (i := 3) hN rfl (by first | exact .inl rfl | exact .inr rfl)) (pgs_cons (pg_name (i := 4) hN rfl (by first | exact .inl rfl | exact .inr rfl)) (pgs_nil)))) (tg_any (tgs_cons (tg_name 3) (tgs_cons (tg_name 4) (tgs_nil))))) (is_cons (st_set 5 hN (ie_tup (ia_cons (ie_call (dts := []) (dvs := []) ok_w_near (hr.mono (by decide)) hgd (by rfl) g_w_near k_w_near b_w_near2 .nil (fun s => rfl) fnM_len (ia_cons (ie_var 1) (ia_cons (ie_var 3) (ia_nil)))) (ia_cons (ie_call (dts := []) (dvs := []) ok_w_near (hr.mono (by decide)) hgd (by rfl) g_w_near k_w_near b_w_near2 .nil (fun s => rfl) fnM_len (ia_cons (ie_var 1) (ia_cons (ie_var 4) (ia_nil)))) (ia_nil))))) (is_cons (st_if (it_eq hu (ie_call (dts := []) (dvs := []) ok_w_draw (hr.mono (by decide)) hgd (by rfl) g_w_draw k_w_draw b_w_draw2 .nil (fun s => rfl) fnM_len (ia_cons (ie_var 1) (ia_cons (ie_int) (ia_nil)))) (ie_int)) (is_one (st_set 5 hN (ie_tup (ia_cons (ie_call (dts := []) (dvs := []) ok_w_mixed (hr.mono (by decide)) hgd (by rfl) g_w_mixed k_w_mixed b_w_mixed2 .nil (fun s => rfl) fnM_len (ia_cons (ie_var 1) (ia_cons (ie_var 3) (ia_nil)))) (ia_cons (ie_call (dts := []) (dvs := []) ok_w_mixed (hr.mono (by decide)) hgd (by rfl) g_w_mixed k_w_mixed b_w_mixed2 .nil (fun s => rfl) fnM_len (ia_cons (ie_var 1) (ia_cons (ie_var 4) (ia_nil)))) (ia_nil)))))) (is_nil)) (is_cons (st_set 6 hN (ie_lstL (ia_nil))) (is_cons (st_for (B := f_law_l2) PassesOwn.never rfl (ii_sq (ie_tup (ia_cons (ie_tup (ia_cons (ie_var 3) (ia_cons (ie_var 4) (ia_nil)))) (ia_cons (ie_var 5) (ia_nil))))) (pg_name (i := 7) hN rfl (by first | exact .inl rfl | exact .inr rfl)) (tg_name 7) (is_cons (st_set 8 hN (ie_lstL (ia_nil))) (is_cons (st_for (B := f_law_l1) PassesOwn.never rfl (ii_sq (ie_call (dts := []) (dvs := []) ok_w_rows (hr.mono (by decide)) hgd (by rfl) g_w_rows k_w_rows b_w_rows2 .nil (fun s => rfl) fnP_len (ia_cons (ie_bi call_len ok_len (ia_cons (ie_var 3) (ia_nil)) m_len) (ia_cons (ie_if (it_ltA (ie_bi call_len ok_len (ia_cons (ie_var 3) (ia_nil)) m_len) (ie_int)) (ie_int) (ie_int)) (ia_nil))))) (pg_name (i := 9) hN rfl (by first | exact .inl rfl | exact .inr rfl)) (tg_name 9) (is_cons (st_set 10 hN (ie_frzD (ie_dzip rfl m_dict m_zip (ia_cons (ie_var 3) (ia_cons (ie_var 9) (ia_nil)))))) (is_one (st_if (it_tru (ie_call (dts := []) (dvs := []) ok_w_possible (hr.mono (by decide)) hgd (by rfl) g_w_possible k_w_possible b_w_possible4 .nil (fun s => rfl) fnP_len (ia_cons (ie_sub1 (ie_var 7) (ie_int)) (ia_cons (ie_sub1 (ie_var 7) (ie_int)) (ia_cons (ie_comp (own := [("_law_part", 12)]) (T := mYes) (E := f_law_c1) rfl hN (ii_sq (ie_sub1 (ie_var 7) (ie_int))) (by first | exact blkOk_by (N := N_law) (sc := defScope s_law) (by decide +kernel) | exact blkOk_by (by with_unfolding_all rfl) | exact blkOk_by (by decide +kernel +revert)) (fun _ _ _ _ _ => pg_name (i := 12) hN rfl (by first | exact .inl rfl | exact .inr rfl)) (tg_name 12) (fun _ _ _ _ _ => its_nil) (fun _ _ _ _ _ => ie_dgetT hu (ie_var 10) (ie_var 12)) fin_lst) (ia_cons (ie_non) (ia_nil))))))) (is_one (st_expr (ie_append (ie_var 8) (ia_cons (ie_var 9) (ia_nil))))) (is_nil))))) (is_fz 8 (is_one (st_expr (ie_append (ie_var 6) (ia_cons (ie_var 8) (ia_nil))))))))) (is_fz 6 (is_cons (st_set 11 hN (ie_eq hu (ie_sub1 (ie_var 6) (ie_int)) (ie_sub1 (ie_var 6) (ie_int)))) (is_cons (st_if ((iw_or (it_ne hu (ie_bi (call_reprD hgd hu) ok_repr (ia_cons (ie_call (dts := []) (dvs := []) ok_alike (hr.mono (by decide)) hgd (by rfl) g_alike k_alike b_alike2 .nil (fun s => rfl) fnP_len (ia_cons (ie_tup (ia_cons (ie_var 3) (ia_cons (ie_var 4) (ia_nil)))) (ia_cons (ie_var 5) (ia_nil)))) (ia_nil)) m_repr) (ie_bi (call_reprD hgd hu) ok_repr (ia_cons (ie_var 11) (ia_nil)) m_repr)) (iw_or1 (it_ne hu (ie_call (dts := []) (dvs := []) ok_alike (hr.mono (by decide)) hgd (by rfl) g_alike k_alike b_alike2 .nil (fun s => rfl) fnP_len (ia_cons (ie_var 5) (ia_cons (ie_tup (ia_cons (ie_var 3) (ia_cons (ie_var 4) (ia_nil)))) (ia_nil)))) (ie_var 11)))).it) (is_one (st_ret (ie_bl))) (is_nil)) (is_one (st_if (it_notB (ie_call (dts := []) (dvs := []) ok_alike (hr.mono (by decide)) hgd (by rfl) g_alike k_alike b_alike2 .nil (fun s => rfl) fnP_len (ia_cons (ie_tup (ia_cons (ie_bt call_tupS ok_tup (ia_cons (ie_var 3) (ia_nil)) m_tuple) (ia_cons (ie_bt call_tupS ok_tup (ia_cons (ie_var 4) (ia_nil)) m_tuple) (ia_nil)))) (ia_cons (ie_tup (ia_cons (ie_var 3) (ia_cons (ie_var 4) (ia_nil)))) (ia_nil)))) (ie_bl)) (is_one (st_ret (ie_bl))) (is_nil)))))))))))) (is_one (st_ret (ie_bl))))
end
theorem all_mk {l : PySem.W.OpenLaw} {w : World} {K : PySem.W.Frag} {h : Heap} {mg : Str → Option Value} {fa : Addr} (KX : K.In h) (G : h.Ns mainGlobals mg) (hfa : mg "law" = some (.ref fa))
    {p_w_deal : Addr} {oc_w_deal kV_w_deal dc_w_deal pm_w_deal cd_w_deal ct_w_deal : Value} {od_w_deal an_w_deal : Option Addr} {sl_w_deal : Array (Option Value)}
    (n_w_deal : PySem.W.nsIn K mainGlobals "_law_deal" = some (some (.ref p_w_deal)))
    (l_w_deal : K.lookup p_w_deal = some ⟨oc_w_deal, od_w_deal, .func (PySem.W.fnOf "_law_deal" "_law_deal" (defArgs s_w_deal) (defBody s_w_deal) (defScope s_w_deal) .none kV_w_deal dc_w_deal pm_w_deal an_w_deal cd_w_deal ct_w_deal), sl_w_deal⟩)
    (c_w_deal : PySem.W.codeIn K cd_w_deal "_law_deal" = true) (k_w_deal : PySem.W.keepIn K (.ref p_w_deal) = true)
    {p_w_draw : Addr} {oc_w_draw kV_w_draw dc_w_draw pm_w_draw cd_w_draw ct_w_draw : Value} {od_w_draw an_w_draw : Option Addr} {sl_w_draw : Array (Option Value)}
    (n_w_draw : PySem.W.nsIn K mainGlobals "_law_draw" = some (some (.ref p_w_draw)))
    (l_w_draw : K.lookup p_w_draw = some ⟨oc_w_draw, od_w_draw, .func (PySem.W.fnOf "_law_draw" "_law_draw" (defArgs s_w_draw) (defBody s_w_draw) (defScope s_w_draw) .none kV_w_draw dc_w_draw pm_w_draw an_w_draw cd_w_draw ct_w_draw), sl_w_draw⟩)
    (c_w_draw : PySem.W.codeIn K cd_w_draw "_law_draw" = true) (k_w_draw : PySem.W.keepIn K (.ref p_w_draw) = true)
    {p_w_mixed : Addr} {oc_w_mixed kV_w_mixed dc_w_mixed pm_w_mixed cd_w_mixed ct_w_mixed : Value} {od_w_mixed an_w_mixed : Option Addr} {sl_w_mixed : Array (Option Value)}
    (n_w_mixed : PySem.W.nsIn K mainGlobals "_law_mixed" = some (some (.ref p_w_mixed)))
    (l_w_mixed : K.lookup p_w_mixed = some ⟨oc_w_mixed, od_w_mixed, .func (PySem.W.fnOf "_law_mixed" "_law_mixed" (defArgs s_w_mixed) (defBody s_w_mixed) (defScope s_w_mixed) .none kV_w_mixed dc_w_mixed pm_w_mixed an_w_mixed cd_w_mixed ct_w_mixed), sl_w_mixed⟩)
    (c_w_mixed : PySem.W.codeIn K cd_w_mixed "_law_mixed" = true) (k_w_mixed : PySem.W.keepIn K (.ref p_w_mixed) = true)
    {p_w_orders : Addr} {oc_w_orders kV_w_orders dc_w_orders pm_w_orders cd_w_orders ct_w_orders : Value} {od_w_orders an_w_orders : Option Addr} {sl_w_orders : Array (Option Value)}
    (n_w_orders : PySem.W.nsIn K mainGlobals "_law_orders" = some (some (.ref p_w_orders)))
    (l_w_orders : K.lookup p_w_orders = some ⟨oc_w_orders, od_w_orders, .func (PySem.W.fnOf "_law_orders" "_law_orders" (defArgs s_w_orders) (defBody s_w_orders) (defScope s_w_orders) .none kV_w_orders dc_w_orders pm_w_orders an_w_orders cd_w_orders ct_w_orders), sl_w_orders⟩)
    (c_w_orders : PySem.W.codeIn K cd_w_orders "_law_orders" = true) (k_w_orders : PySem.W.keepIn K (.ref p_w_orders) = true)
    {p_w_near : Addr} {oc_w_near kV_w_near dc_w_near pm_w_near cd_w_near ct_w_near : Value} {od_w_near an_w_near : Option Addr} {sl_w_near : Array (Option Value)}
    (n_w_near : PySem.W.nsIn K mainGlobals "_law_near" = some (some (.ref p_w_near)))
    (l_w_near : K.lookup p_w_near = some ⟨oc_w_near, od_w_near, .func (PySem.W.fnOf "_law_near" "_law_near" (defArgs s_w_near) (defBody s_w_near) (defScope s_w_near) .none kV_w_near dc_w_near pm_w_near an_w_near cd_w_near ct_w_near), sl_w_near⟩)
    (c_w_near : PySem.W.codeIn K cd_w_near "_law_near" = true) (k_w_near : PySem.W.keepIn K (.ref p_w_near) = true)
    {p_w_rows : Addr} {oc_w_rows kV_w_rows dc_w_rows pm_w_rows cd_w_rows ct_w_rows : Value} {od_w_rows an_w_rows : Option Addr} {sl_w_rows : Array (Option Value)}
    (n_w_rows : PySem.W.nsIn K mainGlobals "_law_rows" = some (some (.ref p_w_rows)))
    (l_w_rows : K.lookup p_w_rows = some ⟨oc_w_rows, od_w_rows, .func (PySem.W.fnOf "_law_rows" "_law_rows" (defArgs s_w_rows) (defBody s_w_rows) (defScope s_w_rows) .none kV_w_rows dc_w_rows pm_w_rows an_w_rows cd_w_rows ct_w_rows), sl_w_rows⟩)
    (c_w_rows : PySem.W.codeIn K cd_w_rows "_law_rows" = true) (k_w_rows : PySem.W.keepIn K (.ref p_w_rows) = true)
    {p_greatest_excess : Addr} {oc_greatest_excess kV_greatest_excess dc_greatest_excess pm_greatest_excess cd_greatest_excess ct_greatest_excess : Value} {od_greatest_excess an_greatest_excess : Option Addr} {sl_greatest_excess : Array (Option Value)}
    (n_greatest_excess : PySem.W.nsIn K mainGlobals "greatest_excess" = some (some (.ref p_greatest_excess)))
    (l_greatest_excess : K.lookup p_greatest_excess = some ⟨oc_greatest_excess, od_greatest_excess, .func (PySem.W.fnOf "greatest_excess" "greatest_excess" (defArgs s_greatest_excess) (defBody s_greatest_excess) (defScope s_greatest_excess) .none kV_greatest_excess dc_greatest_excess pm_greatest_excess an_greatest_excess cd_greatest_excess ct_greatest_excess), sl_greatest_excess⟩)
    (c_greatest_excess : PySem.W.codeIn K cd_greatest_excess "greatest_excess" = true) (k_greatest_excess : PySem.W.keepIn K (.ref p_greatest_excess) = true)
    {p_differences : Addr} {oc_differences kV_differences dc_differences pm_differences cd_differences ct_differences : Value} {od_differences an_differences : Option Addr} {sl_differences : Array (Option Value)}
    {q_differences : Addr} {to_differences : Obj} {tn_differences : Nat}
    (n_differences : PySem.W.nsIn K mainGlobals "differences" = some (some (.ref p_differences)))
    (l_differences : K.lookup p_differences = some ⟨oc_differences, od_differences, .func (PySem.W.fnOf "differences" "differences" (defArgs s_differences) (defBody s_differences) (defScope s_differences) (.ref q_differences) kV_differences dc_differences pm_differences an_differences cd_differences ct_differences), sl_differences⟩)
    (c_differences : PySem.W.codeIn K cd_differences "differences" = true) (k_differences : PySem.W.keepIn K (.ref p_differences) = true)
    (t_differences : K.lookup q_differences = some to_differences) (u_differences : to_differences.data = .seq ([.none] : List Value).toArray tn_differences)
    {p_named : Addr} {oc_named kV_named dc_named pm_named cd_named ct_named : Value} {od_named an_named : Option Addr} {sl_named : Array (Option Value)}
    (n_named : PySem.W.nsIn K mainGlobals "named" = some (some (.ref p_named)))
    (l_named : K.lookup p_named = some ⟨oc_named, od_named, .func (PySem.W.fnOf "named" "named" (defArgs s_named) (defBody s_named) (defScope s_named) .none kV_named dc_named pm_named an_named cd_named ct_named), sl_named⟩)
    (c_named : PySem.W.codeIn K cd_named "named" = true) (k_named : PySem.W.keepIn K (.ref p_named) = true)
    {p_alike : Addr} {oc_alike kV_alike dc_alike pm_alike cd_alike ct_alike : Value} {od_alike an_alike : Option Addr} {sl_alike : Array (Option Value)}
    (n_alike : PySem.W.nsIn K mainGlobals "alike" = some (some (.ref p_alike)))
    (l_alike : K.lookup p_alike = some ⟨oc_alike, od_alike, .func (PySem.W.fnOf "alike" "alike" (defArgs s_alike) (defBody s_alike) (defScope s_alike) .none kV_alike dc_alike pm_alike an_alike cd_alike ct_alike), sl_alike⟩)
    (c_alike : PySem.W.codeIn K cd_alike "alike" = true) (k_alike : PySem.W.keepIn K (.ref p_alike) = true)
    {p_w_stretch : Addr} {oc_w_stretch kV_w_stretch dc_w_stretch pm_w_stretch cd_w_stretch ct_w_stretch : Value} {od_w_stretch an_w_stretch : Option Addr} {sl_w_stretch : Array (Option Value)}
    (n_w_stretch : PySem.W.nsIn K mainGlobals "_law_stretch" = some (some (.ref p_w_stretch)))
    (l_w_stretch : K.lookup p_w_stretch = some ⟨oc_w_stretch, od_w_stretch, .func (PySem.W.fnOf "_law_stretch" "_law_stretch" (defArgs s_w_stretch) (defBody s_w_stretch) (defScope s_w_stretch) .none kV_w_stretch dc_w_stretch pm_w_stretch an_w_stretch cd_w_stretch ct_w_stretch), sl_w_stretch⟩)
    (c_w_stretch : PySem.W.codeIn K cd_w_stretch "_law_stretch" = true) (k_w_stretch : PySem.W.keepIn K (.ref p_w_stretch) = true)
    {p_w_begun : Addr} {oc_w_begun kV_w_begun dc_w_begun pm_w_begun cd_w_begun ct_w_begun : Value} {od_w_begun an_w_begun : Option Addr} {sl_w_begun : Array (Option Value)}
    (n_w_begun : PySem.W.nsIn K mainGlobals "_law_begun" = some (some (.ref p_w_begun)))
    (l_w_begun : K.lookup p_w_begun = some ⟨oc_w_begun, od_w_begun, .func (PySem.W.fnOf "_law_begun" "_law_begun" (defArgs s_w_begun) (defBody s_w_begun) (defScope s_w_begun) .none kV_w_begun dc_w_begun pm_w_begun an_w_begun cd_w_begun ct_w_begun), sl_w_begun⟩)
    (c_w_begun : PySem.W.codeIn K cd_w_begun "_law_begun" = true) (k_w_begun : PySem.W.keepIn K (.ref p_w_begun) = true)
    {p_w_possible : Addr} {oc_w_possible kV_w_possible dc_w_possible pm_w_possible cd_w_possible ct_w_possible : Value} {od_w_possible an_w_possible : Option Addr} {sl_w_possible : Array (Option Value)}
    (n_w_possible : PySem.W.nsIn K mainGlobals "_law_possible" = some (some (.ref p_w_possible)))
    (l_w_possible : K.lookup p_w_possible = some ⟨oc_w_possible, od_w_possible, .func (PySem.W.fnOf "_law_possible" "_law_possible" (defArgs s_w_possible) (defBody s_w_possible) (defScope s_w_possible) .none kV_w_possible dc_w_possible pm_w_possible an_w_possible cd_w_possible ct_w_possible), sl_w_possible⟩)
    (c_w_possible : PySem.W.codeIn K cd_w_possible "_law_possible" = true) (k_w_possible : PySem.W.keepIn K (.ref p_w_possible) = true)
    {p_law : Addr} {oc_law kV_law dc_law pm_law cd_law ct_law : Value} {od_law an_law : Option Addr} {sl_law : Array (Option Value)}
    (n_law : PySem.W.nsIn K mainGlobals "law" = some (some (.ref p_law)))
    (l_law : K.lookup p_law = some ⟨oc_law, od_law, .func (PySem.W.fnOf "law" "law" (defArgs s_law) (defBody s_law) (defScope s_law) .none kV_law dc_law pm_law an_law cd_law ct_law), sl_law⟩)
    (c_law : PySem.W.codeIn K cd_law "law" = true) (k_law : PySem.W.keepIn K (.ref p_law) = true)
    (b_enumerate : PySem.W.nsIn K mainGlobals "enumerate" = some none)
    (b_int : PySem.W.nsIn K mainGlobals "int" = some none)
    (b_abs : PySem.W.nsIn K mainGlobals "abs" = some none)
    (b_len : PySem.W.nsIn K mainGlobals "len" = some none)
    (b_list : PySem.W.nsIn K mainGlobals "list" = some none)
    (b_range : PySem.W.nsIn K mainGlobals "range" = some none)
    (b_tuple : PySem.W.nsIn K mainGlobals "tuple" = some none)
    (b_dict : PySem.W.nsIn K mainGlobals "dict" = some none)
    (b_max : PySem.W.nsIn K mainGlobals "max" = some none)
    (b_min : PySem.W.nsIn K mainGlobals "min" = some none)
    (b_zip : PySem.W.nsIn K mainGlobals "zip" = some none)
    (b_repr : PySem.W.nsIn K mainGlobals "repr" = some none) :
    ∃ fd : FuncData, (∀ (s : Shared) (v : Value), BindsTo s fd ⟨[v], []⟩ [("_law_script", v)]) ∧ ∀ base : Heap, K.In base → base.Ns mainGlobals mg → FnG l.prog w K mg base (L2.CX l.prog w) 5 fa fd ["_law_script"] (spM K F_law 1) := by
  have e := hfa.symm.trans (PySem.W.mg_of KX G n_law)
  obtain rfl : fa = p_law := by cases e; rfl
  have D_w_deal : FunD K "_law_deal" "_law_deal" (defArgs s_w_deal) (defBody s_w_deal) (defScope s_w_deal) [] [] p_w_deal (PySem.W.fnOf "_law_deal" "_law_deal" (defArgs s_w_deal) (defBody s_w_deal) (defScope s_w_deal) .none kV_w_deal dc_w_deal pm_w_deal an_w_deal cd_w_deal ct_w_deal) := ⟨⟨oc_w_deal, od_w_deal, .none, kV_w_deal, dc_w_deal, pm_w_deal, an_w_deal, cd_w_deal, ct_w_deal, sl_w_deal, rfl, l_w_deal, c_w_deal, .inl ⟨rfl, rfl⟩, .inl rfl⟩, k_w_deal⟩
  have D_w_draw : FunD K "_law_draw" "_law_draw" (defArgs s_w_draw) (defBody s_w_draw) (defScope s_w_draw) [] [] p_w_draw (PySem.W.fnOf "_law_draw" "_law_draw" (defArgs s_w_draw) (defBody s_w_draw) (defScope s_w_draw) .none kV_w_draw dc_w_draw pm_w_draw an_w_draw cd_w_draw ct_w_draw) := ⟨⟨oc_w_draw, od_w_draw, .none, kV_w_draw, dc_w_draw, pm_w_draw, an_w_draw, cd_w_draw, ct_w_draw, sl_w_draw, rfl, l_w_draw, c_w_draw, .inl ⟨rfl, rfl⟩, .inl rfl⟩, k_w_draw⟩
  have D_w_mixed : FunD K "_law_mixed" "_law_mixed" (defArgs s_w_mixed) (defBody s_w_mixed) (defScope s_w_mixed) [] [] p_w_mixed (PySem.W.fnOf "_law_mixed" "_law_mixed" (defArgs s_w_mixed) (defBody s_w_mixed) (defScope s_w_mixed) .none kV_w_mixed dc_w_mixed pm_w_mixed an_w_mixed cd_w_mixed ct_w_mixed) := ⟨⟨oc_w_mixed, od_w_mixed, .none, kV_w_mixed, dc_w_mixed, pm_w_mixed, an_w_mixed, cd_w_mixed, ct_w_mixed, sl_w_mixed, rfl, l_w_mixed, c_w_mixed, .inl ⟨rfl, rfl⟩, .inl rfl⟩, k_w_mixed⟩
  have D_w_orders : FunD K "_law_orders" "_law_orders" (defArgs s_w_orders) (defBody s_w_orders) (defScope s_w_orders) [] [] p_w_orders (PySem.W.fnOf "_law_orders" "_law_orders" (defArgs s_w_orders) (defBody s_w_orders) (defScope s_w_orders) .none kV_w_orders dc_w_orders pm_w_orders an_w_orders cd_w_orders ct_w_orders) := ⟨⟨oc_w_orders, od_w_orders, .none, kV_w_orders, dc_w_orders, pm_w_orders, an_w_orders, cd_w_orders, ct_w_orders, sl_w_orders, rfl, l_w_orders, c_w_orders, .inl ⟨rfl, rfl⟩, .inl rfl⟩, k_w_orders⟩
  have D_w_near : FunD K "_law_near" "_law_near" (defArgs s_w_near) (defBody s_w_near) (defScope s_w_near) [] [] p_w_near (PySem.W.fnOf "_law_near" "_law_near" (defArgs s_w_near) (defBody s_w_near) (defScope s_w_near) .none kV_w_near dc_w_near pm_w_near an_w_near cd_w_near ct_w_near) := ⟨⟨oc_w_near, od_w_near, .none, kV_w_near, dc_w_near, pm_w_near, an_w_near, cd_w_near, ct_w_near, sl_w_near, rfl, l_w_near, c_w_near, .inl ⟨rfl, rfl⟩, .inl rfl⟩, k_w_near⟩
  have D_w_rows : FunD K "_law_rows" "_law_rows" (defArgs s_w_rows) (defBody s_w_rows) (defScope s_w_rows) [] [] p_w_rows (PySem.W.fnOf "_law_rows" "_law_rows" (defArgs s_w_rows) (defBody s_w_rows) (defScope s_w_rows) .none kV_w_rows dc_w_rows pm_w_rows an_w_rows cd_w_rows ct_w_rows) := ⟨⟨oc_w_rows, od_w_rows, .none, kV_w_rows, dc_w_rows, pm_w_rows, an_w_rows, cd_w_rows, ct_w_rows, sl_w_rows, rfl, l_w_rows, c_w_rows, .inl ⟨rfl, rfl⟩, .inl rfl⟩, k_w_rows⟩
  have D_greatest_excess : FunD K "greatest_excess" "greatest_excess" (defArgs s_greatest_excess) (defBody s_greatest_excess) (defScope s_greatest_excess) [] [] p_greatest_excess (PySem.W.fnOf "greatest_excess" "greatest_excess" (defArgs s_greatest_excess) (defBody s_greatest_excess) (defScope s_greatest_excess) .none kV_greatest_excess dc_greatest_excess pm_greatest_excess an_greatest_excess cd_greatest_excess ct_greatest_excess) := ⟨⟨oc_greatest_excess, od_greatest_excess, .none, kV_greatest_excess, dc_greatest_excess, pm_greatest_excess, an_greatest_excess, cd_greatest_excess, ct_greatest_excess, sl_greatest_excess, rfl, l_greatest_excess, c_greatest_excess, .inl ⟨rfl, rfl⟩, .inl rfl⟩, k_greatest_excess⟩
  have D_differences : FunD K "differences" "differences" (defArgs s_differences) (defBody s_differences) (defScope s_differences) [V.non] [] p_differences (PySem.W.fnOf "differences" "differences" (defArgs s_differences) (defBody s_differences) (defScope s_differences) (.ref q_differences) kV_differences dc_differences pm_differences an_differences cd_differences ct_differences) := ⟨⟨oc_differences, od_differences, (.ref q_differences), kV_differences, dc_differences, pm_differences, an_differences, cd_differences, ct_differences, sl_differences, rfl, l_differences, c_differences, .inr ⟨by simp, q_differences, to_differences, [.none], tn_differences, rfl, t_differences, u_differences, .cons rfl .nil⟩, .inl rfl⟩, k_differences⟩
  have D_named : FunD K "named" "named" (defArgs s_named) (defBody s_named) (defScope s_named) [] [] p_named (PySem.W.fnOf "named" "named" (defArgs s_named) (defBody s_named) (defScope s_named) .none kV_named dc_named pm_named an_named cd_named ct_named) := ⟨⟨oc_named, od_named, .none, kV_named, dc_named, pm_named, an_named, cd_named, ct_named, sl_named, rfl, l_named, c_named, .inl ⟨rfl, rfl⟩, .inl rfl⟩, k_named⟩
  have D_alike : FunD K "alike" "alike" (defArgs s_alike) (defBody s_alike) (defScope s_alike) [] [] p_alike (PySem.W.fnOf "alike" "alike" (defArgs s_alike) (defBody s_alike) (defScope s_alike) .none kV_alike dc_alike pm_alike an_alike cd_alike ct_alike) := ⟨⟨oc_alike, od_alike, .none, kV_alike, dc_alike, pm_alike, an_alike, cd_alike, ct_alike, sl_alike, rfl, l_alike, c_alike, .inl ⟨rfl, rfl⟩, .inl rfl⟩, k_alike⟩
  have D_w_stretch : FunD K "_law_stretch" "_law_stretch" (defArgs s_w_stretch) (defBody s_w_stretch) (defScope s_w_stretch) [] [] p_w_stretch (PySem.W.fnOf "_law_stretch" "_law_stretch" (defArgs s_w_stretch) (defBody s_w_stretch) (defScope s_w_stretch) .none kV_w_stretch dc_w_stretch pm_w_stretch an_w_stretch cd_w_stretch ct_w_stretch) := ⟨⟨oc_w_stretch, od_w_stretch, .none, kV_w_stretch, dc_w_stretch, pm_w_stretch, an_w_stretch, cd_w_stretch, ct_w_stretch, sl_w_stretch, rfl, l_w_stretch, c_w_stretch, .inl ⟨rfl, rfl⟩, .inl rfl⟩, k_w_stretch⟩
  have D_w_begun : FunD K "_law_begun" "_law_begun" (defArgs s_w_begun) (defBody s_w_begun) (defScope s_w_begun) [] [] p_w_begun (PySem.W.fnOf "_law_begun" "_law_begun" (defArgs s_w_begun) (defBody s_w_begun) (defScope s_w_begun) .none kV_w_begun dc_w_begun pm_w_begun an_w_begun cd_w_begun ct_w_begun) := ⟨⟨oc_w_begun, od_w_begun, .none, kV_w_begun, dc_w_begun, pm_w_begun, an_w_begun, cd_w_begun, ct_w_begun, sl_w_begun, rfl, l_w_begun, c_w_begun, .inl ⟨rfl, rfl⟩, .inl rfl⟩, k_w_begun⟩
  have D_w_possible : FunD K "_law_possible" "_law_possible" (defArgs s_w_possible) (defBody s_w_possible) (defScope s_w_possible) [] [] p_w_possible (PySem.W.fnOf "_law_possible" "_law_possible" (defArgs s_w_possible) (defBody s_w_possible) (defScope s_w_possible) .none kV_w_possible dc_w_possible pm_w_possible an_w_possible cd_w_possible ct_w_possible) := ⟨⟨oc_w_possible, od_w_possible, .none, kV_w_possible, dc_w_possible, pm_w_possible, an_w_possible, cd_w_possible, ct_w_possible, sl_w_possible, rfl, l_w_possible, c_w_possible, .inl ⟨rfl, rfl⟩, .inl rfl⟩, k_w_possible⟩
  have D_law : FunD K "law" "law" (defArgs s_law) (defBody s_law) (defScope s_law) [] [] fa (PySem.W.fnOf "law" "law" (defArgs s_law) (defBody s_law) (defScope s_law) .none kV_law dc_law pm_law an_law cd_law ct_law) := ⟨⟨oc_law, od_law, .none, kV_law, dc_law, pm_law, an_law, cd_law, ct_law, sl_law, rfl, l_law, c_law, .inl ⟨rfl, rfl⟩, .inl rfl⟩, k_law⟩
  have i_w_draw2 := D_w_draw.bindsN (ps := ["_law_deal_here", "_law_wide"]) fun _ _ _ _ _ _ us hl => match us, hl with | [_, _], _ => rfl
  have i_w_mixed2 := D_w_mixed.bindsN (ps := ["_law_deal_here", "_law_some"]) fun _ _ _ _ _ _ us hl => match us, hl with | [_, _], _ => rfl
  have i_greatest_excess5 := D_greatest_excess.bindsN (ps := ["writes", "reads", "earlier", "later", "most"]) fun _ _ _ _ _ _ us hl => match us, hl with | [_, _, _, _, _], _ => rfl
  have i_differences2 : Binds K (PySem.W.fnOf "differences" "differences" (defArgs s_differences) (defBody s_differences) (defScope s_differences) (.ref q_differences) kV_differences dc_differences pm_differences an_differences cd_differences ct_differences) ["writes", "reads", "most"] [.none] := by
    obtain ⟨ds, r, b⟩ := D_differences.binds1 (ps := ["writes", "reads", "most"]) 2 0 (by simp) (by simp) fun T kV doc pm an cdv ct us its hu hi => match us, hu, its, hi with | [_, _], _, [_], _ => ⟨_, rfl, rfl⟩
    cases r with
    | cons a z =>
      cases z
      cases (show _ = Value.none from a)
      exact b
  have i_named1 := D_named.bindsN (ps := ["pair"]) fun _ _ _ _ _ _ us hl => match us, hl with | [_], _ => rfl
  have i_w_begun2 := D_w_begun.bindsN (ps := ["_law_place", "_law_size"]) fun _ _ _ _ _ _ us hl => match us, hl with | [_, _], _ => rfl
  have i_w_stretch3 := D_w_stretch.bindsN (ps := ["_law_writes", "_law_part", "_law_version"]) fun _ _ _ _ _ _ us hl => match us, hl with | [_, _, _], _ => rfl
  have i_alike2 := D_alike.bindsN (ps := ["one", "other"]) fun _ _ _ _ _ _ us hl => match us, hl with | [_, _], _ => rfl
  have i_w_rows2 := D_w_rows.bindsN (ps := ["_law_size", "_law_many"]) fun _ _ _ _ _ _ us hl => match us, hl with | [_, _], _ => rfl
  have i_w_possible4 := D_w_possible.bindsN (ps := ["_law_writes", "_law_reads", "_law_some", "_law_most"]) fun _ _ _ _ _ _ us hl => match us, hl with | [_, _, _, _], _ => rfl
  have i_w_near2 := D_w_near.bindsN (ps := ["_law_deal_here", "_law_some"]) fun _ _ _ _ _ _ us hl => match us, hl with | [_, _], _ => rfl
  have i_w_orders2 := D_w_orders.bindsN (ps := ["_law_deal_here", "_law_most"]) fun _ _ _ _ _ _ us hl => match us, hl with | [_, _], _ => rfl
  have i_w_deal2 := D_w_deal.bindsN (ps := ["_law_script", "_law_base"]) fun _ _ _ _ _ _ us hl => match us, hl with | [_, _], _ => rfl
  have A_w_deal : ∀ base : Heap, FnG l.prog w K mg base (L2.CX l.prog w) 1 p_w_deal (PySem.W.fnOf "_law_deal" "_law_deal" (defArgs s_w_deal) (defBody s_w_deal) (defScope s_w_deal) .none kV_w_deal dc_w_deal pm_w_deal an_w_deal cd_w_deal ct_w_deal) ["_law_script", "_law_base"] (spM K F_w_deal 2) := fun base => okf_w_deal D_w_deal (PySem.W.mg_none_of KX G b_enumerate) (PySem.W.mg_none_of KX G b_int) (PySem.W.mg_none_of KX G b_abs)
  have A_w_draw : ∀ base : Heap, FnG l.prog w K mg base (L2.CX l.prog w) 1 p_w_draw (PySem.W.fnOf "_law_draw" "_law_draw" (defArgs s_w_draw) (defBody s_w_draw) (defScope s_w_draw) .none kV_w_draw dc_w_draw pm_w_draw an_w_draw cd_w_draw ct_w_draw) ["_law_deal_here", "_law_wide"] (spM K F_w_draw 2) := fun base => okf_w_draw D_w_draw (PySem.W.mg_none_of KX G b_int)
  have A_w_mixed : ∀ base : Heap, FnG l.prog w K mg base (L2.CX l.prog w) 2 p_w_mixed (PySem.W.fnOf "_law_mixed" "_law_mixed" (defArgs s_w_mixed) (defBody s_w_mixed) (defScope s_w_mixed) .none kV_w_mixed dc_w_mixed pm_w_mixed an_w_mixed cd_w_mixed ct_w_mixed) ["_law_deal_here", "_law_some"] (spM K F_w_mixed 2) := fun base => okf_w_mixed D_w_mixed (PySem.W.mg_none_of KX G b_len) (PySem.W.mg_none_of KX G b_list) (A_w_draw base) (PySem.W.mg_of KX G n_w_draw) k_w_draw i_w_draw2
  have A_w_orders : ∀ base : Heap, FnG l.prog w K mg base (L2.CX l.prog w) 3 p_w_orders (PySem.W.fnOf "_law_orders" "_law_orders" (defArgs s_w_orders) (defBody s_w_orders) (defScope s_w_orders) .none kV_w_orders dc_w_orders pm_w_orders an_w_orders cd_w_orders ct_w_orders) ["_law_deal_here", "_law_most"] (spM K F_w_orders 2) := fun base => okf_w_orders D_w_orders (A_w_mixed base) (PySem.W.mg_of KX G n_w_mixed) k_w_mixed i_w_mixed2 (A_w_draw base) (PySem.W.mg_of KX G n_w_draw) k_w_draw i_w_draw2
  have A_w_near : ∀ base : Heap, FnG l.prog w K mg base (L2.CX l.prog w) 2 p_w_near (PySem.W.fnOf "_law_near" "_law_near" (defArgs s_w_near) (defBody s_w_near) (defScope s_w_near) .none kV_w_near dc_w_near pm_w_near an_w_near cd_w_near ct_w_near) ["_law_deal_here", "_law_some"] (spM K F_w_near 2) := fun base => okf_w_near D_w_near (PySem.W.mg_none_of KX G b_len) (PySem.W.mg_none_of KX G b_list) (A_w_draw base) (PySem.W.mg_of KX G n_w_draw) k_w_draw i_w_draw2
  have A_w_rows : ∀ base : Heap, FnG l.prog w K mg base (L2.CX l.prog w) 1 p_w_rows (PySem.W.fnOf "_law_rows" "_law_rows" (defArgs s_w_rows) (defBody s_w_rows) (defScope s_w_rows) .none kV_w_rows dc_w_rows pm_w_rows an_w_rows cd_w_rows ct_w_rows) ["_law_size", "_law_many"] (spM K F_w_rows 2) := fun base => okf_w_rows D_w_rows (PySem.W.mg_none_of KX G b_range)
  have A_greatest_excess : ∀ base : Heap, FnG l.prog w K mg base (L2.CX l.prog w) 1 p_greatest_excess (PySem.W.fnOf "greatest_excess" "greatest_excess" (defArgs s_greatest_excess) (defBody s_greatest_excess) (defScope s_greatest_excess) .none kV_greatest_excess dc_greatest_excess pm_greatest_excess an_greatest_excess cd_greatest_excess ct_greatest_excess) ["writes", "reads", "earlier", "later", "most"] (spM K F_greatest_excess 5) := fun base => okf_greatest_excess D_greatest_excess
  have A_differences : ∀ base : Heap, FnG l.prog w K mg base (L2.CX l.prog w) 2 p_differences (PySem.W.fnOf "differences" "differences" (defArgs s_differences) (defBody s_differences) (defScope s_differences) (.ref q_differences) kV_differences dc_differences pm_differences an_differences cd_differences ct_differences) ["writes", "reads", "most"] (spM K F_differences 3) := fun base => okf_differences D_differences (PySem.W.mg_none_of KX G b_tuple) (PySem.W.mg_none_of KX G b_range) (PySem.W.mg_none_of KX G b_len) (PySem.W.mg_none_of KX G b_list) (A_greatest_excess base) (PySem.W.mg_of KX G n_greatest_excess) k_greatest_excess i_greatest_excess5
  have A_named : ∀ base : Heap, FnG l.prog w K mg base (L2.CX l.prog w) 3 p_named (PySem.W.fnOf "named" "named" (defArgs s_named) (defBody s_named) (defScope s_named) .none kV_named dc_named pm_named an_named cd_named ct_named) ["pair"] (spM K F_named 1) := fun base => okf_named D_named (PySem.W.mg_none_of KX G b_dict) (PySem.W.mg_none_of KX G b_enumerate) (A_differences base) (PySem.W.mg_of KX G n_differences) k_differences i_differences2
  have A_alike : ∀ base : Heap, FnG l.prog w K mg base (L2.CX l.prog w) 4 p_alike (PySem.W.fnOf "alike" "alike" (defArgs s_alike) (defBody s_alike) (defScope s_alike) .none kV_alike dc_alike pm_alike an_alike cd_alike ct_alike) ["one", "other"] (spM K F_alike 2) := fun base => okf_alike D_alike (A_named base) (PySem.W.mg_of KX G n_named) k_named i_named1
  have A_w_stretch : ∀ base : Heap, FnG l.prog w K mg base (L2.CX l.prog w) 1 p_w_stretch (PySem.W.fnOf "_law_stretch" "_law_stretch" (defArgs s_w_stretch) (defBody s_w_stretch) (defScope s_w_stretch) .none kV_w_stretch dc_w_stretch pm_w_stretch an_w_stretch cd_w_stretch ct_w_stretch) ["_law_writes", "_law_part", "_law_version"] (spM K F_w_stretch 3) := fun base => okf_w_stretch D_w_stretch (PySem.W.mg_none_of KX G b_len)
  have A_w_begun : ∀ base : Heap, FnG l.prog w K mg base (L2.CX l.prog w) 1 p_w_begun (PySem.W.fnOf "_law_begun" "_law_begun" (defArgs s_w_begun) (defBody s_w_begun) (defScope s_w_begun) .none kV_w_begun dc_w_begun pm_w_begun an_w_begun cd_w_begun ct_w_begun) ["_law_place", "_law_size"] (spM K F_w_begun 2) := fun base => okf_w_begun D_w_begun (PySem.W.mg_none_of KX G b_int)
  have A_w_possible : ∀ base : Heap, FnG l.prog w K mg base (L2.CX l.prog w) 2 p_w_possible (PySem.W.fnOf "_law_possible" "_law_possible" (defArgs s_w_possible) (defBody s_w_possible) (defScope s_w_possible) .none kV_w_possible dc_w_possible pm_w_possible an_w_possible cd_w_possible ct_w_possible) ["_law_writes", "_law_reads", "_law_some", "_law_most"] (spM K F_w_possible 4) := fun base => okf_w_possible D_w_possible (PySem.W.mg_none_of KX G b_len) (PySem.W.mg_none_of KX G b_max) (PySem.W.mg_none_of KX G b_int) (PySem.W.mg_none_of KX G b_min) (PySem.W.mg_none_of KX G b_zip) (A_w_begun base) (PySem.W.mg_of KX G n_w_begun) k_w_begun i_w_begun2 (A_w_stretch base) (PySem.W.mg_of KX G n_w_stretch) k_w_stretch i_w_stretch3
  exact ⟨_, fun s v => D_law.bindsA (ps := ["_law_script"]) (fun _ _ _ _ _ _ us hl => match us, hl with | [_], _ => rfl) s [v] rfl, fun base _ _ => okf_law D_law (PySem.W.mg_none_of KX G b_range) (PySem.W.mg_none_of KX G b_tuple) (PySem.W.mg_none_of KX G b_repr) (PySem.W.mg_none_of KX G b_len) (PySem.W.mg_none_of KX G b_dict) (PySem.W.mg_none_of KX G b_zip) (A_alike base) (PySem.W.mg_of KX G n_alike) k_alike i_alike2 (A_w_rows base) (PySem.W.mg_of KX G n_w_rows) k_w_rows i_w_rows2 (A_w_possible base) (PySem.W.mg_of KX G n_w_possible) k_w_possible i_w_possible4 (A_w_draw base) (PySem.W.mg_of KX G n_w_draw) k_w_draw i_w_draw2 (A_w_mixed base) (PySem.W.mg_of KX G n_w_mixed) k_w_mixed i_w_mixed2 (A_w_near base) (PySem.W.mg_of KX G n_w_near) k_w_near i_w_near2 (A_w_orders base) (PySem.W.mg_of KX G n_w_orders) k_w_orders i_w_orders2 (A_w_deal base) (PySem.W.mg_of KX G n_w_deal) k_w_deal i_w_deal2⟩
/-! ### the law's head -/
theorem law_sp {K : PySem.W.Frag} {F : OpN} {H : Hp} {a : Addr} {ns : List Int} (hF : ∃ hp', F [.t (.scr (ns.map T.int))] [] = .ok (.t (.bl true)) hp')
    (h : (∃ o, H a = some (.frz o (.lst (ns.map V.int)))) ∨ (∃ (o : Obj) (its : Array Value) (m : Nat), K.lookup a = some o ∧ o.cls = .type "list" ∧ o.dict = none ∧ o.data = .seq its m ∧ its.size ≤ sizeLine ∧ Vals (ns.map V.int) its.toList)) :
    spM K F 1 [.ref a] H (fun v _ => v = .bl true) fun _ _ _ => False := by
  obtain ⟨hp', e⟩ := hF
  let s : S4 := ⟨[], fun b => b = a ∧ ∃ o, H a = some (.frz o (.lst (ns.map V.int))), [], H⟩
  have nl : ∀ b, ¬ Live s b := fun b l => by
    obtain ⟨i, c, e1, _⟩ := l
    simp [s] at e1
  have R : Rel K s := ⟨rfl, List.nodup_nil, fun b m => absurd m (by simp [s]), fun b f => by obtain ⟨e1, o, e2⟩ := f; subst e1; show H b ≠ none; rw [e2]; simp, fun b l => absurd l (nl b), fun i c b e1 => by simp [s] at e1⟩
  refine ⟨s, [.t (.scr (ns.map T.int))], rfl, R, ?_, rfl, ?_⟩
  · refine ⟨.ref a, [], rfl, ?_, rfl⟩
    simp only [Rw, Rf]
    refine ⟨a, ns.map V.int, rfl, ?_, ints_rf ns⟩
    rcases h with ⟨o, h⟩ | h
    · exact .inl ⟨⟨rfl, o, h⟩, o, h⟩
    · exact .inr h
  · show Go K W0 (Rw K) s (noEr (F [.t (.scr (ns.map T.int))] [])) _
    rw [e]
    intro b s' _ _ _ r
    simpa only [Rw, Rf] using r
theorem no_cx {P : Program} {w : World} {o : List Env} {H : Hp} {s : Shared} {e : Value} {s' : Shared} (h : L2.CX P w o H s (fun _ _ _ => False) e s') : False := by
  obtain ⟨_, _, _, _, _, _, _, _, _, _, _, _, f⟩ := h
  exact f
end K47
open PySem PySem.W PyProof.Rows
set_option maxHeartbeats 0 in
theorem PySem.Challenge.cw_untorn_k47_orders_that_see_the_same_holds : PySem.Challenge.rw_untorn_k47_orders_that_see_the_same.Holds := by
  w_on; o_law; k_head; (case hw => w_witness2)
  k_fill
  refine Mir.walkG (l := PySem.Challenge.rw_untorn_k47_orders_that_see_the_same) (n := 63) (k := 5) (x := "_law_script") (CX := fun w => L2.CX PySem.Challenge.rw_untorn_k47_orders_that_see_the_same.prog w) (sp := fun w => Mir.spM _ K47.F_law 1) rfl (by decide) rfl ⟨rfl, by decide, by decide⟩ (fun w h Y => PySem.W.kIn_of Y) ?F (fun _ _ _ _ hl hS => K47.law_sp (K47.law_is hl) hS) (fun _ _ _ _ _ h => K47.no_cx h)
  case F =>
    intro w mg fa h KX G hmg
    refine' K47.all_mk KX G hmg ?n_w_deal ?l_w_deal ?c_w_deal ?k_w_deal ?n_w_draw ?l_w_draw ?c_w_draw ?k_w_draw ?n_w_mixed ?l_w_mixed ?c_w_mixed ?k_w_mixed ?n_w_orders ?l_w_orders ?c_w_orders ?k_w_orders ?n_w_near ?l_w_near ?c_w_near ?k_w_near ?n_w_rows ?l_w_rows ?c_w_rows ?k_w_rows ?n_greatest_excess ?l_greatest_excess ?c_greatest_excess ?k_greatest_excess ?n_differences ?l_differences ?c_differences ?k_differences ?t_differences ?u_differences ?n_named ?l_named ?c_named ?k_named ?n_alike ?l_alike ?c_alike ?k_alike ?n_w_stretch ?l_w_stretch ?c_w_stretch ?k_w_stretch ?n_w_begun ?l_w_begun ?c_w_begun ?k_w_begun ?n_w_possible ?l_w_possible ?c_w_possible ?k_w_possible ?n_law ?l_law ?c_law ?k_law ?b_enumerate ?b_int ?b_abs ?b_len ?b_list ?b_range ?b_tuple ?b_dict ?b_max ?b_min ?b_zip ?b_repr
    (case n_w_deal => k_is)
    (case l_w_deal => k_is)
    (case c_w_deal => k_is)
    (case k_w_deal => k_is)
    (case n_w_draw => k_is)
    (case l_w_draw => k_is)
    (case c_w_draw => k_is)
    (case k_w_draw => k_is)
    (case n_w_mixed => k_is)
    (case l_w_mixed => k_is)
    (case c_w_mixed => k_is)
    (case k_w_mixed => k_is)
    (case n_w_orders => k_is)
    (case l_w_orders => k_is)
    (case c_w_orders => k_is)
    (case k_w_orders => k_is)
    (case n_w_near => k_is)
    (case l_w_near => k_is)
    (case c_w_near => k_is)
    (case k_w_near => k_is)
    (case n_w_rows => k_is)
    (case l_w_rows => k_is)
    (case c_w_rows => k_is)
    (case k_w_rows => k_is)
    (case n_greatest_excess => k_is)
    (case l_greatest_excess => k_is)
    (case c_greatest_excess => k_is)
    (case k_greatest_excess => k_is)
    (case n_differences => k_is)
    (case l_differences => k_is)
    (case c_differences => k_is)
    (case k_differences => k_is)
    (case t_differences => k_is)
    (case u_differences => exact rfl)
    (case n_named => k_is)
    (case l_named => k_is)
    (case c_named => k_is)
    (case k_named => k_is)
    (case n_alike => k_is)
    (case l_alike => k_is)
    (case c_alike => k_is)
    (case k_alike => k_is)
    (case n_w_stretch => k_is)
    (case l_w_stretch => k_is)
    (case c_w_stretch => k_is)
    (case k_w_stretch => k_is)
    (case n_w_begun => k_is)
    (case l_w_begun => k_is)
    (case c_w_begun => k_is)
    (case k_w_begun => k_is)
    (case n_w_possible => k_is)
    (case l_w_possible => k_is)
    (case c_w_possible => k_is)
    (case k_w_possible => k_is)
    (case n_law => k_is)
    (case l_law => k_is)
    (case c_law => k_is)
    (case k_law => k_is)
    (case b_enumerate => k_is)
    (case b_int => k_is)
    (case b_abs => k_is)
    (case b_len => k_is)
    (case b_list => k_is)
    (case b_range => k_is)
    (case b_tuple => k_is)
    (case b_dict => k_is)
    (case b_max => k_is)
    (case b_min => k_is)
    (case b_zip => k_is)
    (case b_repr => k_is)
