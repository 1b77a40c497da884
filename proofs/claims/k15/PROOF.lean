import PyProof.Rows.All
import Wide.All
import OpenK.AllK
import Wide.FinOn
import HandS.ForMost
import HandS.Deep
import HandS.Flow
import HandS.IsInst
import HandS.EndBits
import KE.KDictKeyed
import HandS.DictTup
import HandS.Style
import HandS.Wide
import HandS.Zip
import HandS.Walk
import HandS.Ends
import HandS.Set
import HandS.SetFor
import HandS.Strs
import KE.SortData
import HandS.SortKw
import KE.GoesMore
import KE.DataFind
import KE.DataCmp
import KE.GoesZip
import KE.GoesEnum
import HandS.TupMul
import KE.DataMinMax
import HandS.TupSets
import KE.KDictDisplayH
import HandS.WordsExc
import HandS.TryOnly
import HandS.ExcOwn
import HandS.Conv
import HandS.NoneIn
import PySem.Challenge.RW_boardcalls_k15_whole_suits_exchanged
set_option Elab.async false
set_option linter.all false
set_option maxRecDepth 100000
/-! DL1: deep data over the hand layer: relations, judgements, names, constants, statements. -/
namespace DL
open PySem PySem.Spec PyProof.Rows L2
abbrev D := PyData
abbrev St := L2.St
/-- a list that nobody writes: frozen, or one of the module's own -/
def LsF (K : PySem.W.Frag) (H : Hp) (a : Addr) (vs : List V) : Prop :=
  (∃ o, H a = some (.frz o (.lst vs))) ∨ ∃ (its : Array Value) (n : Nat), K.lookup a = some { cls := .type "list", data := .seq its n } ∧ its.size ≤ sizeLine ∧ Vals vs its.toList
theorem LsF.sq {K : PySem.W.Frag} {H : Hp} {a : Addr} {vs : List V} (h : LsF K H a vs) : SqL K H a vs := by
  rcases h with h | ⟨its, n, e, z, r⟩
  · exact .inl (.inr h)
  · exact .inr ⟨_, its, n, e, rfl, rfl, rfl, z, r⟩
theorem LsF.of {K : PySem.W.Frag} {H : Hp} {a : Addr} {vs : List V} {o : Obj} (h : H a = some (.frz o (.lst vs))) : LsF K H a vs := .inl ⟨o, h⟩
/-- the object at a has no dict of its own -/
def DNo (K : PySem.W.Frag) (H : Hp) (a : Addr) : Prop := (∃ (o : Obj) (u : HO), H a = some (.frz o u) ∧ o.dict = none) ∨ ∃ o, K.lookup a = some o ∧ o.dict = none
def SqD (K : PySem.W.Frag) (H : Hp) (a : Addr) (vs : List V) : Prop := SqT K H a vs ∧ DNo K H a
/-! ### dicts whose keys are tuples (of ints, nested): the object by its entries -/
mutual
/-- the key of a dict that a tuple of ints (nested) is -/
def nkOf : D → Option NestedKey
  | .int i => some (.num i)
  | .tuple xs => (nksOf xs).map .tup
  | _ => none
def nksOf : List D → Option (List NestedKey)
  | [] => some []
  | x :: xs => match nkOf x, nksOf xs with
    | some k, some ks => some (k :: ks)
    | _, _ => none
end
/-- at a stands a dict with these entries -/
def dO (a : Addr) (es : List DictEntry) : HO := .ext fun h => ∃ (o : Obj) (ep : Nat), h.get? a = some o ∧ o.ExactDict ∧ o.data = .dict es.toArray ep
/-- an object's name as data -/
def hdl (a : Addr) : D := .dict [(.none, .int a)]
mutual
/-- the value v stands for the data d; lists within data are frozen -/
inductive Rp (K : PySem.W.Frag) (H : Hp) : D → V → Prop
  | non : Rp K H .none .non
  | bl (b : Bool) : Rp K H (.bool b) (.bl b)
  | int (i : Int) : Rp K H (.int i) (.int i)
  | str (x : Str) : Rp K H (.str x) (.str x)
  | tup {a : Addr} {vs : List V} {ds : List D} : SqD K H a vs → RpL K H ds vs → Rp K H (.tuple ds) (.ref a)
  | lst {a : Addr} {vs : List V} {ds : List D} : LsF K H a vs → RpL K H ds vs → Rp K H (.list ds) (.ref a)
  | dct {a : Addr} {o : Obj} {es : List DictEntry} {kvs : List (D × D)} : H a = some (.frz o (dO a es)) → RpD K H kvs es → (kvs.map fun p => nkOf p.1).Nodup → (a == sysModules) = false → Rp K H (.dict kvs) (.ref a)
  | hdl (a : Addr) : Rp K H (hdl a) (.ref a)
inductive RpL (K : PySem.W.Frag) (H : Hp) : List D → List V → Prop
  | nil : RpL K H [] []
  | cons {d : D} {v : V} {ds : List D} {vs : List V} : Rp K H d v → RpL K H ds vs → RpL K H (d :: ds) (v :: vs)
/-- the entries of a dict -/
inductive RpD (K : PySem.W.Frag) (H : Hp) : List (D × D) → List DictEntry → Prop
  | nil : RpD K H [] []
  | cons {k d : D} {nk : NestedKey} {b : Addr} {v : V} {e : DictEntry} {kvs : List (D × D)} {es : List DictEntry} : (∃ xs, k = .tuple xs) → nkOf k = some nk → nk.depth ≤ 8 → (∀ w, e.hash = nk.hash w) → e.key = .ref b → Rp K H k (.ref b) → Rp K H d v → RelV v e.val → RpD K H kvs es → RpD K H ((k, d) :: kvs) (e :: es)
end
/-- what never changes stays -/
structure Ext (H H' : Hp) : Prop where
  tup : ∀ a xs, H a = some (.tup xs) → H' a = some (.tup xs)
  frz : ∀ a o u, H a = some (.frz o u) → H' a = some (.frz o u)
/-- all stays -/
def PExt (H H' : Hp) : Prop := ∀ a o, H a = some o → H' a = some o
theorem PExt.ext {H H' : Hp} (p : PExt H H') : Ext H H' := ⟨fun a xs h => p a _ h, fun a o u h => p a _ h⟩
theorem PExt.refl (H : Hp) : PExt H H := fun _ _ h => h
theorem PExt.trans {H H1 H2 : Hp} (a : PExt H H1) (b : PExt H1 H2) : PExt H H2 := fun p o h => b p o (a p o h)
theorem Ext.refl (H : Hp) : Ext H H := ⟨fun _ _ h => h, fun _ _ _ h => h⟩
theorem Ext.trans {H H1 H2 : Hp} (a : Ext H H1) (b : Ext H1 H2) : Ext H H2 := ⟨fun p xs h => b.tup p xs (a.tup p xs h), fun p o u h => b.frz p o u (a.frz p o u h)⟩
theorem PExt.new {H : Hp} {p : Addr} {o : HO} (h : H p = none) : PExt H (upd H p o) := fun a u e => by
  rw [upd_ne (ne_of_none e h)]; exact e
/-- something soft is changed -/
theorem Ext.putS {H : Hp} {p : Addr} {u o : HO} (h : H p = some u) (h1 : ∀ xs, u ≠ .tup xs) (h2 : ∀ q v, u ≠ .frz q v) : Ext H (upd H p o) :=
  ⟨fun a ys e => by rw [upd_ne (ne_of e h (Ne.symm (h1 ys)))]; exact e, fun a q v e => by rw [upd_ne (ne_of e h (Ne.symm (h2 q v)))]; exact e⟩
/-- a list is changed -/
theorem Ext.put {H : Hp} {p : Addr} {xs : List V} {o : HO} (h : H p = some (.lst xs)) : Ext H (upd H p o) :=
  ⟨fun a ys e => by rw [upd_ne (ne_of e h (by intro z; cases z))]; exact e, fun a q u e => by rw [upd_ne (ne_of e h (by intro z; cases z))]; exact e⟩
section
variable {K : PySem.W.Frag} {H H' : Hp}
theorem SqT.ext {a : Addr} {xs : List V} (x : Ext H H') (h : SqT K H a xs) : SqT K H' a xs := by
  rcases h with (h | ⟨o, h⟩) | h
  · exact .inl (.inl (x.tup _ _ h))
  · exact .inl (.inr ⟨o, x.frz _ _ _ h⟩)
  · exact .inr h
theorem SqD.ext {a : Addr} {xs : List V} (x : Ext H H') (h : SqD K H a xs) : SqD K H' a xs := by
  refine ⟨SqT.ext x h.1, ?_⟩
  rcases h.2 with ⟨o, u, e, d⟩ | h
  · exact .inl ⟨o, u, x.frz _ _ _ e, d⟩
  · exact .inr h
theorem SqD.new {p : Addr} {o : Obj} {vs : List V} (d : o.dict = none) : SqD K (upd H p (.frz o (.tup vs))) p vs := ⟨.inl (.inr ⟨o, upd_same⟩), .inl ⟨o, _, upd_same, d⟩⟩
theorem LsF.ext {a : Addr} {xs : List V} (x : Ext H H') (h : LsF K H a xs) : LsF K H' a xs := by
  rcases h with ⟨o, h⟩ | h
  · exact .inl ⟨o, x.frz _ _ _ h⟩
  · exact .inr h
mutual
theorem Rp.ext (x : Ext H H') : ∀ {d : D} {v : V}, Rp K H d v → Rp K H' d v
  | _, _, .non => .non
  | _, _, .bl b => .bl b
  | _, _, .int i => .int i
  | _, _, .str s => .str s
  | _, _, .tup h l => .tup (SqD.ext x h) (RpL.ext x l)
  | _, _, .lst h l => .lst (LsF.ext x h) (RpL.ext x l)
  | _, _, .dct h l n m => .dct (x.frz _ _ _ h) (RpD.ext x l) n m
  | _, _, .hdl a => .hdl a
theorem RpL.ext (x : Ext H H') : ∀ {ds : List D} {vs : List V}, RpL K H ds vs → RpL K H' ds vs
  | _, _, .nil => .nil
  | _, _, .cons h l => .cons (Rp.ext x h) (RpL.ext x l)
theorem RpD.ext (x : Ext H H') : ∀ {kvs : List (D × D)} {es : List DictEntry}, RpD K H kvs es → RpD K H' kvs es
  | _, _, .nil => .nil
  | _, _, .cons t n1 n2 n3 e h g r l => .cons t n1 n2 n3 e (Rp.ext x h) (Rp.ext x g) r (RpD.ext x l)
end
theorem RpD.length : ∀ {kvs : List (D × D)} {es : List DictEntry}, RpD K H kvs es → kvs.length = es.length
  | _, _, .nil => rfl
  | _, _, .cons _ _ _ _ _ _ _ _ l => by rw [List.length_cons, List.length_cons, RpD.length l]
theorem RpL.length : ∀ {ds : List D} {vs : List V}, RpL K H ds vs → ds.length = vs.length
  | _, _, .nil => rfl
  | _, _, .cons _ l => by rw [List.length_cons, List.length_cons, RpL.length l]
theorem RpL.get : ∀ {ds : List D} {vs : List V} {i : Nat} {d : D}, RpL K H ds vs → ds[i]? = some d → ∃ v, vs[i]? = some v ∧ Rp K H d v
  | _, _, _, _, .nil, e => by simp at e
  | _, _, 0, _, .cons r _, e => by simp at e; subst e; exact ⟨_, rfl, r⟩
  | _, _, i + 1, d, .cons _ t, e => by
    obtain ⟨u, h1, h2⟩ := RpL.get (i := i) (d := d) t (by simpa using e)
    exact ⟨u, by simpa using h1, h2⟩
theorem RpL.getV : ∀ {ds : List D} {vs : List V} {i : Nat} {v : V}, RpL K H ds vs → vs[i]? = some v → ∃ d, ds[i]? = some d ∧ Rp K H d v
  | _, _, _, _, .nil, e => by simp at e
  | _, _, 0, _, .cons r _, e => by simp at e; subst e; exact ⟨_, rfl, r⟩
  | _, _, i + 1, d, .cons _ t, e => by
    obtain ⟨u, h1, h2⟩ := RpL.getV (i := i) (v := d) t (by simpa using e)
    exact ⟨u, by simpa using h1, h2⟩
theorem RpL.append : ∀ {ds es : List D} {vs us : List V}, RpL K H ds vs → RpL K H es us → RpL K H (ds ++ es) (vs ++ us)
  | _, _, _, _, .nil, s => s
  | _, _, _, _, .cons r t, s => .cons r (RpL.append t s)
theorem RpL.take : ∀ {ds : List D} {vs : List V} (n : Nat), RpL K H ds vs → RpL K H (ds.take n) (vs.take n)
  | _, _, 0, _ => .nil
  | _, _, _ + 1, .nil => .nil
  | _, _, n + 1, .cons r t => .cons r (RpL.take n t)
theorem RpL.drop : ∀ {ds : List D} {vs : List V} (n : Nat), RpL K H ds vs → RpL K H (ds.drop n) (vs.drop n)
  | _, _, 0, r => r
  | _, _, _ + 1, .nil => .nil
  | _, _, n + 1, .cons _ t => RpL.drop n t
theorem RpL.set {d : D} {v : V} (r : Rp K H d v) : ∀ {ds : List D} {vs : List V} (i : Nat), RpL K H ds vs → RpL K H (ds.set i d) (vs.set i v)
  | _, _, _, .nil => .nil
  | _, _, 0, .cons _ t => .cons r t
  | _, _, i + 1, .cons q t => .cons q (RpL.set r i t)
theorem RpL.eraseIdx : ∀ {ds : List D} {vs : List V} (i : Nat), RpL K H ds vs → RpL K H (ds.eraseIdx i) (vs.eraseIdx i)
  | _, _, _, .nil => .nil
  | _, _, 0, .cons _ t => t
  | _, _, i + 1, .cons q t => .cons q (RpL.eraseIdx i t)
theorem RpL.reverse : ∀ {ds : List D} {vs : List V}, RpL K H ds vs → RpL K H ds.reverse vs.reverse
  | _, _, .nil => .nil
  | _, _, .cons q t => by rw [List.reverse_cons, List.reverse_cons]; exact RpL.append (RpL.reverse t) (.cons q .nil)
theorem RpL.ints : ∀ {ns : List Int} {vs : List V}, RpL K H (ns.map PyData.int) vs → vs = ns.map V.int
  | [], _, .nil => rfl
  | _ :: _, _, .cons (.int _) t => by rw [RpL.ints t]; rfl
theorem RpL.ofInts : ∀ (ns : List Int), RpL K H (ns.map PyData.int) (ns.map V.int)
  | [] => .nil
  | n :: ns => .cons (.int n) (RpL.ofInts ns)
mutual
theorem Rp.dp : ∀ {d : D} {v : V}, Rp K H d v → d.canLay0 = true → Dp K H v d
  | _, _, .non, _ => .non
  | _, _, .bl b, _ => .bl b
  | _, _, .int i, _ => .int i
  | _, _, .str s, _ => .str s
  | _, _, .tup h l, z => .tup h.1 (RpL.dp l (by simpa [PyData.canLay0] using z))
  | _, _, .lst h l, z => .lst h.sq (RpL.dp l (by simpa [PyData.canLay0] using z))
  | _, _, .dct _ _ _ _, z => by simp [PyData.canLay0] at z
  | _, _, .hdl a, z => by simp [DL.hdl, PyData.canLay0] at z
theorem RpL.dp : ∀ {ds : List D} {vs : List V}, RpL K H ds vs → PyData.canLayAll0 ds = true → DpAll K H vs ds
  | _, _, .nil, _ => .nil
  | _, _, .cons h l, z => by
    simp only [PyData.canLayAll0, Bool.and_eq_true] at z
    exact .cons (Rp.dp h z.1) (RpL.dp l z.2)
end
end
/-- readable now: as Rp, the outermost list may be one that can change -/
def RpR (K : PySem.W.Frag) (H : Hp) (d : D) (v : V) : Prop :=
  Rp K H d v ∨ ∃ (ds : List D) (a : Addr) (vs : List V), d = .list ds ∧ v = .ref a ∧ H a = some (.lst vs) ∧ RpL K H ds vs
theorem RpR.dp {K : PySem.W.Frag} {H : Hp} {d : D} {v : V} (h : RpR K H d v) (z : d.canLay0 = true) : Dp K H v d := by
  rcases h with h | ⟨ds, a, vs, rfl, rfl, h, l⟩
  · exact h.dp z
  · exact .lst (.inl (.inl h)) (l.dp (by simpa [PyData.canLay0] using z))
/-- what an iterator hands out: a pair of its own may be there, of which less is known -/
def RpB (W : Bool) (K : PySem.W.Frag) (H : Hp) (d : D) (v : V) : Prop :=
  if W = true then Rp K H d v ∨ ∃ (ds : List D) (a : Addr) (vs : List V), d = .tuple ds ∧ v = .ref a ∧ SqT K H a vs ∧ RpL K H ds vs else Rp K H d v
theorem RpB.of {W : Bool} {K : PySem.W.Frag} {H : Hp} {d : D} {v : V} (h : Rp K H d v) : RpB W K H d v := by unfold RpB; split; exact .inl h; exact h
theorem RpB.pair {K : PySem.W.Frag} {H : Hp} {ds : List D} {a : Addr} {vs : List V} (h : SqT K H a vs) (l : RpL K H ds vs) : RpB true K H (.tuple ds) (.ref a) := .inr ⟨_, _, _, rfl, rfl, h, l⟩
/-- a list or a tuple that is read: its items -/
theorem RpR.list {K : PySem.W.Frag} {H : Hp} {ds : List D} {v : V} (h : RpR K H (.list ds) v) : ∃ a vs, v = .ref a ∧ SqL K H a vs ∧ RpL K H ds vs := by
  rcases h with h | ⟨ds, a, vs, e, rfl, h, l⟩
  · cases h with
    | lst h l => exact ⟨_, _, rfl, h.sq, l⟩
  · cases e
    exact ⟨_, _, rfl, .inl (.inl h), l⟩
theorem RpR.tupD {K : PySem.W.Frag} {H : Hp} {ds : List D} {v : V} (h : RpR K H (.tuple ds) v) : ∃ a vs, v = .ref a ∧ SqD K H a vs ∧ RpL K H ds vs := by
  rcases h with h | ⟨ds, a, vs, e, _⟩
  · cases h with
    | tup h l => exact ⟨_, _, rfl, h, l⟩
  · cases e
theorem RpR.tuple {K : PySem.W.Frag} {H : Hp} {ds : List D} {v : V} (h : RpR K H (.tuple ds) v) : ∃ a vs, v = .ref a ∧ SqT K H a vs ∧ RpL K H ds vs := by
  rcases h with h | ⟨ds, a, vs, e, rfl, h, l⟩
  · cases h with
    | tup h l => exact ⟨_, _, rfl, h.1, l⟩
  · cases e
theorem RpR.int {K : PySem.W.Frag} {H : Hp} {i : Int} {v : V} (h : RpR K H (.int i) v) : v = .int i := by
  rcases h with h | ⟨_, _, _, e, _⟩
  · cases h; rfl
  · cases e
theorem RpR.str {K : PySem.W.Frag} {H : Hp} {i : Str} {v : V} (h : RpR K H (.str i) v) : v = .str i := by
  rcases h with h | ⟨_, _, _, e, _⟩
  · cases h; rfl
  · cases e
theorem RpR.bool {K : PySem.W.Frag} {H : Hp} {i : Bool} {v : V} (h : RpR K H (.bool i) v) : v = .bl i := by
  rcases h with h | ⟨_, _, _, e, _⟩
  · cases h; rfl
  · cases e
theorem RpR.none {K : PySem.W.Frag} {H : Hp} {v : V} (h : RpR K H .none v) : v = .non := by
  rcases h with h | ⟨_, _, _, e, _⟩
  · cases h; rfl
  · cases e
theorem RpR.pext {K : PySem.W.Frag} {H H' : Hp} {d : D} {v : V} (p : PExt H H') (h : RpR K H d v) : RpR K H' d v := by
  rcases h with h | ⟨ds, a, vs, rfl, rfl, h, l⟩
  · exact .inl (h.ext p.ext)
  · exact .inr ⟨ds, a, vs, rfl, rfl, p _ _ h, l.ext p.ext⟩
/-! ### the environment -/
inductive FS where
  | d (x : D)
  | l (xs : List D)
inductive S where
  /-- not known -/
  | un
  /-- data -/
  | d (x : D)
  /-- a list of one's own that may change -/
  | ol (xs : List D)
  /-- a dict of one's own, keys tuples of ints -/
  | dt (kvs : List (D × D))
  /-- a dict of one's own, keys ints and texts -/
  | dk (kvs : List (Key × D))
  /-- no name's: the object at a, of the class at C -/
  | ob (a C : Addr) (fs : List (Str × FS))
abbrev Env := List S
def S.isMut : S → Bool
  | .ol _ => true
  | .dt _ => true
  | .dk _ => true
  | _ => false
structure Gh where
  H0 : Hp
  own : List (Nat × Addr)
  X0 : Hp := fun _ => none
def Gh.slots (G : Gh) : List Nat := G.own.map (·.1)
def Gh.addrs (G : Gh) : List Addr := G.own.map (·.2)
/-- a mutable thing at an address -/
def RelM (K : PySem.W.Frag) (H : Hp) : S → Addr → Prop
  | .ol xs, a => ∃ vs, H a = some (.lst vs) ∧ RpL K H xs vs
  | .dt kvs, a => ∃ es, H a = some (dO a es) ∧ RpD K H kvs es ∧ (kvs.map fun p => nkOf p.1).Nodup ∧ (a == sysModules) = false
  | .dk kvs, a => ∃ us, H a = some (.dK us) ∧ us.map (·.1) = kvs.map (·.1) ∧ RpL K H (kvs.map (·.2)) (us.map (·.2))
  | _, _ => False
/-- the fields of an object: data, lists of its own -/
inductive FsR (K : PySem.W.Frag) (H : Hp) : List (Str × FS) → List (Str × V) → List Addr → Prop
  | nil : FsR K H [] [] []
  | d {f : Str} {x : D} {v : V} {fs : List (Str × FS)} {vs : List (Str × V)} {ls : List Addr} : Rp K H x v → FsR K H fs vs ls → FsR K H ((f, .d x) :: fs) ((f, v) :: vs) ls
  | l {f : Str} {xs : List D} {a : Addr} {us : List V} {fs : List (Str × FS)} {vs : List (Str × V)} {ls : List Addr} : H a = some (.lst us) → RpL K H xs us → FsR K H fs vs ls → FsR K H ((f, .l xs) :: fs) ((f, .ref a) :: vs) (a :: ls)
def RelOb (K : PySem.W.Frag) (H : Hp) (a C : Addr) (fs : List (Str × FS)) (fp : List Addr) : Prop :=
  ∃ dx vs ls, fp = a :: dx :: ls ∧ fp.Nodup ∧ H a = some (.ins C dx vs) ∧ H dx = some (.own a) ∧ FsR K H fs vs ls
def RelS (K : PySem.W.Frag) (H : Hp) (s : S) (o : Option (Option V)) (fp : List Addr) : Prop :=
  match s with
  | .un => fp = []
  | .d x => fp = [] ∧ ∃ v, o = some (some v) ∧ Rp K H x v
  | .ob a C fs => RelOb K H a C fs fp
  | .ol xs => ∃ a, fp = [a] ∧ o = some (some (.ref a)) ∧ RelM K H (.ol xs) a
  | .dt xs => ∃ a, fp = [a] ∧ o = some (some (.ref a)) ∧ RelM K H (.dt xs) a
  | .dk xs => ∃ a, fp = [a] ∧ o = some (some (.ref a)) ∧ RelM K H (.dk xs) a
theorem RelS.mut {K : PySem.W.Frag} {H : Hp} {s : S} {o : Option (Option V)} {fp : List Addr} (h : RelS K H s o fp) (m : s.isMut = true) : ∃ a, fp = [a] ∧ o = some (some (.ref a)) ∧ RelM K H s a := by
  cases s with
  | ol _ => exact h
  | dt _ => exact h
  | dk _ => exact h
  | _ => cases m
theorem RelS.ofMut {K : PySem.W.Frag} {H : Hp} {s : S} {o : Option (Option V)} {a : Addr} (m : s.isMut = true) (e : o = some (some (.ref a))) (h : RelM K H s a) : RelS K H s o [a] := by
  cases s with
  | ol _ => exact ⟨a, rfl, e, h⟩
  | dt _ => exact ⟨a, rfl, e, h⟩
  | dk _ => exact ⟨a, rfl, e, h⟩
  | _ => cases m
/-- what can change: no tuple, nothing frozen -/
def Soft (H : Hp) (a : Addr) : Prop := ∃ u, H a = some u ∧ (∀ xs, u ≠ .tup xs) ∧ ∀ o v, u ≠ .frz o v
theorem RelM.soft {K : PySem.W.Frag} {H : Hp} {s : S} {a : Addr} (h : RelM K H s a) : Soft H a := by
  cases s with
  | ol xs => obtain ⟨vs, e, _⟩ := h; exact ⟨_, e, (fun _ z => by cases z), fun _ _ z => by cases z⟩
  | dt xs => obtain ⟨vs, e, _⟩ := h; exact ⟨_, e, (fun _ z => by cases z), fun _ _ z => by cases z⟩
  | dk xs => obtain ⟨vs, e, _⟩ := h; exact ⟨_, e, (fun _ z => by cases z), fun _ _ z => by cases z⟩
  | _ => exact h.elim
theorem RelM.isMut {K : PySem.W.Frag} {H : Hp} {s : S} {a : Addr} (h : RelM K H s a) : s.isMut = true := by
  cases s with
  | ol xs => rfl
  | dt xs => rfl
  | dk xs => rfl
  | _ => exact h.elim
theorem RelM.move {K : PySem.W.Frag} {H H' : Hp} {s : S} {a : Addr} (h : RelM K H s a) (x : Ext H H') (k : H' a = H a) : RelM K H' s a := by
  cases s with
  | ol xs => obtain ⟨vs, e, l⟩ := h; exact ⟨vs, by rw [k]; exact e, l.ext x⟩
  | dt xs => obtain ⟨es, e, l, n, m⟩ := h; exact ⟨es, by rw [k]; exact e, l.ext x, n, m⟩
  | dk xs => obtain ⟨us, e, n, l⟩ := h; exact ⟨us, by rw [k]; exact e, n, l.ext x⟩
  | _ => exact h.elim
theorem FsR.move {K : PySem.W.Frag} {H H' : Hp} (x : Ext H H') : ∀ {fs : List (Str × FS)} {vs : List (Str × V)} {ls : List Addr}, FsR K H fs vs ls → (∀ p ∈ ls, H' p = H p) → FsR K H' fs vs ls
  | _, _, _, .nil, _ => .nil
  | _, _, _, FsR.d h r, k => FsR.d (h.ext x) (FsR.move x r k)
  | _, _, _, FsR.l h q r, k => FsR.l (by rw [k _ (List.mem_cons_self ..)]; exact h) (q.ext x) (FsR.move x r fun p hp => k p (List.mem_cons_of_mem _ hp))
theorem FsR.soft {K : PySem.W.Frag} {H : Hp} : ∀ {fs : List (Str × FS)} {vs : List (Str × V)} {ls : List Addr}, FsR K H fs vs ls → ∀ p ∈ ls, Soft H p
  | _, _, _, .nil, p, hp => by cases hp
  | _, _, _, FsR.d h r, p, hp => FsR.soft r p hp
  | _, _, _, FsR.l h q r, p, hp => by
    rcases List.mem_cons.mp hp with z | z
    · subst z; exact ⟨_, h, (fun _ z => by cases z), fun _ _ z => by cases z⟩
    · exact FsR.soft r p z
/-- what a slot holds stays, if its footprint does -/
theorem RelS.move {K : PySem.W.Frag} {H H' : Hp} {s : S} {o : Option (Option V)} {fp : List Addr} (h : RelS K H s o fp) (x : Ext H H') (k : ∀ p ∈ fp, H' p = H p) : RelS K H' s o fp := by
  cases s with
  | un => exact h
  | d y => obtain ⟨h1, v, h2, h3⟩ := h; exact ⟨h1, v, h2, h3.ext x⟩
  | ob a C fs =>
    obtain ⟨dx, vs, ls, e, nd, h1, h2, h3⟩ := h
    subst e
    exact ⟨dx, vs, ls, rfl, nd, by rw [k a (by simp)]; exact h1, by rw [k dx (by simp)]; exact h2, h3.move x fun p hp => k p (by simp [hp])⟩
  | ol xs => obtain ⟨a, e, e2, h⟩ := h; subst e; exact ⟨a, rfl, e2, h.move x (k a (by simp))⟩
  | dt xs => obtain ⟨a, e, e2, h⟩ := h; subst e; exact ⟨a, rfl, e2, h.move x (k a (by simp))⟩
  | dk xs => obtain ⟨a, e, e2, h⟩ := h; subst e; exact ⟨a, rfl, e2, h.move x (k a (by simp))⟩
/-- ex: addresses apart from all footprints -/
structure RelX (K : PySem.W.Frag) (G : Gh) (ex : List Addr) (H : Hp) (E : Env) (σ : St) : Prop where
  len : E.length = σ.length
  keep : ∀ p o, G.H0 p = some o → p ∉ G.addrs → H p = some o
  pin : ∀ i a, (i, a) ∈ G.own → σ[i]? = some (some (V.ref a))
  dom : ∀ a ∈ G.addrs, H a ≠ none
  ext : Ext G.X0 H
  fp : ∃ A : Nat → List Addr, (∀ i j a, a ∈ A i → a ∈ A j → i = j) ∧ (∀ i a, a ∈ A i → (a ∈ G.addrs ∨ G.H0 a = none) ∧ a ∉ ex) ∧ ∀ i s, E[i]? = some s → RelS K H s σ[i]? (A i)
abbrev RelE (K : PySem.W.Frag) (G : Gh) (H : Hp) (E : Env) (σ : St) : Prop := RelX K G [] H E σ
section
variable {K : PySem.W.Frag} {G : Gh} {H H' : Hp} {E : Env} {σ : St} {ex : List Addr}
/-- a footprint lies in the heap -/
theorem RelS.indom {s : S} {o : Option (Option V)} {fp : List Addr} (h : RelS K H s o fp) : ∀ a ∈ fp, Soft H a := by
  cases s with
  | un => intro a ha; rw [show fp = [] from h] at ha; cases ha
  | d x => intro a ha; rw [h.1] at ha; cases ha
  | ob a C fs =>
    obtain ⟨dx, vs, ls, e, nd, h1, h2, h3⟩ := h
    subst e
    intro p hp
    rcases List.mem_cons.mp hp with z | z
    · subst z; exact ⟨_, h1, (fun _ z => by cases z), fun _ _ z => by cases z⟩
    · rcases List.mem_cons.mp z with z | z
      · subst z; exact ⟨_, h2, (fun _ z => by cases z), fun _ _ z => by cases z⟩
      · exact h3.soft p z
  | ol xs => obtain ⟨a, e, e2, h⟩ := h; subst e; intro p hp; rw [List.mem_singleton.mp hp]; exact h.soft
  | dt xs => obtain ⟨a, e, e2, h⟩ := h; subst e; intro p hp; rw [List.mem_singleton.mp hp]; exact h.soft
  | dk xs => obtain ⟨a, e, e2, h⟩ := h; subst e; intro p hp; rw [List.mem_singleton.mp hp]; exact h.soft
theorem RelS.pext {s : S} {o : Option (Option V)} {fp : List Addr} (p : PExt H H') (h : RelS K H s o fp) : RelS K H' s o fp :=
  h.move p.ext fun a ha => by
    obtain ⟨u, e, _⟩ := h.indom a ha
    rw [e, p _ _ e]
theorem RelX.pext (p : PExt H H') (h : RelX K G ex H E σ) : RelX K G ex H' E σ := by
  obtain ⟨l, k, pn, dm, x0, A, h1, h2, h3⟩ := h
  refine ⟨l, fun q o e ne => p _ _ (k q o e ne), pn, fun a ha z => ?_, x0.trans p.ext, A, h1, h2, fun i s e => (h3 i s e).pext p⟩
  cases q : H a with
  | none => exact dm a ha q
  | some o => have := p _ _ q; rw [z] at this; cases this
theorem RelX.weak (h : RelX K G ex H E σ) : RelE K G H E σ := by
  obtain ⟨l, k, pn, dm, x0, A, h1, h2, h3⟩ := h
  exact ⟨l, k, pn, dm, x0, A, h1, fun i a e => ⟨(h2 i a e).1, by simp⟩, h3⟩
end
end DL
set_option Elab.async false
set_option linter.all false
set_option maxRecDepth 100000
namespace DL
open PySem PySem.Spec PyProof.Rows L2
/-! ### judgements -/
abbrev TD := Env → (D → Env → Prop) → Prop
abbrev TLd := Env → (List D → Env → Prop) → Prop
abbrev TTd := Env → (Bool → Env → Prop) → Prop
structure EndsD where
  nx : Env → Prop
  rt : D → Env → Prop
  bk : Env → Prop := fun _ => False
  ct : Env → Prop := fun _ => False
abbrev TSd := EndsD → Env → Prop
/-- an argument: data, or a name of a mutable thing -/
inductive Arg where
  | v (x : D)
  | o (i : Nat)
abbrev TAd := Env → (List Arg → Env → Prop) → Prop
def liftE (K : PySem.W.Frag) (G : Gh) (t : TD) : TE := fun σ H Q => ∃ (E : Env) (QE : D → Env → Prop), RelE K G H E σ ∧ t E QE ∧ ∀ d E' v H', QE d E' → Ext H H' → RelE K G H' E' σ → Rp K H' d v → Q v H'
/-- a new list: nobody else has it -/
def liftL (K : PySem.W.Frag) (G : Gh) (t : TLd) : TE := fun σ H Q => ∃ (E : Env) (QE : List D → Env → Prop), RelE K G H E σ ∧ t E QE ∧
  ∀ xs E' a vs H', QE xs E' → Ext H H' → RelX K G [a] H' E' σ → G.H0 a = none → a ∉ G.addrs → H' a = some (.lst vs) → RpL K H' xs vs → Q (.ref a) H'
/-- readable now -/
def liftR (K : PySem.W.Frag) (G : Gh) (t : TD) : TE := fun σ H Q => ∃ (E : Env) (QE : D → Env → Prop), RelE K G H E σ ∧ t E QE ∧ ∀ d E' v H', QE d E' → Ext H H' → RelE K G H' E' σ → RpR K H' d v → Q v H'
def liftT (K : PySem.W.Frag) (G : Gh) (t : TTd) : TT := fun σ H Q => ∃ (E : Env) (QE : Bool → Env → Prop), RelE K G H E σ ∧ t E QE ∧ ∀ b E' H', QE b E' → Ext H H' → RelE K G H' E' σ → Q b H'
/-- the values of arguments at a heap -/
inductive RelA (K : PySem.W.Frag) (H : Hp) (σ : St) : List Arg → List V → Prop
  | nil : RelA K H σ [] []
  | v {x : D} {v : V} {as : List Arg} {vs : List V} : Rp K H x v → RelA K H σ as vs → RelA K H σ (.v x :: as) (v :: vs)
  | o {i : Nat} {v : V} {as : List Arg} {vs : List V} : σ[i]? = some (some v) → RelA K H σ as vs → RelA K H σ (.o i :: as) (v :: vs)
def liftA (K : PySem.W.Frag) (G : Gh) (t : TAd) : TA := fun σ H Q => ∃ (E : Env) (QE : List Arg → Env → Prop), RelE K G H E σ ∧ t E QE ∧ ∀ as E' vs H', QE as E' → Ext H H' → RelE K G H' E' σ → RelA K H' σ as vs → Q vs H'
def liftS (K : PySem.W.Frag) (G : Gh) (t : TSd) : TS := fun F σ H => ∃ (E : Env) (DE : EndsD), RelE K G H E σ ∧ t DE E ∧
  (∀ E' σ' H', DE.nx E' → Ext H H' → RelE K G H' E' σ' → F.nx σ' H') ∧
  (∀ d E' v σ' H', DE.rt d E' → Ext H H' → RelE K G H' E' σ' → Rp K H' d v → F.rt v H') ∧
  (∀ E' σ' H', DE.bk E' → Ext H H' → RelE K G H' E' σ' → F.bk σ' H') ∧
  (∀ E' σ' H', DE.ct E' → Ext H H' → RelE K G H' E' σ' → F.ct σ' H')
structure ED (X : Cx) (G : Gh) (e : Expr) (t : TD) : Prop where
  pe : PE X e (liftE X.K G t)
structure EL (X : Cx) (G : Gh) (e : Expr) (t : TLd) : Prop where
  pe : PE X e (liftL X.K G t)
structure ER (X : Cx) (G : Gh) (e : Expr) (t : TD) : Prop where
  pe : PE X e (liftR X.K G t)
structure EB (X : Cx) (G : Gh) (e : Expr) (t : TTd) : Prop where
  pt : PT X e (liftT X.K G t)
structure EW (X : Cx) (G : Gh) (e : Expr) (t : TTd) : Prop where
  pw : PW X e (liftT X.K G t)
structure EA (X : Cx) (G : Gh) (es : List Expr) (t : TAd) : Prop where
  pa : PA X es (liftA X.K G t)
structure SD (X : Cx) (G : Gh) (st : Stmt) (t : TSd) : Prop where
  ps : PS X st (liftS X.K G t)
structure SDs (X : Cx) (G : Gh) (st : List Stmt) (t : TSd) : Prop where
  pss : PSs X st (liftS X.K G t)
theorem PE.weak {X : Cx} {e : Expr} {t u : TE} (h : PE X e t) (w : ∀ σ H Q, u σ H Q → t σ H Q) : PE X e u := ⟨fun pins s σ H Q I q => h.run pins s σ H Q I (w σ H Q q)⟩
theorem PT.weak {X : Cx} {e : Expr} {t u : TT} (h : PT X e t) (w : ∀ σ H Q, u σ H Q → t σ H Q) : PT X e u := ⟨fun pins s σ H Q I q => h.run pins s σ H Q I (w σ H Q q)⟩
theorem PW.weak {X : Cx} {e : Expr} {t u : TT} (h : PW X e t) (w : ∀ σ H Q, u σ H Q → t σ H Q) : PW X e u := ⟨fun wh pins s σ H Q I q => h.run wh pins s σ H Q I (w σ H Q q)⟩
theorem PA.weak {X : Cx} {es : List Expr} {t u : TA} (h : PA X es t) (w : ∀ σ H Q, u σ H Q → t σ H Q) : PA X es u := ⟨fun pos pins s σ H Q I q => h.run pos pins s σ H Q I (w σ H Q q)⟩
theorem PS.weak {X : Cx} {st : Stmt} {t u : TS} (h : PS X st t) (w : ∀ F σ H, u F σ H → t F σ H) : PS X st u := ⟨fun pins s σ H F I q => h.run pins s σ H F I (w F σ H q)⟩
theorem PSs.weak {X : Cx} {st : List Stmt} {t u : TS} (h : PSs X st t) (w : ∀ F σ H, u F σ H → t F σ H) : PSs X st u := ⟨fun pins s σ H F I q => h.run pins s σ H F I (w F σ H q)⟩
section
variable {X : Cx} {G : Gh} {a b c e : Expr} {es : List Expr} {pos : Pos}
/-- data may be read -/
theorem ED.er {t : TD} (h : ED X G e t) : ER X G e t := ⟨PE.weak h.pe fun σ H Q ⟨E, QE, r, q, k⟩ => ⟨E, QE, r, q, fun d E' v H' z x r' p => k d E' v H' z x r' (.inl p)⟩⟩
/-! ### names, constants -/
def tV (i : Nat) : TD := fun E Q => match E[i]? with
  | some (.d x) => Q x E
  | _ => False
/-- a name that may hold a list that can change, read now -/
def tVr (i : Nat) : TD := fun E Q => match E[i]? with
  | some (.d x) => Q x E
  | some (.ol xs) => Q (.list xs) E
  | _ => False
def tK (d : D) : TD := fun E Q => Q d E
theorem RelX.data {K : PySem.W.Frag} {ex : List Addr} {H : Hp} {E : Env} {σ : St} {i : Nat} {x : D} (r : RelX K G ex H E σ) (e : E[i]? = some (.d x)) : ∃ v, σ[i]? = some (some v) ∧ Rp K H x v := by
  obtain ⟨l, k, pn, dm, x0, A, h1, h2, h3⟩ := r
  exact (h3 i _ e).2
theorem RelX.ol {K : PySem.W.Frag} {ex : List Addr} {H : Hp} {E : Env} {σ : St} {i : Nat} {xs : List D} (r : RelX K G ex H E σ) (e : E[i]? = some (.ol xs)) : ∃ a vs, σ[i]? = some (some (.ref a)) ∧ H a = some (.lst vs) ∧ RpL K H xs vs := by
  obtain ⟨l, k, pn, dm, x0, A, h1, h2, h3⟩ := r
  obtain ⟨a, e1, e2, vs, e3, e4⟩ := h3 i _ e
  exact ⟨a, vs, e2, e3, e4⟩
theorem RelX.mutAt {K : PySem.W.Frag} {ex : List Addr} {H : Hp} {E : Env} {σ : St} {i : Nat} {s : S} (r : RelX K G ex H E σ) (e : E[i]? = some s) (m : s.isMut = true) : ∃ a, σ[i]? = some (some (.ref a)) ∧ RelM K H s a := by
  obtain ⟨l, k, pn, dm, x0, A, h1, h2, h3⟩ := r
  obtain ⟨a, e1, e2, e3⟩ := (h3 i _ e).mut m
  exact ⟨a, e2, e3⟩
theorem ed_var (i : Nat) {x : Str} (hN : X.N[i]? = some x := by rfl) (hv : Vis X.env.scope x := by first | exact Or.inl rfl | exact Or.inr (Or.inl rfl) | exact Or.inr (Or.inr rfl)) (hd : (x == ("__debug__" : Str)) = false := by decide)
    (hcd : (x == ("__classdict__" : Str)) = false := by decide) : ED X G (.Name x pos) (tV i) := ⟨PE.weak (pe_var hN hv hd hcd) fun σ H Q ⟨E, QE, r, q, k⟩ => by
  unfold tV at q
  split at q
  · rename_i x he
    obtain ⟨v, e, p⟩ := r.data he
    exact ⟨v, e, k _ _ _ _ q (Ext.refl _) r p⟩
  · exact q.elim⟩
theorem er_var (i : Nat) {x : Str} (hN : X.N[i]? = some x := by rfl) (hv : Vis X.env.scope x := by first | exact Or.inl rfl | exact Or.inr (Or.inl rfl) | exact Or.inr (Or.inr rfl)) (hd : (x == ("__debug__" : Str)) = false := by decide)
    (hcd : (x == ("__classdict__" : Str)) = false := by decide) : ER X G (.Name x pos) (tVr i) := ⟨PE.weak (pe_var hN hv hd hcd) fun σ H Q ⟨E, QE, r, q, k⟩ => by
  unfold tVr at q
  split at q
  · rename_i x he
    obtain ⟨v, e, p⟩ := r.data he
    exact ⟨v, e, k _ _ _ _ q (Ext.refl _) r (.inl p)⟩
  · rename_i xs he
    obtain ⟨a, vs, e, h, p⟩ := r.ol he
    exact ⟨_, e, k _ _ _ _ q (Ext.refl _) r (.inr ⟨_, _, _, rfl, rfl, h, p⟩)⟩
  · exact q.elim⟩
theorem ed_int {i j} : ED X G (.Constant (.int i) j pos) (tK (.int i)) := ⟨PE.weak pe_int fun σ H Q ⟨E, QE, r, q, k⟩ => k _ _ _ _ q (Ext.refl _) r (.int i)⟩
theorem ed_bl {i j} : ED X G (.Constant (.bool i) j pos) (tK (.bool i)) := ⟨PE.weak pe_bl fun σ H Q ⟨E, QE, r, q, k⟩ => k _ _ _ _ q (Ext.refl _) r (.bl i)⟩
theorem ed_non {j} : ED X G (.Constant .none j pos) (tK .none) := ⟨PE.weak pe_non fun σ H Q ⟨E, QE, r, q, k⟩ => k _ _ _ _ q (Ext.refl _) r .non⟩
theorem ed_str {i j} : ED X G (.Constant (.str i) j pos) (tK (.str i)) := ⟨PE.weak pe_str fun σ H Q ⟨E, QE, r, q, k⟩ => k _ _ _ _ q (Ext.refl _) r (.str i)⟩
/-! ### operators -/
/-- what an operator gives of data -/
abbrev OpT := D → D → (D → Prop) → Prop
/-- by values: the heap only grows -/
def OpD (X : Cx) (f : Value → Value → Sem Value) (op : OpT) : Prop := ∃ r : R2, OpR X f r ∧
  ∀ x y v u H (QD : D → Prop) (Q : VK), RpR X.K H x v → RpR X.K H y u → op x y QD → (∀ z w H', QD z → PExt H H' → Rp X.K H' z w → Q w H') → r v u H Q
theorem OpD.or {f : Value → Value → Sem Value} {op op' : OpT} (h : OpD X f op) (h' : OpD X f op') : OpD X f (fun x y Q => op x y Q ∨ op' x y Q) := by
  obtain ⟨r, hr, hq⟩ := h
  obtain ⟨r', hr', hq'⟩ := h'
  refine ⟨_, hr.or hr', fun x y v u H QD Q hx hy q k => ?_⟩
  rcases q with q | q
  · exact .inl (hq x y v u H QD Q hx hy q k)
  · exact .inr (hq' x y v u H QD Q hx hy q k)
theorem OpD.weak {f : Value → Value → Sem Value} {op op' : OpT} (h : OpD X f op) (w : ∀ x y Q, op' x y Q → op x y Q) : OpD X f op' := by
  obtain ⟨r, hr, hq⟩ := h
  exact ⟨r, hr, fun x y v u H QD Q hx hy q k => hq x y v u H QD Q hx hy (w _ _ _ q) k⟩
def tOpD (op : OpT) (ta tb : TD) : TD := fun E Q => ta E fun x E1 => tb E1 fun y E2 => op x y fun z => Q z E2
/-- two parts: the left is data -/
theorem lift_bin {K : PySem.W.Frag} {op : OpT} {ta tb : TD} {r : R2} (hr : ∀ x y v u H (QD : D → Prop) (Q : VK), RpR K H x v → RpR K H y u → op x y QD → (∀ z w H', QD z → PExt H H' → Rp K H' z w → Q w H') → r v u H Q)
    (σ : St) (H : Hp) (Q : VK) (h : liftE K G (tOpD op ta tb) σ H Q) : tOp r (liftE K G ta) (liftR K G tb) σ H Q := by
  obtain ⟨E, QE, rel, q, k⟩ := h
  refine ⟨E, _, rel, q, fun x E1 v H1 q1 x1 rel1 p1 => ⟨E1, _, rel1, q1, fun y E2 u H2 q2 x2 rel2 p2 => ?_⟩⟩
  exact hr x y v u H2 _ Q (.inl (p1.ext x2)) p2 q2 fun z w H3 q3 p3 rz => k z E2 w H3 q3 ((x1.trans x2).trans p3.ext) (rel2.pext p3) rz
theorem ed_op {op : Operator} {o : OpT} {ta tb : TD} (ho : OpD X (binaryOp op) o) (ha : ED X G a ta) (hb : ER X G b tb) : ED X G (.BinOp a op b pos) (tOpD o ta tb) := by
  obtain ⟨r, hr, hq⟩ := ho
  exact ⟨PE.weak (pe_op hr ha.pe hb.pe) fun σ H Q h => lift_bin hq σ H Q h⟩
theorem ed_cmp {op : CmpOp} {o : OpT} {ta tb : TD} (ho : OpD X (compareOp op) o) (ha : ED X G a ta) (hb : ER X G b tb) (hm : behindInMarks op b = false) : ED X G (.Compare a [op] [b] pos) (tOpD o ta tb) := by
  obtain ⟨r, hr, hq⟩ := ho
  exact ⟨PE.weak (pe_cmpR hr ha.pe hb.pe hm) fun σ H Q h => lift_bin hq σ H Q h⟩
def UnT := D → (D → Prop) → Prop
def tUnD (op : UnT) (ta : TD) : TD := fun E Q => ta E fun x E1 => op x fun z => Q z E1
/-! ### tests -/
/-- an expression that gives a truth -/
def tBo (t : TD) : TTd := fun E Q => t E fun x E1 => match x with
  | .bool b => Q b E1
  | _ => False
theorem eb_cmp {op : CmpOp} {o : OpT} {ta tb : TD} (ho : OpD X (compareOp op) o) (ha : ED X G a ta) (hb : ER X G b tb) (hm : behindInMarks op b = false) : EB X G (.Compare a [op] [b] pos) (tBo (tOpD o ta tb)) := by
  obtain ⟨r, hr, hq⟩ := ho
  refine ⟨PT.weak (pt_cmpR hr ha.pe hb.pe hm) fun σ H Q ⟨E, QE, rel, q, k⟩ => ?_⟩
  have h : liftE X.K G (tOpD o ta tb) σ H fun x H' => ∃ k, x = .bl k ∧ Q k H' := ⟨E, _, rel, q, fun d E' v H' q1 x1 r1 p1 => by
    cases p1 with
    | bl b => exact ⟨b, rfl, k b E' H' q1 x1 r1⟩
    | _ => exact q1.elim⟩
  exact lift_bin hq σ H _ h
def tAndD (t u : TTd) : TTd := fun E Q => t E fun c E1 => if c = true then u E1 Q else Q false E1
def tOrD (t u : TTd) : TTd := fun E Q => t E fun c E1 => if c = true then Q true E1 else u E1 Q
def tNotD (t : TTd) : TTd := fun E Q => t E fun c E1 => Q (!c) E1
theorem ew_and1 {t : TTd} (h : EB X G a t) : EW X G (.BoolOp .And [a] pos) t := ⟨pw_and1 h.pt⟩
theorem ew_or1 {t : TTd} (h : EB X G a t) : EW X G (.BoolOp .Or [a] pos) t := ⟨pw_or1 h.pt⟩
theorem ew_and {t u : TTd} (h : EB X G a t) (hb : EW X G (.BoolOp .And (b :: es) pos) u) : EW X G (.BoolOp .And (a :: b :: es) pos) (tAndD t u) :=
  ⟨PW.weak (pw_and h.pt hb.pw) fun σ H Q ⟨E, QE, r, q, k⟩ => ⟨E, _, r, q, fun c E1 H1 q1 x1 r1 => by
    cases c with
    | true => exact ⟨E1, QE, r1, q1, fun b E2 H2 q2 x2 r2 => k b E2 H2 q2 (x1.trans x2) r2⟩
    | false => exact k false E1 H1 q1 x1 r1⟩⟩
theorem ew_or {t u : TTd} (h : EB X G a t) (hb : EW X G (.BoolOp .Or (b :: es) pos) u) : EW X G (.BoolOp .Or (a :: b :: es) pos) (tOrD t u) :=
  ⟨PW.weak (pw_or h.pt hb.pw) fun σ H Q ⟨E, QE, r, q, k⟩ => ⟨E, _, r, q, fun c E1 H1 q1 x1 r1 => by
    cases c with
    | false => exact ⟨E1, QE, r1, q1, fun b E2 H2 q2 x2 r2 => k b E2 H2 q2 (x1.trans x2) r2⟩
    | true => exact k true E1 H1 q1 x1 r1⟩⟩
theorem EW.eb {t : TTd} (h : EW X G e t) : EB X G e t := ⟨h.pw.pt⟩
theorem eb_not {t : TTd} (h : EB X G a t) : EB X G (.UnaryOp .Not a pos) (tNotD t) :=
  ⟨PT.weak (pt_not h.pt) fun σ H Q ⟨E, QE, r, q, k⟩ => ⟨E, _, r, q, fun c E1 H1 q1 x1 r1 => k _ E1 H1 q1 x1 r1⟩⟩
/-- a if c else b -/
def tIfE (c : TTd) (t u : TD) : TD := fun E Q => c E fun k E1 => if k = true then t E1 Q else u E1 Q
theorem ed_if {tc : TTd} {t u : TD} (hc : EB X G c tc) (ha : ED X G a t) (hb : ED X G b u) : ED X G (.IfExp c a b pos) (tIfE tc t u) :=
  ⟨PE.weak (pe_ifExp hc.pt ha.pe hb.pe) fun σ H Q ⟨E, QE, r, q, k⟩ => ⟨E, _, r, q, fun c E1 H1 q1 x1 r1 => by
    cases c with
    | true => exact ⟨E1, QE, r1, q1, fun d E2 v H2 q2 x2 r2 => k d E2 v H2 q2 (x1.trans x2) r2⟩
    | false => exact ⟨E1, QE, r1, q1, fun d E2 v H2 q2 x2 r2 => k d E2 v H2 q2 (x1.trans x2) r2⟩⟩⟩
/-! as values -/
def tAndV (t u : TD) : TD := fun E Q => t E fun x E1 => match x with
  | .bool true => u E1 Q
  | .bool false => Q (.bool false) E1
  | _ => False
def tOrV (t u : TD) : TD := fun E Q => t E fun x E1 => match x with
  | .bool true => Q (.bool true) E1
  | .bool false => u E1 Q
  | _ => False
def tNotV (t : TD) : TD := fun E Q => t E fun x E1 => match x with
  | .bool b => Q (.bool (!b)) E1
  | _ => False
theorem ed_one {op} {t : TD} (h : ED X G a t) : ED X G (.BoolOp op [a] pos) t := ⟨pe_one h.pe⟩
theorem ed_and {t u : TD} (h : ED X G a t) (hb : ED X G (.BoolOp .And (b :: es) pos) u) : ED X G (.BoolOp .And (a :: b :: es) pos) (tAndV t u) :=
  ⟨PE.weak (pe_and h.pe hb.pe) fun σ H Q ⟨E, QE, r, q, k⟩ => ⟨E, _, r, q, fun d E1 v H1 q1 x1 r1 p1 => by
    cases p1 with
    | bl c =>
      refine ⟨c, rfl, ?_⟩
      cases c with
      | true => exact ⟨E1, QE, r1, q1, fun d E2 v H2 q2 x2 r2 => k d E2 v H2 q2 (x1.trans x2) r2⟩
      | false => exact k _ E1 _ H1 q1 x1 r1 (.bl false)
    | _ => exact q1.elim⟩⟩
theorem ed_not {t : TD} (h : ED X G a t) : ED X G (.UnaryOp .Not a pos) (tNotV t) :=
  ⟨PE.weak (pe_not h.pe) fun σ H Q ⟨E, QE, r, q, k⟩ => ⟨E, _, r, q, fun d E1 v H1 q1 x1 r1 p1 => by
    cases p1 with
    | bl c => exact ⟨c, rfl, k _ E1 _ H1 q1 x1 r1 (.bl _)⟩
    | _ => exact q1.elim⟩⟩
/-! ### truth of any data -/
def truD : D → Option Bool
  | .none => some false
  | .bool b => some b
  | .int i => some (i != 0)
  | .str x => some ((x.length : Int) != 0)
  | .list xs => some (!xs.isEmpty)
  | .tuple xs => some (!xs.isEmpty)
  | .dict _ => none
def okLen : D → Prop
  | .str x => x.length ≤ sizeLine
  | _ => True
def tTru (t : TD) : TTd := fun E Q => t E fun x E1 => match truD x with
  | some b => okLen x ∧ Q b E1
  | none => False
theorem isEmpty_RpL {K : PySem.W.Frag} {H : Hp} {ds : List D} {vs : List V} (l : RpL K H ds vs) : ds.isEmpty = vs.isEmpty := by cases l <;> rfl
theorem eb_tru {t : TD} (h : ER X G e t) (he : ∀ whole, isTrue e X.env whole = (do let v ← whole; standAt e.pos; holding [v] (truthy v)) := by intro _; rfl) : EB X G e (tTru t) :=
  ⟨PT.weak (pt_truth h.pe he) fun σ H Q ⟨E, QE, r, q, k⟩ => ⟨E, _, r, q, fun d E' v H' q1 x1 r1 p1 => by
    cases d with
    | none => rw [p1.none]; exact ⟨false, rfl, k _ _ _ q1.2 x1 r1⟩
    | bool b => rw [p1.bool]; exact ⟨b, rfl, k _ _ _ q1.2 x1 r1⟩
    | int b => rw [p1.int]; exact ⟨_, rfl, k _ _ _ q1.2 x1 r1⟩
    | str b => rw [p1.str]; exact ⟨_, ⟨q1.1, rfl⟩, k _ _ _ q1.2 x1 r1⟩
    | list b =>
      obtain ⟨a, vs, rfl, hs, l⟩ := p1.list
      exact ⟨!vs.isEmpty, .inl ⟨vs, hs, rfl⟩, by have := k _ _ _ q1.2 x1 r1; rw [isEmpty_RpL l] at this; exact this⟩
    | tuple b =>
      obtain ⟨a, vs, rfl, hs, l⟩ := p1.tuple
      exact ⟨!vs.isEmpty, .inr (.inl ⟨vs, hs, rfl⟩), by have := k _ _ _ q1.2 x1 r1; rw [isEmpty_RpL l] at this; exact this⟩
    | dict b => exact q1.elim⟩⟩
/-! ### arguments -/
def aNil : TAd := fun E Q => Q [] E
def aV (t : TD) (u : TAd) : TAd := fun E Q => t E fun x E1 => u E1 fun as E2 => Q (.v x :: as) E2
def aO (i : Nat) (u : TAd) : TAd := fun E Q => match E[i]? with
  | some (.ol _) => u E fun as E2 => Q (.o i :: as) E2
  | some (.dt _) => u E fun as E2 => Q (.o i :: as) E2
  | some (.dk _) => u E fun as E2 => Q (.o i :: as) E2
  | _ => False
theorem ea_nil : EA X G [] aNil := ⟨PA.weak pa_nil fun σ H Q ⟨E, QE, r, q, k⟩ => k _ _ _ _ q (Ext.refl _) r .nil⟩
theorem ea_v {t : TD} {u : TAd} (h : ED X G e t) (hr : EA X G es u) (hs : starEach (e :: es) X.env = (false, eval e X.env) :: starEach es X.env := by rfl) : EA X G (e :: es) (aV t u) :=
  ⟨PA.weak (pa_cons h.pe hr.pa hs) fun σ H Q ⟨E, QE, r, q, k⟩ => ⟨E, _, r, q, fun x E1 v H1 q1 x1 r1 p1 => ⟨E1, _, r1, q1, fun as E2 vs H2 q2 x2 r2 p2 => k _ _ _ _ q2 (x1.trans x2) r2 (.v (p1.ext x2) p2)⟩⟩⟩
theorem ea_o (i : Nat) {x : Str} {u : TAd} {p : Pos} (hr : EA X G es u) (hN : X.N[i]? = some x := by rfl) (hv : Vis X.env.scope x := by first | exact Or.inl rfl | exact Or.inr (Or.inl rfl) | exact Or.inr (Or.inr rfl)) (hd : (x == ("__debug__" : Str)) = false := by decide)
    (hcd : (x == ("__classdict__" : Str)) = false := by decide) (hs : starEach (Expr.Name x p :: es) X.env = (false, eval (Expr.Name x p) X.env) :: starEach es X.env := by rfl) : EA X G (Expr.Name x p :: es) (aO i u) :=
  ⟨PA.weak (pa_cons (pe_var hN hv hd hcd) hr.pa hs) fun σ H Q ⟨E, QE, r, q, k⟩ => by
    unfold aO at q
    split at q
    · rename_i xs he
      obtain ⟨a, e, _⟩ := r.mutAt he rfl
      exact ⟨_, e, E, _, r, q, fun as E2 vs H2 q2 x2 r2 p2 => k _ _ _ _ q2 x2 r2 (.o e p2)⟩
    · rename_i xs he
      obtain ⟨a, e, _⟩ := r.mutAt he rfl
      exact ⟨_, e, E, _, r, q, fun as E2 vs H2 q2 x2 r2 p2 => k _ _ _ _ q2 x2 r2 (.o e p2)⟩
    · rename_i xs he
      obtain ⟨a, e, _⟩ := r.mutAt he rfl
      exact ⟨_, e, E, _, r, q, fun as E2 vs H2 q2 x2 r2 p2 => k _ _ _ _ q2 x2 r2 (.o e p2)⟩
    · exact q.elim⟩
/-! ### statements -/
section
variable {st : Stmt} {rest : List Stmt}
def sNx : TSd := fun DE E => DE.nx E
def sSeq (t u : TSd) : TSd := fun DE E => t { DE with nx := u DE } E
theorem sds_nil : SDs X G [] sNx := ⟨PSs.weak pss_nil fun F σ H ⟨E, DE, r, q, k1, _⟩ => k1 _ _ _ q (Ext.refl _) r⟩
theorem lift_more {K : PySem.W.Frag} {F : Ends} {σ : St} {H H1 : Hp} {E E1 : Env} {DE : EndsD} {u : TSd} {σ1 : St} (x1 : Ext H H1) (r1 : RelE K G H1 E1 σ1) (q : u DE E1)
    (k1 : ∀ E' σ' H', DE.nx E' → Ext H H' → RelE K G H' E' σ' → F.nx σ' H') (k2 : ∀ d E' v σ' H', DE.rt d E' → Ext H H' → RelE K G H' E' σ' → Rp K H' d v → F.rt v H')
    (k3 : ∀ E' σ' H', DE.bk E' → Ext H H' → RelE K G H' E' σ' → F.bk σ' H') (k4 : ∀ E' σ' H', DE.ct E' → Ext H H' → RelE K G H' E' σ' → F.ct σ' H') : liftS K G u F σ1 H1 :=
  ⟨E1, DE, r1, q, fun E' σ' H' z x r => k1 E' σ' H' z (x1.trans x) r, fun d E' v σ' H' z x r => k2 d E' v σ' H' z (x1.trans x) r, fun E' σ' H' z x r => k3 E' σ' H' z (x1.trans x) r, fun E' σ' H' z x r => k4 E' σ' H' z (x1.trans x) r⟩
theorem sds_cons {t u : TSd} (h : SD X G st t) (hr : SDs X G rest u) : SDs X G (st :: rest) (sSeq t u) :=
  ⟨PSs.weak (pss_cons h.ps hr.pss) fun F σ H ⟨E, DE, r, q, k1, k2, k3, k4⟩ => ⟨E, { DE with nx := u DE }, r, q, fun E' σ' H' z x r => lift_more (σ := σ) (E := E) x r z k1 k2 k3 k4, k2, k3, k4⟩⟩
theorem sds_one {t : TSd} (h : SD X G st t) : SDs X G [st] t := ⟨pss_one h.ps⟩
def sRet (t : TD) : TSd := fun DE E => t E DE.rt
theorem sd_ret {t : TD} (h : ED X G e t) : SD X G (.Return (some e) pos) (sRet t) :=
  ⟨PS.weak (ps_ret h.pe) fun F σ H ⟨E, DE, r, q, k1, k2, k3, k4⟩ => ⟨E, _, r, q, fun d E' v H' z x r p => k2 d E' v σ H' z x r p⟩⟩
def sIf (c : TTd) (t u : TSd) : TSd := fun DE E => c E fun b E1 => if b = true then t DE E1 else u DE E1
theorem sd_if {sa sb : List Stmt} {tc : TTd} {t u : TSd} (hc : EB X G c tc) (ha : SDs X G sa t) (hb : SDs X G sb u) : SD X G (.If c sa sb pos) (sIf tc t u) :=
  ⟨PS.weak (ps_if hc.pt ha.pss hb.pss) fun F σ H ⟨E, DE, r, q, k1, k2, k3, k4⟩ => ⟨E, _, r, q, fun c E1 H1 q1 x1 r1 => by
    cases c with
    | true => exact lift_more (σ := σ) (E := E) x1 r1 q1 k1 k2 k3 k4
    | false => exact lift_more (σ := σ) (E := E) x1 r1 q1 k1 k2 k3 k4⟩⟩
def sExpr (t : TD) : TSd := fun DE E => t E fun _ E1 => DE.nx E1
theorem sd_expr {t : TD} (h : ED X G e t) (hs : swapsWith e none pos.line X.env = pure false := by rfl) : SD X G (.Expr e pos) (sExpr t) :=
  ⟨PS.weak (ps_expr h.pe hs) fun F σ H ⟨E, DE, r, q, k1, k2, k3, k4⟩ => ⟨E, _, r, q, fun d E1 v H1 q1 x1 r1 p1 => k1 _ _ _ q1 x1 r1⟩⟩
end
end
end DL
set_option Elab.async false
set_option linter.all false
set_option maxRecDepth 100000
namespace DL
open PySem PySem.Spec PyProof.Rows L2
section
variable {K : PySem.W.Frag} {G : Gh} {H H' : Hp} {E : Env} {σ : St} {ex : List Addr}
theorem notin_slots {i : Nat} (hi : i ∉ G.slots) (a : Addr) : (i, a) ∉ G.own := fun h => hi (List.mem_map.mpr ⟨(i, a), h, rfl⟩)
/-- a slot gets data -/
theorem RelX.setD {i : Nat} {x : D} {v : V} (r : RelX K G ex H E σ) (hi : i ∉ G.slots) (p : Rp K H x v) : RelX K G ex H (E.set i (.d x)) (σ.set i (some v)) := by
  obtain ⟨l, k, pn, dm, x0, A, h1, h2, h3⟩ := r
  refine ⟨by simp [l], k, fun j a hj => ?_, dm, x0, fun j => if j = i then [] else A j, fun j m a e1 e2 => ?_, fun j a e1 => ?_, fun j s e => ?_⟩
  · have : i ≠ j := fun z => notin_slots hi a (z ▸ hj)
    rw [List.getElem?_set_ne this]; exact pn j a hj
  · by_cases z : j = i
    · simp [z] at e1
    · by_cases z2 : m = i
      · simp [z2] at e2
      · simp only [z, z2, if_false] at e1 e2; exact h1 j m a e1 e2
  · by_cases z : j = i
    · simp [z] at e1
    · simp only [z, if_false] at e1; exact h2 j a e1
  · by_cases z : j = i
    · subst z
      by_cases hl : j < E.length
      · rw [List.getElem?_set_self hl] at e
        cases e
        exact ⟨by simp, v, by rw [List.getElem?_set_self (l ▸ hl)], p⟩
      · rw [List.getElem?_eq_none (by simpa using hl)] at e; cases e
    · rw [List.getElem?_set_ne (Ne.symm z)] at e
      rw [List.getElem?_set_ne (Ne.symm z)]
      simp only [z, if_false]; exact h3 j s e
/-- a slot gets a new mutable thing of one's own -/
theorem RelX.setM {i : Nat} {s0 : S} {a : Addr} (r : RelX K G (a :: ex) H E σ) (hx : a ∉ ex) (hi : i ∉ G.slots) (h0 : G.H0 a = none) (p : RelM K H s0 a) : RelX K G ex H (E.set i s0) (σ.set i (some (.ref a))) := by
  obtain ⟨l, k, pn, dm, x0, A, h1, h2, h3⟩ := r
  refine ⟨by simp [l], k, fun j a hj => ?_, dm, x0, fun j => if j = i then [a] else A j, fun j m b e1 e2 => ?_, fun j b e1 => ?_, fun j s e => ?_⟩
  · have : i ≠ j := fun z => notin_slots hi a (z ▸ hj)
    rw [List.getElem?_set_ne this]; exact pn j a hj
  · by_cases z : j = i
    · by_cases z2 : m = i
      · rw [z, z2]
      · simp only [z, if_true, z2, if_false, List.mem_cons, List.not_mem_nil, or_false] at e1 e2
        exact absurd e1 fun z => (h2 m b e2).2 (by simp [z])
    · by_cases z2 : m = i
      · simp only [z, if_false, z2, if_true, List.mem_cons, List.not_mem_nil, or_false] at e1 e2
        exact absurd e2 fun z => (h2 j b e1).2 (by simp [z])
      · simp only [z, z2, if_false] at e1 e2; exact h1 j m b e1 e2
  · by_cases z : j = i
    · simp only [z, if_true, List.mem_cons, List.not_mem_nil, or_false] at e1
      subst e1; exact ⟨.inr h0, hx⟩
    · simp only [z, if_false] at e1; exact ⟨(h2 j b e1).1, fun q => (h2 j b e1).2 (List.mem_cons_of_mem _ q)⟩
  · by_cases z : j = i
    · subst z
      by_cases hl : j < E.length
      · rw [List.getElem?_set_self hl] at e
        cases e
        simp only [if_true]
        exact RelS.ofMut p.isMut (by rw [List.getElem?_set_self (l ▸ hl)]) p
      · rw [List.getElem?_eq_none (by simpa using hl)] at e; cases e
    · rw [List.getElem?_set_ne (Ne.symm z)] at e
      rw [List.getElem?_set_ne (Ne.symm z)]
      simp only [z, if_false]; exact h3 j s e
theorem RelX.setL {i : Nat} {xs : List D} {a : Addr} {vs : List V} (r : RelX K G (a :: ex) H E σ) (hx : a ∉ ex) (hi : i ∉ G.slots) (h0 : G.H0 a = none) (ha : H a = some (.lst vs)) (p : RpL K H xs vs) : RelX K G ex H (E.set i (.ol xs)) (σ.set i (some (.ref a))) :=
  r.setM hx hi h0 (s0 := .ol xs) ⟨vs, ha, p⟩
/-- a mutable thing of one's own changes -/
theorem RelX.putM {i : Nat} {s0 s1 : S} {a : Addr} {u : HO} (r : RelX K G ex H E σ) (e : E[i]? = some s0) (m0 : s0.isMut = true) (hs : σ[i]? = some (some (.ref a))) (p : RelM K (upd H a u) s1 a) : RelX K G ex (upd H a u) (E.set i s1) σ := by
  obtain ⟨l, k, pn, dm, x0, A, h1, h2, h3⟩ := r
  obtain ⟨b, e1, e2, e3⟩ := (h3 i _ e).mut m0
  rw [hs] at e2
  have e2' : a = b := by injection e2 with z; injection z with z; injection z
  subst e2'
  obtain ⟨u0, g1, g2, g3⟩ := e3.soft
  have x : Ext H (upd H a u) := Ext.putS g1 g2 g3
  have own := h2 i a (by rw [e1]; simp)
  have hl : i < E.length := by
    rcases Nat.lt_or_ge i E.length with z | z
    · exact z
    · rw [List.getElem?_eq_none z] at e; cases e
  refine ⟨by simpa using l, fun q o he ne => ?_, pn, fun q hq => ?_, x0.trans x, A, h1, h2, fun j s he => ?_⟩
  · have : q ≠ a := by
      rintro rfl
      rcases own.1 with z | z
      · exact ne z
      · rw [z] at he; cases he
    rw [upd_ne this]; exact k q o he ne
  · by_cases z : q = a
    · subst z; rw [upd_same]; simp
    · rw [upd_ne z]; exact dm q hq
  · by_cases z : j = i
    · subst z
      rw [List.getElem?_set_self hl] at he
      cases he
      rw [e1]
      exact RelS.ofMut p.isMut hs p
    · rw [List.getElem?_set_ne (Ne.symm z)] at he
      exact (h3 j s he).move x fun c hc => upd_ne fun zz => z (h1 j i c hc (by rw [e1, zz]; simp))
/-- a list of one's own changes -/
theorem RelX.putL {i : Nat} {xs ys : List D} {a : Addr} {us : List V} (r : RelX K G ex H E σ) (e : E[i]? = some (.ol xs)) (hs : σ[i]? = some (some (.ref a))) (p : RpL K H ys us) : RelX K G ex (upd H a (.lst us)) (E.set i (.ol ys)) σ := by
  have x : Ext H (upd H a (.lst us)) := by
    obtain ⟨l, k, pn, dm, x0, A, h1, h2, h3⟩ := r
    obtain ⟨b, e1, e2, vs, e3, e4⟩ := h3 i _ e
    rw [hs] at e2
    have e2' : a = b := by injection e2 with z; injection z with z; injection z
    subst e2'; exact Ext.put e3
  exact r.putM e rfl hs (s1 := .ol ys) ⟨us, upd_same, p.ext x⟩
/-- a new object is apart from all -/
theorem RelX.fresh {p : Addr} {o : HO} (r : RelE K G H E σ) (hp : H p = none) : RelX K G [p] (upd H p o) E σ ∧ G.H0 p = none ∧ p ∉ G.addrs := by
  have px : PExt H (upd H p o) := PExt.new hp
  have r' := r.pext px
  obtain ⟨l, k, pn, dm, x0, A, h1, h2, h3⟩ := r'
  obtain ⟨_, k0, _, dm0, _, A0, g1, g2, g3⟩ := r
  have na : p ∉ G.addrs := fun z => dm0 p z hp
  refine ⟨⟨l, k, pn, dm, x0, fun i => if E[i]? = none then [] else A0 i, fun i j a e1 e2 => ?_, fun i a e => ?_, fun i s e => ?_⟩, ?_, na⟩
  · dsimp only at e1 e2
    split at e1
    · cases e1
    · split at e2
      · cases e2
      · exact g1 i j a e1 e2
  · dsimp only at e
    split at e
    · cases e
    · rename_i hE
      refine ⟨(g2 i a e).1, ?_⟩
      cases q : E[i]? with
      | none => exact absurd q hE
      | some s =>
        obtain ⟨u, hvs, _⟩ := (g3 i s q).indom a e
        simp only [List.mem_cons, List.not_mem_nil, or_false]
        rintro rfl
        rw [hp] at hvs; cases hvs
  · have : E[i]? ≠ none := by rw [e]; simp
    simp only [this, if_false]
    exact (g3 i s e).pext px
  · cases q : G.H0 p with
    | none => rfl
    | some o' => have := k0 p o' q na; rw [hp] at this; cases this
/-- a thing that nobody else has is frozen -/
theorem RelX.freezeS {a : Addr} {u u' : HO} (r : RelX K G [a] H E σ) (h0 : G.H0 a = none) (na : a ∉ G.addrs) (ha : H a = some u) (s1 : ∀ xs, u ≠ .tup xs) (s2 : ∀ o v, u ≠ .frz o v) : RelE K G (upd H a u') E σ := by
  have x : Ext H (upd H a u') := Ext.putS ha s1 s2
  obtain ⟨l, k, pn, dm, x0, A, h1, h2, h3⟩ := r
  refine ⟨l, fun q u he ne => ?_, pn, fun q hq => ?_, x0.trans x, fun i => if E[i]? = none then [] else A i, fun i j b e1 e2 => ?_, fun i b e => ?_, fun i s e => ?_⟩
  · have : q ≠ a := by rintro rfl; rw [h0] at he; cases he
    rw [upd_ne this]; exact k q u he ne
  · have : q ≠ a := by rintro rfl; exact na hq
    rw [upd_ne this]; exact dm q hq
  · dsimp only at e1 e2
    split at e1
    · cases e1
    · split at e2
      · cases e2
      · exact h1 i j b e1 e2
  · dsimp only at e
    split at e
    · cases e
    · exact ⟨(h2 i b e).1, by simp⟩
  · have : E[i]? ≠ none := by rw [e]; simp
    simp only [this, if_false]
    exact (h3 i s e).move x fun p hp => upd_ne (by rintro rfl; exact (h2 i p hp).2 (by simp))
/-- a list that nobody else has is frozen -/
theorem RelX.freeze {a : Addr} {vs : List V} {o : Obj} (r : RelX K G [a] H E σ) (h0 : G.H0 a = none) (na : a ∉ G.addrs) (ha : H a = some (.lst vs)) : RelE K G (upd H a (.frz o (.lst vs))) E σ :=
  r.freezeS h0 na ha (fun _ z => by cases z) (fun _ _ z => by cases z)
end
section
variable {X : Cx} {G : Gh} {a b c e : Expr} {es : List Expr} {pos : Pos}
/-! ### a new list is frozen: data -/
def tFz (t : TE) : TE := fun σ H Q => t σ H fun v H1 => ∃ a xs, v = .ref a ∧ H1 a = some (.lst xs) ∧ ∀ o, Q v (upd H1 a (.frz o (.lst xs)))
theorem PE.fz {t : TE} (h : PE X e t) : PE X e (tFz t) := ⟨fun pins s σ H Q I q => thn (h.run pins s σ H _ I q) fun u s1 ⟨v, H1, I1, r1, a, xs, e1, e2, q1⟩ => by
  obtain ⟨o, I2⟩ := I1.lock e2 trivial
  exact ⟨v, _, I2, r1, q1 o⟩⟩
def tFzD (t : TLd) : TD := fun E Q => t E fun xs E1 => Q (.list xs) E1
theorem EL.ed {t : TLd} (h : EL X G e t) : ED X G e (tFzD t) :=
  ⟨PE.weak (PE.fz h.pe) fun σ H Q ⟨E, QE, r, q, k⟩ => ⟨E, _, r, q, fun xs E1 a vs H1 q1 x1 r1 h0 na ha p1 => ⟨a, vs, rfl, ha, fun o =>
    k _ _ _ _ q1 (x1.trans (Ext.put ha)) (r1.freeze h0 na ha) (.lst (.of upd_same) (p1.ext (Ext.put ha)))⟩⟩⟩
/-- a list that is read now -/
theorem EL.er {t : TLd} (h : EL X G e t) : ER X G e (tFzD t) := h.ed.er
/-! ### displays -/
abbrev TDs := Env → (List D → Env → Prop) → Prop
def liftDs (K : PySem.W.Frag) (G : Gh) (t : TDs) : TA := fun σ H Q => ∃ (E : Env) (QE : List D → Env → Prop), RelE K G H E σ ∧ t E QE ∧ ∀ ds E' vs H', QE ds E' → Ext H H' → RelE K G H' E' σ → RpL K H' ds vs → Q vs H'
structure EDs (X : Cx) (G : Gh) (es : List Expr) (t : TDs) : Prop where
  pa : PA X es (liftDs X.K G t)
def dNil : TDs := fun E Q => Q [] E
def dCons (t : TD) (u : TDs) : TDs := fun E Q => t E fun x E1 => u E1 fun ds E2 => Q (x :: ds) E2
theorem eds_nil : EDs X G [] dNil := ⟨PA.weak pa_nil fun σ H Q ⟨E, QE, r, q, k⟩ => k _ _ _ _ q (Ext.refl _) r .nil⟩
theorem eds_cons {t : TD} {u : TDs} (h : ED X G e t) (hr : EDs X G es u) (hs : starEach (e :: es) X.env = (false, eval e X.env) :: starEach es X.env := by rfl) : EDs X G (e :: es) (dCons t u) :=
  ⟨PA.weak (pa_cons h.pe hr.pa hs) fun σ H Q ⟨E, QE, r, q, k⟩ => ⟨E, _, r, q, fun x E1 v H1 q1 x1 r1 p1 => ⟨E1, _, r1, q1, fun as E2 vs H2 q2 x2 r2 p2 => k _ _ _ _ q2 (x1.trans x2) r2 (.cons (p1.ext x2) p2)⟩⟩⟩
/-- a tuple of written items: the new object is plain -/
theorem pe_tupF {x1 : Nat} {t : TA} (h : PA X es t) : PE X (.Tuple es x1 pos) (fun σ H Q => t σ H fun xs H1 => xs.length ≤ sizeLine ∧ ∀ p o, H1 p = none → o.dict = none → Q (.ref p) (upd H1 p (.frz o (.tup xs)))) :=
  ⟨fun pins s σ H Q I hq => wpAny_Tuple_spliced (thn (h.run pos pins s σ H _ I hq) fun us s1 ⟨xs, H1, I1, r, z, q⟩ => ⟨by rw [← r.length]; exact z,
    ⟨.ref s1.heap.objs.size, upd H1 s1.heap.objs.size (.frz { cls := .type "tuple", data := .seq us.toArray } (.tup xs)), I1.laid (t' := s1.toks) (fun b u e => Heap.get?_push_of_some _ e) (Nat.le_refl _) ⟨Heap.get?_push_size _ rfl, z, us, r, ⟨_, Heap.get?_push_size _ rfl, rfl, _, rfl⟩⟩, rfl, q _ _ (I1.hok.fresh (Nat.le_refl _)) rfl⟩⟩)⟩
def tTupD (t : TDs) : TD := fun E Q => t E fun ds E1 => ds.length ≤ sizeLine ∧ Q (.tuple ds) E1
theorem ed_tup {x1} {t : TDs} (h : EDs X G es t) : ED X G (.Tuple es x1 pos) (tTupD t) :=
  ⟨PE.weak (pe_tupF h.pa) fun σ H Q ⟨E, QE, r, q, k⟩ => ⟨E, _, r, q, fun ds E1 vs H1 q1 x1 r1 p1 => ⟨by rw [← p1.length]; exact q1.1, fun p o hp ho =>
    k _ _ _ _ q1.2 (x1.trans (PExt.new hp).ext) (r1.pext (PExt.new hp)) (.tup (.new ho) (p1.ext (PExt.new hp).ext))⟩⟩⟩
def tLstD (t : TDs) : TLd := fun E Q => t E fun ds E1 => ds.length ≤ sizeLine ∧ Q ds E1
theorem el_lst {t : TDs} (h : EDs X G es t) : EL X G (.List es pos) (tLstD t) :=
  ⟨PE.weak (pe_lst h.pa) fun σ H Q ⟨E, QE, r, q, k⟩ => ⟨E, _, r, q, fun ds E1 vs H1 q1 x1 r1 p1 => ⟨by rw [← p1.length]; exact q1.1, fun p hp => by
    obtain ⟨r2, h0, na⟩ := r1.fresh (o := .lst vs) hp
    exact k _ _ _ _ _ q1.2 (x1.trans (PExt.new hp).ext) r2 h0 na upd_same (p1.ext (PExt.new hp).ext)⟩⟩⟩
/-! ### assignments -/
def sSet (i : Nat) (t : TD) : TSd := fun DE E => t E fun d E1 => DE.nx (E1.set i (.d d))
theorem sd_set {i : Nat} {x : Str} {pos' : Pos} {t : TD} (hi : i ∉ G.slots) (hN : X.N.Nodup) (hx : X.N[i]? = some x) (hl : Loc X.env.scope x) (h : ED X G e t) (hs : swapsWith e (some (.Name x pos')) pos.line X.env = pure false := by rfl)
    (hf : X.fn x = true ∨ X.env.scope.names.lookup x = some .local := by first | exact .inl rfl | exact .inr rfl | assumption) : SD X G (.Assign [.Name x pos'] e pos) (sSet i t) :=
  ⟨PS.weak (ps_set hN hx hl h.pe hs hf) fun F σ H ⟨E, DE, r, q, k1, k2, k3, k4⟩ => ⟨E, _, r, q, fun d E1 v H1 q1 x1 r1 p1 => k1 _ _ _ q1 x1 (r1.setD hi p1)⟩⟩
def sSetL (i : Nat) (t : TLd) : TSd := fun DE E => t E fun d E1 => DE.nx (E1.set i (.ol d))
theorem sd_setL {i : Nat} {x : Str} {pos' : Pos} {t : TLd} (hi : i ∉ G.slots) (hN : X.N.Nodup) (hx : X.N[i]? = some x) (hl : Loc X.env.scope x) (h : EL X G e t) (hs : swapsWith e (some (.Name x pos')) pos.line X.env = pure false := by rfl)
    (hf : X.fn x = true ∨ X.env.scope.names.lookup x = some .local := by first | exact .inl rfl | exact .inr rfl | assumption) : SD X G (.Assign [.Name x pos'] e pos) (sSetL i t) :=
  ⟨PS.weak (ps_set hN hx hl h.pe hs hf) fun F σ H ⟨E, DE, r, q, k1, k2, k3, k4⟩ => ⟨E, _, r, q, fun d E1 a vs H1 q1 x1 r1 h0 na ha p1 => k1 _ _ _ q1 x1 (r1.setL (by simp) hi h0 ha p1)⟩⟩
/-! targets: ms the slots that they change -/
theorem wipe_setIn {σ : St} {i : Nat} {o : Option V} : ∀ {ms : List Nat}, i ∈ ms → wipe (σ.set i o) ms = wipe σ ms
  | m :: ms, h => by
    show (wipe (σ.set i o) ms).set m none = (wipe σ ms).set m none
    by_cases hi : i ∈ ms
    · rw [wipe_setIn hi]
    · have hm : i = m := by rcases List.mem_cons.mp h with z | z; exact z; exact absurd z hi
      subst hm
      have : ∀ (l : List Nat), i ∉ l → wipe (σ.set i o) l = (wipe σ l).set i o := by
        intro l
        induction l with
        | nil => intro _; rfl
        | cons k l ih =>
          intro hk
          show (wipe (σ.set i o) l).set k none = ((wipe σ l).set k none).set i o
          rw [ih (fun z => hk (List.mem_cons_of_mem _ z)), List.set_comm _ _ (fun z => hk (by simp [z]))]
      rw [this ms hi, List.set_set]
abbrev TGd := D → Env → (Env → Prop) → Prop
def liftG (W : Bool) (K : PySem.W.Frag) (G : Gh) (ms : List Nat) (t : TGd) : TG := fun v σ H Q => ∃ (E : Env) (d : D) (QE : Env → Prop), RelE K G H E σ ∧ RpB W K H d v ∧ t d E QE ∧ ∀ E' σ' H', QE E' → Ext H H' → RelE K G H' E' σ' → wipe σ' ms = wipe σ ms → Q σ' H'
structure GD (X : Cx) (G : Gh) (W : Bool) (ms : List Nat) (tg : Expr) (t : TGd) : Prop where
  pg : PG X tg (liftG W X.K G ms t)
theorem PG.weak {tg : Expr} {t u : TG} (h : PG X tg t) (w : ∀ v σ H Q, u v σ H Q → t v σ H Q) : PG X tg u := ⟨fun pins s σ H v x Q I r q => h.run pins s σ H v x Q I r (w v σ H Q q)⟩
def gSet (i : Nat) : TGd := fun d E Q => Q (E.set i (.d d))
theorem gd_name {i : Nat} {x : Str} {ms : List Nat} (hi : i ∉ G.slots) (hm : i ∈ ms) (hN : X.N.Nodup) (hx : X.N[i]? = some x) (hl : Loc X.env.scope x) (hf : X.fn x = true ∨ X.env.scope.names.lookup x = some .local := by first | exact .inl rfl | exact .inr rfl | assumption) : GD X G false ms (.Name x pos) (gSet i) :=
  ⟨PG.weak (pg_name hN hx hl hf) fun v σ H Q ⟨E, d, QE, r, p, q, k⟩ => k _ _ _ q (Ext.refl _) (r.setD hi p) (wipe_setIn hm)⟩
abbrev TGsd := List D → Env → (Env → Prop) → Prop
def liftGs (K : PySem.W.Frag) (G : Gh) (ms : List Nat) (t : TGsd) : TGs := fun vs σ H Q => ∃ (E : Env) (ds : List D) (QE : Env → Prop), RelE K G H E σ ∧ RpL K H ds vs ∧ t ds E QE ∧ ∀ E' σ' H', QE E' → Ext H H' → RelE K G H' E' σ' → wipe σ' ms = wipe σ ms → Q σ' H'
structure GDs (X : Cx) (G : Gh) (ms : List Nat) (tgs : List Expr) (t : TGsd) : Prop where
  pg : PGs X tgs (liftGs X.K G ms t)
theorem PGs.weak {tgs : List Expr} {t u : TGs} (h : PGs X tgs t) (w : ∀ v σ H Q, u v σ H Q → t v σ H Q) : PGs X tgs u := ⟨fun pins s σ H v x Q I r q => h.run pins s σ H v x Q I r (w v σ H Q q)⟩
def gsNil : TGsd := fun ds E Q => match ds with
  | [] => Q E
  | _ => False
def gsCons (t : TGd) (u : TGsd) : TGsd := fun ds E Q => match ds with
  | d :: r => t d E fun E1 => u r E1 Q
  | _ => False
theorem gds_nil {ms : List Nat} : GDs X G ms [] gsNil := ⟨PGs.weak pgs_nil fun vs σ H Q ⟨E, ds, QE, r, p, q, k⟩ => by
  cases p with
  | nil => exact ⟨rfl, k _ _ _ q (Ext.refl _) r rfl⟩
  | cons _ _ => exact q.elim⟩
theorem gds_cons {ms : List Nat} {t : TGd} {u : TGsd} (h1 : GD X G false ms e t) (h2 : GDs X G ms es u) (hs : (assignEach (e :: es) X.env).map (·.2) = assign e X.env :: (assignEach es X.env).map (·.2) := by rfl) : GDs X G ms (e :: es) (gsCons t u) := ⟨PGs.weak (pgs_cons h1.pg h2.pg hs) fun vs σ H Q ⟨E, ds, QE, r, p, q, k⟩ => by
  cases p with
  | nil => exact q.elim
  | cons p1 p2 => exact ⟨_, _, rfl, E, _, _, r, .of p1, q, fun E1 σ1 H1 q1 x1 r1 w1 => ⟨E1, _, QE, r1, p2.ext x1, q1, fun E2 σ2 H2 q2 x2 r2 w2 => k _ _ _ q2 (x1.trans x2) r2 (w2.trans w1)⟩⟩⟩
/-- a tuple of targets: n of them -/
def gTupD (n : Nat) (u : TGsd) : TGd := fun d E Q => match d with
  | .tuple ds => ds.length = n ∧ u ds E Q
  | _ => False
theorem gd_tup {W : Bool} {ms : List Nat} {k n : Nat} {u : TGsd} (hc : X.calm = true) (h : GDs X G ms es u) (hn : (assignEach es X.env).length = n := by rfl) (hst : (assignEach es X.env).findIdx? (·.1) = none := by rfl) : GD X G W ms (.Tuple es k pos) (gTupD n u) :=
  ⟨PG.weak (pg_tup hc h.pg hn hst) fun v σ H Q ⟨E, d, QE, r, p, q, k⟩ => by
    have strong : Rp X.K H d v → gTup X.K n (liftGs X.K G ms u) v σ H Q := fun p => by
      cases p with
      | tup hs l => exact ⟨_, _, rfl, hs.1, by rw [← l.length]; exact q.1, E, _, QE, r, l, q.2, k⟩
      | _ => exact q.elim
    unfold RpB at p
    split at p
    · rcases p with p | ⟨ds, a, vs, rfl, rfl, hs, l⟩
      · exact strong p
      · exact ⟨_, _, rfl, hs, by rw [← l.length]; exact q.1, E, _, QE, r, l, q.2, k⟩
    · exact strong p⟩
/-- targets = e -/
def sAsg (t : TD) (g : TGd) : TSd := fun DE E => t E fun d E1 => g d E1 DE.nx
theorem sd_asg {ms : List Nat} {tg : Expr} {t : TD} {g : TGd} (h : ED X G e t) (hg : GD X G false ms tg g) (hs : swapsWithSole [tg] e pos.line X.env = pure false := by rfl) (hw : swappedStores [tg] e X.env = pure none := by rfl)
    (ha : (assignEach [tg] X.env).map (·.2) = [assign tg X.env] := by rfl) : SD X G (.Assign [tg] e pos) (sAsg t g) :=
  ⟨PS.weak (ps_asg h.pe hg.pg hs hw ha) fun F σ H ⟨E, DE, r, q, k1, k2, k3, k4⟩ => ⟨E, _, r, q, fun d E1 v H1 q1 x1 r1 p1 => ⟨E1, d, DE.nx, r1, .of p1, q1, fun E2 σ2 H2 q2 x2 r2 _ => k1 _ _ _ q2 (x1.trans x2) r2⟩⟩⟩
end
end DL
set_option Elab.async false
set_option linter.all false
set_option maxRecDepth 100000
namespace DL
open PySem PySem.Spec PyProof.Rows L2
/-! ### a thing that nobody else has, kept while something else runs -/
def pend (G : Gh) (a : Addr) (o : HO) : Gh := { H0 := upd G.H0 a o, own := G.own, X0 := G.X0 }
section
variable {K : PySem.W.Frag} {G : Gh} {H H' : Hp} {E : Env} {σ : St} {ex : List Addr}
theorem RelX.toPend {a : Addr} {o : HO} (r : RelX K G (a :: ex) H E σ) (ha : H a = some o) (na : a ∉ G.addrs) : RelX K (pend G a o) ex H E σ := by
  obtain ⟨l, k, pn, dm, x0, A, h1, h2, h3⟩ := r
  refine ⟨l, fun p u e ne => ?_, pn, dm, x0, A, h1, fun i b e => ⟨?_, fun q => (h2 i b e).2 (List.mem_cons_of_mem _ q)⟩, h3⟩
  · by_cases z : p = a
    · subst z
      have : (pend G p o).H0 p = some o := upd_same
      rw [this] at e; cases e; exact ha
    · have e' : G.H0 p = some u := by
        have : (pend G a o).H0 p = G.H0 p := upd_ne z
        rw [this] at e; exact e
      exact k p u e' ne
  · have hb := h2 i b e
    have z : b ≠ a := by intro z; exact hb.2 (by simp [z])
    rcases hb.1 with q | q
    · exact .inl q
    · exact .inr (by show upd G.H0 a o b = none; rw [upd_ne z]; exact q)
theorem RelX.ofPend {a : Addr} {o : HO} (r : RelX K (pend G a o) ex H E σ) (h0 : G.H0 a = none) (na : a ∉ G.addrs) : RelX K G (a :: ex) H E σ ∧ H a = some o := by
  obtain ⟨l, k, pn, dm, x0, A, h1, h2, h3⟩ := r
  refine ⟨⟨l, fun p u e ne => ?_, pn, dm, x0, A, h1, fun i b e => ?_, h3⟩, ?_⟩
  · have z : p ≠ a := by rintro rfl; rw [h0] at e; cases e
    exact k p u (by show upd G.H0 a o p = some u; rw [upd_ne z]; exact e) ne
  · have hb := (h2 i b e).1
    have z : b ≠ a := by
      rintro rfl
      rcases hb with q | q
      · exact na q
      · have : upd G.H0 b o b = none := q
        rw [upd_same] at this; cases this
    refine ⟨?_, fun q => by
      rcases List.mem_cons.mp q with q | q
      · exact z q
      · exact (h2 i b e).2 q⟩
    rcases hb with q | q
    · exact .inl q
    · exact .inr (by have : upd G.H0 a o b = none := q; rw [upd_ne z] at this; exact this)
  · exact k a o upd_same na
end
/-! ### what is walked -/
structure WalkD (W : Bool) (K : PySem.W.Frag) (J : It) (H0 : Hp) (ds : List D) : Prop where
  goes : ∀ i H, Ext H0 H → i < ds.length → J.go i H
  yld : ∀ i H x H', Ext H0 H → i < ds.length → J.yld i H x H' → PExt H H' ∧ ∃ d, ds[i]? = some d ∧ RpB W K H' d x
  stops : ∀ H, Ext H0 H → J.stop ds.length H
def liftI (W : Bool) (K : PySem.W.Frag) (G : Gh) (t : TDs) : TI := fun σ H R => ∃ (E : Env) (QE : List D → Env → Prop), RelE K G H E σ ∧ t E QE ∧ ∀ ds E' J H', QE ds E' → Ext H H' → RelE K G H' E' σ → WalkD W K J H' ds → R J H'
structure ID (X : Cx) (G : Gh) (W : Bool) (tg iter : Expr) (t : TDs) : Prop where
  pi : PI X tg iter (liftI W X.K G t)
theorem PI.weak {X : Cx} {tg iter : Expr} {t u : TI} (h : PI X tg iter t) (w : ∀ σ H R, u σ H R → t σ H R) : PI X tg iter u := ⟨fun pins s σ H R I q => h.run pins s σ H R I (w σ H R q)⟩
section
variable {X : Cx} {G : Gh} {tg iter e : Expr} {pos : Pos}
/-- over data that is a tuple -/
def iTupD (t : TD) : TDs := fun E Q => t E fun d E1 => match d with
  | .tuple ds => Q ds E1
  | _ => False
def iLstD (t : TD) : TDs := fun E Q => t E fun d E1 => match d with
  | .list ds => Q ds E1
  | _ => False
theorem walkD_tup {K : PySem.W.Frag} {H : Hp} {a : Addr} {vs : List V} {ds : List D} (h : SqT K H a vs) (l : RpL K H ds vs) : WalkD false K (Itt K a) H ds where
  goes := fun i H' x hi => by
    rw [l.length] at hi
    exact ⟨vs, vs[i], SqT.ext x h, List.getElem?_eq_getElem hi⟩
  yld := fun i H' v H2 x hi hy => by
    obtain ⟨e1, e2⟩ := hy
    subst e1
    have hv := e2 vs (SqT.ext x h)
    obtain ⟨d, hd, p⟩ := l.getV hv
    exact ⟨PExt.refl _, d, hd, p.ext x⟩
  stops := fun H' x => ⟨vs, SqT.ext x h, by rw [l.length]; exact Nat.le_refl _⟩
theorem walkD_lst {K : PySem.W.Frag} {H : Hp} {a : Addr} {vs : List V} {ds : List D} (h : LsF K H a vs) (l : RpL K H ds vs) : WalkD false K (Itl K a) H ds where
  goes := fun i H' x hi => by
    rw [l.length] at hi
    exact ⟨vs, vs[i], (LsF.ext x h).sq, List.getElem?_eq_getElem hi⟩
  yld := fun i H' v H2 x hi hy => by
    obtain ⟨e1, e2⟩ := hy
    subst e1
    have hv := e2 vs ((LsF.ext x h).sq)
    obtain ⟨d, hd, p⟩ := l.getV hv
    exact ⟨PExt.refl _, d, hd, p.ext x⟩
  stops := fun H' x => ⟨vs, (LsF.ext x h).sq, by rw [l.length]; exact Nat.le_refl _⟩
theorem id_tup {t : TD} (h : ED X G iter t) : ID X G false tg iter (iTupD t) :=
  ⟨PI.weak (pi_tup h.pe) fun σ H R ⟨E, QE, r, q, k⟩ => ⟨E, _, r, q, fun d E1 v H1 q1 x1 r1 p1 => by
    cases p1 with
    | tup hs l => exact ⟨_, rfl, ⟨_, hs.1⟩, k _ _ _ _ q1 x1 r1 (walkD_tup hs.1 l)⟩
    | _ => exact q1.elim⟩⟩
theorem id_lst {t : TD} (h : ED X G iter t) : ID X G false tg iter (iLstD t) :=
  ⟨PI.weak (pi_list h.pe) fun σ H R ⟨E, QE, r, q, k⟩ => ⟨E, _, r, q, fun d E1 v H1 q1 x1 r1 p1 => by
    cases p1 with
    | lst hs l => exact ⟨_, rfl, ⟨_, hs.sq⟩, k _ _ _ _ q1 x1 r1 (walkD_lst hs l)⟩
    | _ => exact q1.elim⟩⟩
/-! ranges -/
def rangeD (lo : Int) (n : Nat) : List D := (List.range n).map fun i : Nat => PyData.int (lo + (i : Int))
theorem rangeD_length (lo : Int) (n : Nat) : (rangeD lo n).length = n := by simp [rangeD]
theorem rangeD_get {lo : Int} {n i : Nat} (h : i < n) : (rangeD lo n)[i]? = some (.int (lo + (i : Int))) := by
  simp [rangeD, h]
theorem walkD_range {K : PySem.W.Frag} {H : Hp} {lo : Int} {n : Nat} : WalkD false K (Itr lo n) H (rangeD lo n) where
  goes := fun i H' x hi => by rw [rangeD_length] at hi; exact hi
  yld := fun i H' v H2 x hi hy => by
    obtain ⟨rfl, rfl⟩ := hy
    rw [rangeD_length] at hi
    exact ⟨PExt.refl _, _, rangeD_get hi, .int _⟩
  stops := fun H' x => by rw [rangeD_length]; exact Nat.le_refl _
def iRange1 (t : TD) : TDs := fun E Q => t E fun d E1 => match d with
  | .int j => (-(2 ^ 62) ≤ j ∧ j < 2 ^ 62) ∧ Q (rangeD 0 j.toNat) E1
  | _ => False
theorem id_range1 {a : Expr} {t : TD} {p : Pos} (hg : Gl X "range") (hm : X.mg "range" = none) (h : ED X G a t) (hs : starEach [a] X.env = [(false, eval a X.env)] := by rfl) : ID X G false tg (.Call (.Name "range" p) [a] [] pos) (iRange1 t) :=
  ⟨PI.weak (pi_range1 hg hm (pa_cons h.pe pa_nil hs) hs) fun σ H R ⟨E, QE, r, q, k⟩ => ⟨E, _, r, q, fun d E1 v H1 q1 x1 r1 p1 => by
    cases p1 with
    | int i => exact ⟨i, rfl, q1.1.1, q1.1.2, k _ _ _ _ q1.2 x1 r1 walkD_range⟩
    | _ => exact q1.elim⟩⟩
def iRange2 (t u : TD) : TDs := fun E Q => t E fun d E1 => u E1 fun f E2 => match d, f with
  | .int i, .int j => (-(2 ^ 62) ≤ i ∧ i < 2 ^ 62 ∧ -(2 ^ 62) ≤ j ∧ j < 2 ^ 62) ∧ Q (rangeD i (j - i).toNat) E2
  | _, _ => False
theorem id_range2 {a b : Expr} {t u : TD} {p : Pos} (hg : Gl X "range") (hm : X.mg "range" = none) (h : ED X G a t) (hb : ED X G b u) (hs : starEach [a, b] X.env = [(false, eval a X.env), (false, eval b X.env)] := by rfl) (hs2 : starEach [b] X.env = [(false, eval b X.env)] := by rfl) :
    ID X G false tg (.Call (.Name "range" p) [a, b] [] pos) (iRange2 t u) :=
  ⟨PI.weak (pi_range2 hg hm (pa_cons h.pe (pa_cons hb.pe pa_nil hs2) (by rw [hs, hs2])) hs hs2) fun σ H R ⟨E, QE, r, q, k⟩ => ⟨E, _, r, q, fun d E1 v H1 q1 x1 r1 p1 => ⟨E1, _, r1, q1, fun f E2 u H2 q2 x2 r2 p2 => by
    cases p1 with
    | int i =>
      cases p2 with
      | int j => exact ⟨i, j, rfl, q2.1, k _ _ _ _ q2.2 (x1.trans x2) r2 walkD_range⟩
      | _ => exact q2.elim
    | _ => cases p2 <;> exact q2.elim⟩⟩⟩
/-! ### for -/
def forD (g : TGd) (tb : TSd) : List D → TSd
  | [] => fun DE E => DE.nx E
  | d :: ds => fun DE E => g d E fun E1 => tb { DE with nx := forD g tb ds DE, ct := forD g tb ds DE, bk := DE.nx } E1
def sFor (ti : TDs) (g : TGd) (tb : TSd) : TSd := fun DE E => ti E fun ds E1 => forD g tb ds DE E1
theorem sd_for {W : Bool} {body : List Stmt} {ti : TDs} {g : TGd} {tb : TSd} (hp : PassesOwn (model X.prog X.w) X.A X.env X.xe) (hc : X.calm = true) (hi : ID X G W tg iter ti) {ms : List Nat} (hg : GD X G W ms tg g) (hb : SDs X G body tb)
    (hs : ∀ x, foldedSetIterable iter X.env x = pure x := by intro _; rfl) : SD X G (.For tg iter body [] pos) (sFor ti g tb) := by
  refine ⟨PS.weak (ps_for hp hc hi.pi hg.pg hb.pss hs) fun F σ H ⟨E, DE, r, q, k1, k2, k3, k4⟩ => ⟨E, _, r, q, fun ds E1 J H1 q1 x1 r1 wk => ?_⟩⟩
  refine ⟨fun i m σ' H' => ∃ E', i + m = ds.length ∧ Ext H1 H' ∧ RelE X.K G H' E' σ' ∧ forD g tb (ds.drop i) DE E', ⟨ds.length, E1, by omega, Ext.refl _, r1, q1⟩, fun i m σ2 H2 hW => ?_⟩
  obtain ⟨E2, hm, x2, r2, q2⟩ := hW
  by_cases hi : i < ds.length
  · obtain ⟨d, hd⟩ : ∃ d, ds[i]? = some d := ⟨ds[i], List.getElem?_eq_getElem hi⟩
    have hdr : ds.drop i = d :: ds.drop (i + 1) := by
      rw [List.drop_eq_getElem_cons hi]
      rw [List.getElem?_eq_getElem hi] at hd
      rw [Option.some.inj hd]
    rw [hdr] at q2
    refine .inr ⟨wk.goes i H2 x2 hi, fun σ' H' => ∃ E', Ext H1 H' ∧ RelE X.K G H' E' σ' ∧ forD g tb (ds.drop (i + 1)) DE E', fun σ' H' ⟨E', a1, a2, a3⟩ => ⟨m - 1, by omega, E', by omega, a1, a2, a3⟩, fun x H3 hy => ?_⟩
    obtain ⟨px, d', hd', p⟩ := wk.yld i H2 x H3 x2 hi hy
    rw [hd] at hd'; cases hd'
    refine ⟨E2, d, _, r2.pext px, p, q2, fun E4 σ4 H4 q4 x4 r4 _ => ?_⟩
    have xx : Ext H1 H4 := (x2.trans px.ext).trans x4
    refine ⟨E4, _, r4, q4, fun E5 σ5 H5 z x5 r5 => ⟨E5, xx.trans x5, r5, z⟩, fun d E5 v σ5 H5 z x5 r5 p5 => k2 d E5 v σ5 H5 z ((x1.trans xx).trans x5) r5 p5, fun E5 σ5 H5 z x5 r5 => k1 E5 σ5 H5 z ((x1.trans xx).trans x5) r5, fun E5 σ5 H5 z x5 r5 => ⟨E5, xx.trans x5, r5, z⟩⟩
  · have e0 : ds.drop i = [] := List.drop_eq_nil_of_le (by omega)
    have ei : i = ds.length := by omega
    rw [e0] at q2
    refine .inl ⟨by rw [ei]; exact wk.stops H2 x2, k1 _ _ _ q2 (x1.trans x2) r2⟩
/-! ### while -/
def sWhile (c : TTd) (tb : TSd) : TSd := fun DE E => ∃ W : Nat → Env → Prop, (∃ m, W m E) ∧ ∀ m E, W m E → c E fun b E1 =>
  if b = true then tb { DE with nx := fun E' => ∃ m', m' < m ∧ W m' E', ct := fun E' => ∃ m', m' < m ∧ W m' E', bk := DE.nx } E1 else DE.nx E1
theorem sd_while {c : Expr} {body : List Stmt} {tc : TTd} {tb : TSd} (hp : PassesOwn (model X.prog X.w) X.A X.env X.xe) (hc : EB X G c tc) (hb : SDs X G body tb) : SD X G (.While c body [] pos) (sWhile tc tb) := by
  refine ⟨PS.weak (ps_while hp hc.pt hb.pss) fun F σ H ⟨E, DE, r, ⟨W, ⟨m0, w0⟩, turn⟩, k1, k2, k3, k4⟩ => ?_⟩
  refine ⟨fun m σ' H' => ∃ E', Ext H H' ∧ RelE X.K G H' E' σ' ∧ W m E', ⟨m0, E, Ext.refl _, r, w0⟩, fun m σ1 H1 ⟨E1, x1, r1, w1⟩ => ⟨E1, _, r1, turn m E1 w1, fun b E2 H2 q2 x2 r2 => ?_⟩⟩
  have xx := x1.trans x2
  cases b with
  | true =>
    rw [if_pos rfl] at q2
    refine iteT ?_
    refine ⟨fun σ' H' => ∃ E', Ext H H' ∧ RelE X.K G H' E' σ' ∧ ∃ m', m' < m ∧ W m' E', fun σ' H' ⟨E', a1, a2, m', a3, a4⟩ => ⟨m', a3, E', a1, a2, a4⟩, E2, _, r2, q2, fun E5 σ5 H5 z x5 r5 => ⟨E5, xx.trans x5, r5, z⟩, fun d E5 v σ5 H5 z x5 r5 p5 => k2 d E5 v σ5 H5 z (xx.trans x5) r5 p5, fun E5 σ5 H5 z x5 r5 => k1 E5 σ5 H5 z (xx.trans x5) r5, fun E5 σ5 H5 z x5 r5 => ⟨E5, xx.trans x5, r5, z⟩⟩
  | false =>
    rw [if_neg Bool.false_ne_true] at q2
    refine iteF ?_
    exact k1 _ _ _ q2 xx r2
/-! ### comprehensions -/
def wipeE (E : Env) : List Nat → Env
  | [] => E
  | v :: vs => (wipeE E vs).set v .un
def datOf : Option S → S
  | some (.d x) => .d x
  | _ => .un
/-- behind a comprehension: its own names are as they were -/
def restE (E0 E : Env) : List Nat → Env
  | [] => E
  | v :: vs => (restE E0 E vs).set v (datOf E0[v]?)
/-- one turn: an item, or none -/
def turnD (g : TGd) (tt : TTd) (te : TD) (d : D) (E : Env) (Q : Option D → Env → Prop) : Prop :=
  g d E fun E1 => tt E1 fun b E2 => if b = true then te E2 fun y E3 => Q (some y) E3 else Q none E2
def compD (g : TGd) (tt : TTd) (te : TD) (ms : List Nat) : List D → List D → Env → (List D → Env → Prop) → Prop
  | [], acc, E, Q => Q acc E
  | d :: ds, acc, E, Q => turnD g tt te d (wipeE E ms) fun o E' => match o with
    | some y => acc.length < sizeLine ∧ compD g tt te ms ds (acc ++ [y]) E' Q
    | none => compD g tt te ms ds acc E' Q
def tComp (ti : TDs) (g : TGd) (tt : TTd) (te : TD) (ms : List Nat) : TLd := fun E Q => ti E fun ds E1 => compD g tt te ms ds [] E1 fun xs E2 => Q xs (restE E1 E2 ms)
def tTrue : TTd := fun E Q => Q true E
structure EBs (X : Cx) (G : Gh) (ifs : List Expr) (t : TTd) : Prop where
  pt : PTs X ifs (liftT X.K G t)
theorem PTs.weak {ifs : List Expr} {t u : TT} (h : PTs X ifs t) (w : ∀ σ H Q, u σ H Q → t σ H Q) : PTs X ifs u := ⟨fun pins s σ H Q I q => h.run pins s σ H Q I (w σ H Q q)⟩
theorem ebs_nil : EBs X G [] tTrue := ⟨PTs.weak pts_nil fun σ H Q ⟨E, QE, r, q, k⟩ => k _ _ _ q (Ext.refl _) r⟩
theorem ebs_one {c : Expr} {t : TTd} (h : EB X G c t) : EBs X G [c] t := ⟨pts_one h.pt⟩
theorem RelX.wipe1 {K : PySem.W.Frag} {ex : List Addr} {H : Hp} {E : Env} {σ : St} {i : Nat} (r : RelX K G ex H E σ) (hi : i ∉ G.slots) : RelX K G ex H (E.set i .un) (σ.set i none) := by
  obtain ⟨l, k, pn, dm, x0, A, h1, h2, h3⟩ := r
  refine ⟨by simp [l], k, fun j a hj => ?_, dm, x0, fun j => if j = i then [] else A j, fun j m a e1 e2 => ?_, fun j a e1 => ?_, fun j s e => ?_⟩
  · have : i ≠ j := fun z => notin_slots hi a (z ▸ hj)
    rw [List.getElem?_set_ne this]; exact pn j a hj
  · by_cases z : j = i
    · simp [z] at e1
    · by_cases z2 : m = i
      · simp [z2] at e2
      · simp only [z, z2, if_false] at e1 e2; exact h1 j m a e1 e2
  · by_cases z : j = i
    · simp [z] at e1
    · simp only [z, if_false] at e1; exact h2 j a e1
  · by_cases z : j = i
    · subst z
      by_cases hl : j < E.length
      · rw [List.getElem?_set_self hl] at e
        cases e
        simp [RelS]
      · rw [List.getElem?_eq_none (by simpa using hl)] at e; cases e
    · rw [List.getElem?_set_ne (Ne.symm z)] at e
      rw [List.getElem?_set_ne (Ne.symm z)]
      simp only [z, if_false]; exact h3 j s e
theorem RelX.wipe {K : PySem.W.Frag} {ex : List Addr} {H : Hp} {E : Env} {σ : St} (r : RelX K G ex H E σ) : ∀ {ms : List Nat}, (∀ i ∈ ms, i ∉ G.slots) → RelX K G ex H (wipeE E ms) (wipe σ ms)
  | [], _ => r
  | i :: ms, h => (RelX.wipe r fun j hj => h j (List.mem_cons_of_mem _ hj)).wipe1 (h i (List.mem_cons_self ..))
theorem wipe_get {σ : St} {i : Nat} : ∀ {ms : List Nat}, i ∉ ms → (L2.wipe σ ms)[i]? = σ[i]?
  | [], _ => rfl
  | v :: vs, h => by
    show ((L2.wipe σ vs).set v none)[i]? = _
    rw [List.getElem?_set_ne (fun z => h (by simp [z])), wipe_get fun z => h (List.mem_cons_of_mem _ z)]
/-- behind a comprehension: the slots of before -/
theorem RelX.rest {K : PySem.W.Frag} {ex : List Addr} {H1 H : Hp} {E1 E : Env} {σ σ2 : St} {ms : List Nat} (r1 : RelE K G H1 E1 σ) (x : Ext H1 H) (r : RelX K G ex H E σ2) (hw : L2.wipe σ2 ms = L2.wipe σ ms) (hm : ∀ i ∈ ms, i ∉ G.slots) : RelX K G ex H (restE E1 E ms) σ := by
  have hl : σ2.length = σ.length := by rw [← wipe_length σ2 ms, hw, wipe_length]
  have rl : ∀ (l : List Nat), (restE E1 E l).length = E.length := by
    intro l
    induction l with
    | nil => rfl
    | cons v vs ih => show ((restE E1 E vs).set v _).length = _; rw [List.length_set, ih]
  have rg : ∀ (l : List Nat) (i : Nat), i ∉ l → (restE E1 E l)[i]? = E[i]? := by
    intro l
    induction l with
    | nil => intro i _; rfl
    | cons v vs ih => intro i h; show ((restE E1 E vs).set v _)[i]? = _; rw [List.getElem?_set_ne (fun z => h (by simp [z])), ih i fun z => h (List.mem_cons_of_mem _ z)]
  have rin : ∀ (l : List Nat) (i : Nat) (s : S), i ∈ l → (restE E1 E l)[i]? = some s → s = datOf E1[i]? := by
    intro l
    induction l with
    | nil => intro i s h; cases h
    | cons v vs ih =>
      intro i s h e
      have e : ((restE E1 E vs).set v (datOf E1[v]?))[i]? = some s := e
      by_cases z : v = i
      · subst z
        by_cases hv : v < (restE E1 E vs).length
        · rw [List.getElem?_set_self hv] at e; exact (Option.some.inj e).symm
        · rw [List.getElem?_eq_none (by simpa using hv)] at e; cases e
      · rw [List.getElem?_set_ne z] at e
        exact ih i s (by rcases List.mem_cons.mp h with q | q; exact absurd q.symm z; exact q) e
  obtain ⟨l, k, pn, dm, x0, A, h1, h2, h3⟩ := r
  have same : ∀ i, i ∉ ms → σ2[i]? = σ[i]? := fun i hi => by rw [← wipe_get (σ := σ2) hi, hw, wipe_get hi]
  refine ⟨by rw [rl, l, hl], k, fun i a ha => ?_, dm, x0, fun i => if i ∈ ms then [] else A i, fun i j a e1 e2 => ?_, fun i a e => ?_, fun i s e => ?_⟩
  · have : i ∉ ms := fun z => notin_slots (hm i z) a ha
    rw [← same i this]; exact pn i a ha
  · dsimp only at e1 e2
    split at e1
    · cases e1
    · split at e2
      · cases e2
      · exact h1 i j a e1 e2
  · dsimp only at e
    split at e
    · cases e
    · exact h2 i a e
  · by_cases hi : i ∈ ms
    · simp only [hi, if_true]
      have es := rin ms i s hi e
      subst es
      cases q : E1[i]? with
      | none => exact rfl
      | some s =>
        cases s with
        | d y =>
          obtain ⟨v, e1, p⟩ := r1.data q
          exact ⟨rfl, v, e1, p.ext x⟩
        | _ => exact rfl
    · simp only [hi, if_false]
      rw [rg ms i hi] at e
      rw [← same i hi]
      exact h3 i s e
abbrev anyG (W : Bool) (K : PySem.W.Frag) (G : Gh) (ms : List Nat) (g : TGd) : TG := fun v σ H Q => ∃ G' : Gh, G'.slots = G.slots ∧ liftG W K G' ms g v σ H Q
abbrev anyT (K : PySem.W.Frag) (G : Gh) (tt : TTd) : TT := fun σ H Q => ∃ G' : Gh, G'.slots = G.slots ∧ liftT K G' tt σ H Q
abbrev anyE (K : PySem.W.Frag) (G : Gh) (te : TD) : TE := fun σ H Q => ∃ G' : Gh, G'.slots = G.slots ∧ liftE K G' te σ H Q
theorem lift_comp {W : Bool} {ti : TDs} {g : TGd} {tt : TTd} {te : TD} {ms : List Nat} (hm : ∀ i ∈ ms, i ∉ G.slots) (σ : St) (H : Hp) (Q : VK) (h : liftL X.K G (tComp ti g tt te ms) σ H Q) : tLc (liftI W X.K G ti) (anyG W X.K G ms g) (anyT X.K G tt) (anyE X.K G te) ms σ H Q := by
  obtain ⟨E, QE, r, q, k⟩ := h
  refine ⟨E, _, r, q, fun ds E1 J H1 q1 x1 r1 wk L hL => ?_⟩
  obtain ⟨rL, h0, na⟩ := r1.fresh (o := .lst []) hL
  refine ⟨fun i m H' => ∃ (E' : Env) (σ' : St) (acc : List D) (vs : List V), i + m = ds.length ∧ Ext (upd H1 L (.lst [])) H' ∧ RelX X.K G [L] H' E' σ' ∧ L2.wipe σ' ms = L2.wipe σ ms ∧ H' L = some (.lst vs) ∧ RpL X.K H' acc vs ∧
    compD g tt te ms (ds.drop i) acc E' fun xs E2 => QE xs (restE E1 E2 ms), ⟨ds.length, E1, σ, [], [], by omega, Ext.refl _, rL, rfl, upd_same, .nil, q1⟩, fun i m H2 hW => ?_⟩
  obtain ⟨E2, σ2, acc, vs, hm2, x2, r2, w2, a2, p2, q2⟩ := hW
  have xL : Ext H1 H2 := (PExt.new hL).ext.trans x2
  by_cases hi : i < ds.length
  · obtain ⟨d, hd⟩ : ∃ d, ds[i]? = some d := ⟨ds[i], List.getElem?_eq_getElem hi⟩
    have hdr : ds.drop i = d :: ds.drop (i + 1) := by
      rw [List.drop_eq_getElem_cons hi]
      rw [List.getElem?_eq_getElem hi] at hd
      rw [Option.some.inj hd]
    rw [hdr] at q2
    refine .inr ⟨wk.goes i H2 xL hi, fun H' => ∃ (E' : Env) (σ' : St) (acc : List D) (vs : List V), Ext (upd H1 L (.lst [])) H' ∧ RelX X.K G [L] H' E' σ' ∧ L2.wipe σ' ms = L2.wipe σ ms ∧ H' L = some (.lst vs) ∧ RpL X.K H' acc vs ∧
      compD g tt te ms (ds.drop (i + 1)) acc E' fun xs E2 => QE xs (restE E1 E2 ms), fun H' ⟨E', σ', acc, vs, b1, b2, b3, b4, b5, b6⟩ => ⟨m - 1, by omega, E', σ', acc, vs, by omega, b1, b2, b3, b4, b5, b6⟩, fun x H3 hy => ?_⟩
    obtain ⟨px, d', hd', p⟩ := wk.yld i H2 x H3 xL hi hy
    rw [hd] at hd'; cases hd'
    have hs0 : (pend G L (.lst vs)).slots = G.slots := rfl
    have r3 : RelE X.K (pend G L (.lst vs)) H3 (wipeE E2 ms) (L2.wipe σ ms) := by
      have := ((r2.pext px).wipe hm).toPend (px _ _ a2) na
      rw [w2] at this; exact this
    refine ⟨pend G L (.lst vs), hs0, _, d, _, r3, p, q2, fun E4 σ4 H4 q4 x4 r4 w4 => ?_⟩
    have ww : ∀ (l : List Nat), L2.wipe (L2.wipe σ l) l = L2.wipe σ l := by
      intro l
      have : ∀ (τ : St) (l k : List Nat), (∀ j ∈ l, j ∈ k) → (∀ j ∈ k, ∀ v, τ[j]? = some v → v = none) → L2.wipe τ l = τ := by
        intro τ l
        induction l with
        | nil => intro _ _ _; rfl
        | cons v vs ih =>
          intro k hk hn
          show (L2.wipe τ vs).set v none = τ
          rw [ih k (fun j hj => hk j (List.mem_cons_of_mem _ hj)) hn]
          refine List.ext_getElem? fun j => ?_
          by_cases hv : v = j
          · subst hv
            by_cases hl : v < τ.length
            · rw [List.getElem?_set_self hl]
              have := hn v (hk v (List.mem_cons_self ..)) _ (List.getElem?_eq_getElem hl)
              rw [List.getElem?_eq_getElem hl, this]
            · rw [List.getElem?_eq_none (by simpa using hl), List.getElem?_eq_none (by simpa using hl)]
          · rw [List.getElem?_set_ne hv]
      refine this _ l l (fun j hj => hj) fun j hj v e => ?_
      cases v with
      | none => rfl
      | some y => exact absurd hj (wipe_some e).2
    refine ⟨by rw [w4]; exact ww ms, pend G L (.lst vs), hs0, E4, _, r4, q4, fun b E5 H5 q5 x5 r5 => ?_⟩
    have w45 : L2.wipe σ4 ms = L2.wipe σ ms := by rw [w4]; exact ww ms
    have x5' : Ext (upd H1 L (.lst [])) H5 := ((x2.trans px.ext).trans x4).trans x5
    cases b with
    | false =>
      rw [if_neg Bool.false_ne_true] at q5
      refine iteF ?_
      obtain ⟨r6, a6⟩ := RelX.ofPend r5 h0 na
      exact ⟨E5, σ4, acc, vs, x5', r6, w45, a6, p2.ext ((px.ext.trans x4).trans x5), q5⟩
    | true =>
      rw [if_pos rfl] at q5
      refine iteT ?_
      refine ⟨pend G L (.lst vs), hs0, E5, _, r5, q5, fun y E6 u H6 q6 x6 r6 p6 => ?_⟩
      obtain ⟨r7, a7⟩ := RelX.ofPend r6 h0 na
      have pv := p2.ext (((px.ext.trans x4).trans x5).trans x6)
      have xp : Ext H6 (upd H6 L (.lst (vs ++ [u]))) := Ext.put a7
      refine ⟨vs, a7, by rw [← pv.length]; exact q6.1, E6, σ4, acc ++ [y], vs ++ [u], (x5'.trans x6).trans xp, ?_, w45, upd_same, (RpL.append pv (.cons p6 .nil)).ext xp, q6.2⟩
      -- the list L grows: apart from all footprints
      obtain ⟨l, kk, pn, dm, x0, A, h1, h2, h3⟩ := r7
      refine ⟨l, fun p o e ne => ?_, pn, fun p hp => ?_, x0.trans xp, fun j => if E6[j]? = none then [] else A j, fun i j b e1 e2 => ?_, fun i b e => ?_, fun j s e => ?_⟩
      · have : p ≠ L := by rintro rfl; rw [h0] at e; cases e
        rw [upd_ne this]; exact kk p o e ne
      · have : p ≠ L := by rintro rfl; exact na hp
        rw [upd_ne this]; exact dm p hp
      · dsimp only at e1 e2
        split at e1
        · cases e1
        · split at e2
          · cases e2
          · exact h1 i j b e1 e2
      · dsimp only at e
        split at e
        · cases e
        · exact h2 i b e
      · have : E6[j]? ≠ none := by rw [e]; simp
        simp only [this, if_false]
        exact (h3 j s e).move xp fun p hp => upd_ne (by rintro rfl; exact (h2 j p hp).2 (by simp))
  · have e0 : ds.drop i = [] := List.drop_eq_nil_of_le (by omega)
    have ei : i = ds.length := by omega
    rw [e0] at q2
    exact .inl ⟨by rw [ei]; exact wk.stops H2 xL, k _ _ _ _ _ q2 (x1.trans xL) (RelX.rest r1 xL r2 w2 hm) h0 na a2 p2⟩
theorem comp_parts {W : Bool} {elt tg : Expr} {ifs : List Expr} {scope : Scope} {g : TGd} {tt : TTd} {te : TD} {ms : List Nat}
    (hg : ∀ (G' : Gh), G'.slots = G.slots → ∀ (s : Shared) (H : Hp) (C : Addr) (cl : List (Str × Addr)) (fp : List Addr), GD (X.blk s H scope (compEnvC scope cl C X.env) fp) G' W ms tg g)
    (ht : ∀ (G' : Gh), G'.slots = G.slots → ∀ (s : Shared) (H : Hp) (C : Addr) (cl : List (Str × Addr)) (fp : List Addr), EBs (X.blk s H scope (compEnvC scope cl C X.env) fp) G' ifs tt)
    (he : ∀ (G' : Gh), G'.slots = G.slots → ∀ (s : Shared) (H : Hp) (C : Addr) (cl : List (Str × Addr)) (fp : List Addr), ED (X.blk s H scope (compEnvC scope cl C X.env) fp) G' elt te) :
    (∀ (s : Shared) (H : Hp) (C : Addr) (cl : List (Str × Addr)) (fp : List Addr), PG (X.blk s H scope (compEnvC scope cl C X.env) fp) tg (anyG W X.K G ms g)) ∧
    (∀ (s : Shared) (H : Hp) (C : Addr) (cl : List (Str × Addr)) (fp : List Addr), PTs (X.blk s H scope (compEnvC scope cl C X.env) fp) ifs (anyT X.K G tt)) ∧
    (∀ (s : Shared) (H : Hp) (C : Addr) (cl : List (Str × Addr)) (fp : List Addr), PE (X.blk s H scope (compEnvC scope cl C X.env) fp) elt (anyE X.K G te)) :=
  ⟨fun s H C cl fp => ⟨fun pins s' σ H' v x Q I r ⟨G', hG', q⟩ => (hg G' hG' s H C cl fp).pg.run pins s' σ H' v x Q I r q⟩,
   fun s H C cl fp => ⟨fun pins s' σ H' Q I ⟨G', hG', q⟩ => (ht G' hG' s H C cl fp).pt.run pins s' σ H' Q I q⟩,
   fun s H C cl fp => ⟨fun pins s' σ H' Q I ⟨G', hG', q⟩ => (he G' hG' s H C cl fp).pe.run pins s' σ H' Q I q⟩⟩
section
variable {elt : Expr} {ifs : List Expr} {scope : Scope} {ti : TDs} {g : TGd} {tt : TTd} {te : TD} {ms : List Nat}
theorem el_comp {W : Bool} (own : List (Str × Nat)) (hc : X.calm = true) (hN : X.N.Nodup) (hms : own.map (·.2) = ms) (hm : ∀ i ∈ ms, i ∉ G.slots) (hi : ID X G W tg iter ti) (ok : BlkOk X.N X.env.scope scope own)
    (hg : ∀ (G' : Gh), G'.slots = G.slots → ∀ (s : Shared) (H : Hp) (C : Addr) (cl : List (Str × Addr)) (fp : List Addr), GD (X.blk s H scope (compEnvC scope cl C X.env) fp) G' W ms tg g)
    (ht : ∀ (G' : Gh), G'.slots = G.slots → ∀ (s : Shared) (H : Hp) (C : Addr) (cl : List (Str × Addr)) (fp : List Addr), EBs (X.blk s H scope (compEnvC scope cl C X.env) fp) G' ifs tt)
    (he : ∀ (G' : Gh), G'.slots = G.slots → ∀ (s : Shared) (H : Hp) (C : Addr) (cl : List (Str × Addr)) (fp : List Addr), ED (X.blk s H scope (compEnvC scope cl C X.env) fp) G' elt te) (hs : ∀ x, foldedSetIterable iter X.env x = pure x := by intro _; rfl) :
    EL X G (.ListComp elt [⟨tg, iter, ifs, 0⟩] scope pos) (tComp ti g tt te ms) := by
  obtain ⟨Pg, Pt, Pe⟩ := comp_parts hg ht he
  refine ⟨PE.weak (pe_lc hc hN hi.pi ok Pg Pt Pe hs) fun σ H Q h => ?_⟩
  rw [hms]; exact lift_comp hm σ H Q h
/-- behind a statement the list at slot i is frozen -/
theorem PS.fz {st : Stmt} {t : TS} (h : PS X st t) : PS X st (fun F σ H => t { F with nx := fun σ' H' => ∃ a xs, H' a = some (.lst xs) ∧ ∀ o, F.nx σ' (upd H' a (.frz o (.lst xs))) } σ H) :=
  ⟨fun pins s σ H F I q => thn (h.run pins s σ H _ I q) fun f s1 q1 => by
    cases f with
    | next =>
      obtain ⟨σ', H', I1, a, xs, e2, q2⟩ := q1
      obtain ⟨o, I2⟩ := I1.lock e2 trivial
      exact ⟨σ', _, I2, q2 o⟩
    | brk => exact q1
    | cont => exact q1
    | ret u => exact q1⟩
/-- .. data -/
theorem sd_setC {W : Bool} {i : Nat} {y : Str} {py spos : Pos} (own : List (Str × Nat)) (hsl : i ∉ G.slots) (hc : X.calm = true) (hN : X.N.Nodup) (hy : X.N[i]? = some y) (hyl : X.env.scope.names.lookup y = some .local)
    (hsw : swapsWith (.ListComp elt [⟨tg, iter, ifs, 0⟩] scope pos) (some (.Name y py)) spos.line X.env = pure true) (hms : own.map (·.2) = ms) (hm : ∀ i ∈ ms, i ∉ G.slots) (hi : ID X G W tg iter ti) (ok : BlkOk X.N X.env.scope scope own)
    (hg : ∀ (G' : Gh), G'.slots = G.slots → ∀ (s : Shared) (H : Hp) (C : Addr) (cl : List (Str × Addr)) (fp : List Addr), GD (X.blk s H scope (compEnvC scope cl C X.env) fp) G' W ms tg g)
    (ht : ∀ (G' : Gh), G'.slots = G.slots → ∀ (s : Shared) (H : Hp) (C : Addr) (cl : List (Str × Addr)) (fp : List Addr), EBs (X.blk s H scope (compEnvC scope cl C X.env) fp) G' ifs tt)
    (he : ∀ (G' : Gh), G'.slots = G.slots → ∀ (s : Shared) (H : Hp) (C : Addr) (cl : List (Str × Addr)) (fp : List Addr), ED (X.blk s H scope (compEnvC scope cl C X.env) fp) G' elt te) (hs : ∀ x, foldedSetIterable iter X.env x = pure x := by intro _; rfl) :
    SD X G (.Assign [.Name y py] (.ListComp elt [⟨tg, iter, ifs, 0⟩] scope pos) spos) (sSet i (tFzD (tComp ti g tt te ms))) := by
  obtain ⟨Pg, Pt, Pe⟩ := comp_parts hg ht he
  refine ⟨PS.weak (PS.fz (ps_setLc hc hN hy hyl hsw hi.pi ok Pg Pt Pe hs)) fun F σ H ⟨E, DE, r, q, k1, k2, k3, k4⟩ => ?_⟩
  show tLc _ _ _ _ (own.map (·.2)) σ H fun x H1 => ∃ a xs, H1 a = some (.lst xs) ∧ ∀ o, F.nx (σ.set i (some x)) (upd H1 a (.frz o (.lst xs)))
  rw [hms]
  refine lift_comp hm σ H _ ⟨E, _, r, q, fun xs E1 a vs H1 q1 x1 r1 h0 na ha p1 => ?_⟩
  refine ⟨a, vs, ha, fun o => k1 _ _ _ q1 (x1.trans (Ext.put ha)) ?_⟩
  exact (r1.freeze h0 na ha).setD hsl (.lst (.of upd_same) (p1.ext (Ext.put ha)))
end
end
end DL
set_option Elab.async false
set_option linter.all false
set_option maxRecDepth 100000
namespace DL
open PySem PySem.Spec PyProof.Rows L2
/-! ### a def's promise over data -/
abbrev SpD := List S → (D → List S → Prop) → Prop
inductive AR (K : PySem.W.Frag) (H : Hp) : List S → List V → List Addr → Prop
  | nil : AR K H [] [] []
  | d {x : D} {v : V} {ss : List S} {vs : List V} {as : List Addr} : Rp K H x v → AR K H ss vs as → AR K H (.d x :: ss) (v :: vs) as
  | o {s : S} {a : Addr} {ss : List S} {vs : List V} {as : List Addr} : s.isMut = true → RelM K H s a → AR K H ss vs as → AR K H (s :: ss) (.ref a :: vs) (a :: as)
def spL (K : PySem.W.Frag) (sp : SpD) : Sp := fun vs H Q _ => ∃ (ss : List S) (as : List Addr) (QD : D → List S → Prop), sp ss QD ∧ AR K H ss vs as ∧ as.Nodup ∧
  ∀ d outs v H', QD d outs → (∀ p o, H p = some o → p ∉ as → H' p = some o) → Paired (RelM K H') outs as → Rp K H' d v → Q v H'
/-- the places of the mutable ones -/
def mpos : Nat → List S → List Nat
  | _, [] => []
  | k, s :: ss => if s.isMut = true then k :: mpos (k + 1) ss else mpos (k + 1) ss
theorem AR.length {K : PySem.W.Frag} {H : Hp} : ∀ {ss : List S} {vs : List V} {as : List Addr}, AR K H ss vs as → ss.length = vs.length
  | _, _, _, .nil => rfl
  | _, _, _, .d _ r => by rw [List.length_cons, List.length_cons, AR.length r]
  | _, _, _, .o _ _ r => by rw [List.length_cons, List.length_cons, AR.length r]
theorem AR.mlen {K : PySem.W.Frag} {H : Hp} : ∀ {ss : List S} {vs : List V} {as : List Addr} (k : Nat), AR K H ss vs as → (mpos k ss).length = as.length
  | _, _, _, _, .nil => rfl
  | _, _, _, k, .d _ r => by show (mpos (k + 1) _).length = _; exact AR.mlen (k + 1) r
  | _, _, _, k, .o h _ r => by unfold mpos; rw [if_pos h, List.length_cons, List.length_cons, AR.mlen (k + 1) r]
/-- what an argument place holds -/
theorem AR.get {K : PySem.W.Frag} {H : Hp} : ∀ {ss : List S} {vs : List V} {as : List Addr} (k : Nat) {i : Nat} {s : S}, AR K H ss vs as → ss[i]? = some s →
    (∃ x v, s = .d x ∧ vs[i]? = some v ∧ Rp K H x v) ∨ (s.isMut = true ∧ ∃ a, vs[i]? = some (.ref a) ∧ RelM K H s a ∧ (k + i, a) ∈ (mpos k ss).zip as)
  | _, _, _, _, i, _, .nil, e => by simp at e
  | _, _, _, k, 0, s, .d (x := x) (v := v) p r, e => by
    simp at e; exact .inl ⟨x, v, e.symm, rfl, p⟩
  | _, _, _, k, i + 1, s, .d p r, e => by
    rcases AR.get (k + 1) (i := i) r (by simpa using e) with ⟨x, v, e1, e2, e3⟩ | ⟨h, a, e1, e2, e3⟩
    · exact .inl ⟨x, v, e1, by simpa using e2, e3⟩
    · refine .inr ⟨h, a, by simpa using e1, e2, ?_⟩
      show (k + (i + 1), a) ∈ (mpos (k + 1) _).zip _
      rw [show k + (i + 1) = k + 1 + i by omega]; exact e3
  | _, _, _, k, 0, s, .o (a := a) h m r, e => by
    simp at e; subst e
    refine .inr ⟨h, a, rfl, m, ?_⟩
    unfold mpos; rw [if_pos h]; simp
  | _, _, _, k, i + 1, s, .o h m r, e => by
    rcases AR.get (k + 1) (i := i) r (by simpa using e) with ⟨x, v, e1, e2, e3⟩ | ⟨h', a, e1, e2, e3⟩
    · exact .inl ⟨x, v, e1, by simpa using e2, e3⟩
    · refine .inr ⟨h', a, by simpa using e1, e2, ?_⟩
      unfold mpos; rw [if_pos h, List.zip_cons_cons]
      refine List.mem_cons_of_mem _ ?_
      rw [show k + (i + 1) = k + 1 + i by omega]; exact e3
theorem AR.back {K : PySem.W.Frag} {H : Hp} : ∀ {ss : List S} {vs : List V} {as : List Addr} (k : Nat) {j : Nat} {a : Addr}, AR K H ss vs as → (j, a) ∈ (mpos k ss).zip as → ∃ i s, j = k + i ∧ ss[i]? = some s ∧ vs[i]? = some (.ref a) ∧ RelM K H s a
  | _, _, _, _, _, _, .nil, e => by simp [mpos] at e
  | _, _, _, k, j, a, .d p r, e => by
    obtain ⟨i, s, e1, e2, e3, e4⟩ := AR.back (k + 1) (j := j) (a := a) r e
    exact ⟨i + 1, s, by omega, by simpa using e2, by simpa using e3, e4⟩
  | _, _, _, k, j, a, .o h m r, e => by
    unfold mpos at e; rw [if_pos h, List.zip_cons_cons] at e
    rcases List.mem_cons.mp e with z | z
    · cases z; exact ⟨0, _, by omega, rfl, rfl, m⟩
    · obtain ⟨i, s, e1, e2, e3, e4⟩ := AR.back (k + 1) r z
      exact ⟨i + 1, s, by omega, by simpa using e2, by simpa using e3, e4⟩
theorem zip_inj2 {α β : Type} : ∀ {xs : List α} {ys : List β} {i j : α} {a : β}, ys.Nodup → (i, a) ∈ xs.zip ys → (j, a) ∈ xs.zip ys → i = j
  | x :: xs, y :: ys, i, j, a, nd, h1, h2 => by
    rw [List.zip_cons_cons] at h1 h2
    have ⟨n1, n2⟩ := List.nodup_cons.mp nd
    rcases List.mem_cons.mp h1 with z1 | z1
    · rcases List.mem_cons.mp h2 with z2 | z2
      · cases z1; cases z2; rfl
      · cases z1; exact absurd (List.of_mem_zip z2).2 n1
    · rcases List.mem_cons.mp h2 with z2 | z2
      · cases z2; exact absurd (List.of_mem_zip z1).2 n1
      · exact zip_inj2 n2 z1 z2
  | [], _, _, _, _, _, h1, _ => by simp at h1
  | _ :: _, [], _, _, _, _, h1, _ => by simp at h1
theorem zip_fst {α β : Type} : ∀ {xs : List α} {ys : List β}, xs.length = ys.length → (xs.zip ys).map (·.1) = xs
  | [], _, _ => by simp
  | x :: xs, y :: ys, h => by rw [List.zip_cons_cons, List.map_cons, zip_fst (by simpa using h)]
  | _ :: _, [], h => by simp at h
theorem zip_snd {α β : Type} : ∀ {xs : List α} {ys : List β}, xs.length = ys.length → (xs.zip ys).map (·.2) = ys
  | [], [], _ => by simp
  | [], _ :: _, h => by simp at h
  | x :: xs, y :: ys, h => by rw [List.zip_cons_cons, List.map_cons, zip_snd (by simpa using h)]
  | _ :: _, [], h => by simp at h
/-- the start of a def's body -/
theorem AR.start {K : PySem.W.Frag} {H : Hp} {ss : List S} {vs : List V} {as : List Addr} {n : Nat} (r : AR K H ss vs as) (nd : as.Nodup) :
    RelE K ⟨H, (mpos 0 ss).zip as, fun _ => none⟩ H (ss ++ List.replicate n .un) (vs.map some ++ List.replicate n none) := by
  have hl := r.length
  have own : ∀ i a, (i, a) ∈ (mpos 0 ss).zip as → ∃ s, ss[i]? = some s ∧ vs[i]? = some (.ref a) ∧ RelM K H s a := fun i a h => by
    obtain ⟨j, s, e1, e2, e3, e4⟩ := r.back 0 h
    have : i = j := by omega
    subst this; exact ⟨s, e2, e3, e4⟩
  have key : ∀ i a, ((mpos 0 ss).zip as).lookup i = some a → (i, a) ∈ (mpos 0 ss).zip as := by
    intro i a
    generalize (mpos 0 ss).zip as = l
    induction l with
    | nil => intro h; cases h
    | cons p l ih =>
      obtain ⟨j, b⟩ := p
      intro h
      rw [List.lookup_cons] at h
      split at h
      · rename_i q; have : i = j := by simpa using q
        subst this; cases h; exact List.mem_cons_self ..
      · exact List.mem_cons_of_mem _ (ih h)
  have key2 : ∀ i a, (i, a) ∈ (mpos 0 ss).zip as → ∃ b, ((mpos 0 ss).zip as).lookup i = some b := by
    intro i a
    generalize (mpos 0 ss).zip as = l
    induction l with
    | nil => intro h; cases h
    | cons p l ih =>
      obtain ⟨j, b⟩ := p
      intro h
      rw [List.lookup_cons]
      split
      · exact ⟨b, rfl⟩
      · rename_i q
        rcases List.mem_cons.mp h with z | z
        · cases z; simp at q
        · exact ih z
  refine ⟨by simp [hl], fun p o h _ => h, fun i a h => ?_, fun a h => ?_, ⟨(fun _ _ z => by cases z), (fun _ _ _ z => by cases z)⟩, fun i => match ((mpos 0 ss).zip as).lookup i with | some a => [a] | none => [], fun i j a h1 h2 => ?_, fun i a h => ?_, fun i s h => ?_⟩
  · obtain ⟨s, e1, e2, e3⟩ := own i a h
    have hi : i < vs.length := by
      rcases Nat.lt_or_ge i vs.length with z | z
      · exact z
      · rw [List.getElem?_eq_none z] at e2; cases e2
    rw [List.getElem?_append_left (by simpa using hi), List.getElem?_map, e2]; rfl
  · obtain ⟨p, hp, rfl⟩ := List.mem_map.mp h
    obtain ⟨s, e1, e2, e3⟩ := own p.1 p.2 hp
    obtain ⟨u, e, _⟩ := e3.soft
    rw [e]; simp
  · dsimp only at h1 h2
    split at h1
    · rename_i b hb
      split at h2
      · rename_i c hc
        simp only [List.mem_cons, List.not_mem_nil, or_false] at h1 h2
        subst h1; subst h2
        exact zip_inj2 nd (key _ _ hb) (key _ _ hc)
      · cases h2
    · cases h1
  · dsimp only at h
    split at h
    · rename_i b hb
      simp only [List.mem_cons, List.not_mem_nil, or_false] at h
      subst h
      exact ⟨.inl (List.mem_map.mpr ⟨_, key _ _ hb, rfl⟩), by simp⟩
    · cases h
  · by_cases hi : i < ss.length
    · rw [List.getElem?_append_left hi] at h
      rw [List.getElem?_append_left (by simpa [← hl] using hi), List.getElem?_map]
      rcases r.get 0 h with ⟨x, v, rfl, e2, e3⟩ | ⟨hm, a, e1, e2, e3⟩
      · have no : ((mpos 0 ss).zip as).lookup i = none := by
          cases q : ((mpos 0 ss).zip as).lookup i with
          | none => rfl
          | some b =>
            obtain ⟨s', f1, f2, f3⟩ := own i b (key _ _ q)
            rw [h] at f1; cases f1
            exact f3.elim
        dsimp only
        rw [no, e2]
        exact ⟨rfl, v, rfl, e3⟩
      · rw [Nat.zero_add] at e3
        obtain ⟨b, hb⟩ := key2 i a e3
        obtain ⟨s', f1, f2, f3⟩ := own i b (key _ _ hb)
        rw [e1] at f2; cases f2
        dsimp only
        rw [hb, e1]
        exact RelS.ofMut hm rfl e2
    · have hi' : ss.length ≤ i := Nat.le_of_not_lt hi
      rw [List.getElem?_append_right hi'] at h
      have hs : s = .un := by
        have := List.mem_of_getElem? h
        exact (List.mem_replicate.mp this).2
      subst hs
      have no : ((mpos 0 ss).zip as).lookup i = none := by
        cases q : ((mpos 0 ss).zip as).lookup i with
        | none => rfl
        | some b =>
          obtain ⟨s', f1, f2, f3⟩ := own i b (key _ _ q)
          rw [List.getElem?_eq_none hi'] at f1; cases f1
      dsimp only
      rw [no]; rfl
/-- the mutable arguments at the end -/
def finO : List Nat → Env → (List S → Prop) → Prop
  | [], _, Q => Q []
  | i :: is, E, Q => match E[i]? with
    | some (.ol xs) => finO is E fun outs => Q (.ol xs :: outs)
    | some (.dt xs) => finO is E fun outs => Q (.dt xs :: outs)
    | some (.dk xs) => finO is E fun outs => Q (.dk xs :: outs)
    | _ => False
theorem finO_rel {K : PySem.W.Frag} {G : Gh} {H : Hp} {E : Env} {σ : St} (r : RelE K G H E σ) : ∀ {slots : List Nat} {as : List Addr} {Q : List S → Prop}, slots.length = as.length → (∀ p ∈ slots.zip as, p ∈ G.own) → finO slots E Q → ∃ outs, Q outs ∧ Paired (RelM K H) outs as
  | [], [], Q, _, _, h => ⟨[], h, .nil⟩
  | i :: is, a :: as, Q, hl, hs, h => by
    have key : ∀ s : S, E[i]? = some s → s.isMut = true → finO is E (fun outs => Q (s :: outs)) → ∃ outs, Q outs ∧ Paired (RelM K H) outs (a :: as) := fun s he hm h => by
      have hp := r.pin i a (hs (i, a) (by simp))
      obtain ⟨b, e1, e2⟩ := r.mutAt he hm
      rw [hp] at e1
      have : a = b := by injection e1 with z; injection z with z; injection z
      subst this
      obtain ⟨outs, q, p⟩ := finO_rel r (slots := is) (as := as) (by simpa using hl) (fun p hp => hs p (by rw [List.zip_cons_cons]; exact List.mem_cons_of_mem _ hp)) h
      exact ⟨_, q, .cons e2 p⟩
    unfold finO at h
    split at h
    · rename_i xs he; exact key _ he rfl h
    · rename_i xs he; exact key _ he rfl h
    · rename_i xs he; exact key _ he rfl h
    · exact h.elim
  | [], _ :: _, _, hl, _, _ => by simp at hl
  | _ :: _, [], _, hl, _, _ => by simp at hl
/-- THE RULE for a def -/
theorem fn_okD {P : Program} {w : World} {K : PySem.W.Frag} {mg : Str → Option Value} {base : Heap} {x qual : Str} {st : Stmt} {f : Addr} {fd : FuncData} {N ps : List Str} {k : Nat} {sp : SpD} {slots : List Nat} {tb : TSd}
    (F : Fun K x qual st f fd) (Sc : FnScope N ps (defScope st)) (shape : ∀ ss QD, sp ss QD → ss.length = ps.length ∧ mpos 0 ss = slots)
    (body : ∀ (cdv : Value) (A : Around) (outer : List PySem.Env) (s : Shared) (H : Hp) (E : XK), Room k (A.deeper (envOfC qual (defScope st) s.heap.objs.size f cdv)) → ∀ G : Gh, G.slots = slots →
      SDs (cxOf CX0 P w K mg base N qual (defScope st) f cdv A outer s H E).nox G (defBody st) tb)
    (read : ∀ ss QD, sp ss QD → tb { nx := fun E' => finO slots E' (QD .none), rt := fun d E' => finO slots E' (QD d) } (ss ++ List.replicate (N.length - ps.length) .un)) :
    FnOk P w K mg base CX0 (k + 1) f fd ps (spL K sp) := by
  refine F.ok Sc (fun vs H Q E h => ?_) (fun cdv A outer s H vs Q E hr h => ?_)
  · obtain ⟨ss, as, QD, h1, h2, _⟩ := h
    rw [← h2.length]; exact (shape ss QD h1).1
  · obtain ⟨ss, as, QD, h1, h2, nd, h4⟩ := h
    obtain ⟨hl, hm⟩ := shape ss QD h1
    have ml := h2.mlen 0
    have hG : (⟨H, (mpos 0 ss).zip as, fun _ => none⟩ : Gh).slots = slots := by show ((mpos 0 ss).zip as).map (·.1) = slots; rw [zip_fst ml, hm]
    have hA : (⟨H, (mpos 0 ss).zip as, fun _ => none⟩ : Gh).addrs = as := by show ((mpos 0 ss).zip as).map (·.2) = as; rw [zip_snd ml]
    refine ⟨_, (body cdv A outer s H E hr ⟨H, (mpos 0 ss).zip as, fun _ => none⟩ hG).pss, ?_⟩
    have hst : L2.start N vs = vs.map some ++ List.replicate (N.length - ps.length) none := by unfold L2.start; rw [← h2.length, hl]
    refine ⟨ss ++ List.replicate (N.length - ps.length) .un, { nx := fun E' => finO slots E' (QD .none), rt := fun d E' => finO slots E' (QD d) }, by rw [hst]; exact h2.start nd, read ss QD h1, fun E' σ' H' q x r => ?_, fun d E' v σ' H' q x r p => ?_, fun _ _ _ q => False.elim q, fun _ _ _ q => False.elim q⟩
    · obtain ⟨outs, q1, p1⟩ := finO_rel r (as := as) (by rw [← hm]; exact ml) (by rw [← hm]; exact fun p hp => hp) q
      exact h4 .none outs .non H' q1 (fun p o e ne => r.keep p o e (by rw [hA]; exact ne)) p1 .non
    · obtain ⟨outs, q1, p1⟩ := finO_rel r (as := as) (by rw [← hm]; exact ml) (by rw [← hm]; exact fun p hp => hp) q
      exact h4 d outs v H' q1 (fun p o e ne => r.keep p o e (by rw [hA]; exact ne)) p1 p
/-! ### a call of a def -/
def oixs : List Arg → List Nat
  | [] => []
  | .v _ :: as => oixs as
  | .o i :: as => i :: oixs as
def argS (E : Env) : List Arg → Option (List S)
  | [] => some []
  | .v x :: as => (argS E as).map (.d x :: ·)
  | .o i :: as => match E[i]? with
    | some (.ol xs) => (argS E as).map (.ol xs :: ·)
    | some (.dt xs) => (argS E as).map (.dt xs :: ·)
    | some (.dk xs) => (argS E as).map (.dk xs :: ·)
    | _ => none
def putO : List Arg → List S → Env → Env
  | .v _ :: as, outs, E => putO as outs E
  | .o i :: as, s :: outs, E => putO as outs (E.set i s)
  | _, _, E => E
def ndp : List Nat → Bool
  | [] => true
  | i :: is => !is.contains i && ndp is
def tCallD (sp : SpD) (ta : TAd) : TD := fun E Q => ta E fun as E1 => match argS E1 as with
  | some ss => ndp (oixs as) = true ∧ sp ss fun r outs => Q r (putO as outs E1)
  | none => False
section
variable {K : PySem.W.Frag} {G : Gh} {H H' : Hp} {E : Env} {σ : St}
abbrev MutAt (σ : St) (E : Env) : Nat → Addr → Prop := fun i a => σ[i]? = some (some (.ref a)) ∧ ∃ s : S, E[i]? = some s ∧ s.isMut = true
theorem RelA.args (r : RelE K G H E σ) : ∀ {as : List Arg} {ss : List S} {vs : List V}, RelA K H σ as vs → argS E as = some ss → ∃ addrs, AR K H ss vs addrs ∧ Paired (MutAt σ E) (oixs as) addrs
  | _, _, _, .nil, e => by cases e; exact ⟨[], .nil, .nil⟩
  | _, _, _, .v (as := as) p t, e => by
    unfold argS at e
    cases q : argS E as with
    | none => rw [q] at e; cases e
    | some ss' =>
      rw [q] at e; cases e
      obtain ⟨ad, a1, a2⟩ := RelA.args r t q
      exact ⟨ad, .d p a1, a2⟩
  | _, ss, _, .o (i := i) (v := v0) (as := as) (vs := vs0) hs t, e => by
    have key : ∀ s : S, E[i]? = some s → s.isMut = true → (argS E as).map (s :: ·) = some ss → ∃ addrs, AR K H ss (v0 :: vs0) addrs ∧ Paired (MutAt σ E) (oixs (.o i :: as)) addrs := fun s he hm e => by
      cases q : argS E as with
      | none => rw [q] at e; cases e
      | some ss' =>
        rw [q] at e; cases e
        obtain ⟨ad, a1, a2⟩ := RelA.args r t q
        obtain ⟨a, e1, e2⟩ := r.mutAt he hm
        rw [hs] at e1; cases e1
        exact ⟨a :: ad, .o hm e2 a1, .cons ⟨hs, s, he, hm⟩ a2⟩
    unfold argS at e
    split at e
    · rename_i xs he; exact key _ he rfl e
    · rename_i xs he; exact key _ he rfl e
    · rename_i xs he; exact key _ he rfl e
    · cases e
theorem Paired.mem2 {α β : Type} {F : α → β → Prop} : ∀ {xs : List α} {ys : List β} {y : β}, Paired F xs ys → y ∈ ys → ∃ x ∈ xs, F x y
  | _, _, _, .cons r t, h => by
    rcases List.mem_cons.mp h with rfl | z
    · exact ⟨_, List.mem_cons_self .., r⟩
    · obtain ⟨x, hx, f⟩ := Paired.mem2 t z; exact ⟨x, List.mem_cons_of_mem _ hx, f⟩
  | _, _, _, .nil, h => by cases h
theorem addrs_nodup (r : RelE K G H E σ) : ∀ {is : List Nat} {ad : List Addr}, ndp is = true → Paired (MutAt σ E) is ad → ad.Nodup
  | [], [], _, _ => List.nodup_nil
  | i :: is, a :: ad, h, .cons p t => by
    unfold ndp at h
    simp only [Bool.and_eq_true, Bool.not_eq_true'] at h
    refine List.nodup_cons.mpr ⟨fun z => ?_, addrs_nodup r h.2 t⟩
    obtain ⟨j, hj, e1, s2, e2, m2⟩ := Paired.mem2 t z
    obtain ⟨l, k, pn, dm, x0, A, h1, h2, h3⟩ := r
    obtain ⟨p1, s1, p2, m1⟩ := p
    obtain ⟨b, f1, f2, _⟩ := (h3 i _ p2).mut m1
    obtain ⟨c, g1, g2, _⟩ := (h3 j _ e2).mut m2
    rw [p1] at f2; cases f2
    rw [e1] at g2; cases g2
    have : i = j := h1 i j a (by rw [f1]; simp) (by rw [g1]; simp)
    subst this
    have := h.1
    simp at this
    exact this hj
/-- what is soft is no tuple, nothing frozen -/
theorem Ext.ofSoft {ad : List Addr} (keep : ∀ p o, H p = some o → p ∉ ad → H' p = some o) (soft : ∀ a ∈ ad, Soft H a) : Ext H H' :=
  ⟨fun a xs e => keep a _ e fun z => (by
      obtain ⟨u, f, g1, g2⟩ := soft a z
      rw [e] at f
      injection f with f
      exact g1 xs f.symm), fun a o v e => keep a _ e fun z => (by
      obtain ⟨u, f, g1, g2⟩ := soft a z
      rw [e] at f
      injection f with f
      exact g2 o v f.symm)⟩
/-- behind a call: the mutable arguments have changed -/
theorem RelX.puts : ∀ {as : List Arg} {outs : List S} {ad : List Addr} {E : Env}, ndp (oixs as) = true → RelE K G H E σ → (∀ p o, H p = some o → p ∉ ad → H' p = some o) → (∀ a ∈ ad, Soft H a) → Paired (RelM K H') outs ad →
    Paired (MutAt σ E) (oixs as) ad → RelE K G H' (putO as outs E) σ := by
  -- all at once: the environment with new contents
  intro as outs ad E nd r keep islst pr po
  have adn := addrs_nodup r nd po
  have ext : Ext H H' := Ext.ofSoft keep islst
  obtain ⟨l, k, pn, dm, x0, A, h1, h2, h3⟩ := r
  have own : ∀ a ∈ ad, a ∈ G.addrs ∨ G.H0 a = none := fun a ha => by
    obtain ⟨i, hi, e1, s, e2, m⟩ := Paired.mem2 po ha
    obtain ⟨b, f1, f2, _⟩ := (h3 i _ e2).mut m
    rw [e1] at f2; cases f2
    exact (h2 i a (by rw [f1]; simp)).1
  have there : ∀ (ad : List Addr) (outs : List S), Paired (RelM K H') outs ad → ∀ a ∈ ad, Soft H' a := by
    intro ad outs p
    induction p with
    | nil => intro a h; cases h
    | cons q t ih =>
      intro a h
      rcases List.mem_cons.mp h with rfl | z
      · exact q.soft
      · exact ih a z
  -- the slots that are not put keep their relation, those that are put have the new one
  have step : ∀ (as : List Arg) (outs : List S) (ad : List Addr) (E1 : Env), ndp (oixs as) = true → Paired (RelM K H') outs ad → Paired (MutAt σ E) (oixs as) ad →
      (∀ i, i ∉ oixs as → ∀ s, E1[i]? = some s → RelS K H' s σ[i]? (A i)) → E1.length = E.length →
      (∀ i s, (putO as outs E1)[i]? = some s → RelS K H' s σ[i]? (A i)) ∧ (putO as outs E1).length = E.length := by
    intro as
    induction as with
    | nil =>
      intro outs ad E1 _ _ _ h hl
      have e : DL.putO [] outs E1 = E1 := by cases outs <;> rfl
      rw [e]; exact ⟨fun i s q => h i (by simp [oixs]) s q, hl⟩
    | cons x as ih =>
      intro outs ad E1 nd p q h hl
      cases x with
      | v x =>
        have e : DL.putO (.v x :: as) outs E1 = DL.putO as outs E1 := by cases outs <;> rfl
        rw [e]
        exact ih outs ad E1 nd p q h hl
      | o i =>
        cases q with
        | cons q1 q2 =>
          rename_i a0 ad0
          cases p with
          | cons p1 p2 =>
            rename_i s0 outs0
            have nd' : ndp (i :: oixs as) = true := nd
            unfold ndp at nd'
            simp only [Bool.and_eq_true, Bool.not_eq_true'] at nd'
            have e : DL.putO (.o i :: as) (s0 :: outs0) E1 = DL.putO as outs0 (E1.set i s0) := rfl
            rw [e]
            refine ih outs0 ad0 (E1.set i s0) nd'.2 p2 q2 (fun j hj s e => ?_) (by rw [List.length_set]; exact hl)
            by_cases z : j = i
            · subst z
              by_cases hlj : j < E1.length
              · rw [List.getElem?_set_self hlj] at e
                cases e
                obtain ⟨q3, ys, q4, q5⟩ := q1
                obtain ⟨b, f1, f2, _⟩ := (h3 j _ q4).mut q5
                rw [q3] at f2; cases f2
                rw [f1]
                exact RelS.ofMut p1.isMut q3 p1
              · rw [List.getElem?_eq_none (by simpa using hlj)] at e; cases e
            · rw [List.getElem?_set_ne (Ne.symm z)] at e
              exact h j (by simp [oixs, z, hj]) s e
  have base : ∀ i, i ∉ oixs as → ∀ s, E[i]? = some s → RelS K H' s σ[i]? (A i) := fun i hi s e => by
    have hs := h3 i s e
    refine hs.move ext fun a ha => ?_
    have : a ∉ ad := fun z => by
      obtain ⟨j, hj, e1, s2, e2, m2⟩ := Paired.mem2 po z
      obtain ⟨b, f1, f2, _⟩ := (h3 j _ e2).mut m2
      rw [e1] at f2; cases f2
      have : i = j := h1 i j a ha (by rw [f1]; simp)
      subst this; exact hi hj
    obtain ⟨u, hu, _⟩ := hs.indom a ha
    rw [hu]; exact keep a u hu this
  obtain ⟨s1, s2⟩ := step as outs ad E nd pr po base rfl
  refine ⟨by rw [s2]; exact l, fun p o e ne => ?_, pn, fun a ha => ?_, x0.trans ext, A, h1, h2, s1⟩
  · refine keep p o (k p o e ne) fun z => ?_
    rcases own p z with q | q
    · exact ne q
    · rw [q] at e; cases e
  · by_cases z : a ∈ ad
    · obtain ⟨u, e, _⟩ := there ad outs pr a z; rw [e]; simp
    · cases q : H a with
      | none => exact absurd q (dm a ha)
      | some o => rw [keep a o q z]; simp
theorem Paired.keys {α β : Type} {F : α → β → Prop} : ∀ {xs : List α} {ys : List β}, Paired F xs ys → ∀ y ∈ ys, ∃ x, F x y
  | _, _, .cons r t, y, h => by
    rcases List.mem_cons.mp h with rfl | z
    · exact ⟨_, r⟩
    · exact Paired.keys t y z
  | _, _, .nil, _, h => by cases h
end
section
variable {X : Cx} {G : Gh} {e : Expr} {es : List Expr} {pos p : Pos} {x : Str} {f : Addr} {fd : FuncData} {ps : List Str} {k : Nat} {sp : SpD} {ta : TAd} {CX : CXT}
theorem lift_call (σ : St) (H : Hp) (Q : VK) (E : XK) (h : liftE X.K G (tCallD sp ta) σ H Q) : tCall (spL X.K sp) [] E (liftA X.K G ta) σ H Q := by
  obtain ⟨E0, QE, r, q, kk⟩ := h
  refine ⟨E0, _, r, q, fun as E1 vs H1 q1 x1 r1 p1 => ?_⟩
  show spL X.K sp (vs ++ []) H1 Q E
  rw [List.append_nil]
  split at q1
  · rename_i ss hs
    obtain ⟨nd, q1⟩ := q1
    obtain ⟨ad, ar, po⟩ := RelA.args r1 p1 hs
    have adn := addrs_nodup r1 nd po
    refine ⟨ss, ad, _, q1, ar, adn, fun d outs v H' q2 keep pr pd => ?_⟩
    have islst : ∀ a ∈ ad, Soft H1 a := fun a ha => by
      obtain ⟨i, hi, e1, s, e2, m⟩ := Paired.mem2 po ha
      obtain ⟨b, f1, f2⟩ := r1.mutAt e2 m
      rw [e1] at f1; cases f1; exact f2.soft
    have ext : Ext H1 H' := Ext.ofSoft keep islst
    exact kk d _ v H' q2 (x1.trans ext) (RelX.puts nd r1 keep islst pr po) pd
  · exact q1.elim
theorem ed_call (F : FnOk X.prog X.w X.K X.mg X.base CX0 k f fd ps (spL X.K sp)) (hr : Room k X.A) (hg : Gl X x) (hm : X.mg x = some (.ref f)) (hk : PySem.W.keepIn X.K (.ref f) = true) (hb : Binds X.K fd ps []) (ha : EA X G (e :: es) ta) (hdb : (x == ("__debug__" : Str)) = false := by decide)
    (hs : starEach (e :: es) X.env = (false, eval e X.env) :: starEach es X.env := by rfl) (hplain : (backTo pos (starEach es X.env)).any (·.1) = false := by rfl) : ED X G (.Call (.Name x p) (e :: es) [] pos) (tCallD sp ta) :=
  ⟨PE.weak (pe_call (dvs := []) (E := fun _ _ _ => False) F hr hg hm hk hb .nil pass0 ha.pa (hdb := hdb) (he := hs) (hpl := hplain)) fun σ H Q h => lift_call σ H Q _ h⟩
end
end DL
set_option Elab.async false
set_option linter.all false
set_option maxRecDepth 100000
namespace DL
open PySem PySem.Spec PyProof.Rows L2
/-! ### lists of one's own change -/
section
variable {X : Cx} {G : Gh} {a b c e : Expr} {es : List Expr} {pos apos cpos p0 : Pos} {x : Str}
def tApp (i : Nat) (t : TD) : TD := fun E Q => match E[i]? with
  | some (.ol _) => t E fun d E1 => match E1[i]? with
    | some (.ol xs) => xs.length < sizeLine ∧ Q .none (E1.set i (.ol (xs ++ [d])))
    | _ => False
  | _ => False
theorem ed_app (i : Nat) {t : TD} (h : ED X G e t) (hN : X.N[i]? = some x := by rfl) (hv : Vis X.env.scope x := by first | exact Or.inl rfl | exact Or.inr (Or.inl rfl) | exact Or.inr (Or.inr rfl)) (hd : (x == ("__debug__" : Str)) = false := by decide)
    (hcd : (x == ("__classdict__" : Str)) = false := by decide)
    (hbase : attributeBase (.Name x p0) "append" X.env (eval (.Name x p0) X.env) = eval (.Name x p0) X.env := by rfl)
    (hfew : ((backTo cpos (starEach [e] X.env)).all (fun x => !x.1) && (backToKw cpos (keywordEach [] X.env)).all (fun x => x.1.isSome)
      && decide (([e] : List Expr).length + ([] : List Keyword).length + (if ([] : List Keyword).isEmpty then 0 else 1) < 30)) = true := by rfl)
    (hline : (apos.endLine == cpos.line) = true := by rfl) (hs : starEach [e] X.env = (false, eval e X.env) :: starEach [] X.env := by rfl) (hplain : (backTo cpos (starEach [] X.env)).any (·.1) = false := by rfl) :
    ED X G (.Call (.Attribute (.Name x p0) "append" apos) [e] [] cpos) (tApp i t) :=
  ⟨PE.weak (pe_bm PySem.F.plainAttrs_list PySem.F.slot_list_append PySem.F.type_list_append mt_append (pe_var hN hv hd hcd) (pa_cons h.pe pa_nil hs) hbase hfew hline hs hplain) fun σ H Q ⟨E, QE, r, q, k⟩ => by
    unfold tApp at q
    split at q
    · rename_i xs0 he0
      obtain ⟨l, vs0, e1, e2, e3⟩ := r.ol he0
      refine ⟨_, e1, .inl ⟨rfl, _, SqL.of e2⟩, E, _, r, q, fun d E1 v H1 q1 x1 r1 p1 => ?_⟩
      split at q1
      · rename_i xs he
        obtain ⟨l', vs, f1, f2, f3⟩ := r1.ol he
        rw [e1] at f1; cases f1
        refine ⟨l, vs, v, rfl, rfl, f2, by rw [← f3.length]; exact q1.1, ?_⟩
        exact k _ _ _ _ q1.2 (x1.trans (Ext.put f2)) (r1.putL he e1 (RpL.append f3 (.cons p1 .nil))) .non
      · exact q1.elim
    · exact q.elim⟩
def tExtd (i : Nat) (t : TLd) : TD := fun E Q => match E[i]? with
  | some (.ol _) => t E fun ys E1 => match E1[i]? with
    | some (.ol xs) => xs.length + ys.length ≤ sizeLine ∧ Q .none (E1.set i (.ol (xs ++ ys)))
    | _ => False
  | _ => False
theorem ed_extd (i : Nat) {t : TLd} (h : EL X G e t) (hN : X.N[i]? = some x := by rfl) (hv : Vis X.env.scope x := by first | exact Or.inl rfl | exact Or.inr (Or.inl rfl) | exact Or.inr (Or.inr rfl)) (hd : (x == ("__debug__" : Str)) = false := by decide)
    (hcd : (x == ("__classdict__" : Str)) = false := by decide)
    (hbase : attributeBase (.Name x p0) "extend" X.env (eval (.Name x p0) X.env) = eval (.Name x p0) X.env := by rfl)
    (hfew : ((backTo cpos (starEach [e] X.env)).all (fun x => !x.1) && (backToKw cpos (keywordEach [] X.env)).all (fun x => x.1.isSome)
      && decide (([e] : List Expr).length + ([] : List Keyword).length + (if ([] : List Keyword).isEmpty then 0 else 1) < 30)) = true := by rfl)
    (hline : (apos.endLine == cpos.line) = true := by rfl) (hs : starEach [e] X.env = (false, eval e X.env) :: starEach [] X.env := by rfl) (hplain : (backTo cpos (starEach [] X.env)).any (·.1) = false := by rfl) :
    ED X G (.Call (.Attribute (.Name x p0) "extend" apos) [e] [] cpos) (tExtd i t) :=
  ⟨PE.weak (pe_bm PySem.F.plainAttrs_list PySem.F.slot_list_extend PySem.F.type_list_extend mt_extend (pe_var hN hv hd hcd) (pa_cons h.pe pa_nil hs) hbase hfew hline hs hplain) fun σ H Q ⟨E, QE, r, q, k⟩ => by
    unfold tExtd at q
    split at q
    · rename_i xs0 he0
      obtain ⟨l, vs0, e1, e2, e3⟩ := r.ol he0
      refine ⟨_, e1, .inl ⟨rfl, _, SqL.of e2⟩, E, _, r, q, fun ys E1 b us H1 q1 x1 r1 h0 na hb p1 => ?_⟩
      split at q1
      · rename_i xs he
        obtain ⟨l', vs, f1, f2, f3⟩ := r1.ol he
        rw [e1] at f1; cases f1
        refine ⟨l, b, vs, us, rfl, rfl, f2, hb, by rw [← f3.length, ← p1.length]; exact q1.1, ?_⟩
        exact k _ _ _ _ q1.2 (x1.trans (Ext.put f2)) (r1.weak.putL he e1 (RpL.append f3 p1)) .non
      · exact q1.elim
    · exact q.elim⟩
def tPopAt (i : Nat) (t : TD) : TD := fun E Q => match E[i]? with
  | some (.ol _) => t E fun d E1 => match d, E1[i]? with
    | .int k, some (.ol xs) => (0 ≤ k ∧ k < xs.length ∧ k < 2 ^ 63) ∧ ∀ y, xs[k.toNat]? = some y → Q y (E1.set i (.ol (xs.eraseIdx k.toNat)))
    | _, _ => False
  | _ => False
theorem seqIndex_nat {k : Int} {n : Nat} (h0 : 0 ≤ k) (h1 : k < n) : seqIndex? k n = some k.toNat := by
  have := (ixN_seq (n := n) (i := k) (j := k.toNat) (by unfold ixN; rw [if_pos h0, if_pos h1])).1
  exact this
theorem ed_popAt (i : Nat) {t : TD} (h : ED X G e t) (hN : X.N[i]? = some x := by rfl) (hv : Vis X.env.scope x := by first | exact Or.inl rfl | exact Or.inr (Or.inl rfl) | exact Or.inr (Or.inr rfl)) (hd : (x == ("__debug__" : Str)) = false := by decide)
    (hcd : (x == ("__classdict__" : Str)) = false := by decide)
    (hbase : attributeBase (.Name x p0) "pop" X.env (eval (.Name x p0) X.env) = eval (.Name x p0) X.env := by rfl)
    (hfew : ((backTo cpos (starEach [e] X.env)).all (fun x => !x.1) && (backToKw cpos (keywordEach [] X.env)).all (fun x => x.1.isSome)
      && decide (([e] : List Expr).length + ([] : List Keyword).length + (if ([] : List Keyword).isEmpty then 0 else 1) < 30)) = true := by rfl)
    (hline : (apos.endLine == cpos.line) = true := by rfl) (hs : starEach [e] X.env = (false, eval e X.env) :: starEach [] X.env := by rfl) (hplain : (backTo cpos (starEach [] X.env)).any (·.1) = false := by rfl) :
    ED X G (.Call (.Attribute (.Name x p0) "pop" apos) [e] [] cpos) (tPopAt i t) :=
  ⟨PE.weak (pe_bm PySem.F.plainAttrs_list PySem.F.slot_list_pop PySem.F.type_list_pop mt_popAt (pe_var hN hv hd hcd) (pa_cons h.pe pa_nil hs) hbase hfew hline hs hplain) fun σ H Q ⟨E, QE, r, q, k⟩ => by
    unfold tPopAt at q
    split at q
    · rename_i xs0 he0
      obtain ⟨l, vs0, e1, e2, e3⟩ := r.ol he0
      refine ⟨_, e1, .inl ⟨rfl, _, SqL.of e2⟩, E, _, r, q, fun d E1 v H1 q1 x1 r1 p1 => ?_⟩
      split at q1
      · rename_i d0 o0 j xs he
        cases p1
        obtain ⟨l', vs, f1, f2, f3⟩ := r1.ol he
        rw [e1] at f1; cases f1
        obtain ⟨⟨z0, z1, z2⟩, q1⟩ := q1
        have zl : j.toNat < xs.length := by omega
        have ey : xs[j.toNat]? = some xs[j.toNat] := List.getElem?_eq_getElem zl
        obtain ⟨y, hy, py⟩ := f3.get ey
        refine ⟨l, vs, j, j.toNat, y, rfl, rfl, f2, by omega, z2, seqIndex_nat z0 (by rw [← f3.length]; exact z1), hy, ?_⟩
        exact k _ _ _ _ (q1 _ ey) (x1.trans (Ext.put f2)) (r1.putL he e1 (RpL.eraseIdx _ f3)) (py.ext (Ext.put f2))
      · exact q1.elim
    · exact q.elim⟩
/-- an item is put -/
def putD (xs : List D) (k : Int) (d : D) (Q : List D → Prop) : Prop := match ixN xs.length k with
  | some n => Q (xs.set n d)
  | none => False
/-- xs[k] = e -/
def sSetIx (i : Nat) (tk te : TD) : TSd := fun DE E => te E fun d E1 => match E1[i]? with
  | some (.ol _) => tk E1 fun j E2 => match j, E2[i]? with
    | .int k, some (.ol xs) => putD xs k d fun ys => DE.nx (E2.set i (.ol ys))
    | _, _ => False
  | _ => False
theorem sd_setIx (i : Nat) {ix : Expr} {tk te : TD} (hk : ED X G ix tk) (he : ED X G e te) (hN : X.N[i]? = some x := by rfl) (hv : Vis X.env.scope x := by first | exact Or.inl rfl | exact Or.inr (Or.inl rfl) | exact Or.inr (Or.inr rfl)) (hd : (x == ("__debug__" : Str)) = false := by decide)
    (hcd : (x == ("__classdict__" : Str)) = false := by decide)
    (ha : ∀ v, assign (.Subscript (.Name x p0) ix apos) X.env v = (do
      let ov ← holding [v] (eval (.Name x p0) X.env)
      let iv ← holding [v, ov] (eval ix X.env)
      standAt apos
      holding [v, ov, iv] (setItem ov iv v)
      release [v, ov, iv] []) := by intro _; rfl)
    (hs : swapsWithSole [.Subscript (.Name x p0) ix apos] e pos.line X.env = pure false := by rfl) (hw : swappedStores [.Subscript (.Name x p0) ix apos] e X.env = pure none := by rfl)
    (hb : (assignEach [.Subscript (.Name x p0) ix apos] X.env).map (·.2) = [assign (.Subscript (.Name x p0) ix apos) X.env] := by rfl) :
    SD X G (.Assign [.Subscript (.Name x p0) ix apos] e pos) (sSetIx i tk te) :=
  ⟨PS.weak (ps_asg he.pe (pg_sub (pe_var hN hv hd hcd) hk.pe set_list ha) hs hw hb) fun F σ H ⟨E, DE, r, q, k1, k2, k3, k4⟩ => ⟨E, _, r, q, fun d E1 v H1 q1 x1 r1 p1 => by
    split at q1
    · rename_i xs0 he0
      obtain ⟨l, vs0, e1, e2, e3⟩ := r1.ol he0
      refine ⟨_, e1, E1, _, r1, q1, fun j E2 u H2 q2 x2 r2 p2 => ?_⟩
      split at q2
      · rename_i d0 o0 k xs he
        cases p2
        unfold putD at q2
        split at q2
        · rename_i n hn
          obtain ⟨l', vs, f1, f2, f3⟩ := r2.ol he
          rw [e1] at f1; cases f1
          refine ⟨l, vs, k, n, rfl, rfl, f2, by rw [← f3.length]; exact hn, ?_⟩
          exact k1 _ _ _ q2 ((x1.trans x2).trans (Ext.put f2)) (r2.putL he e1 (RpL.set (p1.ext x2) n f3))
        · exact q2.elim
      · exact q2.elim
    · exact q1.elim⟩⟩
/-! ### several at once -/
abbrev TPs := Env → (List S → Env → Prop) → Prop
/-- new lists at ex, data -/
inductive PVs (K : PySem.W.Frag) (G : Gh) (H : Hp) : List S → List V → List Addr → Prop
  | nil : PVs K G H [] [] []
  | d {x : D} {v : V} {ss : List S} {vs : List V} {ex : List Addr} : Rp K H x v → PVs K G H ss vs ex → PVs K G H (.d x :: ss) (v :: vs) ex
  | m {s : S} {a : Addr} {ss : List S} {vs : List V} {ex : List Addr} : RelM K H s a → G.H0 a = none → a ∉ G.addrs → a ∉ ex → PVs K G H ss vs ex → PVs K G H (s :: ss) (.ref a :: vs) (a :: ex)
theorem PVs.length {K : PySem.W.Frag} {G : Gh} {H : Hp} : ∀ {ss : List S} {vs : List V} {ex : List Addr}, PVs K G H ss vs ex → ss.length = vs.length
  | _, _, _, .nil => rfl
  | _, _, _, .d _ r => by rw [List.length_cons, List.length_cons, PVs.length r]
  | _, _, _, .m _ _ _ _ r => by rw [List.length_cons, List.length_cons, PVs.length r]
theorem PVs.pext {K : PySem.W.Frag} {G : Gh} {H H' : Hp} (p : PExt H H') : ∀ {ss : List S} {vs : List V} {ex : List Addr}, PVs K G H ss vs ex → PVs K G H' ss vs ex
  | _, _, _, .nil => .nil
  | _, _, _, .d h r => .d (h.ext p.ext) (PVs.pext p r)
  | _, _, _, .m h1 h3 h4 h5 r => .m (h1.move p.ext (by obtain ⟨u, e, _⟩ := h1.soft; rw [e, p _ _ e])) h3 h4 h5 (PVs.pext p r)
theorem PVs.ofPend {K : PySem.W.Frag} {G : Gh} {H : Hp} {a : Addr} {o : HO} : ∀ {ss : List S} {vs : List V} {ex : List Addr}, PVs K (pend G a o) H ss vs ex → PVs K G H ss vs ex ∧ a ∉ ex
  | _, _, _, .nil => ⟨.nil, by simp⟩
  | _, _, _, .d h r => ⟨.d h (PVs.ofPend r).1, (PVs.ofPend r).2⟩
  | _, _, _, .m (a := b) h1 h3 h4 h5 r => by
    have z : b ≠ a := by
      rintro rfl
      have : upd G.H0 b o b = none := h3
      rw [upd_same] at this; cases this
    have h3' : G.H0 b = none := by
      have : upd G.H0 a o b = none := h3
      rw [upd_ne z] at this; exact this
    refine ⟨.m h1 h3' h4 h5 (PVs.ofPend r).1, fun q => ?_⟩
    rcases List.mem_cons.mp q with q | q
    · exact z q.symm
    · exact (PVs.ofPend r).2 q
def liftPs (K : PySem.W.Frag) (G : Gh) (t : TPs) : TA := fun σ H Q => ∃ (E : Env) (QE : List S → Env → Prop), RelE K G H E σ ∧ t E QE ∧ ∀ ss E' vs H' ex, QE ss E' → Ext H H' → RelX K G ex H' E' σ → PVs K G H' ss vs ex → Q vs H'
structure EPs (X : Cx) (G : Gh) (es : List Expr) (t : TPs) : Prop where
  pa : PA X es (liftPs X.K G t)
def pNil : TPs := fun E Q => Q [] E
def pD (t : TD) (u : TPs) : TPs := fun E Q => t E fun x E1 => u E1 fun ss E2 => Q (.d x :: ss) E2
def pL (t : TLd) (u : TPs) : TPs := fun E Q => t E fun xs E1 => u E1 fun ss E2 => Q (.ol xs :: ss) E2
theorem eps_nil : EPs X G [] pNil := ⟨PA.weak pa_nil fun σ H Q ⟨E, QE, r, q, k⟩ => k _ _ _ _ _ q (Ext.refl _) r .nil⟩
theorem eps_d {t : TD} {u : TPs} (h : ED X G e t) (hr : EPs X G es u) (hs : starEach (e :: es) X.env = (false, eval e X.env) :: starEach es X.env := by rfl) : EPs X G (e :: es) (pD t u) :=
  ⟨PA.weak (pa_cons h.pe hr.pa hs) fun σ H Q ⟨E, QE, r, q, k⟩ => ⟨E, _, r, q, fun x E1 v H1 q1 x1 r1 p1 => ⟨E1, _, r1, q1, fun ss E2 vs H2 ex q2 x2 r2 p2 => k _ _ _ _ _ q2 (x1.trans x2) r2 (.d (p1.ext x2) p2)⟩⟩⟩
theorem eps_l {t : TLd} {u : TPs} (h : EL X G e t) (hr : ∀ G' : Gh, G'.slots = G.slots → EPs X G' es u) (hs : starEach (e :: es) X.env = (false, eval e X.env) :: starEach es X.env := by rfl) : EPs X G (e :: es) (pL t u) := by
  have hp : PA X es (fun σ H Q => ∃ G' : Gh, G'.slots = G.slots ∧ liftPs X.K G' u σ H Q) := ⟨fun pos pins s σ H Q I ⟨G', hG', q⟩ => (hr G' hG').pa.run pos pins s σ H Q I q⟩
  refine ⟨PA.weak (pa_cons h.pe hp hs) fun σ H Q ⟨E, QE, r, q, k⟩ => ⟨E, _, r, q, fun xs E1 a us H1 q1 x1 r1 h0 na ha p1 => ?_⟩⟩
  refine ⟨pend G a (.lst us), rfl, E1, _, r1.toPend ha na, q1, fun ss E2 vs H2 ex q2 x2 r2 p2 => ?_⟩
  obtain ⟨r3, ha3⟩ := RelX.ofPend r2 h0 na
  obtain ⟨p3, nx⟩ := PVs.ofPend p2
  exact k _ _ _ _ (a :: ex) q2 (x1.trans x2) r3 (.m (s := .ol xs) ⟨_, ha3, p1.ext x2⟩ h0 na nx p3)
def setAll : Env → List Nat → List S → Env
  | E, i :: is, s :: ss => setAll (E.set i s) is ss
  | E, _, _ => E
def setAllV : St → List Nat → List V → St
  | σ, i :: is, v :: vs => setAllV (σ.set i (some v)) is vs
  | σ, _, _ => σ
theorem RelX.setAll {K : PySem.W.Frag} {G : Gh} {H : Hp} : ∀ {is : List Nat} {ss : List S} {vs : List V} {ex : List Addr} {E : Env} {σ : St}, (∀ i ∈ is, i ∉ G.slots) → is.length = ss.length → RelX K G ex H E σ → PVs K G H ss vs ex → RelE K G H (setAll E is ss) (setAllV σ is vs)
  | [], [], [], _, E, σ, _, _, r, .nil => r
  | i :: is, _, _, _, E, σ, hi, hl, r, .d p t => by
    exact RelX.setAll (is := is) (fun j hj => hi j (List.mem_cons_of_mem _ hj)) (by simpa using hl) (r.setD (hi i (List.mem_cons_self ..)) p) t
  | i :: is, _, _, _, E, σ, hi, hl, r, .m h1 h3 h4 h5 t => by
    exact RelX.setAll (is := is) (fun j hj => hi j (List.mem_cons_of_mem _ hj)) (by simpa using hl) (r.setM h5 (hi i (List.mem_cons_self ..)) h3 h1) t
  | [], _, _, _, _, _, _, hl, _, .d _ _ => by simp at hl
  | [], _, _, _, _, _, _, hl, _, .m _ _ _ _ _ => by simp at hl
  | _ :: _, _, _, _, _, _, _, hl, _, .nil => by simp at hl
def sPar (is : List Nat) (t : TPs) : TSd := fun DE E => t E fun ss E1 => is.length = ss.length ∧ DE.nx (setAll E1 is ss)
/-- x, y = a, b: plain local names -/
theorem sd_par2 {i j : Nat} {x y : Str} {t : TPs} {px py pt : Pos} {kt k2 pt2} (hsl : ∀ n ∈ [i, j], n ∉ G.slots) (hc : X.calm = true) (hN : X.N.Nodup) (hi : X.N[i]? = some x) (hj : X.N[j]? = some y) (hij : i ≠ j)
    (hx : X.env.scope.names.lookup x = some .local) (hy : X.env.scope.names.lookup y = some .local) (ha : EPs X G [a, b] t)
    (hw : swappedStores [.Tuple [.Name x px, .Name y py] kt pt] (.Tuple [a, b] k2 pt2) X.env = pure (some [x, y]) := by rfl)
    (hs : swapsWithSole [.Tuple [.Name x px, .Name y py] kt pt] (.Tuple [a, b] k2 pt2) pos.line X.env = pure false := by rfl) :
    SD X G (.Assign [.Tuple [.Name x px, .Name y py] kt pt] (.Tuple [a, b] k2 pt2) pos) (sPar [i, j] t) :=
  ⟨PS.weak (ps_par hc hN hi hj hij hx hy ha.pa hw hs) fun F σ H ⟨E, DE, r, q, k1, k2, k3, k4⟩ => ⟨E, _, r, q, fun ss E1 vs H1 ex q1 x1 r1 p1 => by
    obtain ⟨hl, q1⟩ := q1
    have hv : vs.length = 2 := by rw [← p1.length, ← hl]; rfl
    match vs, hv, p1 with
    | [v, w], _, p1 => exact ⟨v, w, rfl, k1 _ _ _ q1 x1 (RelX.setAll hsl hl r1 p1)⟩⟩⟩
/-- the targets of names, any; the pair is made -/
theorem sd_parC {tgs : List Expr} {is : List Nat} {t : TPs} {kt k2 : Nat} {pt pt2 : Pos} {n : Nat} (hsl : ∀ i ∈ is, i ∉ G.slots) (hc : X.calm = true) (hz : is.length ≤ sizeLine) (ha : EPs X G es t) (hn : is.length = n)
    (hg : PGs X tgs (fun vs σ H Q => vs.length = n ∧ Q (setAllV σ is vs) H))
    (hn2 : (assignEach tgs X.env).length = n := by rfl) (hst : (assignEach tgs X.env).findIdx? (·.1) = none := by rfl)
    (hs : swapsWithSole [.Tuple tgs kt pt] (.Tuple es k2 pt2) pos.line X.env = pure false := by rfl) (hw : swappedStores [.Tuple tgs kt pt] (.Tuple es k2 pt2) X.env = pure none := by rfl)
    (hb : (assignEach [.Tuple tgs kt pt] X.env).map (·.2) = [assign (.Tuple tgs kt pt) X.env] := by rfl) :
    SD X G (.Assign [.Tuple tgs kt pt] (.Tuple es k2 pt2) pos) (sPar is t) :=
  ⟨PS.weak (ps_asg (pe_tup ha.pa) (pg_tup hc hg hn2 hst) hs hw hb) fun F σ H ⟨E, DE, r, q, k1, k2, k3, k4⟩ => ⟨E, _, r, q, fun ss E1 vs H1 ex q1 x1 r1 p1 => by
    obtain ⟨hl, q1⟩ := q1
    have hv : vs.length = n := by rw [← p1.length, ← hl, hn]
    refine ⟨by rw [hv, ← hn]; exact hz, fun p hp => ⟨p, vs, rfl, SqT.of upd_same, hv, hv, ?_⟩⟩
    have px := PExt.new (o := .tup vs) hp
    exact k1 _ _ _ q1 (x1.trans px.ext) (RelX.setAll hsl hl (r1.pext px) (p1.pext px))⟩⟩
theorem pgs_n0 : PGs X [] (fun vs σ H Q => vs.length = 0 ∧ Q (setAllV σ [] vs) H) := ⟨fun pins s σ H vs us Q I r h => pgs_nil.run pins s σ H vs us Q I r (by
  obtain ⟨h1, h2⟩ := h
  have : vs = [] := List.length_eq_zero_iff.mp h1
  subst this; exact ⟨rfl, h2⟩)⟩
theorem pgs_nS {i n : Nat} {is : List Nat} {tgs : List Expr} {x : Str} {px : Pos} (hN : X.N.Nodup) (hx : X.N[i]? = some x) (hl : Loc X.env.scope x) (h : PGs X tgs (fun vs σ H Q => vs.length = n ∧ Q (setAllV σ is vs) H))
    (hf : X.fn x = true ∨ X.env.scope.names.lookup x = some .local := by first | exact .inl rfl | exact .inr rfl | assumption)
    (hs : (assignEach (.Name x px :: tgs) X.env).map (·.2) = assign (.Name x px) X.env :: (assignEach tgs X.env).map (·.2) := by rfl) :
    PGs X (.Name x px :: tgs) (fun vs σ H Q => vs.length = n + 1 ∧ Q (setAllV σ (i :: is) vs) H) := ⟨fun pins s σ H vs us Q I r h' => (pgs_cons (pg_name hN hx hl hf) h hs).run pins s σ H vs us Q I r (by
  obtain ⟨h1, h2⟩ := h'
  match vs, h1, h2 with
  | v :: vs, h1, h2 => exact ⟨v, vs, rfl, by simpa using h1, h2⟩)⟩
end
end DL
set_option Elab.async false
set_option linter.all false
set_option maxRecDepth 100000
set_option maxHeartbeats 1000000
namespace DL
open PySem PySem.Spec PyProof.Rows L2
section
variable {X : Cx}
/-! ### arithmetic -/
/-- () + t is t -/
theorem op_catT0 : OpR X (binaryOp .Add) (fun x y H Q => ∃ a b ys, x = .ref a ∧ y = .ref b ∧ SqT X.K H a [] ∧ SqT X.K H b ys ∧ Q (.ref b) H) := by
  intro pins s σ H x y v u Q I rx ry h
  obtain ⟨a, b, ys, rfl, rfl, ha, hb, q⟩ := h
  cases rx
  cases ry
  obtain ⟨its, r1, p1, _⟩ := I.tuple ha
  obtain ⟨its2, r2, p2, _⟩ := I.tuple hb
  have e0 : its = [] := r1.nil_iff.mpr rfl
  subst e0
  obtain ⟨⟨cls, dd, data, sl⟩, ho, hc, n, hd⟩ := id p1
  obtain ⟨⟨cls2, dd2, data2, sl2⟩, ho2, hc2, n2, hd2⟩ := id p2
  simp only at hc hd hc2 hd2
  subst hc hd hc2 hd2
  exact concat_meets ⟨_, ho, rfl⟩ ⟨_, ho2, rfl⟩ noFill_tuple_add seq_tuple_add PySem.F.slot_tuple_add PySem.F.entry_tuple_add (PySem.F.args_tuple_add_2 _ _)
      (tuple_addW0 a b [].toArray its2.toArray n n2 dd dd2 sl sl2 rfl) ⟨ho, ho2, ⟨.ref b, H, I, rfl, q⟩⟩
/-- t + u, both with items: a new, plain tuple -/
theorem op_catF : OpR X (binaryOp .Add) (fun x y H Q => ∃ a b xs ys, x = .ref a ∧ y = .ref b ∧ SqT X.K H a xs ∧ SqT X.K H b ys ∧ xs ≠ [] ∧ xs.length + ys.length ≤ sizeLine ∧ (ys = [] → Q (.ref a) H) ∧ (ys ≠ [] → ∀ p o, H p = none → o.dict = none → Q (.ref p) (upd H p (.frz o (.tup (xs ++ ys)))))) := by
  intro pins s σ H x y v u Q I rx ry h
  obtain ⟨a, b, xs, ys, rfl, rfl, ha, hb, hx, hz, q1, q2⟩ := h
  cases rx; cases ry
  obtain ⟨its, r1, p1, _⟩ := I.tuple ha
  obtain ⟨its2, r2, p2, _⟩ := I.tuple hb
  refine HT.cat_tup p1 p2 (fun z => hx (r1.nil_iff.mp z)) (fun z => ⟨.ref a, H, I, rfl, q1 (r2.nil_iff.mp z)⟩) (fun z => ?_) (by rw [← r1.length, ← r2.length]; exact hz)
  refine ⟨.ref s.heap.objs.size, _, I.laid (t' := s.toks) (o := .frz _ (.tup (xs ++ ys))) (fun b ob q => Heap.get?_push_of_some _ q) (Nat.le_refl _) ⟨Heap.get?_push_size _ rfl, ?_⟩, rfl, q2 (fun w => z (r2.nil_iff.mpr w)) _ _ (I.hok.fresh (Nat.le_refl _)) rfl⟩
  exact ⟨by rw [List.length_append]; exact hz, _, r1.append r2, IsTup.new _ _⟩
/-- tuple(xs) of a list: a new, plain tuple -/
theorem call_tupF : CallR X (.type "tuple") (fun xs H Q => ∃ p ys, xs = [.ref p] ∧ ((SqL X.K H p ys ∧ ∀ l o, H l = none → o.dict = none → Q (.ref l) (upd H l (.frz o (.tup ys)))) ∨ (SqT X.K H p ys ∧ Q (.ref p) H))) := by
  intro pins s σ H xs us Q I r h
  obtain ⟨p, ys, rfl, h⟩ := h
  obtain rfl := Vals.ref1 r
  rcases h with ⟨hq, q⟩ | ⟨hq, q⟩
  · obtain ⟨its, r', pl, hz⟩ := I.list hq
    have hlen := r'.length
    refine call_tuple_list pl.isList (fun h' kp => ?_) (by simp only [List.size_toArray] <;> omega)
    have I1 : Inv X pins σ H { s with heap := h' } := I.kept (t' := s.toks) kp
    exact ⟨.ref h'.objs.size, upd H h'.objs.size (.frz { cls := .type "tuple", data := .seq its.toArray } (.tup ys)), I1.laid (t' := s.toks) (fun b o e => Heap.get?_push_of_some _ e) (Nat.le_refl _) ⟨Heap.get?_push_size _ rfl, hz, its, r', IsTup.new _ _⟩, rfl, q _ _ (I1.hok.fresh (Nat.le_refl _)) rfl⟩
  · obtain ⟨its, r', pl, hz⟩ := I.tuple hq
    exact call_tuple_same pl ⟨.ref p, H, I, rfl, q⟩
def opAdd : OpT := fun x y Q => match x, y with
  | .int i, .int j => Q (.int (i + j))
  | .str a, .str b => a.length + b.length ≤ sizeLine ∧ Q (.str (a ++ b))
  | .tuple xs, .tuple ys => xs.length + ys.length ≤ sizeLine ∧ Q (.tuple (xs ++ ys))
  | _, _ => False
theorem od_add : OpD X (binaryOp .Add) opAdd := by
  refine ⟨_, op_add.or (op_add_str.or (op_catF.or op_catT0)), fun x y v u H QD Q hx hy q k => ?_⟩
  cases x with
  | int i =>
    cases y with
    | int j => rw [hx.int, hy.int]; exact .inl ⟨i, j, rfl, rfl, k _ _ _ q (PExt.refl _) (.int _)⟩
    | _ => exact q.elim
  | str i =>
    cases y with
    | str j => rw [hx.str, hy.str]; exact .inr (.inl ⟨i, j, rfl, rfl, q.1, k _ _ _ q.2 (PExt.refl _) (.str _)⟩)
    | _ => exact q.elim
  | tuple xs =>
    cases y with
    | tuple ys =>
      obtain ⟨a, vs, rfl, sa, la⟩ := hx.tupD
      obtain ⟨b, us, rfl, sb, lb⟩ := hy.tupD
      cases la with
      | nil => exact .inr (.inr (.inr ⟨a, b, us, rfl, rfl, sa.1, sb.1, k _ _ _ q.2 (PExt.refl _) (.tup sb lb)⟩))
      | cons p la =>
        rename_i x0 v0 xs0 vs0
        refine .inr (.inr (.inl ⟨a, b, _, us, rfl, rfl, sa.1, sb.1, List.cons_ne_nil _ _, ?_, fun e => ?_, fun _ p0 o hp ho => ?_⟩))
        · have := q.1
          rw [List.length_cons] at this ⊢
          rw [← la.length, ← lb.length]; exact this
        · subst e
          cases lb
          have := q.2
          rw [List.append_nil] at this
          exact k _ _ _ this (PExt.refl _) (.tup sa (.cons p la))
        · have px := PExt.new (o := .frz o (.tup (v0 :: vs0 ++ us))) hp
          exact k _ _ _ q.2 px (.tup (.new ho) ((RpL.append (.cons p la) lb).ext px.ext))
    | _ => exact q.elim
  | _ => exact q.elim
def opI (C : Int → Int → Prop) (g : Int → Int → Int) : OpT := fun x y Q => match x, y with
  | .int i, .int j => C i j ∧ Q (.int (g i j))
  | _, _ => False
def opI0 (g : Int → Int → Int) : OpT := fun x y Q => match x, y with
  | .int i, .int j => Q (.int (g i j))
  | _, _ => False
def opB0 (g : Int → Int → Bool) : OpT := fun x y Q => match x, y with
  | .int i, .int j => Q (.bool (g i j))
  | _, _ => False
theorem od_I {f : Value → Value → Sem Value} {C : Int → Int → Prop} {g : Int → Int → Int} (h : OpR X f (rI C fun i j => .int (g i j))) : OpD X f (opI C g) := ⟨_, h, fun x y v u H QD Q hx hy q k => by
  cases x with
  | int i =>
    cases y with
    | int j => rw [hx.int, hy.int]; exact ⟨i, j, rfl, rfl, q.1, k _ _ _ q.2 (PExt.refl _) (.int _)⟩
    | _ => exact q.elim
  | _ => exact q.elim⟩
theorem od_I0 {f : Value → Value → Sem Value} {g : Int → Int → Int} (h : OpR X f (rI0 fun i j => .int (g i j))) : OpD X f (opI0 g) := ⟨_, h, fun x y v u H QD Q hx hy q k => by
  cases x with
  | int i =>
    cases y with
    | int j => rw [hx.int, hy.int]; exact ⟨i, j, rfl, rfl, k _ _ _ q (PExt.refl _) (.int _)⟩
    | _ => exact q.elim
  | _ => exact q.elim⟩
theorem od_B0 {f : Value → Value → Sem Value} {g : Int → Int → Bool} (h : OpR X f (rI0 fun i j => .bl (g i j))) : OpD X f (opB0 g) := ⟨_, h, fun x y v u H QD Q hx hy q k => by
  cases x with
  | int i =>
    cases y with
    | int j => rw [hx.int, hy.int]; exact ⟨i, j, rfl, rfl, k _ _ _ q (PExt.refl _) (.bl _)⟩
    | _ => exact q.elim
  | _ => exact q.elim⟩
def opSub : OpT := opI0 fun i j => i - j
theorem od_sub : OpD X (binaryOp .Sub) opSub := od_I0 op_sub
def opMul : OpT := opI CMulW fun i j => i * j
theorem od_mul : OpD X (binaryOp .Mult) opMul := od_I op_mulW
def opDiv : OpT := opI CDivW fun i j => i / j
theorem od_div : OpD X (binaryOp .FloorDiv) opDiv := od_I op_fdivW
def opMod : OpT := opI (fun _ j => 0 < j) fun i j => i % j
theorem od_mod : OpD X (binaryOp .Mod) opMod := od_I op_mod
def opPow : OpT := opI CPow fun i j => i ^ j.toNat
def unNeg : UnT := fun x Q => match x with
  | .int i => Q (.int (-i))
  | _ => False
/-! ### comparisons -/
def opEq : OpT := fun x y Q => (SeqAt.shaped x = true ∧ SeqAt.shaped y = true) ∧ Q (.bool (PyData.eqv x y))
def opNe : OpT := fun x y Q => (SeqAt.shaped x = true ∧ SeqAt.shaped y = true) ∧ Q (.bool (!PyData.eqv x y))
theorem od_eq (hu : X.A.units + 64 < cLine) : OpD X (compareOp .Eq) opEq := ⟨_, op_eqD hu, fun x y v u H QD Q hx hy q k => ⟨x, y, hx.dp (SeqAt.canLay_of_shaped q.1.1), hy.dp (SeqAt.canLay_of_shaped q.1.2), q.1.1, q.1.2, k _ _ _ q.2 (PExt.refl _) (.bl _)⟩⟩
theorem od_ne (hu : X.A.units + 64 < cLine) : OpD X (compareOp .NotEq) opNe := ⟨_, op_neD hu, fun x y v u H QD Q hx hy q k => ⟨x, y, hx.dp (SeqAt.canLay_of_shaped q.1.1), hy.dp (SeqAt.canLay_of_shaped q.1.2), q.1.1, q.1.2, k _ _ _ q.2 (PExt.refl _) (.bl _)⟩⟩
def opLt : OpT := opB0 fun i j => decide (i < j)
theorem od_lt : OpD X (compareOp .Lt) opLt := od_B0 op_lt
def opLe : OpT := opB0 fun i j => decide (i ≤ j)
def opGt : OpT := opB0 fun i j => decide (j < i)
theorem od_gt : OpD X (compareOp .Gt) opGt := od_B0 op_gt
def opGe : OpT := opB0 fun i j => decide (j ≤ i)
def isNone : D → Bool
  | .none => true
  | _ => false
def opIs : OpT := fun x y Q => match y with
  | .none => Q (.bool (isNone x))
  | .bool b => match x with
    | .bool a => Q (.bool (decide (a = b)))
    | _ => False
  | _ => False
def opIsN : OpT := fun x y Q => match y with
  | .none => Q (.bool (!isNone x))
  | .bool b => match x with
    | .bool a => Q (.bool (!decide (a = b)))
    | _ => False
  | _ => False
theorem isNone_iff {K : PySem.W.Frag} {H : Hp} {x : D} {v : V} (h : RpR K H x v) : isNone x = decide (v = .non) := by
  rcases h with h | ⟨ds, a, vs, rfl, rfl, _⟩
  · cases h <;> rfl
  · rfl
theorem od_is : OpD X (compareOp .Is) opIs := ⟨_, op_isN.or op_isBl, fun x y v u H QD Q hx hy q k => by
  cases y with
  | none => rw [hy.none]; exact .inl ⟨rfl, by rw [← isNone_iff hx]; exact k _ _ _ q (PExt.refl _) (.bl _)⟩
  | bool b =>
    cases x with
    | bool a => rw [hx.bool, hy.bool]; exact .inr ⟨a, b, rfl, rfl, k _ _ _ q (PExt.refl _) (.bl _)⟩
    | _ => exact q.elim
  | _ => exact q.elim⟩
theorem od_isN : OpD X (compareOp .IsNot) opIsN := ⟨_, op_notN.or op_notBl, fun x y v u H QD Q hx hy q k => by
  cases y with
  | none => rw [hy.none]; exact .inl ⟨rfl, by rw [← isNone_iff hx]; exact k _ _ _ q (PExt.refl _) (.bl _)⟩
  | bool b =>
    cases x with
    | bool a => rw [hx.bool, hy.bool]; exact .inr ⟨a, b, rfl, rfl, k _ _ _ q (PExt.refl _) (.bl _)⟩
    | _ => exact q.elim
  | _ => exact q.elim⟩
/-! x in a list, a tuple -/
theorem op_inT (hu : X.A.units + 65 < cLine) : OpR X (compareOp .In) (fun x y H Q => ∃ d ds, Dp X.K H x d ∧ Dp X.K H y (.tuple ds) ∧ SeqAt.shaped d = true ∧ SeqAt.shaped (.tuple ds) = true ∧ Q (.bl (ds.any fun z => PyData.eqv z d)) H) := by
  intro pins s σ H x y v u Q I rx ry h
  obtain ⟨d, ds, hd, he, sd, se, q⟩ := h
  obtain ⟨as, r1⟩ := Dp.reads I d x v hd rx
  obtain ⟨bs, r2⟩ := Dp.reads I (.tuple ds) y u he ry
  exact SeqAt.in_tuple_reads r2 r1 (SeqAt.canLay_of_shaped se) (SeqAt.canLay_of_shaped sd) (room_in_shaped sd hu) ⟨.bl _, H, I, rfl, q⟩
theorem op_notInT (hu : X.A.units + 65 < cLine) : OpR X (compareOp .NotIn) (fun x y H Q => ∃ d ds, Dp X.K H x d ∧ Dp X.K H y (.tuple ds) ∧ SeqAt.shaped d = true ∧ SeqAt.shaped (.tuple ds) = true ∧ Q (.bl (!ds.any fun z => PyData.eqv z d)) H) := by
  intro pins s σ H x y v u Q I rx ry h
  obtain ⟨d, ds, hd, he, sd, se, q⟩ := h
  obtain ⟨as, r1⟩ := Dp.reads I d x v hd rx
  obtain ⟨bs, r2⟩ := Dp.reads I (.tuple ds) y u he ry
  exact SeqAt.notIn_tuple_reads r2 r1 (SeqAt.canLay_of_shaped se) (SeqAt.canLay_of_shaped sd) (room_in_shaped sd hu) ⟨.bl _, H, I, rfl, q⟩
def opIn : OpT := fun x y Q => match y with
  | .list ds => (SeqAt.shaped x = true ∧ SeqAt.shaped (.list ds) = true) ∧ Q (.bool (ds.any fun z => PyData.eqv z x))
  | .tuple ds => (SeqAt.shaped x = true ∧ SeqAt.shaped (.tuple ds) = true) ∧ Q (.bool (ds.any fun z => PyData.eqv z x))
  | _ => False
def opNotIn : OpT := fun x y Q => match y with
  | .list ds => (SeqAt.shaped x = true ∧ SeqAt.shaped (.list ds) = true) ∧ Q (.bool (!ds.any fun z => PyData.eqv z x))
  | .tuple ds => (SeqAt.shaped x = true ∧ SeqAt.shaped (.tuple ds) = true) ∧ Q (.bool (!ds.any fun z => PyData.eqv z x))
  | _ => False
theorem od_in (hu : X.A.units + 65 < cLine) : OpD X (compareOp .In) opIn := ⟨_, (op_inD hu).or (op_inT hu), fun x y v u H QD Q hx hy q k => by
  cases y with
  | list ds => exact .inl ⟨x, ds, hx.dp (SeqAt.canLay_of_shaped q.1.1), hy.dp (SeqAt.canLay_of_shaped q.1.2), q.1.1, q.1.2, k _ _ _ q.2 (PExt.refl _) (.bl _)⟩
  | tuple ds => exact .inr ⟨x, ds, hx.dp (SeqAt.canLay_of_shaped q.1.1), hy.dp (SeqAt.canLay_of_shaped q.1.2), q.1.1, q.1.2, k _ _ _ q.2 (PExt.refl _) (.bl _)⟩
  | _ => exact q.elim⟩
theorem od_notIn (hu : X.A.units + 65 < cLine) : OpD X (compareOp .NotIn) opNotIn := ⟨_, (op_notInD hu).or (op_notInT hu), fun x y v u H QD Q hx hy q k => by
  cases y with
  | list ds => exact .inl ⟨x, ds, hx.dp (SeqAt.canLay_of_shaped q.1.1), hy.dp (SeqAt.canLay_of_shaped q.1.2), q.1.1, q.1.2, k _ _ _ q.2 (PExt.refl _) (.bl _)⟩
  | tuple ds => exact .inr ⟨x, ds, hx.dp (SeqAt.canLay_of_shaped q.1.1), hy.dp (SeqAt.canLay_of_shaped q.1.2), q.1.1, q.1.2, k _ _ _ q.2 (PExt.refl _) (.bl _)⟩
  | _ => exact q.elim⟩
end
section
variable {X : Cx} {G : Gh} {a b c e : Expr} {es : List Expr} {pos p p2 : Pos} {x : Str}
/-! ### chains -/
def tChainD (o o' : OpT) (ta tb tc : TD) : TD := fun E Q => ta E fun x E1 => tb E1 fun y E2 => o x y fun z => match z with
  | .bool true => tc E2 fun w E3 => o' y w fun r => Q r E3
  | .bool false => Q (.bool false) E2
  | _ => False
/-! ### items -/
def atD (xs : List D) (i : Int) (Q : D → Prop) : Prop := match atI xs i with
  | some d => Q d
  | none => False
def opIx : OpT := fun x y Q => match x, y with
  | .list xs, .int i => atD xs i Q
  | .tuple xs, .int i => atD xs i Q
  | .str z, .int i => match atI z.cps.toList i with
    | some c => z.length ≤ sizeLine ∧ Q (.str ⟨#[c]⟩)
    | none => False
  | _, _ => False
theorem atI_rp {K : PySem.W.Frag} {H : Hp} {ds : List D} {vs : List V} {i : Int} {d : D} (l : RpL K H ds vs) (h : atI ds i = some d) : ∃ v, atI vs i = some v ∧ Rp K H d v := by
  unfold atI at h ⊢
  rw [l.length] at h
  cases q : ixN vs.length i with
  | none => rw [q] at h; cases h
  | some j =>
    rw [q] at h
    exact l.get h
theorem lift_ix {r : R2} {ta tb : TD} (hr : r = rIx X.K) (σ : St) (H : Hp) (Q : VK) (h : liftE X.K G (tOpD opIx ta tb) σ H Q) : tOp r (liftE X.K G ta) (liftR X.K G tb) σ H Q := by
  subst hr
  refine lift_bin (fun x y v u H QD Q hx hy q k => ?_) σ H Q h
  cases y with
  | int i =>
    rw [hy.int]
    cases x with
    | list xs =>
      obtain ⟨a, vs, rfl, hs, l⟩ := hx.list
      have q : atD xs i QD := q
      unfold atD at q
      split at q
      · rename_i d hd
        obtain ⟨v, hv, pv⟩ := atI_rp l hd
        exact .inl ⟨a, vs, i, v, rfl, rfl, hs, hv, k _ _ _ q (PExt.refl _) pv⟩
      · exact q.elim
    | tuple xs =>
      obtain ⟨a, vs, rfl, hs, l⟩ := hx.tuple
      have q : atD xs i QD := q
      unfold atD at q
      split at q
      · rename_i d hd
        obtain ⟨v, hv, pv⟩ := atI_rp l hd
        exact .inr (.inl ⟨a, vs, i, v, rfl, rfl, hs, hv, k _ _ _ q (PExt.refl _) pv⟩)
      · exact q.elim
    | str z =>
      rw [hx.str]
      have q : (match atI z.cps.toList i with
        | some c => z.length ≤ sizeLine ∧ QD (.str ⟨#[c]⟩)
        | none => False) := q
      split at q
      · rename_i c hc
        exact .inr (.inr ⟨z, i, c, rfl, rfl, q.1, hc, k _ _ _ q.2 (PExt.refl _) (.str _)⟩)
      · exact q.elim
    | _ => exact q.elim
  | _ => cases x <;> exact q.elim
theorem ed_ix {ta tb : TD} (ha : ED X G a ta) (hb : ED X G b tb) (hs : PlainIx b := by exact fun _ _ => rfl) : ED X G (.Subscript a b pos) (tOpD opIx ta tb) :=
  ⟨PE.weak (pe_ix ix_seq ha.pe hb.er.pe hs) fun σ H Q h => lift_ix rfl σ H Q h⟩
/-- an item of a list of one's own, at a name -/
def tIxO (i : Nat) (tb : TD) : TD := fun E Q => match E[i]? with
  | some (.ol _) => tb E fun y E1 => match E1[i]?, y with
    | some (.ol xs), .int k => atD xs k fun d => Q d E1
    | _, _ => False
  | _ => False
theorem ed_ixO (i : Nat) {tb : TD} (hb : ED X G b tb) (hN : X.N[i]? = some x := by rfl) (hv : Vis X.env.scope x := by first | exact Or.inl rfl | exact Or.inr (Or.inl rfl) | exact Or.inr (Or.inr rfl)) (hd : (x == ("__debug__" : Str)) = false := by decide)
    (hcd : (x == ("__classdict__" : Str)) = false := by decide) (hs : PlainIx b := by exact fun _ _ => rfl) : ED X G (.Subscript (.Name x p) b pos) (tIxO i tb) :=
  ⟨PE.weak (pe_ix ix_list (pe_var hN hv hd hcd) hb.pe hs) fun σ H Q ⟨E, QE, r, q, k⟩ => by
    unfold tIxO at q
    split at q
    · rename_i xs0 he0
      obtain ⟨l, vs0, e1, e2, e3⟩ := r.ol he0
      refine ⟨_, e1, E, _, r, q, fun d E1 v H1 q1 x1 r1 p1 => ?_⟩
      split at q1
      · rename_i o0 d0 xs j he
        cases p1
        obtain ⟨l', vs, f1, f2, f3⟩ := r1.ol he
        rw [e1] at f1; cases f1
        unfold atD at q1
        split at q1
        · rename_i d hd
          obtain ⟨v, hv, pv⟩ := atI_rp f3 hd
          exact ⟨l, vs, j, v, rfl, rfl, SqL.of f2, hv, k _ _ _ _ q1 x1 r1 pv⟩
        · exact q1.elim
      · exact q1.elim
    · exact q.elim⟩
/-! ### calls of builtins -/
abbrev CaT := List D → (D → Prop) → Prop
abbrev CaL := List D → (List D → Prop) → Prop
inductive RpRs (K : PySem.W.Frag) (H : Hp) : List D → List V → Prop
  | nil : RpRs K H [] []
  | cons {d : D} {v : V} {ds : List D} {vs : List V} : RpR K H d v → RpRs K H ds vs → RpRs K H (d :: ds) (v :: vs)
theorem RpRs.one {K : PySem.W.Frag} {H : Hp} {d : D} {vs : List V} (h : RpRs K H [d] vs) : ∃ v, vs = [v] ∧ RpR K H d v := by
  cases h with
  | cons h t => cases t; exact ⟨_, rfl, h⟩
theorem RpRs.two {K : PySem.W.Frag} {H : Hp} {d e : D} {vs : List V} (h : RpRs K H [d, e] vs) : ∃ v u, vs = [v, u] ∧ RpR K H d v ∧ RpR K H e u := by
  cases h with
  | cons h t => obtain ⟨u, rfl, hu⟩ := t.one; exact ⟨_, u, rfl, h, hu⟩
def CaD (X : Cx) (f : Value) (op : CaT) : Prop := ∃ r, CallR X f r ∧ ∀ ds vs H (QD : D → Prop) (Q : VK), RpRs X.K H ds vs → op ds QD → (∀ z w H', QD z → PExt H H' → Rp X.K H' z w → Q w H') → r vs H Q
/-- a new list is handed back -/
def CaLD (X : Cx) (f : Value) (op : CaL) : Prop := ∃ r, CallR X f r ∧ ∀ ds vs H (QD : List D → Prop) (Q : VK), RpRs X.K H ds vs → op ds QD → (∀ zs us p, QD zs → H p = none → RpL X.K H zs us → Q (.ref p) (upd H p (.lst us))) → r vs H Q
def tCa1 (op : CaT) (ta : TD) : TD := fun E Q => ta E fun x E1 => op [x] fun z => Q z E1
def tCa2 (op : CaT) (ta tb : TD) : TD := fun E Q => ta E fun x E1 => tb E1 fun y E2 => op [x, y] fun z => Q z E2
def tCaL1 (op : CaL) (ta : TD) : TLd := fun E Q => ta E fun x E1 => op [x] fun z => Q z E1
section
variable {id : String} {op : CaT} {opl : CaL} {ta tb : TD}
theorem lift_ca1 {r : List V → Hp → VK → Prop} (hq : ∀ ds vs H (QD : D → Prop) (Q : VK), RpRs X.K H ds vs → op ds QD → (∀ z w H', QD z → PExt H H' → Rp X.K H' z w → Q w H') → r vs H Q)
    (σ : St) (H : Hp) (Q : VK) (h : liftE X.K G (tCa1 op ta) σ H Q) : tCB r (tCons (liftR X.K G ta) tNil) σ H Q := by
  obtain ⟨E, QE, rel, q, k⟩ := h
  refine ⟨E, _, rel, q, fun x E1 v H1 q1 x1 r1 p1 => ?_⟩
  exact hq [x] [v] H1 _ Q (.cons p1 .nil) q1 fun z w H3 q3 p3 rz => k z E1 w H3 q3 (x1.trans p3.ext) (r1.pext p3) rz
theorem ed_ca1 (hc : CaD X (.builtin id) op) (ha : ER X G a ta) (hg : Gl X x) (hm : X.mg x = none) (hv : bootBuiltins x = some (.builtin id)) (hn : x ≠ "__name__" := by decide) (hdb : (x == ("__debug__" : Str)) = false := by decide)
    (hs : starEach [a] X.env = (false, eval a X.env) :: starEach [] X.env := by rfl) (hpl : (backTo pos (starEach [] X.env)).any (·.1) = false := by rfl) : ED X G (.Call (.Name x p) [a] [] pos) (tCa1 op ta) := by
  obtain ⟨r, hr, hq⟩ := hc
  exact ⟨PE.weak (pe_callB hr hg hm hv (pa_cons ha.pe pa_nil hs) hn hdb hs hpl) fun σ H Q h => lift_ca1 hq σ H Q h⟩
theorem ed_caT1 (hc : CaD X (.type id) op) (ha : ER X G a ta) (hg : Gl X x) (hm : X.mg x = none) (hv : bootBuiltins x = some (.type id)) (hn : x ≠ "__name__" := by decide) (hdb : (x == ("__debug__" : Str)) = false := by decide)
    (hs : starEach [a] X.env = (false, eval a X.env) :: starEach [] X.env := by rfl) (hpl : (backTo pos (starEach [] X.env)).any (·.1) = false := by rfl) : ED X G (.Call (.Name x p) [a] [] pos) (tCa1 op ta) := by
  obtain ⟨r, hr, hq⟩ := hc
  exact ⟨PE.weak (pe_callTy hr hg hm hv (pa_cons ha.pe pa_nil hs) hn hdb hs hpl) fun σ H Q h => lift_ca1 hq σ H Q h⟩
theorem ed_ca2 (hc : CaD X (.builtin id) op) (ha : ED X G a ta) (hb : ER X G b tb) (hg : Gl X x) (hm : X.mg x = none) (hv : bootBuiltins x = some (.builtin id)) (hn : x ≠ "__name__" := by decide) (hdb : (x == ("__debug__" : Str)) = false := by decide)
    (hs : starEach [a, b] X.env = (false, eval a X.env) :: starEach [b] X.env := by rfl) (hs2 : starEach [b] X.env = (false, eval b X.env) :: starEach [] X.env := by rfl) (hpl : (backTo pos (starEach [b] X.env)).any (·.1) = false := by rfl) : ED X G (.Call (.Name x p) [a, b] [] pos) (tCa2 op ta tb) := by
  obtain ⟨r, hr, hq⟩ := hc
  refine ⟨PE.weak (pe_callB hr hg hm hv (pa_cons ha.pe (pa_cons hb.pe pa_nil hs2) hs) hn hdb hs hpl) fun σ H Q ⟨E, QE, rel, q, k⟩ => ⟨E, _, rel, q, fun x E1 v H1 q1 x1 r1 p1 => ⟨E1, _, r1, q1, fun y E2 u H2 q2 x2 r2 p2 => ?_⟩⟩⟩
  exact hq [x, y] [v, u] H2 _ Q (.cons (.inl (p1.ext x2)) (.cons p2 .nil)) q2 fun z w H3 q3 p3 rz => k z E2 w H3 q3 ((x1.trans x2).trans p3.ext) (r2.pext p3) rz
theorem lift_caL1 {r : List V → Hp → VK → Prop} (hq : ∀ ds vs H (QD : List D → Prop) (Q : VK), RpRs X.K H ds vs → opl ds QD → (∀ zs us p, QD zs → H p = none → RpL X.K H zs us → Q (.ref p) (upd H p (.lst us))) → r vs H Q)
    (σ : St) (H : Hp) (Q : VK) (h : liftL X.K G (tCaL1 opl ta) σ H Q) : tCB r (tCons (liftR X.K G ta) tNil) σ H Q := by
  obtain ⟨E, QE, rel, q, k⟩ := h
  refine ⟨E, _, rel, q, fun x E1 v H1 q1 x1 r1 p1 => ?_⟩
  refine hq [x] [v] H1 _ Q (.cons p1 .nil) q1 fun zs us p q3 hp rz => ?_
  obtain ⟨r2, h0, na⟩ := r1.fresh (o := .lst us) hp
  exact k zs E1 p us _ q3 (x1.trans (PExt.new hp).ext) r2 h0 na upd_same (rz.ext (PExt.new hp).ext)
theorem el_ca1 (hc : CaLD X (.builtin id) opl) (ha : ER X G a ta) (hg : Gl X x) (hm : X.mg x = none) (hv : bootBuiltins x = some (.builtin id)) (hn : x ≠ "__name__" := by decide) (hdb : (x == ("__debug__" : Str)) = false := by decide)
    (hs : starEach [a] X.env = (false, eval a X.env) :: starEach [] X.env := by rfl) (hpl : (backTo pos (starEach [] X.env)).any (·.1) = false := by rfl) : EL X G (.Call (.Name x p) [a] [] pos) (tCaL1 opl ta) := by
  obtain ⟨r, hr, hq⟩ := hc
  exact ⟨PE.weak (pe_callB hr hg hm hv (pa_cons ha.pe pa_nil hs) hn hdb hs hpl) fun σ H Q h => lift_caL1 hq σ H Q h⟩
theorem el_caT1 (hc : CaLD X (.type id) opl) (ha : ER X G a ta) (hg : Gl X x) (hm : X.mg x = none) (hv : bootBuiltins x = some (.type id)) (hn : x ≠ "__name__" := by decide) (hdb : (x == ("__debug__" : Str)) = false := by decide)
    (hs : starEach [a] X.env = (false, eval a X.env) :: starEach [] X.env := by rfl) (hpl : (backTo pos (starEach [] X.env)).any (·.1) = false := by rfl) : EL X G (.Call (.Name x p) [a] [] pos) (tCaL1 opl ta) := by
  obtain ⟨r, hr, hq⟩ := hc
  exact ⟨PE.weak (pe_callTy hr hg hm hv (pa_cons ha.pe pa_nil hs) hn hdb hs hpl) fun σ H Q h => lift_caL1 hq σ H Q h⟩
end
/-! len, abs, max, min, sum, all, tuple, list, int -/
def caLen : CaT := fun ds Q => match ds with
  | [.list xs] => Q (.int xs.length)
  | [.tuple xs] => Q (.int xs.length)
  | [.str z] => z.length ≤ sizeLine ∧ Q (.int z.length)
  | _ => False
theorem cd_len : CaD X (.builtin "len") caLen := by
  refine ⟨_, (show CallR X (.builtin "len") (fun xs H Q => (∃ p ys, xs = [.ref p] ∧ (SqL X.K H p ys ∨ SqT X.K H p ys) ∧ Q (.int ys.length) H) ∨ ∃ z, xs = [.str z] ∧ z.length ≤ sizeLine ∧ Q (.int z.length) H) from fun pins s σ H vs us Q I r h => by
    rcases h with h | h
    · exact call_len_seq pins s σ H vs us Q I r h
    · exact call_len_str pins s σ H vs us Q I r h), fun ds vs H QD Q hd q k => ?_⟩
  match ds, q, hd with
  | [.list xs], q, hd =>
    obtain ⟨v, rfl, h⟩ := hd.one
    obtain ⟨a, us, rfl, hs, l⟩ := h.list
    exact .inl ⟨a, us, rfl, .inl hs, by rw [← l.length]; exact k _ _ _ q (PExt.refl _) (.int _)⟩
  | [.tuple xs], q, hd =>
    obtain ⟨v, rfl, h⟩ := hd.one
    obtain ⟨a, us, rfl, hs, l⟩ := h.tuple
    exact .inl ⟨a, us, rfl, .inr hs, by rw [← l.length]; exact k _ _ _ q (PExt.refl _) (.int _)⟩
  | [.str z], q, hd =>
    obtain ⟨v, rfl, h⟩ := hd.one
    rw [h.str]
    exact .inr ⟨z, rfl, q.1, k _ _ _ q.2 (PExt.refl _) (.int _)⟩
def caAbs : CaT := fun ds Q => match ds with
  | [.int i] => Q (.int (if i < 0 then -i else i))
  | _ => False
theorem cd_abs : CaD X (.builtin "abs") caAbs := ⟨_, call_abs, fun ds vs H QD Q hd q k => by
  match ds, q, hd with
  | [.int i], q, hd =>
    obtain ⟨v, rfl, h⟩ := hd.one
    rw [h.int]
    exact ⟨i, rfl, k _ _ _ q (PExt.refl _) (.int _)⟩⟩
def caMax2 : CaT := fun ds Q => match ds with
  | [.int i, .int j] => Q (.int (if j > i then j else i))
  | _ => False
theorem cd_max2 (hc : X.calm = true) : CaD X (.builtin "max") caMax2 := ⟨_, call_max2 hc, fun ds vs H QD Q hd q k => by
  match ds, q, hd with
  | [.int i, .int j], q, hd =>
    obtain ⟨v, u, rfl, h, h'⟩ := hd.two
    rw [h.int, h'.int]
    exact ⟨i, j, rfl, k _ _ _ q (PExt.refl _) (.int _)⟩⟩
def caMin2 : CaT := fun ds Q => match ds with
  | [.int i, .int j] => Q (.int (if j < i then j else i))
  | _ => False
theorem cd_min2 (hc : X.calm = true) : CaD X (.builtin "min") caMin2 := ⟨_, call_min2 hc, fun ds vs H QD Q hd q k => by
  match ds, q, hd with
  | [.int i, .int j], q, hd =>
    obtain ⟨v, u, rfl, h, h'⟩ := hd.two
    rw [h.int, h'.int]
    exact ⟨i, j, rfl, k _ _ _ q (PExt.refl _) (.int _)⟩⟩
theorem RpL.bools {K : PySem.W.Frag} {H : Hp} : ∀ {ns : List Bool} {vs : List V}, RpL K H (ns.map PyData.bool) vs → vs = ns.map V.bl
  | [], _, .nil => rfl
  | _ :: _, _, .cons (.bl _) t => by rw [RpL.bools t]; rfl
def caSum : CaT := fun ds Q => match ds with
  | [.list xs] => ∃ ns : List Int, xs = ns.map PyData.int ∧ Q (.int ns.sum)
  | _ => False
def caMax : CaT := fun ds Q => match ds with
  | [.list xs] => ∃ ns : List Int, xs = ns.map PyData.int ∧ 0 < ns.length ∧ ∀ m, m ∈ ns → (∀ y, y ∈ ns → y ≤ m) → Q (.int m)
  | _ => False
theorem cd_max (hc : X.calm = true) : CaD X (.builtin "max") caMax := ⟨_, cr_max hc, fun ds vs H QD Q hd q k => by
  match ds, q, hd with
  | [.list xs], q, hd =>
    obtain ⟨ns, rfl, hl, q⟩ := q
    obtain ⟨v, rfl, h⟩ := hd.one
    obtain ⟨a, us, rfl, hs, l⟩ := h.list
    have := l.ints; subst this
    exact ⟨a, ns, rfl, hs, hl, fun m h1 h2 => k _ _ _ (q m h1 h2) (PExt.refl _) (.int _)⟩⟩
def caMin : CaT := fun ds Q => match ds with
  | [.list xs] => ∃ ns : List Int, xs = ns.map PyData.int ∧ 0 < ns.length ∧ ∀ m, m ∈ ns → (∀ y, y ∈ ns → m ≤ y) → Q (.int m)
  | _ => False
theorem cd_min (hc : X.calm = true) : CaD X (.builtin "min") caMin := ⟨_, cr_min hc, fun ds vs H QD Q hd q k => by
  match ds, q, hd with
  | [.list xs], q, hd =>
    obtain ⟨ns, rfl, hl, q⟩ := q
    obtain ⟨v, rfl, h⟩ := hd.one
    obtain ⟨a, us, rfl, hs, l⟩ := h.list
    have := l.ints; subst this
    exact ⟨a, ns, rfl, hs, hl, fun m h1 h2 => k _ _ _ (q m h1 h2) (PExt.refl _) (.int _)⟩⟩
def caAll : CaT := fun ds Q => match ds with
  | [.list xs] => ∃ bs : List Bool, xs = bs.map PyData.bool ∧ Q (.bool (bs.all id))
  | _ => False
theorem cd_all (hc : X.calm = true) : CaD X (.builtin "all") caAll := ⟨_, cr_all hc, fun ds vs H QD Q hd q k => by
  match ds, q, hd with
  | [.list xs], q, hd =>
    obtain ⟨bs, rfl, q⟩ := q
    obtain ⟨v, rfl, h⟩ := hd.one
    obtain ⟨a, us, rfl, hs, l⟩ := h.list
    have := l.bools; subst this
    exact ⟨a, bs, rfl, hs, k _ _ _ q (PExt.refl _) (.bl _)⟩⟩
def caTuple : CaT := fun ds Q => match ds with
  | [.list xs] => Q (.tuple xs)
  | [.tuple xs] => Q (.tuple xs)
  | _ => False
theorem cd_tuple : CaD X (.type "tuple") caTuple := ⟨_, call_tupF, fun ds vs H QD Q hd q k => by
  match ds, q, hd with
  | [.list xs], q, hd =>
    obtain ⟨v, rfl, h⟩ := hd.one
    obtain ⟨a, us, rfl, hs, l⟩ := h.list
    exact ⟨a, us, rfl, .inl ⟨hs, fun p o hp ho => k _ _ _ q (PExt.new hp) (.tup (.new ho) (l.ext (PExt.new hp).ext))⟩⟩
  | [.tuple xs], q, hd =>
    obtain ⟨v, rfl, h⟩ := hd.one
    obtain ⟨a, us, rfl, hs, l⟩ := h.tupD
    exact ⟨a, us, rfl, .inr ⟨hs.1, k _ _ _ q (PExt.refl _) (.tup hs l)⟩⟩⟩
def caList : CaL := fun ds Q => match ds with
  | [.list xs] => Q xs
  | [.tuple xs] => Q xs
  | _ => False
theorem cd_list : CaLD X (.type "list") caList := ⟨_, call_list_of, fun ds vs H QD Q hd q k => by
  match ds, q, hd with
  | [.list xs], q, hd =>
    obtain ⟨v, rfl, h⟩ := hd.one
    obtain ⟨a, us, rfl, hs, l⟩ := h.list
    exact ⟨a, us, rfl, .inl hs, fun p hp => k _ _ _ q hp l⟩
  | [.tuple xs], q, hd =>
    obtain ⟨v, rfl, h⟩ := hd.one
    obtain ⟨a, us, rfl, hs, l⟩ := h.tuple
    exact ⟨a, us, rfl, .inr hs, fun p hp => k _ _ _ q hp l⟩⟩
def caInt : CaT := fun ds Q => match ds with
  | [.int i] => Q (.int i)
  | [.bool b] => Q (.int (if b then 1 else 0))
  | _ => False
theorem cd_int : CaD X (.type "int") caInt := ⟨_, call_int1, fun ds vs H QD Q hd q k => by
  match ds, q, hd with
  | [.int i], q, hd =>
    obtain ⟨v, rfl, h⟩ := hd.one
    rw [h.int]; exact .inl ⟨i, rfl, k _ _ _ q (PExt.refl _) (.int _)⟩
  | [.bool b], q, hd =>
    obtain ⟨v, rfl, h⟩ := hd.one
    rw [h.bool]; exact .inr ⟨b, rfl, k _ _ _ q (PExt.refl _) (.int _)⟩⟩
end
end DL
set_option Elab.async false
set_option linter.all false
set_option maxRecDepth 100000
set_option maxHeartbeats 1000000
namespace DL
open PySem PySem.Spec PyProof.Rows L2
section
variable {X : Cx} {G : Gh} {a b c e : Expr} {es : List Expr} {pos p p1 p2 p3 : Pos} {x : Str}
/-- a list whose object is plain -/
def LsP (K : PySem.W.Frag) (H : Hp) (a : Addr) (vs : List V) : Prop := H a = some (.lst vs) ∨ LsF K H a vs
theorem LsP.at {K : PySem.W.Frag} {H : Hp} {a : Addr} {vs : List V} {P : Program} {w : World} {h : Heap} (l : LsP K H a vs) (hok : HOk P w H h) (KX : K.In h) : vs.length ≤ sizeLine ∧ ∃ (its : List Value) (n : Nat), Vals vs its ∧ h.get? a = some { cls := .type "list", data := .seq its.toArray n } := by
  rcases l with l | ⟨o, l⟩ | ⟨its, n, e, z, r⟩
  · exact Rd.ok (.inl l) hok
  · exact Rd.ok (.inr ⟨o, l⟩) hok
  · refine ⟨?_, its.toList, n, r, by have := KX _ _ e; simpa using this⟩
    have e2 := r.length
    simp only [Array.length_toList] at e2
    omega
theorem RpR.listR {K : PySem.W.Frag} {H : Hp} {ds : List D} {v : V} (h : RpR K H (.list ds) v) : ∃ a vs, v = .ref a ∧ LsP K H a vs ∧ RpL K H ds vs := by
  rcases h with h | ⟨ds, a, vs, e, rfl, h, l⟩
  · cases h with
    | lst h l => exact ⟨_, _, rfl, .inr h, l⟩
  · cases e
    exact ⟨_, _, rfl, .inl h, l⟩
/-! ### list + list, list * int: new lists -/
def OpLD (X : Cx) (f : Value → Value → Sem Value) (op : D → D → (List D → Prop) → Prop) : Prop := ∃ r : R2, OpR X f r ∧
  ∀ x y v u H (QD : List D → Prop) (Q : VK), RpR X.K H x v → RpR X.K H y u → op x y QD → (∀ zs us q, QD zs → H q = none → RpL X.K H zs us → Q (.ref q) (upd H q (.lst us))) → r v u H Q
def tOpL (op : D → D → (List D → Prop) → Prop) (ta tb : TD) : TLd := fun E Q => ta E fun x E1 => tb E1 fun y E2 => op x y fun z => Q z E2
theorem el_op {op : Operator} {o : D → D → (List D → Prop) → Prop} {ta tb : TD} (ho : OpLD X (binaryOp op) o) (ha : ED X G a ta) (hb : ER X G b tb) : EL X G (.BinOp a op b pos) (tOpL o ta tb) := by
  obtain ⟨r, hr, hq⟩ := ho
  refine ⟨PE.weak (pe_op hr ha.pe hb.pe) fun σ H Q ⟨E, QE, rel, q, k⟩ => ⟨E, _, rel, q, fun x E1 v H1 q1 x1 r1 p1 => ⟨E1, _, r1, q1, fun y E2 u H2 q2 x2 r2 p2 => ?_⟩⟩⟩
  refine hq x y v u H2 _ Q (.inl (p1.ext x2)) p2 q2 fun zs us q3 qz hp rz => ?_
  obtain ⟨r3, h0, na⟩ := r2.fresh (o := .lst us) hp
  exact k zs E2 q3 us _ qz ((x1.trans x2).trans (PExt.new hp).ext) r3 h0 na upd_same (rz.ext (PExt.new hp).ext)
theorem op_catR : OpR X (binaryOp .Add) (fun x y H Q => ∃ l b xs zs, x = .ref l ∧ y = .ref b ∧ LsP X.K H l xs ∧ LsP X.K H b zs ∧ xs.length + zs.length ≤ sizeLine ∧ ∀ p, H p = none → Q (.ref p) (upd H p (.lst (xs ++ zs)))) := by
  intro pins s σ H x y v u Q I rx ry h
  obtain ⟨l, b, xs, zs, rfl, rfl, hH, hB, hz, q⟩ := h
  cases rx
  cases ry
  obtain ⟨z, its, n, r, e⟩ := hH.at I.hok I.kIn
  obtain ⟨z2, its2, n2, r2, e2⟩ := hB.at I.hok I.kIn
  have hl := r.length
  have hl2 := r2.length
  refine PySem.P.add_list e e2 ?_ (by rw [List.size_toArray, List.size_toArray]; omega)
  have ea : its.toArray ++ its2.toArray = (its ++ its2).toArray := by simp
  rw [ea]
  exact ⟨.ref _, _, I.lnew (t' := s.toks) (r.append r2) (by rw [List.length_append]; omega), rfl, q _ I.fresh⟩
def opCat : D → D → (List D → Prop) → Prop := fun x y Q => match x, y with
  | .list xs, .list ys => xs.length + ys.length ≤ sizeLine ∧ Q (xs ++ ys)
  | _, _ => False
theorem od_cat : OpLD X (binaryOp .Add) opCat := ⟨_, op_catR, fun x y v u H QD Q hx hy q k => by
  cases x with
  | list xs =>
    cases y with
    | list ys =>
      obtain ⟨a, vs, rfl, sa, la⟩ := hx.listR
      obtain ⟨b, us, rfl, sb, lb⟩ := hy.listR
      exact ⟨a, b, vs, us, rfl, rfl, sa, sb, by rw [← la.length, ← lb.length]; exact q.1, fun p hp => k _ _ _ q.2 hp (la.append lb)⟩
    | _ => exact q.elim
  | _ => exact q.elim⟩
def opRep : D → D → (List D → Prop) → Prop := fun x y Q => match x, y with
  | .list xs, .int k => (-(2 ^ 63) ≤ k ∧ k < 2 ^ 63 ∧ xs.length * k.toNat ≤ sizeLine) ∧ Q (List.replicate k.toNat xs).flatten
  | _, _ => False
/-! ### slices -/
def cutD (xs : List D) (lo hi : Option Int) : List D := (xs.drop (HT.sIx xs.length 0 lo)).take (HT.sIx xs.length xs.length hi - HT.sIx xs.length 0 lo)
theorem RpL.cut {K : PySem.W.Frag} {H : Hp} {ds : List D} {vs : List V} (l : RpL K H ds vs) (lo hi : Option Int) : RpL K H (cutD ds lo hi) (cutV vs lo hi) := by
  unfold cutD cutV
  rw [l.length]
  exact (l.drop _).take _
abbrev TOd := Env → (Option Int → Env → Prop) → Prop
def liftO (K : PySem.W.Frag) (G : Gh) (t : TOd) : TO := fun σ H Q => ∃ (E : Env) (QE : Option Int → Env → Prop), RelE K G H E σ ∧ t E QE ∧ ∀ o E' H', QE o E' → Ext H H' → RelE K G H' E' σ → Q o H'
structure EO (X : Cx) (G : Gh) (e : Option Expr) (t : TOd) : Prop where
  po : PO X e (liftO X.K G t)
theorem PO.weak {e : Option Expr} {t u : TO} (h : PO X e t) (w : ∀ σ H Q, u σ H Q → t σ H Q) : PO X e u := ⟨fun pins s σ H Q I q => h.run pins s σ H Q I (w σ H Q q)⟩
def oNo : TOd := fun E Q => Q none E
def oE (t : TD) : TOd := fun E Q => t E fun d E1 => match d with
  | .int i => Q (some i) E1
  | _ => False
theorem eo_no : EO X G none oNo := ⟨PO.weak po_none fun σ H Q ⟨E, QE, r, q, k⟩ => k _ _ _ q (Ext.refl _) r⟩
theorem eo_e {t : TD} (h : ED X G e t) : EO X G (some e) (oE t) := ⟨PO.weak (po_some h.pe) fun σ H Q ⟨E, QE, r, q, k⟩ => ⟨E, _, r, q, fun d E1 v H1 q1 x1 r1 p1 => by
  cases p1 with
  | int i => exact ⟨i, rfl, k _ _ _ q1 x1 r1⟩
  | _ => exact q1.elim⟩⟩
/-- t[lo:hi], the whole: t itself -/
theorem whole_tuple {prog : Program} {w : World} {A : Around} {E : Value → Shared → Prop} {s : Shared} {t sl : Addr} {items : Array Value} {vl vu : Value} {lo hi : Option Int} {Q : Value → Shared → Prop} (ht : IsTup s.heap t items) (hs : s.heap.IsSliceOf sl vl vu .none) (pl : IsPart vl lo) (pu : IsPart vu hi)
    (hw : HT.sIx items.size 0 lo = 0 ∧ HT.sIx items.size items.size hi = items.size) (h : Q (.ref t) s) : wpAny (model prog w) A (getItem (.ref t) (.ref sl)) Q E s := by
  obtain ⟨os, hos, hcs, hds⟩ := id hs
  have hTs : s.TypeIs (.ref sl) "slice" := ⟨os, hos, hcs⟩
  unfold getItem
  try with_reducible refine wpAny_holding ?_
  first | refine wpAny_bind (wpAny_pure ?_) | skip
  refine wpAny_bind (wpAny_sequenceKey ht.typeIs (by decide) ?_)
  refine wpAny_bind (wpAny_callSpecial?_slot (name := Str.ofString "__getitem__") ht.typeIs PyProof.Rows.slot_tuple_getitem
    (wpAny_call_entry PyProof.Rows.slot_tuple_getitem ht.typeIs entry_tuple_getitem ?_ (args_tuple_getitem _ _)))
  show wpAny _ _ (Builtin.Tuple.tupleItemsOf (.ref t) >>= _) _ _ s
  refine wpAny_bind (tupleItemsOf_ ht ?_)
  refine wpAny_bind (wpAny_typeOf hTs ?_)
  rw [if_pos (by decide)]
  refine wpAny_bind (HT.sliceApplied_gen hs pl pu ?_)
  have hyes : (((HT.sIx items.size 0 lo : Nat) : Int) == 0 && (1 : Int) == 1 && (HT.sIx items.size items.size hi - HT.sIx items.size 0 lo) == items.size) = true := by
    rw [hw.1, hw.2]; simp
  show wpAny _ _ (if (((HT.sIx items.size 0 lo : Nat) : Int) == 0 && (1 : Int) == 1 && (HT.sIx items.size items.size hi - HT.sIx items.size 0 lo) == items.size) = true then _ else _) _ _ s
  rw [if_pos hyes]
  refine wpAny_bind ?_
  · unfold Builtin.Tuple.tupleIsExact
    refine wpAny_bind (wpAny_typeOf ht.typeIs (wpAny_pure ?_))
    rw [if_pos (by decide)]
    exact wpAny_bind (wpAny_rule (wpAny_pure ⟨_, rfl, wpAny_pure h⟩))
theorem sl_tupW : SlR X (fun x lo hi H Q => ∃ a xs, x = .ref a ∧ SqT X.K H a xs ∧ (HT.sIx xs.length 0 lo = 0 ∧ HT.sIx xs.length xs.length hi = xs.length) ∧ Q (.ref a) H) := by
  intro pins s σ H x v vl vu lo hi sl Q I rx hs pl pu h
  obtain ⟨a, xs, rfl, hx, hw, q⟩ := h
  cases rx
  obtain ⟨its, r, ht, hz⟩ := I.tuple hx
  have hlen : its.toArray.size = xs.length := by rw [List.size_toArray]; exact r.length.symm
  refine ⟨"tuple", _, PyProof.Rows.slot_tuple_getitem.lookup, ht.typeIs, ?_⟩
  exact whole_tuple ht hs pl pu (by rw [hlen]; exact hw) ⟨.ref a, H, I, rfl, q⟩
/-- t[lo:hi], not the whole: a new, plain tuple -/
theorem sl_tupF : SlR X (fun x lo hi H Q => ∃ a xs, x = .ref a ∧ SqT X.K H a xs ∧ ¬ (HT.sIx xs.length 0 lo = 0 ∧ HT.sIx xs.length xs.length hi = xs.length) ∧ ∀ p o, H p = none → o.dict = none → Q (.ref p) (upd H p (.frz o (.tup (cutV xs lo hi))))) := by
  intro pins s σ H x v vl vu lo hi sl Q I rx hs pl pu h
  obtain ⟨a, xs, rfl, hx, hw, q⟩ := h
  cases rx
  obtain ⟨its, r, ht, hz⟩ := I.tuple hx
  have hlen : its.toArray.size = xs.length := by rw [List.size_toArray]; exact r.length.symm
  refine ⟨"tuple", _, PyProof.Rows.slot_tuple_getitem.lookup, ht.typeIs, HT.getItem_tuple_cut ht hs pl pu (by rw [hlen]; exact hw) ?_ (by rw [hlen]; exact hz)⟩
  rw [hlen]
  exact ⟨.ref s.heap.objs.size, _, I.laid (t' := s.toks) (o := .frz _ (.tup (cutV xs lo hi))) (fun b ob q => Heap.get?_push_of_some _ q) (Nat.le_refl _) ⟨Heap.get?_push_size _ rfl, Nat.le_trans (cutV_length xs lo hi) hz, _, (r.drop (HT.sIx xs.length 0 lo)).take (HT.sIx xs.length xs.length hi - HT.sIx xs.length 0 lo), IsTup.new _ _⟩, rfl, q _ _ (I.hok.fresh (Nat.le_refl _)) rfl⟩
def slD (x : D) (lo hi : Option Int) (Q : D → Prop) : Prop := match x with
  | .tuple xs => Q (.tuple (cutD xs lo hi))
  | .str z => z.length ≤ sizeLine ∧ Q (.str (cutS z lo hi))
  | _ => False
def tSlD (ta : TD) (tl th : TOd) : TD := fun E Q => ta E fun x E1 => tl E1 fun l E2 => th E2 fun u E3 => slD x l u fun z => Q z E3
theorem cut_whole {xs : List D} {lo hi : Option Int} (h : HT.sIx xs.length 0 lo = 0 ∧ HT.sIx xs.length xs.length hi = xs.length) : cutD xs lo hi = xs := by
  unfold cutD; rw [h.1, h.2]; simp
theorem ed_sl {lo hi : Option Expr} {ta : TD} {tl th : TOd} (ha : ED X G a ta) (hl : EO X G lo tl) (hh : EO X G hi th) : ED X G (.Subscript a (.Slice lo hi none p2) pos) (tSlD ta tl th) := by
  refine ⟨PE.weak (pe_slice (sl_tupF.or (sl_tupW.or sl_str)) ha.pe hl.po hh.po) fun σ H Q ⟨E, QE, rel, q, k⟩ => ⟨E, _, rel, q, fun x E1 v H1 q1 x1 r1 p1 => ⟨E1, _, r1, q1, fun l E2 H2 q2 x2 r2 => ⟨E2, _, r2, q2, fun u E3 H3 q3 x3 r3 => ?_⟩⟩⟩⟩
  have xx := (x1.trans x2).trans x3
  have p3 := (p1.ext x2).ext x3
  cases p3 with
  | tup hs ll =>
    rename_i a0 vs ds
    by_cases hw : HT.sIx vs.length 0 l = 0 ∧ HT.sIx vs.length vs.length u = vs.length
    · have hw' := hw
      rw [← ll.length] at hw'
      refine .inr (.inl ⟨_, _, rfl, hs.1, hw, k _ _ _ _ q3 xx r3 ?_⟩)
      rw [cut_whole hw']; exact .tup hs ll
    · exact .inl ⟨_, _, rfl, hs.1, hw, fun p o hp ho => k _ _ _ _ q3 (xx.trans (PExt.new hp).ext) (r3.pext (PExt.new hp)) (.tup (.new ho) ((ll.cut l u).ext (PExt.new hp).ext))⟩
  | str z => exact .inr (.inr ⟨z, rfl, q3.1, k _ _ _ _ q3.2 xx r3 (.str _)⟩)
  | _ => exact q3.elim
def tSlL (ta : TD) (tl th : TOd) : TLd := fun E Q => ta E fun x E1 => tl E1 fun l E2 => th E2 fun u E3 => match x with
  | .list xs => Q (cutD xs l u) E3
  | _ => False
theorem el_sl {lo hi : Option Expr} {ta : TD} {tl th : TOd} (ha : ED X G a ta) (hl : EO X G lo tl) (hh : EO X G hi th) : EL X G (.Subscript a (.Slice lo hi none p2) pos) (tSlL ta tl th) := by
  refine ⟨PE.weak (pe_slice sl_list ha.pe hl.po hh.po) fun σ H Q ⟨E, QE, rel, q, k⟩ => ⟨E, _, rel, q, fun x E1 v H1 q1 x1 r1 p1 => ⟨E1, _, r1, q1, fun l E2 H2 q2 x2 r2 => ⟨E2, _, r2, q2, fun u E3 H3 q3 x3 r3 => ?_⟩⟩⟩⟩
  have xx := (x1.trans x2).trans x3
  have p3 := (p1.ext x2).ext x3
  cases p3 with
  | lst hs ll =>
    refine ⟨_, _, rfl, hs.sq, fun p hp => ?_⟩
    obtain ⟨r4, h0, na⟩ := r3.fresh (o := .lst (cutV _ l u)) hp
    exact k _ _ _ _ _ q3 (xx.trans (PExt.new hp).ext) r4 h0 na upd_same ((ll.cut l u).ext (PExt.new hp).ext)
  | _ => exact q3.elim
/-- xs[::-1] of a list -/
def tRevD (ta : TD) : TLd := fun E Q => ta E fun x E1 => match x with
  | .list xs => Q xs.reverse E1
  | _ => False
/-! ### isinstance with a built-in class -/
def tyD : D → String
  | .none => "NoneType"
  | .bool _ => "bool"
  | .int _ => "int"
  | .str _ => "str"
  | .list _ => "list"
  | .tuple _ => "tuple"
  | .dict _ => "dict"
theorem call_isiR {T : String} {bf : D → Bool} (hb : ∀ d : D, (match d with | .dict _ => True | _ => kitB (tyD d) T = some (bf d))) : CallR X (.builtin "isinstance") (fun vs H Q => ∃ d v, vs = [v, .ty T] ∧ Rp X.K H d v ∧ (∀ k, d ≠ .dict k) ∧ Q (.bl (bf d)) H) := by
  intro pins s σ H vs us Q I r h
  obtain ⟨d, v, rfl, hd, hn, q⟩ := h
  obtain ⟨u1, u2, rfl, r1, r2⟩ := vals2 r
  cases (show u2 = Value.type T from r2)
  have kit : ∃ P : Heap → Prop, PySem.W.KitX X.K u1 (.type (tyD d)) P ∧ P s.heap ∧ u1 ≠ .builtin "__main__.__loader__#opaque" := by
    cases hd with
    | non => cases (show u1 = Value.none from r1); exact ⟨_, PySem.W.kitx_none, True.intro, fun z => nomatch z⟩
    | bl y => cases (show u1 = Value.bool y from r1); exact ⟨_, PySem.W.kitx_bool, True.intro, fun z => nomatch z⟩
    | int i => obtain ⟨t, q⟩ := (show ∃ t, u1 = Value.int i t from r1); cases q; exact ⟨_, PySem.W.kitx_int, True.intro, fun z => nomatch z⟩
    | str y => obtain ⟨t, q⟩ := (show ∃ t, u1 = Value.str y t from r1); cases q; exact ⟨_, PySem.W.kitx_str, True.intro, fun z => nomatch z⟩
    | dct _ _ _ _ => exact absurd rfl (hn _)
    | hdl a => exact absurd rfl (hn _)
    | lst hs _ =>
      rename_i a xs ds _
      cases (show u1 = Value.ref a from r1)
      obtain ⟨its, rv, hl, _⟩ := I.list hs.sq
      obtain ⟨o, n, ho, hc, _⟩ := hl
      exact ⟨_, PySem.W.kitx_list, ⟨o, ho, hc⟩, fun z => nomatch z⟩
    | tup hs _ =>
      rename_i a xs ds _
      cases (show u1 = Value.ref a from r1)
      obtain ⟨its, rv, ⟨o, ho, hc, _⟩, _⟩ := I.tuple hs.1
      exact ⟨_, PySem.W.kitx_tuple, ⟨o, ho, hc⟩, fun z => nomatch z⟩
  obtain ⟨P, Z, p, hx⟩ := kit
  have e : PySem.W.kitOne X.K (.type (tyD d)) (.type T) = some (bf d) := by
    have := hb d
    cases d with
    | dict k => exact absurd rfl (hn k)
    | _ => exact kit_ty this
  exact PySem.W.kia_one Z I.kIn p e hx fun tk => ⟨.bl _, H, I.tok tk, rfl, q⟩
def isInt : D → Bool
  | .int _ => true
  | .bool _ => true
  | _ => false
def isBool : D → Bool
  | .bool _ => true
  | _ => false
def isStr : D → Bool
  | .str _ => true
  | _ => false
def isTuple : D → Bool
  | .tuple _ => true
  | _ => false
def isList : D → Bool
  | .list _ => true
  | _ => false
def notDict : D → Prop
  | .dict _ => False
  | _ => True
def tIsi (bf : D → Bool) (ta : TD) : TD := fun E Q => ta E fun x E1 => notDict x ∧ Q (.bool (bf x)) E1
theorem ed_isi {T : String} {ty : Str} {bf : D → Bool} {ta : TD} {pt : Pos} (hb : ∀ d : D, (match d with | .dict _ => True | _ => kitB (tyD d) T = some (bf d))) (ha : ED X G a ta) (hg : Gl X "isinstance") (hm : X.mg "isinstance" = none) (hg2 : Gl X ty) (hm2 : X.mg ty = none) (hv2 : bootBuiltins ty = some (.type T))
    (hn2 : ty ≠ "__name__" := by decide) (hd2 : (ty == ("__debug__" : Str)) = false := by decide)
    (hs : starEach [a, .Name ty pt] X.env = (false, eval a X.env) :: starEach [.Name ty pt] X.env := by rfl) (hs2 : starEach [.Name ty pt] X.env = (false, eval (.Name ty pt) X.env) :: starEach [] X.env := by rfl) (hpl : (backTo pos (starEach [.Name ty pt] X.env)).any (·.1) = false := by rfl) :
    ED X G (.Call (.Name "isinstance" p) [a, .Name ty pt] [] pos) (tIsi bf ta) := by
  refine ⟨PE.weak (pe_callB (call_isiR hb) hg hm (by decide +kernel) (pa_cons ha.pe (pa_cons (pe_bltn (v := .ty T) hg2 hm2 hv2 rfl hn2 hd2) pa_nil hs2) hs) (by decide) (by decide) hs hpl) fun σ H Q ⟨E, QE, rel, q, k⟩ => ⟨E, _, rel, q, fun x E1 v H1 q1 x1 r1 p1 => ?_⟩⟩
  refine ⟨x, v, rfl, p1, ?_, k _ _ _ _ q1.2 x1 r1 (.bl _)⟩
  intro z e; subst e; exact q1.1
theorem isi_int : ∀ d : D, (match d with | .dict _ => True | _ => kitB (tyD d) "int" = some (isInt d)) := by intro d; cases d <;> first | trivial | (show kitB _ _ = _; decide +kernel)
theorem isi_bool : ∀ d : D, (match d with | .dict _ => True | _ => kitB (tyD d) "bool" = some (isBool d)) := by intro d; cases d <;> first | trivial | (show kitB _ _ = _; decide +kernel)
theorem isi_str : ∀ d : D, (match d with | .dict _ => True | _ => kitB (tyD d) "str" = some (isStr d)) := by intro d; cases d <;> first | trivial | (show kitB _ _ = _; decide +kernel)
theorem isi_tuple : ∀ d : D, (match d with | .dict _ => True | _ => kitB (tyD d) "tuple" = some (isTuple d)) := by intro d; cases d <;> first | trivial | (show kitB _ _ = _; decide +kernel)
/-! ### zip of two tuples, of two lists -/
def zipD (xs ys : List D) : List D := (xs.zip ys).map fun p => .tuple [p.1, p.2]
def iZipD (ta tb : TD) : TDs := fun E Q => ta E fun x E1 => tb E1 fun y E2 => match x, y with
  | .tuple xs, .tuple ys => Q (zipD xs ys) E2
  | .list xs, .list ys => Q (zipD xs ys) E2
  | _, _ => False
theorem zipD_len (xs ys : List D) : (zipD xs ys).length = min xs.length ys.length := by simp [zipD]
theorem zipD_get {xs ys : List D} {i : Nat} {x y : D} (h1 : xs[i]? = some x) (h2 : ys[i]? = some y) : (zipD xs ys)[i]? = some (.tuple [x, y]) := by
  unfold zipD
  rw [List.getElem?_map, (List.getElem?_zip_eq_some (z := (x, y))).mpr ⟨h1, h2⟩]; rfl
theorem walkD_zipT {K : PySem.W.Frag} {H : Hp} {a b : Addr} {vs us : List V} {ds es : List D} (h : SqT K H a vs) (h' : SqT K H b us) (l : RpL K H ds vs) (l' : RpL K H es us) : WalkD true K (RZ.ItzT K a b) H (zipD ds es) where
  goes := fun i H' x hi => by
    rw [zipD_len, l.length, l'.length] at hi
    exact ⟨vs, us, vs[i], us[i], SqT.ext x h, SqT.ext x h', List.getElem?_eq_getElem _, List.getElem?_eq_getElem _⟩
  yld := fun i H' v H2 x hi hy => by
    obtain ⟨T, v1, v2, rfl, hT, rfl, e1, e2⟩ := hy
    obtain ⟨d, hd, p⟩ := l.getV (e1 vs (SqT.ext x h))
    obtain ⟨d', hd', p'⟩ := l'.getV (e2 us (SqT.ext x h'))
    have px := PExt.new (o := .tup [v1, v2]) hT
    exact ⟨px, _, zipD_get hd hd', .pair (SqT.of upd_same) (.cons ((p.ext x).ext px.ext) (.cons ((p'.ext x).ext px.ext) .nil))⟩
  stops := fun H' x => ⟨vs, us, SqT.ext x h, SqT.ext x h', by rw [zipD_len, l.length, l'.length]; omega⟩
theorem walkD_zipL {K : PySem.W.Frag} {H : Hp} {a b : Addr} {vs us : List V} {ds es : List D} (h : LsF K H a vs) (h' : LsF K H b us) (l : RpL K H ds vs) (l' : RpL K H es us) : WalkD true K (Itz K a b) H (zipD ds es) where
  goes := fun i H' x hi => by
    rw [zipD_len, l.length, l'.length] at hi
    exact ⟨vs, us, vs[i], us[i], (LsF.ext x h).sq, (LsF.ext x h').sq, List.getElem?_eq_getElem _, List.getElem?_eq_getElem _⟩
  yld := fun i H' v H2 x hi hy => by
    obtain ⟨T, v1, v2, rfl, hT, rfl, e1, e2⟩ := hy
    obtain ⟨d, hd, p⟩ := l.getV (e1 vs ((LsF.ext x h).sq))
    obtain ⟨d', hd', p'⟩ := l'.getV (e2 us ((LsF.ext x h').sq))
    have px := PExt.new (o := .tup [v1, v2]) hT
    exact ⟨px, _, zipD_get hd hd', .pair (SqT.of upd_same) (.cons ((p.ext x).ext px.ext) (.cons ((p'.ext x).ext px.ext) .nil))⟩
  stops := fun H' x => ⟨vs, us, (LsF.ext x h).sq, (LsF.ext x h').sq, by rw [zipD_len, l.length, l'.length]; omega⟩
theorem id_zip {elts : List Expr} {kk : Nat} {tpos : Pos} {ta tb : TD} (ha : ED X G a ta) (hb : ED X G b tb) (hg : Gl X "zip") (hm : X.mg "zip" = none)
    (hs : starEach [a, b] X.env = (false, eval a X.env) :: starEach [b] X.env := by rfl) (hs2 : starEach [b] X.env = (false, eval b X.env) :: starEach [] X.env := by rfl) (hpl : (backTo pos (starEach [b] X.env)).any (·.1) = false := by rfl) :
    ID X G true (.Tuple elts kk tpos) (.Call (.Name "zip" p) [a, b] [] pos) (iZipD ta tb) := by
  refine ⟨PI.weak (RZ.pi_zipA hg hm (pa_cons ha.pe (pa_cons hb.pe pa_nil hs2) hs) hs hpl) fun σ H R ⟨E, QE, rel, q, k⟩ => ⟨E, _, rel, q, fun x E1 v H1 q1 x1 r1 p1 => ⟨E1, _, r1, q1, fun y E2 u H2 q2 x2 r2 p2 => ?_⟩⟩⟩
  have p1 := p1.ext x2
  cases p1 with
  | tup h1 l1 =>
    cases p2 with
    | tup h2 l2 => exact ⟨_, _, _, _, rfl, .inr ⟨h1.1, h2.1, k _ _ _ _ q2 (x1.trans x2) r2 (walkD_zipT h1.1 h2.1 l1 l2)⟩⟩
    | _ => exact q2.elim
  | lst h1 l1 =>
    cases p2 with
    | lst h2 l2 => exact ⟨_, _, _, _, rfl,   .inl ⟨h1.sq, h2.sq, k _ _ _ _ q2 (x1.trans x2) r2 (walkD_zipL h1 h2 l1 l2)⟩⟩
    | _ => exact q2.elim
  | _ => cases p2 <;> exact q2.elim
end
end DL
set_option Elab.async false
set_option linter.all false
set_option maxRecDepth 100000
set_option maxHeartbeats 1000000
namespace DL
open PySem PySem.Spec PyProof.Rows L2
theorem ns {G : Gh} {l : List Nat} (h : G.slots = l) {i : Nat} (hd : i ∉ l) : i ∉ G.slots := by rw [h]; exact hd
theorem nsA {G : Gh} {l ms : List Nat} (h : G.slots = l) (hd : ∀ i ∈ ms, i ∉ l) : ∀ i ∈ ms, i ∉ G.slots := by rw [h]; exact hd
theorem u65 {k : Nat} {A : Around} (r : Room k A) : A.units + 65 < cLine := by have := r.un; omega
theorem bb_len : bootBuiltins "len" = some (.builtin "len") := by decide +kernel
theorem bb_abs : bootBuiltins "abs" = some (.builtin "abs") := by decide +kernel
theorem bb_max : bootBuiltins "max" = some (.builtin "max") := by decide +kernel
theorem bb_min : bootBuiltins "min" = some (.builtin "min") := by decide +kernel
theorem bb_all : bootBuiltins "all" = some (.builtin "all") := by decide +kernel
theorem bb_sorted : bootBuiltins "sorted" = some (.builtin "sorted") := by decide +kernel
theorem bb_tuple : bootBuiltins "tuple" = some (.type "tuple") := by decide +kernel
theorem bb_list : bootBuiltins "list" = some (.type "list") := by decide +kernel
theorem bb_int : bootBuiltins "int" = some (.type "int") := by decide +kernel
theorem bb_bool : bootBuiltins "bool" = some (.type "bool") := by decide +kernel
theorem bb_str : bootBuiltins "str" = some (.type "str") := by decide +kernel
end DL
set_option Elab.async false
set_option linter.all false
set_option maxRecDepth 100000
set_option maxHeartbeats 1000000
namespace DL
open PySem PySem.Spec PyProof.Rows L2
/-! ### reading: one statement after another, what follows a letter -/
theorem seq_step {t u : TSd} {DE : EndsD} {E : Env} (h : ∀ R : Env → Prop, (∀ E', u DE E' → R E') → t { DE with nx := R } E) : sSeq t u DE E := h _ fun _ h => h
theorem ifB {b : Bool} {A B : Prop} (h1 : b = true → A) (h2 : b = false → B) : if b = true then A else B := by
  cases b with
  | true => exact if_pos rfl ▸ h1 rfl
  | false => rw [if_neg Bool.false_ne_true]; exact h2 rfl
theorem ifT {b : Bool} {A B : Prop} (hb : b = true) (h1 : A) : if b = true then A else B := by rw [if_pos hb]; exact h1
theorem ifF {b : Bool} {A B : Prop} (hb : b = false) (h1 : B) : if b = true then A else B := by rw [hb, if_neg Bool.false_ne_true]; exact h1
/-! == of numbers, truths -/
theorem eqv_int (i j : Int) : PyData.eqv (.int i) (.int j) = decide (i = j) := by
  show (i == j) = decide (i = j)
  by_cases h : i = j
  · subst h; simp
  · simp [h]
theorem eqv_bool (i j : Bool) : PyData.eqv (.bool i) (.bool j) = (i == j) := rfl
theorem eqv_none : PyData.eqv .none .none = true := rfl
theorem eqv_tup (xs ys : List D) : PyData.eqv (.tuple xs) (.tuple ys) = PyData.eqvAll xs ys := by simp [PyData.eqv]
theorem shaped_int (i : Int) : SeqAt.shaped (.int i) = true := rfl
theorem shaped_bool (i : Bool) : SeqAt.shaped (.bool i) = true := rfl
theorem shaped_none : SeqAt.shaped .none = true := rfl
/-! items -/
theorem atI_at {α : Type} {xs : List α} {i : Int} {d : α} (h0 : 0 ≤ i) (h : xs[i.toNat]? = some d) : atI xs i = some d := by
  obtain ⟨hl, _⟩ := List.getElem?_eq_some_iff.mp h
  unfold atI ixN
  rw [if_pos h0, if_pos (by omega)]
  exact h
theorem atD_at {xs : List D} {i : Int} {d : D} {Q : D → Prop} (h0 : 0 ≤ i) (h : xs[i.toNat]? = some d) (q : Q d) : atD xs i Q := by unfold atD; rw [atI_at h0 h]; exact q
theorem atD_0 {x : D} {xs : List D} {Q : D → Prop} : atD (x :: xs) 0 Q = Q x := by
  unfold atD; rw [atI_at (d := x) (by decide) rfl]
theorem atD_1 {x y : D} {xs : List D} {Q : D → Prop} : atD (x :: y :: xs) 1 Q = Q y := by
  unfold atD; rw [atI_at (d := y) (by decide) rfl]
theorem atD_2 {x y z : D} {xs : List D} {Q : D → Prop} : atD (x :: y :: z :: xs) 2 Q = Q z := by
  unfold atD; rw [atI_at (d := z) (by decide) rfl]
theorem atD_3 {x y z u : D} {xs : List D} {Q : D → Prop} : atD (x :: y :: z :: u :: xs) 3 Q = Q u := by
  unfold atD; rw [atI_at (d := u) (by decide) rfl]
theorem putD_at {xs : List D} {i : Int} {d : D} {Q : List D → Prop} (h0 : 0 ≤ i) (h : i < xs.length) (q : Q (xs.set i.toNat d)) : putD xs i d Q := by
  unfold putD ixN; rw [if_pos h0, if_pos h]; exact q
theorem putD_0 {x d : D} {xs : List D} {Q : List D → Prop} : putD (x :: xs) 0 d Q = Q (d :: xs) := by
  unfold putD ixN; rw [if_pos (by decide), if_pos (by rw [List.length_cons]; omega)]; rfl
theorem getElem_map_int {ns : List Int} {i : Nat} (h : i < ns.length) : (ns.map PyData.int)[i]? = some (.int ns[i]) := by
  rw [List.getElem?_map, List.getElem?_eq_getElem h]; rfl
/-- a for by what holds between two turns; R: what follows a turn -/
theorem forD_inv {g : TGd} {tb : TSd} {DE : EndsD} {ds : List D} {E : Env} (I : Nat → Env → Prop) (h0 : I 0 E)
    (hs : ∀ (i : Nat) (d : D) (E : Env), ds[i]? = some d → I i E → ∀ R : Env → Prop, (∀ E', I (i + 1) E' → R E') → g d E fun E1 => tb { DE with nx := R, ct := R, bk := DE.nx } E1)
    (hd : ∀ E, I ds.length E → DE.nx E) : forD g tb ds DE E := by
  induction ds generalizing E I with
  | nil => exact hd E h0
  | cons d ds ih =>
    refine hs 0 d E rfl h0 _ fun E' h' => ?_
    exact ih (fun i => I (i + 1)) h' (fun i d E e q => hs (i + 1) d E (by simpa using e) q) fun E q => hd E (by simpa using q)
theorem for_inv {ti : TDs} {g : TGd} {tb : TSd} {DE : EndsD} {E : Env} {ds : List D} {E1 : Env} (h : ∀ Q : List D → Env → Prop, Q ds E1 → ti E Q) (I : Nat → Env → Prop) (h0 : I 0 E1)
    (hs : ∀ (i : Nat) (d : D) (E : Env), ds[i]? = some d → I i E → ∀ R : Env → Prop, (∀ E', I (i + 1) E' → R E') → g d E fun E1 => tb { DE with nx := R, ct := R, bk := DE.nx } E1)
    (hd : ∀ E, I ds.length E → DE.nx E) : sFor ti g tb DE E := h _ (forD_inv I h0 hs hd)
/-- behind it the environment is the one ahead (its own names were not in use, and hold nothing known) -/
theorem rest_wipe {E E' : Env} : ∀ {ms : List Nat}, wipeE E' ms = wipeE E ms → (∀ i ∈ ms, E[i]? = some .un ∨ (∃ x, E[i]? = some (.d x))) → restE E E' ms = E := by
  intro ms hw hE
  have hl : E'.length = E.length := by
    have : ∀ (F : Env) (l : List Nat), (wipeE F l).length = F.length := by
      intro F l
      induction l with
      | nil => rfl
      | cons v vs ih => show ((wipeE F vs).set v .un).length = _; rw [List.length_set, ih]
    rw [← this E' ms, hw, this]
  have wg : ∀ (F : Env) (l : List Nat) (i : Nat), i ∉ l → (wipeE F l)[i]? = F[i]? := by
    intro F l
    induction l with
    | nil => intro _ _; rfl
    | cons v vs ih => intro i h; show ((wipeE F vs).set v .un)[i]? = _; rw [List.getElem?_set_ne (fun z => h (by simp [z])), ih i fun z => h (List.mem_cons_of_mem _ z)]
  refine List.ext_getElem? fun i => ?_
  by_cases hi : i ∈ ms
  · have key : ∀ (l : List Nat), i ∈ l → (restE E E' l)[i]? = some (datOf E[i]?) := by
      intro l
      induction l with
      | nil => intro h; cases h
      | cons v vs ih =>
        intro h
        show ((restE E E' vs).set v (datOf E[v]?))[i]? = _
        have rl : ∀ (l : List Nat), (restE E E' l).length = E'.length := by
          intro l
          induction l with
          | nil => rfl
          | cons v vs ih => show ((restE E E' vs).set v _).length = _; rw [List.length_set, ih]
        by_cases hv : v = i
        · subst hv
          have : v < E.length := by
            rcases hE v hi with z | ⟨x, z⟩
            · exact (List.getElem?_eq_some_iff.mp z).1
            · exact (List.getElem?_eq_some_iff.mp z).1
          rw [List.getElem?_set_self (by rw [rl, hl]; exact this)]
        · rw [List.getElem?_set_ne hv]
          exact ih (by rcases List.mem_cons.mp h with q | q; exact absurd q.symm hv; exact q)
    rw [key ms hi]
    rcases hE i hi with z | ⟨x, z⟩
    · rw [z]; rfl
    · rw [z]; rfl
  · have rg : ∀ (l : List Nat), i ∉ l → (restE E E' l)[i]? = E'[i]? := by
      intro l
      induction l with
      | nil => intro _; rfl
      | cons v vs ih => intro h; show ((restE E E' vs).set v _)[i]? = _; rw [List.getElem?_set_ne (fun z => h (by simp [z])), ih fun z => h (List.mem_cons_of_mem _ z)]
    rw [rg ms hi, ← wg E' ms i hi, hw, wg E ms i hi]
/-- over typed items -/
theorem compD_map {α : Type} {g : TGd} {tt : TTd} {te : TD} {ms : List Nat} {W : Env} (enc : α → D) (p : α → Bool) (f : α → D) : ∀ (xs : List α) (acc : List D) (E : Env) (Q : List D → Env → Prop), wipeE E ms = W →
    (∀ x ∈ xs, ∀ R : Option D → Env → Prop, (∀ E', wipeE E' ms = W → R (if p x = true then some (f x) else none) E') → turnD g tt te (enc x) W R) → acc.length + xs.length ≤ sizeLine → (∀ E', wipeE E' ms = W → Q (acc ++ (xs.filter p).map f) E') → compD g tt te ms (xs.map enc) acc E Q
  | [], acc, E, Q, hE, _, _, q => by have := q E hE; rw [List.filter_nil, List.map_nil, List.append_nil] at this; exact this
  | x :: xs, acc, E, Q, hE, hf, hl, q => by
    show turnD g tt te (enc x) (wipeE E ms) _
    rw [hE]
    refine hf x (List.mem_cons_self ..) _ fun E' hE' => ?_
    rw [List.length_cons] at hl
    cases hp : p x with
    | false =>
      rw [if_neg Bool.false_ne_true]
      refine compD_map enc p f xs acc E' Q hE' (fun d hd => hf d (List.mem_cons_of_mem _ hd)) (by omega) fun E2 h2 => ?_
      have := q E2 h2
      rw [List.filter_cons_of_neg (by rw [hp]; exact Bool.false_ne_true)] at this; exact this
    | true =>
      rw [if_pos rfl]
      refine ⟨by omega, compD_map enc p f xs (acc ++ [f x]) E' Q hE' (fun d hd => hf d (List.mem_cons_of_mem _ hd)) (by rw [List.length_append]; simp; omega) fun E2 h2 => ?_⟩
      have := q E2 h2
      rw [List.filter_cons_of_pos hp] at this
      rw [List.append_assoc]; exact this
theorem comp_filter {α : Type} {ti : TDs} {g : TGd} {tt : TTd} {te : TD} {ms : List Nat} {E E1 : Env} {Q : List D → Env → Prop} (xs : List α) (enc : α → D) (p : α → Bool) (f : α → D) (hi : ∀ R : List D → Env → Prop, R (xs.map enc) E1 → ti E R)
    (hE : ∀ i ∈ ms, E1[i]? = some .un ∨ (∃ x, E1[i]? = some (.d x))) (hl : xs.length ≤ sizeLine)
    (hf : ∀ x ∈ xs, ∀ R : Option D → Env → Prop, (∀ E', wipeE E' ms = wipeE E1 ms → R (if p x = true then some (f x) else none) E') → turnD g tt te (enc x) (wipeE E1 ms) R) (q : Q ((xs.filter p).map f) E1) : tComp ti g tt te ms E Q :=
  hi _ (compD_map enc p f xs [] E1 _ rfl hf (by simpa using hl) fun E' hE' => by rw [rest_wipe hE' hE]; exact q)
theorem comp_map {α : Type} {ti : TDs} {g : TGd} {te : TD} {ms : List Nat} {E E1 : Env} {Q : List D → Env → Prop} (xs : List α) (enc : α → D) (f : α → D) (hi : ∀ R : List D → Env → Prop, R (xs.map enc) E1 → ti E R)
    (hE : ∀ i ∈ ms, E1[i]? = some .un ∨ (∃ x, E1[i]? = some (.d x))) (hl : xs.length ≤ sizeLine)
    (hf : ∀ x ∈ xs, ∀ R : D → Env → Prop, (∀ E', wipeE E' ms = wipeE E1 ms → R (f x) E') → g (enc x) (wipeE E1 ms) fun E1 => te E1 R) (q : Q (xs.map f) E1) : tComp ti g tTrue te ms E Q := by
  refine comp_filter xs enc (fun _ => true) f hi hE hl (fun x hx R hR => ?_) (by rw [List.filter_eq_self.mpr (fun _ _ => rfl)]; exact q)
  exact hf x hx (fun y E3 => R (some y) E3) hR
theorem un1 {E : Env} {i : Nat} (h : E[i]? = some .un) : ∀ j ∈ [i], E[j]? = some .un ∨ (∃ x, E[j]? = some (.d x)) := fun j hj => by
  rcases List.mem_cons.mp hj with rfl | z
  · exact .inl h
  · cases z
theorem un2 {E : Env} {i k : Nat} (h : E[i]? = some .un) (h' : E[k]? = some .un) : ∀ j ∈ [i, k], E[j]? = some .un ∨ (∃ x, E[j]? = some (.d x)) := fun j hj => by
  rcases List.mem_cons.mp hj with rfl | z
  · exact .inl h
  · exact un1 h' j z
end DL
set_option Elab.async false
set_option linter.all false
set_option maxRecDepth 100000
set_option maxHeartbeats 1000000
namespace DL
open PySem PySem.Spec PyProof.Rows L2
section
variable {X : Cx} {G : Gh} {a b c e : Expr} {es : List Expr} {pos p p1 p2 p3 : Pos} {x : Str}
/-! ### range(a, b, c): as an object, its len -/
def tLenRange (ta tb tc : TD) : TD := fun E Q => ta E fun x E1 => tb E1 fun y E2 => tc E2 fun z E3 => match x, y, z with
  | .int i, .int j, .int k => ∃ n : Nat, (k ≠ 0 ∧ k.natAbs < 1073741824) ∧ Builtin.Range.rangeSize i j k = n ∧ n < 2 ^ 62 ∧ Q (.int n) E3
  | _, _, _ => False
/-! range with a step, walked -/
def rangeCD (lo c : Int) (n : Nat) : List D := (List.range n).map fun i : Nat => PyData.int (lo + (i : Int) * c)
theorem walkD_rangeC {K : PySem.W.Frag} {H : Hp} {lo c : Int} {n : Nat} : WalkD false K (Itc lo c n) H (rangeCD lo c n) where
  goes := fun i H' x hi => (walk_rangeC (lo := lo) (c := c) (n := n)).goes i H' (by simpa [rangeCD] using hi) trivial
  yld := fun i H' v H2 x hi hy => by
    have hi' : i < n := by simpa [rangeCD] using hi
    obtain ⟨rfl, rfl⟩ := (walk_rangeC (lo := lo) (c := c) (n := n)).yields i H' v H2 hi' trivial hy
    exact ⟨PExt.refl _, _, by simp [rangeCD, hi'], .int _⟩
  stops := fun H' x => by
    have := (walk_rangeC (lo := lo) (c := c) (n := n)).stops H' trivial
    simpa [rangeCD] using this
def iRange3 (ta tb tc : TD) : TDs := fun E Q => ta E fun x E1 => tb E1 fun y E2 => tc E2 fun z E3 => match x, y, z with
  | .int i, .int j, .int k => ∃ n : Nat, RgC i j k n ∧ Q (rangeCD i k n) E3
  | _, _, _ => False
theorem id_range3 {tg : Expr} {ta tb tc : TD} (hg2 : Gl X "range") (hm2 : X.mg "range" = none) (ha : ED X G a ta) (hb : ED X G b tb) (hc : ED X G c tc)
    (hs : starEach [a, b, c] X.env = (false, eval a X.env) :: starEach [b, c] X.env := by rfl) (hs2 : starEach [b, c] X.env = (false, eval b X.env) :: starEach [c] X.env := by rfl) (hs3 : starEach [c] X.env = (false, eval c X.env) :: starEach [] X.env := by rfl)
    (hpl : (backTo p3 (starEach [b, c] X.env)).any (·.1) = false := by rfl) : ID X G false tg (.Call (.Name "range" p2) [a, b, c] [] p3) (iRange3 ta tb tc) := by
  refine ⟨PI.weak (pi_range3 hg2 hm2 (pa_cons ha.pe (pa_cons hb.pe (pa_cons hc.pe pa_nil hs3) hs2) hs) hs hpl) fun σ H Q ⟨E, QE, rel, q, k⟩ =>
    ⟨E, _, rel, q, fun x E1 v H1 q1 x1 r1 p1 => ⟨E1, _, r1, q1, fun y E2 u H2 q2 x2 r2 p2 => ⟨E2, _, r2, q2, fun z E3 w H3 q3 x3 r3 p3 => ?_⟩⟩⟩⟩
  cases p1 with
  | int i =>
    cases p2 with
    | int j =>
      cases p3 with
      | int m =>
        obtain ⟨n, hc, q3⟩ := q3
        exact ⟨i, j, m, n, rfl, hc, k _ _ _ _ q3 ((x1.trans x2).trans x3) r3 walkD_rangeC⟩
      | _ => exact q3.elim
    | _ => cases p3 <;> exact q3.elim
  | _ => cases p2 <;> cases p3 <;> exact q3.elim
/-- x, y, z = a, b, c: plain local names -/
theorem sd_par3 {i j l : Nat} {x y z : Str} {t : TPs} {px py pz pt : Pos} {kt k2 pt2} (hsl : ∀ n ∈ [i, j, l], n ∉ G.slots) (hc : X.calm = true) (hN : X.N.Nodup) (hi : X.N[i]? = some x) (hj : X.N[j]? = some y) (hl : X.N[l]? = some z) (hij : i ≠ j) (hil : i ≠ l) (hjl : j ≠ l)
    (hx : X.env.scope.names.lookup x = some .local) (hy : X.env.scope.names.lookup y = some .local) (hz : X.env.scope.names.lookup z = some .local) (ha : EPs X G [a, b, c] t)
    (hw : swappedStores [.Tuple [.Name x px, .Name y py, .Name z pz] kt pt] (.Tuple [a, b, c] k2 pt2) X.env = pure (some [x, y, z]) := by rfl)
    (hs : swapsWithSole [.Tuple [.Name x px, .Name y py, .Name z pz] kt pt] (.Tuple [a, b, c] k2 pt2) pos.line X.env = pure false := by rfl) :
    SD X G (.Assign [.Tuple [.Name x px, .Name y py, .Name z pz] kt pt] (.Tuple [a, b, c] k2 pt2) pos) (sPar [i, j, l] t) :=
  ⟨PS.weak (ps_par3 hc hN hi hj hl hij hil hjl hx hy hz ha.pa hw hs) fun F σ H ⟨E, DE, r, q, k1, k2, k3, k4⟩ => ⟨E, _, r, q, fun ss E1 vs H1 ex q1 x1 r1 p1 => by
    obtain ⟨hl, q1⟩ := q1
    have hv : vs.length = 3 := by rw [← p1.length, ← hl]; rfl
    match vs, hv, p1 with
    | [v, w, u], _, p1 => exact ⟨v, w, u, rfl, k1 _ _ _ q1 x1 (RelX.setAll hsl hl r1 p1)⟩⟩⟩
/-! ### slices by numbers from 0 on -/
theorem sIx_int {n d : Nat} {i : Int} (h : 0 ≤ i) : HT.sIx n d (some i) = min i.toNat n := by
  show (if i < 0 then (i + (n : Int)).toNat else min i.toNat n) = _
  rw [if_neg (by omega)]
theorem cut_to {xs : List D} {i : Int} (h : 0 ≤ i) : cutD xs none (some i) = xs.take i.toNat := by
  unfold cutD
  rw [HT.sIx_none, sIx_int h]
  show xs.take (min i.toNat xs.length - 0) = _
  rw [Nat.sub_zero]
  rcases Nat.le_total i.toNat xs.length with z | z
  · rw [Nat.min_eq_left z]
  · rw [Nat.min_eq_right z, List.take_of_length_le (Nat.le_refl _), List.take_of_length_le z]
theorem cut_from {xs : List D} {i : Int} (h : 0 ≤ i) : cutD xs (some i) none = xs.drop i.toNat := by
  unfold cutD
  rw [HT.sIx_none, sIx_int h]
  rcases Nat.le_total i.toNat xs.length with z | z
  · rw [Nat.min_eq_left z, List.take_of_length_le (by rw [List.length_drop]; omega)]
  · rw [Nat.min_eq_right z, List.drop_eq_nil_of_le (Nat.le_refl _), List.drop_eq_nil_of_le z, List.take_nil]
theorem cut_mid {xs : List D} {i j : Int} (h : 0 ≤ i) (h' : 0 ≤ j) : cutD xs (some i) (some j) = (xs.take j.toNat).drop i.toNat := by
  unfold cutD
  rw [sIx_int h, sIx_int h', List.drop_take]
  rcases Nat.le_total i.toNat xs.length with z | z
  · rw [Nat.min_eq_left z]
    rcases Nat.le_total j.toNat xs.length with y | y
    · rw [Nat.min_eq_left y]
    · rw [Nat.min_eq_right y, List.take_of_length_le (by rw [List.length_drop]; omega), List.take_of_length_le (by rw [List.length_drop]; omega)]
  · rw [Nat.min_eq_right z, List.drop_eq_nil_of_le (Nat.le_refl _), List.drop_eq_nil_of_le z, List.take_nil, List.take_nil]
end
end DL
set_option Elab.async false
set_option linter.all false
set_option maxRecDepth 100000
namespace DL
open PySem PySem.Spec PyProof.Rows L2
/-- a def that nobody calls at this height -/
theorem no_ok {P : Program} {w : World} {K : PySem.W.Frag} {mg : Str → Option Value} {base : Heap} {x qual : Str} {st : Stmt} {f : Addr} {fd : FuncData} {N ps : List Str} {k : Nat} (F : Fun K x qual st f fd) (Sc : FnScope N ps (defScope st)) : FnOk P w K mg base CX0 (k + 1) f fd ps (spL K fun _ _ => False) :=
  F.ok Sc (fun vs H Q E ⟨_, _, _, h, _⟩ => h.elim) (fun cdv A outer s H vs Q E hr ⟨_, _, _, h, _⟩ => h.elim)
/-- the end of a law: the law's def keeps the promise spLaw-like on every script -/
theorem law_walk {l : PySem.W.OpenLaw} {n k : Nat} {q : Program} {loose : List Str} {XP : (Str → Option Value) → Heap → Prop} {YP : World → Heap → Prop} {d : DefRec} {KK : Params → PySem.W.Frag} {sp : SpD} {x : Str} (hm : l.most = some n) (hl : n ≤ sizeLine) (hdf : d.params.defaults = []) (rm : Room k callerA) (hY : ∀ (w : World) (h : Heap), YP w h → (KK w.params).In h)
    (F : ∀ (w : World) (mg : Str → Option Value) (fa : Addr) (h : Heap), (KK w.params).In h → h.Ns mainGlobals mg → mg d.name = some (.ref fa) → ∃ fd : FuncData, (∀ (s : Shared) (u : Value), BindsTo s fd ⟨[u], []⟩ [(x, u)]) ∧ ∀ base : Heap, (KK w.params).In base → base.Ns mainGlobals mg → FnOk l.prog w (KK w.params) mg base L2.CX0 k fa fd [x] (spL (KK w.params) sp))
    (hsp : ∀ (ns : List Int) (Q : D → List S → Prop), ns.length ≤ n → (∀ z ∈ ns, Builtin.Int.intBits z ≤ 1048576) → Q (.bool true) [] → sp [.d (.list (ns.map PyData.int))] Q) :
    PySem.W.WalkO q loose XP YP l.row.toRowW d [] (fun f vs => PySem.call f vs) := by
  refine Att.attach_callB hm hdf fun w s₀ s₁ mg mb fa o pm cd doc a vs ns G Y ho hd hcd hmg hobj hints hlen hbits hg => ?_
  have KX := hY w _ Y
  obtain ⟨fd, hb, hF⟩ := F w mg fa _ KX G.T.g hmg
  refine law_call KX G.T.g G.T.b G.T.builtins G.T.nolimit hg hobj hints (Nat.le_trans hlen hl) rm hF hb (fun H hO hS => ?_) (fun H e s' h => h)
  have hF : LsF (KK w.params) H a (ns.map V.int) := by
    rcases hS with (z | z) | ⟨ob, its, m, e, hc, hdd, hdt, hz, r⟩
    · rcases hO a with y | ⟨ob, xs, y⟩
      · rw [z] at y; cases y
      · rw [z] at y; cases y
    · exact .inl z
    · have e2 := KX _ _ e
      rw [hobj] at e2
      cases e2
      cases hdt
      exact .inr ⟨_, _, e, hz, r⟩
  refine ⟨[.d (.list (ns.map PyData.int))], [], fun d outs => d = .bool true, hsp ns _ hlen hbits rfl, .d (.lst hF (RpL.ofInts ns)) .nil, List.nodup_nil, fun d outs v H' h _ _ r => ?_⟩
  subst h
  cases r
  rfl
end DL
set_option Elab.async false
set_option linter.all false
set_option maxRecDepth 100000
set_option maxHeartbeats 3200000
/-! DL13: set(xs) of a list of ints, sorted(set(xs)), len(set(xs)). -/
namespace DL
open PySem PySem.Spec PyProof.Rows L2
end DL
namespace DL
open PySem PySem.Spec PyProof.Rows L2
section
variable {X : Cx} {G : Gh} {a : Expr} {pos p p1 p2 p3 : Pos}
/-- sorted(set(xs)), xs a list of fewer than 64 ints -/
def tSortSet (ta : TD) : TLd := fun E Q => ta E fun x E1 => match x with
  | .list xs => ∃ ns : List Int, xs = ns.map PyData.int ∧ ns.length < 64 ∧ ∀ zs : List Int, zs.Pairwise (· < ·) → (∀ k, k ∈ zs ↔ k ∈ ns) → Q (zs.map PyData.int) E1
  | _ => False
/-- len(set(xs)) -/
def tLenSet (ta : TD) : TD := fun E Q => ta E fun x E1 => match x with
  | .list xs => ∃ ns : List Int, xs = ns.map PyData.int ∧ ns.Nodup ∧ ns.length ≤ 4000 ∧ Q (.int (ns.length : Nat)) E1
  | _ => False
end
end DL
set_option Elab.async false
set_option linter.all false
set_option maxRecDepth 100000
/-! DL14: plain laws of data: shaped, == of encoded lists. -/
namespace DL
open PySem PySem.Spec PyProof.Rows L2
/-- n lists or tuples deep at most, no dict -/
def shOk : Nat → D → Bool
  | _, .none => true
  | _, .bool _ => true
  | _, .int _ => true
  | _, .str x => PyData.strOk x
  | n + 1, .tuple ds => ds.all (shOk n)
  | n + 1, .list ds => ds.all (shOk n)
  | _, _ => false
theorem shOk_all {n : Nat} (ih : ∀ d, shOk n d = true → d.canLay0 = true ∧ d.depth ≤ n) : ∀ ds : List D, ds.all (shOk n) = true → PyData.canLayAll0 ds = true ∧ PyData.depthAll ds ≤ n
  | [], _ => ⟨rfl, Nat.zero_le _⟩
  | d :: ds, h => by
    rw [List.all_cons, Bool.and_eq_true] at h
    have ⟨a, b⟩ := ih d h.1
    have ⟨c, e⟩ := shOk_all ih ds h.2
    exact ⟨by rw [PyData.canLayAll0, a, c]; rfl, by rw [PyData.depthAll]; omega⟩
theorem shOk_spec : ∀ (n : Nat) (d : D), shOk n d = true → d.canLay0 = true ∧ d.depth ≤ n
  | n, .none, _ => ⟨rfl, Nat.zero_le _⟩
  | n, .bool _, _ => ⟨rfl, Nat.zero_le _⟩
  | n, .int _, _ => ⟨rfl, Nat.zero_le _⟩
  | n, .str x, h => ⟨by cases n <;> exact h, Nat.zero_le _⟩
  | n + 1, .tuple ds, h => by
    have ⟨a, b⟩ := shOk_all (shOk_spec n) ds h
    exact ⟨by rw [PyData.canLay0]; exact a, by rw [PyData.depth]; omega⟩
  | n + 1, .list ds, h => by
    have ⟨a, b⟩ := shOk_all (shOk_spec n) ds h
    exact ⟨by rw [PyData.canLay0]; exact a, by rw [PyData.depth]; omega⟩
  | 0, .tuple _, h => by cases h
  | 0, .list _, h => by cases h
  | 0, .dict _, h => by cases h
  | n + 1, .dict _, h => by cases h
theorem shaped_of {n : Nat} {d : D} (h : shOk n d = true) (hn : n ≤ 64 := by decide) : SeqAt.shaped d = true := by
  have ⟨a, b⟩ := shOk_spec n d h
  show (d.canLay0 && decide (d.depth ≤ 64)) = true
  rw [a, decide_eq_true (show d.depth ≤ 64 by omega)]; rfl
theorem shOk_lst {n : Nat} {ds : List D} : shOk (n + 1) (.list ds) = ds.all (shOk n) := rfl
theorem shOk_tup {n : Nat} {ds : List D} : shOk (n + 1) (.tuple ds) = ds.all (shOk n) := rfl
theorem all_enc {α : Type} {n : Nat} {e : α → D} (he : ∀ a, shOk n (e a) = true) (xs : List α) : (xs.map e).all (shOk n) = true := by
  rw [List.all_map]; exact List.all_eq_true.mpr fun a _ => he a
theorem all_ints {n : Nat} (ns : List Int) : (ns.map PyData.int).all (shOk n) = true := all_enc (fun _ => by cases n <;> rfl) ns
theorem shaped_ti (ns : List Int) : SeqAt.shaped (.tuple (ns.map PyData.int)) = true := shaped_of (n := 1) (by rw [shOk_tup]; exact all_ints ns)
theorem eqvAll_enc {α : Type} [DecidableEq α] {e : α → D} (he : ∀ a b, PyData.eqv (e a) (e b) = decide (a = b)) : ∀ xs ys : List α, PyData.eqvAll (xs.map e) (ys.map e) = decide (xs = ys)
  | [], [] => rfl
  | [], _ :: _ => rfl
  | _ :: _, [] => rfl
  | x :: xs, y :: ys => by
    rw [List.map_cons, List.map_cons, PyData.eqvAll, he, eqvAll_enc he xs ys]
    by_cases h1 : x = y <;> by_cases h2 : xs = ys <;> simp [h1, h2]
theorem eqv_ti (ns ms : List Int) : PyData.eqv (.tuple (ns.map PyData.int)) (.tuple (ms.map PyData.int)) = decide (ns = ms) := by rw [eqv_tup, eqvAll_enc eqv_int]
end DL
set_option Elab.async false
set_option linter.all false
set_option maxRecDepth 100000
set_option maxHeartbeats 1000000
/-! DL15: sorted(xs), sorted(xs, reverse=b): lists and tuples of any data that is alike. -/
namespace DL
open PySem PySem.Spec PyProof.Rows L2
section
variable {prog : Program} {w : World} {A : Around} {E : Value → Shared → Prop} {s : Shared} {β : Type} {vs : List Value} {bs : List β} {enc : β → PyData} {R : Value → β → Prop}
/-- what is made of a list's or a tuple's items: a new list, in the very next place -/
theorem collect_one {l : Addr} {T : String} {o : Obj} {n : Nat} {Q : List Value → Shared → Prop} (hT : T = "list" ∨ T = "tuple") (ho : s.heap.get? l = some o) (hc : o.cls = .type T) (hd : o.data = .seq vs.toArray n) (small : vs.length ≤ sizeLine)
    (fin : Q vs { s with heap := (s.heap.push (seqObj "list" #[] 0)).update s.heap.objs.size (Obj.mapSeq (· ++ vs.toArray)) }) : wpAny (model prog w) A (collect (.ref l)) Q E s := by
  have new : (s.heap.push (seqObj "list" #[] 0)).get? s.heap.objs.size = some (seqObj "list" #[] 0) := Heap.get?_push_size _ rfl
  have was : (s.heap.push (seqObj "list" #[] 0)).get? l = some o := Heap.get?_push_of_some _ ho
  unfold collect; refine wpAny_bind (wpAny_runValue (codeAny_builtin entry_proto_collect' ?_))
  show wpAny _ _ (do again (.builtin "list.__iadd__" ⟨[← newList [], Value.ref l], []⟩)) _ _ s
  refine wpAny_bind (wpAny_newList (wpAny_pure ⟨Code.quiet_builtin _ (by decide +kernel), codeAny_builtin entry_list_iadd' ?_⟩) (Nat.zero_le _))
  show wpAny _ _ (Builtin.List.listExtendWith (Value.ref s.heap.objs.size) (Value.ref l) (Value.ref s.heap.objs.size)) _ _ { s with heap := s.heap.push (seqObj "list" #[] 0) }
  unfold Builtin.List.listExtendWith; refine wpAny_bind (wpAny_typeOf (T := T) ⟨o, was, hc⟩ ?_)
  rw [if_pos (by rcases hT with rfl | rfl; · rw [show (Value.type "list" == Value.type "list") = true from rfl, Bool.or_true, Bool.true_or]
                 · rw [show (Value.type "tuple" == Value.type "tuple") = true from rfl, Bool.or_true])]; refine wpAny_bind (listItems_at was hd ?_); refine wpAny_bind (listItems_at (xs := #[]) (n := 0) new rfl ?_)
  rw [if_neg (by simp)]
  refine wpAny_bind (listUpdate_at (xs := #[]) (n := 0) new rfl ?_ (Nat.zero_le _) (by show (#[] ++ vs.toArray).size ≤ sizeLine + 1; simp only [Array.size_append, List.size_toArray, List.length_nil]; omega)); refine wpAny_pure ?_
  show wpAny (model prog w) A (do
      let ob ← load s.heap.objs.size
      match ob.data with | .seq xs _ => pure xs.toList | _ => unsupported "internal:collect") Q E { s with heap := (s.heap.push (seqObj "list" #[] 0)).update s.heap.objs.size (Obj.mapSeq (· ++ vs.toArray)) }
  refine wpAny_bind (wpAny_load (get?_update_seq new _) ?_); show wpAny _ _ (pure ((#[] : Array Value) ++ vs.toArray).toList) Q E _
  have e0 : ((#[] : Array Value) ++ vs.toArray).toList = vs := by simp
  rw [e0]; exact wpAny_pure fin
theorem sorted_seqD {l : Addr} {T : String} {o : Obj} {n : Nat} {rv : Bool} {kw : List (Str × Value)} {Q : Value → Shared → Prop} (hT : T = "list" ∨ T = "tuple") (ho : s.heap.get? l = some o) (hc : o.cls = .type T) (hd : o.data = .seq vs.toArray n)
    (hkw : ∀ p, Builtin.«list.sort» ⟨[.ref p], kw⟩ = Builtin.«list.sort» ⟨[.ref p], [(Str.ofString "reverse", .bool rv)]⟩) (ok1 : argsOk "sorted" ⟨[.ref l], kw⟩) (ok2 : ∀ x, argsOk "list.sort" ⟨[.ref x], kw⟩)
    (e : PySem.W.EachIs R vs bs) (er : PySem.W.EachIs (fun v b => ∃ as, Reads s.heap v (enc b) as) vs bs) (hal : PySem.W.AllAlike (bs.map enc)) (hk : PySem.W.Sortable (bs.map enc)) (hL : vs.length ≤ sizeLine) (hu : ∀ b, b ∈ bs → A.units + 2 + (enc b).depth < cLine)
    (h : ∀ h' p out c, (∀ b o, s.heap.get? b = some o → h'.get? b = some o) → s.heap.objs.size ≤ p → h'.get? p = some { cls := .type "list", data := .seq (List.toArray out) c } → PySem.W.EachIs R out (bs.mergeSort (PySem.W.dataLe rv enc)) → Q (.ref p) { s with heap := h' }) :
    wpAny (model prog w) A (call (.builtin "sorted") [.ref l] kw) Q E s := by
  refine call_function_entry_kw kind_sorted plain_sorted entry_sorted ok1 ?_
  unfold Builtin.«sorted»
  refine wpAny_bind (m := checkCount "sorted" 1 1 _) (wpAny_pure ?_)
  refine wpAny_bind (collect_one hT ho hc hd hL ?_)
  generalize hh1 : (s.heap.push (seqObj "list" #[] 0)).update s.heap.objs.size (Obj.mapSeq (· ++ vs.toArray)) = h1
  have le1 : s.heap.objs.size ≤ h1.objs.size := by rw [← hh1, Heap.size_update, size_push']; exact Nat.le_succ _
  have k1 : ∀ b u, s.heap.get? b = some u → h1.get? b = some u := fun b u q => by
    rw [← hh1, Heap.get?_update_ne _ _ _ _ (Nat.ne_of_lt (Heap.lt_size q))]; exact Heap.get?_push_of_some _ q
  refine wpAny_bind (wpAny_newList ?_ hL)
  have hp : (h1.push (seqObj "list" vs.toArray 0)).get? h1.objs.size = some (seqObj "list" vs.toArray 0) := Heap.get?_push_size _ rfl
  have old : ∀ b u, s.heap.get? b = some u → b ≠ h1.objs.size ∧ (h1.push (seqObj "list" vs.toArray 0)).get? b = some u := fun b u q => ⟨Nat.ne_of_lt (Heap.lt_size (k1 b u q)), Heap.get?_push_of_some _ (k1 b u q)⟩
  refine wpAny_bind (wpAny_holding (wpAny_call_entry_kw slot_list_sort ⟨_, hp, rfl⟩ entry_list_sort ?body (ok2 _)))
  case body =>
    have er' : PySem.W.EachIs (fun v b => ∃ as, Reads (PySem.W.sortingHeap (h1.push (seqObj "list" vs.toArray 0)) h1.objs.size vs) v (enc b) as) vs bs := er.mono fun _ _ ⟨as, r⟩ => ⟨as, PyProof.Rows.Reads.keeps (fun b u q => PySem.W.sortingHeap_old (old b u q).1 (old b u q).2) r⟩
    show wpAny (model prog w) A.in1.in1 (Builtin.«list.sort» ⟨[.ref h1.objs.size], kw⟩) _ _ _
    rw [hkw]
    refine PySem.W.list_sort_rev_vals (κ := PySem.W.dataKind (PySem.W.sortingHeap (h1.push (seqObj "list" vs.toArray 0)) h1.objs.size vs) (bs.map enc)) hp (PySem.W.SortsAt.data (s := { s with heap := PySem.W.sortingHeap (h1.push (seqObj "list" vs.toArray 0)) h1.objs.size vs }) (PySem.W.each_map (R := fun v d => ∃ as, Reads (PySem.W.sortingHeap (h1.push (seqObj "list" vs.toArray 0)) h1.objs.size vs) v d as) enc er') hal hk (PySem.W.bound_map hu)) hL ⟨_, rfl, wpAny_pure ⟨_, rfl, ?_⟩⟩
    obtain ⟨c, hc2⟩ := sortedHeap_at (vs := vs) (out := (PySem.W.sortVals (PySem.W.dataKind (PySem.W.sortingHeap (h1.push (seqObj "list" vs.toArray 0)) h1.objs.size vs) (bs.map enc)) rv vs vs).toArray) hp
    refine h _ _ _ c (fun b u q => ?_) le1 hc2 (PySem.W.sortVals_data rv e er' hal)
    rw [sortedHeap_old (old b u q).1 (Heap.lt_size (old b u q).2)]
    exact (old b u q).2
end
section
variable {X : Cx} {G : Gh}
theorem each_pairs {K : PySem.W.Frag} {H : Hp} : ∀ {ds : List D} {us : List V} {vs : List Value}, RpL K H ds us → Vals us vs → PySem.W.EachIs (fun v (b : V × D) => RelV b.1 v) vs (us.zip ds)
  | _, _, _, .nil, .nil => .nil
  | _, _, _, .cons _ l, .cons r t => .cons r (each_pairs l t)
theorem each_reads {pins : List (Addr × Obj)} {s : Shared} {σ : St} {H : Hp} (I : Inv X pins σ H s) : ∀ {ds : List D} {us : List V} {vs : List Value}, (∀ d ∈ ds, d.canLay0 = true) → RpL X.K H ds us → Vals us vs → PySem.W.EachIs (fun v (b : V × D) => ∃ as, Reads s.heap v b.2 as) vs (us.zip ds)
  | _, _, _, _, .nil, .nil => .nil
  | _, _, _, z, .cons h l, .cons r t => .cons (Dp.reads I _ _ _ (h.dp (z _ (List.mem_cons_self ..))) r) (each_reads I (fun d hd => z d (List.mem_cons_of_mem _ hd)) l t)
theorem each_vals : ∀ {bs : List (V × D)} {vs : List Value}, PySem.W.EachIs (fun v (b : V × D) => RelV b.1 v) vs bs → Vals (bs.map (·.1)) vs
  | _, _, .nil => .nil
  | _, _, .cons r t => .cons r (each_vals t)
theorem zip_rp {K : PySem.W.Frag} {H : Hp} : ∀ {ds : List D} {us : List V}, RpL K H ds us → ∀ b ∈ us.zip ds, Rp K H b.2 b.1
  | _, _, .nil, b, hb => by simp at hb
  | _, _, .cons r l, b, hb => by
    rw [List.zip_cons_cons] at hb
    rcases List.mem_cons.mp hb with e | e
    · subst e; exact r
    · exact zip_rp l b e
theorem rp_zip {K : PySem.W.Frag} {H : Hp} : ∀ {bs : List (V × D)}, (∀ b ∈ bs, Rp K H b.2 b.1) → RpL K H (bs.map (·.2)) (bs.map (·.1))
  | [], _ => .nil
  | b :: bs, h => .cons (h b List.mem_cons_self) (rp_zip fun c hc => h c (List.mem_cons_of_mem _ hc))
theorem zip_snd2 {K : PySem.W.Frag} {H : Hp} {ds : List D} {us : List V} (l : RpL K H ds us) : (us.zip ds).map (·.2) = ds := by
  have := l.length
  rw [List.map_snd_zip (by omega)]
theorem le_snd (rv : Bool) : ∀ a b : V × D, PySem.W.dataLe rv (fun b : V × D => b.2) a b = PySem.W.dataLe rv (fun d : D => d) a.2 b.2 := fun _ _ => rfl
/-- sorted: the data in order -/
def sortD (rv : Bool) (xs : List D) : List D := xs.mergeSort (PySem.W.dataLe rv fun d : D => d)
def sortOk (xs : List D) : Prop := PySem.W.AllAlike xs ∧ PySem.W.Sortable xs ∧ ∀ d ∈ xs, d.depth ≤ 60 ∧ d.canLay0 = true
theorem sorted_run {rv : Bool} {kw : List (Str × Value)} (hu : X.A.units + 65 < cLine) {pins : List (Addr × Obj)} {s : Shared} {σ : St} {H : Hp} {a : Addr} {us : List V} {ds : List D} {Q : VK} (I : Inv X pins σ H s)
    (hs : SqL X.K H a us ∨ SqT X.K H a us) (l : RpL X.K H ds us) (ok : sortOk ds)
    (hkw : ∀ p, Builtin.«list.sort» ⟨[.ref p], kw⟩ = Builtin.«list.sort» ⟨[.ref p], [(Str.ofString "reverse", .bool rv)]⟩) (ok1 : argsOk "sorted" ⟨[.ref a], kw⟩) (ok2 : ∀ x, argsOk "list.sort" ⟨[.ref x], kw⟩)
    (q : ∀ ws p, H p = none → RpL X.K H (sortD rv ds) ws → Q (.ref p) (upd H p (.lst ws))) : wpAny (model X.prog X.w) X.A (call (.builtin "sorted") [.ref a] kw) (EP X pins σ Q) X.xe s := by
  obtain ⟨T, o, n, its, hT, ho, hc, hd, r, hz⟩ : ∃ (T : String) (o : Obj) (n : Nat) (its : List Value), (T = "list" ∨ T = "tuple") ∧ s.heap.get? a = some o ∧ o.cls = .type T ∧ o.data = .seq its.toArray n ∧ Vals us its ∧ us.length ≤ sizeLine := by
    rcases hs with hs | hs
    · obtain ⟨its, r, ⟨o, n, ho, hc, _, hd⟩, hz⟩ := I.list hs
      exact ⟨"list", o, n, its, .inl rfl, ho, hc, hd, r, hz⟩
    · obtain ⟨its, r, ⟨o, ho, hc, n, hd⟩, hz⟩ := I.tuple hs
      exact ⟨"tuple", o, n, its, .inr rfl, ho, hc, hd, r, hz⟩
  have e2 := zip_snd2 l
  refine sorted_seqD (enc := fun b : V × D => b.2) (R := fun v b => RelV b.1 v) (bs := us.zip ds) hT ho hc hd hkw ok1 ok2 (each_pairs l r) (each_reads I (fun d hd => (ok.2.2 d hd).2) l r) (by rw [e2]; exact ok.1) (by rw [e2]; exact ok.2.1) (by rw [← r.length]; exact hz) (fun b hb => ?_) fun h' p out c k1 hp hp2 eo => ?_
  · have := (ok.2.2 b.2 (by rw [← e2]; exact List.mem_map_of_mem hb)).1; omega
  · have rv1 := each_vals eo
    have hn : H p = none := I.hok.fresh hp
    have mem : ∀ b ∈ (us.zip ds).mergeSort (PySem.W.dataLe rv fun b : V × D => b.2), Rp X.K H b.2 b.1 := fun b hb => zip_rp l b ((List.mergeSort_perm _ _).mem_iff.mp hb)
    have e3 : ((us.zip ds).mergeSort (PySem.W.dataLe rv fun b : V × D => b.2)).map (·.2) = sortD rv ds := by
      unfold sortD
      rw [PySem.W.sort_maps (s := PySem.W.dataLe rv fun d : D => d) (fun b : V × D => b.2) (fun a _ b _ => le_snd rv a b), e2]
    have hr := rp_zip mem
    rw [e3] at hr
    have hlen : (((us.zip ds).mergeSort (PySem.W.dataLe rv fun b : V × D => b.2)).map (·.1)).length ≤ sizeLine := by
      rw [List.length_map, (List.mergeSort_perm _ _).length_eq, List.length_zip]; omega
    exact ⟨.ref p, upd H p (.lst _), I.laid (t' := s.toks) k1 hp ⟨hlen, out, c, rv1, hp2⟩, rfl, q _ p hn hr⟩
def caSorted : CaL := fun ds Q => match ds with
  | [.list xs] => sortOk xs ∧ Q (sortD false xs)
  | [.tuple xs] => sortOk xs ∧ Q (sortD false xs)
  | _ => False
theorem cr_sortedD (hu : X.A.units + 65 < cLine) : CallR X (.builtin "sorted") (fun vs H Q => ∃ (a : Addr) (us : List V) (ds : List D), vs = [.ref a] ∧ (SqL X.K H a us ∨ SqT X.K H a us) ∧ RpL X.K H ds us ∧ sortOk ds ∧ ∀ ws p, H p = none → RpL X.K H (sortD false ds) ws → Q (.ref p) (upd H p (.lst ws))) := by
  intro pins s σ H vs us Q I r h
  obtain ⟨a, ws, ds, rfl, hs, l, ok, q⟩ := h
  obtain rfl := Vals.ref1 r
  exact DL.sorted_run hu I hs l ok (fun p => PySem.W.plain_is_rev p) (args_sorted1 _) (fun _ => args_list_sort _) q
theorem cd_sorted (hu : X.A.units + 65 < cLine) : CaLD X (.builtin "sorted") caSorted := ⟨_, cr_sortedD hu, fun ds vs H QD Q hd q k => by
  match ds, q, hd with
  | [.list xs], q, hd =>
    obtain ⟨v, rfl, h⟩ := hd.one
    obtain ⟨a, us, rfl, hs, l⟩ := h.list
    exact ⟨a, us, xs, rfl, .inl hs, l, q.1, fun ws p hp hr => k _ _ _ q.2 hp hr⟩
  | [.tuple xs], q, hd =>
    obtain ⟨v, rfl, h⟩ := hd.one
    obtain ⟨a, us, rfl, hs, l⟩ := h.tuple
    exact ⟨a, us, xs, rfl, .inr hs, l, q.1, fun ws p hp hr => k _ _ _ q.2 hp hr⟩⟩
end
end DL
set_option Elab.async false
set_option linter.all false
set_option maxRecDepth 100000
set_option maxHeartbeats 1000000
/-! DL16: enumerate(t) of a tuple; count, index. -/
namespace DL
open PySem PySem.Spec PyProof.Rows L2 AutoSeq1
section
theorem meets_enumT (l : Addr) (items : Array Value) (n : Nat) (dct : Option Addr) (sl : Array (Option Value)) :
    Meets (Builtin.«enumerate.__new__» ⟨[.type "enumerate", .ref l], []⟩) (fun _ R s => s.heap.get? l = some { cls := .type "tuple", dict := dct, data := .seq items n, slots := sl } ∧
      R (.ok (.ret (.ref (s.heap.push { cls := .type "tuple_iterator", data := .fields #[.ref l, .int 0 0] }).objs.size)))
        { s with heap := (s.heap.push { cls := .type "tuple_iterator", data := .fields #[.ref l, .int 0 0] }).push { cls := .type "enumerate", data := .fields #[.none, .bool false, .ref s.heap.objs.size, rawInt 0, .none, .none] } }) :=
  .of_wp fun prog w A R s h => by
    obtain ⟨hp, g, d, tk, os⟩ := s; obtain ⟨hl, h⟩ := h
    have subE := sub_enumerate; have isT : Heap.IsTuple (Shared.heap ⟨hp, g, d, tk, os⟩) l items := ⟨_, hl, rfl, n, rfl⟩
    wp_walk using wpAny_loadPart' hl
    refine wpAny_stack_any fun st => wpAny_pure ?_
    split
    · rename_i c _ _ _ _ _
      cases (c == Value.type "enumerate") <;> (wp_walk using wpAny_loadPart' hl, wpAny_pyIter_tuple isT; exact ⟨_, rfl, h⟩)
    · wp_walk using wpAny_loadPart' hl, wpAny_pyIter_tuple isT; exact ⟨_, rfl, h⟩
variable {prog : Program} {w : World} {A : Around} {E : Value → Shared → Prop} {s : Shared}
theorem call_enumT {l : Addr} {items : Array Value} {Q : Value → Shared → Prop} (hL : s.heap.IsTuple l items)
    (fin : ∀ h', IsEnum h' (s.heap.objs.size + 1) s.heap.objs.size 0 .none → h'.IsTupleIter s.heap.objs.size l 0 → (∀ b o, s.heap.get? b = some o → h'.get? b = some o) → Q (.ref (s.heap.objs.size + 1)) { s with heap := h' }) :
    wpAny (model prog w) A (call (.type "enumerate") [.ref l]) Q E s := by
  obtain ⟨⟨c, dct, dt, sl⟩, hl, hc, n, hd⟩ := hL
  obtain rfl : c = .type "tuple" := hc
  obtain rfl : dt = .seq items n := hd
  refine callType_new F.called_enumerate (by decide) (F.typeCall_enumerate_1 _) (F.newCall_enumerate_1 _) (fun obj => F.args_object_init_2 obj _) F.entry_enumerate_new (meets_enumT l items n dct sl) ⟨hl, ?_⟩
  have z1 : (s.heap.push { cls := .type "tuple_iterator", data := .fields #[.ref l, .int 0 0] }).objs.size = s.heap.objs.size + 1 := Heap.size_push ..
  show _ ∧ _
  rw [z1]
  have is : IsEnum ((s.heap.push { cls := .type "tuple_iterator", data := .fields #[.ref l, .int 0 0] }).push { cls := .type "enumerate", data := .fields #[.none, .bool false, .ref s.heap.objs.size, rawInt 0, .none, .none] }) (s.heap.objs.size + 1) s.heap.objs.size 0 .none := by
    have q := Heap.get?_push_size (s.heap.push { cls := .type "tuple_iterator", data := .fields #[.ref l, .int 0 0] }) (o := { cls := .type "enumerate", data := .fields #[.none, .bool false, .ref s.heap.objs.size, rawInt 0, .none, .none] }) rfl
    rw [z1] at q; exact q
  exact ⟨⟨_, is, rfl⟩, fin _ is ⟨_, Heap.get?_push_of_some _ (Heap.get?_push_size _ rfl), rfl, rfl⟩ fun b o x => Heap.get?_push_of_some _ (Heap.get?_push_of_some _ x)⟩
end
/-- the tuple at a, each item in a new pair with its number -/
def IteT (K : PySem.W.Frag) (a : Addr) : It :=
  ⟨fun i H => ∃ (xs : List V) (x : V), SqT K H a xs ∧ xs[i]? = some x, fun i H v H' => ∃ T x, v = .ref T ∧ H T = none ∧ H' = upd H T (.tup [.int (i : Nat), x]) ∧ ∀ xs, SqT K H a xs → xs[i]? = some x, fun i H => ∃ xs : List V, SqT K H a xs ∧ xs.length = i⟩
theorem turn_enumT {P : Program} {w : World} {K : PySem.W.Frag} {elts : List Expr} {kk : Nat} {tpos : Pos} (a e it : Addr) :
    Turn P w K (.Tuple elts kk tpos) (IteT K a) [e, it] e (fun i h => (∃ old, IsEnum h e it ((i : Nat) : Int) old) ∧ h.IsTupleIter it a i ∧ e ≠ it ∧ a ≠ it ∧ a ≠ e) where
  mem := by simp
  obj := fun i h st b hb => by
    obtain ⟨⟨old, he⟩, ⟨o, ho, hc, hd⟩, _⟩ := st
    rcases (show b = e ∨ b = it by simpa using hb) with z | z
    · rw [z]; exact ⟨_, he, fun v q => nomatch q⟩
    · rw [z]; exact ⟨o, ho, fun v q => by rw [hd] at q; cases q⟩
  keep := fun i h h' st k => let ⟨⟨old, he⟩, hi, hne⟩ := st; ⟨⟨old, k e (by simp) _ he⟩, hi.at fun o q => k it (by simp) o q, hne⟩
  item := by
    intro X hP hw hK hc i pins s σ H E I hf st hg
    subst hP hw hK
    obtain ⟨⟨old, he⟩, hit, hne, hai, hae⟩ := st
    obtain ⟨xs, x, hq, hx⟩ := hg
    obtain ⟨its, rv, p, hz⟩ := I.tuple hq
    obtain ⟨u, hu, ru⟩ := rv.get hx
    have hel : e < s.heap.objs.size := Heap.lt_size he
    have hil : it < s.heap.objs.size := by obtain ⟨_, q, _⟩ := hit; exact Heap.lt_size q
    have lt : i < its.toArray.size := by simpa using (List.getElem?_eq_some_iff.mp hu).1
    have nf : e ∉ [it, a] := by simp; exact ⟨hne, Ne.symm hae⟩
    refine wpAny_pyNext_enum_itemD (Draws.tuple (A := X.A.in1) (I.ok.hd hc) it a hai its.toArray) he ⟨hit, p⟩ lt hne nf fun u2 h' tk hP2 ho hit' hT hsz hk => ?_
    obtain rfl : u2 = u := by
      have : its[i]? = some u2 := by simpa using hP2
      rw [hu] at this; exact (Option.some.inj this).symm
    refine ⟨_, rfl, wpAny_letOwnedTupleGo_enum (s := { s with heap := h', toks := tk + 1 }) ho fun h'' he' sb => ?_⟩
    have hT2 : h''.get? s.heap.objs.size = some { cls := .type "tuple", data := .seq #[.int i tk, u2] } := (sb.2 _ (Nat.ne_of_gt hel)).trans hT
    have new : ObjOk X.prog X.w (upd H s.heap.objs.size (.tup [.int (i : Nat), x])) h'' s.heap.objs.size (.tup [.int (i : Nat), x]) := ⟨by show 2 ≤ sizeLine; decide, [.int i tk, u2], .cons ⟨_, rfl⟩ (.cons ru .nil), ⟨_, hT2, rfl, _, rfl⟩⟩
    have I1 : Inv X pins σ (upd H s.heap.objs.size (.tup [.int (i : Nat), x])) { s with heap := h'', toks := tk + 1 } :=
      I.turnedNew (ch := [e, it]) (fun b ob hb q => (sb.2 b (fun z => hb (by simp [z]))).trans (hk b ob (fun z => hb (by simp [z])) (fun z => hb (by simp [z])) q)) hf (Nat.le_refl _) new
    refine ⟨.ref s.heap.objs.size, _, I1, rfl, ⟨_, x, rfl, I.hok.fresh (Nat.le_refl _), rfl, fun ys hy => by rw [I.tuple_inj hy hq]; exact hx⟩, ⟨⟨u2, ?_⟩, hit'.1.at fun o q => (sb.2 it (Ne.symm hne)).trans q, hne, hai, hae⟩, fun b hb => ?_⟩
    · rw [show ((i + 1 : Nat) : Int) = (i : Int) + 1 by omega]; exact he'
    · have hb' : b < s.heap.objs.size := by rcases (show b = e ∨ b = it by simpa using hb) with z | z <;> rw [z] <;> assumption
      rw [upd_ne (Nat.ne_of_lt hb')]; exact (hf b hb).1
  done := by
    intro X hP hw hK hc i pins s σ H E I hf st hg
    subst hP hw hK
    obtain ⟨⟨old, he⟩, hit, hne, hai, hae⟩ := st
    obtain ⟨xs, hq, hx⟩ := hg
    obtain ⟨its, rv, p, hz⟩ := I.tuple hq
    obtain ⟨f0, f1, f2, f3, f4, f5⟩ := hf it (by simp)
    have hl := rv.length
    subst hx
    have hit2 : s.heap.IsTupleIter it a its.toArray.size := by rw [List.size_toArray, ← hl]; exact hit
    exact wpAny_pyNext_enum_endD (Draws.tuple (A := X.A.in1) (I.ok.hd hc) it a hai its.toArray) he ⟨hit2, p⟩ fun h' eb => ⟨rfl, I.turned (t' := s.toks) (fun b o hb q => eb b o hb q) f0 f1 f3 f4 f5⟩
  self := fun A i s Q E st h => let ⟨⟨_, he⟩, _⟩ := st; wpAny_pyIter_enum he h
section
variable {X : Cx} {G : Gh} {e : Expr} {p pos tpos : Pos} {elts : List Expr} {kk : Nat}
theorem pi_enumT {ta : TA} (hg : Gl X "enumerate") (hm : X.mg "enumerate" = none) (ha : PA X [e] ta) (hs : starEach [e] X.env = [(false, eval e X.env)] := by rfl) :
    PI X (.Tuple elts kk tpos) (.Call (.Name "enumerate" p) [e] [] pos) (fun σ H R => ta σ H fun vs H1 => ∃ a xs, vs = [.ref a] ∧ SqT X.K H1 a xs ∧ R (IteT X.K a) H1) := by
  refine ⟨fun pins s σ H R I h => Call_ (ld_blt I hg hm boot_enumerate (PyProof.Rows.callWith_type1 (thn (ha.run pos pins s σ H _ I h) fun us s1 ⟨vs, H1, I1, r1, q1⟩ => ?_) hs rfl))⟩
  obtain ⟨a, xs, rfl, hq, q⟩ := q1
  obtain rfl := Vals.ref1 r1
  obtain ⟨its, rv, pt, hz⟩ := I1.tuple hq
  have lta : a < s1.heap.objs.size := by obtain ⟨o, ho, _⟩ := pt; exact Heap.lt_size ho
  refine call_enumT pt fun h' he hit hk => wpAny_pyIter_enum he ?_
  have I2 : Inv X pins σ H1 { s1 with heap := h' } := I1.kept (t' := s1.toks) hk
  refine ⟨s1.heap.objs.size + 1, [s1.heap.objs.size + 1, s1.heap.objs.size], _, _, H1, rfl, I2, turn_enumT a (s1.heap.objs.size + 1) s1.heap.objs.size, ⟨⟨.none, he⟩, hit, Nat.succ_ne_self _, Nat.ne_of_lt lta, Nat.ne_of_lt (Nat.lt_succ_of_lt lta)⟩, fun b hb => ?_, q⟩
  have hle : s1.heap.objs.size ≤ b := by rcases (show b = s1.heap.objs.size + 1 ∨ b = s1.heap.objs.size by simpa using hb) with z | z <;> rw [z]; exact Nat.le_succ _; exact Nat.le_refl _
  exact I1.fpOk hle (I1.hok.fresh hle)
def enumD (xs : List D) : List D := xs.zipIdx.map fun p => .tuple [.int ((p.2 : Nat) : Int), p.1]
theorem enumD_len (xs : List D) : (enumD xs).length = xs.length := by simp [enumD]
theorem enumD_get {xs : List D} {i : Nat} {d : D} (h : xs[i]? = some d) : (enumD xs)[i]? = some (.tuple [.int (i : Int), d]) := by
  unfold enumD
  rw [List.getElem?_map, List.getElem?_zipIdx, h]; simp
def iEnumT (t : TD) : TDs := fun E Q => t E fun d E1 => match d with
  | .tuple ds => Q (enumD ds) E1
  | _ => False
def iEnumL (t : TD) : TDs := fun E Q => t E fun d E1 => match d with
  | .list ds => Q (enumD ds) E1
  | _ => False
theorem walkD_enumT {K : PySem.W.Frag} {H : Hp} {a : Addr} {vs : List V} {ds : List D} (h : SqT K H a vs) (l : RpL K H ds vs) : WalkD true K (IteT K a) H (enumD ds) where
  goes := fun i H' x hi => by
    rw [enumD_len, l.length] at hi
    exact ⟨vs, vs[i], SqT.ext x h, List.getElem?_eq_getElem hi⟩
  yld := fun i H' v H2 x hi hy => by
    obtain ⟨T, v1, rfl, hT, rfl, e1⟩ := hy
    obtain ⟨d, hd, p⟩ := l.getV (e1 vs (SqT.ext x h))
    have px := PExt.new (o := .tup [.int (i : Nat), v1]) hT
    exact ⟨px, _, enumD_get hd, .pair (SqT.of upd_same) (.cons (.int _) (.cons ((p.ext x).ext px.ext) .nil))⟩
  stops := fun H' x => ⟨vs, SqT.ext x h, by rw [enumD_len, l.length]⟩
theorem id_enumT {t : TD} (h : ED X G e t) (hg : Gl X "enumerate") (hm : X.mg "enumerate" = none) (hs : starEach [e] X.env = [(false, eval e X.env)] := by rfl) : ID X G true (.Tuple elts kk tpos) (.Call (.Name "enumerate" p) [e] [] pos) (iEnumT t) :=
  ⟨PI.weak (pi_enumT hg hm (pa_cons h.pe pa_nil hs) hs) fun σ H R ⟨E, QE, r, q, k⟩ => ⟨E, _, r, q, fun d E1 v H1 q1 x1 r1 p1 => by
    cases p1 with
    | tup hs l => exact ⟨_, _, rfl, hs.1, k _ _ _ _ q1 x1 r1 (walkD_enumT hs.1 l)⟩
    | _ => exact q1.elim⟩⟩
end
end DL
set_option Elab.async false
set_option linter.all false
set_option maxRecDepth 100000
set_option maxHeartbeats 1000000
/-! DL17: count, index; x or y, not x by truth; sorted(.., reverse=True). -/
namespace DL
open PySem PySem.Spec PyProof.Rows L2
section
variable {X : Cx} {G : Gh} {a b e o : Expr} {es : List Expr} {pos p apos cpos : Pos}
/-! ### methods of tuples -/
theorem SqD.is {pins : List (Addr × Obj)} {s : Shared} {σ : St} {H : Hp} {p : Addr} {xs : List V} (I : Inv X pins σ H s) (h : SqD X.K H p xs) : s.TypeIs (.ref p) "tuple" ∧ ∃ ob, s.heap.get? p = some ob ∧ ob.dict = none := by
  obtain ⟨its, r, ⟨o, ho, hc, _⟩, hz⟩ := I.tuple h.1
  refine ⟨⟨o, ho, hc⟩, ?_⟩
  rcases h.2 with ⟨o2, u, e2, d2⟩ | ⟨o2, e2, d2⟩
  · exact ⟨o2, (I.hok _ _ e2).1, d2⟩
  · exact ⟨o2, I.kIn _ _ e2, d2⟩
theorem pe_bmT {name : Str} {id : String} {r : V → List V → Hp → VK → Prop} {to : TE} {t : TA} (slot : Slot "tuple" name id) (hty : typeOf (.builtin id) = pure (.type "method_descriptor")) (hm : MtR X id r) (ho : PE X o to) (ha : PA X [e] t)
    (hbase : attributeBase o name X.env (eval o X.env) = eval o X.env := by rfl)
    (hfew : ((backTo cpos (starEach [e] X.env)).all (fun x => !x.1) && (backToKw cpos (keywordEach [] X.env)).all (fun x => x.1.isSome) && decide (([e] : List Expr).length + ([] : List Keyword).length + (if ([] : List Keyword).isEmpty then 0 else 1) < 30)) = true := by rfl)
    (hline : (apos.endLine == cpos.line) = true := by rfl) (hs : starEach [e] X.env = (false, eval e X.env) :: starEach [] X.env := by rfl) (hplain : (backTo cpos (starEach [] X.env)).any (·.1) = false := by rfl) :
    PE X (.Call (.Attribute o name apos) [e] [] cpos) (fun σ H Q => to σ H fun x H1 => (∃ p xs, x = .ref p ∧ SqD X.K H1 p xs) ∧ t σ H1 fun xs H2 => r x xs H2 Q) := by
  refine ⟨fun pins s σ H Q I h => wpAny_Call_method_late hbase hfew hline rfl (thn (ho.run pins s σ H _ I h) fun v s1 ⟨x, H1, I1, r1, ty, q1⟩ => ?_)⟩
  obtain ⟨p0, xs0, rfl, hd⟩ := ty
  obtain rfl : v = Value.ref p0 := r1
  obtain ⟨h1, h2⟩ := hd.is I1
  refine ⟨"tuple", id, PySem.F.plainAttrs_tuple, slot, hty, h1, fun a ea => by cases ea; exact h2, ?_⟩
  have hA := ha.run cpos pins s1 σ H1 _ I1 q1
  rw [hs] at hA ⊢
  exact Calls.callWith_builtin (by show (false || (backTo cpos (starEach [] X.env)).any (·.1)) = false; rw [hplain] <;> rfl) (Calls.evalArgs_plain (thn hA fun us s2 ⟨vs, H2, I2, r2, q2⟩ => hm pins s2 σ H2 (.ref p0) vs _ us Q I2 rfl r2 q2))
def okAll (xs : List D) (y : D) : Prop := xs.all (shOk 60) = true ∧ shOk 60 y = true
theorem okAll.sp {xs : List D} {y : D} (h : okAll xs y) (hu : X.A.units + 65 < cLine) : PyData.canLayAll0 xs = true ∧ y.canLay0 = true ∧ X.A.units + 1 + min (PyData.depthAll xs) y.depth < cLine := by
  have ⟨a, b⟩ := shOk_spec 60 y h.2
  have c := (shOk_all (shOk_spec 60) xs h.1).1
  have : min (PyData.depthAll xs) y.depth ≤ y.depth := Nat.min_le_right _ _
  exact ⟨c, a, by omega⟩
def cntD (xs : List D) (y : D) : Nat := xs.countP fun z => PyData.eqv z y
/-- xs.index(y): the first place of an equal one -/
def idxOk (xs : List D) (y : D) (j : Nat) : Prop := (∃ z, xs[j]? = some z ∧ PyData.eqv z y = true) ∧ ∀ m z, m < j → xs[m]? = some z → PyData.eqv z y = false
def rIdx (S : PySem.W.Frag → Hp → Addr → List V → Prop) (K : PySem.W.Frag) : V → List V → Hp → VK → Prop := fun x xs H Q => ∃ (p : Addr) (us : List V) (ds : List D) (y : V) (d : D) (j : Nat), x = .ref p ∧ xs = [y] ∧ S K H p us ∧ RpL K H ds us ∧ Rp K H d y ∧ okAll ds d ∧ idxOk ds d j ∧ Q (.int (j : Nat)) H
theorem mt_indexT (hu : X.A.units + 65 < cLine) : MtR X "tuple.index" (rIdx SqT X.K) := by
  intro pins s σ H x xs v us Q I rx rxs h
  obtain ⟨p, ws, ds, y, d, j, rfl, rfl, hs, l, hy, ok, ⟨⟨z, hz1, hz2⟩, hno⟩, q⟩ := h
  obtain rfl : v = Value.ref p := rx
  obtain ⟨u, rfl, ru⟩ := rxs.one
  obtain ⟨its, rv, ⟨⟨cls, dd, data, sls⟩, ho, hc, n, hdt⟩, hlen⟩ := I.tuple hs
  obtain rfl : cls = .type "tuple" := hc
  obtain rfl : data = .seq its.toArray n := hdt
  obtain ⟨c1, c2, c3⟩ := ok.sp hu
  obtain ⟨as, h4⟩ := Dp.readsAll I ds _ its (l.dp c1) rv
  obtain ⟨bs, r2⟩ := Dp.reads I d y u (hy.dp c2) ru
  have hn : its.length = ds.length := SeqAt.ReadsAll.length ds its as h4
  have hmap : its.map (SeqAt.readOf s.heap) = ds := SeqAt.readsAll_map ds its as c1 h4
  have hjd := (List.getElem?_eq_some_iff.mp hz1).1
  have hj : j < its.toArray.size := by simp; omega
  have at_ : ∀ (m : Nat) (hm : m < its.toArray.size) (z' : PyData), ds[m]? = some z' → SeqAt.readOf s.heap its.toArray[m] = z' := by
    intro m hm z' hz'
    have hml : m < its.length := by simpa using hm
    rw [← hmap, List.getElem?_map, List.getElem?_eq_getElem hml] at hz'
    have e1 : SeqAt.readOf s.heap its[m] = z' := Option.some.inj (show some (SeqAt.readOf s.heap its[m]) = some z' from hz')
    simpa using e1
  refine call_meets PySem.F.slot_tuple_index ⟨_, ho, rfl⟩ PySem.F.entry_tuple_index (PySem.F.args_tuple_index_2 _ _) (TI.tuple_indexAt p its.toArray n dd sls u (fun w => PyData.eqv (SeqAt.readOf s.heap w) d) j hj ?_ ?_)
    ⟨ho, SeqAt.items_eqAt (vs := its.toArray) (show ReadsAll s.heap its.toArray.toList ds as by simpa using h4) r2 c1 c2 c3, ⟨.int (j : Nat), H, I.tok _, ⟨_, rfl⟩, q⟩⟩
  · show PyData.eqv (SeqAt.readOf s.heap its.toArray[j]) d = true
    rw [at_ j hj z hz1]; exact hz2
  · intro m hm hmj
    have hmd : m < ds.length := by omega
    show PyData.eqv (SeqAt.readOf s.heap its.toArray[m]) d = false
    rw [at_ m hm _ (List.getElem?_eq_getElem hmd)]; exact hno m _ hmj (List.getElem?_eq_getElem hmd)
def tCountT (ta tb : TD) : TD := fun E Q => ta E fun x E1 => match x with
  | .tuple xs => tb E1 fun y E2 => okAll xs y ∧ Q (.int (cntD xs y : Nat)) E2
  | _ => False
def tCountL (ta tb : TD) : TD := fun E Q => ta E fun x E1 => match x with
  | .list xs => tb E1 fun y E2 => okAll xs y ∧ Q (.int (cntD xs y : Nat)) E2
  | _ => False
def tIndexT (ta tb : TD) : TD := fun E Q => ta E fun x E1 => match x with
  | .tuple xs => tb E1 fun y E2 => ∃ j, okAll xs y ∧ idxOk xs y j ∧ Q (.int (j : Nat)) E2
  | _ => False
def tIndexL (ta tb : TD) : TD := fun E Q => ta E fun x E1 => match x with
  | .list xs => tb E1 fun y E2 => ∃ j, okAll xs y ∧ idxOk xs y j ∧ Q (.int (j : Nat)) E2
  | _ => False
section
variable {ta tb : TD}
theorem ed_indexT (hu : X.A.units + 65 < cLine) (ho : ED X G o ta) (he : ED X G e tb) (hbase : attributeBase o "index" X.env (eval o X.env) = eval o X.env := by rfl)
    (hfew : ((backTo cpos (starEach [e] X.env)).all (fun x => !x.1) && (backToKw cpos (keywordEach [] X.env)).all (fun x => x.1.isSome) && decide (([e] : List Expr).length + ([] : List Keyword).length + (if ([] : List Keyword).isEmpty then 0 else 1) < 30)) = true := by rfl)
    (hline : (apos.endLine == cpos.line) = true := by rfl) (hs : starEach [e] X.env = (false, eval e X.env) :: starEach [] X.env := by rfl) (hplain : (backTo cpos (starEach [] X.env)).any (·.1) = false := by rfl) :
    ED X G (.Call (.Attribute o "index" apos) [e] [] cpos) (tIndexT ta tb) :=
  ⟨PE.weak (pe_bmT PySem.F.slot_tuple_index PySem.F.type_tuple_index (mt_indexT hu) ho.pe (pa_cons he.pe pa_nil hs) hbase hfew hline hs hplain) fun σ H Q ⟨E, QE, r, q, k⟩ => ⟨E, _, r, q, fun x E1 v H1 q1 x1 r1 p1 => by
    cases p1 with
    | tup hd l => exact ⟨⟨_, _, rfl, hd⟩, E1, _, r1, q1, fun y E2 w H2 q2 x2 r2 p2 => let ⟨j, q2, q3, q4⟩ := q2; ⟨_, _, _, w, y, j, rfl, rfl, (hd.ext x2).1, l.ext x2, p2, q2, q3, k _ _ _ _ q4 (x1.trans x2) r2 (.int _)⟩⟩
    | _ => exact q1.elim⟩⟩
end
/-! ### truth -/
theorem tru_of {K : PySem.W.Frag} {H : Hp} {d : D} {v : V} {c : Bool} (h : Rp K H d v) (e : truD d = some c) (ok : okLen d) : TruV K v H c := by
  cases h with
  | non => cases e; rfl
  | bl b => cases e; rfl
  | int i => cases e; rfl
  | str x => cases e; exact ⟨ok, rfl⟩
  | tup hs l => cases e; exact .inr (.inl ⟨_, hs.1, by rw [isEmpty_RpL l]⟩)
  | lst hs l => cases e; exact .inl ⟨_, hs.sq, by rw [isEmpty_RpL l]⟩
  | dct _ _ _ _ => cases e
  | hdl _ => cases e
def tOrT (t u : TD) : TD := fun E Q => t E fun x E1 => match truD x with
  | some c => okLen x ∧ if c = true then Q x E1 else u E1 Q
  | none => False
def tAndT (t u : TD) : TD := fun E Q => t E fun x E1 => match truD x with
  | some c => okLen x ∧ if c = true then u E1 Q else Q x E1
  | none => False
def tNotT (t : TD) : TD := fun E Q => t E fun x E1 => match truD x with
  | some c => okLen x ∧ Q (.bool (!c)) E1
  | none => False
theorem ed_orT {t u : TD} (h : ED X G a t) (hb : ED X G (.BoolOp .Or (b :: es) pos) u) : ED X G (.BoolOp .Or (a :: b :: es) pos) (DL.tOrT t u) :=
  ⟨PE.weak (pe_orT h.pe hb.pe) fun σ H Q ⟨E, QE, r, q, k⟩ => ⟨E, _, r, q, fun x E1 v H1 q1 x1 r1 p1 => by
    cases e : truD x with
    | none => rw [e] at q1; exact q1.elim
    | some c =>
      rw [e] at q1
      refine ⟨c, tru_of p1 e q1.1, ?_⟩
      cases c with
      | true => exact k _ _ _ _ q1.2 x1 r1 p1
      | false => exact ⟨E1, _, r1, q1.2, fun y E2 w H2 q2 x2 r2 p2 => k _ _ _ _ q2 (x1.trans x2) r2 p2⟩⟩⟩
/-! ### sorted(xs, reverse=True) -/
def tSortRev (ta : TD) : TLd := fun E Q => ta E fun x E1 => match x with
  | .list xs => sortOk xs ∧ Q (sortD true xs) E1
  | .tuple xs => sortOk xs ∧ Q (sortD true xs) E1
  | _ => False
end
end DL
set_option Elab.async false
set_option linter.all false
set_option maxRecDepth 100000
set_option maxHeartbeats 1000000
/-! DL18: a list of one's own is frozen where it is handed on; calls without arguments. -/
namespace DL
open PySem PySem.Spec PyProof.Rows L2
section
variable {K : PySem.W.Frag} {G : Gh} {H : Hp} {E : Env} {σ : St}
theorem RelX.freezeM {i : Nat} {s0 : S} {a : Addr} {u' : HO} {d : D} (r : RelE K G H E σ) (e : E[i]? = some s0) (m0 : s0.isMut = true) (hs : σ[i]? = some (some (.ref a))) (p : Rp K (upd H a u') d (.ref a)) :
    RelE K G (upd H a u') (E.set i (.d d)) σ := by
  obtain ⟨l, k, pn, dm, x0, A, h1, h2, h3⟩ := r
  obtain ⟨b, e1, e2, e3⟩ := (h3 i _ e).mut m0
  rw [hs] at e2
  have e2' : a = b := by injection e2 with z; injection z with z; injection z
  subst e2'
  obtain ⟨u0, g1, g2, g3⟩ := e3.soft
  have x : Ext H (upd H a u') := Ext.putS g1 g2 g3
  have own := h2 i a (by rw [e1]; simp)
  have hl : i < E.length := (List.getElem?_eq_some_iff.mp e).1
  refine ⟨by simpa using l, fun q u he ne => ?_, pn, fun q hq => ?_, x0.trans x, fun j => if j = i then [] else A j, fun j m b q1 q2 => ?_, fun j b q1 => ?_, fun j s he => ?_⟩
  · have : q ≠ a := by
      rintro rfl
      rcases own.1 with z | z
      · exact ne z
      · rw [z] at he; cases he
    rw [upd_ne this]; exact k q u he ne
  · by_cases z : q = a
    · subst z; rw [upd_same]; simp
    · rw [upd_ne z]; exact dm q hq
  · dsimp only at q1 q2
    split at q1
    · cases q1
    · split at q2
      · cases q2
      · exact h1 j m b q1 q2
  · dsimp only at q1
    split at q1
    · cases q1
    · exact h2 j b q1
  · by_cases z : j = i
    · subst z
      rw [List.getElem?_set_self hl] at he
      cases he
      simp only [if_true]
      exact ⟨rfl, _, hs, p⟩
    · rw [List.getElem?_set_ne (Ne.symm z)] at he
      simp only [z, if_false]
      exact (h3 j s he).move x fun c hc => upd_ne fun zz => z (h1 j i c hc (by rw [e1, zz]; simp))
theorem RelX.freezeV {i : Nat} {xs : List D} {a : Addr} {vs : List V} {o : Obj} (r : RelE K G H E σ) (e : E[i]? = some (.ol xs)) (hs : σ[i]? = some (some (.ref a))) (ha : H a = some (.lst vs)) (p : RpL K H xs vs) :
    RelE K G (upd H a (.frz o (.lst vs))) (E.set i (.d (.list xs))) σ :=
  r.freezeM e rfl hs (.lst (.of upd_same) (p.ext (Ext.put ha)))
end
section
variable {X : Cx} {G : Gh} {e : Expr} {pos p0 : Pos} {x : Str}
theorem PE.fzIf {t : TE} (h : PE X e t) : PE X e (fun σ H Q => t σ H fun v H1 => Q v H1 ∨ ∃ a u, v = .ref a ∧ H1 a = some u ∧ Mut (some u) ∧ ∀ o, Q v (upd H1 a (.frz o u))) :=
  ⟨fun pins s σ H Q I q => thn (h.run pins s σ H _ I q) fun u s1 ⟨v, H1, I1, r1, q1⟩ => by
    rcases q1 with q1 | ⟨a, xs, e1, e2, mu, q1⟩
    · exact ⟨v, _, I1, r1, q1⟩
    · obtain ⟨o, I2⟩ := I1.lock e2 mu
      exact ⟨v, _, I2, r1, q1 o⟩⟩
def tFzV (i : Nat) : TD := fun E Q => match E[i]? with
  | some (.d x) => Q x E
  | some (.ol xs) => Q (.list xs) (E.set i (.d (.list xs)))
  | some (.dt kvs) => Q (.dict kvs) (E.set i (.d (.dict kvs)))
  | _ => False
theorem ed_fzv (i : Nat) (hN : X.N[i]? = some x := by rfl) (hv : Vis X.env.scope x := by first | exact Or.inl rfl | exact Or.inr (Or.inl rfl) | exact Or.inr (Or.inr rfl)) (hd : (x == ("__debug__" : Str)) = false := by decide)
    (hcd : (x == ("__classdict__" : Str)) = false := by decide) : ED X G (.Name x p0) (tFzV i) :=
  ⟨PE.weak (PE.fzIf (pe_var hN hv hd hcd)) fun σ H Q ⟨E, QE, r, q, k⟩ => by
    unfold tFzV at q
    split at q
    · rename_i d0 he
      obtain ⟨v, e1, e2⟩ := r.data he
      exact ⟨v, e1, .inl (k _ _ _ _ q (Ext.refl _) r e2)⟩
    · rename_i xs he
      obtain ⟨a, vs, e1, e2, e3⟩ := r.ol he
      exact ⟨_, e1, .inr ⟨a, _, rfl, e2, trivial, fun o => k _ _ _ _ q (Ext.put e2) (r.freezeV he e1 e2 e3) (.lst (.of upd_same) (e3.ext (Ext.put e2)))⟩⟩
    · rename_i kvs he
      obtain ⟨a, e1, es, e2, l, nd, sm⟩ := r.mutAt he rfl
      refine ⟨_, e1, .inr ⟨a, _, rfl, e2, trivial, fun o => ?_⟩⟩
      have x : Ext H (upd H a (.frz o (dO a es))) := Ext.putS e2 (fun _ z => by cases z) (fun _ _ z => by cases z)
      have p : Rp X.K (upd H a (.frz o (dO a es))) (.dict kvs) (.ref a) := .dct upd_same (l.ext x) nd sm
      exact k _ _ _ _ q x (r.freezeM he rfl e1 p) p
    · exact q.elim⟩
end
end DL
set_option Elab.async false
set_option linter.all false
set_option maxRecDepth 100000
set_option maxHeartbeats 1000000
/-! DL19: x > y of any data that is alike. -/
namespace DL
open PySem PySem.Spec PyProof.Rows L2
section
variable {X : Cx}
def opGtD : OpT := fun x y Q => (PySem.W.alike x y = true ∧ x ≠ .none ∧ x.depth ≤ 60 ∧ x.canLay0 = true ∧ y.canLay0 = true) ∧ Q (.bool (PySem.W.dataLt y x))
end
end DL
set_option Elab.async false
set_option linter.all false
set_option maxRecDepth 100000
set_option maxHeartbeats 1000000
/-! DL20: sum, min, max of a tuple of ints. -/
namespace DL
open PySem PySem.Spec PyProof.Rows L2
section
variable {X : Cx}
def caSumT : CaT := fun ds Q => match ds with
  | [.tuple xs] => ∃ ns : List Int, xs = ns.map PyData.int ∧ Q (.int ns.sum)
  | _ => False
def caMaxT : CaT := fun ds Q => match ds with
  | [.tuple xs] => ∃ ns : List Int, xs = ns.map PyData.int ∧ 0 < ns.length ∧ ∀ m, m ∈ ns → (∀ y, y ∈ ns → y ≤ m) → Q (.int m)
  | _ => False
def caMinT : CaT := fun ds Q => match ds with
  | [.tuple xs] => ∃ ns : List Int, xs = ns.map PyData.int ∧ 0 < ns.length ∧ ∀ m, m ∈ ns → (∀ y, y ∈ ns → m ≤ y) → Q (.int m)
  | _ => False
end
end DL
set_option Elab.async false
set_option linter.all false
set_option maxRecDepth 100000
set_option maxHeartbeats 1000000
/-! DL21: zip of a list and a tuple. -/
namespace DL
open PySem PySem.Spec PyProof.Rows L2
section
variable {X : Cx} {G : Gh} {a b : Expr} {p pos tpos : Pos} {elts : List Expr} {kk : Nat}
def iZipM (ta tb : TD) : TDs := fun E Q => ta E fun x E1 => tb E1 fun y E2 => match x, y with
  | .list xs, .tuple ys => Q (zipD xs ys) E2
  | _, _ => False
end
end DL
set_option Elab.async false
set_option linter.all false
set_option maxRecDepth 100000
set_option maxHeartbeats 1000000
/-! DL22: t[::-1] of a tuple, str of an int, tuple * int, a chain of three comparisons, zip of three tuples, a comprehension with effects. -/
namespace DL
open PySem PySem.Spec PyProof.Rows L2
section
variable {prog : Program} {w : World} {A : Around} {E : Value → Shared → Prop} {s : Shared}
theorem sliceApplied_rev {sl : Addr} {vs : Value} {n : Nat} {Q : Int × Int × Nat → Shared → Prop} (hs : s.heap.IsSliceOf sl .none .none vs) (ps : IsPart vs (some (-1)))
    (h : Q ((n : Int) - 1, -1, n) s) : wpAny (model prog w) A (Builtin.Slice.sliceApplied (.ref sl) (pure (n : Int))) Q E s := by
  obtain ⟨os, hos, hcs, hds⟩ := id hs
  unfold Builtin.Slice.sliceApplied Builtin.Slice.sliceFields
  refine wpAny_bind (wpAny_bind (wpAny_field hos hds (x := .none) rfl (wpAny_bind (wpAny_field hos hds (x := .none) rfl (wpAny_bind (wpAny_field hos hds (x := vs) rfl (wpAny_pure ?_)))))))
  refine wpAny_bind (HT.slicePart_ ps ?_)
  show wpAny _ _ (if ((-1 : Int) == 0) = true then _ else _) _ _ s
  rw [if_neg (by decide)]
  refine wpAny_bind (slicePart_none (wpAny_bind (slicePart_none (wpAny_bind (wpAny_pure ?_)))))
  show wpAny _ _ (pure ((n : Int) - 1, (-1 : Int), Builtin.Slice.slicePlaces ((n : Int) - 1) (-1) (-1))) _ _ s
  have e : Builtin.Slice.slicePlaces ((n : Int) - 1) (-1) (-1) = n := by
    unfold Builtin.Slice.slicePlaces
    rw [if_neg (by decide)]
    split
    · have : ((n : Int) - 1 - -1 - 1) / (- -1) = n - 1 := by
        rw [show (- -1 : Int) = 1 from rfl, Int.ediv_one]; omega
      rw [this]; omega
    · omega
  rw [e]
  exact wpAny_pure h
theorem fm_congr {α β : Type} {f g : α → Option β} : ∀ {l : List α}, (∀ k ∈ l, f k = g k) → l.filterMap f = l.filterMap g
  | [], _ => rfl
  | a :: l, h => by rw [List.filterMap_cons, List.filterMap_cons, h a (List.mem_cons_self ..), fm_congr fun k hk => h k (List.mem_cons_of_mem _ hk)]
theorem pick_rev (xs : Array Value) : ((List.range xs.size).filterMap fun (k : Nat) => xs[(((xs.size : Int) - 1) + (k : Int) * (-1)).toNat]?).toArray = xs.toList.reverse.toArray := by
  congr 1
  have h : ∀ k ∈ List.range xs.size, xs[(((xs.size : Int) - 1) + (k : Int) * (-1)).toNat]? = xs.toList.reverse[k]? := fun k hk => by
    have hk := List.mem_range.mp hk
    rw [show ((((xs.size : Int) - 1) + (k : Int) * (-1)).toNat) = xs.size - 1 - k by omega, List.getElem?_reverse (by simpa using hk)]
    simp
  rw [fm_congr h]
  have g : ∀ (l : List Value), (List.range l.length).filterMap (fun k => l[k]?) = l := by
    intro l
    refine List.ext_getElem? fun i => ?_
    have : (List.range l.length).filterMap (fun k => l[k]?) = l := by
      have e2 : (List.range l.length).filterMap (fun k => l[k]?) = (List.range l.length).attach.map fun p => l[p.1]'(List.mem_range.mp p.2) := by
        have : ∀ (m : List Nat) (hm : ∀ k ∈ m, k < l.length), m.filterMap (fun k => l[k]?) = m.attach.map fun p => l[p.1]'(hm p.1 p.2) := by
          intro m
          induction m with
          | nil => intro _; rfl
          | cons a m ih =>
            intro hm
            rw [List.filterMap_cons, List.getElem?_eq_getElem (hm a (List.mem_cons_self ..)), List.attach_cons, List.map_cons]
            dsimp only
            rw [ih fun k hk => hm k (List.mem_cons_of_mem _ hk), List.map_map]
            rfl
        exact this _ fun k hk => List.mem_range.mp hk
      rw [e2]
      refine List.ext_getElem (by simp) fun i h1 h2 => ?_
      simp
    rw [this]
  have := g xs.toList.reverse
  rw [List.length_reverse, Array.length_toList] at this
  exact this
theorem rev_tuple {t sl : Addr} {items : Array Value} {vs : Value} {Q : Value → Shared → Prop} (ht : IsTup s.heap t items) (hs : s.heap.IsSliceOf sl .none .none vs) (ps : IsPart vs (some (-1)))
    (h : Q (.ref s.heap.objs.size) { s with heap := s.heap.push { cls := .type "tuple", data := .seq items.toList.reverse.toArray } }) (hsz : items.size ≤ sizeLine) : wpAny (model prog w) A (getItem (.ref t) (.ref sl)) Q E s := by
  have htake : sizeOk (.seq items.toList.reverse.toArray) := by
    show items.toList.reverse.toArray.size ≤ sizeLine
    rw [List.size_toArray, List.length_reverse, Array.length_toList]; exact hsz
  obtain ⟨os, hos, hcs, hds⟩ := id hs
  have hTs : s.TypeIs (.ref sl) "slice" := ⟨os, hos, hcs⟩
  unfold getItem
  try with_reducible refine wpAny_holding ?_
  first | refine wpAny_bind (wpAny_pure ?_) | skip
  refine wpAny_bind (wpAny_sequenceKey ht.typeIs (by decide) ?_)
  refine wpAny_bind (wpAny_callSpecial?_slot (name := Str.ofString "__getitem__") ht.typeIs PyProof.Rows.slot_tuple_getitem
    (wpAny_call_entry PyProof.Rows.slot_tuple_getitem ht.typeIs entry_tuple_getitem ?_ (args_tuple_getitem _ _)))
  show wpAny _ _ (Builtin.Tuple.tupleItemsOf (.ref t) >>= _) _ _ s
  refine wpAny_bind (tupleItemsOf_ ht ?_)
  refine wpAny_bind (wpAny_typeOf hTs ?_)
  rw [if_pos (by decide)]
  refine wpAny_bind (sliceApplied_rev hs ps ?_)
  have hno : ¬ (((((items.size : Int) - 1) == 0 && (-1 : Int) == 1 && items.size == items.size) = true)) := by simp
  show wpAny _ _ (if (((items.size : Int) - 1) == 0 && (-1 : Int) == 1 && items.size == items.size) = true then _ else _) _ _ s
  rw [if_neg hno, pick_rev]
  first
    | exact wpAny_bind (m := Builtin.Tuple.tupleExact _) (wpAny_newObj_type (wpAny_pure ⟨_, rfl, wpAny_pure h⟩) htake)
    | exact wpAny_bind (m := Builtin.Tuple.tupleExact _) (wpAny_newObj_type (wpAny_bind (wpAny_pure (wpAny_pure ⟨_, rfl, wpAny_pure h⟩))) htake)
    | exact wpAny_bind (wpAny_bind (m := Builtin.Tuple.tupleExact _) (wpAny_newObj_type (wpAny_pure (wpAny_pure ⟨_, rfl, wpAny_pure h⟩)) htake))
    | exact wpAny_bind (wpAny_bind (m := Builtin.Tuple.tupleExact _) (wpAny_newObj_type (wpAny_pure ⟨_, rfl, wpAny_pure h⟩) htake))
end
section
variable {X : Cx} {G : Gh} {a b c d e : Expr} {pos p p1 p2 p3 : Pos}
theorem pe_revT {te : TE} {k : Nat} (he : PE X e te) : PE X (.Subscript e (.Slice none none (some (.UnaryOp .USub (.Constant (.int 1) k p1) p2)) p3) pos)
    (fun σ H Q => te σ H fun x H1 => ∃ a xs, x = .ref a ∧ SqT X.K H1 a xs ∧ ∀ p o, H1 p = none → o.dict = none → Q (.ref p) (upd H1 p (.frz o (.tup xs.reverse)))) := by
  refine ⟨fun pins s σ H Q I h => ?_⟩
  refine Subscript_ (thn (he.run pins s σ H _ I h) fun v s1 ⟨x, H1, I1, r1, q1⟩ => ?_)
  obtain ⟨a, xs, ex, hx, q⟩ := q1
  subst ex
  cases r1
  have hst : PO X (some (.UnaryOp .USub (.Constant (.int 1) k p1) p2)) (tPart (tUn (rU fun i => .int (-i)) (tC (.int 1)))) := po_some (pe_un un_neg pe_int)
  refine wpAny_Slice (thn (po_none.run pins s1 σ H1 (fun o H2 => o = none ∧ H2 = H1) I1 ⟨rfl, rfl⟩) fun vl s2 ⟨l, H2, I2, pl, el, e2⟩ => ?_)
  subst el e2
  refine thn (po_none.run pins s2 σ H2 (fun o H3 => o = none ∧ H3 = H2) I2 ⟨rfl, rfl⟩) fun vu s3 ⟨u, H3, I3, pu, eu, e3⟩ => ?_
  subst eu e3
  refine thn (hst.run pins s3 σ H3 (fun o H4 => o = some (-1) ∧ H4 = H3) I3 ⟨1, rfl, -1, rfl, rfl, rfl⟩) fun vs s4 ⟨o, H4, I4, ps, eo, e4⟩ => ?_
  subst eo e4
  have I5 : Inv X pins σ H4 { s4 with heap := s4.heap.push { cls := .type "slice", data := .fields #[vl, vu, vs] } } := I4.kept (t' := s4.toks) fun b ob q => Heap.get?_push_of_some _ q
  obtain ⟨its, r, ht, hz⟩ := I5.tuple hx
  have hlen := r.length
  cases pl
  cases pu
  show wpAny (model X.prog X.w) X.A (subscriptTail e (.Slice none none (some (.UnaryOp .USub (.Constant (.int 1) k p1) p2)) p3) (.ref a) (.ref s4.heap.objs.size)) (EP X pins σ Q) X.xe { s4 with heap := s4.heap.push { cls := .type "slice", data := .fields #[.none, .none, vs] } }
  refine tail_any (ops := [.ref a, .ref s4.heap.objs.size]) ht.typeIs (PyProof.Rows.slot_tuple_getitem.lookup) ?_ (by with_unfolding_all rfl)
  refine rev_tuple ht (Heap.IsSliceOf.new _ .none .none vs) ps ?_ (by rw [List.size_toArray]; omega)
  exact ⟨.ref _, _, I5.laid (t' := s4.toks) (o := .frz _ (.tup xs.reverse)) (fun b ob q => Heap.get?_push_of_some _ q) (Nat.le_refl _) ⟨Heap.get?_push_size _ rfl, by rw [List.length_reverse]; exact hz, _, r.reverse, IsTup.new _ _⟩, rfl, q _ _ (I5.hok.fresh (Nat.le_refl _)) rfl⟩
/-- t[::-1] of a tuple -/
def tRevT (ta : TD) : TD := fun E Q => ta E fun x E1 => match x with
  | .tuple xs => Q (.tuple xs.reverse) E1
  | _ => False
theorem ed_revT {k : Nat} {ta : TD} (ha : ED X G a ta) : ED X G (.Subscript a (.Slice none none (some (.UnaryOp .USub (.Constant (.int 1) k p1) p2)) p3) pos) (tRevT ta) :=
  ⟨PE.weak (pe_revT ha.pe) fun σ H Q ⟨E, QE, rel, q, k⟩ => ⟨E, _, rel, q, fun x E1 v H1 q1 x1 r1 p1 => by
    cases p1 with
    | tup hs ll => exact ⟨_, _, rfl, hs.1, fun p o hp ho => k _ _ _ _ q1 (x1.trans (PExt.new hp).ext) (r1.pext (PExt.new hp)) (.tup (.new ho) (ll.reverse.ext (PExt.new hp).ext))⟩
    | _ => exact q1.elim⟩⟩
/-! ### str of an int -/
def caStr : CaT := fun ds Q => match ds with
  | [.int i] => i.natAbs.log2 < 1920 ∧ Q (.str (toString i))
  | _ => False
/-! ### tuple * int -/
def opRepT : OpT := fun x y Q => match x, y with
  | .tuple xs, .int k => (xs ≠ [] ∧ 2 ≤ k ∧ k ≤ 1000 ∧ xs.length ≤ 1000) ∧ Q (.tuple (List.replicate k.toNat xs).flatten)
  | _, _ => False
/-! ### a op b op' c op'' d -/
def tChain3D (o o' o'' : OpT) (ta tb tc td : TD) : TD := fun E Q => ta E fun x E1 => tb E1 fun y E2 => o x y fun z => match z with
  | .bool true => tc E2 fun w E3 => o' y w fun z' => match z' with
    | .bool true => td E3 fun u E4 => o'' w u fun r => Q r E4
    | .bool false => Q (.bool false) E3
    | _ => False
  | .bool false => Q (.bool false) E2
  | _ => False
end
/-! ### a comprehension with effects: an invariant of what was found and the environment -/
theorem compD_inv {g : TGd} {tt : TTd} {te : TD} {ms : List Nat} (I : Nat → List D → Env → Prop) : ∀ (ds : List D) (k : Nat) (acc : List D) (E : Env) (Q : List D → Env → Prop), acc.length ≤ k → k + ds.length ≤ sizeLine → I k acc E →
    (∀ (i : Nat) (d : D) (acc : List D) (E : Env), ds[i]? = some d → I (k + i) acc E → ∀ R : Option D → Env → Prop, (∀ E', I (k + i + 1) acc E' → R none E') → (∀ y E', I (k + i + 1) (acc ++ [y]) E' → R (some y) E') → turnD g tt te d (wipeE E ms) R) →
    (∀ acc E, I (k + ds.length) acc E → Q acc E) → compD g tt te ms ds acc E Q
  | [], k, acc, E, Q, _, _, h0, _, hd => hd _ _ h0
  | d :: ds, k, acc, E, Q, hl, hz, h0, hs, hd => by
    show turnD g tt te d (wipeE E ms) _
    rw [List.length_cons] at hz
    have hs' : ∀ (i : Nat) (d : D) (acc : List D) (E : Env), ds[i]? = some d → I (k + 1 + i) acc E → ∀ R : Option D → Env → Prop, (∀ E', I (k + 1 + i + 1) acc E' → R none E') → (∀ y E', I (k + 1 + i + 1) (acc ++ [y]) E' → R (some y) E') → turnD g tt te d (wipeE E ms) R := fun i d acc E e h => by
      have := hs (i + 1) d acc E (by simpa using e) (by rw [show k + (i + 1) = k + 1 + i by omega]; exact h)
      rw [show k + (i + 1) = k + 1 + i by omega] at this
      exact this
    have hd' : ∀ acc E, I (k + 1 + ds.length) acc E → Q acc E := fun acc E h => hd acc E (by rw [List.length_cons, show k + (ds.length + 1) = k + 1 + ds.length by omega]; exact h)
    refine hs 0 d acc E rfl h0 _ (fun E' h => compD_inv I ds (k + 1) acc E' Q (by omega) (by omega) h hs' hd') fun y E' h => ⟨by omega, compD_inv I ds (k + 1) (acc ++ [y]) E' Q (by rw [List.length_append, List.length_cons, List.length_nil]; omega) (by omega) h hs' hd'⟩
theorem comp_inv {ti : TDs} {g : TGd} {tt : TTd} {te : TD} {ms : List Nat} {E E1 : Env} {Q : List D → Env → Prop} (ds : List D) (I : Nat → List D → Env → Prop) (hi : ∀ R : List D → Env → Prop, R ds E1 → ti E R) (hz : ds.length ≤ sizeLine) (h0 : I 0 [] E1)
    (hs : ∀ (i : Nat) (d : D) (acc : List D) (E : Env), ds[i]? = some d → I i acc E → ∀ R : Option D → Env → Prop, (∀ E', I (i + 1) acc E' → R none E') → (∀ y E', I (i + 1) (acc ++ [y]) E' → R (some y) E') → turnD g tt te d (wipeE E ms) R)
    (hd : ∀ acc E2, I ds.length acc E2 → Q acc (restE E1 E2 ms)) : tComp ti g tt te ms E Q :=
  hi _ (compD_inv I ds 0 [] E1 _ (Nat.le_refl _) (by omega) h0 (fun i d acc E e h => by rw [Nat.zero_add] at h ⊢; exact hs i d acc E e h) fun acc E2 h => hd acc E2 (by rw [Nat.zero_add] at h; exact h))
end DL
set_option Elab.async false
set_option linter.all false
set_option maxRecDepth 100000
set_option maxHeartbeats 1000000
/-! DL23: zip of three tuples. -/
namespace DL
open PySem PySem.Spec PyProof.Rows L2
end DL
set_option Elab.async false
set_option linter.all false
set_option maxRecDepth 100000
set_option maxHeartbeats 1000000
/-! DL24: the module's own constants. -/
namespace DL
open PySem PySem.Spec PyProof.Rows L2
end DL
set_option Elab.async false
set_option linter.all false
set_option maxRecDepth 100000
set_option maxHeartbeats 1000000
/-! DL25: max of a list of alike data, x < y of alike data. -/
namespace DL
open PySem PySem.Spec PyProof.Rows L2
section
variable {X : Cx}
def opLtD : OpT := fun x y Q => (PySem.W.alike x y = true ∧ x ≠ .none ∧ x.depth ≤ 60 ∧ x.canLay0 = true ∧ y.canLay0 = true) ∧ Q (.bool (PySem.W.dataLt x y))
theorem cr_maxD (hc : X.calm = true) (hu : X.A.units + 65 < cLine) : CallR X (.builtin "max") (fun vs H Q => ∃ (a : Addr) (us : List V) (x : D) (xs : List D), vs = [.ref a] ∧ SqL X.K H a us ∧ RpL X.K H (x :: xs) us ∧ PySem.W.AlikeAll (x :: xs) ∧ PyData.depthAll (x :: xs) ≤ 60 ∧ PyData.canLayAll0 (x :: xs) = true ∧ ∀ v, Rp X.K H (PySem.W.maxD x xs) v → Q v H) := by
  intro pins s σ H vs us0 Q I r h
  obtain ⟨a, us, x, xs, rfl, hs, l, ha, hdp, hcl, q⟩ := h
  obtain ⟨its, rv, hl, _⟩ := I.list hs
  rw [Vals.ref1 r]
  obtain ⟨as, hr⟩ := Dp.readsAll I _ _ _ (l.dp hcl) rv
  have hr : ReadsAll s.heap its.toArray.toList (x :: xs) as := hr
  have hn : its.toArray.size = xs.length + 1 := PySem.W.readsAll_len hr
  refine PySem.call_max_walkH (PySem.W.iter_listW (A := X.A.in1) (I.ok.hd hc) hl.isList fun s₂ e W st hfp hw hk => ?_)
  refine ⟨_, _, _, _, _, _, _, s.heap, _, rfl, W, st, hfp, by omega, hw, hk, PySem.W.cmpIn_gt (A := X.A.in1) hr ha (by show X.A.units + 1 + _ < _; omega), fun v s' hP m => ?_⟩
  obtain ⟨h', tk, rfl, hk'⟩ := PySem.W.moved_old e rfl m
  have e1 : its.toArray.size - 1 = xs.length := by omega
  have e2 := (PySem.W.argBest_fold (fun a b => PySem.W.dataLt b a) PyData.none x xs xs.length (Nat.le_refl _)).2
  rw [List.take_length] at e2
  have hP : its.toArray[argBest (fun i j => PySem.W.dataLt ((x :: xs).getD j PyData.none) ((x :: xs).getD i PyData.none)) (its.toArray.size - 1)]? = some v := hP
  rw [e1] at hP
  have hP : its[argBest (fun i j => PySem.W.dataLt ((x :: xs).getD j PyData.none) ((x :: xs).getD i PyData.none)) xs.length]? = some v := by simpa using hP
  generalize hbi : argBest (fun i j => PySem.W.dataLt ((x :: xs).getD j PyData.none) ((x :: xs).getD i PyData.none)) xs.length = bi at hP e2
  have hlt : bi < us.length := by
    have h1 := (List.getElem?_eq_some_iff.mp hP).1
    have h2 := rv.length
    omega
  obtain ⟨d, hd1, rd⟩ := l.getV (List.getElem?_eq_getElem hlt)
  obtain ⟨u, hu1, ru⟩ := rv.get (List.getElem?_eq_getElem hlt)
  rw [hP] at hu1
  cases hu1
  refine ⟨_, H, I.kept hk', ru, q _ ?_⟩
  have : d = PySem.W.maxD x xs := by
    unfold PySem.W.maxD
    rw [← e2, List.getD_eq_getElem?_getD, hd1]; rfl
  rw [← this]; exact rd
def caMaxD : CaT := fun ds Q => match ds with
  | [.list (x :: xs)] => (PySem.W.AlikeAll (x :: xs) ∧ PyData.depthAll (x :: xs) ≤ 60 ∧ PyData.canLayAll0 (x :: xs) = true) ∧ Q (PySem.W.maxD x xs)
  | _ => False
theorem cd_maxD (hc : X.calm = true) (hu : X.A.units + 65 < cLine) : CaD X (.builtin "max") caMaxD := ⟨_, cr_maxD hc hu, fun ds vs H QD Q hd q k => by
  match ds, q, hd with
  | [.list (x :: xs)], q, hd =>
    obtain ⟨v, rfl, h⟩ := hd.one
    obtain ⟨a, us, rfl, hs, l⟩ := h.list
    exact ⟨a, us, x, xs, rfl, hs, l, q.1.1, q.1.2.1, q.1.2.2, fun v hv => k _ _ _ q.2 (PExt.refl _) hv⟩⟩
end
end DL
set_option Elab.async false
set_option linter.all false
set_option maxRecDepth 100000
set_option maxHeartbeats 3200000
/-! DL26: set(t) of a tuple of pairs of ints, len and sorted of it. -/
namespace DL
open PySem PySem.Spec PyProof.Rows L2
end DL
set_option Elab.async false
set_option linter.all false
set_option maxRecDepth 100000
set_option maxHeartbeats 3200000
/-! DL27: len(set(t)), sorted(set(t)) of a tuple of pairs of ints. -/
namespace DL
open PySem PySem.Spec PyProof.Rows L2
def pE (c : Int × Int) : D := .tuple [.int c.1, .int c.2]
def ltC (a b : Int × Int) : Prop := a.1 < b.1 ∨ (a.1 = b.1 ∧ a.2 < b.2)
section
variable {X : Cx} {G : Gh} {a : Expr} {pos p p1 p2 p3 : Pos}
def tLenSetP (ta : TD) : TD := fun E Q => ta E fun x E1 => match x with
  | .tuple xs => ∃ cs : List (Int × Int), xs = cs.map pE ∧ cs.length < 64 ∧ ∀ zs : List (Int × Int), zs.Nodup → (∀ c, c ∈ zs ↔ c ∈ cs) → Q (.int (zs.length : Nat)) E1
  | _ => False
def tSortSetP (ta : TD) : TLd := fun E Q => ta E fun x E1 => match x with
  | .tuple xs => ∃ cs : List (Int × Int), xs = cs.map pE ∧ cs.length < 64 ∧ (∀ c ∈ cs, (0 ≤ c.1 ∧ c.1 < 64) ∧ (0 ≤ c.2 ∧ c.2 < 64)) ∧ ∀ zs : List (Int × Int), zs.Pairwise ltC → (∀ c, c ∈ zs ↔ c ∈ cs) → Q (zs.map pE) E1
  | _ => False
end
end DL
set_option Elab.async false
set_option linter.all false
set_option maxRecDepth 100000
set_option maxHeartbeats 1000000
/-! DL28: chains of comparisons as tests. -/
namespace DL
open PySem PySem.Spec PyProof.Rows L2
end DL
set_option Elab.async false
set_option linter.all false
set_option maxRecDepth 100000
set_option maxHeartbeats 1000000
/-! DL29: dicts whose keys are tuples of ints (nested): look-up, store, in. -/
namespace DL
open PySem PySem.Spec PyProof.Rows L2
mutual
theorem nk_hash {w w' : World} : ∀ {d : D} {k : NestedKey}, nkOf d = some k → k.hash w = k.hash w'
  | .int i, k, h => by unfold nkOf at h; cases h; rfl
  | .tuple xs, k, h => by
    unfold nkOf at h
    obtain ⟨ks, h1, rfl⟩ := Option.map_eq_some_iff.mp h
    unfold NestedKey.hash; rw [nks_hash (w := w) (w' := w') h1]
  | .none, k, h => by simp [nkOf] at h
  | .bool _, k, h => by simp [nkOf] at h
  | .str _, k, h => by simp [nkOf] at h
  | .list _, k, h => by simp [nkOf] at h
  | .dict _, k, h => by simp [nkOf] at h
theorem nks_hash {w w' : World} : ∀ {ds : List D} {ks : List NestedKey}, nksOf ds = some ks → NestedKey.hashes w ks = NestedKey.hashes w' ks
  | [], ks, h => by unfold nksOf at h; cases h; rfl
  | d :: ds, ks, h => by
    unfold nksOf at h
    split at h
    · rename_i k ks' h1 h2
      cases h
      unfold NestedKey.hashes; rw [nk_hash (w := w) (w' := w') h1, nks_hash (w := w) (w' := w') h2]
    · cases h
end
mutual
theorem nk_inj : ∀ {d e : D} {k : NestedKey}, nkOf d = some k → nkOf e = some k → d = e
  | .int i, e, k, h, h' => by
    unfold nkOf at h; cases h
    cases e with
    | int j => unfold nkOf at h'; cases h'; rfl
    | tuple ys => unfold nkOf at h'; obtain ⟨ks, h1, h2⟩ := Option.map_eq_some_iff.mp h'; cases h2
    | _ => simp [nkOf] at h'
  | .tuple xs, e, k, h, h' => by
    unfold nkOf at h
    obtain ⟨ks, h1, rfl⟩ := Option.map_eq_some_iff.mp h
    cases e with
    | int j => unfold nkOf at h'; cases h'
    | tuple ys => unfold nkOf at h'; obtain ⟨ks', h3, h4⟩ := Option.map_eq_some_iff.mp h'; cases h4; rw [nks_inj h1 h3]
    | _ => simp [nkOf] at h'
  | .none, _, k, h, _ => by simp [nkOf] at h
  | .bool _, _, k, h, _ => by simp [nkOf] at h
  | .str _, _, k, h, _ => by simp [nkOf] at h
  | .list _, _, k, h, _ => by simp [nkOf] at h
  | .dict _, _, k, h, _ => by simp [nkOf] at h
theorem nks_inj : ∀ {ds es : List D} {ks : List NestedKey}, nksOf ds = some ks → nksOf es = some ks → ds = es
  | [], es, ks, h, h' => by
    unfold nksOf at h; cases h
    cases es with
    | nil => rfl
    | cons e es => unfold nksOf at h'; split at h' <;> cases h'
  | d :: ds, es, ks, h, h' => by
    unfold nksOf at h
    split at h
    · rename_i k ks' h1 h2
      cases h
      cases es with
      | nil => unfold nksOf at h'; cases h'
      | cons e es =>
        unfold nksOf at h'
        split at h'
        · rename_i k2 ks2 h3 h4
          cases h'
          rw [nk_inj h1 h3, nks_inj h2 h4]
        · cases h'
    · cases h
end
def valN (kvs : List (D × D)) (k : D) : Option D := (kvs.find? fun p => decide (nkOf p.1 = nkOf k)).map (·.2)
def putN (kvs : List (D × D)) (k v : D) : List (D × D) := if (valN kvs k).isSome then kvs.map (fun p => if nkOf p.1 = nkOf k then (p.1, v) else p) else kvs ++ [(k, v)]
theorem valN_cons (p : D × D) (kvs : List (D × D)) (k : D) : valN (p :: kvs) k = if nkOf p.1 = nkOf k then some p.2 else valN kvs k := by
  unfold valN
  rw [List.find?_cons]
  by_cases h : nkOf p.1 = nkOf k
  · simp [h]
  · simp [h]
theorem paired_app {α β : Type} {F : α → β → Prop} : ∀ {a c : List α} {b d : List β}, Paired F a b → Paired F c d → Paired F (a ++ c) (b ++ d)
  | _, _, _, _, .nil, h => h
  | _, _, _, _, .cons r t, h => .cons r (paired_app t h)
abbrev TR (K : PySem.W.Frag) (H : Hp) : List (D × D) → List (NestedKey × Addr × Value) → Prop :=
  Paired fun p x => (∃ l, p.1 = .tuple l) ∧ nkOf p.1 = some x.1 ∧ x.1.depth ≤ 8 ∧ Rp K H p.1 (.ref x.2.1) ∧ ∃ v, Rp K H p.2 v ∧ RelV v x.2.2
section
variable {K : PySem.W.Frag} {H : Hp} {P : Program} {w : World}
theorem RpD.tr (P : Program) (w : World) : ∀ {kvs : List (D × D)} {es : List DictEntry}, RpD K H kvs es → ∃ xs, TR K H kvs xs ∧ es = xs.map (entryOfKey (nestedKind P w))
  | _, _, .nil => ⟨[], .nil, rfl⟩
  | _, _, .cons (nk := nk) (b := b) (v := v) (e := e) t n1 n2 n3 e1 h g r l => by
    obtain ⟨xs, h1, rfl⟩ := RpD.tr P w l
    refine ⟨(nk, b, e.val) :: xs, .cons ⟨t, n1, n2, h, v, g, r⟩ h1, ?_⟩
    rw [List.map_cons]
    congr 1
    obtain ⟨eh, ek, ev⟩ := e
    have hh : eh = nk.hash w := n3 w
    have hk : ek = Value.ref b := e1
    subst hh hk
    rfl
theorem TR.rpd {kvs : List (D × D)} {xs : List (NestedKey × Addr × Value)} (h : TR K H kvs xs) : RpD K H kvs (xs.map (entryOfKey (nestedKind P w))) := by
  unfold TR at h
  induction h with
  | nil => exact .nil
  | @cons p x ps xs q t ih =>
    obtain ⟨h1, h2, h3, h4, v, h5, h6⟩ := q
    obtain ⟨k, d⟩ := p
    exact .cons h1 h2 h3 (fun w' => nk_hash h2) rfl h4 h5 h6 ih
theorem TR.ext {H' : Hp} (x : Ext H H') {kvs : List (D × D)} {xs : List (NestedKey × Addr × Value)} (h : TR K H kvs xs) : TR K H' kvs xs :=
  Paired.mapP h fun _ _ ⟨h1, h2, h3, h4, v, h5, h6⟩ => ⟨h1, h2, h3, h4.ext x, v, h5.ext x, h6⟩
theorem TR.keys {kvs : List (D × D)} {xs : List (NestedKey × Addr × Value)} (h : TR K H kvs xs) (nd : (kvs.map fun p => nkOf p.1).Nodup) : (xs.map (·.1)).Nodup := by
  have e : kvs.map (fun p => nkOf p.1) = (xs.map (·.1)).map some := by
    unfold TR at h
    induction h with
    | nil => rfl
    | cons q t ih => 
      rw [List.map_cons, List.map_cons, List.map_cons, q.2.1, ih (List.nodup_cons.mp (by simpa using nd)).2]
  rw [e] at nd
  exact (List.pairwise_map.mp nd).imp fun h z => h (by rw [z])
/-- what stands at a key -/
theorem TR.val {kvs : List (D × D)} {xs : List (NestedKey × Addr × Value)} (h : TR K H kvs xs) {k : D} {nk : NestedKey} (e : nkOf k = some nk) :
    (∀ d, valN kvs k = some d → ∃ p v, atKey xs nk = some p ∧ Rp K H d v ∧ RelV v p.2) ∧ (valN kvs k = none → atKey xs nk = none) := by
  unfold TR at h
  induction h with
  | nil => exact ⟨fun d hd => by simp [valN] at hd, fun _ => rfl⟩
  | @cons p x ps xs q t ih =>
    obtain ⟨h1, h2, h3, h4, v, h5, h6⟩ := q
    rw [valN_cons]
    by_cases hk : nkOf p.1 = nkOf k
    · have hx : x.1 = nk := by rw [h2, e] at hk; exact Option.some.inj hk
      rw [if_pos hk]
      refine ⟨fun d hd => ?_, fun z => nomatch z⟩
      cases hd
      exact ⟨x.2, v, by simp [atKey, hx], h5, h6⟩
    · have hx : ¬ x.1 = nk := fun z => hk (by rw [h2, e, z])
      rw [if_neg hk]
      have : atKey (x :: xs) nk = atKey xs nk := by simp [atKey, hx]
      rw [this]; exact ih
theorem TR.isSome {kvs : List (D × D)} {xs : List (NestedKey × Addr × Value)} (h : TR K H kvs xs) {k : D} {nk : NestedKey} (e : nkOf k = some nk) : (atKey xs nk).isSome = (valN kvs k).isSome := by
  obtain ⟨h1, h2⟩ := h.val e
  cases q : valN kvs k with
  | none => rw [h2 q]; rfl
  | some d => obtain ⟨p, v, hp, _⟩ := h1 d q; rw [hp]; rfl
theorem TR.put {kvs : List (D × D)} {xs : List (NestedKey × Addr × Value)} (h : TR K H kvs xs) {k d : D} {nk : NestedKey} {b : Addr} {v : V} {u : Value} (t : ∃ l, k = .tuple l) (e : nkOf k = some nk) (dp : nk.depth ≤ 8) (hk : Rp K H k (.ref b)) (hd : Rp K H d v) (r : RelV v u) :
    TR K H (putN kvs k d) (storedH xs nk b u) := by
  unfold putN storedH
  rw [h.isSome e]
  split
  · rename_i hs
    clear hs
    unfold TR at h ⊢
    induction h with
    | nil => exact .nil
    | @cons p x ps xs q tt ih =>
      obtain ⟨h1, h2, h3, h4, v', h5, h6⟩ := q
      rw [List.map_cons, List.map_cons]
      refine .cons ?_ ih
      by_cases hk' : nkOf p.1 = nkOf k
      · have hx : x.1 = nk := by rw [h2, e] at hk'; exact Option.some.inj hk'
        rw [if_pos hk', putAt, if_pos hx]
        exact ⟨h1, h2, h3, h4, v, hd, r⟩
      · have hx : ¬ x.1 = nk := fun z => hk' (by rw [h2, e, z])
        rw [if_neg hk', putAt, if_neg hx]
        exact ⟨h1, h2, h3, h4, v', h5, h6⟩
  · exact paired_app h (.cons ⟨t, e, dp, hk, v, hd, r⟩ .nil)
theorem putN_nodup {kvs : List (D × D)} {k v : D} (nd : (kvs.map fun p => nkOf p.1).Nodup) : ((putN kvs k v).map fun p => nkOf p.1).Nodup := by
  unfold putN
  split
  · have : (kvs.map (fun p => if nkOf p.1 = nkOf k then (p.1, v) else p)).map (fun p => nkOf p.1) = kvs.map fun p => nkOf p.1 := by
      rw [List.map_map]; refine List.map_congr_left fun p _ => ?_
      show nkOf (if nkOf p.1 = nkOf k then (p.1, v) else p).1 = nkOf p.1
      split <;> rfl
    rw [this]; exact nd
  · rename_i h
    rw [List.map_append, List.nodup_append]
    refine ⟨nd, by simp, fun a ha b hb => ?_⟩
    have hb : b = nkOf k := by simpa using hb
    subst hb
    obtain ⟨p, hp, rfl⟩ := List.mem_map.mp ha
    intro z
    apply h
    unfold valN
    rw [Option.isSome_map, List.find?_isSome]
    exact ⟨p, hp, by simpa using z⟩
theorem putN_len (kvs : List (D × D)) (k v : D) : (putN kvs k v).length ≤ kvs.length + 1 := by
  unfold putN
  split
  · rw [List.length_map]; omega
  · rw [List.length_append]; simp
end
end DL
set_option Elab.async false
set_option linter.all false
set_option maxRecDepth 100000
set_option maxHeartbeats 1000000
/-! DL30: rules for dicts whose keys are tuples of ints. -/
namespace DL
open PySem PySem.Spec PyProof.Rows L2
section
variable {X : Cx} {G : Gh} {pins : List (Addr × Obj)} {σ : St} {H : Hp} {s : Shared}
mutual
theorem nested_of (I : Inv X pins σ H s) : ∀ {d : D} {v : V} {u : Value} {k : NestedKey}, nkOf d = some k → Rp X.K H d v → RelV v u → NestedIs s.heap k u
  | .int i, v, u, k, h, r, q => by
    unfold nkOf at h; cases h; cases r
    obtain ⟨t, rfl⟩ := (show ∃ t, u = Value.int i t from q)
    exact .int i t
  | .tuple xs, v, u, k, h, r, q => by
    unfold nkOf at h
    obtain ⟨ks, h1, rfl⟩ := Option.map_eq_some_iff.mp h
    cases r with
    | tup hs l =>
      rename_i a vs
      obtain rfl : u = Value.ref a := q
      obtain ⟨its, rv, ⟨o, ho, hc, n, hd⟩, hz⟩ := I.tuple hs.1
      exact .tup ho hc hd (by simpa using nested_all I h1 l rv)
  | .none, _, _, k, h, _, _ => by simp [nkOf] at h
  | .bool _, _, _, k, h, _, _ => by simp [nkOf] at h
  | .str _, _, _, k, h, _, _ => by simp [nkOf] at h
  | .list _, _, _, k, h, _, _ => by simp [nkOf] at h
  | .dict _, _, _, k, h, _, _ => by simp [nkOf] at h
theorem nested_all (I : Inv X pins σ H s) : ∀ {ds : List D} {vs : List V} {us : List Value} {ks : List NestedKey}, nksOf ds = some ks → RpL X.K H ds vs → Vals vs us → NestedAll s.heap ks us
  | [], _, _, ks, h, r, q => by unfold nksOf at h; cases h; cases r; cases q; exact .nil
  | d :: ds, _, _, ks, h, r, q => by
    unfold nksOf at h
    split at h
    · rename_i k ks' h1 h2
      cases h
      cases r with
      | cons r1 r2 =>
        cases q with
        | cons q1 q2 => exact .cons (nested_of I h1 r1 q1) (nested_all I h2 r2 q2)
    · cases h
end
/-- a key -/
def keyB (d : D) : Bool := match d with
  | .tuple xs => match nksOf xs with
    | some ks => decide (NestedKey.depthAll ks ≤ 7)
    | none => false
  | _ => false
theorem keyB_ok {d : D} (h : keyB d = true) : (∃ l, d = .tuple l) ∧ ∃ k, nkOf d = some k ∧ k.depth ≤ 8 := by
  cases d with
  | tuple xs =>
    refine ⟨⟨xs, rfl⟩, ?_⟩
    unfold keyB at h
    dsimp only at h
    split at h
    · rename_i ks hk
      refine ⟨.tup ks, by unfold nkOf; rw [hk]; rfl, ?_⟩
      have := of_decide_eq_true h
      unfold NestedKey.depth; omega
    · cases h
  | _ => simp [keyB] at h
/-- a dict that is read -/
def DN (K : PySem.W.Frag) (H : Hp) (a : Addr) (kvs : List (D × D)) : Prop := ∃ es, Rd H a (dO a es) ∧ RpD K H kvs es ∧ (kvs.map fun p => nkOf p.1).Nodup ∧ (a == sysModules) = false
theorem DN.at (I : Inv X pins σ H s) {a : Addr} {kvs : List (D × D)} (h : DN X.K H a kvs) : ∃ xs, TR X.K H kvs xs ∧ s.heap.DictOfH (nestedKind X.prog X.w) a xs ∧ (a == sysModules) = false := by
  obtain ⟨es, e, l, nd, sm⟩ := h
  obtain ⟨xs, tr, rfl⟩ := l.tr X.prog X.w
  obtain ⟨⟨o, ep, h1, h2, h3⟩, _⟩ := e.ok I.hok
  refine ⟨xs, tr, ⟨o, _, ep, h1, h2, h3, by simp, ?_, tr.keys nd⟩, sm⟩
  intro x hx
  have : ∀ (kvs : List (D × D)) (xs : List (NestedKey × Addr × Value)), TR X.K H kvs xs → ∀ x ∈ xs, (nestedKind X.prog X.w).is s.heap x.1 x.2.1 := by
    intro kvs xs t
    unfold TR at t
    induction t with
    | nil => intro x hx; cases hx
    | cons q t ih =>
      intro x hx
      rcases List.mem_cons.mp hx with rfl | hx
      · exact ⟨nested_of I q.2.1 q.2.2.2.1 rfl, q.2.2.1⟩
      · exact ih x hx
  exact this kvs xs tr x hx
theorem key_is (I : Inv X pins σ H s) {d : D} {v : V} {u : Value} (hk : keyB d = true) (r : Rp X.K H d v) (q : RelV v u) : ∃ k b, nkOf d = some k ∧ k.depth ≤ 8 ∧ v = .ref b ∧ u = .ref b ∧ (nestedKind X.prog X.w).is s.heap k b := by
  obtain ⟨⟨l, rfl⟩, k, hk1, hk2⟩ := keyB_ok hk
  cases r with
  | tup hs ll =>
    rename_i b vs
    obtain rfl : u = Value.ref b := q
    exact ⟨k, b, hk1, hk2, rfl, rfl, nested_of I hk1 (.tup hs ll) rfl, hk2⟩
theorem room_n {A : Around} (hu : A.units + 65 < cLine) {P : Program} {w : World} : (nestedKind P w).room A.in1 := by show A.units + 1 + 8 < cLine; omega
theorem dn_type (I : Inv X pins σ H s) {a : Addr} {kvs : List (D × D)} (h : DN X.K H a kvs) : s.TypeIs (.ref a) "dict" ∧ ∀ b, Value.ref a = .ref b → ∃ ob, s.heap.get? b = some ob ∧ ob.dict = none := by
  obtain ⟨xs, tr, dd, sm⟩ := h.at I
  refine ⟨dd.typeIs, fun b q => ?_⟩
  cases q
  obtain ⟨ob, _, _, h1, h2, _⟩ := dd
  exact ⟨ob, h1, h2.2.1⟩
/-! ### expressions -/
variable {o i e f value : Expr} {pos pos' tpos apos cpos : Pos} {td ty tv tx : TE}
theorem pe_dgetN (hu : X.A.units + 65 < cLine) (ho : PE X o td) (hi : PE X i ty) (hs : NoSl i) : PE X (.Subscript o i pos)
    (fun σ H Q => td σ H fun x H1 => ty σ H1 fun y H2 => ∃ a kvs k d, x = .ref a ∧ DN X.K H2 a kvs ∧ keyB k = true ∧ Rp X.K H2 k y ∧ valN kvs k = some d ∧ ∀ v, Rp X.K H2 d v → Q v H2) := by
  refine ⟨fun pins s σ H Q I h => ?_⟩
  refine subD_of PySem.F.slot_dict_getitem.lookup hs (thn (ho.run pins s σ H _ I h) fun u s1 ⟨x, H1, I1, rx, q1⟩ => thn (hi.run pins s1 σ H1 _ I1 q1) fun iv s2 ⟨y, H2, I2, ry, a, kvs, k, d, ex, g, hk, rk, hv, q2⟩ => ?_)
  subst ex
  obtain rfl : u = Value.ref a := rx
  obtain ⟨xs, tr, dd, sm⟩ := g.at I2
  obtain ⟨nk, b, e1, e2, rfl, rfl, ki⟩ := key_is I2 hk rk ry
  obtain ⟨p, v, hp, rv, rl⟩ := (tr.val e1).1 d hv
  exact ⟨(dn_type I2 g).1, wpAny_getItem_heap (room_n hu) ki dd hp ⟨v, H2, I2.tok _, rl, q2 v rv⟩⟩
theorem pc_notInN (hu : X.A.units + 65 < cLine) (hi : PE X i ty) (ho : PE X o td) : PC X .NotIn i o
    (fun σ H Q => ty σ H fun y H1 => td σ H1 fun x H2 => ∃ a kvs k, x = .ref a ∧ DN X.K H2 a kvs ∧ keyB k = true ∧ Rp X.K H2 k y ∧ Q (.bl (!(valN kvs k).isSome)) H2) := by
  refine ⟨fun pins s σ H Q I h => ?_⟩
  refine thn (hi.run pins s σ H _ I h) fun iv s1 ⟨y, H1, I1, ry, q1⟩ => thn (ho.run pins s1 σ H1 _ I1 q1) fun u s2 ⟨x, H2, I2, rx, a, kvs, k, ex, g, hk, rk, q2⟩ => ?_
  subst ex
  obtain rfl : u = Value.ref a := rx
  obtain ⟨xs, tr, dd, sm⟩ := g.at I2
  obtain ⟨nk, b, e1, e2, rfl, rfl, ki⟩ := key_is I2 hk rk ry
  refine wpAny_notIn_heap (room_n hu) ki sm dd ?_
  rw [tr.isSome e1]
  exact ⟨.bl _, H2, I2.tok _, rfl, q2⟩
/-- d[k] = v -/
theorem ps_dputN (hu : X.A.units + 65 < cLine) (ho : PE X o td) (hi : PE X i ty) (hv : PE X value tv) (hs : swapsWith value (some (.Subscript o i pos')) pos.line X.env = pure false) :
    PS X (.Assign [.Subscript o i pos'] value pos) (fun F σ H => tv σ H fun v H1 => td σ H1 fun x H2 => ty σ H2 fun y H3 => ∃ a es kvs k d, x = .ref a ∧ H3 a = some (dO a es) ∧ RpD X.K H3 kvs es ∧ (kvs.map fun p => nkOf p.1).Nodup ∧ (a == sysModules) = false ∧ keyB k = true ∧ Rp X.K H3 k y ∧ Rp X.K H3 d v ∧ kvs.length < sizeLine ∧
      ∀ es', RpD X.K (upd H3 a (dO a es')) (putN kvs k d) es' → F.nx σ (upd H3 a (dO a es'))) := by
  refine ⟨fun pins s σ H D I h => ?_⟩
  refine wpAny_Assign_Subscript (thn (hv.run pins s σ H _ I h) fun r s1 ⟨v, H1, I1, rv, q1⟩ => thn (ho.run pins s1 σ H1 _ I1 q1) fun u s2 ⟨x, H2, I2, rx, q2⟩ => thn (hi.run pins s2 σ H2 _ I2 q2) fun iv s3 ⟨y, H3, I3, ry, a, es, kvs, k, d, ex, ea, l, nd, sm, hk, rk, rd, hz, q3⟩ => ?_) hs
  subst ex
  obtain rfl : u = Value.ref a := rx
  obtain ⟨xs, tr, dd, _⟩ := DN.at I3 (⟨es, .inl ea, l, nd, sm⟩ : DN X.K H3 a kvs)
  have hk2 := hk
  obtain ⟨nk, b, e1, e2, rfl, rfl, ki⟩ := key_is I3 hk rk ry
  have hl : xs.length ≤ sizeLine := by rw [← Paired.length tr]; omega
  refine wpAny_setItem_heap (hsz := hl) (room_n hu) ki dd fun h' dd' hs => ?_
  obtain ⟨q, es', ep, hq, h2, h3, h4, _, h5⟩ := dd'
  have hes : es' = ((storedH xs nk b r).map (entryOfKey (nestedKind X.prog X.w))).toArray := by rw [← h4]
  have x : Ext H3 (upd H3 a (dO a ((storedH xs nk b r).map (entryOfKey (nestedKind X.prog X.w))))) := Ext.putS ea (fun _ z => by cases z) (fun _ _ z => by cases z)
  have tr' : TR X.K H3 (putN kvs k d) (storedH xs nk b r) := tr.put (keyB_ok hk2).1 e1 e2 rk rd rv
  refine ⟨σ, _, d_write I3 (ob := dO a ((storedH xs nk b r).map (entryOfKey (nestedKind X.prog X.w)))) (by rw [ea]; exact True.intro) hs ⟨q, hq⟩ ⟨⟨q, ep, hq, h2, by rw [h3, hes]⟩, ⟨q, hq⟩, fun h1 h2 ⟨o, ep, g1, g2, g3⟩ k => ⟨o, ep, k o g1, g2, g3⟩⟩, q3 _ ((tr'.rpd).ext x)⟩
/-- {}: empty -/
theorem pe_dnewN : PE X (.Dict [] [] pos) (fun _ H Q => ∀ p, H p = none → (p == sysModules) = false → Q (.ref p) (upd H p (dO p []))) := ⟨fun pins s σ H Q I h =>
  wpAny_Dict_empty ⟨.ref s.heap.objs.size, _, I.laid (a := s.heap.objs.size) (o := dO s.heap.objs.size []) (t' := s.toks) (fun _ _ q => Heap.get?_push_of_some _ q) (Nat.le_refl _) ⟨⟨_, 0, Heap.get?_push_size _ rfl, ⟨rfl, rfl, rfl⟩, rfl⟩, ⟨_, Heap.get?_push_size _ rfl⟩, fun h1 h2 ⟨o, ep, g1, g2, g3⟩ k => ⟨o, ep, k o g1, g2, g3⟩⟩, rfl, h _ (I.hok.fresh (Nat.le_refl _)) (beq_eq_false_iff_ne.mpr (Ne.symm (Nat.ne_of_lt I.big)))⟩⟩
end
end DL
set_option Elab.async false
set_option linter.all false
set_option maxRecDepth 100000
set_option maxHeartbeats 1000000
/-! DL31: dicts over data. -/
namespace DL
open PySem PySem.Spec PyProof.Rows L2
theorem keyB_2 (a b : Int) : keyB (.tuple [.int a, .int b]) = true := rfl
theorem keyB_3 (a b c : Int) : keyB (.tuple [.int a, .int b, .int c]) = true := rfl
theorem keyB_4 (a b c d : Int) : keyB (.tuple [.int a, .int b, .int c, .int d]) = true := rfl
def dictAt (E : Env) (i : Nat) : Option (List (D × D)) := match E[i]? with
  | some (.dt kvs) => some kvs
  | some (.d (.dict kvs)) => some kvs
  | _ => none
def tupKeys (kvs : List (D × D)) : Bool := kvs.all fun p => match p.1 with
  | .tuple _ => true
  | _ => false
def optQ {α : Type} (o : Option α) (Q : α → Prop) : Prop := match o with
  | some d => Q d
  | none => False
section
variable {K : PySem.W.Frag} {G : Gh} {H : Hp} {E : Env} {σ : St} {ex : List Addr}
theorem dict_of {kvs : List (D × D)} {v : V} (p : Rp K H (.dict kvs) v) : ∃ a, v = .ref a ∧ (DN K H a kvs ∨ kvs = [(.none, .int a)]) := by
  generalize e : PyData.dict kvs = d at p
  cases p with
  | dct h l n m => cases e; exact ⟨_, rfl, .inl ⟨_, .inr ⟨_, h⟩, l, n, m⟩⟩
  | hdl a => cases e; exact ⟨a, rfl, .inr rfl⟩
  | _ => cases e
theorem own_dn {kvs : List (D × D)} {a : Addr} (h : RelM K H (.dt kvs) a) : DN K H a kvs := by
  obtain ⟨es, e, l, n, m⟩ := h
  exact ⟨es, .inl e, l, n, m⟩
theorem dict_read {i : Nat} {kvs : List (D × D)} (r : RelX K G ex H E σ) (e : dictAt E i = some kvs) : ∃ a, σ[i]? = some (some (.ref a)) ∧ (DN K H a kvs ∨ kvs = [(.none, .int a)]) := by
  unfold dictAt at e
  split at e
  · rename_i kvs' he
    cases e
    obtain ⟨a, e1, e2⟩ := r.mutAt he rfl
    exact ⟨a, e1, .inl (own_dn e2)⟩
  · rename_i kvs' he
    cases e
    obtain ⟨v, e1, p⟩ := r.data he
    obtain ⟨a, rfl, h⟩ := dict_of p
    exact ⟨a, e1, h⟩
  · cases e
theorem valN_hdl {a : Addr} {k : D} (hk : keyB k = true) : valN [(.none, .int a)] k = none := by
  obtain ⟨_, nk, e, _⟩ := keyB_ok hk
  rw [valN_cons, if_neg]
  · rfl
  · rw [e]; simp [nkOf]
theorem Rd.pext {H' : Hp} (p : PExt H H') {a : Addr} {u : HO} (h : Rd H a u) : Rd H' a u := by
  rcases h with h | ⟨o, h⟩
  · exact .inl (p _ _ h)
  · exact .inr ⟨o, p _ _ h⟩
end
section
variable {X : Cx} {G : Gh} {a b c e f : Expr} {es : List Expr} {pos pos' p0 apos cpos : Pos} {x : Str} {tk tv tx ta : TD}
/-- d[k], d a name -/
def tDGetV (i : Nat) (tk : TD) : TD := fun E Q => match dictAt E i with
  | some _ => tk E fun k E1 => match dictAt E1 i with
    | some kvs => keyB k = true ∧ optQ (valN kvs k) fun d => Q d E1
    | none => False
  | none => False
theorem ed_dgetV (i : Nat) (hu : X.A.units + 65 < cLine) (hk : ED X G e tk) (hN : X.N[i]? = some x := by rfl) (hv : Vis X.env.scope x := by first | exact Or.inl rfl | exact Or.inr (Or.inl rfl) | exact Or.inr (Or.inr rfl)) (hd : (x == ("__debug__" : Str)) = false := by decide)
    (hcd : (x == ("__classdict__" : Str)) = false := by decide) (hs : NoSl e := by intro _ _; rfl) : ED X G (.Subscript (.Name x p0) e pos) (tDGetV i tk) :=
  ⟨PE.weak (pe_dgetN hu (pe_var hN hv hd hcd) hk.pe hs) fun σ H Q ⟨E, QE, r, q, k⟩ => by
    unfold tDGetV at q
    split at q
    · rename_i kvs0 he0
      obtain ⟨p, e1, e2⟩ := dict_read r he0
      refine ⟨_, e1, E, _, r, q, fun kd E1 v H1 q1 x1 r1 p1 => ?_⟩
      split at q1
      · rename_i kvs he
        obtain ⟨p', f1, f2⟩ := dict_read r1 he
        rw [e1] at f1; cases f1
        obtain ⟨hk, q1⟩ := q1
        rcases f2 with f2 | f2
        · cases hv : valN kvs kd with
          | none => rw [hv] at q1; exact q1.elim
          | some d => rw [hv] at q1; exact ⟨p, kvs, kd, d, rfl, f2, hk, p1, hv, fun v rv => k _ _ _ _ q1 x1 r1 rv⟩
        · rw [f2, valN_hdl hk] at q1; exact q1.elim
      · exact q1.elim
    · exact q.elim⟩
/-- d[k], d data -/
def tDGetD (ta tk : TD) : TD := fun E Q => ta E fun x E1 => tk E1 fun k E2 => match x with
  | .dict kvs => keyB k = true ∧ optQ (valN kvs k) fun d => Q d E2
  | _ => False
/-- d.get(k, x), d a name -/
def tDGet2V (i : Nat) (tk tx : TD) : TD := fun E Q => match dictAt E i with
  | some kvs0 => tupKeys kvs0 = true ∧ tk E fun k E1 => tx E1 fun z E2 => match dictAt E2 i with
    | some kvs => keyB k = true ∧ tupKeys kvs = true ∧ Q ((valN kvs k).getD z) E2
    | none => False
  | none => False
/-- k in d, d a name of a dict of one's own -/
def tInN (tk : TD) (i : Nat) : TTd := fun E Q => tk E fun k E1 => match E1[i]? with
  | some (.dt kvs) => keyB k = true ∧ Q (valN kvs k).isSome E1
  | _ => False
def tNotInN (tk : TD) (i : Nat) : TTd := fun E Q => tk E fun k E1 => match E1[i]? with
  | some (.dt kvs) => keyB k = true ∧ Q (!(valN kvs k).isSome) E1
  | _ => False
theorem eb_notInN (i : Nat) (hu : X.A.units + 65 < cLine) (hk : ED X G e tk) (hN : X.N[i]? = some x := by rfl) (hv : Vis X.env.scope x := by first | exact Or.inl rfl | exact Or.inr (Or.inl rfl) | exact Or.inr (Or.inr rfl)) (hd : (x == ("__debug__" : Str)) = false := by decide)
    (hcd : (x == ("__classdict__" : Str)) = false := by decide) : EB X G (.Compare e [.NotIn] [.Name x p0] pos) (tNotInN tk i) :=
  ⟨PT.weak (pt_cmp (pc_notInN hu hk.pe (pe_var hN hv hd hcd))) fun σ H Q ⟨E, QE, r, q, k⟩ => ⟨E, _, r, q, fun kd E1 v H1 q1 x1 r1 p1 => by
    split at q1
    · rename_i kvs he
      obtain ⟨p, e1, e2⟩ := r1.mutAt he rfl
      exact ⟨_, e1, p, kvs, kd, rfl, own_dn e2, q1.1, p1, _, rfl, k _ _ _ q1.2 x1 r1⟩
    · exact q1.elim⟩⟩
/-- d[k] = v -/
def sDPutV (i : Nat) (tk tv : TD) : TSd := fun DE E => tv E fun d E1 => match E1[i]? with
  | some (.dt _) => tk E1 fun k E2 => match E2[i]? with
    | some (.dt kvs) => keyB k = true ∧ kvs.length < sizeLine ∧ DE.nx (E2.set i (.dt (putN kvs k d)))
    | _ => False
  | _ => False
theorem sd_dputV (i : Nat) (hu : X.A.units + 65 < cLine) (hk : ED X G e tk) (hx : ED X G f tv) (hN : X.N[i]? = some x := by rfl) (hv : Vis X.env.scope x := by first | exact Or.inl rfl | exact Or.inr (Or.inl rfl) | exact Or.inr (Or.inr rfl)) (hd : (x == ("__debug__" : Str)) = false := by decide)
    (hcd : (x == ("__classdict__" : Str)) = false := by decide) (hs : swapsWith f (some (.Subscript (.Name x p0) e pos')) pos.line X.env = pure false := by rfl) : SD X G (.Assign [.Subscript (.Name x p0) e pos'] f pos) (sDPutV i tk tv) :=
  ⟨PS.weak (ps_dputN hu (pe_var hN hv hd hcd) hk.pe hx.pe hs) fun F σ H ⟨E, DE, r, q, k1, k2, k3, k4⟩ => ⟨E, _, r, q, fun d E1 v H1 q1 x1 r1 p1 => by
    split at q1
    · rename_i kvs0 he0
      obtain ⟨p, e1, e2⟩ := r1.mutAt he0 rfl
      refine ⟨_, e1, E1, _, r1, q1, fun kd E2 w H2 q2 x2 r2 p2 => ?_⟩
      split at q2
      · rename_i kvs he
        obtain ⟨p', f1, es, f2, l, nd, sm⟩ := r2.mutAt he rfl
        rw [e1] at f1; cases f1
        refine ⟨p, es, kvs, kd, d, rfl, f2, l, nd, sm, q2.1, p2, p1.ext x2, q2.2.1, fun es' l' => ?_⟩
        have x3 : Ext H2 (upd H2 p (dO p es')) := Ext.putS f2 (fun _ z => by cases z) (fun _ _ z => by cases z)
        exact k1 _ _ _ q2.2.2 ((x1.trans x2).trans x3) (r2.putM he rfl e1 (s1 := .dt _) ⟨es', upd_same, l', putN_nodup nd, sm⟩)
      · exact q2.elim
    · exact q1.elim⟩⟩
/-! ### new mutable things -/
abbrev TM := Env → (S → Env → Prop) → Prop
def liftM (K : PySem.W.Frag) (G : Gh) (t : TM) : TE := fun σ H Q => ∃ (E : Env) (QE : S → Env → Prop), RelE K G H E σ ∧ t E QE ∧
  ∀ s E' a H', QE s E' → Ext H H' → RelX K G [a] H' E' σ → G.H0 a = none → a ∉ G.addrs → RelM K H' s a → Q (.ref a) H'
structure EM (X : Cx) (G : Gh) (e : Expr) (t : TM) : Prop where
  pe : PE X e (liftM X.K G t)
def mDt : TM := fun E Q => Q (.dt []) E
theorem em_dt : EM X G (.Dict [] [] pos) mDt := ⟨PE.weak pe_dnewN fun σ H Q ⟨E, QE, r, q, k⟩ p hp sm => by
  obtain ⟨r2, h0, na⟩ := r.fresh (o := dO p []) hp
  exact k _ _ _ _ q (PExt.new hp).ext r2 h0 na ⟨[], upd_same, .nil, List.nodup_nil, sm⟩⟩
def mDk : TM := fun E Q => Q (.dk []) E
def sSetM (i : Nat) (t : TM) : TSd := fun DE E => t E fun s E1 => DE.nx (E1.set i s)
theorem sd_setM {i : Nat} {t : TM} (hi : i ∉ G.slots) (hN : X.N.Nodup) (hx : X.N[i]? = some x) (hl : Loc X.env.scope x) (h : EM X G e t) (hs : swapsWith e (some (.Name x pos')) pos.line X.env = pure false := by rfl)
    (hf : X.fn x = true ∨ X.env.scope.names.lookup x = some .local := by first | exact .inl rfl | exact .inr rfl | assumption) : SD X G (.Assign [.Name x pos'] e pos) (sSetM i t) :=
  ⟨PS.weak (ps_set hN hx hl h.pe hs hf) fun F σ H ⟨E, DE, r, q, k1, k2, k3, k4⟩ => ⟨E, _, r, q, fun d E1 a H1 q1 x1 r1 h0 na p1 => k1 _ _ _ q1 x1 (r1.setM (by simp) hi h0 p1)⟩⟩
def pM (t : TM) (u : TPs) : TPs := fun E Q => t E fun s E1 => u E1 fun ss E2 => Q (s :: ss) E2
end
end DL
set_option Elab.async false
set_option linter.all false
set_option maxRecDepth 100000
set_option maxHeartbeats 1000000
/-! DL32: defs that may raise: raise X(), calls of such defs, try .. except X. -/
namespace DL
open PySem PySem.Spec PyProof.Rows L2
section
variable {X : Cx} {G : Gh} {e : Expr} {pos : Pos}
theorem SDs.nox {st : List Stmt} {t : TSd} (h : SDs X.nox G st t) : SDs X G st t := ⟨PSs.nox h.pss⟩
theorem SD.nox {st : Stmt} {t : TSd} (h : SD X.nox G st t) : SDs X G [st] t := SDs.nox (sds_one h)
end
/-! ### a call of such a def -/
/-! ### try .. except X -/
end DL
set_option Elab.async false
set_option linter.all false
set_option maxRecDepth 100000
set_option maxHeartbeats 1000000
/-! DL33: a call without arguments. -/
namespace DL
open PySem PySem.Spec PyProof.Rows L2
def tCall0D (sp : SpD) : TD := fun E Q => sp [] fun r _ => Q r E
end DL
set_option Elab.async false
set_option linter.all false
set_option maxRecDepth 100000
set_option maxHeartbeats 1000000
/-! DL34: a call whose last argument is a new mutable thing; list(range(n)). -/
namespace DL
open PySem PySem.Spec PyProof.Rows L2
section
variable {K : PySem.W.Frag} {G : Gh} {H H' : Hp} {E : Env} {σ : St} {a : Addr}
theorem RelX.moveEx (r : RelX K G [a] H E σ) (keep : ∀ p o, H p = some o → p ∉ [a] → H' p = some o) (soft : Soft H a) (h0 : G.H0 a = none) (na : a ∉ G.addrs) : Ext H H' ∧ RelE K G H' E σ := by
  have ext : Ext H H' := Ext.ofSoft keep fun b hb => by rw [List.mem_singleton.mp hb]; exact soft
  refine ⟨ext, ?_⟩
  obtain ⟨l, k, pn, dm, x0, A, h1, h2, h3⟩ := r
  refine ⟨l, fun p o e ne => keep p o (k p o e ne) fun z => ?_, pn, fun b hb z => ?_, x0.trans ext, A, h1, fun i b e => ⟨(h2 i b e).1, by simp⟩, fun i s e => (h3 i s e).move ext fun b hb => ?_⟩
  · rw [List.mem_singleton.mp z, h0] at e; cases e
  · cases q : H b with
    | none => exact dm b hb q
    | some o =>
      have := keep b o q fun w => na (by rw [← List.mem_singleton.mp w]; exact hb)
      rw [z] at this; cases this
  · obtain ⟨u, hu, _⟩ := (h3 i s e).indom b hb
    rw [hu]; exact keep b u hu (h2 i b hb).2
end
abbrev TAm := Env → (List D → S → Env → Prop) → Prop
def liftAm (K : PySem.W.Frag) (G : Gh) (t : TAm) : TA := fun σ H Q => ∃ (E : Env) (QE : List D → S → Env → Prop), RelE K G H E σ ∧ t E QE ∧
  ∀ ds s E' vs a H', QE ds s E' → Ext H H' → RelX K G [a] H' E' σ → G.H0 a = none → a ∉ G.addrs → RelM K H' s a → s.isMut = true → RpL K H' ds vs → Q (vs ++ [.ref a]) H'
structure EAm (X : Cx) (G : Gh) (es : List Expr) (t : TAm) : Prop where
  pa : PA X es (liftAm X.K G t)
def amM (t : TM) : TAm := fun E Q => t E fun s E1 => s.isMut = true ∧ Q [] s E1
def amV (t : TD) (u : TAm) : TAm := fun E Q => t E fun d E1 => u E1 fun ds s E2 => Q (d :: ds) s E2
def tCallM (sp : SpD) (ta : TAm) : TD := fun E Q => ta E fun ds s E1 => sp (ds.map S.d ++ [s]) fun r _ => Q r E1
theorem AR.data {K : PySem.W.Frag} {H : Hp} {s : S} {a : Addr} (hm : s.isMut = true) (h : RelM K H s a) : ∀ {ds : List D} {vs : List V}, RpL K H ds vs → AR K H (ds.map S.d ++ [s]) (vs ++ [.ref a]) [a]
  | _, _, .nil => .o hm h .nil
  | _, _, .cons p t => .d p (AR.data hm h t)
section
variable {X : Cx} {G : Gh} {e : Expr} {es : List Expr} {pos p p1 p2 : Pos} {x : Str} {f : Addr} {fd : FuncData} {ps : List Str} {k : Nat} {sp : SpD} {ta : TAm}
theorem eam_m {t : TM} (h : EM X G e t) (hs : starEach [e] X.env = (false, eval e X.env) :: starEach [] X.env := by rfl) : EAm X G [e] (amM t) :=
  ⟨PA.weak (pa_cons h.pe pa_nil hs) fun σ H Q ⟨E, QE, r, q, k⟩ => ⟨E, _, r, q, fun s E1 a H1 q1 x1 r1 h0 na p1 => k [] s E1 [] a H1 q1.2 x1 r1 h0 na p1 q1.1 .nil⟩⟩
theorem eam_v {t : TD} {u : TAm} (h : ED X G e t) (hr : EAm X G es u) (hs : starEach (e :: es) X.env = (false, eval e X.env) :: starEach es X.env := by rfl) : EAm X G (e :: es) (amV t u) :=
  ⟨PA.weak (pa_cons h.pe hr.pa hs) fun σ H Q ⟨E, QE, r, q, k⟩ => ⟨E, _, r, q, fun d E1 v H1 q1 x1 r1 p1 => ⟨E1, _, r1, q1, fun ds s E2 vs a H2 q2 x2 r2 h0 na p2 hm l => k (d :: ds) s E2 (v :: vs) a H2 q2 (x1.trans x2) r2 h0 na p2 hm (.cons (p1.ext x2) l)⟩⟩⟩
theorem ed_callM (F : FnOk X.prog X.w X.K X.mg X.base CX0 k f fd ps (spL X.K sp)) (hr : Room k X.A) (hg : Gl X x) (hm : X.mg x = some (.ref f)) (hk : PySem.W.keepIn X.K (.ref f) = true) (hb : Binds X.K fd ps []) (ha : EAm X G (e :: es) ta) (hdb : (x == ("__debug__" : Str)) = false := by decide)
    (hs : starEach (e :: es) X.env = (false, eval e X.env) :: starEach es X.env := by rfl) (hplain : (backTo pos (starEach es X.env)).any (·.1) = false := by rfl) : ED X G (.Call (.Name x p) (e :: es) [] pos) (tCallM sp ta) :=
  ⟨PE.weak (pe_call (dvs := []) (E := fun _ _ _ => False) F hr hg hm hk hb .nil pass0 ha.pa (hdb := hdb) (he := hs) (hpl := hplain)) fun σ H Q h => by
    obtain ⟨E0, QE, r, q, kk⟩ := h
    refine ⟨E0, _, r, q, fun ds s E1 vs a H1 q1 x1 r1 h0 na p1 hmut l => ?_⟩
    show spL X.K sp ((vs ++ [.ref a]) ++ []) H1 Q _
    rw [List.append_nil]
    refine ⟨_, [a], _, q1, AR.data hmut p1 l, by simp, fun d outs v H' q2 keep pr pd => ?_⟩
    obtain ⟨x2, r2⟩ := r1.moveEx keep p1.soft h0 na
    exact kk d _ v H' q2 (x1.trans x2) r2 pd⟩
/-- list(range(n)) -/
def tListRg (ta : TD) : TLd := fun E Q => ta E fun d E1 => match d with
  | .int n => (0 ≤ n ∧ n ≤ 10000000) ∧ Q (rangeD 0 n.toNat) E1
  | _ => False
end
end DL
set_option Elab.async false
set_option linter.all false
set_option maxRecDepth 100000
set_option maxHeartbeats 1000000
/-! DL35: a, b = a list -/
namespace DL
open PySem PySem.Spec PyProof.Rows L2
section
variable {X : Cx} {G : Gh} {e : Expr} {es : List Expr} {pos : Pos}
def gLstD (n : Nat) (u : TGsd) : TGd := fun d E Q => match d with
  | .list ds => ds.length = n ∧ u ds E Q
  | _ => False
end
end DL
set_option Elab.async false
set_option linter.all false
set_option maxRecDepth 100000
set_option maxHeartbeats 4000000
/-! FnBase: _law_draw, _law_pick, _law_same -/
namespace DL
open PySem PySem.Spec PyProof.Rows L2
local macro_rules | `(tactic| walk_at "dl") => `(tactic| simp only [tV, tVr, tFzV, turnD, DL.wipeE, tK, tOpD, tUnD, tBo, tAndD, tOrD, tNotD, tIfE, DL.tAndV, DL.tOrV, DL.tNotV, tTru, truD, okLen, sSet, sSetL, sExpr, sRet, sIf, sNx, tTupD, dNil, dCons, tLstD, tFzD, tApp, tExtd, tPopAt, sSetIx, tIxO, tChainD, tChain3D, tRevT, caStr, opRepT, opAdd, opSub, opMul, opDiv, opMod, opPow, DL.opI, DL.opI0, opB0, opLt, opLe, opGt, opGtD, opLtD, opGe, opEq, opNe, opIs, opIsN, isNone, opIn, opNotIn, opIx, atD_0, atD_1, atD_2, atD_3, putD_0, unNeg, tCa1, tCa2, tCaL1, caLen, caAbs, caMax2, caMin2, caSum, caMax, caMin, caSumT, caMaxT, caMinT, caAll, caTuple, caList, caInt, tIsi, isInt, isBool, isStr, isTuple, isList, notDict, sAsg, gSet, gTupD, gsNil, gsCons, sPar, pNil, pD, pL, setAll, tCallD, aNil, aV, aO, argS, oixs, ndp, putO, tOpL, opCat, opRep, tSlD, slD, tSlL, oNo, oE, tRevD, iLstD, iTupD, iRange1, iRange2, iZipD, iZipM, finO, tTrue, Option.map, eqv_int, eqv_bool, eqv_none, shaped_int, shaped_bool, shaped_none, tLenRange, tSortSet, tLenSet, tLenSetP, tSortSetP, tCountL, tCountT, tIndexL, tIndexT, DL.tOrT, DL.tAndT, DL.tNotT, tSortRev, caSorted, iEnumL, iEnumT, decide_eq_true_eq, and_self, List.cons_append, List.nil_append, List.replicate, List.getElem?_cons_zero, List.getElem?_cons_succ, List.set_cons_zero, List.set_cons_succ, List.length_cons, List.length_nil, true_and, and_true, if_true, if_false, Bool.false_eq_true, List.contains_nil, Bool.not_false, Bool.not_true, Bool.and_self, Bool.and_true, Bool.true_and, decide_true, decide_false, beq_self_eq_true])
def tb_law_draw : TSd :=
  sSeq (sIf (tNotD (tTru (tVr 1))) (sExpr (tApp 1 (tCa1 caMax (tFzD (tOpL opCat (tFzD (tComp (iLstD (tV 0)) (gSet 4) (tTrue) (tCa1 caAbs (tV 4)) [4])) (tFzD (tLstD (dCons (tK (.int 0)) (dNil))))))))) (sNx))
      (sSeq (sExpr (tApp 1 (tK (.int 0))))
      (sSeq (sSet 3 (tCa1 caLen (tVr 1)))
      (sSeq (sSet 4 (tIfE (tTru (tV 0)) (tOpD opIx (tV 0) (tOpD opMod (tV 3) (tCa1 caLen (tV 0)))) (tK (.int 0))))
      (sSeq (sSet 5 (tOpD opMod (tIxO 1 (tK (.int 0))) (tK (.int 65536))))
      (sSeq (sSetIx 1 (tK (.int 0)) (tOpD opDiv (tIxO 1 (tK (.int 0))) (tK (.int 65536))))
      (sSeq (sSet 6 (tOpD opMod (tOpD opAdd (tOpD opAdd (tV 4) (tOpD opMul (tK (.int 40503)) (tV 5))) (tOpD opMul (tK (.int 104729)) (tV 3))) (tK (.int 4294967291))))
      (sSeq (sSet 6 (tOpD opMod (tOpD opMul (tOpD opMod (tOpD opMul (tV 6) (tV 6)) (tK (.int 4294967279))) (tK (.int 48271))) (tK (.int 4294967291))))
      (sSeq (sSet 7 (tOpD opMod (tOpD opMul (tOpD opMod (tOpD opMul (tV 6) (tV 6)) (tK (.int 4294967279))) (tK (.int 69621))) (tK (.int 4294967291))))
      (sRet (tOpD opMod (tOpD opAdd (tOpD opMul (tOpD opDiv (tV 6) (tK (.int 64))) (tK (.int 67108864))) (tOpD opDiv (tV 7) (tK (.int 64)))) (tV 2)))))))))))
def tb_law_pick (sp_law_draw : SpD) : TSd :=
  sRet (tOpD opIx (tV 2) (tCallD sp_law_draw (aV (tV 0) (aO 1 (aV (tCa1 caLen (tV 2)) (aNil))))))
def tb_law_same (sp_law_same : SpD) : TSd :=
  sSeq (sIf (tBo (tOpD opIs (tV 1) (tK .none))) (sRet (tOpD opIs (tV 0) (tK .none))) (sNx))
      (sSeq (sIf (tTru (tIsi isBool (tV 1))) (sRet (tAndV (tIsi isBool (tV 0)) (tOpD opEq (tV 0) (tV 1)))) (sNx))
      (sSeq (sIf (tTru (tIsi isTuple (tV 1))) (sSeq (sIf (tOrD (tNotD (tTru (tIsi isTuple (tV 0)))) (tBo (tOpD opNe (tCa1 caLen (tV 0)) (tCa1 caLen (tV 1))))) (sRet (tK (.bool false))) (sNx))
      (sRet (tCa1 caAll (tFzD (tComp (iZipD (tV 0) (tV 1)) (gTupD 2 (gsCons (gSet 2) (gsCons (gSet 3) (gsNil)))) (tTrue) (tCallD sp_law_same (aV (tV 2) (aV (tV 3) (aNil)))) [2, 3]))))) (sNx))
      (sSeq (sIf (tTru (tIsi isStr (tV 1))) (sRet (tAndV (tIsi isStr (tV 0)) (tOpD opEq (tV 0) (tV 1)))) (sNx))
      (sRet (tAndV (tIsi isInt (tV 0)) (tAndV (tNotV (tIsi isBool (tV 0))) (tOpD opEq (tV 0) (tV 1))))))))
def TownOk (t : List D) (b : Nat) : Prop := t.length ≤ b ∧ (t = [] ∨ ∃ (h : Int) (r : List D), t = .int h :: r)
theorem TownOk.mono {t : List D} {b b' : Nat} (h : TownOk t b) (hb : b ≤ b') : TownOk t b' := ⟨Nat.le_trans h.1 hb, h.2⟩
def spDraw : SpD := fun ss Q => ∃ (ns : List Int) (t : List D) (m : Int) (b : Nat), ss = [.d (.list (ns.map PyData.int)), .ol t, .d (.int m)] ∧ 0 < m ∧ ns.length ≤ 63 ∧ TownOk t b ∧ b ≤ 10000000 ∧
  ∀ r t', 0 ≤ r → r < m → TownOk t' (b + 2) → Q (.int r) [.ol t']
theorem small_line {n : Nat} (h : n ≤ 10000010) : n ≤ sizeLine := by rw [sizeLine_eq]; omega
theorem cmul_small {i j : Int} (h1 : i.natAbs < 2 ^ 64) (h2 : j.natAbs < 2 ^ 64) : CMulW i j := wide_mul (a := 64) (b := 64) h1 h2 (by decide) (by decide) (by decide)
theorem cdiv_small {i j : Int} (h0 : 0 < j) (h1 : j < 2 ^ 64) : CDivW i j := wide_div (b := 64) h0 (by omega) (by decide) (by decide)
theorem rd_law_draw : ∀ ss QD, spDraw ss QD → tb_law_draw { nx := fun E' => finO [1] E' (QD .none), rt := fun d E' => finO [1] E' (QD d) } (ss ++ List.replicate 5 .un) := by
  rintro ss QD ⟨ns, t, m, b, rfl, hm, hn, ht, hb, k⟩
  unfold tb_law_draw
  refine seq_step fun R hR => ?_
  have main : ∀ (h : Int) (r : List D), (h' : (PyData.int h :: r).length ≤ b + 1) → R [.d (.list (ns.map PyData.int)), .ol (.int h :: r), .d (.int m), .un, .un, .un, .un, .un] := by
    intro h r h'
    refine hR _ ?_
    rw [List.length_cons] at h'
    refine seq_step fun R hR => ?_
    walk_at "dl"
    refine ⟨Nat.lt_of_lt_of_le (show r.length + 1 < 10000002 by omega) (small_line (by omega)), hR _ ?_⟩
    refine seq_step fun R hR => ?_
    walk_at "dl"
    refine hR _ ?_
    generalize hk : (((r ++ [PyData.int 0]).length + 1 : Nat) : Int) = kk
    have hkk : 0 ≤ kk ∧ kk ≤ 10000003 := by rw [List.length_append, List.length_cons, List.length_nil] at hk; omega
    refine seq_step fun R hR => ?_
    have c4 : ∀ c : Int, R [.d (.list (ns.map PyData.int)), .ol (.int h :: (r ++ [.int 0])), .d (.int m), .d (.int kk), .d (.int c), .un, .un, .un] := by
      intro c
      refine hR _ ?_
      refine seq_step fun R hR => ?_
      walk_at "dl"
      refine ⟨by decide, hR _ ?_⟩
      have hd0 : 0 ≤ h % 65536 := Int.emod_nonneg _ (by decide)
      have hd1 : h % 65536 < 65536 := Int.emod_lt_of_pos _ (by decide)
      generalize h % 65536 = dg at hd0 hd1 ⊢
      refine seq_step fun R hR => ?_
      walk_at "dl"
      refine ⟨cdiv_small (by decide) (by decide), hR _ ?_⟩
      generalize h / 65536 = h2
      refine seq_step fun R hR => ?_
      walk_at "dl"
      refine ⟨cmul_small (by omega) (by omega), cmul_small (by omega) (by omega), by decide, hR _ ?_⟩
      generalize hn1 : (c + 40503 * dg + 104729 * kk) % 4294967291 = n1
      have h10 : 0 ≤ n1 := by rw [← hn1]; exact Int.emod_nonneg _ (by decide)
      have h11 : n1 < 4294967291 := by rw [← hn1]; exact Int.emod_lt_of_pos _ (by decide)
      refine seq_step fun R hR => ?_
      walk_at "dl"
      have g0 : 0 ≤ n1 * n1 % 4294967279 := Int.emod_nonneg _ (by decide)
      have g1 : n1 * n1 % 4294967279 < 4294967279 := Int.emod_lt_of_pos _ (by decide)
      generalize n1 * n1 % 4294967279 = n2 at g0 g1 ⊢
      refine ⟨cmul_small (by omega) (by omega), by decide, cmul_small (by omega) (by omega), by decide, hR _ ?_⟩
      generalize hn3 : n2 * 48271 % 4294967291 = n3
      have h30 : 0 ≤ n3 := by rw [← hn3]; exact Int.emod_nonneg _ (by decide)
      have h31 : n3 < 4294967291 := by rw [← hn3]; exact Int.emod_lt_of_pos _ (by decide)
      refine seq_step fun R hR => ?_
      walk_at "dl"
      have g0 : 0 ≤ n3 * n3 % 4294967279 := Int.emod_nonneg _ (by decide)
      have g1 : n3 * n3 % 4294967279 < 4294967279 := Int.emod_lt_of_pos _ (by decide)
      generalize n3 * n3 % 4294967279 = n4 at g0 g1 ⊢
      refine ⟨cmul_small (by omega) (by omega), by decide, cmul_small (by omega) (by omega), by decide, hR _ ?_⟩
      generalize n4 * 69621 % 4294967291 = n5
      walk_at "dl"
      refine ⟨cdiv_small (by decide) (by decide), cmul_small (by omega) (by omega), cdiv_small (by decide) (by decide), hm, ?_⟩
      refine k _ _ (Int.emod_nonneg _ (by omega)) (Int.emod_lt_of_pos _ hm) ⟨?_, .inr ⟨_, _, rfl⟩⟩
      rw [List.length_cons, List.length_append, List.length_cons, List.length_nil]; omega
    walk_at "dl"
    refine ifB (fun e => ?_) (fun e => c4 0)
    have hp : 0 < ns.length := by
      cases ns with
      | nil => simp at e
      | cons a l => simp
    rw [List.length_map]
    refine ⟨by omega, ?_⟩
    have i0 : 0 ≤ kk % (ns.length : Int) := Int.emod_nonneg _ (by omega)
    have i1 : kk % (ns.length : Int) < ns.length := Int.emod_lt_of_pos _ (by omega)
    exact atD_at i0 (getElem_map_int (by omega)) (c4 _)
  walk_at "dl"
  refine ifB (fun e => ?_) (fun e => ?_)
  · have e0 : t = [] := by
      cases t with
      | nil => rfl
      | cons a l => simp at e
    subst e0
    refine comp_map (E1 := [.d (.list (ns.map PyData.int)), .ol [], .d (.int m), .un, .un, .un, .un, .un]) ns PyData.int (fun i => .int (if i < 0 then -i else i)) (fun R h => h) (un1 rfl) (small_line (by omega)) (fun i _ R hq => hq _ rfl) ?_
    · refine ⟨small_line (by omega), ?_, (ns.map fun i => if i < 0 then -i else i) ++ [0], ?_, ?_, fun mm _ _ => ?_⟩
      · rw [List.length_map]; exact small_line (by omega)
      · rw [List.map_append, List.map_map]; rfl
      · simp
      · refine ⟨small_line (by decide), ?_⟩
        exact main mm [] (by rw [List.length_cons, List.length_nil]; omega)
  · rcases ht.2 with e0 | ⟨h, r, e0⟩
    · subst e0; simp at e
    · subst e0
      exact main h r (by have := ht.1; omega)
theorem sh_law_draw : ∀ ss QD, spDraw ss QD → ss.length = 3 ∧ mpos 0 ss = [1] := by
  rintro ss QD ⟨ns, t, m, b, rfl, _⟩
  exact ⟨rfl, rfl⟩
/-- some[..]: any item -/
def spPick : SpD := fun ss Q => ∃ (ns : List Int) (t : List D) (sm : D) (xs : List D) (b : Nat), ss = [.d (.list (ns.map PyData.int)), .ol t, .d sm] ∧ (sm = .list xs ∨ sm = .tuple xs) ∧ xs ≠ [] ∧ ns.length ≤ 63 ∧ TownOk t b ∧ b ≤ 10000000 ∧
  ∀ x t', x ∈ xs → TownOk t' (b + 2) → Q x [.ol t']
theorem sh_law_pick : ∀ ss QD, spPick ss QD → ss.length = 3 ∧ mpos 0 ss = [1] := by
  rintro ss QD ⟨ns, t, sm, xs, b, rfl, _⟩
  exact ⟨rfl, rfl⟩
theorem rd_law_pick : ∀ ss QD, spPick ss QD → tb_law_pick spDraw { nx := fun E' => finO [1] E' (QD .none), rt := fun d E' => finO [1] E' (QD d) } (ss ++ List.replicate 0 .un) := by
  rintro ss QD ⟨ns, t, sm, xs, b, rfl, hs, hx, hn, ht, hb, k⟩
  unfold tb_law_pick
  have hp : 0 < xs.length := by
    cases xs with
    | nil => exact absurd rfl hx
    | cons a l => simp
  have mem : ∀ (r : Int) (t' : List D), 0 ≤ r → r < xs.length → TownOk t' (b + 2) → atD xs r fun x => QD x [.ol t'] := fun r t' h0 h1 h2 =>
    atD_at (d := xs[r.toNat]) h0 (List.getElem?_eq_getElem (by omega)) (k _ _ (List.getElem_mem _) h2)
  rcases hs with rfl | rfl
  · walk_at "dl"
    exact ⟨ns, t, _, b, rfl, by omega, hn, ht, hb, mem⟩
  · walk_at "dl"
    exact ⟨ns, t, _, b, rfl, by omega, hn, ht, hb, mem⟩
/-- data without lists, n tuples deep at most -/
def sameOk : Nat → D → Bool
  | _, .none => true
  | _, .bool _ => true
  | _, .int _ => true
  | _, .str x => PyData.strOk x
  | n + 1, .tuple ds => ds.all (sameOk n) && decide (ds.length ≤ 10000000)
  | _, _ => false
def spSame (n : Nat) : SpD := fun ss Q => ∃ d, ss = [.d d, .d d] ∧ sameOk n d = true ∧ Q (.bool true) []
theorem sh_law_same (n : Nat) : ∀ ss QD, spSame n ss QD → ss.length = 2 ∧ mpos 0 ss = [] := by
  rintro ss QD ⟨d, rfl, _⟩
  exact ⟨rfl, rfl⟩
def spNo : SpD := fun _ _ => False
theorem eqv_scal {d : D} (h : (match d with | .tuple _ => False | .list _ => False | .dict _ => False | _ => True)) : PyData.eqv d d = true := by
  cases d <;> first | exact h.elim | simp [PyData.eqv]
theorem zip_self {α : Type} : ∀ l : List α, l.zip l = l.map fun x => (x, x)
  | [] => rfl
  | a :: l => by rw [List.zip_cons_cons, zip_self l]; rfl
theorem rd_law_same (n : Nat) (sp : SpD) (hsp : ∀ m, n = m + 1 → sp = spSame m) : ∀ ss QD, spSame n ss QD → tb_law_same sp { nx := fun E' => finO [] E' (QD .none), rt := fun d E' => finO [] E' (QD d) } (ss ++ List.replicate 2 .un) := by
  rintro ss QD ⟨d, rfl, hd, q⟩
  unfold tb_law_same
  cases d with
  | none => exact q
  | bool b =>
    refine seq_step fun R hR => ?_
    walk_at "dl"
    refine hR _ ?_
    refine seq_step fun R hR => ?_
    walk_at "dl"
    exact q
  | int i =>
    refine seq_step fun R hR => ?_
    walk_at "dl"
    refine hR _ ?_
    refine seq_step fun R hR => ?_
    walk_at "dl"
    refine hR _ ?_
    refine seq_step fun R hR => ?_
    walk_at "dl"
    refine hR _ ?_
    refine seq_step fun R hR => ?_
    walk_at "dl"
    refine hR _ ?_
    walk_at "dl"
    exact q
  | str x =>
    refine seq_step fun R hR => ?_
    walk_at "dl"
    refine hR _ ?_
    refine seq_step fun R hR => ?_
    walk_at "dl"
    refine hR _ ?_
    refine seq_step fun R hR => ?_
    walk_at "dl"
    refine hR _ ?_
    refine seq_step fun R hR => ?_
    have hs : SeqAt.shaped (.str x) = true := by
      have : PyData.strOk x = true := by cases n <;> exact hd
      show (PyData.strOk x && decide ((0 : Nat) ≤ 64)) = true
      rw [this]; rfl
    walk_at "dl"
    refine ⟨hs, ?_⟩
    rw [eqv_scal trivial]; exact q
  | list _ => cases n <;> cases hd
  | dict _ => cases n <;> cases hd
  | tuple ds =>
    cases n with
    | zero => cases hd
    | succ m =>
      have hsp := hsp m rfl
      subst hsp
      have hd : (ds.all (sameOk m) && decide (ds.length ≤ 10000000)) = true := hd
      rw [Bool.and_eq_true] at hd
      have hl : ds.length ≤ 10000000 := of_decide_eq_true hd.2
      have ha := List.all_eq_true.mp hd.1
      refine seq_step fun R hR => ?_
      walk_at "dl"
      refine hR _ ?_
      refine seq_step fun R hR => ?_
      walk_at "dl"
      refine hR _ ?_
      refine seq_step fun R hR => ?_
      refine ⟨trivial, trivial, ifT (b := isTuple (.tuple ds)) rfl ?_⟩
      refine seq_step fun R2 hR2 => ?_
      walk_at "dl"
      refine hR2 _ ?_
      show tComp _ _ _ _ _ _ _
      refine comp_map (E1 := [.d (.tuple ds), .d (.tuple ds), .un, .un]) ds (fun x => PyData.tuple [x, x]) (fun _ => PyData.bool true) (fun R h => ?_) (un2 rfl rfl) (small_line (by omega)) (fun x hx R hq => ?_) ?_
      · show R (zipD ds ds) _
        unfold zipD
        rw [zip_self, List.map_map]
        exact h
      · exact ⟨rfl, rfl, x, rfl, ha x hx, hq _ rfl⟩
      · refine ⟨ds.map fun _ => true, by rw [List.map_map]; rfl, ?_⟩
        have : (ds.map fun _ => true).all id = true := by simp
        rw [this]; exact q
end DL
set_option Elab.async false
set_option linter.all false
set_option maxRecDepth 100000
set_option maxHeartbeats 4000000
namespace DL
open PySem PySem.Spec PyProof.Rows L2
local macro_rules | `(tactic| walk_at "dl") => `(tactic| simp only [tV, tVr, tFzV, turnD, DL.wipeE, tK, tOpD, tUnD, tBo, tAndD, tOrD, tNotD, tIfE, DL.tAndV, DL.tOrV, DL.tNotV, tTru, truD, okLen, sSet, sSetL, sExpr, sRet, sIf, sNx, tTupD, dNil, dCons, tLstD, tFzD, tApp, tExtd, tPopAt, sSetIx, tIxO, tChainD, tChain3D, tRevT, caStr, opRepT, opAdd, opSub, opMul, opDiv, opMod, opPow, DL.opI, DL.opI0, opB0, opLt, opLe, opGt, opGtD, opLtD, opGe, opEq, opNe, opIs, opIsN, isNone, opIn, opNotIn, opIx, atD_0, atD_1, atD_2, atD_3, putD_0, unNeg, tCa1, tCa2, tCaL1, caLen, caAbs, caMax2, caMin2, caSum, caMax, caMin, caSumT, caMaxT, caMinT, caAll, caTuple, caList, caInt, tIsi, isInt, isBool, isStr, isTuple, isList, notDict, sAsg, gSet, gTupD, gsNil, gsCons, sPar, pNil, pD, pL, setAll, tCallD, aNil, aV, aO, argS, oixs, ndp, putO, tOpL, opCat, opRep, tSlD, slD, tSlL, oNo, oE, tRevD, iLstD, iTupD, iRange1, iRange2, iZipD, iZipM, finO, tTrue, Option.map, eqv_int, eqv_bool, eqv_none, shaped_int, shaped_bool, shaped_none, tLenRange, tSortSet, tLenSet, tCountL, tCountT, tIndexL, tIndexT, DL.tOrT, DL.tAndT, DL.tNotT, tSortRev, caSorted, iEnumL, iEnumT, decide_eq_true_eq, and_self, List.cons_append, List.nil_append, List.replicate, List.getElem?_cons_zero, List.getElem?_cons_succ, List.set_cons_zero, List.set_cons_succ, List.length_cons, List.length_nil, true_and, and_true, if_true, if_false, Bool.false_eq_true, List.contains_nil, Bool.not_false, Bool.not_true, Bool.and_self, Bool.and_true, Bool.true_and, decide_true, decide_false, beq_self_eq_true])
/-! ### _law_bent -/
/-- n deep at most, each row of 1000 at most -/
def bnd : Nat → D → Bool
  | _, .none => true
  | _, .bool _ => true
  | _, .int _ => true
  | _, .str x => PyData.strOk x && decide (x.length ≤ 1000)
  | n + 1, .tuple ds => ds.all (bnd n) && decide (ds.length ≤ 1000)
  | n + 1, .list ds => ds.all (bnd n) && decide (ds.length ≤ 1000)
  | _, _ => false
theorem of_bnd_tup {n : Nat} {ds : List D} (h : bnd (n + 1) (.tuple ds) = true) : (∀ x ∈ ds, bnd n x = true) ∧ ds.length ≤ 1000 := by
  have h : (ds.all (bnd n) && decide (ds.length ≤ 1000)) = true := h
  rw [Bool.and_eq_true] at h
  exact ⟨List.all_eq_true.mp h.1, of_decide_eq_true h.2⟩
end DL
set_option Elab.async false
set_option linter.all false
set_option maxRecDepth 100000
set_option maxHeartbeats 4000000
namespace DL
open PySem PySem.Spec PyProof.Rows L2
local macro_rules | `(tactic| walk_at "dl") => `(tactic| simp only [tV, tVr, tFzV, turnD, DL.wipeE, tK, tOpD, tUnD, tBo, tAndD, tOrD, tNotD, tIfE, DL.tAndV, DL.tOrV, DL.tNotV, tTru, truD, okLen, sSet, sSetL, sExpr, sRet, sIf, sNx, tTupD, dNil, dCons, tLstD, tFzD, tApp, tExtd, tPopAt, sSetIx, tIxO, tChainD, tChain3D, tRevT, caStr, opRepT, opAdd, opSub, opMul, opDiv, opMod, opPow, DL.opI, DL.opI0, opB0, opLt, opLe, opGt, opGtD, opLtD, opGe, opEq, opNe, opIs, opIsN, isNone, opIn, opNotIn, opIx, atD_0, atD_1, atD_2, atD_3, putD_0, unNeg, tCa1, tCa2, tCaL1, caLen, caAbs, caMax2, caMin2, caSum, caMax, caMin, caSumT, caMaxT, caMinT, caAll, caTuple, caList, caInt, tIsi, isInt, isBool, isStr, isTuple, isList, notDict, sAsg, gSet, gTupD, gsNil, gsCons, sPar, pNil, pD, pL, setAll, tCallD, aNil, aV, aO, argS, oixs, ndp, putO, tOpL, opCat, opRep, tSlD, slD, tSlL, oNo, oE, tRevD, iLstD, iTupD, iRange1, iRange2, iZipD, iZipM, finO, tTrue, Option.map, eqv_int, eqv_bool, eqv_none, shaped_int, shaped_bool, shaped_none, tLenRange, tSortSet, tLenSet, tLenSetP, tSortSetP, tCountL, tCountT, tIndexL, tIndexT, DL.tOrT, DL.tAndT, DL.tNotT, tSortRev, caSorted, iEnumL, iEnumT, decide_eq_true_eq, and_self, List.cons_append, List.nil_append, List.replicate, List.getElem?_cons_zero, List.getElem?_cons_succ, List.set_cons_zero, List.set_cons_succ, List.length_cons, List.length_nil, true_and, and_true, if_true, if_false, Bool.false_eq_true, List.contains_nil, Bool.not_false, Bool.not_true, Bool.and_self, Bool.and_true, Bool.true_and, decide_true, decide_false, beq_self_eq_true])
def tb_law_mixed (sp_law_draw : SpD) : TSd :=
  sSeq (sPar [3, 4] (pL (tCaL1 caList (tV 2)) (pL (tLstD (dNil)) (pNil))))
      (sSeq (sWhile (tTru (tVr 3)) (sExpr (tApp 4 (tPopAt 3 (tCallD sp_law_draw (aV (tV 0) (aO 1 (aV (tCa1 caLen (tVr 3)) (aNil)))))))))
      (sRet (tFzV 4)))
def tb_law_all_cards : TSd :=
  sSeq (sSetL 1 (tLstD (dNil)))
      (sSeq (sFor (iRange1 (tK (.int 4))) (gSet 2) (sExpr (tExtd 1 (tComp (iRange2 (tK (.int 1)) (tOpD opAdd (tV 0) (tK (.int 1)))) (gSet 3) (tTrue) (tTupD (dCons (tV 2) (dCons (tV 3) (dNil)))) [3]))))
      (sRet (tFzV 1)))
def tb_law_drawn_deal (sp_law_all_cards : SpD) (sp_law_mixed : SpD) : TSd :=
  sSeq (sSet 3 (tCallD sp_law_mixed (aV (tV 0) (aO 1 (aV (tCallD sp_law_all_cards (aV (tV 2) (aNil))) (aNil))))))
      (sRet (tCa1 caTuple (tFzD (tComp (iRange1 (tK (.int 4))) (gSet 4) (tTrue) (tCa1 caTuple (tFzD (tCaL1 caSorted (tFzD (tSlL (tV 3) (oE (tOpD opMul (tV 4) (tV 2))) (oE (tOpD opAdd (tOpD opMul (tV 4) (tV 2)) (tV 2)))))))) [4]))))
/-! cards: a card is a pair of ints -/
abbrev Card := Int × Int
def cE (b : Card) : D := .tuple [.int b.1, .int b.2]
theorem sh_cE (n : Nat) (b : Card) : shOk (n + 1) (cE b) = true := by cases n <;> rfl
def handD (h : List Card) : D := .tuple (h.map cE)
def allC (R : Nat) : List Card := (List.range 4).flatMap fun s : Nat => (List.range R).map fun r : Nat => ((s : Int), (r : Int) + 1)
theorem allC_len (R : Nat) : (allC R).length = 4 * R := by
  unfold allC
  simp [List.range_succ]
  omega
theorem range_1 (n : Nat) : rangeD 1 n = (List.range n).map fun i : Nat => PyData.int ((i : Int) + 1) := by
  unfold rangeD; exact List.map_congr_left fun i _ => by rw [Int.add_comm]
/-! ### _law_mixed -/
def spMixed : SpD := fun ss Q => ∃ (ns : List Int) (t xs : List D) (b : Nat), ss = [.d (.list (ns.map PyData.int)), .ol t, .d (.list xs)] ∧ ns.length ≤ 63 ∧ xs.length ≤ 1000 ∧ TownOk t b ∧ b ≤ 9000000 ∧
  ∀ ys t', ys.Perm xs → TownOk t' (b + 2 * xs.length) → Q (.list ys) [.ol t']
theorem sh_law_mixed : ∀ ss QD, spMixed ss QD → ss.length = 3 ∧ mpos 0 ss = [1] := by rintro ss QD ⟨ns, t, xs, b, rfl, _⟩; exact ⟨rfl, rfl⟩
theorem perm_pop {xs ys rest : List D} {i : Nat} {y : D} (h : (ys ++ rest).Perm xs) (hi : rest[i]? = some y) : ((ys ++ [y]) ++ rest.eraseIdx i).Perm xs := by
  refine List.Perm.trans ?_ h
  rw [List.append_assoc]
  refine List.Perm.append_left ys ?_
  exact L2.erase_perm rest i y hi
theorem rd_law_mixed : ∀ ss QD, spMixed ss QD → tb_law_mixed spDraw { nx := fun E' => finO [1] E' (QD .none), rt := fun d E' => finO [1] E' (QD d) } (ss ++ List.replicate 2 .un) := by
  rintro ss QD ⟨ns, t, xs, b, rfl, hn, hx, ht, hb, q⟩
  unfold tb_law_mixed
  refine seq_step fun R hR => ?_
  walk_at "dl"
  refine ⟨small_line (by decide), hR _ ?_⟩
  refine seq_step fun R hR => ?_
  refine ⟨fun m E => ∃ t ys rest, E = [.d (.list (ns.map PyData.int)), .ol t, .d (.list xs), .ol rest, .ol ys] ∧ (ys ++ rest).Perm xs ∧ m = rest.length ∧ TownOk t (b + 2 * ys.length), ⟨_, t, [], xs, rfl, List.Perm.refl _, rfl, ht⟩, fun m E hE => ?_⟩
  obtain ⟨t, ys, rest, rfl, hp, rfl, ht⟩ := hE
  have hlen := hp.length_eq
  rw [List.length_append] at hlen
  walk_at "dl"
  refine ifB (fun e => ?_) (fun e => ?_)
  · have hr : 0 < rest.length := by
      cases rest with
      | nil => simp at e
      | cons a l => simp
    refine ⟨ns, t, _, _, rfl, by omega, hn, ht, by omega, fun r t2 r0 r1 ht2 => ?_⟩
    walk_at "dl"
    refine ⟨⟨r0, by omega, by omega⟩, fun y hy => ⟨?_, rest.length - 1, by omega, t2, ys ++ [y], rest.eraseIdx r.toNat, rfl, perm_pop hp hy, ?_, ht2.mono (by rw [List.length_append]; simp; omega)⟩⟩
    · exact Nat.lt_of_lt_of_le (show ys.length < 10000 by omega) (small_line (by decide))
    · rw [List.length_eraseIdx_of_lt (by omega)]
  · have hr : rest = [] := by
      cases rest with
      | nil => rfl
      | cons a l => simp at e
    subst hr
    rw [List.append_nil] at hp
    refine hR _ ?_
    walk_at "dl"
    exact q ys t hp (ht.mono (by rw [hp.length_eq]; exact Nat.le_refl _))
/-! ### _law_all_cards -/
def spAllC : SpD := fun ss Q => ∃ R : Nat, ss = [.d (.int R)] ∧ R ≤ 100 ∧ Q (.list ((allC R).map cE)) []
theorem sh_law_all_cards : ∀ ss QD, spAllC ss QD → ss.length = 1 ∧ mpos 0 ss = [] := by rintro ss QD ⟨R, rfl, _⟩; exact ⟨rfl, rfl⟩
def cardsTo (R n : Nat) : List Card := (List.range n).flatMap fun s : Nat => (List.range R).map fun r : Nat => ((s : Int), (r : Int) + 1)
theorem cardsTo_succ (R n : Nat) : cardsTo R (n + 1) = cardsTo R n ++ (List.range R).map fun r : Nat => ((n : Int), (r : Int) + 1) := by
  unfold cardsTo
  rw [show List.range (n + 1) = List.range n ++ [n] from List.range_succ, List.flatMap_append]; simp
theorem cardsTo_len (R n : Nat) : (cardsTo R n).length = n * R := by
  induction n with
  | zero => simp [cardsTo]
  | succ n ih => rw [cardsTo_succ, List.length_append, ih]; simp [Nat.add_mul]
theorem rd_law_all_cards : ∀ ss QD, spAllC ss QD → tb_law_all_cards { nx := fun E' => finO [] E' (QD .none), rt := fun d E' => finO [] E' (QD d) } (ss ++ List.replicate 3 .un) := by
  rintro ss QD ⟨RR, rfl, hRR, q⟩
  unfold tb_law_all_cards
  refine seq_step fun R hR => ?_
  walk_at "dl"
  refine ⟨small_line (by decide), hR _ ?_⟩
  refine seq_step fun R hR => ?_
  refine for_inv (ds := rangeD 0 4) (E1 := [.d (.int RR), .ol [], .un, .un]) (fun Q h => ⟨⟨by decide, by decide⟩, h⟩)
    (fun i E => ∃ a2, E = [.d (.int RR), .ol ((cardsTo RR i).map cE), a2, .un]) ⟨_, rfl⟩ (fun i d E hd hE R2 hR2 => ?_) (fun E hE => ?_)
  · obtain ⟨a2, rfl⟩ := hE
    have hi : i < 4 := by have := (List.getElem?_eq_some_iff.mp hd).1; rwa [rangeD_length] at this
    rw [rangeD_get hi] at hd
    cases hd
    walk_at "dl"
    refine comp_map (E1 := [.d (.int RR), .ol ((cardsTo RR i).map cE), .d (.int (0 + (i : Int))), .un]) (List.range RR) (fun s : Nat => .int ((s : Int) + 1)) (fun s : Nat => cE (0 + (i : Int), (s : Int) + 1)) (fun Q h => ⟨⟨by decide, by decide, by omega, by omega⟩, by rw [show ((RR : Int) + 1 - 1).toNat = RR by omega, range_1]; exact h⟩) (un1 rfl) (by rw [List.length_range]; exact small_line (by omega)) (fun x hx R hq => ?_) ?_
    · exact ⟨small_line (by simp), hq _ rfl⟩
    · refine ⟨?_, hR2 _ ⟨.d (.int (0 + (i : Int))), ?_⟩⟩
      · rw [List.length_map, cardsTo_len, List.length_map, List.length_range]
        have : i * RR ≤ 3 * RR := Nat.mul_le_mul_right _ (by omega)
        exact small_line (by omega)
      · rw [cardsTo_succ, List.map_append, List.map_map, Int.zero_add]; rfl
  · obtain ⟨a2, rfl⟩ := hE
    rw [rangeD_length]
    exact hR _ q
/-! ### sorted hands -/
def le2 (p q : Card) : Bool := decide (p.1 < q.1 ∨ (p.1 = q.1 ∧ p.2 ≤ q.2))
def sortC (h : List Card) : List Card := h.mergeSort le2
theorem le2_total : PySem.W.TotalLe le2 := by
  constructor
  · intro a b c h1 h2
    have h1 := of_decide_eq_true h1
    have h2 := of_decide_eq_true h2
    exact decide_eq_true (by omega)
  · intro a b
    unfold le2
    by_cases h : a.1 < b.1 ∨ (a.1 = b.1 ∧ a.2 ≤ b.2)
    · exact .inl (decide_eq_true h)
    · exact .inr (decide_eq_true (by omega))
theorem sortC_perm (h : List Card) : (sortC h).Perm h := List.mergeSort_perm _ _
theorem sortC_up (h : List Card) : (sortC h).Pairwise fun a b => le2 a b = true := PySem.W.sort_pairwise le2_total h
theorem sort_cards (h : List Card) : sortD false (h.map cE) = (sortC h).map cE := by
  unfold sortD sortC
  refine (PySem.W.sort_maps (r := le2) (s := PySem.W.dataLe false fun d : D => d) cE fun a _ b _ => ?_).symm
  have := congrFun (congrFun (PySem.W.dataLe_ii (β := Card) (fun b => b.1) (fun b => b.2)) a) b
  exact this.symm
theorem sortOk_cards (h : List Card) : sortOk (h.map cE) := by
  refine ⟨fun d hd e he => ?_, .inl fun d hd => ?_, fun d hd => ?_⟩
  · obtain ⟨a, _, rfl⟩ := List.mem_map.mp hd
    obtain ⟨b, _, rfl⟩ := List.mem_map.mp he
    rfl
  · obtain ⟨a, _, rfl⟩ := List.mem_map.mp hd
    exact ⟨_, _, rfl⟩
  · obtain ⟨a, _, rfl⟩ := List.mem_map.mp hd
    simp [cE, PyData.depth, PyData.depthAll, PyData.canLay0, PyData.canLayAll0]
theorem perm_map_inv {α β : Type} {f : α → β} {l m : List β} (h : l.Perm m) : ∀ xs : List α, m = xs.map f → ∃ zs : List α, zs.Perm xs ∧ l = zs.map f := by
  induction h with
  | nil => intro xs e; exact ⟨xs, List.Perm.refl _, e⟩
  | cons x h ih =>
    intro xs e
    cases xs with
    | nil => cases e
    | cons y ys =>
      rw [List.map_cons] at e
      injection e with e1 e2
      obtain ⟨zs, h1, h2⟩ := ih ys e2
      exact ⟨y :: zs, h1.cons y, by rw [List.map_cons, e1, h2]⟩
  | swap x y l =>
    intro xs e
    match xs, e with
    | a :: b :: r, e =>
      rw [List.map_cons, List.map_cons] at e
      injection e with e1 e2
      injection e2 with e2 e3
      exact ⟨b :: a :: r, List.Perm.swap _ _ _, by rw [List.map_cons, List.map_cons, e1, e2, e3]⟩
  | trans h1 h2 ih1 ih2 =>
    intro xs e
    obtain ⟨zs, p1, e1⟩ := ih2 xs e
    obtain ⟨ws, p2, e2⟩ := ih1 zs e1
    exact ⟨ws, p2.trans p1, e2⟩
def cutH (zs : List Card) (R i : Nat) : List Card := (zs.take (i * R + R)).drop (i * R)
theorem cutH_len {zs : List Card} {R i : Nat} (hz : zs.length = 4 * R) (hi : i < 4) : (cutH zs R i).length = R := by
  unfold cutH
  have : i * R + R ≤ 4 * R := by rw [show i * R + R = (i + 1) * R by rw [Nat.add_mul]; omega]; exact Nat.mul_le_mul_right _ (by omega)
  rw [List.length_drop, List.length_take]; omega
theorem cutH_all {zs : List Card} {R : Nat} (hz : zs.length = 4 * R) : cutH zs R 0 ++ cutH zs R 1 ++ cutH zs R 2 ++ cutH zs R 3 = zs := by
  unfold cutH
  have e0 : (zs.take (0 * R + R)).drop (0 * R) = zs.take R := by simp
  have step : ∀ n : Nat, zs.take n ++ (zs.take (n + R)).drop n = zs.take (n + R) := fun n => by
    rw [List.drop_take, Nat.add_sub_cancel_left, List.take_add]
  rw [e0]
  have s1 := step R
  have s2 := step (R + R)
  have s3 := step (R + R + R)
  rw [show 1 * R = R by omega, show 2 * R = R + R by omega, show 3 * R = R + R + R by omega, s1, s2, s3, List.take_of_length_le (by omega)]
/-! ### _law_drawn_deal -/
def dealD (h0 h1 h2 h3 : List Card) : D := .tuple [handD h0, handD h1, handD h2, handD h3]
structure Deal (R : Nat) (h0 h1 h2 h3 : List Card) : Prop where
  l0 : h0.length = R
  l1 : h1.length = R
  l2 : h2.length = R
  l3 : h3.length = R
  u0 : h0.Pairwise fun a b => le2 a b = true
  u1 : h1.Pairwise fun a b => le2 a b = true
  u2 : h2.Pairwise fun a b => le2 a b = true
  u3 : h3.Pairwise fun a b => le2 a b = true
  all : (h0 ++ h1 ++ h2 ++ h3).Perm (allC R)
def spDeal : SpD := fun ss Q => ∃ (ns : List Int) (t : List D) (R b : Nat), ss = [.d (.list (ns.map PyData.int)), .ol t, .d (.int R)] ∧ R ≤ 100 ∧ ns.length ≤ 63 ∧ TownOk t b ∧ b ≤ 9000000 ∧
  ∀ h0 h1 h2 h3 t', Deal R h0 h1 h2 h3 → TownOk t' (b + 8 * R) → Q (dealD h0 h1 h2 h3) [.ol t']
theorem sh_law_drawn_deal : ∀ ss QD, spDeal ss QD → ss.length = 3 ∧ mpos 0 ss = [1] := by rintro ss QD ⟨ns, t, R, b, rfl, _⟩; exact ⟨rfl, rfl⟩
theorem rd_law_drawn_deal : ∀ ss QD, spDeal ss QD → tb_law_drawn_deal spAllC spMixed { nx := fun E' => finO [1] E' (QD .none), rt := fun d E' => finO [1] E' (QD d) } (ss ++ List.replicate 2 .un) := by
  rintro ss QD ⟨ns, t, RR, b, rfl, hRR, hn, ht, hb, q⟩
  unfold tb_law_drawn_deal
  refine seq_step fun R hR => ?_
  walk_at "dl"
  refine ⟨RR, rfl, hRR, ?_⟩
  walk_at "dl"
  refine ⟨ns, t, _, b, rfl, hn, by rw [List.length_map, allC_len]; omega, ht, hb, fun ys t2 hp ht2 => ?_⟩
  walk_at "dl"
  refine hR _ ?_
  obtain ⟨zs, hz, rfl⟩ := perm_map_inv hp _ rfl
  have hzl : zs.length = 4 * RR := by rw [hz.length_eq, allC_len]
  walk_at "dl"
  refine comp_map (E1 := [.d (.list (ns.map PyData.int)), .ol t2, .d (.int RR), .d (.list (zs.map cE)), .un]) (List.range 4) (fun i : Nat => .int (i : Int)) (fun i : Nat => handD (sortC (cutH zs RR i))) (fun Q h => ⟨⟨by decide, by decide⟩, by rw [show (4 : Int).toNat = 4 from rfl, show rangeD 0 4 = (List.range 4).map fun i : Nat => PyData.int (i : Int) from rfl]; exact h⟩) (un1 rfl) (small_line (by decide)) (fun i hi R hq => ?_) ?_
  · have hi := List.mem_range.mp hi
    have hm : (i : Int) * (RR : Int) = ((i * RR : Nat) : Int) := by simp
    have hb1 : i * RR ≤ 300 := Nat.le_trans (Nat.mul_le_mul_right _ (show i ≤ 3 by omega)) (by omega)
    walk_at "dl"
    refine ⟨cmul_small (by omega) (by omega), cmul_small (by omega) (by omega), ?_⟩
    rw [hm, cut_mid (by omega) (by omega), Int.toNat_natCast, show (((i * RR : Nat) : Int) + (RR : Int)).toNat = i * RR + RR by omega, ← List.map_take, ← List.map_drop]
    refine ⟨sortOk_cards _, ?_⟩
    rw [sort_cards]
    exact hq _ rfl
  · refine q (sortC (cutH zs RR 0)) (sortC (cutH zs RR 1)) (sortC (cutH zs RR 2)) (sortC (cutH zs RR 3)) t2 ⟨?_, ?_, ?_, ?_, sortC_up _, sortC_up _, sortC_up _, sortC_up _, ?_⟩ (ht2.mono (by rw [List.length_map, allC_len]; omega))
    · rw [(sortC_perm _).length_eq, cutH_len hzl (by decide)]
    · rw [(sortC_perm _).length_eq, cutH_len hzl (by decide)]
    · rw [(sortC_perm _).length_eq, cutH_len hzl (by decide)]
    · rw [(sortC_perm _).length_eq, cutH_len hzl (by decide)]
    · refine List.Perm.trans ?_ hz
      have := cutH_all hzl
      exact ((((sortC_perm _).append (sortC_perm _)).append (sortC_perm _)).append (sortC_perm _)).trans (by rw [this])
end DL
set_option Elab.async false
set_option linter.all false
set_option maxRecDepth 100000
set_option maxHeartbeats 4000000
/-! FnPlaysT: plays (plain). -/
namespace DL
open PySem PySem.Spec PyProof.Rows L2
theorem snoc_indP {α : Type} {P : List α → Prop} (h0 : P []) (hs : ∀ l a, P l → P (l ++ [a])) : ∀ l, P l := by
  intro l
  have : ∀ r : List α, P r.reverse := by
    intro r
    induction r with
    | nil => exact h0
    | cons a r ih => rw [List.reverse_cons]; exact hs _ _ ih
  rw [← List.reverse_reverse l]; exact this _
/-! ### who wins a trick -/
def cAt (tr : List Card) (i : Nat) : Card := tr.getD i (0, 0)
def beat (st : Int) (tr : List Card) (b i : Nat) : Bool := decide (((cAt tr i).1 = (cAt tr b).1 ∧ (cAt tr b).2 < (cAt tr i).2) ∨ ((cAt tr i).1 = st ∧ (cAt tr b).1 ≠ st))
def winTo (st : Int) (tr : List Card) : Nat → Nat
  | 0 => 0
  | n + 1 => if beat st tr (winTo st tr n) (n + 1) = true then n + 1 else winTo st tr n
def winI (st : Int) (tr : List Card) : Nat := winTo st tr 3
theorem winTo_le (st : Int) (tr : List Card) : ∀ n, winTo st tr n ≤ n
  | 0 => Nat.le_refl _
  | n + 1 => by
    have := winTo_le st tr n
    unfold winTo; split <;> omega
/-- what the best of the first cards is -/
theorem win_spec (st : Int) (tr : List Card) : ∀ n, ((cAt tr (winTo st tr n)).1 = st ∧ ∀ j, j ≤ n → (cAt tr j).1 = st → (cAt tr j).2 ≤ (cAt tr (winTo st tr n)).2) ∨
    ((∀ j, j ≤ n → (cAt tr j).1 ≠ st) ∧ (cAt tr (winTo st tr n)).1 = (cAt tr 0).1 ∧ ∀ j, j ≤ n → (cAt tr j).1 = (cAt tr 0).1 → (cAt tr j).2 ≤ (cAt tr (winTo st tr n)).2)
  | 0 => by
    show ((cAt tr 0).1 = st ∧ _) ∨ _
    by_cases h : (cAt tr 0).1 = st
    · exact .inl ⟨h, fun j hj _ => by rw [show j = 0 by omega]; exact Int.le_refl _⟩
    · exact .inr ⟨fun j hj => by rw [show j = 0 by omega]; exact h, rfl, fun j hj _ => by rw [show j = 0 by omega]; exact Int.le_refl _⟩
  | n + 1 => by
    have ih := win_spec st tr n
    have e : winTo st tr (n + 1) = if beat st tr (winTo st tr n) (n + 1) = true then n + 1 else winTo st tr n := rfl
    generalize winTo st tr n = b at ih e
    by_cases hb : beat st tr b (n + 1) = true
    · rw [if_pos hb] at e
      rw [e]
      have hb := of_decide_eq_true hb
      rcases ih with ⟨i1, i2⟩ | ⟨i0, i1, i2⟩
      · rcases hb with ⟨g1, g2⟩ | ⟨g1, g2⟩
        · refine .inl ⟨by omega, fun j hj hs => ?_⟩
          rcases Nat.lt_or_ge j (n + 1) with z | z
          · have := i2 j (by omega) hs; omega
          · rw [show j = n + 1 by omega]; exact Int.le_refl _
        · exact absurd i1 g2
      · rcases hb with ⟨g1, g2⟩ | ⟨g1, g2⟩
        · by_cases hst : (cAt tr (n + 1)).1 = st
          · have hst0 : (cAt tr 0).1 = st := by omega
            exact absurd hst0 (i0 0 (by omega))
          · refine .inr ⟨fun j hj => ?_, by omega, fun j hj hs => ?_⟩
            · rcases Nat.lt_or_ge j (n + 1) with z | z
              · exact i0 j (by omega)
              · rw [show j = n + 1 by omega]; exact hst
            · rcases Nat.lt_or_ge j (n + 1) with z | z
              · have := i2 j (by omega) hs; omega
              · rw [show j = n + 1 by omega]; exact Int.le_refl _
        · refine .inl ⟨g1, fun j hj hs => ?_⟩
          rcases Nat.lt_or_ge j (n + 1) with z | z
          · exact absurd hs (i0 j (by omega))
          · rw [show j = n + 1 by omega]; exact Int.le_refl _
    · rw [if_neg hb] at e
      rw [e]
      have hb : ¬ (((cAt tr (n + 1)).1 = (cAt tr b).1 ∧ (cAt tr b).2 < (cAt tr (n + 1)).2) ∨ ((cAt tr (n + 1)).1 = st ∧ (cAt tr b).1 ≠ st)) := fun h => hb (decide_eq_true h)
      rcases ih with ⟨i1, i2⟩ | ⟨i0, i1, i2⟩
      · refine .inl ⟨i1, fun j hj hs => ?_⟩
        rcases Nat.lt_or_ge j (n + 1) with z | z
        · exact i2 j (by omega) hs
        · have ej : j = n + 1 := by omega
          subst ej
          omega
      · refine .inr ⟨fun j hj => ?_, i1, fun j hj hs => ?_⟩
        · rcases Nat.lt_or_ge j (n + 1) with z | z
          · exact i0 j (by omega)
          · have ej : j = n + 1 := by omega
            subst ej
            intro h
            have := i0 0 (by omega)
            omega
        · rcases Nat.lt_or_ge j (n + 1) with z | z
          · exact i2 j (by omega) hs
          · have ej : j = n + 1 := by omega
            subst ej
            omega
def suitOf (st : Int) (tr : List Card) : Int := if st ∈ tr.map (·.1) then st else (cAt tr 0).1
theorem cAt_get {tr : List Card} {i : Nat} (h : i < tr.length) : tr[i]? = some (cAt tr i) := by
  unfold cAt; rw [List.getD_eq_getElem?_getD, List.getElem?_eq_getElem h]; rfl
theorem cAt_mem {tr : List Card} {i : Nat} (h : i < tr.length) : cAt tr i ∈ tr := List.mem_of_getElem? (cAt_get h)
theorem mem_cAt {tr : List Card} {c : Card} (h : c ∈ tr) : ∃ i, i < tr.length ∧ cAt tr i = c := by
  obtain ⟨i, hi, e⟩ := List.getElem_of_mem h
  refine ⟨i, hi, ?_⟩
  unfold cAt; rw [List.getD_eq_getElem?_getD, List.getElem?_eq_getElem hi]; exact e
/-- of four cards: the best one -/
theorem win_best (st : Int) {tr : List Card} (h4 : tr.length = 4) : (cAt tr (winI st tr)).1 = suitOf st tr ∧ ∀ c ∈ tr, c.1 = suitOf st tr → c.2 ≤ (cAt tr (winI st tr)).2 := by
  unfold suitOf winI
  rcases win_spec st tr 3 with ⟨i1, i2⟩ | ⟨i0, i1, i2⟩
  · have hm : st ∈ tr.map (·.1) := List.mem_map.mpr ⟨_, cAt_mem (by have := winTo_le st tr 3; omega), i1⟩
    rw [if_pos hm]
    refine ⟨i1, fun c hc hs => ?_⟩
    obtain ⟨j, hj, rfl⟩ := mem_cAt hc
    exact i2 j (by omega) hs
  · have hm : st ∉ tr.map (·.1) := fun h => by
      obtain ⟨c, hc, e⟩ := List.mem_map.mp h
      obtain ⟨j, hj, rfl⟩ := mem_cAt hc
      exact i0 j (by omega) e
    rw [if_neg hm]
    refine ⟨i1, fun c hc hs => ?_⟩
    obtain ⟨j, hj, rfl⟩ := mem_cAt hc
    exact i2 j (by omega) hs
/-! ### trick by trick -/
/-- who leads, the cards of the trick that goes on, the tricks won -/
structure Stand where
  ld : Int
  tr : List Card
  w0 : Int
  w1 : Int
def upW (s : Stand) (l : Int) : Stand := ⟨l, [], if l % 2 = 0 then s.w0 + 1 else s.w0, if l % 2 = 0 then s.w1 else s.w1 + 1⟩
/-- a card more -/
def stepP (st : Int) (s : Stand) (c : Card) : Stand := if (s.tr ++ [c]).length = 4 then upW s ((s.ld + winI st (s.tr ++ [c])) % 4) else { s with tr := s.tr ++ [c] }
def walkP (st ld : Int) (cs : List Card) : Stand := cs.foldl (stepP st) ⟨ld, [], 0, 0⟩
theorem walk_snoc (st ld : Int) (cs : List Card) (c : Card) : walkP st ld (cs ++ [c]) = stepP st (walkP st ld cs) c := by unfold walkP; rw [List.foldl_append]; rfl
theorem walk_tr (st ld : Int) (cs : List Card) : (walkP st ld cs).tr = cs.drop (cs.length / 4 * 4) := by
  refine snoc_indP (P := fun cs => (walkP st ld cs).tr = cs.drop (cs.length / 4 * 4)) rfl (fun cs c ih => ?_) cs
  rw [walk_snoc]
  unfold stepP
  rw [ih, List.length_append, List.length_drop, List.length_cons, List.length_nil, List.length_append, List.length_cons, List.length_nil]
  split
  · rename_i h
    show [] = _
    rw [List.drop_of_length_le (by rw [List.length_append, List.length_cons, List.length_nil]; omega)]
  · rename_i h
    show cs.drop _ ++ [c] = _
    rw [show (cs.length + 1) / 4 * 4 = cs.length / 4 * 4 by omega, List.drop_append_of_le_length (by omega)]
end DL
set_option Elab.async false
set_option linter.all false
set_option maxRecDepth 100000
set_option maxHeartbeats 4000000
namespace DL
open PySem PySem.Spec PyProof.Rows L2
local macro_rules | `(tactic| walk_at "dl") => `(tactic| simp only [tV, tVr, tFzV, turnD, DL.wipeE, tK, tOpD, tUnD, tBo, tAndD, tOrD, tNotD, tIfE, DL.tAndV, DL.tOrV, DL.tNotV, tTru, truD, okLen, sSet, sSetL, sExpr, sRet, sIf, sNx, tTupD, dNil, dCons, tLstD, tFzD, tApp, tExtd, tPopAt, sSetIx, tIxO, tChainD, tChain3D, tRevT, caStr, opRepT, opAdd, opSub, opMul, opDiv, opMod, opPow, DL.opI, DL.opI0, opB0, opLt, opLe, opGt, opGtD, opLtD, opGe, opEq, opNe, opIs, opIsN, isNone, opIn, opNotIn, opIx, atD_0, atD_1, atD_2, atD_3, putD_0, unNeg, tCa1, tCa2, tCaL1, caLen, caAbs, caMax2, caMin2, caSum, caMax, caMin, caSumT, caMaxT, caMinT, caAll, caTuple, caList, caInt, tIsi, isInt, isBool, isStr, isTuple, isList, notDict, sAsg, gSet, gTupD, gsNil, gsCons, sPar, pNil, pD, pL, setAll, tCallD, aNil, aV, aO, argS, oixs, ndp, putO, tOpL, opCat, opRep, tSlD, slD, tSlL, oNo, oE, tRevD, iLstD, iTupD, iRange1, iRange2, iZipD, iZipM, finO, tTrue, Option.map, eqv_int, eqv_bool, eqv_none, shaped_int, shaped_bool, shaped_none, tLenRange, tSortSet, tLenSet, tLenSetP, tSortSetP, tCountL, tCountT, tIndexL, tIndexT, DL.tOrT, DL.tAndT, DL.tNotT, tSortRev, caSorted, iEnumL, iEnumT, decide_eq_true_eq, and_self, List.cons_append, List.nil_append, List.replicate, List.getElem?_cons_zero, List.getElem?_cons_succ, List.set_cons_zero, List.set_cons_succ, List.length_cons, List.length_nil, true_and, and_true, if_true, if_false, Bool.false_eq_true, List.contains_nil, Bool.not_false, Bool.not_true, Bool.and_self, Bool.and_true, Bool.true_and, decide_true, decide_false, beq_self_eq_true])
def tb_winner_of : TSd :=
  sSeq (sSet 3 (tK (.int 0)))
      (sSeq (sFor (iRange2 (tK (.int 1)) (tK (.int 4))) (gSet 4) (sSeq (sAsg (tOpD opIx (tV 2) (tV 4)) (gTupD 2 (gsCons (gSet 5) (gsCons (gSet 6) (gsNil)))))
      (sIf (tOrD (tAndD (tBo (tOpD opEq (tV 5) (tOpD opIx (tOpD opIx (tV 2) (tV 3)) (tK (.int 0))))) (tBo (tOpD opGt (tV 6) (tOpD opIx (tOpD opIx (tV 2) (tV 3)) (tK (.int 1)))))) (tAndD (tBo (tOpD opEq (tV 5) (tV 0))) (tBo (tOpD opNe (tOpD opIx (tOpD opIx (tV 2) (tV 3)) (tK (.int 0))) (tV 0))))) (sSet 3 (tV 4)) (sNx))))
      (sRet (tOpD opMod (tOpD opAdd (tV 1) (tV 3)) (tK (.int 4)))))
def tb_walked (sp_winner_of : SpD) : TSd :=
  sSeq (sSetL 3 (tLstD (dCons (tK (.int 0)) (dCons (tK (.int 0)) (dNil)))))
      (sSeq (sFor (iRange3 (tK (.int 0)) (tOpD opSub (tCa1 caLen (tV 2)) (tK (.int 3))) (tK (.int 4))) (gSet 4) (sSeq (sSet 1 (tCallD sp_winner_of (aV (tV 0) (aV (tV 1) (aV (tSlD (tV 2) (oE (tV 4)) (oE (tOpD opAdd (tV 4) (tK (.int 4))))) (aNil))))))
      (sSetIx 3 (tOpD opMod (tV 1) (tK (.int 2))) (tOpD opAdd (tIxO 3 (tOpD opMod (tV 1) (tK (.int 2)))) (tK (.int 1))))))
      (sRet (tTupD (dCons (tV 1) (dCons (tSlD (tV 2) (oE (tOpD opMul (tOpD opDiv (tCa1 caLen (tV 2)) (tK (.int 4))) (tK (.int 4)))) (oNo)) (dCons (tCa1 caTuple (tVr 3)) (dNil)))))))
def tb_left_of : TSd :=
  sRet (tCa1 caTuple (tFzD (tComp (iTupD (tV 0)) (gSet 2) (tTrue) (tCa1 caTuple (tFzD (tComp (iTupD (tV 2)) (gSet 3) (tBo (tOpD opNotIn (tV 3) (tV 1))) (tV 3) [3]))) [2])))
def tb_turn_of (sp_walked : SpD) : TSd :=
  sSeq (sIf (tBo (tOpD opEq (tCa1 caLen (tV 3)) (tOpD opMul (tK (.int 4)) (tCa1 caLen (tOpD opIx (tV 0) (tK (.int 0))))))) (sRet (tK .none)) (sNx))
      (sSeq (sAsg (tCallD sp_walked (aV (tV 1) (aV (tV 2) (aV (tV 3) (aNil))))) (gTupD 3 (gsCons (gSet 4) (gsCons (gSet 5) (gsCons (gSet 6) (gsNil))))))
      (sRet (tOpD opMod (tOpD opAdd (tV 4) (tCa1 caLen (tV 5))) (tK (.int 4)))))
def tb_may_play (sp_walked : SpD) (sp_left_of : SpD) (sp_turn_of : SpD) : TSd :=
  sSeq (sSet 4 (tCallD sp_turn_of (aV (tV 0) (aV (tV 1) (aV (tV 2) (aV (tV 3) (aNil)))))))
      (sSeq (sIf (tBo (tOpD opIs (tV 4) (tK .none))) (sRet (tTupD (dNil))) (sNx))
      (sSeq (sSet 5 (tOpD opIx (tCallD sp_left_of (aV (tV 0) (aV (tV 3) (aNil)))) (tV 4)))
      (sSeq (sSet 6 (tOpD opIx (tCallD sp_walked (aV (tV 1) (aV (tV 2) (aV (tV 3) (aNil))))) (tK (.int 1))))
      (sSeq (sSet 7 (tCa1 caTuple (tFzD (tComp (iTupD (tV 5)) (gSet 8) (tAndD (tTru (tV 6)) (tBo (tOpD opEq (tOpD opIx (tV 8) (tK (.int 0))) (tOpD opIx (tOpD opIx (tV 6) (tK (.int 0))) (tK (.int 0)))))) (tV 8) [8]))))
      (sRet (tOrT (tV 7) (tV 5)))))))
def tb_tricks_of (sp_walked : SpD) : TSd :=
  sRet (tOpD opIx (tCallD sp_walked (aV (tV 0) (aV (tV 1) (aV (tV 2) (aNil))))) (tK (.int 2)))
def tb_law_trick_won : TSd :=
  sSeq (sSet 3 (tIfE (tBo (tOpD opIn (tV 0) (tFzD (tComp (iTupD (tV 2)) (gSet 5) (tTrue) (tOpD opIx (tV 5) (tK (.int 0))) [5])))) (tV 0) (tOpD opIx (tOpD opIx (tV 2) (tK (.int 0))) (tK (.int 0)))))
      (sSeq (sSet 4 (tCa1 caMaxD (tFzD (tComp (iTupD (tV 2)) (gSet 5) (tBo (tOpD opEq (tOpD opIx (tV 5) (tK (.int 0))) (tV 3))) (tV 5) [5]))))
      (sRet (tOpD opMod (tOpD opAdd (tV 1) (tIndexT (tV 2) (tV 4))) (tK (.int 4)))))
def tb_law_walk (sp_law_trick_won : SpD) : TSd :=
  sSeq (sPar [3, 4] (pL (tLstD (dCons (tK (.int 0)) (dCons (tK (.int 0)) (dNil)))) (pD (tTupD (dNil)) (pNil))))
      (sSeq (sFor (iTupD (tV 2)) (gSet 5) (sSeq (sSet 4 (tOpD opAdd (tV 4) (tTupD (dCons (tV 5) (dNil)))))
      (sIf (tBo (tOpD opEq (tCa1 caLen (tV 4)) (tK (.int 4)))) (sSeq (sPar [1, 4] (pD (tCallD sp_law_trick_won (aV (tV 0) (aV (tV 1) (aV (tV 4) (aNil))))) (pD (tTupD (dNil)) (pNil))))
      (sSetIx 3 (tOpD opMod (tV 1) (tK (.int 2))) (tOpD opAdd (tIxO 3 (tOpD opMod (tV 1) (tK (.int 2)))) (tK (.int 1))))) (sNx))))
      (sRet (tTupD (dCons (tV 1) (dCons (tV 4) (dCons (tCa1 caTuple (tVr 3)) (dNil)))))))
def tb_law_may_play (sp_law_walk : SpD) : TSd :=
  sSeq (sAsg (tCallD sp_law_walk (aV (tV 1) (aV (tV 2) (aV (tV 3) (aNil))))) (gTupD 3 (gsCons (gSet 4) (gsCons (gSet 5) (gsCons (gSet 6) (gsNil))))))
      (sSeq (sSet 7 (tFzD (tComp (iTupD (tOpD opIx (tV 0) (tOpD opMod (tOpD opAdd (tV 4) (tCa1 caLen (tV 5))) (tK (.int 4))))) (gSet 9) (tBo (tOpD opNotIn (tV 9) (tV 3))) (tV 9) [9])))
      (sSeq (sSet 8 (tFzD (tComp (iLstD (tV 7)) (gSet 9) (tAndD (tTru (tV 5)) (tBo (tOpD opEq (tOpD opIx (tV 9) (tK (.int 0))) (tOpD opIx (tOpD opIx (tV 5) (tK (.int 0))) (tK (.int 0)))))) (tV 9) [9])))
      (sRet (tCa1 caTuple (tOrT (tV 8) (tV 7))))))
/-! ### winner_of -/
def spWin : SpD := fun ss Q => ∃ (st ld : Int) (tr : List Card), ss = [.d (.int st), .d (.int ld), .d (handD tr)] ∧ tr.length = 4 ∧ Q (.int ((ld + (winI st tr : Int)) % 4)) []
theorem sh_winner_of : ∀ ss QD, spWin ss QD → ss.length = 3 ∧ mpos 0 ss = [] := by rintro ss QD ⟨_, _, _, rfl, _⟩; exact ⟨rfl, rfl⟩
theorem at_card {tr : List Card} {i : Int} {Q : D → Prop} (h0 : 0 ≤ i) (h : i.toNat < tr.length) (q : Q (cE (cAt tr i.toNat))) : atD (tr.map cE) i Q :=
  atD_at h0 (by rw [List.getElem?_map, cAt_get h]; rfl) q
theorem rd_winner_of : ∀ ss QD, spWin ss QD → tb_winner_of { nx := fun E' => finO [] E' (QD .none), rt := fun d E' => finO [] E' (QD d) } (ss ++ List.replicate 4 .un) := by
  rintro ss QD ⟨st, ld, tr, rfl, h4, q⟩
  unfold tb_winner_of handD
  refine seq_step fun R hR => ?_
  walk_at "dl"
  refine hR _ ?_
  refine seq_step fun R hR => ?_
  refine for_inv (ds := rangeD 1 3) (E1 := [.d (.int st), .d (.int ld), .d (.tuple (tr.map cE)), .d (.int 0), .un, .un, .un]) (fun Q h => ⟨⟨by decide, by decide⟩, h⟩)
    (fun i E => ∃ a4 a5 a6, E = [.d (.int st), .d (.int ld), .d (.tuple (tr.map cE)), .d (.int ((winTo st tr i : Nat) : Int)), a4, a5, a6]) ⟨_, _, _, rfl⟩ (fun i d E hd hE R2 hR2 => ?_) (fun E hE => ?_)
  · obtain ⟨a4, a5, a6, rfl⟩ := hE
    have hi : i < 3 := by have := (List.getElem?_eq_some_iff.mp hd).1; rwa [rangeD_length] at this
    rw [rangeD_get hi] at hd
    cases hd
    have hw := winTo_le st tr i
    refine seq_step fun R3 hR3 => ?_
    walk_at "dl"
    refine at_card (by omega) (by omega) ?_
    rw [show (1 + (i : Int)).toNat = i + 1 by omega]
    refine ⟨rfl, hR3 _ ?_⟩
    have nx : (if beat st tr (winTo st tr i) (i + 1) = true then i + 1 else winTo st tr i) = winTo st tr (i + 1) := rfl
    have yes : beat st tr (winTo st tr i) (i + 1) = true → R2 [.d (.int st), .d (.int ld), .d (.tuple (tr.map cE)), .d (.int (1 + (i : Int))), .d (.int (1 + (i : Int))), .d (.int (cAt tr (i + 1)).1), .d (.int (cAt tr (i + 1)).2)] := fun h => by
      rw [if_pos h] at nx
      refine hR2 _ ⟨.d (.int (1 + (i : Int))), .d (.int (cAt tr (i + 1)).1), .d (.int (cAt tr (i + 1)).2), ?_⟩
      rw [← nx, show (((i + 1 : Nat) : Nat) : Int) = 1 + (i : Int) by omega]
    have no : beat st tr (winTo st tr i) (i + 1) = false → R2 [.d (.int st), .d (.int ld), .d (.tuple (tr.map cE)), .d (.int ((winTo st tr i : Nat) : Int)), .d (.int (1 + (i : Int))), .d (.int (cAt tr (i + 1)).1), .d (.int (cAt tr (i + 1)).2)] := fun h => by
      rw [h, if_neg Bool.false_ne_true] at nx
      refine hR2 _ ⟨.d (.int (1 + (i : Int))), .d (.int (cAt tr (i + 1)).1), .d (.int (cAt tr (i + 1)).2), ?_⟩
      rw [← nx]
    unfold beat at yes no
    generalize winTo st tr i = b at hw yes no ⊢
    have atb : ∀ {Q : D → Prop}, Q (.tuple [.int (cAt tr b).1, .int (cAt tr b).2]) → atD (tr.map cE) ((b : Nat) : Int) Q := fun {Q} h => at_card (by omega) (by omega) (by rw [Int.toNat_natCast]; exact h)
    walk_at "dl"
    refine atb ?_
    walk_at "dl"
    by_cases g1 : (cAt tr (i + 1)).1 = (cAt tr b).1
    · rw [if_pos g1]
      refine atb ?_
      walk_at "dl"
      by_cases g2 : (cAt tr b).2 < (cAt tr (i + 1)).2
      · rw [if_pos g2]
        exact yes (decide_eq_true (.inl ⟨g1, g2⟩))
      · rw [if_neg g2]
        by_cases g3 : (cAt tr (i + 1)).1 = st
        · rw [if_pos g3]
          refine atb ?_
          walk_at "dl"
          rw [decide_eq_true (show (cAt tr b).1 = st by omega)]
          exact ifF rfl (no (decide_eq_false (by omega)))
        · rw [if_neg g3]
          exact no (decide_eq_false (by omega))
    · rw [if_neg g1]
      by_cases g3 : (cAt tr (i + 1)).1 = st
      · rw [if_pos g3]
        refine atb ?_
        walk_at "dl"
        by_cases g4 : (cAt tr b).1 = st
        · rw [decide_eq_true g4]
          exact ifF rfl (no (decide_eq_false (by omega)))
        · rw [decide_eq_false g4]
          exact ifT rfl (yes (decide_eq_true (.inr ⟨g3, g4⟩)))
      · rw [if_neg g3]
        exact no (decide_eq_false (by omega))
  · obtain ⟨a4, a5, a6, rfl⟩ := hE
    refine hR _ ?_
    rw [rangeD_length]
    walk_at "dl"
    exact ⟨by decide, q⟩
theorem rg_up {n c : Nat} (hc : 1 ≤ c) (hc' : c ≤ 5) (b : Int) (hb : -1000000 ≤ b) (hb' : b ≤ 1000000) (h : (if 0 < b then (b - 1) / (c : Int) + 1 else 0) = (n : Int)) : RgC 0 b (c : Int) n := by
  have hs : Builtin.Range.rangeSize 0 b (c : Int) = n := by
    unfold Builtin.Range.rangeSize
    rw [if_pos (by omega)]
    rw [← h]
    simp
  refine ⟨by omega, by omega, ?_, hs⟩
  unfold Builtin.Range.small
  rw [hs]
  have hn : (n : Int) ≤ 1000001 := by
    rw [← h]
    split
    · have := Int.ediv_le_self (a := b - 1) (c : Int) (by omega)
      omega
    · omega
  simp only [Builtin.Range.rangeFitsLong, Bool.and_eq_true, Bool.or_eq_true, decide_eq_true_eq, beq_iff_eq]
  rw [if_pos (by omega : (c : Int) > 0)]
  simp only [Bool.and_eq_true, decide_eq_true_eq]
  omega
theorem rgc4 {n : Nat} (h : n ≤ 1000) : RgC 0 ((n : Int) - 3) 4 (n / 4) := rg_up (c := 4) (by decide) (by decide) _ (by omega) (by omega) (by split <;> omega)
/-! ### walked, left_of, turn_of, may_play, tricks_of -/
def standD (s : Stand) : D := .tuple [.int s.ld, .tuple (s.tr.map cE), .tuple [.int s.w0, .int s.w1]]
theorem block4 {cs : List Card} {k : Nat} (h : 4 * k + 4 ≤ cs.length) : ((cs.take (4 * k + 4)).drop (4 * k)).length = 4 ∧ cs.take (4 * k + 4) = cs.take (4 * k) ++ (cs.take (4 * k + 4)).drop (4 * k) := by
  refine ⟨by rw [List.length_drop, List.length_take]; omega, ?_⟩
  have := List.take_append_drop (4 * k) (cs.take (4 * k + 4))
  rw [List.take_take, show min (4 * k) (4 * k + 4) = 4 * k by omega] at this
  exact this.symm
theorem walk_four (st : Int) (s : Stand) (hs : s.tr = []) {bl : List Card} (h : bl.length = 4) : bl.foldl (stepP st) s = upW s ((s.ld + (winI st bl : Int)) % 4) := by
  match bl, h with
  | [a, b, c, d], _ =>
    obtain ⟨ld, tr, w0, w1⟩ := s
    simp only at hs
    subst hs
    rfl
theorem walk_block (st ld : Int) {cs : List Card} {k : Nat} (h : 4 * k + 4 ≤ cs.length) : walkP st ld (cs.take (4 * k + 4)) = upW (walkP st ld (cs.take (4 * k))) (((walkP st ld (cs.take (4 * k))).ld + (winI st ((cs.take (4 * k + 4)).drop (4 * k)) : Int)) % 4) := by
  obtain ⟨h1, h2⟩ := block4 h
  have e : walkP st ld (cs.take (4 * k + 4)) = ((cs.take (4 * k + 4)).drop (4 * k)).foldl (stepP st) (walkP st ld (cs.take (4 * k))) := by
    conv => lhs; rw [h2]
    unfold walkP
    rw [List.foldl_append]
  rw [e]
  refine walk_four st _ ?_ h1
  rw [walk_tr, List.drop_of_length_le (by rw [List.length_take]; omega)]
theorem walk_few (st : Int) (s : Stand) : ∀ (cs : List Card), s.tr.length + cs.length < 4 → cs.foldl (stepP st) s = { s with tr := s.tr ++ cs }
  | [], _ => by rw [List.append_nil]; rfl
  | c :: cs, h => by
    rw [List.length_cons] at h
    have e : stepP st s c = { s with tr := s.tr ++ [c] } := by
      unfold stepP; rw [if_neg (by rw [List.length_append, List.length_cons, List.length_nil]; omega)]
    rw [List.foldl_cons, e, walk_few st _ cs (by rw [List.length_append, List.length_cons, List.length_nil]; omega)]
    simp
theorem walk_all (st ld : Int) (cs : List Card) : walkP st ld cs = { walkP st ld (cs.take (cs.length / 4 * 4)) with tr := cs.drop (cs.length / 4 * 4) } := by
  have e : walkP st ld cs = (cs.drop (cs.length / 4 * 4)).foldl (stepP st) (walkP st ld (cs.take (cs.length / 4 * 4))) := by
    conv => lhs; rw [← List.take_append_drop (cs.length / 4 * 4) cs]
    unfold walkP
    rw [List.foldl_append]
  have ht : (walkP st ld (cs.take (cs.length / 4 * 4))).tr = [] := by rw [walk_tr, List.drop_of_length_le (by rw [List.length_take]; omega)]
  rw [e, walk_few _ _ _ (by rw [ht, List.length_drop, List.length_nil]; omega), ht, List.nil_append]
def spWalked : SpD := fun ss Q => ∃ (st ld : Int) (cs : List Card), ss = [.d (.int st), .d (.int ld), .d (handD cs)] ∧ cs.length ≤ 1000 ∧ Q (standD (walkP st ld cs)) []
theorem sh_walked : ∀ ss QD, spWalked ss QD → ss.length = 3 ∧ mpos 0 ss = [] := by rintro ss QD ⟨_, _, _, rfl, _⟩; exact ⟨rfl, rfl⟩
theorem rd_walked : ∀ ss QD, spWalked ss QD → tb_walked spWin { nx := fun E' => finO [] E' (QD .none), rt := fun d E' => finO [] E' (QD d) } (ss ++ List.replicate 2 .un) := by
  rintro ss QD ⟨st, ld, cs, rfl, hl, q⟩
  unfold tb_walked handD
  refine seq_step fun R hR => ?_
  walk_at "dl"
  refine ⟨small_line (by decide), hR _ ?_⟩
  refine seq_step fun R hR => ?_
  refine for_inv (ds := rangeCD 0 4 (cs.length / 4)) (E1 := [.d (.int st), .d (.int ld), .d (.tuple (cs.map cE)), .ol [.int 0, .int 0], .un]) (fun Q h => ?_)
    (fun i E => ∃ a4, E = [.d (.int st), .d (.int (walkP st ld (cs.take (4 * i))).ld), .d (.tuple (cs.map cE)), .ol [.int (walkP st ld (cs.take (4 * i))).w0, .int (walkP st ld (cs.take (4 * i))).w1], a4]) ⟨_, rfl⟩ (fun i d E hd hE R2 hR2 => ?_) (fun E hE => ?_)
  · show ∃ n : Nat, RgC 0 (((cs.map cE).length : Int) - 3) 4 n ∧ Q (rangeCD 0 4 n) _
    rw [List.length_map]
    exact ⟨cs.length / 4, rgc4 (by omega), h⟩
  · obtain ⟨a4, rfl⟩ := hE
    have hi : i < cs.length / 4 := by have := (List.getElem?_eq_some_iff.mp hd).1; simpa [rangeCD] using this
    have ed : d = .int (4 * (i : Int)) := by
      have : (rangeCD 0 4 (cs.length / 4))[i]? = some (.int (0 + (i : Int) * 4)) := by simp [rangeCD, hi]
      rw [this] at hd
      cases hd
      congr 1; omega
    subst ed
    have h4 : 4 * i + 4 ≤ cs.length := by omega
    refine seq_step fun R3 hR3 => ?_
    walk_at "dl"
    rw [cut_mid (by omega) (by omega), show (4 * (i : Int) + 4).toNat = 4 * i + 4 by omega, show (4 * (i : Int)).toNat = 4 * i by omega, ← List.map_take, ← List.map_drop]
    refine ⟨st, _, _, rfl, (block4 h4).1, ?_⟩
    walk_at "dl"
    refine hR3 _ ?_
    have hb := walk_block st ld h4
    rw [show 4 * i + 4 = 4 * (i + 1) by omega] at hb ⊢
    generalize walkP st ld (cs.take (4 * i)) = s at hb ⊢
    generalize hl' : (s.ld + (winI st ((cs.take (4 * (i + 1))).drop (4 * i)) : Int)) % 4 = l at hb ⊢
    walk_at "dl"
    have hm : l % 2 = 0 ∨ l % 2 = 1 := by omega
    refine ⟨by decide, ?_⟩
    rcases hm with hm | hm
    · rw [hm]
      rw [atD_0]
      refine ⟨by decide, ?_⟩
      rw [putD_0]
      refine hR2 _ ⟨.d (.int (4 * (i : Int))), ?_⟩
      rw [hb]
      unfold upW
      rw [if_pos hm, if_pos hm]
    · rw [hm]
      rw [atD_1]
      refine ⟨by decide, putD_at (by decide) (by simp) ?_⟩
      refine hR2 _ ⟨.d (.int (4 * (i : Int))), ?_⟩
      rw [hb]
      unfold upW
      rw [if_neg (by omega), if_neg (by omega)]
      rfl
  · obtain ⟨a4, rfl⟩ := hE
    refine hR _ ?_
    have e := walk_all st ld cs
    rw [show (rangeCD 0 4 (cs.length / 4)).length = cs.length / 4 by simp [rangeCD], show 4 * (cs.length / 4) = cs.length / 4 * 4 by omega]
    rw [e] at q
    generalize walkP st ld (cs.take (cs.length / 4 * 4)) = s at q ⊢
    walk_at "dl"
    rw [List.length_map]
    refine ⟨cdiv_small (by decide) (by decide), cmul_small (by omega) (by decide), ?_⟩
    rw [cut_from (by omega), show ((cs.length : Int) / 4 * 4).toNat = cs.length / 4 * 4 by omega, ← List.map_drop]
    exact ⟨small_line (by decide), q⟩
def leftF (hs : List (List Card)) (cs : List Card) : List (List Card) := hs.map fun h => h.filter fun c => decide (c ∉ cs)
def dealT (hs : List (List Card)) : D := .tuple (hs.map handD)
theorem eqv_cE (a b : Card) : PyData.eqv (cE a) (cE b) = decide (a = b) := by
  unfold cE
  rw [eqv_tup]
  simp only [PyData.eqvAll, eqv_int, Bool.and_true]
  by_cases h : a = b
  · subst h; simp
  · rw [decide_eq_false h]
    by_cases h1 : a.1 = b.1
    · rw [decide_eq_true h1, Bool.true_and]
      exact decide_eq_false fun h2 => h (Prod.ext h1 h2)
    · rw [decide_eq_false h1, Bool.false_and]
theorem any_cE (xs : List Card) (c : Card) : ((xs.map cE).any fun z => PyData.eqv z (cE c)) = decide (c ∈ xs) := by
  rw [List.any_map, Bool.eq_iff_iff, List.any_eq_true, decide_eq_true_eq]
  constructor
  · rintro ⟨x, hx, h⟩
    have h : PyData.eqv (cE x) (cE c) = true := h
    rw [eqv_cE] at h
    rw [← of_decide_eq_true h]; exact hx
  · intro h
    refine ⟨c, h, ?_⟩
    show PyData.eqv (cE c) (cE c) = true
    rw [eqv_cE]; exact decide_eq_true rfl
theorem sh_hand (h : List Card) : shOk 2 (.tuple (h.map cE)) = true := by rw [shOk_tup]; exact all_enc (sh_cE 0) h
def spLeft : SpD := fun ss Q => ∃ (hs : List (List Card)) (cs : List Card), ss = [.d (dealT hs), .d (handD cs)] ∧ hs.length ≤ 1000 ∧ (∀ h ∈ hs, h.length ≤ 1000) ∧ Q (dealT (leftF hs cs)) []
theorem sh_left_of : ∀ ss QD, spLeft ss QD → ss.length = 2 ∧ mpos 0 ss = [] := by rintro ss QD ⟨_, _, rfl, _⟩; exact ⟨rfl, rfl⟩
theorem rd_left_of : ∀ ss QD, spLeft ss QD → tb_left_of { nx := fun E' => finO [] E' (QD .none), rt := fun d E' => finO [] E' (QD d) } (ss ++ List.replicate 2 .un) := by
  rintro ss QD ⟨hs, cs, rfl, hl, hh, q⟩
  unfold tb_left_of dealT handD
  refine comp_map (E1 := [.d (.tuple (hs.map handD)), .d (.tuple (cs.map cE)), .un, .un]) hs handD (fun h => handD (h.filter fun c => decide (c ∉ cs))) (fun Q h => h) (un1 rfl) (small_line (by omega)) (fun h hm R2 hq => ?_) ?_
  · refine comp_filter (E1 := [.d (.tuple (hs.map handD)), .d (.tuple (cs.map cE)), .d (.tuple (h.map cE)), .un]) h cE (fun c => decide (c ∉ cs)) cE (fun Q h => h) (un1 rfl) (small_line (by have := hh h hm; omega)) (fun c hc R3 hq3 => ?_) ?_
    · refine ⟨⟨shaped_of (n := 1) (sh_cE 0 c), shaped_of (n := 2) (sh_hand cs)⟩, ?_⟩
      show if (!(cs.map cE).any fun z => PyData.eqv z (cE c)) = true then R3 (some (cE c)) _ else R3 none _
      rw [any_cE]
      by_cases g : c ∈ cs
      · rw [decide_eq_true g]
        rw [decide_eq_false (fun h => h g)] at hq3
        exact ifF rfl (hq3 _ rfl)
      · rw [decide_eq_false g]
        rw [decide_eq_true g] at hq3
        exact ifT rfl (hq3 _ rfl)
    · exact hq _ rfl
  · have e : hs.map (fun h => handD (h.filter fun c => decide (c ∉ cs))) = (leftF hs cs).map handD := by unfold leftF; rw [List.map_map]; rfl
    rw [e]
    exact q
/-! ### turn_of, tricks_of, may_play -/
def handAt (hs : List (List Card)) (p : Nat) : List Card := hs.getD p []
structure DealOk (R : Nat) (hs : List (List Card)) : Prop where
  four : hs.length = 4
  each : ∀ h ∈ hs, h.length = R
  lo : 1 ≤ R
  hi : R ≤ 13
theorem at_hand {hs : List (List Card)} {i : Int} {Q : D → Prop} (h0 : 0 ≤ i) (h : i.toNat < hs.length) (q : Q (handD (handAt hs i.toNat))) : atD (hs.map handD) i Q :=
  atD_at h0 (by rw [List.getElem?_map, List.getElem?_eq_getElem h]; unfold handAt; rw [List.getD_eq_getElem?_getD, List.getElem?_eq_getElem h]; rfl) q
theorem DealOk.at {R : Nat} {hs : List (List Card)} (h : DealOk R hs) {p : Nat} (hp : p < 4) : (handAt hs p).length = R := by
  have hl : p < hs.length := by rw [h.four]; exact hp
  unfold handAt
  rw [List.getD_eq_getElem?_getD, List.getElem?_eq_getElem hl]
  exact h.each _ (List.getElem_mem hl)
/-- who is to play -/
def turnP (st ld : Int) (cs : List Card) : Int := ((walkP st ld cs).ld + ((walkP st ld cs).tr.length : Int)) % 4
def turnN (R : Nat) (st ld : Int) (cs : List Card) : D := if cs.length = 4 * R then .none else .int (turnP st ld cs)
def spTurn : SpD := fun ss Q => ∃ (R : Nat) (hs : List (List Card)) (st ld : Int) (cs : List Card), ss = [.d (dealT hs), .d (.int st), .d (.int ld), .d (handD cs)] ∧ DealOk R hs ∧ cs.length ≤ 1000 ∧ Q (turnN R st ld cs) []
theorem sh_turn_of : ∀ ss QD, spTurn ss QD → ss.length = 4 ∧ mpos 0 ss = [] := by rintro ss QD ⟨_, _, _, _, _, rfl, _⟩; exact ⟨rfl, rfl⟩
theorem rd_turn_of : ∀ ss QD, spTurn ss QD → tb_turn_of spWalked { nx := fun E' => finO [] E' (QD .none), rt := fun d E' => finO [] E' (QD d) } (ss ++ List.replicate 3 .un) := by
  rintro ss QD ⟨R0, hs, st, ld, cs, rfl, hd, hl, q⟩
  have h4 := hd.four
  have hlo := hd.hi
  have h0 := hd.at (p := 0) (by decide)
  unfold tb_turn_of dealT
  unfold turnN at q
  refine seq_step fun R hR => ?_
  walk_at "dl"
  refine at_hand (by decide) (by rw [h4]; decide) ?_
  unfold handD
  walk_at "dl"
  rw [List.length_map, List.length_map, show Int.toNat 0 = 0 from rfl, h0]
  refine ⟨cmul_small (by decide) (by omega), ?_⟩
  by_cases g : cs.length = 4 * R0
  · rw [if_pos g] at q
    rw [if_pos (by omega)]
    exact q
  · rw [if_neg g] at q
    rw [if_neg (by omega)]
    refine hR _ ?_
    refine seq_step fun R hR => ?_
    walk_at "dl"
    refine ⟨st, ld, cs, rfl, hl, ?_⟩
    unfold standD
    walk_at "dl"
    refine hR _ ?_
    walk_at "dl"
    rw [List.length_map]
    exact ⟨by decide, q⟩
def spTricks : SpD := fun ss Q => ∃ (st ld : Int) (cs : List Card), ss = [.d (.int st), .d (.int ld), .d (handD cs)] ∧ cs.length ≤ 1000 ∧ Q (.tuple [.int (walkP st ld cs).w0, .int (walkP st ld cs).w1]) []
theorem sh_tricks_of : ∀ ss QD, spTricks ss QD → ss.length = 3 ∧ mpos 0 ss = [] := by rintro ss QD ⟨_, _, _, rfl, _⟩; exact ⟨rfl, rfl⟩
theorem rd_tricks_of : ∀ ss QD, spTricks ss QD → tb_tricks_of spWalked { nx := fun E' => finO [] E' (QD .none), rt := fun d E' => finO [] E' (QD d) } (ss ++ List.replicate 0 .un) := by
  rintro ss QD ⟨st, ld, cs, rfl, hl, q⟩
  unfold tb_tricks_of handD
  walk_at "dl"
  refine ⟨st, ld, cs, rfl, hl, ?_⟩
  unfold standD
  walk_at "dl"
  exact q
/-- of these cards those that follow the trick, if there are some -/
def follows (h tr : List Card) : List Card := if (h.filter fun c => !tr.isEmpty && decide (c.1 = (cAt tr 0).1)) = [] then h else h.filter fun c => !tr.isEmpty && decide (c.1 = (cAt tr 0).1)
def mayF (hs : List (List Card)) (st ld : Int) (cs : List Card) : List Card := follows ((handAt hs (turnP st ld cs).toNat).filter fun c => decide (c ∉ cs)) (walkP st ld cs).tr
def spMayP : SpD := fun ss Q => ∃ (R : Nat) (hs : List (List Card)) (st ld : Int) (cs : List Card), ss = [.d (dealT hs), .d (.int st), .d (.int ld), .d (handD cs)] ∧ DealOk R hs ∧ cs.length ≤ 1000 ∧ Q (if cs.length = 4 * R then .tuple [] else handD (mayF hs st ld cs)) []
theorem sh_may_play : ∀ ss QD, spMayP ss QD → ss.length = 4 ∧ mpos 0 ss = [] := by rintro ss QD ⟨_, _, _, _, _, rfl, _⟩; exact ⟨rfl, rfl⟩
theorem turnP_bd (st ld : Int) (cs : List Card) : 0 ≤ turnP st ld cs ∧ turnP st ld cs < 4 := by unfold turnP; omega
theorem left_at {hs : List (List Card)} {cs : List Card} {p : Nat} (hp : p < hs.length) : handAt (leftF hs cs) p = (handAt hs p).filter fun c => decide (c ∉ cs) := by
  unfold handAt leftF
  rw [List.getD_eq_getElem?_getD, List.getElem?_map, List.getD_eq_getElem?_getD, List.getElem?_eq_getElem hp]
  rfl
theorem rd_may_play : ∀ ss QD, spMayP ss QD → tb_may_play spWalked spLeft spTurn { nx := fun E' => finO [] E' (QD .none), rt := fun d E' => finO [] E' (QD d) } (ss ++ List.replicate 5 .un) := by
  rintro ss QD ⟨R0, hs, st, ld, cs, rfl, hd, hl, q⟩
  have h4 := hd.four
  have hhi := hd.hi
  unfold tb_may_play dealT handD
  refine seq_step fun R hR => ?_
  walk_at "dl"
  refine ⟨R0, hs, st, ld, cs, rfl, hd, hl, ?_⟩
  unfold turnN
  by_cases g : cs.length = 4 * R0
  · rw [if_pos g] at q ⊢
    refine hR _ ?_
    refine seq_step fun R hR => ?_
    walk_at "dl"
    exact ⟨small_line (by decide), q⟩
  · rw [if_neg g] at q ⊢
    refine hR _ ?_
    refine seq_step fun R hR => ?_
    walk_at "dl"
    refine hR _ ?_
    have tb := turnP_bd st ld cs
    have tl : (turnP st ld cs).toNat < hs.length := by omega
    refine seq_step fun R hR => ?_
    walk_at "dl"
    refine ⟨hs, cs, rfl, by omega, fun h hh => by have := hd.each h hh; omega, ?_⟩
    unfold dealT
    walk_at "dl"
    refine at_hand tb.1 (by unfold leftF; rw [List.length_map]; exact tl) ?_
    rw [left_at tl]
    refine hR _ ?_
    generalize hH : (handAt hs (turnP st ld cs).toNat).filter (fun c => decide (c ∉ cs)) = H
    have hHl : H.length ≤ 13 := by
      have h1 := hd.at (p := (turnP st ld cs).toNat) (by omega)
      have h2 : H.length ≤ (handAt hs (turnP st ld cs).toNat).length := by rw [← hH]; exact List.length_filter_le _ _
      omega
    refine seq_step fun R hR => ?_
    walk_at "dl"
    refine ⟨st, ld, cs, rfl, hl, ?_⟩
    unfold standD
    walk_at "dl"
    refine hR _ ?_
    unfold mayF at q
    rw [hH] at q
    generalize (walkP st ld cs).tr = tr at q ⊢
    refine seq_step fun R hR => ?_
    unfold handD
    refine comp_filter (E1 := [.d (.tuple (hs.map handD)), .d (.int st), .d (.int ld), .d (.tuple (cs.map cE)), .d (.int (turnP st ld cs)), .d (.tuple (H.map cE)), .d (.tuple (tr.map cE)), .un, .un]) H cE (fun c => !tr.isEmpty && decide (c.1 = (cAt tr 0).1)) cE (fun Q h => h) (un1 rfl) (small_line (by omega)) (fun c hc R3 hq3 => ?_) ?_
    · cases tr with
      | nil => exact ⟨trivial, hq3 _ rfl⟩
      | cons a l =>
        have hq3 : ∀ E', wipeE E' [8] = wipeE [.d (.tuple (hs.map handD)), .d (.int st), .d (.int ld), .d (.tuple (cs.map cE)), .d (.int (turnP st ld cs)), .d (.tuple (H.map cE)), .d (.tuple ((a :: l).map cE)), .un, .un] [8] → R3 (if decide (c.1 = a.1) = true then some (cE c) else none) E' := hq3
        simp only [List.map_cons]
        have ea : ∀ x : Card, cE x = .tuple [.int x.1, .int x.2] := fun _ => rfl
        rw [ea a, ea c]
        walk_at "dl"
        by_cases g : c.1 = a.1
        · rw [decide_eq_true g] at hq3
          have := hq3 [.d (.tuple (hs.map handD)), .d (.int st), .d (.int ld), .d (.tuple (cs.map cE)), .d (.int (turnP st ld cs)), .d (.tuple (H.map cE)), .d (.tuple ((a :: l).map cE)), .un, .d (cE c)] rfl
          rw [if_pos g]
          exact this
        · rw [decide_eq_false g] at hq3
          have := hq3 [.d (.tuple (hs.map handD)), .d (.int st), .d (.int ld), .d (.tuple (cs.map cE)), .d (.int (turnP st ld cs)), .d (.tuple (H.map cE)), .d (.tuple ((a :: l).map cE)), .un, .d (cE c)] rfl
          rw [if_neg g]
          exact this
    refine hR _ ?_
    walk_at "dl"
    unfold follows at q
    generalize (H.filter fun c => !tr.isEmpty && decide (c.1 = (cAt tr 0).1)) = F at q ⊢
    cases F with
    | nil =>
      rw [if_pos rfl] at q
      exact q
    | cons a l =>
      rw [if_neg (List.cons_ne_nil _ _)] at q
      exact q
/-! ### _law_trick_won, _law_walk -/
theorem maxD_cE (a : Card) : ∀ (l : List Card), ∃ m ∈ a :: l, PySem.W.maxD (cE a) (l.map cE) = cE m ∧ ∀ c ∈ a :: l, ¬ (m.1 < c.1 ∨ (m.1 = c.1 ∧ m.2 < c.2)) := by
  intro l
  unfold PySem.W.maxD
  induction l generalizing a with
  | nil => exact ⟨a, List.mem_cons_self .., rfl, fun c hc => by rw [List.mem_singleton.mp hc]; omega⟩
  | cons b l ih =>
    have hlt : PySem.W.dataLt (cE a) (cE b) = decide (a.1 < b.1 ∨ (a.1 = b.1 ∧ a.2 < b.2)) := by unfold cE; rw [PySem.W.dataLt_ii]
    rw [List.map_cons, List.foldl_cons, hlt]
    by_cases g : a.1 < b.1 ∨ (a.1 = b.1 ∧ a.2 < b.2)
    · rw [decide_eq_true g, if_pos rfl]
      obtain ⟨m, hm, e, hx⟩ := ih b
      refine ⟨m, List.mem_cons_of_mem _ hm, e, fun c hc => ?_⟩
      rcases List.mem_cons.mp hc with rfl | hc
      · have := hx b (List.mem_cons_self ..)
        omega
      · exact hx c hc
    · rw [decide_eq_false g, if_neg Bool.false_ne_true]
      obtain ⟨m, hm, e, hx⟩ := ih a
      refine ⟨m, ?_, e, fun c hc => ?_⟩
      · rcases List.mem_cons.mp hm with rfl | hm
        · exact List.mem_cons_self ..
        · exact List.mem_cons_of_mem _ (List.mem_cons_of_mem _ hm)
      · rcases List.mem_cons.mp hc with rfl | hc
        · exact hx c (List.mem_cons_self ..)
        · rcases List.mem_cons.mp hc with rfl | hc
          · have := hx a (List.mem_cons_self ..)
            omega
          · exact hx c (List.mem_cons_of_mem _ hc)
theorem nodup_at {tr : List Card} (nd : tr.Nodup) {i j : Nat} (hi : i < tr.length) (hj : j < tr.length) (e : cAt tr i = cAt tr j) : i = j := by
  unfold cAt at e
  rw [List.getD_eq_getElem?_getD, List.getElem?_eq_getElem hi, List.getD_eq_getElem?_getD, List.getElem?_eq_getElem hj] at e
  have e : tr[i] = tr[j] := e
  rcases Nat.lt_trichotomy i j with h | h | h
  · exact absurd e (List.pairwise_iff_getElem.mp nd i j hi hj h)
  · exact h
  · exact absurd e.symm (List.pairwise_iff_getElem.mp nd j i hj hi h)
theorem lay_cE : ∀ (cs : List Card), PyData.canLayAll0 (cs.map cE) = true
  | [] => rfl
  | c :: cs => by rw [List.map_cons, PyData.canLayAll0, lay_cE cs]; simp [cE, PyData.canLay0, PyData.canLayAll0]
theorem dep_cE (cs : List Card) : PyData.depthAll (cs.map cE) ≤ 60 := by
  have : PyData.depthAll (cs.map cE) ≤ 1 := by
    induction cs with
    | nil => exact Nat.zero_le _
    | cons a l ih =>
      rw [List.map_cons, PyData.depthAll]
      have : (cE a).depth ≤ 1 := by simp [cE, PyData.depth, PyData.depthAll]
      omega
  omega
theorem idx_at {tr : List Card} (nd : tr.Nodup) {j : Nat} (hj : j < tr.length) : idxOk (tr.map cE) (cE (cAt tr j)) j := by
  refine ⟨⟨cE (cAt tr j), by rw [List.getElem?_map, cAt_get hj]; rfl, by rw [eqv_cE]; exact decide_eq_true rfl⟩, fun m z hm hz => ?_⟩
  rw [List.getElem?_map, cAt_get (show m < tr.length by omega)] at hz
  cases hz
  rw [eqv_cE]
  exact decide_eq_false fun e => by
    have := nodup_at nd (show m < tr.length by omega) hj e
    omega
def spLWon : SpD := fun ss Q => ∃ (st ld : Int) (tr : List Card), ss = [.d (.int st), .d (.int ld), .d (handD tr)] ∧ tr.length = 4 ∧ tr.Nodup ∧ Q (.int ((ld + (winI st tr : Int)) % 4)) []
theorem sh_law_trick_won : ∀ ss QD, spLWon ss QD → ss.length = 3 ∧ mpos 0 ss = [] := by rintro ss QD ⟨_, _, _, rfl, _⟩; exact ⟨rfl, rfl⟩
theorem rd_law_trick_won : ∀ ss QD, spLWon ss QD → tb_law_trick_won { nx := fun E' => finO [] E' (QD .none), rt := fun d E' => finO [] E' (QD d) } (ss ++ List.replicate 3 .un) := by
  rintro ss QD ⟨st, ld, tr, rfl, h4, nd, q⟩
  unfold tb_law_trick_won handD
  refine seq_step fun R hR => ?_
  walk_at "dl"
  refine comp_map (E1 := [.d (.int st), .d (.int ld), .d (.tuple (tr.map cE)), .un, .un, .un]) tr cE (fun c => .int c.1) (fun Q h => h) (un1 rfl) (small_line (by omega)) (fun c hc R2 hq => hq _ rfl) ?_
  have st3 : R [.d (.int st), .d (.int ld), .d (.tuple (tr.map cE)), .d (.int (suitOf st tr)), .un, .un] := by
    refine hR _ ?_
    refine seq_step fun R hR => ?_
    refine comp_filter (E1 := [.d (.int st), .d (.int ld), .d (.tuple (tr.map cE)), .d (.int (suitOf st tr)), .un, .un]) tr cE (fun c => decide (c.1 = suitOf st tr)) cE (fun Q h => h) (un1 rfl) (small_line (by omega)) (fun c hc R2 hq => ?_) ?_
    · refine ⟨⟨rfl, rfl⟩, ?_⟩
      show if PyData.eqv (.int c.1) (.int (suitOf st tr)) = true then R2 (some (cE c)) _ else R2 none _
      rw [eqv_int]
      refine ifB (fun g => ?_) (fun g => ?_)
      · rw [g] at hq; exact hq _ rfl
      · rw [g] at hq; exact hq _ rfl
    obtain ⟨b1, b2⟩ := win_best st h4
    have hw : winI st tr < tr.length := by have := winTo_le st tr 3; unfold winI; omega
    have hin : cAt tr (winI st tr) ∈ tr.filter fun c => decide (c.1 = suitOf st tr) := List.mem_filter.mpr ⟨cAt_mem hw, decide_eq_true b1⟩
    have hF : ∀ c ∈ tr.filter (fun c => decide (c.1 = suitOf st tr)), c ∈ tr ∧ c.1 = suitOf st tr := fun c hc => ⟨(List.mem_filter.mp hc).1, of_decide_eq_true (List.mem_filter.mp hc).2⟩
    generalize (tr.filter fun c => decide (c.1 = suitOf st tr)) = F at hin hF ⊢
    cases F with
    | nil => cases hin
    | cons a l =>
      obtain ⟨m, hm, e, hx⟩ := maxD_cE a l
      have hmw : m = cAt tr (winI st tr) := by
        have h1 := hx _ hin
        have h2 := (hF m hm).2
        have h3 := b2 m (hF m hm).1 h2
        exact Prod.ext (by omega) (by omega)
      refine ⟨⟨⟨fun x hx y hy => ?_, fun x hx => ?_⟩, dep_cE (a :: l), lay_cE (a :: l)⟩, ?_⟩
      · have hx : x ∈ (a :: l).map cE := hx
        have hy : y ∈ (a :: l).map cE := hy
        obtain ⟨_, _, rfl⟩ := List.mem_map.mp hx
        obtain ⟨_, _, rfl⟩ := List.mem_map.mp hy
        rfl
      · have hx : x ∈ (a :: l).map cE := hx
        obtain ⟨_, _, rfl⟩ := List.mem_map.mp hx
        exact fun h => nomatch h
      · rw [e, hmw]
        refine hR _ ?_
        walk_at "dl"
        exact ⟨winI st tr, ⟨all_enc (sh_cE 59) tr, sh_cE 59 _⟩, idx_at nd hw, by decide, q⟩
  refine ⟨shaped_of (n := 1) (by rw [shOk_lst]; exact all_enc (fun c => rfl) tr), ?_⟩
  have ha : ((tr.map fun c => PyData.int c.1).any fun z => PyData.eqv z (.int st)) = decide (st ∈ tr.map (·.1)) := by
    rw [List.any_map, Bool.eq_iff_iff, List.any_eq_true, decide_eq_true_eq, List.mem_map]
    constructor
    · rintro ⟨c, hc, h⟩
      have h : PyData.eqv (.int c.1) (.int st) = true := h
      rw [eqv_int] at h
      exact ⟨c, hc, of_decide_eq_true h⟩
    · rintro ⟨c, hc, h⟩
      refine ⟨c, hc, ?_⟩
      show PyData.eqv (.int c.1) (.int st) = true
      rw [eqv_int]; exact decide_eq_true h
  rw [ha]
  unfold suitOf at st3
  by_cases g : st ∈ tr.map (·.1)
  · rw [if_pos g] at st3
    exact ifT (decide_eq_true g) st3
  · rw [if_neg g] at st3
    refine ifF (decide_eq_false g) ?_
    walk_at "dl"
    refine at_card (by decide) (by rw [h4]; decide) ?_
    exact st3
def spLWalk : SpD := fun ss Q => ∃ (st ld : Int) (cs : List Card), ss = [.d (.int st), .d (.int ld), .d (handD cs)] ∧ cs.length ≤ 1000 ∧ cs.Nodup ∧ Q (standD (walkP st ld cs)) []
theorem sh_law_walk : ∀ ss QD, spLWalk ss QD → ss.length = 3 ∧ mpos 0 ss = [] := by rintro ss QD ⟨_, _, _, rfl, _⟩; exact ⟨rfl, rfl⟩
theorem take_nextC {cs : List Card} {i : Nat} {c : Card} (h : cs[i]? = some c) : cs.take (i + 1) = cs.take i ++ [c] := by rw [List.take_add_one, h]; rfl
theorem tr_nodup {st ld : Int} {cs : List Card} {c : Card} (nd : (cs ++ [c]).Nodup) : ((walkP st ld cs).tr ++ [c]).Nodup := by
  rw [walk_tr, ← List.drop_append_of_le_length (by omega)]
  exact nd.sublist (List.drop_sublist _ _)
theorem rd_law_walk : ∀ ss QD, spLWalk ss QD → tb_law_walk spLWon { nx := fun E' => finO [] E' (QD .none), rt := fun d E' => finO [] E' (QD d) } (ss ++ List.replicate 3 .un) := by
  rintro ss QD ⟨st, ld, cs, rfl, hl, nd, q⟩
  unfold tb_law_walk handD
  refine seq_step fun R hR => ?_
  walk_at "dl"
  refine ⟨small_line (by decide), small_line (by decide), hR _ ?_⟩
  refine seq_step fun R hR => ?_
  refine for_inv (ds := cs.map cE) (E1 := [.d (.int st), .d (.int ld), .d (.tuple (cs.map cE)), .ol [.int 0, .int 0], .d (.tuple []), .un]) (fun Q h => h)
    (fun i E => ∃ a5, E = [.d (.int st), .d (.int (walkP st ld (cs.take i)).ld), .d (.tuple (cs.map cE)), .ol [.int (walkP st ld (cs.take i)).w0, .int (walkP st ld (cs.take i)).w1], .d (.tuple ((walkP st ld (cs.take i)).tr.map cE)), a5]) ⟨_, rfl⟩ (fun i d E hd hE R2 hR2 => ?_) (fun E hE => ?_)
  · obtain ⟨a5, rfl⟩ := hE
    rw [List.getElem?_map, Option.map_eq_some_iff] at hd
    obtain ⟨c, hc, rfl⟩ := hd
    have hi := (List.getElem?_eq_some_iff.mp hc).1
    have en := take_nextC hc
    have hsn := walk_snoc st ld (cs.take i) c
    rw [← en] at hsn
    have ndt : ((walkP st ld (cs.take i)).tr ++ [c]).Nodup := tr_nodup (by rw [← en]; exact nd.sublist (List.take_sublist _ _))
    have htl : (walkP st ld (cs.take i)).tr.length ≤ 3 := by rw [walk_tr, List.length_drop]; omega
    generalize walkP st ld (cs.take i) = s at hsn ndt htl ⊢
    refine seq_step fun R3 hR3 => ?_
    walk_at "dl"
    refine ⟨small_line (by decide), small_line (by rw [List.length_map]; omega), hR3 _ ?_⟩
    rw [show s.tr.map cE ++ [cE c] = (s.tr ++ [c]).map cE by rw [List.map_append]; rfl]
    unfold stepP at hsn
    walk_at "dl"
    rw [List.length_map]
    by_cases g : (s.tr ++ [c]).length = 4
    · rw [if_pos g] at hsn
      rw [if_pos (by omega)]
      refine seq_step fun R4 hR4 => ?_
      walk_at "dl"
      refine ⟨st, s.ld, s.tr ++ [c], rfl, g, ndt, ?_⟩
      walk_at "dl"
      refine ⟨small_line (by decide), hR4 _ ?_⟩
      generalize (s.ld + (winI st (s.tr ++ [c]) : Int)) % 4 = l at hsn ⊢
      walk_at "dl"
      have hm : l % 2 = 0 ∨ l % 2 = 1 := by omega
      refine ⟨by decide, ?_⟩
      rcases hm with hm | hm
      · rw [hm]
        rw [atD_0]
        refine ⟨by decide, ?_⟩
        rw [putD_0]
        refine hR2 _ ⟨.d (cE c), ?_⟩
        rw [hsn]
        unfold upW
        rw [if_pos hm, if_pos hm]
        rfl
      · rw [hm]
        rw [atD_1]
        refine ⟨by decide, putD_at (by decide) (by simp) ?_⟩
        refine hR2 _ ⟨.d (cE c), ?_⟩
        rw [hsn]
        unfold upW
        rw [if_neg (by omega), if_neg (by omega)]
        rfl
    · rw [if_neg g] at hsn
      rw [if_neg (by omega)]
      refine hR2 _ ⟨.d (cE c), ?_⟩
      rw [hsn]
  · obtain ⟨a5, rfl⟩ := hE
    refine hR _ ?_
    rw [List.length_map, List.take_of_length_le (Nat.le_refl _)]
    walk_at "dl"
    exact ⟨small_line (by decide), q⟩
end DL
set_option Elab.async false
set_option linter.all false
set_option maxRecDepth 100000
set_option maxHeartbeats 4000000
namespace DL
open PySem PySem.Spec PyProof.Rows L2
local macro_rules | `(tactic| walk_at "dl") => `(tactic| simp only [tV, tVr, tFzV, turnD, DL.wipeE, tK, tOpD, tUnD, tBo, tAndD, tOrD, tNotD, tIfE, DL.tAndV, DL.tOrV, DL.tNotV, tTru, truD, okLen, sSet, sSetL, sExpr, sRet, sIf, sNx, tTupD, dNil, dCons, tLstD, tFzD, tApp, tExtd, tPopAt, sSetIx, tIxO, tChainD, tChain3D, tRevT, caStr, opRepT, opAdd, opSub, opMul, opDiv, opMod, opPow, DL.opI, DL.opI0, opB0, opLt, opLe, opGt, opGtD, opLtD, opGe, opEq, opNe, opIs, opIsN, isNone, opIn, opNotIn, opIx, atD_0, atD_1, atD_2, atD_3, putD_0, unNeg, tCa1, tCa2, tCaL1, caLen, caAbs, caMax2, caMin2, caSum, caMax, caMin, caSumT, caMaxT, caMinT, caAll, caTuple, caList, caInt, tIsi, isInt, isBool, isStr, isTuple, isList, notDict, sAsg, gSet, gTupD, gsNil, gsCons, sPar, pNil, pD, pL, setAll, tCallD, aNil, aV, aO, argS, oixs, ndp, putO, tOpL, opCat, opRep, tSlD, slD, tSlL, oNo, oE, tRevD, iLstD, iTupD, iRange1, iRange2, iZipD, iZipM, finO, tTrue, Option.map, eqv_int, eqv_bool, eqv_none, shaped_int, shaped_bool, shaped_none, tLenRange, tSortSet, tLenSet, tLenSetP, tSortSetP, tCountL, tCountT, tIndexL, tIndexT, DL.tOrT, DL.tAndT, DL.tNotT, tSortRev, caSorted, iEnumL, iEnumT, decide_eq_true_eq, and_self, List.cons_append, List.nil_append, List.replicate, List.getElem?_cons_zero, List.getElem?_cons_succ, List.set_cons_zero, List.set_cons_succ, List.length_cons, List.length_nil, true_and, and_true, if_true, if_false, Bool.false_eq_true, List.contains_nil, Bool.not_false, Bool.not_true, Bool.and_self, Bool.and_true, Bool.true_and, decide_true, decide_false, beq_self_eq_true])
/-! ### _law_may_play -/
def spLMayP : SpD := fun ss Q => ∃ (R : Nat) (hs : List (List Card)) (st ld : Int) (cs : List Card), ss = [.d (dealT hs), .d (.int st), .d (.int ld), .d (handD cs)] ∧ DealOk R hs ∧ cs.length ≤ 1000 ∧ cs.Nodup ∧ Q (handD (mayF hs st ld cs)) []
theorem sh_law_may_play : ∀ ss QD, spLMayP ss QD → ss.length = 4 ∧ mpos 0 ss = [] := by rintro ss QD ⟨_, _, _, _, _, rfl, _⟩; exact ⟨rfl, rfl⟩
theorem rd_law_may_play : ∀ ss QD, spLMayP ss QD → tb_law_may_play spLWalk { nx := fun E' => finO [] E' (QD .none), rt := fun d E' => finO [] E' (QD d) } (ss ++ List.replicate 6 .un) := by
  rintro ss QD ⟨R0, hs, st, ld, cs, rfl, hd, hl, nd, q⟩
  have h4 := hd.four
  have hhi := hd.hi
  have tb := turnP_bd st ld cs
  have tl : (turnP st ld cs).toNat < hs.length := by omega
  unfold tb_law_may_play dealT handD
  unfold mayF at q
  refine seq_step fun R hR => ?_
  walk_at "dl"
  refine ⟨st, ld, cs, rfl, hl, nd, ?_⟩
  unfold standD
  walk_at "dl"
  refine hR _ ?_
  generalize hH : (handAt hs (turnP st ld cs).toNat).filter (fun c => decide (c ∉ cs)) = H at q
  have hHl : (handAt hs (turnP st ld cs).toNat).length = R0 := hd.at (by omega)
  have hHl2 : H.length ≤ 13 := by
    have h2 : H.length ≤ (handAt hs (turnP st ld cs).toNat).length := by rw [← hH]; exact List.length_filter_le _ _
    omega
  have et : ((walkP st ld cs).ld + (((walkP st ld cs).tr.map cE).length : Int)) % 4 = turnP st ld cs := by rw [List.length_map]; rfl
  generalize turnP st ld cs = tp at tb tl hH hHl et
  generalize walkP st ld cs = s at q et ⊢
  refine seq_step fun R hR => ?_
  refine comp_filter (E1 := [.d (.tuple (hs.map handD)), .d (.int st), .d (.int ld), .d (.tuple (cs.map cE)), .d (.int s.ld), .d (.tuple (s.tr.map cE)), .d (.tuple [.int s.w0, .int s.w1]), .un, .un, .un]) (handAt hs tp.toNat) cE (fun c => decide (c ∉ cs)) cE (fun Q h => ?_) (un1 rfl) (small_line (by omega)) (fun c hc R3 hq3 => ?_) ?_
  · walk_at "dl"
    refine ⟨by decide, ?_⟩
    rw [et]
    exact at_hand tb.1 tl h
  · refine ⟨⟨shaped_of (n := 1) (sh_cE 0 c), shaped_of (n := 2) (sh_hand cs)⟩, ?_⟩
    show if (!(cs.map cE).any fun z => PyData.eqv z (cE c)) = true then R3 (some (cE c)) _ else R3 none _
    rw [any_cE]
    by_cases g : c ∈ cs
    · rw [decide_eq_true g]
      rw [decide_eq_false (fun h => h g)] at hq3
      exact ifF rfl (hq3 _ rfl)
    · rw [decide_eq_false g]
      rw [decide_eq_true g] at hq3
      exact ifT rfl (hq3 _ rfl)
  rw [hH]
  refine hR _ ?_
  obtain ⟨sld, tr, w0, w1⟩ := s
  dsimp only at q ⊢
  refine seq_step fun R hR => ?_
  refine comp_filter (E1 := [.d (.tuple (hs.map handD)), .d (.int st), .d (.int ld), .d (.tuple (cs.map cE)), .d (.int sld), .d (.tuple (tr.map cE)), .d (.tuple [.int w0, .int w1]), .d (.list (H.map cE)), .un, .un]) H cE (fun c => !tr.isEmpty && decide (c.1 = (cAt tr 0).1)) cE (fun Q h => h) (un1 rfl) (small_line (by omega)) (fun c hc R3 hq3 => ?_) ?_
  · cases tr with
    | nil => exact ⟨trivial, hq3 _ rfl⟩
    | cons a l =>
      have hq3 : ∀ E', wipeE E' [9] = wipeE [.d (.tuple (hs.map handD)), .d (.int st), .d (.int ld), .d (.tuple (cs.map cE)), .d (.int sld), .d (.tuple ((a :: l).map cE)), .d (.tuple [.int w0, .int w1]), .d (.list (H.map cE)), .un, .un] [9] → R3 (if decide (c.1 = a.1) = true then some (cE c) else none) E' := hq3
      simp only [List.map_cons]
      have ea : ∀ x : Card, cE x = .tuple [.int x.1, .int x.2] := fun _ => rfl
      rw [ea a, ea c]
      walk_at "dl"
      by_cases g : c.1 = a.1
      · rw [decide_eq_true g] at hq3
        have := hq3 [.d (.tuple (hs.map handD)), .d (.int st), .d (.int ld), .d (.tuple (cs.map cE)), .d (.int sld), .d (.tuple ((a :: l).map cE)), .d (.tuple [.int w0, .int w1]), .d (.list (H.map cE)), .un, .d (cE c)] rfl
        rw [if_pos g]
        exact this
      · rw [decide_eq_false g] at hq3
        have := hq3 [.d (.tuple (hs.map handD)), .d (.int st), .d (.int ld), .d (.tuple (cs.map cE)), .d (.int sld), .d (.tuple ((a :: l).map cE)), .d (.tuple [.int w0, .int w1]), .d (.list (H.map cE)), .un, .d (cE c)] rfl
        rw [if_neg g]
        exact this
  refine hR _ ?_
  walk_at "dl"
  unfold follows at q
  generalize (H.filter fun c => !tr.isEmpty && decide (c.1 = (cAt tr 0).1)) = F at q ⊢
  cases F with
  | nil =>
    rw [if_pos rfl] at q
    exact q
  | cons a l =>
    rw [if_neg (List.cons_ne_nil _ _)] at q
    exact q
/-! ### plays that may be made -/
inductive PReach (R : Nat) (hs : List (List Card)) (st ld : Int) : List Card → Prop
  | nil : PReach R hs st ld []
  | snoc {cs : List Card} {c : Card} : PReach R hs st ld cs → cs.length < 4 * R → c ∈ mayF hs st ld cs → PReach R hs st ld (cs ++ [c])
theorem mayF_sub {hs : List (List Card)} {st ld : Int} {cs : List Card} {c : Card} (h : c ∈ mayF hs st ld cs) : c ∈ handAt hs (turnP st ld cs).toNat ∧ c ∉ cs := by
  have key : c ∈ (handAt hs (turnP st ld cs).toNat).filter fun c => decide (c ∉ cs) := by
    unfold mayF follows at h
    split at h
    · exact h
    · exact (List.mem_filter.mp h).1
  exact ⟨(List.mem_filter.mp key).1, of_decide_eq_true (List.mem_filter.mp key).2⟩
theorem PReach.nodup {R : Nat} {hs : List (List Card)} {st ld : Int} {cs : List Card} (h : PReach R hs st ld cs) : cs.Nodup := by
  induction h with
  | nil => exact List.nodup_nil
  | snoc _ _ hc ih => exact List.nodup_append.mpr ⟨ih, by simp, fun a ha b hb e => by rw [List.mem_singleton.mp hb] at e; subst e; exact (mayF_sub hc).2 ha⟩
theorem PReach.len {R : Nat} {hs : List (List Card)} {st ld : Int} {cs : List Card} (h : PReach R hs st ld cs) : cs.length ≤ 4 * R := by
  induction h with
  | nil => exact Nat.zero_le _
  | snoc _ hl _ _ => rw [List.length_append, List.length_cons, List.length_nil]; omega
/-- each card lies in one hand, once -/
structure Apart (hs : List (List Card)) : Prop where
  one : ∀ p q c, c ∈ handAt hs p → c ∈ handAt hs q → p = q
  nd : ∀ p, (handAt hs p).Nodup
theorem ld_bd {st ld : Int} (h0 : 0 ≤ ld) (h1 : ld < 4) (cs : List Card) : 0 ≤ (walkP st ld cs).ld ∧ (walkP st ld cs).ld < 4 := by
  refine snoc_indP (P := fun cs => 0 ≤ (walkP st ld cs).ld ∧ (walkP st ld cs).ld < 4) ⟨h0, h1⟩ (fun cs c ih => ?_) cs
  rw [walk_snoc]
  unfold stepP
  split
  · unfold upW; dsimp only; omega
  · exact ih
/-- how many of a hand are played -/
def nIn (hs : List (List Card)) (p : Nat) (cs : List Card) : Nat := (cs.filter fun c => decide (c ∈ handAt hs p)).length
theorem tr_len (st ld : Int) (cs : List Card) : (walkP st ld cs).tr.length = cs.length % 4 := by rw [walk_tr, List.length_drop]; omega
theorem PReach.count {R : Nat} {hs : List (List Card)} {st ld : Int} {cs : List Card} (ap : Apart hs) (h0 : 0 ≤ ld) (h1 : ld < 4) (h : PReach R hs st ld cs) : ∀ p : Nat, p < 4 → (nIn hs p cs : Int) = (cs.length / 4 : Nat) + if ((p : Int) - (walkP st ld cs).ld) % 4 < ((cs.length % 4 : Nat) : Int) then 1 else 0 := by
  induction h with
  | nil => intro p hp; show (0 : Int) = 0 + _; rw [if_neg (by show ¬ _ < (0 : Int); omega)]; rfl
  | @snoc cs c hr hl hc ih =>
    intro p hp
    have ihp := ih p hp
    obtain ⟨hin, hnot⟩ := mayF_sub hc
    have tbd := turnP_bd st ld cs
    have lb := ld_bd (st := st) h0 h1 cs
    have tl := tr_len st ld cs
    have e1 : nIn hs p (cs ++ [c]) = nIn hs p cs + if (p : Int) = turnP st ld cs then 1 else 0 := by
      unfold nIn
      rw [List.filter_append, List.length_append]
      congr 1
      by_cases g : c ∈ handAt hs p
      · have := ap.one _ _ c g hin
        have e : [c].filter (fun c => decide (c ∈ handAt hs p)) = [c] := List.filter_eq_self.mpr fun x hx => by rw [List.mem_singleton.mp hx]; exact decide_eq_true g
        rw [e, if_pos (by omega)]; rfl
      · have e : [c].filter (fun c => decide (c ∈ handAt hs p)) = [] := List.filter_eq_nil_iff.mpr fun x hx => by rw [List.mem_singleton.mp hx, decide_eq_false g]; exact Bool.false_ne_true
        rw [e, if_neg (fun e => g (by rw [show p = (turnP st ld cs).toNat by omega]; exact hin))]; rfl
    rw [e1, List.length_append, List.length_cons, List.length_nil, walk_snoc]
    have tp : turnP st ld cs = ((walkP st ld cs).ld + ((cs.length % 4 : Nat) : Int)) % 4 := by unfold turnP; rw [tl]
    rw [tp]
    generalize hs0 : walkP st ld cs = s at *
    unfold stepP
    rw [List.length_append, List.length_cons, List.length_nil, tl]
    by_cases g : cs.length % 4 + (0 + 1) = 4
    · rw [if_pos g]
      unfold upW
      dsimp only
      generalize (s.ld + (winI st (s.tr ++ [c]) : Int)) % 4 = l
      have e2 : (cs.length + (0 + 1)) % 4 = 0 := by omega
      rw [e2]
      have hz : ¬ (((p : Int) - l) % 4 < ((0 : Nat) : Int)) := by omega
      rw [if_neg hz]
      by_cases hp2 : (p : Int) = (s.ld + ((cs.length % 4 : Nat) : Int)) % 4
      · rw [if_pos hp2]
        split at ihp <;> omega
      · rw [if_neg hp2]
        split at ihp <;> omega
    · rw [if_neg g]
      dsimp only
      have e2 : (cs.length + (0 + 1)) % 4 = cs.length % 4 + 1 := by omega
      have e3 : (cs.length + (0 + 1)) / 4 = cs.length / 4 := by omega
      rw [e2, e3]
      have lb1 := lb.1
      have lb2 := lb.2
      have hm4 : cs.length % 4 < 4 := Nat.mod_lt _ (by decide)
      generalize cs.length % 4 = m at *
      generalize cs.length / 4 = k at *
      by_cases hp2 : (p : Int) = (s.ld + (m : Int)) % 4
      · rw [if_pos hp2, if_pos (by omega)]
        rw [if_neg (by omega)] at ihp
        omega
      · rw [if_neg hp2]
        by_cases hp3 : ((p : Int) - s.ld) % 4 < (m : Int)
        · rw [if_pos hp3] at ihp
          rw [if_pos (by omega)]
          omega
        · rw [if_neg hp3] at ihp
          rw [if_neg (by omega)]
          omega
end DL
set_option Elab.async false
set_option linter.all false
set_option maxRecDepth 100000
set_option maxHeartbeats 4000000
namespace DL
open PySem PySem.Spec PyProof.Rows L2
local macro_rules | `(tactic| walk_at "dl") => `(tactic| simp only [tV, tVr, tFzV, turnD, DL.wipeE, tK, tOpD, tUnD, tBo, tAndD, tOrD, tNotD, tIfE, DL.tAndV, DL.tOrV, DL.tNotV, tTru, truD, okLen, sSet, sSetL, sExpr, sRet, sIf, sNx, tTupD, dNil, dCons, tLstD, tFzD, tApp, tExtd, tPopAt, sSetIx, tIxO, tChainD, tChain3D, tRevT, caStr, opRepT, opAdd, opSub, opMul, opDiv, opMod, opPow, DL.opI, DL.opI0, opB0, opLt, opLe, opGt, opGtD, opLtD, opGe, opEq, opNe, opIs, opIsN, isNone, opIn, opNotIn, opIx, atD_0, atD_1, atD_2, atD_3, putD_0, unNeg, tCa1, tCa2, tCaL1, caLen, caAbs, caMax2, caMin2, caSum, caMax, caMin, caSumT, caMaxT, caMinT, caAll, caTuple, caList, caInt, tIsi, isInt, isBool, isStr, isTuple, isList, notDict, sAsg, gSet, gTupD, gsNil, gsCons, sPar, pNil, pD, pL, setAll, tCallD, aNil, aV, aO, argS, oixs, ndp, putO, tOpL, opCat, opRep, tSlD, slD, tSlL, oNo, oE, tRevD, iLstD, iTupD, iRange1, iRange2, iZipD, iZipM, finO, tTrue, Option.map, eqv_int, eqv_bool, eqv_none, shaped_int, shaped_bool, shaped_none, tLenRange, tSortSet, tLenSet, tLenSetP, tSortSetP, tCountL, tCountT, tIndexL, tIndexT, DL.tOrT, DL.tAndT, DL.tNotT, tSortRev, caSorted, iEnumL, iEnumT, decide_eq_true_eq, and_self, List.cons_append, List.nil_append, List.replicate, List.getElem?_cons_zero, List.getElem?_cons_succ, List.set_cons_zero, List.set_cons_succ, List.length_cons, List.length_nil, true_and, and_true, if_true, if_false, Bool.false_eq_true, List.contains_nil, Bool.not_false, Bool.not_true, Bool.and_self, Bool.and_true, Bool.true_and, decide_true, decide_false, beq_self_eq_true])
def tb_play_fault (sp_may_play : SpD) (sp_left_of : SpD) (sp_turn_of : SpD) : TSd :=
  sSeq (sFor (iEnumT (tV 3)) (gTupD 2 (gsCons (gSet 4) (gsCons (gSet 5) (gsNil)))) (sSeq (sSet 6 (tSlD (tV 3) (oNo) (oE (tV 4))))
      (sSeq (sSet 7 (tCallD sp_turn_of (aV (tV 0) (aV (tV 1) (aV (tV 2) (aV (tV 6) (aNil)))))))
      (sSeq (sIf (tBo (tOpD opIs (tV 7) (tK .none))) (sRet (tTupD (dCons (tV 4) (dCons (tK (.str "over")) (dNil))))) (sNx))
      (sSeq (sIf (tOrD (tNotD (tTru (tIsi isTuple (tV 5)))) (tNotD (tTru (tCa1 caAll (tFzD (tComp (iTupD (tV 5)) (gSet 8) (tTrue) (tAndV (tIsi isInt (tV 8)) (tNotV (tIsi isBool (tV 8)))) [8])))))) (sRet (tTupD (dCons (tV 4) (dCons (tK (.str "hand")) (dNil))))) (sNx))
      (sSeq (sIf (tBo (tOpD opNotIn (tV 5) (tOpD opIx (tCallD sp_left_of (aV (tV 0) (aV (tV 6) (aNil)))) (tV 7)))) (sRet (tTupD (dCons (tV 4) (dCons (tK (.str "hand")) (dNil))))) (sNx))
      (sIf (tBo (tOpD opNotIn (tV 5) (tCallD sp_may_play (aV (tV 0) (aV (tV 1) (aV (tV 2) (aV (tV 6) (aNil)))))))) (sRet (tTupD (dCons (tV 4) (dCons (tK (.str "follow")) (dNil))))) (sNx))))))))
      (sRet (tK .none))
def tb_law_drawn_cards (sp_law_may_play : SpD) (sp_law_pick : SpD) : TSd :=
  sSeq (sSet 6 (tTupD (dNil)))
      (sSeq (sFor (iRange1 (tCa2 caMin2 (tV 5) (tOpD opMul (tK (.int 4)) (tCa1 caLen (tOpD opIx (tV 2) (tK (.int 0))))))) (gSet 7) (sSet 6 (tOpD opAdd (tV 6) (tTupD (dCons (tCallD sp_law_pick (aV (tV 0) (aO 1 (aV (tCallD sp_law_may_play (aV (tV 2) (aV (tV 3) (aV (tV 4) (aV (tV 6) (aNil)))))) (aNil))))) (dNil))))))
      (sRet (tV 6)))
theorem nodup_lenP : ∀ (a b : List Card), a.Nodup → (∀ x ∈ a, x ∈ b) → a.length ≤ b.length
  | [], b, _, _ => Nat.zero_le _
  | x :: a, b, nd, hs => by
    have hx : x ∈ b := hs x (List.mem_cons_self ..)
    have nd2 := List.nodup_cons.mp nd
    have ih := nodup_lenP a (b.erase x) nd2.2 (fun y hy => (List.mem_erase_of_ne (fun e => nd2.1 (by rw [← e]; exact hy))).mpr (hs y (List.mem_cons_of_mem _ hy)))
    rw [List.length_erase_of_mem hx] at ih
    have := List.length_pos_of_mem hx
    rw [List.length_cons]; omega
theorem may_some {R : Nat} {hs : List (List Card)} {st ld : Int} {cs : List Card} (hd : DealOk R hs) (ap : Apart hs) (h0 : 0 ≤ ld) (h1 : ld < 4) (h : PReach R hs st ld cs) (hl : cs.length < 4 * R) : mayF hs st ld cs ≠ [] := by
  intro e
  have tb := turnP_bd st ld cs
  have hH : (handAt hs (turnP st ld cs).toNat).filter (fun c => decide (c ∉ cs)) = [] := by
    unfold mayF follows at e
    split at e
    · exact e
    · rename_i g; exact absurd e g
  have hall : ∀ c ∈ handAt hs (turnP st ld cs).toNat, c ∈ cs := fun c hc => by
    have := List.filter_eq_nil_iff.mp hH c hc
    by_cases g : c ∈ cs
    · exact g
    · exact absurd (decide_eq_true g) this
  have hlen := hd.at (p := (turnP st ld cs).toNat) (by omega)
  have h2 := nodup_lenP _ (cs.filter fun c => decide (c ∈ handAt hs (turnP st ld cs).toNat)) (ap.nd _) fun x hx => List.mem_filter.mpr ⟨hall x hx, decide_eq_true hx⟩
  have h3 := h.count ap h0 h1 (turnP st ld cs).toNat (by omega)
  have lb := ld_bd (st := st) h0 h1 cs
  have tl := tr_len st ld cs
  have tp : turnP st ld cs = ((walkP st ld cs).ld + ((cs.length % 4 : Nat) : Int)) % 4 := by unfold turnP; rw [tl]
  unfold nIn at h3
  rw [if_neg (by rw [show (((turnP st ld cs).toNat : Nat) : Int) = turnP st ld cs by omega, tp]; omega)] at h3
  omega
/-! ### faults -/
theorem cE_injP {a b : Card} (h : cE a = cE b) : a = b := by
  have h1 := eqv_cE a b
  rw [h, eqv_cE] at h1
  exact of_decide_eq_true (h1.symm.trans (decide_eq_true rfl))
theorem map_cE_injP : ∀ {a b : List Card}, a.map cE = b.map cE → a = b
  | [], [], _ => rfl
  | [], _ :: _, h => by cases h
  | _ :: _, [], h => by cases h
  | x :: a, y :: b, h => by
    rw [List.map_cons, List.map_cons] at h
    injection h with h1 h2
    rw [cE_injP h1, map_cE_injP h2]
/-- what may come next -/
def nextOk (R : Nat) (hs : List (List Card)) (st ld : Int) (cs : List Card) (d : D) : Prop := ∃ c, d = cE c ∧ cs.length < 4 * R ∧ c ∈ mayF hs st ld cs
def inHand (hs : List (List Card)) (st ld : Int) (cs : List Card) (d : D) : Prop := ∃ c, d = cE c ∧ c ∈ handAt hs (turnP st ld cs).toNat ∧ c ∉ cs
noncomputable def tagOf (R : Nat) (hs : List (List Card)) (st ld : Int) (cs : List Card) (d : D) : Str :=
  if cs.length = 4 * R then "over" else @ite _ (inHand hs st ld cs d) (Classical.propDecidable _) "follow" "hand"
inductive PF (R : Nat) (hs : List (List Card)) (st ld : Int) : List D → D → Prop
  | non {cs : List Card} : PReach R hs st ld cs → PF R hs st ld (cs.map cE) .none
  | stop {cs : List Card} {d : D} {rest : List D} : PReach R hs st ld cs → ¬ nextOk R hs st ld cs d → PF R hs st ld (cs.map cE ++ d :: rest) (.tuple [.int (cs.length : Nat), .str (tagOf R hs st ld cs d)])
theorem PReach.at {R : Nat} {hs : List (List Card)} {st ld : Int} {cs : List Card} (h : PReach R hs st ld cs) : ∀ k c, cs[k]? = some c → (cs.take k).length < 4 * R ∧ c ∈ mayF hs st ld (cs.take k) := by
  induction h with
  | nil => intro k c hc; simp at hc
  | @snoc cs c hr hl hc ih =>
    intro k x hx
    rcases Nat.lt_or_ge k cs.length with hk | hk
    · rw [List.getElem?_append_left hk] at hx
      rw [List.take_append_of_le_length (by omega)]
      exact ih k x hx
    · have hk2 : k = cs.length := by
        have := (List.getElem?_eq_some_iff.mp hx).1
        rw [List.length_append, List.length_cons, List.length_nil] at this
        omega
      subst hk2
      rw [List.getElem?_append_right (Nat.le_refl _), Nat.sub_self] at hx
      cases hx
      rw [List.take_append_of_le_length (Nat.le_refl _), List.take_of_length_le (Nat.le_refl _)]
      exact ⟨hl, hc⟩
theorem pf_ge {R : Nat} {hs : List (List Card)} {st ld : Int} {cs cs' : List Card} {d : D} {rest rest' : List D} (h : PReach R hs st ld cs') (hn : ¬ nextOk R hs st ld cs d) (e : cs.map cE ++ d :: rest = cs'.map cE ++ rest') : cs'.length ≤ cs.length := by
  rcases Nat.lt_or_ge cs.length cs'.length with hlt | hge
  · exfalso
    have h1 : (cs'.take cs.length).map cE = cs.map cE := by
      have := congrArg (List.take cs.length) e
      rw [List.take_append_of_le_length (by rw [List.length_map]; exact Nat.le_refl _), List.take_append_of_le_length (by rw [List.length_map]; omega), List.take_of_length_le (by rw [List.length_map]; exact Nat.le_refl _), ← List.map_take] at this
      exact this.symm
    have h2 := map_cE_injP h1
    have h3 := h.at cs.length cs'[cs.length] (List.getElem?_eq_getElem hlt)
    rw [h2] at h3
    refine hn ⟨_, ?_, h3.1, h3.2⟩
    have h4 : (cs.map cE ++ d :: rest)[cs.length]? = (cs'.map cE ++ rest')[cs.length]? := congrArg (fun l : List D => l[cs.length]?) e
    rw [List.getElem?_append_right (by rw [List.length_map]; exact Nat.le_refl _), List.length_map, Nat.sub_self, List.getElem?_cons_zero, List.getElem?_append_left (by rw [List.length_map]; exact hlt), List.getElem?_map, List.getElem?_eq_getElem hlt] at h4
    exact Option.some.inj h4
  · exact hge
theorem pf_one {R : Nat} {hs : List (List Card)} {st ld : Int} {ds : List D} {o o' : D} (h : PF R hs st ld ds o) (h' : PF R hs st ld ds o') : o = o' := by
  cases h with
  | @non cs hr =>
    generalize e : cs.map cE = ds at h'
    cases h' with
    | non _ => rfl
    | @stop cs' d rest hr' hn' =>
      have := pf_ge hr hn' (by rw [List.append_nil]; exact e.symm : cs'.map cE ++ d :: rest = cs.map cE ++ [])
      have hl := congrArg List.length e
      rw [List.length_map, List.length_append, List.length_map, List.length_cons] at hl
      omega
  | @stop cs d rest hr hn =>
    generalize e : cs.map cE ++ d :: rest = ds at h'
    cases h' with
    | @non cs' hr' =>
      have := pf_ge hr' hn (by rw [List.append_nil]; exact e : cs.map cE ++ d :: rest = cs'.map cE ++ [])
      have hl := congrArg List.length e
      rw [List.length_map, List.length_append, List.length_map, List.length_cons] at hl
      omega
    | @stop cs' d' rest' hr' hn' =>
      have h1 := pf_ge hr' hn e
      have h2 := pf_ge hr hn' e.symm
      have hl : cs.length = cs'.length := by omega
      obtain ⟨e1, e2⟩ := List.append_inj e (by rw [List.length_map, List.length_map]; exact hl)
      injection e2 with e2 _
      rw [map_cE_injP e1, e2]
end DL
set_option Elab.async false
set_option linter.all false
set_option maxRecDepth 100000
set_option maxHeartbeats 4000000
namespace DL
open PySem PySem.Spec PyProof.Rows L2
local macro_rules | `(tactic| walk_at "dl") => `(tactic| simp only [tV, tVr, tFzV, turnD, DL.wipeE, tK, tOpD, tUnD, tBo, tAndD, tOrD, tNotD, tIfE, DL.tAndV, DL.tOrV, DL.tNotV, tTru, truD, okLen, sSet, sSetL, sExpr, sRet, sIf, sNx, tTupD, dNil, dCons, tLstD, tFzD, tApp, tExtd, tPopAt, sSetIx, tIxO, tChainD, tChain3D, tRevT, caStr, opRepT, opAdd, opSub, opMul, opDiv, opMod, opPow, DL.opI, DL.opI0, opB0, opLt, opLe, opGt, opGtD, opLtD, opGe, opEq, opNe, opIs, opIsN, isNone, opIn, opNotIn, opIx, atD_0, atD_1, atD_2, atD_3, putD_0, unNeg, tCa1, tCa2, tCaL1, caLen, caAbs, caMax2, caMin2, caSum, caMax, caMin, caSumT, caMaxT, caMinT, caAll, caTuple, caList, caInt, tIsi, isInt, isBool, isStr, isTuple, isList, notDict, sAsg, gSet, gTupD, gsNil, gsCons, sPar, pNil, pD, pL, setAll, tCallD, aNil, aV, aO, argS, oixs, ndp, putO, tOpL, opCat, opRep, tSlD, slD, tSlL, oNo, oE, tRevD, iLstD, iTupD, iRange1, iRange2, iZipD, iZipM, finO, tTrue, Option.map, eqv_int, eqv_bool, eqv_none, shaped_int, shaped_bool, shaped_none, tLenRange, tSortSet, tLenSet, tLenSetP, tSortSetP, tCountL, tCountT, tIndexL, tIndexT, DL.tOrT, DL.tAndT, DL.tNotT, tSortRev, caSorted, iEnumL, iEnumT, decide_eq_true_eq, and_self, List.cons_append, List.nil_append, List.replicate, List.getElem?_cons_zero, List.getElem?_cons_succ, List.set_cons_zero, List.set_cons_succ, List.length_cons, List.length_nil, true_and, and_true, if_true, if_false, Bool.false_eq_true, List.contains_nil, Bool.not_false, Bool.not_true, Bool.and_self, Bool.and_true, Bool.true_and, decide_true, decide_false, beq_self_eq_true])
theorem enum_nextP {ds : List D} {i : Nat} {d : D} (h : (enumD ds)[i]? = some d) : ∃ x, ds[i]? = some x ∧ d = .tuple [.int (i : Int), x] := by
  have hi := (List.getElem?_eq_some_iff.mp h).1
  rw [enumD_len] at hi
  refine ⟨ds[i], List.getElem?_eq_getElem hi, ?_⟩
  rw [enumD_get (List.getElem?_eq_getElem hi)] at h
  exact (Option.some.inj h).symm
theorem gs2 {i j : Nat} {a b : D} {E : Env} {Q : Env → Prop} (h : Q ((E.set i (.d a)).set j (.d b))) : gTupD 2 (gsCons (gSet i) (gsCons (gSet j) gsNil)) (.tuple [a, b]) E Q := ⟨rfl, h⟩
theorem pf_stop {R : Nat} {hs : List (List Card)} {st ld : Int} {ds : List D} {i : Nat} {x : D} {cs : List Card} (hx : ds[i]? = some x) (hr : PReach R hs st ld cs) (hp : ds.take i = cs.map cE) (hn : ¬ nextOk R hs st ld cs x) : PF R hs st ld ds (.tuple [.int (i : Int), .str (tagOf R hs st ld cs x)]) := by
  have hi := (List.getElem?_eq_some_iff.mp hx).1
  have e : ds = cs.map cE ++ x :: ds.drop (i + 1) := by
    rw [← hp]
    conv => lhs; rw [← List.take_append_drop i ds]
    rw [List.drop_eq_getElem_cons hi, (List.getElem?_eq_some_iff.mp hx).2]
  have hl : cs.length = i := by
    have := congrArg List.length hp
    rw [List.length_take, List.length_map] at this
    omega
  have := PF.stop (rest := ds.drop (i + 1)) hr hn
  rw [← e, hl] at this
  exact this
theorem pf_go {R : Nat} {hs : List (List Card)} {st ld : Int} {ds : List D} {i : Nat} {c : Card} {cs : List Card} (hx : ds[i]? = some (cE c)) (hr : PReach R hs st ld cs) (hp : ds.take i = cs.map cE) (hl : cs.length < 4 * R) (hm : c ∈ mayF hs st ld cs) : PReach R hs st ld (cs ++ [c]) ∧ ds.take (i + 1) = (cs ++ [c]).map cE :=
  ⟨.snoc hr hl hm, by rw [List.take_add_one, hx, hp, List.map_append]; rfl⟩
theorem tag_over {R : Nat} {hs : List (List Card)} {st ld : Int} {cs : List Card} {d : D} (h : cs.length = 4 * R) : tagOf R hs st ld cs d = "over" := by unfold tagOf; rw [if_pos h]
theorem tag_hand {R : Nat} {hs : List (List Card)} {st ld : Int} {cs : List Card} {d : D} (h : cs.length ≠ 4 * R) (hn : ¬ inHand hs st ld cs d) : tagOf R hs st ld cs d = "hand" := by unfold tagOf; rw [if_neg h]; exact @if_neg _ (Classical.propDecidable _) hn _ _ _
theorem tag_follow {R : Nat} {hs : List (List Card)} {st ld : Int} {cs : List Card} {d : D} (h : cs.length ≠ 4 * R) (hn : inHand hs st ld cs d) : tagOf R hs st ld cs d = "follow" := by unfold tagOf; rw [if_neg h]; exact @if_pos _ (Classical.propDecidable _) hn _ _ _
theorem next_in {R : Nat} {hs : List (List Card)} {st ld : Int} {cs : List Card} {d : D} (h : nextOk R hs st ld cs d) : inHand hs st ld cs d := by
  obtain ⟨c, e, _, hm⟩ := h
  exact ⟨c, e, (mayF_sub hm).1, (mayF_sub hm).2⟩
def wholeP : D → Bool
  | .int _ => true
  | _ => false
theorem whole_ints : ∀ {ds : List D}, (∀ x ∈ ds, wholeP x = true) → ∃ ns : List Int, ds = ns.map PyData.int
  | [], _ => ⟨[], rfl⟩
  | d :: ds, h => by
    have hd := h d (List.mem_cons_self ..)
    cases d with
    | int i =>
      obtain ⟨ns, rfl⟩ := whole_ints fun x hx => h x (List.mem_cons_of_mem _ hx)
      exact ⟨i :: ns, rfl⟩
    | _ => cases hd
theorem any_ints (xs : List Card) (ns : List Int) : ((xs.map cE).any fun z => PyData.eqv z (.tuple (ns.map PyData.int))) = true ↔ ∃ c ∈ xs, PyData.tuple (ns.map PyData.int) = cE c := by
  rw [List.any_map, List.any_eq_true]
  constructor
  · rintro ⟨c, hc, h⟩
    have h : PyData.eqv (.tuple (([c.1, c.2] : List Int).map PyData.int)) (.tuple (ns.map PyData.int)) = true := h
    rw [eqv_ti] at h
    refine ⟨c, hc, ?_⟩
    rw [← of_decide_eq_true h]; rfl
  · rintro ⟨c, hc, h⟩
    refine ⟨c, hc, ?_⟩
    show PyData.eqv (cE c) (.tuple (ns.map PyData.int)) = true
    rw [h, eqv_cE]; exact decide_eq_true rfl
theorem ndP {n : Nat} {d : D} (h : bnd n d = true) : notDict d := by
  cases d with
  | dict _ => cases n <;> cases h
  | _ => trivial
/-- a fault told -/
def spPF : SpD := fun ss Q => ∃ (R : Nat) (hs : List (List Card)) (st ld : Int) (ds : List D), ss = [.d (dealT hs), .d (.int st), .d (.int ld), .d (.tuple ds)] ∧ DealOk R hs ∧ ds.length ≤ 1000 ∧ (∀ x ∈ ds, bnd 20 x = true) ∧ ∀ o, PF R hs st ld ds o → Q o []
theorem sh_play_fault : ∀ ss QD, spPF ss QD → ss.length = 4 ∧ mpos 0 ss = [] := by rintro ss QD ⟨_, _, _, _, _, rfl, _⟩; exact ⟨rfl, rfl⟩
theorem rd_play_fault : ∀ ss QD, spPF ss QD → tb_play_fault spMayP spLeft spTurn { nx := fun E' => finO [] E' (QD .none), rt := fun d E' => finO [] E' (QD d) } (ss ++ List.replicate 5 .un) := by
  rintro ss QD ⟨R0, hs, st, ld, ds, rfl, hd, hc, hb, q⟩
  have h4 := hd.four
  have hhi := hd.hi
  unfold tb_play_fault
  refine seq_step fun R hR => ?_
  refine for_inv (ds := enumD ds) (E1 := [.d (dealT hs), .d (.int st), .d (.int ld), .d (.tuple ds), .un, .un, .un, .un, .un]) (fun Q h => h)
    (fun i E => ∃ a4 a5 a6 a7 cs, E = [.d (dealT hs), .d (.int st), .d (.int ld), .d (.tuple ds), a4, a5, a6, a7, .un] ∧ PReach R0 hs st ld cs ∧ ds.take i = cs.map cE) ⟨_, _, _, _, [], rfl, .nil, rfl⟩ (fun i d E hd2 hE R2 hR2 => ?_) (fun E hE => ?_)
  · obtain ⟨a4, a5, a6, a7, cs, rfl, hr, hp⟩ := hE
    obtain ⟨x, hx, rfl⟩ := enum_nextP hd2
    have hi := (List.getElem?_eq_some_iff.mp hx).1
    have hbx := hb x (List.mem_of_getElem? hx)
    have hlen : cs.length = i := by
      have := congrArg List.length hp
      rw [List.length_take, List.length_map] at this
      omega
    have hcl := hr.len
    have tb := turnP_bd st ld cs
    have tl : (turnP st ld cs).toNat < hs.length := by omega
    refine gs2 ?_
    refine seq_step fun R3 hR3 => ?_
    walk_at "dl"
    rw [cut_to (by omega), Int.toNat_natCast, hp]
    refine hR3 _ ?_
    refine seq_step fun R4 hR4 => ?_
    walk_at "dl"
    refine ⟨R0, hs, st, ld, cs, rfl, hd, by omega, ?_⟩
    unfold turnN
    by_cases g : cs.length = 4 * R0
    · rw [if_pos g]
      refine hR4 _ ?_
      refine seq_step fun R5 hR5 => ?_
      walk_at "dl"
      refine ⟨small_line (by simp), ?_⟩
      have := q _ (pf_stop hx hr hp fun h => by obtain ⟨_, _, z, _⟩ := h; omega)
      rw [tag_over g] at this
      exact this
    · rw [if_neg g]
      refine hR4 _ ?_
      have hno : ¬ inHand hs st ld cs x → QD (.tuple [.int (i : Int), .str "hand"]) [] := fun h => by
        have := q _ (pf_stop hx hr hp fun z => h (next_in z))
        rw [tag_hand g h] at this
        exact this
      refine seq_step fun R5 hR5 => ?_
      walk_at "dl"
      refine hR5 _ ?_
      refine seq_step fun R5 hR5 => ?_
      cases x with
      | dict _ => cases hbx
      | tuple es =>
        have hes := of_bnd_tup hbx
        walk_at "dl"
        refine comp_map (E1 := [.d (dealT hs), .d (.int st), .d (.int ld), .d (.tuple ds), .d (.int (i : Int)), .d (.tuple es), .d (.tuple (cs.map cE)), .d (.int (turnP st ld cs)), .un]) es (fun z => z) (fun z => .bool (wholeP z)) (fun Q h => by rw [List.map_id'] at h; exact h) (un1 rfl) (small_line (by omega)) (fun z hz R6 hq => ?_) ?_
        · have ndz := ndP (hes.1 z hz)
          cases z with
          | dict _ => exact ndz.elim
          | int _ => exact ⟨trivial, trivial, hq _ rfl⟩
          | bool _ => exact ⟨trivial, trivial, hq _ rfl⟩
          | _ => exact ⟨trivial, hq _ rfl⟩
        refine ⟨es.map wholeP, by rw [List.map_map]; rfl, ?_⟩
        rw [show (es.map wholeP).all id = es.all wholeP by rw [List.all_map]; rfl]
        by_cases ha : es.all wholeP = true
        · refine ifF (by rw [ha]; rfl) (hR5 _ ?_)
          obtain ⟨ns, rfl⟩ := whole_ints (List.all_eq_true.mp ha)
          refine seq_step fun R6 hR6 => ?_
          walk_at "dl"
          refine ⟨hs, cs, rfl, by omega, fun h hh => by have := hd.each h hh; omega, ?_⟩
          unfold dealT
          walk_at "dl"
          refine at_hand tb.1 (by unfold leftF; rw [List.length_map]; exact tl) ?_
          rw [left_at tl]
          refine ⟨⟨shaped_ti ns, shaped_of (n := 2) (sh_hand _)⟩, ?_⟩
          by_cases gi : inHand hs st ld cs (.tuple (ns.map PyData.int))
          · obtain ⟨c, ec, hc1, hc2⟩ := id gi
            refine ifF ?_ (hR6 _ ?_)
            · rw [Bool.not_eq_false']
              exact (any_ints _ ns).mpr ⟨c, List.mem_filter.mpr ⟨hc1, decide_eq_true hc2⟩, ec⟩
            walk_at "dl"
            refine ⟨R0, hs, st, ld, cs, rfl, hd, by omega, ?_⟩
            rw [if_neg g]
            unfold handD
            walk_at "dl"
            refine ⟨⟨shaped_ti ns, shaped_of (n := 2) (sh_hand _)⟩, ?_⟩
            rw [ec, any_cE]
            rw [ec] at hx
            by_cases gm : c ∈ mayF hs st ld cs
            · rw [decide_eq_true gm]
              obtain ⟨z1, z2⟩ := pf_go hx hr hp (by omega) gm
              exact ifF rfl (hR2 _ ⟨_, _, _, _, _, rfl, z1, z2⟩)
            · rw [decide_eq_false gm]
              refine ifT rfl ⟨small_line (by simp), ?_⟩
              rw [ec] at gi
              have := q _ (pf_stop hx hr hp fun z => by
                obtain ⟨c', e', _, hm⟩ := z
                rw [← cE_injP e'] at hm
                exact gm hm)
              rw [tag_follow g gi] at this
              exact this
          · refine ifT ?_ ⟨small_line (by simp), hno gi⟩
            rw [Bool.not_eq_true', ← Bool.not_eq_true]
            intro z
            obtain ⟨c, hm, ec⟩ := (any_ints _ ns).mp z
            exact gi ⟨c, ec, (List.mem_filter.mp hm).1, of_decide_eq_true (List.mem_filter.mp hm).2⟩
        · have ha0 : es.all wholeP = false := by simpa using ha
          refine ifT (by rw [ha0]; rfl) ⟨small_line (by simp), hno fun z => ha ?_⟩
          obtain ⟨c, ec, _⟩ := z
          unfold cE at ec
          injection ec with ec
          subst ec
          rfl
      | _ =>
        walk_at "dl"
        exact ⟨small_line (by simp), hno fun z => by obtain ⟨c, ec, _⟩ := z; unfold cE at ec; cases ec⟩
  · obtain ⟨a4, a5, a6, a7, cs, rfl, hr, hp⟩ := hE
    rw [enumD_len, List.take_of_length_le (Nat.le_refl _)] at hp
    refine hR _ ?_
    refine q .none ?_
    rw [hp]
    exact .non hr
end DL
set_option Elab.async false
set_option linter.all false
set_option maxRecDepth 100000
set_option maxHeartbeats 4000000
namespace DL
open PySem PySem.Spec PyProof.Rows L2
local macro_rules | `(tactic| walk_at "dl") => `(tactic| simp only [tV, tVr, tFzV, turnD, DL.wipeE, tK, tOpD, tUnD, tBo, tAndD, tOrD, tNotD, tIfE, DL.tAndV, DL.tOrV, DL.tNotV, tTru, truD, okLen, sSet, sSetL, sExpr, sRet, sIf, sNx, tTupD, dNil, dCons, tLstD, tFzD, tApp, tExtd, tPopAt, sSetIx, tIxO, tChainD, tChain3D, tRevT, caStr, opRepT, opAdd, opSub, opMul, opDiv, opMod, opPow, DL.opI, DL.opI0, opB0, opLt, opLe, opGt, opGtD, opLtD, opGe, opEq, opNe, opIs, opIsN, isNone, opIn, opNotIn, opIx, atD_0, atD_1, atD_2, atD_3, putD_0, unNeg, tCa1, tCa2, tCaL1, caLen, caAbs, caMax2, caMin2, caSum, caMax, caMin, caSumT, caMaxT, caMinT, caAll, caTuple, caList, caInt, tIsi, isInt, isBool, isStr, isTuple, isList, notDict, sAsg, gSet, gTupD, gsNil, gsCons, sPar, pNil, pD, pL, setAll, tCallD, aNil, aV, aO, argS, oixs, ndp, putO, tOpL, opCat, opRep, tSlD, slD, tSlL, oNo, oE, tRevD, iLstD, iTupD, iRange1, iRange2, iZipD, iZipM, finO, tTrue, Option.map, eqv_int, eqv_bool, eqv_none, shaped_int, shaped_bool, shaped_none, tLenRange, tSortSet, tLenSet, tLenSetP, tSortSetP, tCountL, tCountT, tIndexL, tIndexT, DL.tOrT, DL.tAndT, DL.tNotT, tSortRev, caSorted, iEnumL, iEnumT, decide_eq_true_eq, and_self, List.cons_append, List.nil_append, List.replicate, List.getElem?_cons_zero, List.getElem?_cons_succ, List.set_cons_zero, List.set_cons_succ, List.length_cons, List.length_nil, true_and, and_true, if_true, if_false, Bool.false_eq_true, List.contains_nil, Bool.not_false, Bool.not_true, Bool.and_self, Bool.and_true, Bool.true_and, decide_true, decide_false, beq_self_eq_true])
end DL
set_option Elab.async false
set_option linter.all false
set_option maxRecDepth 100000
set_option maxHeartbeats 4000000
namespace DL
open PySem PySem.Spec PyProof.Rows L2
local macro_rules | `(tactic| walk_at "dl") => `(tactic| simp only [tV, tVr, tFzV, turnD, DL.wipeE, tK, tOpD, tUnD, tBo, tAndD, tOrD, tNotD, tIfE, DL.tAndV, DL.tOrV, DL.tNotV, tTru, truD, okLen, sSet, sSetL, sExpr, sRet, sIf, sNx, tTupD, dNil, dCons, tLstD, tFzD, tApp, tExtd, tPopAt, sSetIx, tIxO, tChainD, tChain3D, tRevT, caStr, opRepT, opAdd, opSub, opMul, opDiv, opMod, opPow, DL.opI, DL.opI0, opB0, opLt, opLe, opGt, opGtD, opLtD, opGe, opEq, opNe, opIs, opIsN, isNone, opIn, opNotIn, opIx, atD_0, atD_1, atD_2, atD_3, putD_0, unNeg, tCa1, tCa2, tCaL1, caLen, caAbs, caMax2, caMin2, caSum, caMax, caMin, caSumT, caMaxT, caMinT, caAll, caTuple, caList, caInt, tIsi, isInt, isBool, isStr, isTuple, isList, notDict, sAsg, gSet, gTupD, gsNil, gsCons, sPar, pNil, pD, pL, setAll, tCallD, aNil, aV, aO, argS, oixs, ndp, putO, tOpL, opCat, opRep, tSlD, slD, tSlL, oNo, oE, tRevD, iLstD, iTupD, iRange1, iRange2, iZipD, iZipM, finO, tTrue, Option.map, eqv_int, eqv_bool, eqv_none, shaped_int, shaped_bool, shaped_none, tLenRange, tSortSet, tLenSet, tLenSetP, tSortSetP, tCountL, tCountT, tIndexL, tIndexT, DL.tOrT, DL.tAndT, DL.tNotT, tSortRev, caSorted, iEnumL, iEnumT, decide_eq_true_eq, and_self, List.cons_append, List.nil_append, List.replicate, List.getElem?_cons_zero, List.getElem?_cons_succ, List.set_cons_zero, List.set_cons_succ, List.length_cons, List.length_nil, true_and, and_true, if_true, if_false, Bool.false_eq_true, List.contains_nil, Bool.not_false, Bool.not_true, Bool.and_self, Bool.and_true, Bool.true_and, decide_true, decide_false, beq_self_eq_true])
theorem same_card (n : Nat) (c : Card) : sameOk (n + 1) (cE c) = true := by
  show ([PyData.int c.1, PyData.int c.2].all (sameOk n) && decide (2 ≤ 10000000)) = true
  cases n <;> rfl
theorem same_handP (n : Nat) {h : List Card} (hl : h.length ≤ 1000) : sameOk (n + 2) (handD h) = true := by
  show ((h.map cE).all (sameOk (n + 1)) && decide ((h.map cE).length ≤ 10000000)) = true
  rw [List.length_map, decide_eq_true (by omega), Bool.and_true, List.all_map]
  exact List.all_eq_true.mpr fun c _ => same_card n c
theorem same_dealP (n : Nat) {hs : List (List Card)} (hl : hs.length ≤ 1000) (hh : ∀ h ∈ hs, h.length ≤ 1000) : sameOk (n + 3) (dealT hs) = true := by
  show ((hs.map handD).all (sameOk (n + 2)) && decide ((hs.map handD).length ≤ 10000000)) = true
  rw [List.length_map, decide_eq_true (by omega), Bool.and_true, List.all_map]
  exact List.all_eq_true.mpr fun h hm => same_handP n (hh h hm)
end DL
set_option Elab.async false
set_option linter.all false
set_option maxRecDepth 100000
set_option maxHeartbeats 4000000
/-! FnBestT: the best of both sides -/
namespace DL
open PySem PySem.Spec PyProof.Rows L2
def leB (b : Bool) (y m : Int) : Prop := if b = true then y ≤ m else m ≤ y
def exB (b : Bool) (x y : Int) : Int := if b = true then (if x ≤ y then y else x) else (if x ≤ y then x else y)
def exL (b : Bool) : List Int → Int
  | [] => 0
  | a :: l => l.foldl (exB b) a
theorem leB_refl (b : Bool) (y : Int) : leB b y y := by unfold leB; split <;> omega
theorem leB_trans {b : Bool} {x y z : Int} (h : leB b x y) (g : leB b y z) : leB b x z := by unfold leB at *; split at h <;> simp_all <;> omega
theorem leB_anti {b : Bool} {x y : Int} (h : leB b x y) (g : leB b y x) : x = y := by unfold leB at *; split at h <;> simp_all <;> omega
theorem exB_spec (b : Bool) (x y : Int) : (exB b x y = x ∨ exB b x y = y) ∧ leB b x (exB b x y) ∧ leB b y (exB b x y) := by
  unfold exB leB
  cases b
  · simp only [Bool.false_eq_true, if_false]; split <;> omega
  · simp only [if_true]; split <;> omega
theorem exF_spec (b : Bool) : ∀ (l : List Int) (a : Int), l.foldl (exB b) a ∈ a :: l ∧ ∀ y ∈ a :: l, leB b y (l.foldl (exB b) a)
  | [], a => ⟨by simp, fun y hy => by rw [List.mem_singleton.mp hy]; exact leB_refl b a⟩
  | x :: l, a => by
    obtain ⟨h1, h2⟩ := exF_spec b l (exB b a x)
    obtain ⟨e, l1, l2⟩ := exB_spec b a x
    rw [List.foldl_cons]
    refine ⟨?_, fun y hy => ?_⟩
    · rcases List.mem_cons.mp h1 with z | z
      · rw [z]; rcases e with e | e <;> rw [e] <;> simp
      · exact List.mem_cons_of_mem _ (List.mem_cons_of_mem _ z)
    · have h3 := h2 _ (List.mem_cons_self ..)
      rcases List.mem_cons.mp hy with z | z
      · subst z; exact leB_trans l1 h3
      · rcases List.mem_cons.mp z with z | z
        · subst z; exact leB_trans l2 h3
        · exact h2 y (List.mem_cons_of_mem _ z)
theorem exL_spec (b : Bool) {l : List Int} (h : l ≠ []) : exL b l ∈ l ∧ ∀ y ∈ l, leB b y (exL b l) := by
  cases l with
  | nil => exact absurd rfl h
  | cons a l => exact exF_spec b l a
theorem exL_uniq {b : Bool} {l : List Int} {m : Int} (h : m ∈ l) (u : ∀ y ∈ l, leB b y m) : m = exL b l := by
  obtain ⟨h1, h2⟩ := exL_spec b (List.ne_nil_of_mem h)
  exact leB_anti (h2 m h) (u _ h1)
/-- which player -/
def plr (f : Int) (tr : List Card) : Nat := ((f + (tr.length : Int)) % 4).toNat
theorem plr_lt (f : Int) (tr : List Card) : plr f tr < 4 := by unfold plr; omega
def wo (hs : List (List Card)) (p : Nat) (c : Card) : List (List Card) := hs.set p ((handAt hs p).filter fun d => decide (d ≠ c))
def wonBy (w : Int) : Int := if w % 2 = 0 then 1 else 0
def lat (st : Int) : Nat → List (List Card) → Int → List Card → Int
  | 0, _, _, _ => 0
  | n + 1, hs, f, tr => exL (decide (plr f tr % 2 = 0)) ((follows (handAt hs (plr f tr)) tr).map fun c =>
      if tr.length + 1 < 4 then lat st n (wo hs (plr f tr) c) f (tr ++ [c])
      else wonBy ((f + (winI st (tr ++ [c]) : Int)) % 4) + lat st n (wo hs (plr f tr) c) ((f + (winI st (tr ++ [c]) : Int)) % 4) [])
structure Bal (m : Nat) (hs : List (List Card)) (f : Int) (tr : List Card) : Prop where
  four : hs.length = 4
  f0 : 0 ≤ f
  f1 : f < 4
  t3 : tr.length ≤ 3
  nd : ∀ p, (handAt hs p).Nodup
  sz : ∀ p : Nat, p < 4 → (handAt hs p).length + (if ((p : Int) - f) % 4 < (tr.length : Int) then 1 else 0) = m
theorem handAt_wo {hs : List (List Card)} {p : Nat} (hp : p < hs.length) (c : Card) (q : Nat) : handAt (wo hs p c) q = if q = p then (handAt hs p).filter (fun d => decide (d ≠ c)) else handAt hs q := by
  unfold handAt wo
  rw [List.getD_eq_getElem?_getD, List.getElem?_set]
  by_cases h : q = p
  · subst h; rw [if_pos rfl, if_pos rfl, if_pos hp]; rfl
  · rw [if_neg (fun z => h z.symm), if_neg h, List.getD_eq_getElem?_getD]
theorem filter_ne_len {h : List Card} (nd : h.Nodup) {c : Card} (hc : c ∈ h) : (h.filter fun d => decide (d ≠ c)).length + 1 = h.length := by
  induction h with
  | nil => cases hc
  | cons a l ih =>
    obtain ⟨n1, n2⟩ := List.nodup_cons.mp nd
    by_cases e : a = c
    · subst e
      have e : l.filter (fun d => decide (d ≠ a)) = l := List.filter_eq_self.mpr fun x hx => decide_eq_true (fun z : x = a => n1 (by rw [← z]; exact hx))
      rw [List.filter_cons_of_neg (by simp), e]
      rfl
    · rw [List.filter_cons_of_pos (by simp [e]), List.length_cons, List.length_cons, ih n2 ((List.mem_cons.mp hc).resolve_left fun z => e z.symm)]
theorem follows_sub {h tr : List Card} {c : Card} (hc : c ∈ follows h tr) : c ∈ h := by
  unfold follows at hc
  split at hc
  · exact hc
  · exact (List.mem_filter.mp hc).1
theorem follows_ne {h tr : List Card} (hh : h ≠ []) : follows h tr ≠ [] := by
  unfold follows
  split
  · exact hh
  · assumption
theorem follows_len (h tr : List Card) : (follows h tr).length ≤ h.length := by
  unfold follows
  split
  · exact Nat.le_refl _
  · exact List.length_filter_le _ _
theorem Bal.hand {m : Nat} {hs : List (List Card)} {f : Int} {tr : List Card} (h : Bal m hs f tr) : (handAt hs (plr f tr)).length = m := by
  have := h.sz (plr f tr) (plr_lt f tr)
  have h0 := h.f0
  have h1 := h.f1
  have h3 := h.t3
  rw [if_neg (by unfold plr; omega)] at this
  omega
theorem Bal.t0 {hs : List (List Card)} {f : Int} {tr : List Card} (h : Bal 0 hs f tr) : tr = [] := by
  have := h.sz f.toNat (by have := h.f0; have := h.f1; omega)
  have h0 := h.f0
  cases tr with
  | nil => rfl
  | cons a l =>
    rw [if_pos (by rw [Int.toNat_of_nonneg h0, Int.sub_self, List.length_cons]; omega)] at this
    omega
theorem Bal.step {m : Nat} {hs : List (List Card)} {f : Int} {tr : List Card} (h : Bal m hs f tr) {c : Card} (hc : c ∈ handAt hs (plr f tr)) (ht : tr.length + 1 < 4) : Bal m (wo hs (plr f tr) c) f (tr ++ [c]) := by
  have p4 := plr_lt f tr
  have h0 := h.f0
  have h1 := h.f1
  refine ⟨by unfold wo; rw [List.length_set]; exact h.four, h0, h1, by rw [List.length_append]; simp; omega, fun q => ?_, fun q hq => ?_⟩
  · rw [handAt_wo (by rw [h.four]; exact p4)]
    split
    · exact (h.nd _).filter _
    · exact h.nd q
  · rw [handAt_wo (by rw [h.four]; exact p4), List.length_append]
    have hz := h.sz q hq
    have hl := h.hand
    have hf := filter_ne_len (h.nd _) hc
    have ep : (plr f tr : Int) = (f + (tr.length : Int)) % 4 := by unfold plr; omega
    by_cases e : q = plr f tr
    · rw [if_pos e, if_pos (by rw [e, ep]; simp; omega)]
      omega
    · rw [if_neg e]
      have : (((q : Int) - f) % 4 < ((tr.length + [c].length : Nat) : Int)) ↔ (((q : Int) - f) % 4 < (tr.length : Int)) := by
        simp only [List.length_singleton]
        omega
      simp only [this]
      exact hz
theorem Bal.last {m : Nat} {hs : List (List Card)} {f : Int} {tr : List Card} (h : Bal m hs f tr) {c : Card} (hc : c ∈ handAt hs (plr f tr)) (ht : ¬ tr.length + 1 < 4) {w : Int} (w0 : 0 ≤ w) (w1 : w < 4) : Bal (m - 1) (wo hs (plr f tr) c) w [] := by
  have p4 := plr_lt f tr
  have h0 := h.f0
  have h1 := h.f1
  have h3 := h.t3
  refine ⟨by unfold wo; rw [List.length_set]; exact h.four, w0, w1, by simp, fun q => ?_, fun q hq => ?_⟩
  · rw [handAt_wo (by rw [h.four]; exact p4)]
    split
    · exact (h.nd _).filter _
    · exact h.nd q
  · rw [handAt_wo (by rw [h.four]; exact p4)]
    have hz := h.sz q hq
    have hl := h.hand
    have hf := filter_ne_len (h.nd _) hc
    have ep : (plr f tr : Int) = (f + (tr.length : Int)) % 4 := by unfold plr; omega
    rw [if_neg (show ¬ ((q : Int) - w) % 4 < (([] : List Card).length : Int) by simp; omega)]
    by_cases e : q = plr f tr
    · rw [if_pos e]; omega
    · rw [if_neg e]
      rw [if_pos (by omega)] at hz
      omega
/-- how many keys at most -/
def kb : Nat → Nat
  | 0 => 0
  | n + 1 => 1 + (n + 4) / 4 * kb n
end DL
set_option Elab.async false
set_option linter.all false
set_option maxRecDepth 100000
set_option maxHeartbeats 4000000
namespace DL
open PySem PySem.Spec PyProof.Rows L2
local macro_rules | `(tactic| walk_at "dl") => `(tactic| simp only [tV, tVr, tFzV, turnD, DL.wipeE, tK, tOpD, tUnD, tBo, tAndD, tOrD, tNotD, tIfE, DL.tAndV, DL.tOrV, DL.tNotV, tTru, truD, okLen, sSet, sSetL, sExpr, sRet, sIf, sNx, tTupD, dNil, dCons, tLstD, tFzD, tApp, tExtd, tPopAt, sSetIx, tIxO, tChainD, tChain3D, tRevT, caStr, opRepT, opAdd, opSub, opMul, opDiv, opMod, opPow, DL.opI, DL.opI0, opB0, opLt, opLe, opGt, opGtD, opLtD, opGe, opEq, opNe, opIs, opIsN, isNone, opIn, opNotIn, opIx, atD_0, atD_1, atD_2, atD_3, putD_0, unNeg, tCa1, tCa2, tCaL1, caLen, caAbs, caMax2, caMin2, caSum, caMax, caMin, caSumT, caMaxT, caMinT, caAll, caTuple, caList, caInt, tIsi, isInt, isBool, isStr, isTuple, isList, notDict, sAsg, gSet, gTupD, gsNil, gsCons, sPar, pNil, pD, pL, setAll, tCallD, aNil, aV, aO, argS, oixs, ndp, putO, tOpL, opCat, opRep, tSlD, slD, tSlL, oNo, oE, tRevD, iLstD, iTupD, iRange1, iRange2, iZipD, iZipM, finO, tTrue, Option.map, eqv_int, eqv_bool, eqv_none, shaped_int, shaped_bool, shaped_none, tLenRange, tSortSet, tLenSet, tLenSetP, tSortSetP, tCountL, tCountT, tIndexL, tIndexT, DL.tOrT, DL.tAndT, DL.tNotT, tSortRev, caSorted, iEnumL, iEnumT, tDGetV, tDGetD, tDGet2V, dictAt, sDPutV, sSetM, mDt, mDk, pM, tInN, tNotInN, tCallM, amM, amV, tListRg, tCall0D, keyB_2, keyB_3, keyB_4, decide_eq_true_eq, and_self, List.cons_append, List.nil_append, List.replicate, List.getElem?_cons_zero, List.getElem?_cons_succ, List.set_cons_zero, List.set_cons_succ, List.length_cons, List.length_nil, true_and, and_true, if_true, if_false, Bool.false_eq_true, List.contains_nil, Bool.not_false, Bool.not_true, Bool.and_self, Bool.and_true, Bool.true_and, decide_true, decide_false, beq_self_eq_true])
def tb_follow : TSd :=
  sSeq (sSet 2 (tCa1 caTuple (tFzD (tComp (iTupD (tV 0)) (gSet 3) (tAndD (tTru (tV 1)) (tBo (tOpD opEq (tOpD opIx (tV 3) (tK (.int 0))) (tOpD opIx (tOpD opIx (tV 1) (tK (.int 0))) (tK (.int 0)))))) (tV 3) [3]))))
      (sRet (tOrT (tV 2) (tV 0)))
def tb_without : TSd :=
  sSeq (sSet 3 (tCa1 caTuple (tFzD (tComp (iTupD (tOpD opIx (tV 0) (tV 1))) (gSet 4) (tBo (tOpD opNe (tV 4) (tV 2))) (tV 4) [4]))))
      (sRet (tOpD opAdd (tOpD opAdd (tSlD (tV 0) (oNo) (oE (tV 1))) (tTupD (dCons (tV 3) (dNil)))) (tSlD (tV 0) (oE (tOpD opAdd (tV 1) (tK (.int 1)))) (oNo))))
def tb_later (sp_follow : SpD) (sp_later : SpD) (sp_winner_of : SpD) (sp_without : SpD) : TSd :=
  sSeq (sSet 5 (tOpD opMod (tOpD opAdd (tV 2) (tCa1 caLen (tV 3))) (tK (.int 4))))
      (sSeq (sIf (tAndD (tBo (tOpD opEq (tOpD opIx (tV 1) (tV 5)) (tTupD (dNil)))) (tBo (tOpD opEq (tV 3) (tTupD (dNil))))) (sRet (tK (.int 0))) (sNx))
      (sSeq (sSet 6 (tTupD (dCons (tV 1) (dCons (tV 2) (dCons (tV 3) (dNil))))))
      (sSeq (sIf (tNotInN (tV 6) 4) (sSeq (sSetL 7 (tLstD (dNil)))
      (sSeq (sFor (iTupD (tCallD sp_follow (aV (tOpD opIx (tV 1) (tV 5)) (aV (tV 3) (aNil))))) (gSet 8) (sSeq (sPar [9, 10] (pD (tCallD sp_without (aV (tV 1) (aV (tV 5) (aV (tV 8) (aNil))))) (pD (tOpD opAdd (tV 3) (tTupD (dCons (tV 8) (dNil)))) (pNil))))
      (sIf (tBo (tOpD opLt (tCa1 caLen (tV 10)) (tK (.int 4)))) (sExpr (tApp 7 (tCallD sp_later (aV (tV 0) (aV (tV 9) (aV (tV 2) (aV (tV 10) (aO 4 (aNil))))))))) (sSeq (sSet 11 (tCallD sp_winner_of (aV (tV 0) (aV (tV 2) (aV (tV 10) (aNil))))))
      (sExpr (tApp 7 (tOpD opAdd (tCa1 caInt (tOpD opEq (tOpD opMod (tV 11) (tK (.int 2))) (tK (.int 0)))) (tCallD sp_later (aV (tV 0) (aV (tV 9) (aV (tV 11) (aV (tTupD (dNil)) (aO 4 (aNil))))))))))))))
      (sDPutV 4 (tV 6) (tIfE (tBo (tOpD opEq (tOpD opMod (tV 5) (tK (.int 2))) (tK (.int 0)))) (tCa1 caMax (tVr 7)) (tCa1 caMin (tVr 7)))))) (sNx))
      (sRet (tDGetV 4 (tV 6))))))
/-! ### follow, without -/
def spFollow : SpD := fun ss Q => ∃ (H tr : List Card), ss = [.d (handD H), .d (handD tr)] ∧ H.length ≤ 1000 ∧ Q (handD (follows H tr)) []
theorem sh_follow : ∀ ss QD, spFollow ss QD → ss.length = 2 ∧ mpos 0 ss = [] := by rintro ss QD ⟨_, _, rfl, _⟩; exact ⟨rfl, rfl⟩
theorem rd_follow : ∀ ss QD, spFollow ss QD → tb_follow { nx := fun E' => finO [] E' (QD .none), rt := fun d E' => finO [] E' (QD d) } (ss ++ List.replicate 2 .un) := by
  rintro ss QD ⟨H, tr, rfl, hHl, q⟩
  unfold tb_follow handD
  refine seq_step fun R hR => ?_
  refine comp_filter (E1 := [.d (.tuple (H.map cE)), .d (.tuple (tr.map cE)), .un, .un]) H cE (fun c => !tr.isEmpty && decide (c.1 = (cAt tr 0).1)) cE (fun Q h => h) (un1 rfl) (small_line (by omega)) (fun c hc R3 hq3 => ?_) ?_
  · cases tr with
    | nil => exact ⟨trivial, hq3 _ rfl⟩
    | cons a l =>
      have hq3 : ∀ E', wipeE E' [3] = wipeE [.d (.tuple (H.map cE)), .d (.tuple ((a :: l).map cE)), .un, .un] [3] → R3 (if decide (c.1 = a.1) = true then some (cE c) else none) E' := hq3
      simp only [List.map_cons]
      have ea : ∀ x : Card, cE x = .tuple [.int x.1, .int x.2] := fun _ => rfl
      rw [ea a, ea c]
      walk_at "dl"
      by_cases g : c.1 = a.1
      · rw [decide_eq_true g] at hq3
        have := hq3 [.d (.tuple (H.map cE)), .d (.tuple ((a :: l).map cE)), .un, .d (cE c)] rfl
        rw [if_pos g]
        exact this
      · rw [decide_eq_false g] at hq3
        have := hq3 [.d (.tuple (H.map cE)), .d (.tuple ((a :: l).map cE)), .un, .d (cE c)] rfl
        rw [if_neg g]
        exact this
  refine hR _ ?_
  walk_at "dl"
  unfold follows at q
  generalize (H.filter fun c => !tr.isEmpty && decide (c.1 = (cAt tr 0).1)) = F at q ⊢
  cases F with
  | nil =>
    rw [if_pos rfl] at q
    exact q
  | cons a l =>
    rw [if_neg (List.cons_ne_nil _ _)] at q
    exact q
def spWithout : SpD := fun ss Q => ∃ (hs : List (List Card)) (p : Nat) (c : Card), ss = [.d (dealT hs), .d (.int (p : Int)), .d (cE c)] ∧ hs.length = 4 ∧ p < 4 ∧ (handAt hs p).length ≤ 1000 ∧ Q (dealT (wo hs p c)) []
theorem sh_without : ∀ ss QD, spWithout ss QD → ss.length = 3 ∧ mpos 0 ss = [] := by rintro ss QD ⟨_, _, _, rfl, _⟩; exact ⟨rfl, rfl⟩
theorem rd_without : ∀ ss QD, spWithout ss QD → tb_without { nx := fun E' => finO [] E' (QD .none), rt := fun d E' => finO [] E' (QD d) } (ss ++ List.replicate 2 .un) := by
  rintro ss QD ⟨hs, p, c, rfl, h4, hp, hl, q⟩
  unfold tb_without dealT
  refine seq_step fun R hR => ?_
  refine comp_filter (E1 := [.d (.tuple (hs.map handD)), .d (.int (p : Int)), .d (cE c), .un, .un]) (handAt hs p) cE (fun d => decide (d ≠ c)) cE (fun Q h => ?_) (un1 rfl) (small_line (by omega)) (fun x hx R3 hq3 => ?_) ?_
  · walk_at "dl"
    refine at_hand (by omega) (by omega) ?_
    rw [Int.toNat_natCast]; exact h
  · walk_at "dl"
    refine ⟨⟨shaped_of (sh_cE 0 x), shaped_of (sh_cE 0 c)⟩, ?_⟩
    rw [eqv_cE]
    by_cases g : x = c
    · rw [decide_eq_true g]
      rw [decide_eq_false (fun z : x ≠ c => z g)] at hq3
      exact ifF rfl (hq3 _ rfl)
    · rw [decide_eq_false g]
      rw [decide_eq_true (show x ≠ c from g)] at hq3
      exact ifT rfl (hq3 _ rfl)
  · refine hR _ ?_
    walk_at "dl"
    have hfl := List.length_filter_le (fun d => decide (d ≠ c)) (handAt hs p)
    rw [cut_to (by omega), cut_from (by omega), Int.toNat_natCast, show ((p : Int) + 1).toNat = p + 1 by omega]
    refine ⟨small_line (by decide), small_line (by rw [List.length_take, List.length_map]; omega), small_line (by rw [List.length_append, List.length_take, List.length_drop, List.length_map]; simp; omega), ?_⟩
    have e : (wo hs p c).map handD = (hs.map handD).take p ++ [PyData.tuple (List.map cE (List.filter (fun d => decide (d ≠ c)) (handAt hs p)))] ++ (hs.map handD).drop (p + 1) := by
      unfold wo
      rw [List.set_eq_take_append_cons_drop, if_pos (by omega), List.map_append, List.map_cons, List.map_take, List.map_drop, List.append_assoc]
      rfl
    rw [← e]
    exact q
/-! ### later -/
def keyS (hs : List (List Card)) (f : Int) (tr : List Card) : D := .tuple [dealT hs, .int f, handD tr]
def nkC (c : Card) : NestedKey := .tup [.num c.1, .num c.2]
def nkH (h : List Card) : NestedKey := .tup (h.map nkC)
theorem nks_map {α : Type} {e : α → D} {k : α → NestedKey} (h : ∀ x, nkOf (e x) = some (k x)) : ∀ l : List α, nksOf (l.map e) = some (l.map k)
  | [] => rfl
  | a :: l => by rw [List.map_cons, nksOf, h a, nks_map h l]; rfl
theorem nk_cE (c : Card) : nkOf (cE c) = some (nkC c) := rfl
theorem nk_handD (h : List Card) : nkOf (handD h) = some (nkH h) := by unfold handD; rw [nkOf, nks_map nk_cE]; rfl
theorem nk_dealT (hs : List (List Card)) : nkOf (dealT hs) = some (.tup (hs.map nkH)) := by unfold dealT; rw [nkOf, nks_map nk_handD]; rfl
theorem nk_keyS (hs : List (List Card)) (f : Int) (tr : List Card) : nksOf [dealT hs, .int f, handD tr] = some [.tup (hs.map nkH), .num f, nkH tr] := by
  rw [nksOf, nk_dealT, nksOf, nkOf, nksOf, nk_handD]; rfl
theorem dep_map {α : Type} {k : α → NestedKey} {n : Nat} (h : ∀ x, (k x).depth ≤ n) : ∀ l : List α, NestedKey.depthAll (l.map k) ≤ n
  | [] => Nat.zero_le _
  | a :: l => by rw [List.map_cons, NestedKey.depthAll]; have := h a; have := dep_map h l; omega
theorem keyB_S (hs : List (List Card)) (f : Int) (tr : List Card) : keyB (keyS hs f tr) = true := by
  unfold keyS keyB
  dsimp only
  rw [nk_keyS]
  have dC : ∀ c, (nkC c).depth ≤ 1 := fun c => Nat.le_refl 1
  have dH : ∀ h, (nkH h).depth ≤ 2 := fun h => by unfold nkH; rw [NestedKey.depth]; have := dep_map dC h; omega
  have d1 := dep_map dH hs
  have d2 := dH tr
  exact decide_eq_true (by simp only [NestedKey.depthAll, NestedKey.depth]; omega)
theorem valN_map_same (k v : D) : ∀ kvs : List (D × D), (valN kvs k).isSome = true → valN (kvs.map fun p => if nkOf p.1 = nkOf k then (p.1, v) else p) k = some v
  | [], h => by simp [valN] at h
  | p :: kvs, h => by
    rw [valN_cons] at h
    rw [List.map_cons, valN_cons]
    by_cases g : nkOf p.1 = nkOf k
    · rw [if_pos g, if_pos g]
    · rw [if_neg g] at h ⊢
      rw [if_neg g]
      exact valN_map_same k v kvs h
theorem valN_map_or (k v k' : D) {d : D} : ∀ kvs : List (D × D), valN (kvs.map fun p => if nkOf p.1 = nkOf k then (p.1, v) else p) k' = some d → (nkOf k = nkOf k' ∧ d = v) ∨ valN kvs k' = some d
  | [], h => by simp [valN] at h
  | p :: kvs, h => by
    rw [List.map_cons, valN_cons] at h
    rw [valN_cons]
    by_cases g : nkOf p.1 = nkOf k
    · rw [if_pos g] at h
      dsimp only at h
      by_cases g2 : nkOf p.1 = nkOf k'
      · rw [if_pos g2] at h
        cases h
        exact .inl ⟨by rw [← g, g2], rfl⟩
      · rw [if_neg g2] at h ⊢
        exact valN_map_or k v k' kvs h
    · rw [if_neg g] at h
      by_cases g2 : nkOf p.1 = nkOf k'
      · rw [if_pos g2] at h ⊢
        exact .inr h
      · rw [if_neg g2] at h ⊢
        exact valN_map_or k v k' kvs h
theorem valN_snoc (k v k' : D) : ∀ kvs : List (D × D), valN (kvs ++ [(k, v)]) k' = match valN kvs k' with | some d => some d | none => if nkOf k = nkOf k' then some v else none
  | [] => by rw [List.nil_append, valN_cons]; rfl
  | p :: kvs => by
    rw [List.cons_append, valN_cons, valN_cons, valN_snoc k v k' kvs]
    by_cases g : nkOf p.1 = nkOf k'
    · rw [if_pos g, if_pos g]
    · rw [if_neg g, if_neg g]
theorem valN_put_same (kvs : List (D × D)) (k v : D) : valN (putN kvs k v) k = some v := by
  unfold putN
  split
  · rename_i h; exact valN_map_same k v kvs h
  · rename_i h
    rw [valN_snoc]
    cases q : valN kvs k with
    | some d => rw [q] at h; exact absurd rfl h
    | none => exact if_pos rfl
theorem valN_put_or {kvs : List (D × D)} {k v k' d : D} (h : valN (putN kvs k v) k' = some d) : (nkOf k = nkOf k' ∧ d = v) ∨ valN kvs k' = some d := by
  unfold putN at h
  split at h
  · exact valN_map_or k v k' kvs h
  · rw [valN_snoc] at h
    cases q : valN kvs k' with
    | some e => rw [q] at h; exact .inr h
    | none =>
      rw [q] at h
      dsimp only at h
      split at h
      · rename_i g; cases h; exact .inl ⟨g, rfl⟩
      · cases h
theorem map_handD_inj : ∀ {a b : List (List Card)}, a.map handD = b.map handD → a = b
  | [], [], _ => rfl
  | [], _ :: _, h => by cases h
  | _ :: _, [], h => by cases h
  | a :: as, b :: bs, h => by
    rw [List.map_cons, List.map_cons] at h
    injection h with h1 h2
    unfold handD at h1
    injection h1 with h1
    rw [map_cE_injP h1, map_handD_inj h2]
theorem keyS_inj {hs hs' : List (List Card)} {f f' : Int} {tr tr' : List Card} (h : nkOf (keyS hs f tr) = nkOf (keyS hs' f' tr')) : hs = hs' ∧ f = f' ∧ tr = tr' := by
  have e1 : nkOf (keyS hs f tr) = some (.tup [.tup (hs.map nkH), .num f, nkH tr]) := by unfold keyS; rw [nkOf, nk_keyS]; rfl
  have e2 := nk_inj e1 (h.symm.trans e1)
  unfold keyS dealT handD at e2
  injection e2 with e2
  injection e2 with a1 a2
  injection a2 with a2 a3
  injection a3 with a3 _
  injection a1 with a1
  injection a2 with a2
  injection a3 with a3
  exact ⟨map_handD_inj a1, a2, map_cE_injP a3⟩
def KOk (st : Int) (kvs : List (D × D)) : Prop := ∀ m hs f tr d, Bal m hs f tr → valN kvs (keyS hs f tr) = some d → d = .int (lat st (4 * m - tr.length) hs f tr)
theorem kok_nil (st : Int) : KOk st [] := fun _ _ _ _ _ _ h => by simp [valN] at h
theorem KOk.put {st : Int} {kvs : List (D × D)} (h : KOk st kvs) {m : Nat} {hs : List (List Card)} {f : Int} {tr : List Card} (b : Bal m hs f tr) : KOk st (putN kvs (keyS hs f tr) (.int (lat st (4 * m - tr.length) hs f tr))) := by
  intro m' hs' f' tr' d b' e
  rcases valN_put_or e with ⟨e1, rfl⟩ | e1
  · obtain ⟨rfl, rfl, rfl⟩ := keyS_inj e1
    have := b.hand; have := b'.hand
    rw [show m' = m by omega]
  · exact h m' hs' f' tr' d b' e1
def spLater (i : Nat) : SpD := fun ss Q => ∃ (st : Int) (hs : List (List Card)) (f : Int) (tr : List Card) (m : Nat) (kvs : List (D × D)), ss = [.d (.int st), .d (dealT hs), .d (.int f), .d (handD tr), .dt kvs] ∧ Bal m hs f tr ∧ m ≤ 13 ∧ 4 * m - tr.length ≤ i ∧ KOk st kvs ∧ kvs.length + kb (4 * m - tr.length) ≤ 1000000 ∧
  ∀ kvs', KOk st kvs' → kvs'.length ≤ kvs.length + kb (4 * m - tr.length) → Q (.int (lat st (4 * m - tr.length) hs f tr)) [.dt kvs']
theorem sh_later (i : Nat) : ∀ ss QD, spLater i ss QD → ss.length = 5 ∧ mpos 0 ss = [4] := by rintro ss QD ⟨_, _, _, _, _, _, rfl, _⟩; exact ⟨rfl, rfl⟩
theorem eqv_hand_nil (h : List Card) : PyData.eqv (handD h) (.tuple []) = decide (h = []) := by
  cases h with
  | nil => decide +kernel
  | cons a l => unfold handD; rw [eqv_tup, decide_eq_false (List.cons_ne_nil _ _)]; rfl
theorem rd_later (n : Nat) (sp : SpD) (hrec : ∀ m, n = m + 1 → sp = spLater m) : ∀ ss QD, spLater n ss QD → tb_later spFollow sp spWin spWithout { nx := fun E' => finO [4] E' (QD .none), rt := fun d E' => finO [4] E' (QD d) } (ss ++ List.replicate 7 .un) := by
  rintro ss QD ⟨st, hs, f, tr, m, kvs, rfl, bal, hm, hn, hk, hl, q⟩
  have p4 := plr_lt f tr
  have ep : (f + (tr.length : Int)) % 4 = (plr f tr : Int) := by unfold plr; omega
  have b4 := bal.four
  have bh := bal.hand
  have b3 := bal.t3
  unfold tb_later dealT
  refine seq_step fun R hR => ?_
  unfold handD
  walk_at "dl"
  rw [List.length_map, ep]
  first
    | refine ⟨by decide, hR _ ?_⟩
    | refine hR _ ?_
  refine seq_step fun R hR => ?_
  have ath : ∀ {Q : D → Prop}, Q (handD (handAt hs (plr f tr))) → atD (hs.map handD) ((plr f tr : Nat) : Int) Q := fun {Q} h => at_hand (by omega) (by omega) (by rw [Int.toNat_natCast]; exact h)
  have bt0 : m = 0 → tr = [] := fun z => by subst z; exact bal.t0
  generalize hH : handAt hs (plr f tr) = H at *
  walk_at "dl"
  refine ath ?_
  have shH : ∀ h : List Card, SeqAt.shaped (handD h) = true := fun h => shaped_of (n := 2) (sh_hand h)
  have shT : SeqAt.shaped (.tuple (tr.map cE)) = true := shH tr
  have shN : SeqAt.shaped (.tuple []) = true := shH []
  refine ⟨small_line (by decide), ⟨shH H, shN⟩, ?_⟩
  rw [eqv_hand_nil]
  have go : ¬ (H = [] ∧ tr = []) → R [.d (.int st), .d (.tuple (hs.map handD)), .d (.int f), .d (.tuple (tr.map cE)), .dt kvs, .d (.int (plr f tr : Int)), .un, .un, .un, .un, .un, .un] := fun hne => by
    refine hR _ ?_
    have m1 : 1 ≤ m := by
      rcases Nat.eq_zero_or_pos m with z | z
      · exact absurd ⟨List.eq_nil_of_length_eq_zero (by omega), bt0 z⟩ hne
      · exact z
    obtain ⟨n', rfl⟩ : ∃ n', n = n' + 1 := ⟨n - 1, by omega⟩
    obtain rfl := hrec n' rfl
    obtain ⟨k, hk0⟩ : ∃ k, 4 * m - tr.length = k + 1 := ⟨4 * m - tr.length - 1, by omega⟩
    refine seq_step fun R hR => ?_
    walk_at "dl"
    refine ⟨small_line (by decide), hR _ ?_⟩
    have ek : PyData.tuple [.tuple (hs.map handD), .int f, .tuple (tr.map cE)] = keyS hs f tr := rfl
    rw [ek]
    refine seq_step fun R hR => ?_
    walk_at "dl"
    refine ⟨keyB_S hs f tr, ?_⟩
    have fin : ∀ (kv : List (D × D)) (a7 a8 a9 a10 a11 : S), KOk st kv → valN kv (keyS hs f tr) = some (.int (lat st (4 * m - tr.length) hs f tr)) → kv.length ≤ kvs.length + kb (4 * m - tr.length) → R [.d (.int st), .d (.tuple (hs.map handD)), .d (.int f), .d (.tuple (tr.map cE)), .dt kv, .d (.int (plr f tr : Int)), .d (keyS hs f tr), a7, a8, a9, a10, a11] := fun kv a7 a8 a9 a10 a11 h1 h2 h3 => by
      refine hR _ ?_
      walk_at "dl"
      refine ⟨keyB_S hs f tr, ?_⟩
      rw [h2]
      exact q kv h1 h3
    cases hv : valN kvs (keyS hs f tr) with
    | some d =>
      have := hk m hs f tr d bal hv
      rw [this] at hv
      exact ifF rfl (fin kvs _ _ _ _ _ hk hv (by omega))
    | none =>
      refine ifT rfl ?_
      have hF0 : follows H tr ≠ [] := follows_ne fun z => by rw [z] at bh; simp at bh; omega
      have hFl := follows_len H tr
      have hFm : ∀ c ∈ follows H tr, c ∈ H := fun c hc => follows_sub hc
      have elat : lat st (k + 1) hs f tr = exL (decide (plr f tr % 2 = 0)) ((follows H tr).map fun c => if tr.length + 1 < 4 then lat st k (wo hs (plr f tr) c) f (tr ++ [c]) else wonBy ((f + (winI st (tr ++ [c]) : Int)) % 4) + lat st k (wo hs (plr f tr) c) ((f + (winI st (tr ++ [c]) : Int)) % 4) []) := by rw [← hH]; rfl
      generalize hval : (fun c => if tr.length + 1 < 4 then lat st k (wo hs (plr f tr) c) f (tr ++ [c]) else wonBy ((f + (winI st (tr ++ [c]) : Int)) % 4) + lat st k (wo hs (plr f tr) c) ((f + (winI st (tr ++ [c]) : Int)) % 4) []) = val at elat
      have hkb : kb (k + 1) = 1 + (k + 4) / 4 * kb k := rfl
      have hmk : (k + 4) / 4 = m := by omega
      rw [hmk] at hkb
      have hstepf : ∀ c ∈ follows H tr, ∀ kv, KOk st kv → kv.length + kb k ≤ 1000000 → True := fun _ _ _ _ _ => trivial
      refine seq_step fun R2 hR2 => ?_
      walk_at "dl"
      refine ⟨small_line (by decide), hR2 _ ?_⟩
      refine seq_step fun R2 hR2 => ?_
      generalize hF : follows H tr = F at *
      refine for_inv (ds := F.map cE) (E1 := [.d (.int st), .d (.tuple (hs.map handD)), .d (.int f), .d (.tuple (tr.map cE)), .dt kvs, .d (.int (plr f tr : Int)), .d (keyS hs f tr), .ol [], .un, .un, .un, .un]) (fun Q h => ?_)
        (fun i E => ∃ kv a8 a9 a10 a11, E = [.d (.int st), .d (.tuple (hs.map handD)), .d (.int f), .d (.tuple (tr.map cE)), .dt kv, .d (.int (plr f tr : Int)), .d (keyS hs f tr), .ol ((F.take i).map fun c => PyData.int (val c)), a8, a9, a10, a11] ∧ KOk st kv ∧ kv.length ≤ kvs.length + i * kb k)
        ⟨_, _, _, _, _, rfl, hk, by omega⟩ (fun i d E hd hE R3 hR3 => ?_) (fun E hE => ?_)
      · walk_at "dl"
        refine ath ?_
        refine ⟨H, tr, rfl, by omega, ?_⟩
        rw [hF]; exact h
      · obtain ⟨kv, a8, a9, a10, a11, rfl, hk2, hl2⟩ := hE
        rw [List.getElem?_map] at hd
        obtain ⟨c, hc, rfl⟩ := Option.map_eq_some_iff.mp hd
        have hcF := List.mem_of_getElem? hc
        have hcH : c ∈ handAt hs (plr f tr) := by rw [hH]; exact hFm c hcF
        have hi : i < F.length := (List.getElem?_eq_some_iff.mp hc).1
        have htk : F.take (i + 1) = F.take i ++ [c] := by rw [List.take_add_one, hc]; rfl
        have hmul : (i + 1) * kb k ≤ m * kb k := Nat.mul_le_mul_right _ (by omega)
        have hi1 : (i + 1) * kb k = i * kb k + kb k := Nat.succ_mul _ _
        have hlen : kv.length + kb k ≤ 1000000 := by rw [hk0] at hl; omega
        refine seq_step fun R4 hR4 => ?_
        walk_at "dl"
        refine ⟨hs, plr f tr, c, rfl, b4, p4, by rw [hH]; omega, ?_⟩
        walk_at "dl"
        refine ⟨small_line (by decide), small_line (by rw [List.length_map]; omega), hR4 _ ?_⟩
        have etr : tr.map cE ++ [cE c] = (tr ++ [c]).map cE := by rw [List.map_append]; rfl
        have ln1 : (tr ++ [c]).length = tr.length + 1 := by rw [List.length_append]; rfl
        have hFl2 : ((F.take i).map fun c => PyData.int (val c)).length < sizeLine := by rw [List.length_map, List.length_take]; exact Nat.lt_of_lt_of_le (show _ < 10000000 by omega) (small_line (by omega))
        have e9 : (F.take (i + 1)).map (fun c => PyData.int (val c)) = (F.take i).map (fun c => PyData.int (val c)) ++ [PyData.int (val c)] := by rw [htk, List.map_append]; rfl
        rw [etr]
        walk_at "dl"
        rw [List.length_map, ln1]
        by_cases ht : tr.length + 1 < 4
        · rw [if_pos (by omega)]
          refine ⟨st, wo hs (plr f tr) c, f, tr ++ [c], m, kv, rfl, bal.step hcH ht, hm, by rw [ln1]; omega, hk2, by rw [ln1, show 4 * m - (tr.length + 1) = k by omega]; exact hlen, fun kv' h1 h2 => ?_⟩
          rw [ln1, show 4 * m - (tr.length + 1) = k by omega] at h2 ⊢
          walk_at "dl"
          refine ⟨hFl2, hR3 _ ⟨kv', .d (cE c), .d (dealT (wo hs (plr f tr) c)), .d (.tuple ((tr ++ [c]).map cE)), a11, ?_, h1, by omega⟩⟩
          have ev : val c = lat st k (wo hs (plr f tr) c) f (tr ++ [c]) := by rw [← hval]; exact if_pos ht
          rw [e9, ← ev]
        · rw [if_neg (by omega)]
          refine seq_step fun R4 hR4 => ?_
          walk_at "dl"
          refine ⟨st, f, tr ++ [c], rfl, by omega, ?_⟩
          walk_at "dl"
          refine hR4 _ ?_
          walk_at "dl"
          have w0 : 0 ≤ (f + (winI st (tr ++ [c]) : Int)) % 4 := Int.emod_nonneg _ (by decide)
          have w4 : (f + (winI st (tr ++ [c]) : Int)) % 4 < 4 := Int.emod_lt_of_pos _ (by decide)
          have ev : val c = wonBy ((f + (winI st (tr ++ [c]) : Int)) % 4) + lat st k (wo hs (plr f tr) c) ((f + (winI st (tr ++ [c]) : Int)) % 4) [] := by rw [← hval]; exact if_neg ht
          have ew : (if (f + (winI st (tr ++ [c]) : Int)) % 4 % 2 = 0 then (1 : Int) else 0) = wonBy ((f + (winI st (tr ++ [c]) : Int)) % 4) := rfl
          rw [ew]
          generalize (f + (winI st (tr ++ [c]) : Int)) % 4 = w at w0 w4 ev ⊢
          refine ⟨by decide, small_line (by decide), st, wo hs (plr f tr) c, w, [], m - 1, kv, rfl, bal.last hcH ht w0 w4, by omega, by simp; omega, hk2, by rw [List.length_nil, show 4 * (m - 1) - 0 = k by omega]; exact hlen, fun kv' h1 h2 => ?_⟩
          rw [List.length_nil, show 4 * (m - 1) - 0 = k by omega] at h2 ⊢
          walk_at "dl"
          refine ⟨hFl2, hR3 _ ⟨kv', .d (cE c), .d (dealT (wo hs (plr f tr) c)), .d (.tuple ((tr ++ [c]).map cE)), .d (.int w), ?_, h1, by omega⟩⟩
          rw [e9, ← ev]
      · obtain ⟨kv, a8, a9, a10, a11, rfl, hk2, hl2⟩ := hE
        rw [List.length_map] at hl2
        rw [List.length_map, List.take_of_length_le (Nat.le_refl _)]
        refine hR2 _ ?_
        walk_at "dl"
        have hFp : 0 < F.length := List.length_pos_iff.mpr hF0
        have hle : F.length * kb k ≤ m * kb k := Nat.mul_le_mul_right _ (by omega)
        have hmn : ∀ v : Int, v = lat st (4 * m - tr.length) hs f tr → keyB (keyS hs f tr) = true ∧ kv.length < sizeLine ∧ R [.d (.int st), .d (.tuple (hs.map handD)), .d (.int f), .d (.tuple (tr.map cE)), .dt (putN kv (keyS hs f tr) (.int v)), .d (.int (plr f tr : Int)), .d (keyS hs f tr), .ol (F.map fun c => PyData.int (val c)), a8, a9, a10, a11] := fun v hv => by
          subst hv
          refine ⟨keyB_S hs f tr, Nat.lt_of_lt_of_le (show _ < 10000000 by rw [hk0] at hl; omega) (small_line (by omega)), fin _ _ _ _ _ _ (hk2.put bal) (valN_put_same _ _ _) ?_⟩
          have := putN_len kv (keyS hs f tr) (.int (lat st (4 * m - tr.length) hs f tr))
          rw [hk0] at this ⊢
          omega
        have eF : F.map (fun c => PyData.int (val c)) = (F.map val).map PyData.int := by rw [List.map_map]; rfl
        rw [← hk0] at elat
        refine ⟨by decide, ?_⟩
        by_cases hpe : plr f tr % 2 = 0
        · rw [if_pos (by omega)]
          refine ⟨F.map val, eF, by rw [List.length_map]; exact hFp, fun v hv hmx => hmn v ?_⟩
          rw [elat, decide_eq_true hpe]
          exact exL_uniq hv fun y hy => hmx y hy
        · rw [if_neg (by omega)]
          refine ⟨F.map val, eF, by rw [List.length_map]; exact hFp, fun v hv hmx => hmn v ?_⟩
          rw [elat, decide_eq_false hpe]
          exact exL_uniq hv fun y hy => hmx y hy
  by_cases hH0 : H = []
  · rw [decide_eq_true hH0]
    refine ifT rfl ?_
    refine ⟨small_line (by decide), ⟨shT, shN⟩, ?_⟩
    rw [show PyData.eqv (.tuple (tr.map cE)) (.tuple []) = decide (tr = []) from eqv_hand_nil tr]
    by_cases ht0 : tr = []
    · rw [decide_eq_true ht0]
      refine ifT rfl ?_
      have m0 : m = 0 := by rw [hH0] at bh; exact bh.symm
      have := q kvs hk (by omega)
      rw [show 4 * m - tr.length = 0 by omega] at this
      exact this
    · rw [decide_eq_false ht0]
      exact ifF rfl (go fun z => ht0 z.2)
  · rw [decide_eq_false hH0]
    exact ifF rfl (go fun z => hH0 z.1)
end DL
set_option Elab.async false
set_option linter.all false
set_option maxRecDepth 100000
set_option maxHeartbeats 4000000
/-! FnBest2T: the best behind cards -/
namespace DL
open PySem PySem.Spec PyProof.Rows L2
def bestV (R : Nat) (hs : List (List Card)) (st ld : Int) (cs : List Card) : Int := (walkP st ld cs).w0 + lat st (4 * R - cs.length) (leftF hs cs) (walkP st ld cs).ld (walkP st ld cs).tr
theorem left_count {cs : List Card} (ncs : cs.Nodup) : ∀ {h : List Card}, h.Nodup → (h.filter fun c => decide (c ∉ cs)).length + (cs.filter fun c => decide (c ∈ h)).length = h.length := by
  intro h nh
  have p : (cs.filter fun c => decide (c ∈ h)).Perm (h.filter fun c => decide (c ∈ cs)) := by
    refine (List.perm_ext_iff_of_nodup (ncs.filter _) (nh.filter _)).mpr fun x => ?_
    rw [List.mem_filter, List.mem_filter]
    constructor
    · rintro ⟨a, b⟩; exact ⟨of_decide_eq_true b, decide_eq_true a⟩
    · rintro ⟨a, b⟩; exact ⟨of_decide_eq_true b, decide_eq_true a⟩
  rw [p.length_eq]
  induction h with
  | nil => rfl
  | cons a l ih =>
    have nl := (List.nodup_cons.mp nh).2
    have ih := ih nl ((List.perm_ext_iff_of_nodup (ncs.filter _) (nl.filter _)).mpr fun x => by
      rw [List.mem_filter, List.mem_filter]
      constructor
      · rintro ⟨a, b⟩; exact ⟨of_decide_eq_true b, decide_eq_true a⟩
      · rintro ⟨a, b⟩; exact ⟨of_decide_eq_true b, decide_eq_true a⟩)
    by_cases g : a ∈ cs
    · rw [List.filter_cons_of_neg (by simp [g]), List.filter_cons_of_pos (by simp [g]), List.length_cons, List.length_cons]; omega
    · rw [List.filter_cons_of_pos (by simp [g]), List.filter_cons_of_neg (by simp [g]), List.length_cons, List.length_cons]; omega
section
variable {R : Nat} {hs : List (List Card)} {st ld : Int} {cs : List Card}
theorem PReach.bal (hd : DealOk R hs) (ap : Apart hs) (h0 : 0 ≤ ld) (h1 : ld < 4) (h : PReach R hs st ld cs) : Bal (R - cs.length / 4) (leftF hs cs) (walkP st ld cs).ld (walkP st ld cs).tr := by
  have lb := ld_bd (st := st) h0 h1 cs
  have tl := tr_len st ld cs
  have hat : ∀ p, handAt (leftF hs cs) p = (handAt hs p).filter fun c => decide (c ∉ cs) := fun p => by
    by_cases hp : p < hs.length
    · exact left_at hp
    · unfold handAt leftF
      rw [List.getD_eq_getElem?_getD, List.getElem?_eq_none (by rw [List.length_map]; omega), List.getD_eq_getElem?_getD, List.getElem?_eq_none (by omega)]; rfl
  refine ⟨by unfold leftF; rw [List.length_map]; exact hd.four, lb.1, lb.2, by omega, fun p => ?_, fun p hp => ?_⟩
  · rw [hat]; exact (ap.nd p).filter _
  · rw [hat]
    have hc := h.count ap h0 h1 p hp
    have hl := left_count h.nodup (ap.nd p)
    have hR := hd.at hp
    have e1 : nIn hs p cs = (cs.filter fun c => decide (c ∈ handAt hs p)).length := rfl
    rw [← e1] at hl
    rw [← tl] at hc
    split at hc
    · rename_i g; rw [if_pos g]; omega
    · rename_i g; rw [if_neg g]; omega
end
def bestC (R : Nat) (hs : List (List Card)) (st ld : Int) (cs : List Card) : List Card := if cs.length = 4 * R then [] else (mayF hs st ld cs).filter fun c => decide (bestV R hs st ld (cs ++ [c]) = bestV R hs st ld cs)
end DL
set_option Elab.async false
set_option linter.all false
set_option maxRecDepth 100000
set_option maxHeartbeats 4000000
namespace DL
open PySem PySem.Spec PyProof.Rows L2
local macro_rules | `(tactic| walk_at "dl") => `(tactic| simp only [tV, tVr, tFzV, turnD, DL.wipeE, tK, tOpD, tUnD, tBo, tAndD, tOrD, tNotD, tIfE, DL.tAndV, DL.tOrV, DL.tNotV, tTru, truD, okLen, sSet, sSetL, sExpr, sRet, sIf, sNx, tTupD, dNil, dCons, tLstD, tFzD, tApp, tExtd, tPopAt, sSetIx, tIxO, tChainD, tChain3D, tRevT, caStr, opRepT, opAdd, opSub, opMul, opDiv, opMod, opPow, DL.opI, DL.opI0, opB0, opLt, opLe, opGt, opGtD, opLtD, opGe, opEq, opNe, opIs, opIsN, isNone, opIn, opNotIn, opIx, atD_0, atD_1, atD_2, atD_3, putD_0, unNeg, tCa1, tCa2, tCaL1, caLen, caAbs, caMax2, caMin2, caSum, caMax, caMin, caSumT, caMaxT, caMinT, caAll, caTuple, caList, caInt, tIsi, isInt, isBool, isStr, isTuple, isList, notDict, sAsg, gSet, gTupD, gsNil, gsCons, sPar, pNil, pD, pL, setAll, tCallD, aNil, aV, aO, argS, oixs, ndp, putO, tOpL, opCat, opRep, tSlD, slD, tSlL, oNo, oE, tRevD, iLstD, iTupD, iRange1, iRange2, iZipD, iZipM, finO, tTrue, Option.map, eqv_int, eqv_bool, eqv_none, shaped_int, shaped_bool, shaped_none, tLenRange, tSortSet, tLenSet, tLenSetP, tSortSetP, tCountL, tCountT, tIndexL, tIndexT, DL.tOrT, DL.tAndT, DL.tNotT, tSortRev, caSorted, iEnumL, iEnumT, tDGetV, tDGetD, tDGet2V, dictAt, sDPutV, sSetM, mDt, mDk, pM, tInN, tNotInN, tCallM, amM, amV, tListRg, tCall0D, keyB_2, keyB_3, keyB_4, decide_eq_true_eq, and_self, List.cons_append, List.nil_append, List.replicate, List.getElem?_cons_zero, List.getElem?_cons_succ, List.set_cons_zero, List.set_cons_succ, List.length_cons, List.length_nil, true_and, and_true, if_true, if_false, Bool.false_eq_true, List.contains_nil, Bool.not_false, Bool.not_true, Bool.and_self, Bool.and_true, Bool.true_and, decide_true, decide_false, beq_self_eq_true])
def tb_in_all (sp_left_of : SpD) (sp_later : SpD) (sp_walked : SpD) : TSd :=
  sSeq (sAsg (tCallD sp_walked (aV (tV 1) (aV (tV 2) (aV (tV 3) (aNil))))) (gTupD 3 (gsCons (gSet 5) (gsCons (gSet 6) (gsCons (gSet 7) (gsNil))))))
      (sRet (tOpD opAdd (tOpD opIx (tV 7) (tK (.int 0))) (tCallD sp_later (aV (tV 1) (aV (tCallD sp_left_of (aV (tV 0) (aV (tV 3) (aNil)))) (aV (tV 5) (aV (tV 6) (aO 4 (aNil)))))))))
def tb_best_tricks (sp_in_all : SpD) : TSd :=
  sRet (tCallM sp_in_all (amV (tV 0) (amV (tV 1) (amV (tV 2) (amV (tV 3) (amM (mDt)))))))
def tb_best_cards (sp_in_all : SpD) (sp_may_play : SpD) (sp_turn_of : SpD) : TSd :=
  sSeq (sIf (tBo (tOpD opIs (tCallD sp_turn_of (aV (tV 0) (aV (tV 1) (aV (tV 2) (aV (tV 3) (aNil)))))) (tK .none))) (sRet (tTupD (dNil))) (sNx))
      (sSeq (sSetM 4 (mDt))
      (sSeq (sSet 5 (tCallD sp_in_all (aV (tV 0) (aV (tV 1) (aV (tV 2) (aV (tV 3) (aO 4 (aNil))))))))
      (sSeq (sSet 6 (tCallD sp_may_play (aV (tV 0) (aV (tV 1) (aV (tV 2) (aV (tV 3) (aNil)))))))
      (sRet (tCa1 caTuple (tFzD (tComp (iTupD (tV 6)) (gSet 7) (tBo (tOpD opEq (tCallD sp_in_all (aV (tV 0) (aV (tV 1) (aV (tV 2) (aV (tOpD opAdd (tV 3) (tTupD (dCons (tV 7) (dNil)))) (aO 4 (aNil))))))) (tV 5))) (tV 7) [7])))))))
def spInAll : SpD := fun ss Q => ∃ (R : Nat) (hs : List (List Card)) (st ld : Int) (cs : List Card) (kvs : List (D × D)), ss = [.d (dealT hs), .d (.int st), .d (.int ld), .d (handD cs), .dt kvs] ∧ DealOk R hs ∧ Apart hs ∧ (0 ≤ ld ∧ ld < 4) ∧ PReach R hs st ld cs ∧ 4 * R - cs.length ≤ 12 ∧ KOk st kvs ∧ kvs.length ≤ 900000 ∧
  ∀ kvs', KOk st kvs' → kvs'.length ≤ kvs.length + 8000 → Q (.int (bestV R hs st ld cs)) [.dt kvs']
theorem sh_in_all : ∀ ss QD, spInAll ss QD → ss.length = 5 ∧ mpos 0 ss = [4] := by rintro ss QD ⟨_, _, _, _, _, _, rfl, _⟩; exact ⟨rfl, rfl⟩
theorem kb_le : ∀ {n : Nat}, n ≤ 12 → kb n ≤ 8000 := by
  have : ∀ n ∈ List.range 13, kb n ≤ 8000 := by decide
  exact fun {n} h => this n (List.mem_range.mpr (by omega))
theorem rd_in_all : ∀ ss QD, spInAll ss QD → tb_in_all spLeft (spLater 12) spWalked { nx := fun E' => finO [4] E' (QD .none), rt := fun d E' => finO [4] E' (QD d) } (ss ++ List.replicate 3 .un) := by
  rintro ss QD ⟨R, hs, st, ld, cs, kvs, rfl, hd, ap, ⟨h0, h1⟩, hr, hn, hk, hl, q⟩
  have hhi := hd.hi
  have hlen := hr.len
  have h4 := hd.four
  have tl := tr_len st ld cs
  have bal := hr.bal hd ap h0 h1
  have en : 4 * (R - cs.length / 4) - (walkP st ld cs).tr.length = 4 * R - cs.length := by omega
  have hkb := kb_le hn
  unfold tb_in_all
  refine seq_step fun R2 hR2 => ?_
  walk_at "dl"
  refine ⟨st, ld, cs, rfl, by omega, ?_⟩
  unfold standD
  walk_at "dl"
  refine hR2 _ ?_
  walk_at "dl"
  refine ⟨hs, cs, rfl, by omega, fun h hh => by have := hd.each h hh; omega, ?_⟩
  walk_at "dl"
  refine ⟨st, leftF hs cs, _, _, _, kvs, rfl, bal, by omega, by omega, hk, by rw [en]; omega, fun kvs' k1 k2 => ?_⟩
  rw [en] at k2 ⊢
  walk_at "dl"
  exact q kvs' k1 (by omega)
def spBestT : SpD := fun ss Q => ∃ (R : Nat) (hs : List (List Card)) (st ld : Int) (cs : List Card), ss = [.d (dealT hs), .d (.int st), .d (.int ld), .d (handD cs)] ∧ DealOk R hs ∧ Apart hs ∧ (0 ≤ ld ∧ ld < 4) ∧ PReach R hs st ld cs ∧ 4 * R - cs.length ≤ 12 ∧ Q (.int (bestV R hs st ld cs)) []
theorem sh_best_tricks : ∀ ss QD, spBestT ss QD → ss.length = 4 ∧ mpos 0 ss = [] := by rintro ss QD ⟨_, _, _, _, _, rfl, _⟩; exact ⟨rfl, rfl⟩
theorem rd_best_tricks : ∀ ss QD, spBestT ss QD → tb_best_tricks spInAll { nx := fun E' => finO [] E' (QD .none), rt := fun d E' => finO [] E' (QD d) } (ss ++ List.replicate 0 .un) := by
  rintro ss QD ⟨R, hs, st, ld, cs, rfl, hd, ap, hb, hr, hn, q⟩
  unfold tb_best_tricks
  walk_at "dl"
  refine ⟨rfl, R, hs, st, ld, cs, [], rfl, hd, ap, hb, hr, hn, kok_nil st, by simp, fun kvs' k1 k2 => ?_⟩
  walk_at "dl"
  exact q
def spBestC : SpD := fun ss Q => ∃ (R : Nat) (hs : List (List Card)) (st ld : Int) (cs : List Card), ss = [.d (dealT hs), .d (.int st), .d (.int ld), .d (handD cs)] ∧ DealOk R hs ∧ Apart hs ∧ (0 ≤ ld ∧ ld < 4) ∧ PReach R hs st ld cs ∧ 4 * R - cs.length ≤ 12 ∧ Q (handD (bestC R hs st ld cs)) []
theorem sh_best_cards : ∀ ss QD, spBestC ss QD → ss.length = 4 ∧ mpos 0 ss = [] := by rintro ss QD ⟨_, _, _, _, _, rfl, _⟩; exact ⟨rfl, rfl⟩
theorem mayF_len {R : Nat} {hs : List (List Card)} {st ld : Int} {cs : List Card} (hd : DealOk R hs) : (mayF hs st ld cs).length ≤ 13 := by
  have tb := turnP_bd st ld cs
  have h1 := hd.at (p := (turnP st ld cs).toNat) (by omega)
  have h2 := follows_len ((handAt hs (turnP st ld cs).toNat).filter fun c => decide (c ∉ cs)) (walkP st ld cs).tr
  have h3 := List.length_filter_le (fun c => decide (c ∉ cs)) (handAt hs (turnP st ld cs).toNat)
  have := hd.hi
  unfold mayF
  omega
theorem rd_best_cards : ∀ ss QD, spBestC ss QD → tb_best_cards spInAll spMayP spTurn { nx := fun E' => finO [] E' (QD .none), rt := fun d E' => finO [] E' (QD d) } (ss ++ List.replicate 4 .un) := by
  rintro ss QD ⟨R, hs, st, ld, cs, rfl, hd, ap, hb, hr, hn, q⟩
  have hd' := hd
  have hhi := hd.hi
  have hlen := hr.len
  have hml := mayF_len (st := st) (ld := ld) (cs := cs) hd
  unfold tb_best_cards
  refine seq_step fun R2 hR2 => ?_
  walk_at "dl"
  refine ⟨R, hs, st, ld, cs, rfl, hd, by omega, ?_⟩
  unfold turnN
  unfold bestC at q
  by_cases g : cs.length = 4 * R
  · rw [if_pos g] at q ⊢
    exact ifT rfl ⟨small_line (by decide), q⟩
  · rw [if_neg g] at q ⊢
    refine hR2 _ ?_
    refine seq_step fun R2 hR2 => ?_
    walk_at "dl"
    refine hR2 _ ?_
    refine seq_step fun R2 hR2 => ?_
    walk_at "dl"
    refine ⟨R, hs, st, ld, cs, [], rfl, hd, ap, hb, hr, hn, kok_nil st, by simp, fun kvs' k1 k2 => ?_⟩
    walk_at "dl"
    refine hR2 _ ?_
    refine seq_step fun R2 hR2 => ?_
    walk_at "dl"
    refine ⟨R, hs, st, ld, cs, rfl, hd, by omega, ?_⟩
    rw [if_neg g]
    walk_at "dl"
    refine hR2 _ ?_
    walk_at "dl"
    generalize hF : mayF hs st ld cs = F at *
    refine comp_inv (E1 := [.d (dealT hs), .d (.int st), .d (.int ld), .d (handD cs), .dt kvs', .d (.int (bestV R hs st ld cs)), .d (handD F), .un]) (F.map cE)
      (fun i acc E => ∃ kv a7, E = [.d (dealT hs), .d (.int st), .d (.int ld), .d (handD cs), .dt kv, .d (.int (bestV R hs st ld cs)), .d (handD F), a7] ∧ (a7 = .un ∨ ∃ x, a7 = .d x) ∧ KOk st kv ∧ kv.length ≤ (i + 1) * 8000 ∧ acc = ((F.take i).filter fun c => decide (bestV R hs st ld (cs ++ [c]) = bestV R hs st ld cs)).map cE)
      (fun Q h => h) (by rw [List.length_map]; exact small_line (by omega)) ⟨kvs', .un, rfl, .inl rfl, k1, by simp at k2 ⊢; omega, rfl⟩ (fun i d acc E hd hE R3 h1 h2 => ?_) (fun acc E hE => ?_)
    · obtain ⟨kv, a7, rfl, ha, hk, hkl, rfl⟩ := hE
      rw [List.getElem?_map] at hd
      obtain ⟨c, hc, rfl⟩ := Option.map_eq_some_iff.mp hd
      have hcF := List.mem_of_getElem? hc
      have hi : i < F.length := (List.getElem?_eq_some_iff.mp hc).1
      have htk : F.take (i + 1) = F.take i ++ [c] := by rw [List.take_add_one, hc]; rfl
      have hr2 : PReach R hs st ld (cs ++ [c]) := .snoc hr (by omega) (by rw [hF]; exact hcF)
      have etr : cs.map cE ++ [cE c] = (cs ++ [c]).map cE := by rw [List.map_append]; rfl
      unfold handD
      walk_at "dl"
      refine ⟨small_line (by decide), small_line (by rw [List.length_map]; omega), ?_⟩
      rw [etr]
      refine ⟨R, hs, st, ld, cs ++ [c], kv, rfl, hd', ap, hb, hr2, by rw [List.length_append, List.length_singleton]; omega, hk, by omega, fun kv' g1 g2 => ?_⟩
      walk_at "dl"
      by_cases e : bestV R hs st ld (cs ++ [c]) = bestV R hs st ld cs
      · rw [if_pos e]
        refine h2 _ _ ⟨kv', _, rfl, .inr ⟨_, rfl⟩, g1, by omega, ?_⟩
        rw [htk, List.filter_append, List.filter_cons_of_pos (by exact decide_eq_true e), List.filter_nil, List.map_append]; rfl
      · rw [if_neg e]
        refine h1 _ ⟨kv', _, rfl, .inr ⟨_, rfl⟩, g1, by omega, ?_⟩
        rw [htk, List.filter_append, List.filter_cons_of_neg (by rw [decide_eq_false e]; exact Bool.false_ne_true), List.filter_nil, List.append_nil]
    · obtain ⟨kv, a7, rfl, ha, hk, hkl, rfl⟩ := hE
      rw [List.length_map, List.take_of_length_le (Nat.le_refl _)]
      exact q
end DL
set_option Elab.async false
set_option linter.all false
set_option maxRecDepth 100000
set_option maxHeartbeats 4000000
namespace DL
open PySem PySem.Spec PyProof.Rows L2
local macro_rules | `(tactic| walk_at "dl") => `(tactic| simp only [tV, tVr, tFzV, turnD, DL.wipeE, tK, tOpD, tUnD, tBo, tAndD, tOrD, tNotD, tIfE, DL.tAndV, DL.tOrV, DL.tNotV, tTru, truD, okLen, sSet, sSetL, sExpr, sRet, sIf, sNx, tTupD, dNil, dCons, tLstD, tFzD, tApp, tExtd, tPopAt, sSetIx, tIxO, tChainD, tChain3D, tRevT, caStr, opRepT, opAdd, opSub, opMul, opDiv, opMod, opPow, DL.opI, DL.opI0, opB0, opLt, opLe, opGt, opGtD, opLtD, opGe, opEq, opNe, opIs, opIsN, isNone, opIn, opNotIn, opIx, atD_0, atD_1, atD_2, atD_3, putD_0, unNeg, tCa1, tCa2, tCaL1, caLen, caAbs, caMax2, caMin2, caSum, caMax, caMin, caSumT, caMaxT, caMinT, caAll, caTuple, caList, caInt, tIsi, isInt, isBool, isStr, isTuple, isList, notDict, sAsg, gSet, gTupD, gsNil, gsCons, sPar, pNil, pD, pL, setAll, tCallD, aNil, aV, aO, argS, oixs, ndp, putO, tOpL, opCat, opRep, tSlD, slD, tSlL, oNo, oE, tRevD, iLstD, iTupD, iRange1, iRange2, iZipD, iZipM, finO, tTrue, Option.map, eqv_int, eqv_bool, eqv_none, shaped_int, shaped_bool, shaped_none, tLenRange, tSortSet, tLenSet, tLenSetP, tSortSetP, tCountL, tCountT, tIndexL, tIndexT, DL.tOrT, DL.tAndT, DL.tNotT, tSortRev, caSorted, iEnumL, iEnumT, tDGetV, tDGetD, tDGet2V, dictAt, sDPutV, sSetM, mDt, mDk, pM, tInN, tNotInN, tCallM, amM, amV, tListRg, tCall0D, keyB_2, keyB_3, keyB_4, decide_eq_true_eq, and_self, List.cons_append, List.nil_append, List.replicate, List.getElem?_cons_zero, List.getElem?_cons_succ, List.set_cons_zero, List.set_cons_succ, List.length_cons, List.length_nil, true_and, and_true, if_true, if_false, Bool.false_eq_true, List.contains_nil, Bool.not_false, Bool.not_true, Bool.and_self, Bool.and_true, Bool.true_and, decide_true, decide_false, beq_self_eq_true])
def spDrawnQ : SpD := fun ss Q => ∃ (ns : List Int) (t : List D) (R : Nat) (hs : List (List Card)) (st ld : Int) (M b : Nat), ss = [.d (.list (ns.map PyData.int)), .ol t, .d (dealT hs), .d (.int st), .d (.int ld), .d (.int M)] ∧ DealOk R hs ∧ Apart hs ∧ (0 ≤ ld ∧ ld < 4) ∧ M ≤ 1000 ∧ ns.length ≤ 63 ∧ TownOk t b ∧ b ≤ 9000000 ∧
  ∀ cs t', PReach R hs st ld cs → cs.length = min M (4 * R) → TownOk t' (b + 200) → Q (handD cs) [.ol t']
theorem sh_law_drawn_q : ∀ ss QD, spDrawnQ ss QD → ss.length = 6 ∧ mpos 0 ss = [1] := by rintro ss QD ⟨_, _, _, _, _, _, _, _, rfl, _⟩; exact ⟨rfl, rfl⟩
theorem rd_law_drawn_q : ∀ ss QD, spDrawnQ ss QD → tb_law_drawn_cards spLMayP spPick { nx := fun E' => finO [1] E' (QD .none), rt := fun d E' => finO [1] E' (QD d) } (ss ++ List.replicate 2 .un) := by
  rintro ss QD ⟨ns, t, R0, hs, st, ld, M, b, rfl, hd, ap, ⟨l0, l1⟩, hM, hn, ht, hb, q⟩
  have h4 := hd.four
  have hhi := hd.hi
  have ha0 := hd.at (p := 0) (by decide)
  unfold tb_law_drawn_cards
  refine seq_step fun R hR => ?_
  walk_at "dl"
  refine ⟨small_line (by decide), hR _ ?_⟩
  refine seq_step fun R hR => ?_
  refine for_inv (ds := rangeD 0 (min M (4 * R0))) (E1 := [.d (.list (ns.map PyData.int)), .ol t, .d (dealT hs), .d (.int st), .d (.int ld), .d (.int M), .d (.tuple []), .un]) (fun Q h => ?_)
    (fun i E => ∃ t cs a7, E = [.d (.list (ns.map PyData.int)), .ol t, .d (dealT hs), .d (.int st), .d (.int ld), .d (.int M), .d (handD cs), a7] ∧ PReach R0 hs st ld cs ∧ cs.length = i ∧ TownOk t (b + 2 * i)) ⟨t, [], _, rfl, .nil, rfl, ht⟩ (fun i d E hd2 hE R2 hR2 => ?_) (fun E hE => ?_)
  · unfold dealT
    walk_at "dl"
    refine at_hand (by decide) (by rw [h4]; decide) ?_
    unfold handD
    walk_at "dl"
    rw [List.length_map, show Int.toNat 0 = 0 from rfl, ha0]
    refine ⟨cmul_small (by decide) (by omega), ⟨by split <;> omega, by split <;> omega⟩, ?_⟩
    rw [show (if 4 * (R0 : Int) < (M : Int) then 4 * (R0 : Int) else (M : Int)).toNat = min M (4 * R0) by split <;> omega]
    exact h
  · obtain ⟨t, cs, a7, rfl, hr, hcl, ht⟩ := hE
    have hi : i < min M (4 * R0) := by have := (List.getElem?_eq_some_iff.mp hd2).1; rwa [rangeD_length] at this
    walk_at "dl"
    refine ⟨R0, hs, st, ld, cs, rfl, hd, by omega, hr.nodup, ?_⟩
    walk_at "dl"
    refine ⟨ns, t, _, (mayF hs st ld cs).map cE, _, rfl, .inr rfl, fun e => may_some hd ap l0 l1 hr (by omega) (by simpa using e), hn, ht, by omega, fun x t' hx ht' => ?_⟩
    obtain ⟨c, hc, rfl⟩ := List.mem_map.mp hx
    unfold handD
    walk_at "dl"
    refine ⟨small_line (by decide), small_line (by rw [List.length_map]; omega), hR2 _ ⟨t', cs ++ [c], .d d, ?_, .snoc hr (by omega) hc, by rw [List.length_append, List.length_cons, List.length_nil]; omega, ht'.mono (by omega)⟩⟩
    unfold handD
    rw [List.map_append]
    rfl
  · obtain ⟨t, cs, a7, rfl, hr, hcl, ht⟩ := hE
    rw [rangeD_length] at ht hcl
    refine hR _ ?_
    walk_at "dl"
    exact q cs t hr hcl (ht.mono (by omega))
theorem apart_of {h0 h1 h2 h3 : List Card} (nd : (h0 ++ h1 ++ h2 ++ h3).Nodup) : Apart [h0, h1, h2, h3] := by
  obtain ⟨n012, n3, d3⟩ := List.nodup_append.mp nd
  obtain ⟨n01, n2, d2⟩ := List.nodup_append.mp n012
  obtain ⟨n0, n1, d1⟩ := List.nodup_append.mp n01
  have out : ∀ p c, c ∈ handAt [h0, h1, h2, h3] p → p < 4 := fun p c hc => by
    rcases Nat.lt_or_ge p 4 with h | h
    · exact h
    · unfold handAt at hc
      rw [List.getD_eq_getElem?_getD, List.getElem?_eq_none (by simpa using h)] at hc
      cases hc
  have key : ∀ (i j : Nat) (c : Card), i < j → c ∈ handAt [h0, h1, h2, h3] i → c ∈ handAt [h0, h1, h2, h3] j → False := fun i j c hij hi hj => by
    have h4 := out j c hj
    have : (i = 0 ∧ j = 1) ∨ (i = 0 ∧ j = 2) ∨ (i = 0 ∧ j = 3) ∨ (i = 1 ∧ j = 2) ∨ (i = 1 ∧ j = 3) ∨ (i = 2 ∧ j = 3) := by omega
    rcases this with ⟨rfl, rfl⟩ | ⟨rfl, rfl⟩ | ⟨rfl, rfl⟩ | ⟨rfl, rfl⟩ | ⟨rfl, rfl⟩ | ⟨rfl, rfl⟩
    · exact d1 c hi c hj rfl
    · exact d2 c (List.mem_append_left _ hi) c hj rfl
    · exact d3 c (List.mem_append_left _ (List.mem_append_left _ hi)) c hj rfl
    · exact d2 c (List.mem_append_right _ hi) c hj rfl
    · exact d3 c (List.mem_append_left _ (List.mem_append_right _ hi)) c hj rfl
    · exact d3 c (List.mem_append_right _ hi) c hj rfl
  refine ⟨fun p q c hp hq => ?_, fun p => ?_⟩
  · rcases Nat.lt_trichotomy p q with h | h | h
    · exact (key p q c h hp hq).elim
    · exact h
    · exact (key q p c h hq hp).elim
  · rcases Nat.lt_or_ge p 4 with h | h
    · have : p = 0 ∨ p = 1 ∨ p = 2 ∨ p = 3 := by omega
      rcases this with rfl | rfl | rfl | rfl
      · exact n0
      · exact n1
      · exact n2
      · exact n3
    · unfold handAt
      rw [List.getD_eq_getElem?_getD, List.getElem?_eq_none (by simpa using h)]
      exact List.nodup_nil
theorem deal_ok {R : Nat} {h0 h1 h2 h3 : List Card} (h : Deal R h0 h1 h2 h3) (l : 1 ≤ R) (u : R ≤ 13) : DealOk R [h0, h1, h2, h3] :=
  ⟨rfl, fun h' hm => by
    simp only [List.mem_cons, List.not_mem_nil, or_false] at hm
    rcases hm with rfl | rfl | rfl | rfl
    · exact h.l0
    · exact h.l1
    · exact h.l2
    · exact h.l3, l, u⟩
theorem all_ndQ : ∀ z ∈ ([1, 2, 3, 4, 5, 6, 13] : List Nat), (allC z).Nodup := by decide +kernel
end DL
set_option Elab.async false
set_option linter.all false
set_option maxRecDepth 100000
set_option maxHeartbeats 4000000
/-! FnIsoT: the best does not change when suits are renamed, players turned, cards next to one another exchanged -/
namespace DL
open PySem PySem.Spec PyProof.Rows L2
structure Good (C : Card → Prop) (own : Card → Nat) (φ : Card → Card) (st st' : Int) : Prop where
  inj : ∀ a b, C a → C b → φ a = φ b → a = b
  suit : ∀ a b, C a → C b → (a.1 = b.1 ↔ (φ a).1 = (φ b).1)
  trump : ∀ a, C a → (a.1 = st ↔ (φ a).1 = st')
  ord : ∀ a b, C a → C b → own a ≠ own b → a.1 = b.1 → (a.2 < b.2 ↔ (φ a).2 < (φ b).2)
structure IsoS (C : Card → Prop) (own : Card → Nat) (φ : Card → Card) (τ : Nat) (hs : List (List Card)) (f : Int) (tr : List Card) (hs' : List (List Card)) (f' : Int) (tr' : List Card) : Prop where
  four : hs.length = 4
  four' : hs'.length = 4
  ef : f' = (f + (τ : Int)) % 4
  etr : tr' = tr.map φ
  hand : ∀ p, p < 4 → (handAt hs' ((p + τ) % 4)).Perm ((handAt hs p).map φ)
  ow : ∀ p, p < 4 → ∀ c ∈ handAt hs p, C c ∧ own c = p
  trk : ∀ j, j < tr.length → C (cAt tr j) ∧ (own (cAt tr j) : Int) = (f + (j : Int)) % 4
theorem cAt_map (φ : Card → Card) {tr : List Card} {i : Nat} (h : i < tr.length) : cAt (tr.map φ) i = φ (cAt tr i) := by
  unfold cAt
  rw [List.getD_eq_getElem?_getD, List.getD_eq_getElem?_getD, List.getElem?_map, List.getElem?_eq_getElem h]; rfl
section
variable {C : Card → Prop} {own : Card → Nat} {φ : Card → Card} {st st' : Int}
theorem win_iso (g : Good C own φ st st') {tr : List Card} (hC : ∀ j, j < tr.length → C (cAt tr j)) (hO : ∀ i j, i < tr.length → j < tr.length → i ≠ j → own (cAt tr i) ≠ own (cAt tr j)) : ∀ n, n < tr.length → winTo st' (tr.map φ) n = winTo st tr n
  | 0, _ => rfl
  | n + 1, h => by
    have ih := win_iso g hC hO n (by omega)
    have hle := winTo_le st tr n
    show (if beat st' (tr.map φ) (winTo st' (tr.map φ) n) (n + 1) = true then n + 1 else winTo st' (tr.map φ) n) = if beat st tr (winTo st tr n) (n + 1) = true then n + 1 else winTo st tr n
    rw [ih]
    generalize winTo st tr n = b at hle ⊢
    have hb : b < tr.length := by omega
    have e : beat st' (tr.map φ) b (n + 1) = beat st tr b (n + 1) := by
      unfold beat
      rw [cAt_map φ hb, cAt_map φ h]
      have Ca := hC b hb
      have Cb := hC (n + 1) h
      have o := hO b (n + 1) hb h (by omega)
      have s1 := g.suit _ _ Cb Ca
      have t1 := g.trump _ Ca
      have t2 := g.trump _ Cb
      refine decide_eq_decide.mpr ?_
      constructor
      · rintro (⟨a1, a2⟩ | ⟨a1, a2⟩)
        · exact .inl ⟨s1.mpr a1, (g.ord _ _ Ca Cb o (s1.mpr a1).symm).mpr a2⟩
        · exact .inr ⟨t2.mpr a1, fun z => a2 (t1.mp z)⟩
      · rintro (⟨a1, a2⟩ | ⟨a1, a2⟩)
        · exact .inl ⟨s1.mp a1, (g.ord _ _ Ca Cb o a1.symm).mp a2⟩
        · exact .inr ⟨t2.mp a1, fun z => a2 (t1.mpr z)⟩
    rw [e]
theorem filter_map_iso {P P' : Card → Bool} : ∀ {h : List Card}, (∀ c ∈ h, P' (φ c) = P c) → (h.map φ).filter P' = (h.filter P).map φ
  | [], _ => rfl
  | a :: l, hh => by
    have ih := filter_map_iso (h := l) fun c hc => hh c (List.mem_cons_of_mem _ hc)
    have ha := hh a (List.mem_cons_self ..)
    rw [List.map_cons, List.filter_cons, List.filter_cons, ha, ih]
    split <;> rfl
theorem follows_iso (g : Good C own φ st st') {h h' tr : List Card} (hp : h'.Perm (h.map φ)) (hC : ∀ c ∈ h, C c) (tC : ∀ j, j < tr.length → C (cAt tr j)) : (follows h' (tr.map φ)).Perm ((follows h tr).map φ) := by
  have key : ((h.map φ).filter fun c => !(tr.map φ).isEmpty && decide (c.1 = (cAt (tr.map φ) 0).1)) = (h.filter fun c => !tr.isEmpty && decide (c.1 = (cAt tr 0).1)).map φ := by
    refine filter_map_iso fun c hc => ?_
    cases tr with
    | nil => rfl
    | cons a l =>
      rw [cAt_map φ (show 0 < (a :: l).length by simp)]
      show (true && decide ((φ c).1 = (φ (cAt (a :: l) 0)).1)) = (true && decide (c.1 = (cAt (a :: l) 0).1))
      rw [Bool.true_and, Bool.true_and]
      exact decide_eq_decide.mpr (g.suit _ _ (hC c hc) (tC 0 (by simp))).symm
  have p2 := hp.filter (fun c => !(tr.map φ).isEmpty && decide (c.1 = (cAt (tr.map φ) 0).1))
  rw [key] at p2
  unfold follows
  by_cases e : (h.filter fun c => !tr.isEmpty && decide (c.1 = (cAt tr 0).1)) = []
  · rw [if_pos e]
    rw [e] at p2
    rw [if_pos (List.Perm.eq_nil p2)]
    exact hp
  · rw [if_neg e, if_neg (fun z => e (by rw [z] at p2; have := List.nil_perm.mp p2; exact List.map_eq_nil_iff.mp this))]
    exact p2
theorem exL_perm {b : Bool} {l l' : List Int} (h : l.Perm l') : exL b l = exL b l' := by
  by_cases e : l = []
  · subst e; rw [List.nil_perm.mp h]
  · obtain ⟨h1, h2⟩ := exL_spec b e
    exact exL_uniq (h.mem_iff.mp h1) fun y hy => h2 y (h.mem_iff.mpr hy)
theorem exL_neg {b : Bool} (m : Int) {l : List Int} (e : l ≠ []) : exL (!b) (l.map fun x => m - x) = m - exL b l := by
  obtain ⟨h1, h2⟩ := exL_spec b e
  refine (exL_uniq (List.mem_map.mpr ⟨_, h1, rfl⟩) fun y hy => ?_).symm
  obtain ⟨x, hx, rfl⟩ := List.mem_map.mp hy
  have := h2 x hx
  unfold leB at *
  cases b <;> simp_all <;> omega
theorem IsoS.plr {τ : Nat} {hs : List (List Card)} {f : Int} {tr : List Card} {hs' : List (List Card)} {f' : Int} {tr' : List Card} (i : IsoS C own φ τ hs f tr hs' f' tr') : plr f' tr' = (plr f tr + τ) % 4 := by
  have e1 := i.ef
  have e2 := i.etr
  have e3 : tr'.length = tr.length := by rw [e2, List.length_map]
  unfold DL.plr
  rw [e3]
  omega
theorem wo_iso {τ : Nat} (g : Good C own φ st st') {hs hs' : List (List Card)} (four : hs.length = 4) (four' : hs'.length = 4) (hand : ∀ p, p < 4 → (handAt hs' ((p + τ) % 4)).Perm ((handAt hs p).map φ)) (ow : ∀ p, p < 4 → ∀ c ∈ handAt hs p, C c ∧ own c = p) {p : Nat} (hp : p < 4) {c : Card} (hc : c ∈ handAt hs p) :
    (∀ q, q < 4 → (handAt (wo hs' ((p + τ) % 4) (φ c)) ((q + τ) % 4)).Perm ((handAt (wo hs p c) q).map φ)) ∧ (∀ q, q < 4 → ∀ d ∈ handAt (wo hs p c) q, C d ∧ own d = q) := by
  constructor
  · intro q hq
    rw [handAt_wo (by omega), handAt_wo (by omega)]
    by_cases e : q = p
    · subst e
      rw [if_pos rfl, if_pos rfl]
      have p2 := (hand q hq).filter (fun d => decide (d ≠ φ c))
      rw [filter_map_iso (P := fun d => decide (d ≠ c)) fun d hd => ?_] at p2
      · exact p2
      · exact decide_eq_decide.mpr ⟨fun z y => z (by rw [y]), fun z y => z (g.inj _ _ (ow q hq d hd).1 (ow q hq c hc).1 y)⟩
    · rw [if_neg e, if_neg (by omega)]
      exact hand q hq
  · intro q hq d hd
    rw [handAt_wo (by omega)] at hd
    by_cases e : q = p
    · subst e
      rw [if_pos rfl] at hd
      exact ow q hq d (List.mem_filter.mp hd).1
    · rw [if_neg e] at hd
      exact ow q hq d hd
theorem cAt_snoc (tr : List Card) (c : Card) {j : Nat} (h : j ≤ tr.length) : cAt (tr ++ [c]) j = if j < tr.length then cAt tr j else c := by
  unfold cAt
  rw [List.getD_eq_getElem?_getD, List.getElem?_append]
  split
  · rw [List.getD_eq_getElem?_getD]
  · rw [show j - tr.length = 0 by omega]; rfl
theorem IsoS.step {τ : Nat} (g : Good C own φ st st') {hs : List (List Card)} {f : Int} {tr : List Card} {hs' : List (List Card)} {f' : Int} {tr' : List Card} (i : IsoS C own φ τ hs f tr hs' f' tr') {c : Card} (hc : c ∈ handAt hs (DL.plr f tr)) :
    IsoS C own φ τ (wo hs (DL.plr f tr) c) f (tr ++ [c]) (wo hs' (DL.plr f' tr') (φ c)) f' (tr' ++ [φ c]) := by
  have hp := plr_lt f tr
  obtain ⟨w1, w2⟩ := wo_iso g i.four i.four' i.hand i.ow hp hc
  refine ⟨by unfold wo; rw [List.length_set]; exact i.four, by unfold wo; rw [List.length_set]; exact i.four', i.ef, by rw [List.map_append, i.etr]; rfl, by rw [i.plr]; exact w1, w2, fun j hj => ?_⟩
  rw [List.length_append, List.length_singleton] at hj
  rw [cAt_snoc tr c (by omega)]
  split
  · rename_i h; exact i.trk j h
  · obtain ⟨a1, a2⟩ := i.ow _ hp c hc
    refine ⟨a1, ?_⟩
    rw [a2, show j = tr.length by omega]
    unfold DL.plr
    omega
theorem IsoS.last {τ : Nat} (g : Good C own φ st st') {hs : List (List Card)} {f : Int} {tr : List Card} {hs' : List (List Card)} {f' : Int} {tr' : List Card} (i : IsoS C own φ τ hs f tr hs' f' tr') {c : Card} (hc : c ∈ handAt hs (DL.plr f tr)) {w w' : Int} (ew : w' = (w + (τ : Int)) % 4) :
    IsoS C own φ τ (wo hs (DL.plr f tr) c) w [] (wo hs' (DL.plr f' tr') (φ c)) w' [] := by
  have hp := plr_lt f tr
  obtain ⟨w1, w2⟩ := wo_iso g i.four i.four' i.hand i.ow hp hc
  exact ⟨by unfold wo; rw [List.length_set]; exact i.four, by unfold wo; rw [List.length_set]; exact i.four', ew, rfl, by rw [i.plr]; exact w1, w2, fun j hj => absurd hj (by simp)⟩
/-- the winner -/
theorem IsoS.win {τ : Nat} (g : Good C own φ st st') {hs : List (List Card)} {f : Int} {tr : List Card} {hs' : List (List Card)} {f' : Int} {tr' : List Card} (i : IsoS C own φ τ hs f tr hs' f' tr') (h4 : tr.length = 4) : winI st' tr' = winI st tr := by
  rw [i.etr]
  refine win_iso g (fun j hj => (i.trk j hj).1) (fun a b ha hb e z => ?_) 3 (by omega)
  have h1 := (i.trk a ha).2
  have h2 := (i.trk b hb).2
  rw [z] at h1
  omega
def turnV (τ : Nat) (m x : Int) : Int := if τ % 2 = 0 then x else m - x
theorem lat_iso {τ : Nat} (g : Good C own φ st st') : ∀ (n m : Nat) (hs : List (List Card)) (f : Int) (tr : List Card) (hs' : List (List Card)) (f' : Int) (tr' : List Card), Bal m hs f tr → 4 * m - tr.length = n → IsoS C own φ τ hs f tr hs' f' tr' →
    lat st' n hs' f' tr' = turnV τ m (lat st n hs f tr)
  | 0, m, hs, f, tr, hs', f', tr', b, e, i => by
    have : m = 0 := by have := b.t3; omega
    subst this
    show (0 : Int) = turnV τ (0 : Nat) 0
    unfold turnV
    split <;> rfl
  | n + 1, m, hs, f, tr, hs', f', tr', b, e, i => by
    have hp := plr_lt f tr
    have b3 := b.t3
    have bh := b.hand
    have ep := i.plr
    have hne : follows (handAt hs (DL.plr f tr)) tr ≠ [] := follows_ne fun z => by rw [z] at bh; simp at bh; omega
    have hfo := follows_iso g (h' := handAt hs' (DL.plr f' tr')) (h := handAt hs (DL.plr f tr)) (tr := tr) (by rw [ep]; exact i.hand _ hp) (fun c hc => (i.ow _ hp c hc).1) (fun j hj => (i.trk j hj).1)
    rw [← i.etr] at hfo
    have ln : tr'.length = tr.length := by rw [i.etr, List.length_map]
    have key : ∀ c ∈ follows (handAt hs (DL.plr f tr)) tr,
        (if tr'.length + 1 < 4 then lat st' n (wo hs' (DL.plr f' tr') (φ c)) f' (tr' ++ [φ c]) else wonBy ((f' + (winI st' (tr' ++ [φ c]) : Int)) % 4) + lat st' n (wo hs' (DL.plr f' tr') (φ c)) ((f' + (winI st' (tr' ++ [φ c]) : Int)) % 4) [])
        = turnV τ m (if tr.length + 1 < 4 then lat st n (wo hs (DL.plr f tr) c) f (tr ++ [c]) else wonBy ((f + (winI st (tr ++ [c]) : Int)) % 4) + lat st n (wo hs (DL.plr f tr) c) ((f + (winI st (tr ++ [c]) : Int)) % 4) []) := fun c hc => by
      have hcH := follows_sub hc
      rw [ln]
      by_cases ht : tr.length + 1 < 4
      · rw [if_pos ht, if_pos ht]
        exact lat_iso g n m _ _ _ _ _ _ (b.step hcH ht) (by rw [List.length_append, List.length_singleton]; omega) (i.step g hcH)
      · rw [if_neg ht, if_neg ht]
        have hw := (i.step g hcH).win g (by rw [List.length_append, List.length_singleton]; omega)
        have w0 : 0 ≤ (f + (winI st (tr ++ [c]) : Int)) % 4 := Int.emod_nonneg _ (by decide)
        have w4 : (f + (winI st (tr ++ [c]) : Int)) % 4 < 4 := Int.emod_lt_of_pos _ (by decide)
        have ew : (f' + (winI st' (tr' ++ [φ c]) : Int)) % 4 = ((f + (winI st (tr ++ [c]) : Int)) % 4 + (τ : Int)) % 4 := by
          rw [hw, i.ef]; omega
        generalize (f' + (winI st' (tr' ++ [φ c]) : Int)) % 4 = w' at ew ⊢
        generalize (f + (winI st (tr ++ [c]) : Int)) % 4 = w at ew w0 w4 ⊢
        have := lat_iso g n (m - 1) _ w [] _ w' [] (b.last hcH ht w0 w4) (by rw [List.length_nil]; omega) (i.last g hcH ew)
        rw [this]
        unfold turnV wonBy
        by_cases z : τ % 2 = 0
        · rw [if_pos z, if_pos z]
          have : w' % 2 = w % 2 := by omega
          rw [this]
        · rw [if_neg z, if_neg z]
          by_cases y : w % 2 = 0
          · rw [if_pos y, if_neg (by omega)]; omega
          · rw [if_neg y, if_pos (by omega)]; omega
    show exL _ _ = turnV τ m (exL _ _)
    rw [exL_perm (hfo.map _), List.map_map]
    have e5 : ∀ (F G : Card → Int), (∀ c ∈ follows (handAt hs (DL.plr f tr)) tr, F c = turnV τ m (G c)) → (follows (handAt hs (DL.plr f tr)) tr).map F = ((follows (handAt hs (DL.plr f tr)) tr).map G).map (turnV τ m) := fun F G h => by
      rw [List.map_map]; exact List.map_congr_left h
    refine (congrArg (exL _) (e5 _ _ key)).trans ?_
    generalize hv : (follows (handAt hs (DL.plr f tr)) tr).map _ = vs
    have hvn : vs ≠ [] := by rw [← hv, ne_eq, List.map_eq_nil_iff]; exact hne
    unfold turnV
    by_cases z : τ % 2 = 0
    · simp only [if_pos z]
      rw [List.map_id', show decide (DL.plr f' tr' % 2 = 0) = decide (DL.plr f tr % 2 = 0) from decide_eq_decide.mpr (by omega)]
    · simp only [if_neg z]
      rw [show decide (DL.plr f' tr' % 2 = 0) = !decide (DL.plr f tr % 2 = 0) from by
        by_cases y : DL.plr f tr % 2 = 0
        · rw [decide_eq_true y, decide_eq_false (by omega)]; rfl
        · rw [decide_eq_false y, decide_eq_true (by omega)]; rfl]
      exact exL_neg _ hvn
end
end DL
set_option Elab.async false
set_option linter.all false
set_option maxRecDepth 100000
set_option maxHeartbeats 4000000
/-! FnIsoU: whose a card is; two touching cards come to the same -/
namespace DL
open PySem PySem.Spec PyProof.Rows L2
def ownOf (hs : List (List Card)) (c : Card) : Nat := if c ∈ handAt hs 0 then 0 else if c ∈ handAt hs 1 then 1 else if c ∈ handAt hs 2 then 2 else 3
theorem ownOf_eq {hs : List (List Card)} (ap : Apart hs) {p : Nat} (hp : p < 4) {c : Card} (hc : c ∈ handAt hs p) : ownOf hs c = p := by
  unfold ownOf
  split
  · rename_i h; exact ap.one 0 p c h hc
  · split
    · rename_i h; exact ap.one 1 p c h hc
    · split
      · rename_i h; exact ap.one 2 p c h hc
      · rename_i a1 a2 a3
        have : p = 0 ∨ p = 1 ∨ p = 2 ∨ p = 3 := by omega
        rcases this with rfl | rfl | rfl | rfl
        · exact absurd hc a1
        · exact absurd hc a2
        · exact absurd hc a3
        · rfl
section
variable {R : Nat} {hs : List (List Card)} {st ld : Int} {cs : List Card}
/-- the cards of the trick are of the players in turn -/
theorem PReach.trk (h0 : 0 ≤ ld) (h1 : ld < 4) (h : PReach R hs st ld cs) : ∀ j, j < (walkP st ld cs).tr.length → cAt (walkP st ld cs).tr j ∈ handAt hs (((walkP st ld cs).ld + (j : Int)) % 4).toNat := by
  induction h with
  | nil => intro j hj; exact absurd hj (by show ¬ j < 0; omega)
  | @snoc cs c hr hl hc ih =>
    intro j hj
    rw [walk_snoc] at hj ⊢
    unfold stepP at hj ⊢
    split
    · rename_i z; rw [if_pos z] at hj; exact absurd hj (by show ¬ j < 0; omega)
    · rename_i z; rw [if_neg z] at hj
      have hj : j < ((walkP st ld cs).tr ++ [c]).length := hj
      show cAt ((walkP st ld cs).tr ++ [c]) j ∈ handAt hs (((walkP st ld cs).ld + (j : Int)) % 4).toNat
      rw [List.length_append, List.length_singleton] at hj
      rw [cAt_snoc _ c (by omega)]
      split
      · rename_i y; exact ih j y
      · have := (mayF_sub hc).1
        rw [show j = (walkP st ld cs).tr.length by omega]
        exact this
theorem leftAt (hs : List (List Card)) (cs : List Card) (p : Nat) : handAt (leftF hs cs) p = (handAt hs p).filter fun c => decide (c ∉ cs) := by
  by_cases hp : p < hs.length
  · exact left_at hp
  · unfold handAt leftF
    rw [List.getD_eq_getElem?_getD, List.getElem?_eq_none (by rw [List.length_map]; omega), List.getD_eq_getElem?_getD, List.getElem?_eq_none (by omega)]; rfl
theorem mem_left {p : Nat} {c : Card} : c ∈ handAt (leftF hs cs) p ↔ c ∈ handAt hs p ∧ c ∉ cs := by
  rw [leftAt, List.mem_filter]
  exact ⟨fun z => ⟨z.1, of_decide_eq_true z.2⟩, fun z => ⟨z.1, decide_eq_true z.2⟩⟩
end
end DL
set_option Elab.async false
set_option linter.all false
set_option maxRecDepth 100000
set_option maxHeartbeats 4000000
/-! FnIsoV: suits exchanged, players turned on -/
namespace DL
open PySem PySem.Spec PyProof.Rows L2
def suC (o : Int → Int) (c : Card) : Card := (o c.1, c.2)
structure Turned (o : Int → Int) (τ : Nat) (hs hs' : List (List Card)) (st st' ld ld' : Int) : Prop where
  four : hs.length = 4
  four' : hs'.length = 4
  inj : ∀ a b, 0 ≤ a → a ≤ 4 → 0 ≤ b → b ≤ 4 → o a = o b → a = b
  suits : ∀ p c, c ∈ handAt hs p → 0 ≤ c.1 ∧ c.1 ≤ 3
  s0 : 0 ≤ st
  s4 : st ≤ 4
  est : st' = o st
  l0 : 0 ≤ ld
  l1 : ld < 4
  eld : ld' = (ld + (τ : Int)) % 4
  tau : τ < 4
  hand : ∀ p, p < 4 → (handAt hs' ((p + τ) % 4)).Perm ((handAt hs p).map (suC o))
def tW (o : Int → Int) (τ : Nat) (s : Stand) : Stand := ⟨(s.ld + (τ : Int)) % 4, s.tr.map (suC o), if τ % 2 = 0 then s.w0 else s.w1, if τ % 2 = 0 then s.w1 else s.w0⟩
section
variable {o : Int → Int} {τ R : Nat} {hs hs' : List (List Card)} {st st' ld ld' : Int} {cs : List Card}
theorem PReach.inH (h : PReach R hs st ld cs) : ∀ c ∈ cs, ∃ p, p < 4 ∧ c ∈ handAt hs p := by
  induction h with
  | nil => intro c hc; cases hc
  | @snoc cs c hr hl hc ih =>
    intro x hx
    rcases List.mem_append.mp hx with z | z
    · exact ih x z
    · rw [List.mem_singleton.mp z]
      have tb := turnP_bd st ld cs
      exact ⟨_, by omega, (mayF_sub hc).1⟩
def CSu (c : Card) : Prop := 0 ≤ c.1 ∧ c.1 ≤ 3
theorem Turned.good (t : Turned o τ hs hs' st st' ld ld') : Good CSu (ownOf hs) (suC o) st st' := by
  refine ⟨fun a b ha hb e => ?_, fun a b ha hb => ?_, fun a ha => ?_, fun a b _ _ _ _ => Iff.rfl⟩
  · have h1 : o a.1 = o b.1 := by have := congrArg Prod.fst e; exact this
    have h2 : a.2 = b.2 := by have := congrArg Prod.snd e; exact this
    exact Prod.ext (t.inj _ _ ha.1 (by have := ha.2; omega) hb.1 (by have := hb.2; omega) h1) h2
  · show a.1 = b.1 ↔ o a.1 = o b.1
    exact ⟨fun e => by rw [e], fun e => t.inj _ _ ha.1 (by have := ha.2; omega) hb.1 (by have := hb.2; omega) e⟩
  · show a.1 = st ↔ o a.1 = st'
    rw [t.est]
    exact ⟨fun e => by rw [e], fun e => t.inj _ _ ha.1 (by have := ha.2; omega) t.s0 t.s4 e⟩
theorem Turned.mem (t : Turned o τ hs hs' st st' ld ld') {c : Card} (hc : CSu c) (hcs : ∀ x ∈ cs, CSu x) : suC o c ∈ cs.map (suC o) ↔ c ∈ cs := by
  constructor
  · intro z
    obtain ⟨x, hx, e⟩ := List.mem_map.mp z
    rw [← t.good.inj _ _ (hcs x hx) hc e]; exact hx
  · exact fun z => List.mem_map.mpr ⟨c, z, rfl⟩
theorem PReach.csu (t : Turned o τ hs hs' st st' ld ld') (h : PReach R hs st ld cs) : ∀ x ∈ cs, CSu x := fun x hx => by
  obtain ⟨p, _, hp⟩ := h.inH x hx
  exact t.suits p x hp
theorem Turned.left (t : Turned o τ hs hs' st st' ld ld') (h : PReach R hs st ld cs) {p : Nat} (hp : p < 4) : (handAt (leftF hs' (cs.map (suC o))) ((p + τ) % 4)).Perm ((handAt (leftF hs cs) p).map (suC o)) := by
  rw [leftAt, leftAt]
  have p2 := (t.hand p hp).filter (fun c => decide (c ∉ cs.map (suC o)))
  rw [filter_map_iso (P := fun c => decide (c ∉ cs)) fun c hc => ?_] at p2
  · exact p2
  · refine decide_eq_decide.mpr (not_congr ?_)
    exact t.mem (t.suits p c hc) (h.csu t)
theorem Turned.iso (t : Turned o τ hs hs' st st' ld ld') (ap : Apart hs) (h : PReach R hs st ld cs) : IsoS CSu (ownOf hs) (suC o) τ (leftF hs cs) (walkP st ld cs).ld (walkP st ld cs).tr (leftF hs' (cs.map (suC o))) (tW o τ (walkP st ld cs)).ld (tW o τ (walkP st ld cs)).tr := by
  refine ⟨by unfold leftF; rw [List.length_map]; exact t.four, by unfold leftF; rw [List.length_map]; exact t.four', rfl, rfl, fun p hp => t.left h hp, fun p hp c hc => ⟨t.suits p c (mem_left.mp hc).1, ownOf_eq ap hp (mem_left.mp hc).1⟩, fun j hj => ?_⟩
  have z := h.trk t.l0 t.l1 j hj
  refine ⟨t.suits _ _ z, ?_⟩
  rw [ownOf_eq ap (by omega) z]
  omega
theorem turn_tW (s : Stand) : ((tW o τ s).ld + ((tW o τ s).tr.length : Int)) % 4 = ((s.ld + (s.tr.length : Int)) % 4 + (τ : Int)) % 4 := by
  unfold tW
  rw [List.length_map]
  show ((s.ld + (τ : Int)) % 4 + (s.tr.length : Int)) % 4 = _
  omega
/-- all at once: the same play, turned -/
theorem Turned.all (t : Turned o τ hs hs' st st' ld ld') (ap : Apart hs) (h : PReach R hs st ld cs) : walkP st' ld' (cs.map (suC o)) = tW o τ (walkP st ld cs) ∧ PReach R hs' st' ld' (cs.map (suC o)) := by
  induction h with
  | nil =>
    refine ⟨?_, .nil⟩
    show (⟨ld', [], 0, 0⟩ : Stand) = ⟨(ld + (τ : Int)) % 4, [], if τ % 2 = 0 then 0 else 0, if τ % 2 = 0 then 0 else 0⟩
    rw [t.eld]
    split <;> rfl
  | @snoc cs c hr hl hc ih =>
    obtain ⟨w, pr⟩ := ih
    have i := t.iso ap hr
    have tb := turnP_bd st ld cs
    have hcL : c ∈ handAt (leftF hs cs) (DL.plr (walkP st ld cs).ld (walkP st ld cs).tr) := mem_left.mpr (mayF_sub hc)
    have sN := i.step t.good hcL
    rw [List.map_append, List.map_singleton]
    constructor
    · rw [walk_snoc, w, walk_snoc]
      unfold stepP
      have e1 : (tW o τ (walkP st ld cs)).tr ++ [suC o c] = ((walkP st ld cs).tr ++ [c]).map (suC o) := by rw [List.map_append]; rfl
      rw [List.length_append, List.length_append, show (tW o τ (walkP st ld cs)).tr.length = (walkP st ld cs).tr.length from List.length_map .., List.length_singleton, List.length_singleton]
      by_cases z : (walkP st ld cs).tr.length + 1 = 4
      · rw [if_pos z, if_pos z]
        have hw := sN.win t.good (by rw [List.length_append, List.length_singleton]; exact z)
        rw [hw]
        generalize (winI st ((walkP st ld cs).tr ++ [c]) : Int) = k
        have ek : (((tW o τ (walkP st ld cs)).ld + k) % 4) = (((walkP st ld cs).ld + k) % 4 + (τ : Int)) % 4 := by
          show (((walkP st ld cs).ld + (τ : Int)) % 4 + k) % 4 = _
          omega
        rw [ek]
        have l0 : 0 ≤ ((walkP st ld cs).ld + k) % 4 := Int.emod_nonneg _ (by decide)
        have l4 : ((walkP st ld cs).ld + k) % 4 < 4 := Int.emod_lt_of_pos _ (by decide)
        generalize ((walkP st ld cs).ld + k) % 4 = l at l0 l4 ⊢
        unfold upW tW
        dsimp only
        by_cases y : τ % 2 = 0
        · rw [if_pos y, if_pos y, if_pos y, if_pos y]
          by_cases v : l % 2 = 0
          · rw [if_pos v, if_pos v, if_pos (by omega), if_pos (by omega)]; rfl
          · rw [if_neg v, if_neg v, if_neg (by omega), if_neg (by omega)]; rfl
        · rw [if_neg y, if_neg y, if_neg y, if_neg y]
          by_cases v : l % 2 = 0
          · rw [if_pos v, if_pos v, if_neg (by omega), if_neg (by omega)]; rfl
          · rw [if_neg v, if_neg v, if_pos (by omega), if_pos (by omega)]; rfl
      · rw [if_neg z, if_neg z]
        unfold tW
        dsimp only
        rw [List.map_append]; rfl
    · refine .snoc pr (by rw [List.length_map]; exact hl) ?_
      have ep : (turnP st' ld' (cs.map (suC o))).toNat = ((turnP st ld cs).toNat + τ) % 4 := by
        unfold turnP
        rw [w, turn_tW]
        omega
      unfold mayF
      rw [ep, ← leftAt, w]
      have f := follows_iso t.good (h' := handAt (leftF hs' (cs.map (suC o))) (((turnP st ld cs).toNat + τ) % 4)) (h := handAt (leftF hs cs) (turnP st ld cs).toNat) (tr := (walkP st ld cs).tr) (t.left hr (by omega)) (fun c hc => t.suits _ c (mem_left.mp hc).1) (fun j hj => (i.trk j hj).1)
      refine f.mem_iff.mpr (List.mem_map.mpr ⟨c, ?_, rfl⟩)
      rw [leftAt]
      exact hc
theorem Turned.turn (t : Turned o τ hs hs' st st' ld ld') (ap : Apart hs) (h : PReach R hs st ld cs) : turnP st' ld' (cs.map (suC o)) = (turnP st ld cs + (τ : Int)) % 4 := by
  unfold turnP
  rw [(t.all ap h).1, turn_tW]
theorem Turned.may (t : Turned o τ hs hs' st st' ld ld') (ap : Apart hs) (h : PReach R hs st ld cs) : (mayF hs' st' ld' (cs.map (suC o))).Perm ((mayF hs st ld cs).map (suC o)) := by
  have tb := turnP_bd st ld cs
  have ep : (turnP st' ld' (cs.map (suC o))).toNat = ((turnP st ld cs).toNat + τ) % 4 := by rw [t.turn ap h]; omega
  unfold mayF
  rw [ep, ← leftAt, (t.all ap h).1, ← leftAt]
  exact follows_iso t.good (t.left h (by omega)) (fun c hc => t.suits _ c (mem_left.mp hc).1) (fun j hj => ((t.iso ap h).trk j hj).1)
theorem walk_sumV (st ld : Int) (cs : List Card) : (walkP st ld cs).w0 + (walkP st ld cs).w1 = ((cs.length / 4 : Nat) : Int) := by
  refine snoc_indP (P := fun cs => (walkP st ld cs).w0 + (walkP st ld cs).w1 = ((cs.length / 4 : Nat) : Int)) rfl (fun cs c ih => ?_) cs
  have tl := tr_len st ld cs
  rw [walk_snoc, List.length_append, List.length_singleton]
  unfold stepP
  rw [List.length_append, List.length_singleton]
  split
  · unfold upW; dsimp only; split <;> omega
  · show (walkP st ld cs).w0 + (walkP st ld cs).w1 = _
    omega
theorem Turned.best (t : Turned o τ hs hs' st st' ld ld') (hd : DealOk R hs) (ap : Apart hs) (h : PReach R hs st ld cs) : bestV R hs' st' ld' (cs.map (suC o)) = turnV τ R (bestV R hs st ld cs) := by
  have hl := h.len
  have tl := tr_len st ld cs
  have s := walk_sumV st ld cs
  have := lat_iso t.good (4 * R - cs.length) (R - cs.length / 4) _ _ _ _ _ _ (h.bal hd ap t.l0 t.l1) (by omega) (t.iso ap h)
  unfold bestV
  rw [List.length_map, (t.all ap h).1, this]
  unfold turnV tW
  dsimp only
  split <;> omega
theorem turnV_inj {m x y : Int} : turnV τ m x = turnV τ m y ↔ x = y := by unfold turnV; split <;> omega
theorem Turned.bestCs (t : Turned o τ hs hs' st st' ld ld') (hd : DealOk R hs) (ap : Apart hs) (h : PReach R hs st ld cs) : (bestC R hs' st' ld' (cs.map (suC o))).Perm ((bestC R hs st ld cs).map (suC o)) := by
  unfold bestC
  rw [List.length_map]
  have hlen := h.len
  by_cases g : cs.length = 4 * R
  · rw [if_pos g, if_pos g]; exact List.Perm.refl _
  · rw [if_neg g, if_neg g]
    have p2 := (t.may ap h).filter (fun c => decide (bestV R hs' st' ld' (cs.map (suC o) ++ [c]) = bestV R hs' st' ld' (cs.map (suC o))))
    rw [filter_map_iso (P := fun c => decide (bestV R hs st ld (cs ++ [c]) = bestV R hs st ld cs)) fun c hc => ?_] at p2
    · exact p2
    · have h2 : PReach R hs st ld (cs ++ [c]) := .snoc h (by omega) hc
      have e := t.best hd ap h2
      rw [List.map_append, List.map_singleton] at e
      refine decide_eq_decide.mpr ?_
      rw [e, t.best hd ap h]
      exact turnV_inj
end
/-! sorted rows -/
theorem sort_uniq : ∀ {a b : List Card}, a.Perm b → a.Pairwise (fun x y => le2 x y = true) → b.Pairwise (fun x y => le2 x y = true) → a = b
  | [], b, h, _, _ => (List.nil_perm.mp h).symm
  | x :: a, [], h, _, _ => absurd (List.perm_nil.mp h) (List.cons_ne_nil _ _)
  | x :: a, y :: b, h, h1, h2 => by
    obtain ⟨u1, v1⟩ := List.pairwise_cons.mp h1
    obtain ⟨u2, v2⟩ := List.pairwise_cons.mp h2
    have e : x = y := by
      rcases List.mem_cons.mp (h.mem_iff.mp (List.mem_cons_self ..)) with z | z
      · exact z
      · rcases List.mem_cons.mp (h.mem_iff.mpr (List.mem_cons_self ..)) with w | w
        · exact w.symm
        · have a1 := of_decide_eq_true (u2 x z)
          have a2 := of_decide_eq_true (u1 y w)
          exact Prod.ext (by omega) (by omega)
    subst e
    rw [sort_uniq (List.Perm.cons_inv h) v1 v2]
theorem follows_up {h tr : List Card} (u : h.Pairwise fun x y => le2 x y = true) : (follows h tr).Pairwise fun x y => le2 x y = true := by
  unfold follows
  split
  · exact u
  · exact u.filter _
end DL
set_option Elab.async false
set_option linter.all false
set_option maxRecDepth 100000
set_option maxHeartbeats 4000000
namespace DL
open PySem PySem.Spec PyProof.Rows L2
local macro_rules | `(tactic| walk_at "dl") => `(tactic| simp only [tV, tVr, tFzV, turnD, DL.wipeE, tK, tOpD, tUnD, tBo, tAndD, tOrD, tNotD, tIfE, DL.tAndV, DL.tOrV, DL.tNotV, tTru, truD, okLen, sSet, sSetL, sExpr, sRet, sIf, sNx, tTupD, dNil, dCons, tLstD, tFzD, tApp, tExtd, tPopAt, sSetIx, tIxO, tChainD, tChain3D, tRevT, caStr, opRepT, opAdd, opSub, opMul, opDiv, opMod, opPow, DL.opI, DL.opI0, opB0, opLt, opLe, opGt, opGtD, opLtD, opGe, opEq, opNe, opIs, opIsN, isNone, opIn, opNotIn, opIx, atD_0, atD_1, atD_2, atD_3, putD_0, unNeg, tCa1, tCa2, tCaL1, caLen, caAbs, caMax2, caMin2, caSum, caMax, caMin, caSumT, caMaxT, caMinT, caAll, caTuple, caList, caInt, tIsi, isInt, isBool, isStr, isTuple, isList, notDict, sAsg, gSet, gTupD, gLstD, gsNil, gsCons, sPar, pNil, pD, pL, setAll, tCallD, aNil, aV, aO, argS, oixs, ndp, putO, tOpL, opCat, opRep, tSlD, slD, tSlL, oNo, oE, tRevD, iLstD, iTupD, iRange1, iRange2, iZipD, iZipM, finO, tTrue, Option.map, eqv_int, eqv_bool, eqv_none, shaped_int, shaped_bool, shaped_none, tLenRange, tSortSet, tLenSet, tLenSetP, tSortSetP, tCountL, tCountT, tIndexL, tIndexT, DL.tOrT, DL.tAndT, DL.tNotT, tSortRev, caSorted, iEnumL, iEnumT, tDGetV, tDGetD, tDGet2V, dictAt, sDPutV, sSetM, mDt, mDk, pM, tInN, tNotInN, tCallM, amM, amV, tListRg, tCall0D, keyB_2, keyB_3, keyB_4, decide_eq_true_eq, and_self, List.cons_append, List.nil_append, List.replicate, List.getElem?_cons_zero, List.getElem?_cons_succ, List.set_cons_zero, List.set_cons_succ, List.length_cons, List.length_nil, true_and, and_true, if_true, if_false, Bool.false_eq_true, List.contains_nil, Bool.not_false, Bool.not_true, Bool.and_self, Bool.and_true, Bool.true_and, decide_true, decide_false, beq_self_eq_true])
def tb_law_turned_k15 : TSd :=
  sSeq (sSet 3 (tFzD (tComp (iTupD (tV 0)) (gSet 4) (tTrue) (tCa1 caTuple (tFzD (tCaL1 caSorted (tFzD (tComp (iTupD (tV 4)) (gTupD 2 (gsCons (gSet 5) (gsCons (gSet 6) (gsNil)))) (tTrue) (tTupD (dCons (tOpD opIx (tV 1) (tV 5)) (dCons (tV 6) (dNil)))) [5, 6]))))) [4])))
      (sRet (tCa1 caTuple (tFzD (tComp (iRange1 (tK (.int 4))) (gSet 7) (tTrue) (tOpD opIx (tV 3) (tOpD opMod (tOpD opSub (tV 7) (tV 2)) (tK (.int 4)))) [7]))))
def tb_law_best_holds_k15 (sp_best_cards : SpD) (sp_law_same : SpD) (sp_best_tricks : SpD) : TSd :=
  sSeq (sPar [5, 6] (pD (tCallD sp_best_tricks (aV (tV 0) (aV (tV 1) (aV (tV 2) (aV (tV 3) (aNil)))))) (pD (tCallD sp_best_cards (aV (tV 0) (aV (tV 1) (aV (tV 2) (aV (tV 3) (aNil)))))) (pNil))))
      (sSeq (sAsg (tV 4) (gTupD 6 (gsCons (gSet 7) (gsCons (gSet 8) (gsCons (gSet 9) (gsCons (gSet 10) (gsCons (gSet 11) (gsCons (gSet 12) (gsNil)))))))))
      (sSeq (sSet 13 (tIfE (tBo (tOpD opEq (tOpD opMod (tV 8) (tK (.int 2))) (tK (.int 0)))) (tV 5) (tOpD opSub (tCa1 caLen (tOpD opIx (tV 0) (tK (.int 0)))) (tV 5))))
      (sSeq (sIf (tNotD (tTru (tCallD sp_law_same (aV (tCallD sp_best_tricks (aV (tV 9) (aV (tV 10) (aV (tV 11) (aV (tV 12) (aNil)))))) (aV (tV 13) (aNil)))))) (sRet (tK (.bool false))) (sNx))
      (sSeq (sSet 14 (tCa1 caTuple (tFzD (tCaL1 caSorted (tFzD (tComp (iTupD (tV 6)) (gTupD 2 (gsCons (gSet 15) (gsCons (gSet 16) (gsNil)))) (tTrue) (tTupD (dCons (tOpD opIx (tV 7) (tV 15)) (dCons (tV 16) (dNil)))) [15, 16]))))))
      (sRet (tCallD sp_law_same (aV (tCallD sp_best_cards (aV (tV 9) (aV (tV 10) (aV (tV 11) (aV (tV 12) (aNil)))))) (aV (tV 14) (aNil)))))))))
def tb_law_k15 (sp_law_best_holds : SpD) (sp_tricks_of : SpD) (sp_law_same : SpD) (sp_law_turned : SpD) (sp_left_of : SpD) (sp_may_play : SpD) (sp_turn_of : SpD) (sp_play_fault : SpD) (sp_law_mixed : SpD) (sp_law_draw : SpD) (sp_law_drawn_cards : SpD) (sp_law_drawn_deal : SpD) (sp_law_pick : SpD) : TSd :=
  sSeq (sSetL 1 (tLstD (dNil)))
      (sSeq (sFor (iRange1 (tK (.int 4))) (gSet 2) (sSeq (sPar [3, 4] (pD (tCallD sp_law_pick (aV (tV 0) (aO 1 (aV (tFzD (tLstD (dCons (tK (.int 1)) (dCons (tK (.int 2)) (dCons (tK (.int 3)) (dCons (tK (.int 4)) (dNil))))))) (aNil))))) (pD (tCallD sp_law_draw (aV (tV 0) (aO 1 (aV (tK (.int 5)) (aNil))))) (pNil))))
      (sSeq (sPar [5, 6] (pD (tCallD sp_law_draw (aV (tV 0) (aO 1 (aV (tK (.int 4)) (aNil))))) (pD (tCallD sp_law_drawn_deal (aV (tV 0) (aO 1 (aV (tV 3) (aNil))))) (pNil))))
      (sSeq (sSet 7 (tCallD sp_law_draw (aV (tV 0) (aO 1 (aV (tOpD opAdd (tOpD opMul (tK (.int 4)) (tV 3)) (tK (.int 1))) (aNil))))))
      (sSeq (sSet 8 (tCallD sp_law_drawn_cards (aV (tV 0) (aO 1 (aV (tV 6) (aV (tV 4) (aV (tV 5) (aV (tCa2 caMax2 (tV 7) (tOpD opSub (tOpD opMul (tK (.int 4)) (tV 3)) (tK (.int 9)))) (aNil)))))))))
      (sSeq (sPar [9, 10] (pD (tFzD (tOpL opCat (tCallD sp_law_mixed (aV (tV 0) (aO 1 (aV (tFzD (tLstD (dCons (tK (.int 0)) (dCons (tK (.int 1)) (dCons (tK (.int 2)) (dCons (tK (.int 3)) (dNil))))))) (aNil))))) (tFzD (tLstD (dCons (tK (.int 4)) (dNil)))))) (pD (tCallD sp_law_draw (aV (tV 0) (aO 1 (aV (tK (.int 4)) (aNil))))) (pNil))))
      (sSeq (sPar [11, 12, 13] (pD (tCallD sp_law_turned (aV (tV 6) (aV (tV 9) (aV (tV 10) (aNil))))) (pD (tOpD opIx (tV 9) (tV 4)) (pD (tOpD opMod (tOpD opAdd (tV 5) (tV 10)) (tK (.int 4))) (pNil)))))
      (sSeq (sSet 14 (tCa1 caTuple (tFzD (tComp (iTupD (tV 8)) (gTupD 2 (gsCons (gSet 21) (gsCons (gSet 22) (gsNil)))) (tTrue) (tTupD (dCons (tOpD opIx (tV 9) (tV 21)) (dCons (tV 22) (dNil)))) [21, 22]))))
      (sSeq (sIf (tBo (tOpD opIsN (tCallD sp_play_fault (aV (tV 11) (aV (tV 12) (aV (tV 13) (aV (tV 14) (aNil)))))) (tK .none))) (sRet (tK (.bool false))) (sNx))
      (sSeq (sPar [15, 16] (pD (tCallD sp_turn_of (aV (tV 6) (aV (tV 4) (aV (tV 5) (aV (tV 8) (aNil)))))) (pD (tCallD sp_may_play (aV (tV 6) (aV (tV 4) (aV (tV 5) (aV (tV 8) (aNil)))))) (pNil))))
      (sSeq (sSet 17 (tIfE (tBo (tOpD opIs (tV 15) (tK .none))) (tK .none) (tOpD opMod (tOpD opAdd (tV 15) (tV 10)) (tK (.int 4)))))
      (sSeq (sSet 18 (tCa1 caTuple (tFzD (tCaL1 caSorted (tFzD (tComp (iTupD (tV 16)) (gTupD 2 (gsCons (gSet 21) (gsCons (gSet 22) (gsNil)))) (tTrue) (tTupD (dCons (tOpD opIx (tV 9) (tV 21)) (dCons (tV 22) (dNil)))) [21, 22]))))))
      (sSeq (sIf (tNotD (tTru (tCallD sp_law_same (aV (tTupD (dCons (tCallD sp_turn_of (aV (tV 11) (aV (tV 12) (aV (tV 13) (aV (tV 14) (aNil)))))) (dCons (tCallD sp_may_play (aV (tV 11) (aV (tV 12) (aV (tV 13) (aV (tV 14) (aNil)))))) (dNil)))) (aV (tTupD (dCons (tV 17) (dCons (tV 18) (dNil)))) (aNil)))))) (sRet (tK (.bool false))) (sNx))
      (sSeq (sSet 19 (tCallD sp_left_of (aV (tV 6) (aV (tV 8) (aNil)))))
      (sSeq (sIf (tNotD (tTru (tCallD sp_law_same (aV (tCallD sp_left_of (aV (tV 11) (aV (tV 14) (aNil)))) (aV (tCallD sp_law_turned (aV (tV 19) (aV (tV 9) (aV (tV 10) (aNil))))) (aNil)))))) (sRet (tK (.bool false))) (sNx))
      (sSeq (sSet 20 (tCallD sp_tricks_of (aV (tV 4) (aV (tV 5) (aV (tV 8) (aNil))))))
      (sSeq (sIf (tNotD (tTru (tCallD sp_law_same (aV (tCallD sp_tricks_of (aV (tV 12) (aV (tV 13) (aV (tV 14) (aNil))))) (aV (tIfE (tBo (tOpD opEq (tOpD opMod (tV 10) (tK (.int 2))) (tK (.int 0)))) (tV 20) (tRevT (tV 20))) (aNil)))))) (sRet (tK (.bool false))) (sNx))
      (sIf (tNotD (tTru (tCallD sp_law_best_holds (aV (tV 6) (aV (tV 4) (aV (tV 5) (aV (tV 8) (aV (tTupD (dCons (tV 9) (dCons (tV 10) (dCons (tV 11) (dCons (tV 12) (dCons (tV 13) (dCons (tV 14) (dNil)))))))) (aNil))))))))) (sRet (tK (.bool false))) (sNx)))))))))))))))))))
      (sRet (tK (.bool true))))
def spLaw : SpD := fun ss Q => ∃ ns : List Int, ss = [.d (.list (ns.map PyData.int))] ∧ ns.length ≤ 63 ∧ Q (.bool true) []
theorem sh_law : ∀ ss QD, spLaw ss QD → ss.length = 1 ∧ mpos 0 ss = [] := by rintro ss QD ⟨ns, rfl, _⟩; exact ⟨rfl, rfl⟩
def oF (os : List Int) (s : Int) : Int := os.getD s.toNat 0
theorem at_os {os : List Int} {s : Int} {Q : D → Prop} (h0 : 0 ≤ s) (h : s.toNat < os.length) (q : Q (.int (oF os s))) : atD (os.map PyData.int) s Q :=
  atD_at h0 (by rw [List.getElem?_map, List.getElem?_eq_getElem h]; unfold oF; rw [List.getD_eq_getElem?_getD, List.getElem?_eq_getElem h]; rfl) q
def turnH (os : List Int) (τ : Nat) (hs : List (List Card)) : List (List Card) := (List.range 4).map fun p : Nat => sortC ((handAt hs (((p : Int) - (τ : Int)) % 4).toNat).map (suC (oF os)))
theorem turnH_len (os : List Int) (τ : Nat) (hs : List (List Card)) : (turnH os τ hs).length = 4 := rfl
theorem turnH_at (os : List Int) {τ : Nat} (ht : τ < 4) (hs : List (List Card)) {p : Nat} (hp : p < 4) : handAt (turnH os τ hs) ((p + τ) % 4) = sortC ((handAt hs p).map (suC (oF os))) := by
  unfold turnH
  have h4 : (p + τ) % 4 < 4 := by omega
  unfold handAt
  rw [List.getD_eq_getElem?_getD, List.getElem?_map, List.getElem?_range h4]
  show sortC ((hs.getD (((((p + τ) % 4 : Nat) : Int) - (τ : Int)) % 4).toNat []).map _) = _
  rw [show (((((p + τ) % 4 : Nat) : Int) - (τ : Int)) % 4).toNat = p by omega]
def spTurned : SpD := fun ss Q => ∃ (hs : List (List Card)) (os : List Int) (τ : Nat), ss = [.d (dealT hs), .d (.list (os.map PyData.int)), .d (.int (τ : Int))] ∧ hs.length = 4 ∧ os.length = 5 ∧ τ < 4 ∧ (∀ h ∈ hs, h.length ≤ 13 ∧ ∀ c ∈ h, 0 ≤ c.1 ∧ c.1 ≤ 3) ∧ Q (dealT (turnH os τ hs)) []
theorem sh_law_turned : ∀ ss QD, spTurned ss QD → ss.length = 3 ∧ mpos 0 ss = [] := by rintro ss QD ⟨_, _, _, rfl, _⟩; exact ⟨rfl, rfl⟩
theorem sSet_t {i : Nat} {t : TD} {DE : EndsD} {E : Env} (h : t E fun x E1 => DE.nx (E1.set i (.d x))) : sSet i t DE E := h
theorem rd_law_turned_k15 : ∀ ss QD, spTurned ss QD → tb_law_turned_k15 { nx := fun E' => finO [] E' (QD .none), rt := fun d E' => finO [] E' (QD d) } (ss ++ List.replicate 5 .un) := by
  rintro ss QD ⟨hs, os, τ, rfl, h4, h5, ht, hh, q⟩
  unfold tb_law_turned_k15
  refine seq_step fun R hR => ?_
  walk_at "dl"
  refine comp_map (E1 := [.d (dealT hs), .d (.list (os.map PyData.int)), .d (.int (τ : Int)), .un, .un, .un, .un, .un]) hs handD (fun h => handD (sortC (h.map (suC (oF os))))) (fun Q h => ?_) (un1 rfl) (small_line (by omega)) (fun h hm R3 hq3 => ?_) ?_
  · unfold dealT; walk_at "dl"; exact h
  · obtain ⟨hl, hc⟩ := hh h hm
    walk_at "dl"
    refine comp_map (E1 := [.d (dealT hs), .d (.list (os.map PyData.int)), .d (.int (τ : Int)), .un, .d (handD h), .un, .un, .un]) h cE (fun c => cE (suC (oF os) c)) (fun Q h => ?_) (un2 rfl rfl) (small_line (by omega)) (fun c hcm R4 hq4 => ?_) ?_
    · unfold handD; walk_at "dl"; exact h
    · obtain ⟨c0, c3⟩ := hc c hcm
      rw [show cE c = .tuple [.int c.1, .int c.2] from rfl]
      walk_at "dl"
      refine at_os c0 (by omega) ?_
      exact ⟨small_line (by decide), hq4 _ rfl⟩
    · rw [show h.map (fun c => cE (suC (oF os) c)) = (h.map (suC (oF os))).map cE by rw [List.map_map]; rfl]
      refine ⟨sortOk_cards _, ?_⟩
      rw [sort_cards]
      exact hq3 _ rfl
  · refine hR _ ?_
    walk_at "dl"
    refine comp_map (E1 := [.d (dealT hs), .d (.list (os.map PyData.int)), .d (.int (τ : Int)), .d (.list (hs.map fun h => handD (sortC (h.map (suC (oF os)))))), .un, .un, .un, .un]) (List.range 4) (fun i : Nat => .int (i : Int)) (fun p : Nat => handD (sortC ((handAt hs (((p : Int) - (τ : Int)) % 4).toNat).map (suC (oF os))))) (fun Q h => ⟨⟨by decide, by decide⟩, by rw [show (4 : Int).toNat = 4 from rfl, show rangeD 0 4 = (List.range 4).map fun i : Nat => PyData.int (i : Int) from rfl]; exact h⟩) (un1 rfl) (small_line (by decide)) (fun p hp R3 hq3 => ?_) ?_
    · have hp := List.mem_range.mp hp
      walk_at "dl"
      refine ⟨by decide, atD_at (by omega) (d := handD (sortC ((handAt hs (((p : Int) - (τ : Int)) % 4).toNat).map (suC (oF os))))) ?_ (hq3 _ rfl)⟩
      have hk : (((p : Int) - (τ : Int)) % 4).toNat < hs.length := by omega
      rw [List.getElem?_map, List.getElem?_eq_getElem hk]
      unfold handAt
      rw [List.getD_eq_getElem?_getD, List.getElem?_eq_getElem hk]; rfl
    · refine (show QD (.tuple ((List.range 4).map _)) [] from ?_)
      rw [show (List.range 4).map (fun p : Nat => handD (sortC ((handAt hs (((p : Int) - (τ : Int)) % 4).toNat).map (suC (oF os))))) = (turnH os τ hs).map handD by unfold turnH; rw [List.map_map]; rfl]
      exact q
/-- the rest of what is asked: the best -/
def spBestH : SpD := fun ss Q => ∃ (R : Nat) (hs : List (List Card)) (st ld : Int) (cs : List Card) (os : List Int) (τ : Nat) (st' ld' : Int), ss = [.d (dealT hs), .d (.int st), .d (.int ld), .d (handD cs), .d (.tuple [.list (os.map PyData.int), .int (τ : Int), dealT (turnH os τ hs), .int st', .int ld', handD (cs.map (suC (oF os)))])] ∧ DealOk R hs ∧ Apart hs ∧ DealOk R (turnH os τ hs) ∧ Apart (turnH os τ hs) ∧ Turned (oF os) τ hs (turnH os τ hs) st st' ld ld' ∧ PReach R hs st ld cs ∧ 4 * R - cs.length ≤ 12 ∧ os.length = 5 ∧ Q (.bool true) []
theorem sh_law_best_holds : ∀ ss QD, spBestH ss QD → ss.length = 5 ∧ mpos 0 ss = [] := by rintro ss QD ⟨_, _, _, _, _, _, _, _, _, rfl, _⟩; exact ⟨rfl, rfl⟩
theorem up_left {hs : List (List Card)} (u : ∀ p, (handAt hs p).Pairwise fun x y => le2 x y = true) (cs : List Card) (p : Nat) : (handAt (leftF hs cs) p).Pairwise fun x y => le2 x y = true := by
  rw [leftAt]; exact (u p).filter _
theorem turnH_up (os : List Int) (τ : Nat) (hs : List (List Card)) (p : Nat) : (handAt (turnH os τ hs) p).Pairwise fun x y => le2 x y = true := by
  rcases Nat.lt_or_ge p 4 with h | h
  · unfold turnH handAt
    rw [List.getD_eq_getElem?_getD, List.getElem?_map, List.getElem?_range h]
    exact sortC_up _
  · unfold handAt
    rw [List.getD_eq_getElem?_getD, List.getElem?_eq_none (by rw [turnH_len]; exact h)]
    exact List.Pairwise.nil
theorem mayF_up {hs : List (List Card)} (u : ∀ p, (handAt hs p).Pairwise fun x y => le2 x y = true) (st ld : Int) (cs : List Card) : (mayF hs st ld cs).Pairwise fun x y => le2 x y = true := by
  unfold mayF
  rw [← leftAt]
  exact follows_up (up_left u cs _)
theorem bestC_up {hs : List (List Card)} (u : ∀ p, (handAt hs p).Pairwise fun x y => le2 x y = true) (R : Nat) (st ld : Int) (cs : List Card) : (bestC R hs st ld cs).Pairwise fun x y => le2 x y = true := by
  unfold bestC
  split
  · exact List.Pairwise.nil
  · exact (mayF_up u st ld cs).filter _
theorem sort_is {a b : List Card} (p : a.Perm b) (u : a.Pairwise fun x y => le2 x y = true) : sortC b = a := (sort_uniq (p.trans (sortC_perm b).symm) u (sortC_up b)).symm
theorem tCpt {tl : TLd} {E : Env} {Q : D → Env → Prop} (h : tl E fun xs E1 => Q (.tuple xs) E1) : tCa1 caTuple (tFzD tl) E Q := h
theorem tCpl {tl : TLd} {E : Env} {Q : D → Env → Prop} (h : tl E fun xs E1 => sortOk xs ∧ Q (.tuple (sortD false xs)) E1) : tCa1 caTuple (tFzD (tCaL1 caSorted (tFzD tl))) E Q := h
theorem best_lenV {R : Nat} {hs : List (List Card)} {st ld : Int} {cs : List Card} (hd : DealOk R hs) : (bestC R hs st ld cs).length ≤ 13 := by
  have hml := mayF_len (st := st) (ld := ld) (cs := cs) hd
  unfold bestC
  split
  · simp
  · have := List.length_filter_le (fun c => decide (bestV R hs st ld (cs ++ [c]) = bestV R hs st ld cs)) (mayF hs st ld cs); omega
theorem best_su {o : Int → Int} {τ R : Nat} {hs hs' : List (List Card)} {st st' ld ld' : Int} {cs : List Card} (t : Turned o τ hs hs' st st' ld ld') : ∀ c ∈ mayF hs st ld cs, 0 ≤ c.1 ∧ c.1 ≤ 3 := fun c hc => t.suits _ c (mayF_sub hc).1
theorem bestC_sub {R : Nat} {hs : List (List Card)} {st ld : Int} {cs : List Card} : ∀ c ∈ bestC R hs st ld cs, c ∈ mayF hs st ld cs := fun c hc => by
  unfold bestC at hc
  split at hc
  · cases hc
  · exact (List.mem_filter.mp hc).1
theorem rd_law_best_holds_k15 : ∀ ss QD, spBestH ss QD → tb_law_best_holds_k15 spBestC (spSame 4) spBestT { nx := fun E' => finO [] E' (QD .none), rt := fun d E' => finO [] E' (QD d) } (ss ++ List.replicate 12 .un) := by
  rintro ss QD ⟨R, hs, st, ld, cs, os, τ, st', ld', rfl, hd, ap, hd', ap', tn, hr, hn, h5, q⟩
  have hb : 0 ≤ ld ∧ ld < 4 := ⟨tn.l0, tn.l1⟩
  have hb' : 0 ≤ ld' ∧ ld' < 4 := by rw [tn.eld]; omega
  have hr' := (tn.all ap hr).2
  have ht := tn.tau
  have h4 := hd.four
  have ha0 := hd.at (p := 0) (by decide)
  have hbl := best_lenV (st := st) (ld := ld) (cs := cs) hd
  have hbl' := best_lenV (st := st') (ld := ld') (cs := cs.map (suC (oF os))) hd'
  have eb := tn.best hd ap hr
  have ec := sort_is (tn.bestCs hd ap hr) (bestC_up (turnH_up os τ hs) R st' ld' _)
  unfold tb_law_best_holds_k15
  refine seq_step fun R2 hR2 => ?_
  walk_at "dl"
  refine ⟨R, hs, st, ld, cs, rfl, hd, ap, hb, hr, hn, ?_⟩
  walk_at "dl"
  refine ⟨R, hs, st, ld, cs, rfl, hd, ap, hb, hr, hn, ?_⟩
  walk_at "dl"
  refine hR2 _ ?_
  clear hR2
  refine seq_step fun R2 hR2 => ?_
  walk_at "dl"
  refine hR2 _ ?_
  clear hR2
  refine seq_step fun R2 hR2 => ?_
  have key : R2 [.d (dealT hs), .d (.int st), .d (.int ld), .d (handD cs), .d (.tuple [.list (os.map PyData.int), .int (τ : Int), dealT (turnH os τ hs), .int st', .int ld', handD (cs.map (suC (oF os)))]), .d (.int (bestV R hs st ld cs)), .d (handD (bestC R hs st ld cs)), .d (.list (os.map PyData.int)), .d (.int (τ : Int)), .d (dealT (turnH os τ hs)), .d (.int st'), .d (.int ld'), .d (handD (cs.map (suC (oF os)))), .d (.int (turnV τ R (bestV R hs st ld cs))), .un, .un, .un] := by
    refine hR2 _ ?_
    clear hR2
    refine seq_step fun R2 hR2 => ?_
    walk_at "dl"
    refine ⟨R, turnH os τ hs, st', ld', cs.map (suC (oF os)), rfl, hd', ap', hb', hr', by rw [List.length_map]; exact hn, ?_⟩
    rw [eb]
    walk_at "dl"
    refine ⟨_, rfl, rfl, ?_⟩
    walk_at "dl"
    refine hR2 _ ?_
    clear hR2
    refine seq_step fun R2 hR2 => ?_
    refine sSet_t (tCpl (comp_map (E1 := [.d (dealT hs), .d (.int st), .d (.int ld), .d (handD cs), .d (.tuple [.list (os.map PyData.int), .int (τ : Int), dealT (turnH os τ hs), .int st', .int ld', handD (cs.map (suC (oF os)))]), .d (.int (bestV R hs st ld cs)), .d (handD (bestC R hs st ld cs)), .d (.list (os.map PyData.int)), .d (.int (τ : Int)), .d (dealT (turnH os τ hs)), .d (.int st'), .d (.int ld'), .d (handD (cs.map (suC (oF os)))), .d (.int (turnV τ R (bestV R hs st ld cs))), .un, .un, .un]) (bestC R hs st ld cs) cE (fun c => cE (suC (oF os) c)) (fun Q h => h) (un2 rfl rfl) (small_line (by omega)) (fun c hc R8 hq8 => ?_) ?_))
    · obtain ⟨c0, c3⟩ := best_su (R := R) tn c (bestC_sub c hc)
      rw [show cE c = .tuple [.int c.1, .int c.2] from rfl]
      walk_at "dl"
      refine at_os c0 (by omega) ?_
      exact ⟨small_line (by decide), hq8 _ rfl⟩
    · rw [show (bestC R hs st ld cs).map (fun c => cE (suC (oF os) c)) = ((bestC R hs st ld cs).map (suC (oF os))).map cE by rw [List.map_map]; rfl, sort_cards, ec]
      refine ⟨sortOk_cards _, hR2 _ ?_⟩
      clear hR2
      walk_at "dl"
      refine ⟨R, turnH os τ hs, st', ld', cs.map (suC (oF os)), rfl, hd', ap', hb', hr', by rw [List.length_map]; exact hn, ?_⟩
      walk_at "dl"
      exact ⟨_, rfl, same_handP 2 (by omega), q⟩
  walk_at "dl"
  refine ⟨by decide, ?_⟩
  unfold turnV at key
  by_cases z : τ % 2 = 0
  · rw [if_pos z] at key
    rw [if_pos (by omega)]
    exact key
  · rw [if_neg z] at key
    rw [if_neg (by omega)]
    unfold dealT handD at *
    walk_at "dl"
    refine at_hand (by decide) (by rw [h4]; decide) ?_
    unfold handD
    walk_at "dl"
    rw [List.length_map, show Int.toNat 0 = 0 from rfl, ha0]
    exact key
theorem deals_ext {a b : List (List Card)} (ha : a.length = 4) (hb : b.length = 4) (h : ∀ p, p < 4 → handAt a p = handAt b p) : a = b := by
  refine List.ext_getElem (by omega) fun i h1 h2 => ?_
  have := h i (by omega)
  unfold handAt at this
  rw [List.getD_eq_getElem?_getD, List.getElem?_eq_getElem h1, List.getD_eq_getElem?_getD, List.getElem?_eq_getElem h2] at this
  exact this
theorem allC_suit {R : Nat} {c : Card} (h : c ∈ allC R) : 0 ≤ c.1 ∧ c.1 ≤ 3 := by
  unfold allC at h
  obtain ⟨s, hs, h⟩ := List.mem_flatMap.mp h
  obtain ⟨r, _, rfl⟩ := List.mem_map.mp h
  have := List.mem_range.mp hs
  show 0 ≤ (s : Int) ∧ (s : Int) ≤ 3
  omega
theorem os_inj {zs : List Int} (hz : zs.Perm [0, 1, 2, 3]) : ∀ a b : Int, 0 ≤ a → a ≤ 4 → 0 ≤ b → b ≤ 4 → oF (zs ++ [4]) a = oF (zs ++ [4]) b → a = b := by
  have nd : (zs ++ [4]).Nodup := by
    refine List.nodup_append.mpr ⟨hz.nodup_iff.mpr (by decide), by simp, fun x hx y hy e => ?_⟩
    rw [List.mem_singleton.mp hy] at e
    subst e
    exact absurd (hz.mem_iff.mp hx) (by decide)
  have hl : (zs ++ [4]).length = 5 := by rw [List.length_append, hz.length_eq]; rfl
  intro a b a0 a4 b0 b4 e
  unfold oF at e
  have ha : a.toNat < (zs ++ [4]).length := by omega
  have hb : b.toNat < (zs ++ [4]).length := by omega
  rw [List.getD_eq_getElem?_getD, List.getElem?_eq_getElem ha, List.getD_eq_getElem?_getD, List.getElem?_eq_getElem hb] at e
  have pw := List.pairwise_iff_getElem.mp nd
  have e : (zs ++ [4])[a.toNat] = (zs ++ [4])[b.toNat] := e
  rcases Nat.lt_trichotomy a.toNat b.toNat with h | h | h
  · exact absurd e (pw _ _ ha hb h)
  · omega
  · exact absurd e.symm (pw _ _ hb ha h)
section
variable {R τ : Nat} {h0 h1 h2 h3 : List Card} {zs : List Int} {st ld : Int}
theorem turned_of (hdl : Deal R h0 h1 h2 h3) (hz : zs.Perm [0, 1, 2, 3]) (ht : τ < 4) (s0 : 0 ≤ st) (s5 : st < 5) (l0 : 0 ≤ ld) (l4 : ld < 4) : Turned (oF (zs ++ [4])) τ [h0, h1, h2, h3] (turnH (zs ++ [4]) τ [h0, h1, h2, h3]) st (oF (zs ++ [4]) st) ld ((ld + (τ : Int)) % 4) := by
  refine ⟨rfl, rfl, os_inj hz, fun p c hc => ?_, s0, by omega, rfl, l0, l4, rfl, ht, fun p hp => ?_⟩
  · refine allC_suit (R := R) (hdl.all.mem_iff.mp ?_)
    have hp : p < 4 := by
      rcases Nat.lt_or_ge p 4 with h | h
      · exact h
      · unfold handAt at hc; rw [List.getD_eq_getElem?_getD, List.getElem?_eq_none (by simpa using h)] at hc; cases hc
    have : p = 0 ∨ p = 1 ∨ p = 2 ∨ p = 3 := by omega
    simp only [List.mem_append]
    rcases this with rfl | rfl | rfl | rfl
    · exact .inl (.inl (.inl hc))
    · exact .inl (.inl (.inr hc))
    · exact .inl (.inr hc)
    · exact .inr hc
  · rw [turnH_at _ ht _ hp]; exact sortC_perm _
theorem Turned.ok {o : Int → Int} {hs hs' : List (List Card)} {st st' ld ld' : Int} (t : Turned o τ hs hs' st st' ld ld') (hd : DealOk R hs) (ap : Apart hs) : DealOk R hs' ∧ Apart hs' := by
  have ht := t.tau
  have at' : ∀ q, q < 4 → (handAt hs' q).Perm ((handAt hs ((q + 4 - τ) % 4)).map (suC o)) := fun q hq => by
    have := t.hand ((q + 4 - τ) % 4) (by omega)
    rw [show ((q + 4 - τ) % 4 + τ) % 4 = q by omega] at this
    exact this
  have lt4 : ∀ p c, c ∈ handAt hs' p → p < 4 := fun p c hc => by
    rcases Nat.lt_or_ge p 4 with h | h
    · exact h
    · unfold handAt at hc; rw [List.getD_eq_getElem?_getD, List.getElem?_eq_none (by rw [t.four']; exact h)] at hc; cases hc
  refine ⟨⟨t.four', fun h hm => ?_, hd.lo, hd.hi⟩, fun p q c hp hq => ?_, fun p => ?_⟩
  · obtain ⟨i, hi, rfl⟩ := List.getElem_of_mem hm
    have := at' i (by rw [← t.four']; exact hi)
    unfold handAt at this
    rw [List.getD_eq_getElem?_getD, List.getElem?_eq_getElem hi] at this
    have e := this.length_eq
    rw [List.length_map] at e
    exact e.trans (hd.at (p := (i + 4 - τ) % 4) (by omega))
  · have p4 := lt4 p c hp
    have q4 := lt4 q c hq
    obtain ⟨a, ha, ea⟩ := List.mem_map.mp ((at' p p4).mem_iff.mp hp)
    obtain ⟨b, hb, eb⟩ := List.mem_map.mp ((at' q q4).mem_iff.mp hq)
    have e : a = b := t.good.inj _ _ (t.suits _ a ha) (t.suits _ b hb) (ea.trans eb.symm)
    subst e
    have := ap.one _ _ _ ha hb
    omega
  · rcases Nat.lt_or_ge p 4 with h | h
    · refine (at' p h).nodup_iff.mpr ?_
      have nd := ap.nd ((p + 4 - τ) % 4)
      have su := fun c hc => t.suits ((p + 4 - τ) % 4) c hc
      generalize handAt hs ((p + 4 - τ) % 4) = H at nd su
      induction H with
      | nil => exact List.nodup_nil
      | cons a l ih =>
        obtain ⟨n1, n2⟩ := List.nodup_cons.mp nd
        rw [List.map_cons, List.nodup_cons]
        refine ⟨fun z => ?_, ih n2 fun c hc => su c (List.mem_cons_of_mem _ hc)⟩
        obtain ⟨b, hb, e⟩ := List.mem_map.mp z
        rw [t.good.inj _ _ (su b (List.mem_cons_of_mem _ hb)) (su a (List.mem_cons_self ..)) e] at hb
        exact n1 hb
    · unfold handAt; rw [List.getD_eq_getElem?_getD, List.getElem?_eq_none (by rw [t.four']; exact h)]; exact List.nodup_nil
end
theorem left_turn {os : List Int} {τ R : Nat} {hs : List (List Card)} {st st' ld ld' : Int} {cs : List Card} (t : Turned (oF os) τ hs (turnH os τ hs) st st' ld ld') (h : PReach R hs st ld cs) : leftF (turnH os τ hs) (cs.map (suC (oF os))) = turnH os τ (leftF hs cs) := by
  have ht := t.tau
  refine deals_ext (by unfold leftF; rw [List.length_map]; rfl) rfl fun q hq => ?_
  have e : ((q + 4 - τ) % 4 + τ) % 4 = q := by omega
  have a1 := turnH_at os ht (leftF hs cs) (p := (q + 4 - τ) % 4) (by omega)
  have a2 := t.left h (p := (q + 4 - τ) % 4) (by omega)
  rw [e] at a1 a2
  rw [a1]
  exact (sort_is a2 (up_left (turnH_up os τ hs) _ _)).symm
theorem rd_law_k15 : ∀ ss QD, spLaw ss QD → tb_law_k15 spBestH spTricks (spSame 4) spTurned spLeft spMayP spTurn spPF spMixed spDraw spDrawnQ spDeal spPick { nx := fun E' => finO [] E' (QD .none), rt := fun d E' => finO [] E' (QD d) } (ss ++ List.replicate 22 .un) := by
  rintro ss QD ⟨ns, rfl, hn, q⟩
  unfold tb_law_k15
  refine seq_step fun R hR => ?_
  walk_at "dl"
  refine ⟨small_line (by decide), hR _ ?_⟩
  clear hR
  refine seq_step fun R hR => ?_
  refine for_inv (ds := rangeD 0 4) (E1 := [.d (.list (ns.map PyData.int)), .ol [], .un, .un, .un, .un, .un, .un, .un, .un, .un, .un, .un, .un, .un, .un, .un, .un, .un, .un, .un, .un, .un]) (fun Q h => ⟨⟨by decide, by decide⟩, h⟩)
    (fun i E => ∃ t a2 a3 a4 a5 a6 a7 a8 a9 a10 a11 a12 a13 a14 a15 a16 a17 a18 a19 a20, E = [.d (.list (ns.map PyData.int)), .ol t, a2, a3, a4, a5, a6, a7, a8, a9, a10, a11, a12, a13, a14, a15, a16, a17, a18, a19, a20, .un, .un] ∧ TownOk t (2000 * i)) ⟨_, _, _, _, _, _, _, _, _, _, _, _, _, _, _, _, _, _, _, _, rfl, by decide, .inl rfl⟩ (fun i d E hd hE R2 hR2 => ?_) (fun E hE => ?_)
  · obtain ⟨t, a2, a3, a4, a5, a6, a7, a8, a9, a10, a11, a12, a13, a14, a15, a16, a17, a18, a19, a20, rfl, ht⟩ := hE
    have hi : i < 4 := by have := (List.getElem?_eq_some_iff.mp hd).1; rwa [rangeD_length] at this
    refine seq_step fun R3 hR3 => ?_
    walk_at "dl"
    refine ⟨small_line (by decide), ns, t, _, _, _, rfl, .inl rfl, List.cons_ne_nil _ _, hn, ht, by omega, fun x t1 hx ht1 => ?_⟩
    have hx : x ∈ ([1, 2, 3, 4] : List Nat).map (fun n : Nat => PyData.int (n : Int)) := hx
    obtain ⟨RR, hg, rfl⟩ := List.mem_map.mp hx
    have hnd := all_ndQ RR ((by decide : ∀ z ∈ ([1, 2, 3, 4] : List Nat), z ∈ ([1, 2, 3, 4, 5, 6, 13] : List Nat)) RR hg)
    have hRR := (by decide : ∀ z ∈ ([1, 2, 3, 4] : List Nat), 1 ≤ z ∧ z ≤ 4) RR hg
    walk_at "dl"
    refine ⟨ns, t1, 5, _, rfl, by decide, hn, ht1, by omega, fun st t2 hst0 hst1 ht2 => ?_⟩
    walk_at "dl"
    refine hR3 _ ?_
    clear hR3
    refine seq_step fun R3 hR3 => ?_
    walk_at "dl"
    refine ⟨ns, t2, 4, _, rfl, by decide, hn, ht2, by omega, fun ld t3 hld0 hld1 ht3 => ?_⟩
    walk_at "dl"
    refine ⟨ns, t3, RR, _, rfl, by omega, hn, ht3, by omega, fun h0 h1 h2 h3 t4 hdl ht4 => ?_⟩
    walk_at "dl"
    refine hR3 _ ?_
    clear hR3
    rw [show dealD h0 h1 h2 h3 = dealT [h0, h1, h2, h3] from rfl]
    have dok := deal_ok hdl hRR.1 (by omega)
    have ap := apart_of (hdl.all.nodup_iff.mpr hnd)
    have tno : ∀ {zs : List Int} {τ : Nat}, zs.Perm [0, 1, 2, 3] → τ < 4 → _ := fun {zs τ} hz ht => turned_of (st := st) (ld := ld) hdl hz ht hst0 hst1 hld0 hld1
    generalize [h0, h1, h2, h3] = hs at dok ap tno ⊢
    refine seq_step fun R3 hR3 => ?_
    walk_at "dl"
    refine ⟨cmul_small (by decide) (by omega), ns, t4, _, _, rfl, by omega, hn, ht4, by omega, fun r t5 hr0 hr1 ht5 => ?_⟩
    walk_at "dl"
    refine hR3 _ ?_
    clear hR3
    obtain ⟨M, hM⟩ : ∃ M : Nat, (if r < 4 * (RR : Int) - 9 then 4 * (RR : Int) - 9 else r) = (M : Int) := ⟨(if r < 4 * (RR : Int) - 9 then 4 * (RR : Int) - 9 else r).toNat, by split <;> omega⟩
    refine seq_step fun R3 hR3 => ?_
    walk_at "dl"
    refine ⟨cmul_small (by decide) (by omega), ?_⟩
    rw [hM]
    refine ⟨ns, t5, RR, hs, st, ld, M, _, rfl, dok, ap, ⟨hld0, hld1⟩, by split at hM <;> omega, hn, ht5, by omega, fun cs t6 hr hcl ht6 => ?_⟩
    have h12 : 4 * RR - cs.length ≤ 12 := by split at hM <;> omega
    have hlen := hr.len
    have h4 := dok.four
    walk_at "dl"
    refine hR3 _ ?_
    clear hR3
    refine seq_step fun R3 hR3 => ?_
    walk_at "dl"
    refine ⟨small_line (by decide), ns, t6, [.int 0, .int 1, .int 2, .int 3], _, rfl, hn, by decide, ht6, by omega, fun ys t7 hp ht7 => ?_⟩
    obtain ⟨zs, hz, rfl⟩ := perm_map_inv (f := PyData.int) hp [0, 1, 2, 3] rfl
    have hzl : zs.length = 4 := hz.length_eq
    have ht7 : TownOk t7 (2000 * i + 1000) := ht7.mono (by simp only [List.length_cons, List.length_nil]; omega)
    walk_at "dl"
    refine ⟨small_line (by decide), small_line (by rw [List.length_map]; omega), ns, t7, 4, _, rfl, by decide, hn, ht7, by omega, fun tu t8 htu0 htu1 ht8 => ?_⟩
    walk_at "dl"
    refine hR3 _ ?_
    clear hR3
    obtain ⟨τ, rfl⟩ : ∃ τ : Nat, tu = (τ : Int) := ⟨tu.toNat, by omega⟩
    have tn := tno hz (show τ < 4 by omega)
    clear tno
    rw [show zs.map PyData.int ++ [PyData.int 4] = (zs ++ [4]).map PyData.int by rw [List.map_append]; rfl]
    have h5 : (zs ++ [4]).length = 5 := by rw [List.length_append, hz.length_eq]; rfl
    generalize zs ++ [4] = os at tn h5 ⊢
    have tau := tn.tau
    obtain ⟨dok', ap'⟩ := tn.ok dok ap
    obtain ⟨ww, hr'⟩ := tn.all ap hr
    have hld' : 0 ≤ (ld + (τ : Int)) % 4 ∧ (ld + (τ : Int)) % 4 < 4 := by omega
    have hlen' : (cs.map (suC (oF os))).length = cs.length := List.length_map ..
    refine seq_step fun R3 hR3 => ?_
    walk_at "dl"
    refine ⟨hs, os, τ, rfl, h4, h5, tau, fun h hm => ⟨by have := dok.each h hm; omega, fun c hc => ?_⟩, ?_⟩
    · obtain ⟨p, hp, rfl⟩ := List.getElem_of_mem hm
      refine tn.suits p c ?_
      unfold handAt
      rw [List.getD_eq_getElem?_getD, List.getElem?_eq_getElem hp]; exact hc
    walk_at "dl"
    refine at_os hst0 (by omega) ?_
    refine ⟨by decide, hR3 _ ?_⟩
    clear hR3
    refine seq_step fun R3 hR3 => ?_
    refine sSet_t (tCpt (comp_map (E1 := [.d (.list (ns.map PyData.int)), .ol t8, .d d, .d (.int (RR : Int)), .d (.int st), .d (.int ld), .d (dealT hs), .d (.int r), .d (handD cs), .d (.list (os.map PyData.int)), .d (.int (τ : Int)), .d (dealT (turnH os τ hs)), .d (.int (oF os st)), .d (.int ((ld + (τ : Int)) % 4)), a14, a15, a16, a17, a18, a19, a20, .un, .un]) cs cE (fun c => cE (suC (oF os) c)) (fun Q h => h) (un2 rfl rfl) (small_line (by omega)) (fun c hc R8 hq8 => ?_) ?_))
    · obtain ⟨c0, c3⟩ := hr.csu tn c hc
      rw [show cE c = .tuple [.int c.1, .int c.2] from rfl]
      walk_at "dl"
      refine at_os c0 (by omega) ?_
      exact ⟨small_line (by decide), hq8 _ rfl⟩
    refine hR3 _ ?_
    clear hR3
    rw [show PyData.tuple (cs.map (fun c => cE (suC (oF os) c))) = handD (cs.map (suC (oF os))) by unfold handD; rw [List.map_map]; rfl]
    refine seq_step fun R3 hR3 => ?_
    walk_at "dl"
    refine ⟨RR, turnH os τ hs, oF os st, (ld + (τ : Int)) % 4, (cs.map (suC (oF os))).map cE, rfl, dok', by rw [List.length_map]; omega, fun x hx => ?_, fun o ho => ?_⟩
    · obtain ⟨c, _, rfl⟩ := List.mem_map.mp hx
      rfl
    rw [pf_one ho (.non hr')]
    walk_at "dl"
    refine hR3 _ ?_
    clear hR3
    refine seq_step fun R3 hR3 => ?_
    walk_at "dl"
    refine ⟨RR, hs, st, ld, cs, rfl, dok, by omega, ?_⟩
    walk_at "dl"
    refine ⟨RR, hs, st, ld, cs, rfl, dok, by omega, ?_⟩
    walk_at "dl"
    refine hR3 _ ?_
    clear hR3
    obtain ⟨F, F', hF, hF', hFl, hFs, hFF⟩ : ∃ F F' : List Card, (if cs.length = 4 * RR then PyData.tuple [] else handD (mayF hs st ld cs)) = handD F ∧ (if (cs.map (suC (oF os))).length = 4 * RR then PyData.tuple [] else handD (mayF (turnH os τ hs) (oF os st) ((ld + (τ : Int)) % 4) (cs.map (suC (oF os))))) = handD F' ∧ F.length ≤ 13 ∧ (∀ c ∈ F, 0 ≤ c.1 ∧ c.1 ≤ 3) ∧ sortC (F.map (suC (oF os))) = F' := by
      rw [hlen']
      by_cases g : cs.length = 4 * RR
      · exact ⟨[], [], by rw [if_pos g]; rfl, by rw [if_pos g]; rfl, by simp, (fun c hc => by cases hc), List.Perm.eq_nil (sortC_perm [])⟩
      · refine ⟨_, _, by rw [if_neg g], by rw [if_neg g], mayF_len dok, fun c hc => best_su (R := RR) tn c hc, sort_is (tn.may ap hr) (mayF_up (turnH_up os τ hs) _ _ _)⟩
    rw [hF]
    refine seq_step fun R3 hR3 => ?_
    have k2 : R3 [.d (.list (ns.map PyData.int)), .ol t8, .d d, .d (.int (RR : Int)), .d (.int st), .d (.int ld), .d (dealT hs), .d (.int r), .d (handD cs), .d (.list (os.map PyData.int)), .d (.int (τ : Int)), .d (dealT (turnH os τ hs)), .d (.int (oF os st)), .d (.int ((ld + (τ : Int)) % 4)), .d (handD (cs.map (suC (oF os)))), .d (turnN RR st ld cs), .d (handD F), .d (turnN RR (oF os st) ((ld + (τ : Int)) % 4) (cs.map (suC (oF os)))), a18, a19, a20, .un, .un] := by
      refine hR3 _ ?_
      clear hR3
      refine seq_step fun R3 hR3 => ?_
      refine sSet_t (tCpl (comp_map (E1 := [.d (.list (ns.map PyData.int)), .ol t8, .d d, .d (.int (RR : Int)), .d (.int st), .d (.int ld), .d (dealT hs), .d (.int r), .d (handD cs), .d (.list (os.map PyData.int)), .d (.int (τ : Int)), .d (dealT (turnH os τ hs)), .d (.int (oF os st)), .d (.int ((ld + (τ : Int)) % 4)), .d (handD (cs.map (suC (oF os)))), .d (turnN RR st ld cs), .d (handD F), .d (turnN RR (oF os st) ((ld + (τ : Int)) % 4) (cs.map (suC (oF os)))), a18, a19, a20, .un, .un]) F cE (fun c => cE (suC (oF os) c)) (fun Q h => h) (un2 rfl rfl) (small_line (by omega)) (fun c hc R8 hq8 => ?_) ?_))
      · obtain ⟨c0, c3⟩ := hFs c hc
        rw [show cE c = .tuple [.int c.1, .int c.2] from rfl]
        walk_at "dl"
        refine at_os c0 (by omega) ?_
        exact ⟨small_line (by decide), hq8 _ rfl⟩
      rw [show F.map (fun c => cE (suC (oF os) c)) = (F.map (suC (oF os))).map cE by rw [List.map_map]; rfl, sort_cards, hFF]
      refine ⟨sortOk_cards _, hR3 _ ?_⟩
      clear hR3
      have hFl' : F'.length ≤ 13 := by rw [← hFF, (sortC_perm _).length_eq, List.length_map]; exact hFl
      refine seq_step fun R3 hR3 => ?_
      walk_at "dl"
      refine ⟨RR, turnH os τ hs, oF os st, (ld + (τ : Int)) % 4, cs.map (suC (oF os)), rfl, dok', by omega, ?_⟩
      walk_at "dl"
      refine ⟨RR, turnH os τ hs, oF os st, (ld + (τ : Int)) % 4, cs.map (suC (oF os)), rfl, dok', by omega, ?_⟩
      rw [hF']
      walk_at "dl"
      refine ⟨small_line (by decide), small_line (by decide), _, rfl, ?_, ?_⟩
      · show ([turnN RR (oF os st) ((ld + (τ : Int)) % 4) (cs.map (suC (oF os))), handD F'].all (sameOk 3) && decide (2 ≤ 10000000)) = true
        rw [List.all_cons, List.all_cons, List.all_nil, same_handP 1 (by omega)]
        unfold turnN
        split <;> rfl
      walk_at "dl"
      refine hR3 _ ?_
      clear hR3
      refine seq_step fun R3 hR3 => ?_
      walk_at "dl"
      refine ⟨hs, cs, rfl, by omega, fun h hh => by have := dok.each h hh; omega, ?_⟩
      walk_at "dl"
      refine hR3 _ ?_
      clear hR3
      refine seq_step fun R3 hR3 => ?_
      walk_at "dl"
      refine ⟨turnH os τ hs, cs.map (suC (oF os)), rfl, by rw [turnH_len]; decide, fun h hh => by have := dok'.each h hh; omega, ?_⟩
      walk_at "dl"
      refine ⟨leftF hs cs, os, τ, rfl, by unfold leftF; rw [List.length_map]; exact h4, h5, tau, fun h hm => ?_, ?_⟩
      · unfold leftF at hm
        obtain ⟨g, hg, rfl⟩ := List.mem_map.mp hm
        have e := dok.each g hg
        have l := List.length_filter_le (fun c => decide (c ∉ cs)) g
        refine ⟨by omega, fun c hc => ?_⟩
        obtain ⟨p, hp, rfl⟩ := List.getElem_of_mem hg
        refine tn.suits p c ?_
        unfold handAt
        rw [List.getD_eq_getElem?_getD, List.getElem?_eq_getElem hp]; exact (List.mem_filter.mp hc).1
      rw [← left_turn tn hr]
      walk_at "dl"
      refine ⟨_, rfl, same_dealP 1 (by unfold leftF; rw [List.length_map, turnH_len]; decide) (fun h hm => ?_), ?_⟩
      · unfold leftF at hm
        obtain ⟨g, hg, rfl⟩ := List.mem_map.mp hm
        have e := dok'.each g hg
        have l := List.length_filter_le (fun c => decide (c ∉ cs.map (suC (oF os)))) g
        omega
      walk_at "dl"
      refine hR3 _ ?_
      clear hR3
      refine seq_step fun R3 hR3 => ?_
      walk_at "dl"
      refine ⟨st, ld, cs, rfl, by omega, ?_⟩
      walk_at "dl"
      refine hR3 _ ?_
      clear hR3
      refine seq_step fun R3 hR3 => ?_
      walk_at "dl"
      refine ⟨oF os st, (ld + (τ : Int)) % 4, cs.map (suC (oF os)), rfl, by omega, ?_⟩
      rw [ww]
      have fin : R3 [.d (.list (ns.map PyData.int)), .ol t8, .d d, .d (.int (RR : Int)), .d (.int st), .d (.int ld), .d (dealT hs), .d (.int r), .d (handD cs), .d (.list (os.map PyData.int)), .d (.int (τ : Int)), .d (dealT (turnH os τ hs)), .d (.int (oF os st)), .d (.int ((ld + (τ : Int)) % 4)), .d (handD (cs.map (suC (oF os)))), .d (turnN RR st ld cs), .d (handD F), .d (turnN RR (oF os st) ((ld + (τ : Int)) % 4) (cs.map (suC (oF os)))), .d (.tuple (F'.map cE)), .d (dealT (leftF hs cs)), .d (.tuple [.int (walkP st ld cs).w0, .int (walkP st ld cs).w1]), .un, .un] := by
        refine hR3 _ ?_
        clear hR3
        walk_at "dl"
        refine ⟨small_line (by decide), RR, hs, st, ld, cs, os, τ, oF os st, (ld + (τ : Int)) % 4, rfl, dok, ap, dok', ap', tn, hr, h12, h5, ?_⟩
        walk_at "dl"
        exact hR2 _ ⟨_, _, _, _, _, _, _, _, _, _, _, _, _, _, _, _, _, _, _, _, rfl, ht8.mono (by omega)⟩
      walk_at "dl"
      refine ⟨by decide, ?_⟩
      unfold tW
      by_cases z : τ % 2 = 0
      · rw [if_pos (by omega), if_pos z, if_pos z]
        exact ⟨_, rfl, rfl, trivial, fin⟩
      · rw [if_neg (by omega), if_neg z, if_neg z]
        exact ⟨_, rfl, rfl, trivial, fin⟩
    have et : turnN RR (oF os st) ((ld + (τ : Int)) % 4) (cs.map (suC (oF os))) = if cs.length = 4 * RR then .none else .int ((turnP st ld cs + (τ : Int)) % 4) := by
      unfold turnN
      rw [hlen', tn.turn ap hr]
    walk_at "dl"
    by_cases g : cs.length = 4 * RR
    · rw [if_pos g] at et
      rw [et] at k2
      unfold turnN at k2 ⊢
      rw [if_pos g] at k2 ⊢
      exact k2
    · rw [if_neg g] at et
      rw [et] at k2
      unfold turnN at k2 ⊢
      rw [if_neg g] at k2 ⊢
      exact ⟨by decide, k2⟩
  · obtain ⟨t, a2, a3, a4, a5, a6, a7, a8, a9, a10, a11, a12, a13, a14, a15, a16, a17, a18, a19, a20, rfl, ht⟩ := hE
    exact hR _ q
end DL
set_option Elab.async false
set_option linter.all false
set_option maxRecDepth 100000
set_option maxHeartbeats 4000000
namespace LW
open PySem PySem.Spec PyProof.Rows L2 DL
def topS (i : Nat) : Stmt := PySem.Challenge.pw_boardcalls_k15_whole_suits_exchanged.main.body.getD i (.Pass ⟨0, 0, 0, 0⟩)
section
variable {P : Program} {w : World} {K : PySem.W.Frag} {mg : Str → Option Value} {base : Heap}
abbrev s_left_of : Stmt := topS 3
abbrev N_left_of : List Str := ["deal", "cards", "hand", "card"]
theorem sc_left_of : FnScope N_left_of ["deal", "cards"] (defScope s_left_of) := ⟨rfl, rfl, rfl, by decide +kernel, rfl, by decide +kernel, by decide +kernel⟩
theorem dv_left_of {f : Addr} {k : Nat} (b_tuple : mg "tuple" = none) (cdv : Value) (A : Around) (outer : List PySem.Env) (s : Shared) (H : Hp) (E : XK) (hr : Room k (A.deeper (envOfC "left_of" (defScope s_left_of) s.heap.objs.size f cdv))) (G : Gh) (hG : G.slots = []) :
    SDs (cxOf CX0 P w K mg base N_left_of "left_of" (defScope s_left_of) f cdv A outer s H E).nox G (defBody s_left_of) (tb_left_of) := by
  unfold tb_left_of
  exact sds_one (sd_ret (ed_caT1 cd_tuple (ED.er (EL.ed (el_comp [("hand", 2)] rfl sc_left_of.nd rfl (nsA hG (by decide)) (id_tup (ed_var 0)) (blkOk_by (N := N_left_of) (sc := defScope s_left_of) (by decide +kernel)) (fun _ q1 _ _ _ _ _ => gd_name (ns (q1.trans hG) (by decide)) (by decide) sc_left_of.nd rfl (by first | exact Or.inl rfl | exact Or.inr rfl)) (fun _ q1 _ _ _ _ _ => ebs_nil) (fun _ q1 _ _ _ _ _ => ed_caT1 cd_tuple (ED.er (EL.ed (el_comp [("card", 3)] rfl sc_left_of.nd rfl (nsA (q1.trans hG) (by decide)) (id_tup (ed_var 2)) (blkOk_by rfl) (fun _ q2 _ _ _ _ _ => gd_name (ns (q2.trans (q1.trans hG)) (by decide)) (by decide) sc_left_of.nd rfl (by first | exact Or.inl rfl | exact Or.inr rfl)) (fun _ q2 _ _ _ _ _ => ebs_one (eb_cmp (od_notIn (u65 hr)) (ed_var 3) (ED.er (ed_var 1)) rfl)) (fun _ q2 _ _ _ _ _ => ed_var 3)))) rfl b_tuple bb_tuple)))) rfl b_tuple bb_tuple))
abbrev s_follow : Stmt := topS 9
abbrev N_follow : List Str := ["hand", "trick", "some", "card"]
theorem sc_follow : FnScope N_follow ["hand", "trick"] (defScope s_follow) := ⟨rfl, rfl, rfl, by decide +kernel, rfl, by decide +kernel, by decide +kernel⟩
theorem dv_follow {f : Addr} {k : Nat} (b_tuple : mg "tuple" = none) (cdv : Value) (A : Around) (outer : List PySem.Env) (s : Shared) (H : Hp) (E : XK) (hr : Room k (A.deeper (envOfC "follow" (defScope s_follow) s.heap.objs.size f cdv))) (G : Gh) (hG : G.slots = []) :
    SDs (cxOf CX0 P w K mg base N_follow "follow" (defScope s_follow) f cdv A outer s H E).nox G (defBody s_follow) (tb_follow) := by
  unfold tb_follow
  exact sds_cons (sd_set (ns hG (by decide)) sc_follow.nd rfl (by first | exact Or.inl rfl | exact Or.inr rfl) (ed_caT1 cd_tuple (ED.er (EL.ed (el_comp [("card", 3)] rfl sc_follow.nd rfl (nsA hG (by decide)) (id_tup (ed_var 0)) (blkOk_by (N := N_follow) (sc := defScope s_follow) (by decide +kernel)) (fun _ q1 _ _ _ _ _ => gd_name (ns (q1.trans hG) (by decide)) (by decide) sc_follow.nd rfl (by first | exact Or.inl rfl | exact Or.inr rfl)) (fun _ q1 _ _ _ _ _ => ebs_one (EW.eb (ew_and (eb_tru (ED.er (ed_var 1))) (ew_and1 (eb_cmp (od_eq hr.units) (ed_ix (ed_var 3) (ed_int)) (ED.er (ed_ix (ed_ix (ed_var 1) (ed_int)) (ed_int))) (nomark _)))))) (fun _ q1 _ _ _ _ _ => ed_var 3)))) rfl b_tuple bb_tuple))
      (sds_one (sd_ret (ed_orT (ed_var 2) (ed_one (ed_var 0)))))
abbrev s_winner_of : Stmt := topS 1
abbrev N_winner_of : List Str := ["strain", "leader", "trick", "best", "at", "suit", "rank"]
theorem sc_winner_of : FnScope N_winner_of ["strain", "leader", "trick"] (defScope s_winner_of) := ⟨rfl, rfl, rfl, by decide +kernel, rfl, by decide +kernel, by decide +kernel⟩
theorem dv_winner_of {f : Addr} {k : Nat} (b_range : mg "range" = none) (cdv : Value) (A : Around) (outer : List PySem.Env) (s : Shared) (H : Hp) (E : XK) (hr : Room k (A.deeper (envOfC "winner_of" (defScope s_winner_of) s.heap.objs.size f cdv))) (G : Gh) (hG : G.slots = []) :
    SDs (cxOf CX0 P w K mg base N_winner_of "winner_of" (defScope s_winner_of) f cdv A outer s H E).nox G (defBody s_winner_of) (tb_winner_of) := by
  unfold tb_winner_of
  exact sds_cons (sd_set (ns hG (by decide)) sc_winner_of.nd rfl (by first | exact Or.inl rfl | exact Or.inr rfl) (ed_int))
      (sds_cons (sd_for (ms := [4]) PassesOwn.never rfl (id_range2 rfl b_range (ed_int) (ed_int)) (gd_name (ns hG (by decide)) (by decide) sc_winner_of.nd rfl (by first | exact Or.inl rfl | exact Or.inr rfl)) (sds_cons (sd_asg (ms := [5, 6]) (ed_ix (ed_var 2) (ed_var 4)) (gd_tup rfl (gds_cons (gd_name (ns hG (by decide)) (by decide) sc_winner_of.nd rfl (by first | exact Or.inl rfl | exact Or.inr rfl)) (gds_cons (gd_name (ns hG (by decide)) (by decide) sc_winner_of.nd rfl (by first | exact Or.inl rfl | exact Or.inr rfl)) (gds_nil)))))
      (sds_one (sd_if (EW.eb (ew_or (EW.eb (ew_and (eb_cmp (od_eq hr.units) (ed_var 5) (ED.er (ed_ix (ed_ix (ed_var 2) (ed_var 3)) (ed_int))) (nomark _)) (ew_and1 (eb_cmp od_gt (ed_var 6) (ED.er (ed_ix (ed_ix (ed_var 2) (ed_var 3)) (ed_int))) (nomark _))))) (ew_or1 (EW.eb (ew_and (eb_cmp (od_eq hr.units) (ed_var 5) (ED.er (ed_var 0)) (nomark _)) (ew_and1 (eb_cmp (od_ne hr.units) (ed_ix (ed_ix (ed_var 2) (ed_var 3)) (ed_int)) (ED.er (ed_var 0)) (nomark _)))))))) (sds_one (sd_set (ns hG (by decide)) sc_winner_of.nd rfl (by first | exact Or.inl rfl | exact Or.inr rfl) (ed_var 4))) (sds_nil)))))
      (sds_one (sd_ret (ed_op od_mod (ed_op od_add (ed_var 1) (ED.er (ed_var 3))) (ED.er (ed_int))))))
abbrev s_without : Stmt := topS 10
abbrev N_without : List Str := ["hands", "player", "card", "hand", "one"]
theorem sc_without : FnScope N_without ["hands", "player", "card"] (defScope s_without) := ⟨rfl, rfl, rfl, by decide +kernel, rfl, by decide +kernel, by decide +kernel⟩
theorem dv_without {f : Addr} {k : Nat} (b_tuple : mg "tuple" = none) (cdv : Value) (A : Around) (outer : List PySem.Env) (s : Shared) (H : Hp) (E : XK) (hr : Room k (A.deeper (envOfC "without" (defScope s_without) s.heap.objs.size f cdv))) (G : Gh) (hG : G.slots = []) :
    SDs (cxOf CX0 P w K mg base N_without "without" (defScope s_without) f cdv A outer s H E).nox G (defBody s_without) (tb_without) := by
  unfold tb_without
  exact sds_cons (sd_set (ns hG (by decide)) sc_without.nd rfl (by first | exact Or.inl rfl | exact Or.inr rfl) (ed_caT1 cd_tuple (ED.er (EL.ed (el_comp [("one", 4)] rfl sc_without.nd rfl (nsA hG (by decide)) (id_tup (ed_ix (ed_var 0) (ed_var 1))) (blkOk_by (N := N_without) (sc := defScope s_without) (by decide +kernel)) (fun _ q1 _ _ _ _ _ => gd_name (ns (q1.trans hG) (by decide)) (by decide) sc_without.nd rfl (by first | exact Or.inl rfl | exact Or.inr rfl)) (fun _ q1 _ _ _ _ _ => ebs_one (eb_cmp (od_ne hr.units) (ed_var 4) (ED.er (ed_var 2)) (nomark _))) (fun _ q1 _ _ _ _ _ => ed_var 4)))) rfl b_tuple bb_tuple))
      (sds_one (sd_ret (ed_op od_add (ed_op od_add (ed_sl (ed_var 0) (eo_no) (eo_e (ed_var 1))) (ED.er (ed_tup (eds_cons (ed_var 3) (eds_nil))))) (ED.er (ed_sl (ed_var 0) (eo_e (ed_op od_add (ed_var 1) (ED.er (ed_int)))) (eo_no))))))
abbrev s_later : Stmt := topS 11
abbrev N_later : List Str := ["strain", "hands", "first", "trick", "known", "player", "key", "some", "card", "rest", "row", "winner"]
theorem sc_later : FnScope N_later ["strain", "hands", "first", "trick", "known"] (defScope s_later) := ⟨rfl, rfl, rfl, by decide +kernel, rfl, by decide +kernel, by decide +kernel⟩
theorem dv_later {f : Addr} {k : Nat} (b_max : mg "max" = none) (b_min : mg "min" = none) (b_len : mg "len" = none) (b_int : mg "int" = none) {sp_follow : SpD} {f_follow : Addr} {fd_follow : FuncData} {k_follow : Nat} (C_follow : FnOk P w K mg base CX0 k_follow f_follow fd_follow ["hand", "trick"] (spL K sp_follow)) (h_follow : k_follow ≤ k) (C_follow_g : mg "follow" = some (.ref f_follow)) (C_follow_k : PySem.W.keepIn K (.ref f_follow) = true) (C_follow_b : Binds K fd_follow ["hand", "trick"] []) {sp_later : SpD} {f_later : Addr} {fd_later : FuncData} {k_later : Nat} (C_later : FnOk P w K mg base CX0 k_later f_later fd_later ["strain", "hands", "first", "trick", "known"] (spL K sp_later)) (h_later : k_later ≤ k) (C_later_g : mg "later" = some (.ref f_later)) (C_later_k : PySem.W.keepIn K (.ref f_later) = true) (C_later_b : Binds K fd_later ["strain", "hands", "first", "trick", "known"] []) {sp_winner_of : SpD} {f_winner_of : Addr} {fd_winner_of : FuncData} {k_winner_of : Nat} (C_winner_of : FnOk P w K mg base CX0 k_winner_of f_winner_of fd_winner_of ["strain", "leader", "trick"] (spL K sp_winner_of)) (h_winner_of : k_winner_of ≤ k) (C_winner_of_g : mg "winner_of" = some (.ref f_winner_of)) (C_winner_of_k : PySem.W.keepIn K (.ref f_winner_of) = true) (C_winner_of_b : Binds K fd_winner_of ["strain", "leader", "trick"] []) {sp_without : SpD} {f_without : Addr} {fd_without : FuncData} {k_without : Nat} (C_without : FnOk P w K mg base CX0 k_without f_without fd_without ["hands", "player", "card"] (spL K sp_without)) (h_without : k_without ≤ k) (C_without_g : mg "without" = some (.ref f_without)) (C_without_k : PySem.W.keepIn K (.ref f_without) = true) (C_without_b : Binds K fd_without ["hands", "player", "card"] []) (cdv : Value) (A : Around) (outer : List PySem.Env) (s : Shared) (H : Hp) (E : XK) (hr : Room k (A.deeper (envOfC "later" (defScope s_later) s.heap.objs.size f cdv))) (G : Gh) (hG : G.slots = [4]) :
    SDs (cxOf CX0 P w K mg base N_later "later" (defScope s_later) f cdv A outer s H E).nox G (defBody s_later) (tb_later sp_follow sp_later sp_winner_of sp_without) := by
  unfold tb_later
  exact sds_cons (sd_set (ns hG (by decide)) sc_later.nd rfl (by first | exact Or.inl rfl | exact Or.inr rfl) (ed_op od_mod (ed_op od_add (ed_var 2) (ED.er (ed_ca1 cd_len (ED.er (ed_var 3)) rfl b_len bb_len))) (ED.er (ed_int))))
      (sds_cons (sd_if (EW.eb (ew_and (eb_cmp (od_eq hr.units) (ed_ix (ed_var 1) (ed_var 5)) (ED.er (ed_tup (eds_nil))) (nomark _)) (ew_and1 (eb_cmp (od_eq hr.units) (ed_var 3) (ED.er (ed_tup (eds_nil))) (nomark _))))) (sds_one (sd_ret (ed_int))) (sds_nil))
      (sds_cons (sd_set (ns hG (by decide)) sc_later.nd rfl (by first | exact Or.inl rfl | exact Or.inr rfl) (ed_tup (eds_cons (ed_var 1) (eds_cons (ed_var 2) (eds_cons (ed_var 3) (eds_nil))))))
      (sds_cons (sd_if (eb_notInN 4 (u65 hr) (ed_var 6)) (sds_cons (sd_setL (ns hG (by decide)) sc_later.nd rfl (by first | exact Or.inl rfl | exact Or.inr rfl) (el_lst (eds_nil)))
      (sds_cons (sd_for (ms := [8]) PassesOwn.never rfl (id_tup (ed_call C_follow (hr.mono h_follow) rfl C_follow_g C_follow_k C_follow_b (ea_v (ed_ix (ed_var 1) (ed_var 5)) (ea_v (ed_var 3) (ea_nil))))) (gd_name (ns hG (by decide)) (by decide) sc_later.nd rfl (by first | exact Or.inl rfl | exact Or.inr rfl)) (sds_cons (sd_par2 (nsA hG (by decide)) rfl sc_later.nd rfl rfl (by decide) rfl rfl (eps_d (ed_call C_without (hr.mono h_without) rfl C_without_g C_without_k C_without_b (ea_v (ed_var 1) (ea_v (ed_var 5) (ea_v (ed_var 8) (ea_nil))))) (eps_d (ed_op od_add (ed_var 3) (ED.er (ed_tup (eds_cons (ed_var 8) (eds_nil))))) (eps_nil))))
      (sds_one (sd_if (eb_cmp od_lt (ed_ca1 cd_len (ED.er (ed_var 10)) rfl b_len bb_len) (ED.er (ed_int)) (nomark _)) (sds_one (sd_expr (ed_app 7 (ed_call C_later (hr.mono h_later) rfl C_later_g C_later_k C_later_b (ea_v (ed_var 0) (ea_v (ed_var 9) (ea_v (ed_var 2) (ea_v (ed_var 10) (ea_o 4 (ea_nil)))))))))) (sds_cons (sd_set (ns hG (by decide)) sc_later.nd rfl (by first | exact Or.inl rfl | exact Or.inr rfl) (ed_call C_winner_of (hr.mono h_winner_of) rfl C_winner_of_g C_winner_of_k C_winner_of_b (ea_v (ed_var 0) (ea_v (ed_var 2) (ea_v (ed_var 10) (ea_nil))))))
      (sds_one (sd_expr (ed_app 7 (ed_op od_add (ed_caT1 cd_int (ED.er (ed_cmp (od_eq hr.units) (ed_op od_mod (ed_var 11) (ED.er (ed_int))) (ED.er (ed_int)) (nomark _))) rfl b_int bb_int) (ED.er (ed_call C_later (hr.mono h_later) rfl C_later_g C_later_k C_later_b (ea_v (ed_var 0) (ea_v (ed_var 9) (ea_v (ed_var 11) (ea_v (ed_tup (eds_nil)) (ea_o 4 (ea_nil)))))))))))))))))
      (sds_one (sd_dputV 4 (u65 hr) (ed_var 6) (ed_if (eb_cmp (od_eq hr.units) (ed_op od_mod (ed_var 5) (ED.er (ed_int))) (ED.er (ed_int)) (nomark _)) (ed_ca1 (cd_max rfl) (er_var 7) rfl b_max bb_max) (ed_ca1 (cd_min rfl) (er_var 7) rfl b_min bb_min)))))) (sds_nil))
      (sds_one (sd_ret (ed_dgetV 4 (u65 hr) (ed_var 6)))))))
abbrev s_walked : Stmt := topS 2
abbrev N_walked : List Str := ["strain", "leader", "cards", "won", "at"]
theorem sc_walked : FnScope N_walked ["strain", "leader", "cards"] (defScope s_walked) := ⟨rfl, rfl, rfl, by decide +kernel, rfl, by decide +kernel, by decide +kernel⟩
theorem dv_walked {f : Addr} {k : Nat} (b_tuple : mg "tuple" = none) (b_len : mg "len" = none) (b_range : mg "range" = none) {sp_winner_of : SpD} {f_winner_of : Addr} {fd_winner_of : FuncData} {k_winner_of : Nat} (C_winner_of : FnOk P w K mg base CX0 k_winner_of f_winner_of fd_winner_of ["strain", "leader", "trick"] (spL K sp_winner_of)) (h_winner_of : k_winner_of ≤ k) (C_winner_of_g : mg "winner_of" = some (.ref f_winner_of)) (C_winner_of_k : PySem.W.keepIn K (.ref f_winner_of) = true) (C_winner_of_b : Binds K fd_winner_of ["strain", "leader", "trick"] []) (cdv : Value) (A : Around) (outer : List PySem.Env) (s : Shared) (H : Hp) (E : XK) (hr : Room k (A.deeper (envOfC "walked" (defScope s_walked) s.heap.objs.size f cdv))) (G : Gh) (hG : G.slots = []) :
    SDs (cxOf CX0 P w K mg base N_walked "walked" (defScope s_walked) f cdv A outer s H E).nox G (defBody s_walked) (tb_walked sp_winner_of) := by
  unfold tb_walked
  exact sds_cons (sd_setL (ns hG (by decide)) sc_walked.nd rfl (by first | exact Or.inl rfl | exact Or.inr rfl) (el_lst (eds_cons (ed_int) (eds_cons (ed_int) (eds_nil)))))
      (sds_cons (sd_for (ms := [4]) PassesOwn.never rfl (id_range3 rfl b_range (ed_int) (ed_op od_sub (ed_ca1 cd_len (ED.er (ed_var 2)) rfl b_len bb_len) (ED.er (ed_int))) (ed_int)) (gd_name (ns hG (by decide)) (by decide) sc_walked.nd rfl (by first | exact Or.inl rfl | exact Or.inr rfl)) (sds_cons (sd_set (ns hG (by decide)) sc_walked.nd rfl (by first | exact Or.inl rfl | exact Or.inr rfl) (ed_call C_winner_of (hr.mono h_winner_of) rfl C_winner_of_g C_winner_of_k C_winner_of_b (ea_v (ed_var 0) (ea_v (ed_var 1) (ea_v (ed_sl (ed_var 2) (eo_e (ed_var 4)) (eo_e (ed_op od_add (ed_var 4) (ED.er (ed_int))))) (ea_nil))))))
      (sds_one (sd_setIx 3 (ed_op od_mod (ed_var 1) (ED.er (ed_int))) (ed_op od_add (ed_ixO 3 (ed_op od_mod (ed_var 1) (ED.er (ed_int)))) (ED.er (ed_int)))))))
      (sds_one (sd_ret (ed_tup (eds_cons (ed_var 1) (eds_cons (ed_sl (ed_var 2) (eo_e (ed_op od_mul (ed_op od_div (ed_ca1 cd_len (ED.er (ed_var 2)) rfl b_len bb_len) (ED.er (ed_int))) (ED.er (ed_int)))) (eo_no)) (eds_cons (ed_caT1 cd_tuple (er_var 3) rfl b_tuple bb_tuple) (eds_nil))))))))
abbrev s_in_all : Stmt := topS 12
abbrev N_in_all : List Str := ["deal", "strain", "leader", "cards", "known", "first", "trick", "won"]
theorem sc_in_all : FnScope N_in_all ["deal", "strain", "leader", "cards", "known"] (defScope s_in_all) := ⟨rfl, rfl, rfl, by decide +kernel, rfl, by decide +kernel, by decide +kernel⟩
theorem dv_in_all {f : Addr} {k : Nat} {sp_left_of : SpD} {f_left_of : Addr} {fd_left_of : FuncData} {k_left_of : Nat} (C_left_of : FnOk P w K mg base CX0 k_left_of f_left_of fd_left_of ["deal", "cards"] (spL K sp_left_of)) (h_left_of : k_left_of ≤ k) (C_left_of_g : mg "left_of" = some (.ref f_left_of)) (C_left_of_k : PySem.W.keepIn K (.ref f_left_of) = true) (C_left_of_b : Binds K fd_left_of ["deal", "cards"] []) {sp_later : SpD} {f_later : Addr} {fd_later : FuncData} {k_later : Nat} (C_later : FnOk P w K mg base CX0 k_later f_later fd_later ["strain", "hands", "first", "trick", "known"] (spL K sp_later)) (h_later : k_later ≤ k) (C_later_g : mg "later" = some (.ref f_later)) (C_later_k : PySem.W.keepIn K (.ref f_later) = true) (C_later_b : Binds K fd_later ["strain", "hands", "first", "trick", "known"] []) {sp_walked : SpD} {f_walked : Addr} {fd_walked : FuncData} {k_walked : Nat} (C_walked : FnOk P w K mg base CX0 k_walked f_walked fd_walked ["strain", "leader", "cards"] (spL K sp_walked)) (h_walked : k_walked ≤ k) (C_walked_g : mg "walked" = some (.ref f_walked)) (C_walked_k : PySem.W.keepIn K (.ref f_walked) = true) (C_walked_b : Binds K fd_walked ["strain", "leader", "cards"] []) (cdv : Value) (A : Around) (outer : List PySem.Env) (s : Shared) (H : Hp) (E : XK) (hr : Room k (A.deeper (envOfC "in_all" (defScope s_in_all) s.heap.objs.size f cdv))) (G : Gh) (hG : G.slots = [4]) :
    SDs (cxOf CX0 P w K mg base N_in_all "in_all" (defScope s_in_all) f cdv A outer s H E).nox G (defBody s_in_all) (tb_in_all sp_left_of sp_later sp_walked) := by
  unfold tb_in_all
  exact sds_cons (sd_asg (ms := [5, 6, 7]) (ed_call C_walked (hr.mono h_walked) rfl C_walked_g C_walked_k C_walked_b (ea_v (ed_var 1) (ea_v (ed_var 2) (ea_v (ed_var 3) (ea_nil))))) (gd_tup rfl (gds_cons (gd_name (ns hG (by decide)) (by decide) sc_in_all.nd rfl (by first | exact Or.inl rfl | exact Or.inr rfl)) (gds_cons (gd_name (ns hG (by decide)) (by decide) sc_in_all.nd rfl (by first | exact Or.inl rfl | exact Or.inr rfl)) (gds_cons (gd_name (ns hG (by decide)) (by decide) sc_in_all.nd rfl (by first | exact Or.inl rfl | exact Or.inr rfl)) (gds_nil))))))
      (sds_one (sd_ret (ed_op od_add (ed_ix (ed_var 7) (ed_int)) (ED.er (ed_call C_later (hr.mono h_later) rfl C_later_g C_later_k C_later_b (ea_v (ed_var 1) (ea_v (ed_call C_left_of (hr.mono h_left_of) rfl C_left_of_g C_left_of_k C_left_of_b (ea_v (ed_var 0) (ea_v (ed_var 3) (ea_nil)))) (ea_v (ed_var 5) (ea_v (ed_var 6) (ea_o 4 (ea_nil)))))))))))
abbrev s_turn_of : Stmt := topS 4
abbrev N_turn_of : List Str := ["deal", "strain", "leader", "cards", "first", "trick", "won"]
theorem sc_turn_of : FnScope N_turn_of ["deal", "strain", "leader", "cards"] (defScope s_turn_of) := ⟨rfl, rfl, rfl, by decide +kernel, rfl, by decide +kernel, by decide +kernel⟩
theorem dv_turn_of {f : Addr} {k : Nat} (b_len : mg "len" = none) {sp_walked : SpD} {f_walked : Addr} {fd_walked : FuncData} {k_walked : Nat} (C_walked : FnOk P w K mg base CX0 k_walked f_walked fd_walked ["strain", "leader", "cards"] (spL K sp_walked)) (h_walked : k_walked ≤ k) (C_walked_g : mg "walked" = some (.ref f_walked)) (C_walked_k : PySem.W.keepIn K (.ref f_walked) = true) (C_walked_b : Binds K fd_walked ["strain", "leader", "cards"] []) (cdv : Value) (A : Around) (outer : List PySem.Env) (s : Shared) (H : Hp) (E : XK) (hr : Room k (A.deeper (envOfC "turn_of" (defScope s_turn_of) s.heap.objs.size f cdv))) (G : Gh) (hG : G.slots = []) :
    SDs (cxOf CX0 P w K mg base N_turn_of "turn_of" (defScope s_turn_of) f cdv A outer s H E).nox G (defBody s_turn_of) (tb_turn_of sp_walked) := by
  unfold tb_turn_of
  exact sds_cons (sd_if (eb_cmp (od_eq hr.units) (ed_ca1 cd_len (ED.er (ed_var 3)) rfl b_len bb_len) (ED.er (ed_op od_mul (ed_int) (ED.er (ed_ca1 cd_len (ED.er (ed_ix (ed_var 0) (ed_int))) rfl b_len bb_len)))) (nomark _)) (sds_one (sd_ret (ed_non))) (sds_nil))
      (sds_cons (sd_asg (ms := [4, 5, 6]) (ed_call C_walked (hr.mono h_walked) rfl C_walked_g C_walked_k C_walked_b (ea_v (ed_var 1) (ea_v (ed_var 2) (ea_v (ed_var 3) (ea_nil))))) (gd_tup rfl (gds_cons (gd_name (ns hG (by decide)) (by decide) sc_turn_of.nd rfl (by first | exact Or.inl rfl | exact Or.inr rfl)) (gds_cons (gd_name (ns hG (by decide)) (by decide) sc_turn_of.nd rfl (by first | exact Or.inl rfl | exact Or.inr rfl)) (gds_cons (gd_name (ns hG (by decide)) (by decide) sc_turn_of.nd rfl (by first | exact Or.inl rfl | exact Or.inr rfl)) (gds_nil))))))
      (sds_one (sd_ret (ed_op od_mod (ed_op od_add (ed_var 4) (ED.er (ed_ca1 cd_len (ED.er (ed_var 5)) rfl b_len bb_len))) (ED.er (ed_int))))))
abbrev s_may_play : Stmt := topS 5
abbrev N_may_play : List Str := ["deal", "strain", "leader", "cards", "player", "hand", "trick", "some", "card"]
theorem sc_may_play : FnScope N_may_play ["deal", "strain", "leader", "cards"] (defScope s_may_play) := ⟨rfl, rfl, rfl, by decide +kernel, rfl, by decide +kernel, by decide +kernel⟩
theorem dv_may_play {f : Addr} {k : Nat} (b_tuple : mg "tuple" = none) {sp_walked : SpD} {f_walked : Addr} {fd_walked : FuncData} {k_walked : Nat} (C_walked : FnOk P w K mg base CX0 k_walked f_walked fd_walked ["strain", "leader", "cards"] (spL K sp_walked)) (h_walked : k_walked ≤ k) (C_walked_g : mg "walked" = some (.ref f_walked)) (C_walked_k : PySem.W.keepIn K (.ref f_walked) = true) (C_walked_b : Binds K fd_walked ["strain", "leader", "cards"] []) {sp_left_of : SpD} {f_left_of : Addr} {fd_left_of : FuncData} {k_left_of : Nat} (C_left_of : FnOk P w K mg base CX0 k_left_of f_left_of fd_left_of ["deal", "cards"] (spL K sp_left_of)) (h_left_of : k_left_of ≤ k) (C_left_of_g : mg "left_of" = some (.ref f_left_of)) (C_left_of_k : PySem.W.keepIn K (.ref f_left_of) = true) (C_left_of_b : Binds K fd_left_of ["deal", "cards"] []) {sp_turn_of : SpD} {f_turn_of : Addr} {fd_turn_of : FuncData} {k_turn_of : Nat} (C_turn_of : FnOk P w K mg base CX0 k_turn_of f_turn_of fd_turn_of ["deal", "strain", "leader", "cards"] (spL K sp_turn_of)) (h_turn_of : k_turn_of ≤ k) (C_turn_of_g : mg "turn_of" = some (.ref f_turn_of)) (C_turn_of_k : PySem.W.keepIn K (.ref f_turn_of) = true) (C_turn_of_b : Binds K fd_turn_of ["deal", "strain", "leader", "cards"] []) (cdv : Value) (A : Around) (outer : List PySem.Env) (s : Shared) (H : Hp) (E : XK) (hr : Room k (A.deeper (envOfC "may_play" (defScope s_may_play) s.heap.objs.size f cdv))) (G : Gh) (hG : G.slots = []) :
    SDs (cxOf CX0 P w K mg base N_may_play "may_play" (defScope s_may_play) f cdv A outer s H E).nox G (defBody s_may_play) (tb_may_play sp_walked sp_left_of sp_turn_of) := by
  unfold tb_may_play
  exact sds_cons (sd_set (ns hG (by decide)) sc_may_play.nd rfl (by first | exact Or.inl rfl | exact Or.inr rfl) (ed_call C_turn_of (hr.mono h_turn_of) rfl C_turn_of_g C_turn_of_k C_turn_of_b (ea_v (ed_var 0) (ea_v (ed_var 1) (ea_v (ed_var 2) (ea_v (ed_var 3) (ea_nil)))))))
      (sds_cons (sd_if (eb_cmp od_is (ed_var 4) (ED.er (ed_non)) (nomark _)) (sds_one (sd_ret (ed_tup (eds_nil)))) (sds_nil))
      (sds_cons (sd_set (ns hG (by decide)) sc_may_play.nd rfl (by first | exact Or.inl rfl | exact Or.inr rfl) (ed_ix (ed_call C_left_of (hr.mono h_left_of) rfl C_left_of_g C_left_of_k C_left_of_b (ea_v (ed_var 0) (ea_v (ed_var 3) (ea_nil)))) (ed_var 4)))
      (sds_cons (sd_set (ns hG (by decide)) sc_may_play.nd rfl (by first | exact Or.inl rfl | exact Or.inr rfl) (ed_ix (ed_call C_walked (hr.mono h_walked) rfl C_walked_g C_walked_k C_walked_b (ea_v (ed_var 1) (ea_v (ed_var 2) (ea_v (ed_var 3) (ea_nil))))) (ed_int)))
      (sds_cons (sd_set (ns hG (by decide)) sc_may_play.nd rfl (by first | exact Or.inl rfl | exact Or.inr rfl) (ed_caT1 cd_tuple (ED.er (EL.ed (el_comp [("card", 8)] rfl sc_may_play.nd rfl (nsA hG (by decide)) (id_tup (ed_var 5)) (blkOk_by (N := N_may_play) (sc := defScope s_may_play) (by decide +kernel)) (fun _ q1 _ _ _ _ _ => gd_name (ns (q1.trans hG) (by decide)) (by decide) sc_may_play.nd rfl (by first | exact Or.inl rfl | exact Or.inr rfl)) (fun _ q1 _ _ _ _ _ => ebs_one (EW.eb (ew_and (eb_tru (ED.er (ed_var 6))) (ew_and1 (eb_cmp (od_eq hr.units) (ed_ix (ed_var 8) (ed_int)) (ED.er (ed_ix (ed_ix (ed_var 6) (ed_int)) (ed_int))) (nomark _)))))) (fun _ q1 _ _ _ _ _ => ed_var 8)))) rfl b_tuple bb_tuple))
      (sds_one (sd_ret (ed_orT (ed_var 7) (ed_one (ed_var 5)))))))))
abbrev s_best_cards : Stmt := topS 14
abbrev N_best_cards : List Str := ["deal", "strain", "leader", "cards", "known", "due", "some", "card"]
theorem sc_best_cards : FnScope N_best_cards ["deal", "strain", "leader", "cards"] (defScope s_best_cards) := ⟨rfl, rfl, rfl, by decide +kernel, rfl, by decide +kernel, by decide +kernel⟩
theorem dv_best_cards {f : Addr} {k : Nat} (b_tuple : mg "tuple" = none) {sp_in_all : SpD} {f_in_all : Addr} {fd_in_all : FuncData} {k_in_all : Nat} (C_in_all : FnOk P w K mg base CX0 k_in_all f_in_all fd_in_all ["deal", "strain", "leader", "cards", "known"] (spL K sp_in_all)) (h_in_all : k_in_all ≤ k) (C_in_all_g : mg "in_all" = some (.ref f_in_all)) (C_in_all_k : PySem.W.keepIn K (.ref f_in_all) = true) (C_in_all_b : Binds K fd_in_all ["deal", "strain", "leader", "cards", "known"] []) {sp_may_play : SpD} {f_may_play : Addr} {fd_may_play : FuncData} {k_may_play : Nat} (C_may_play : FnOk P w K mg base CX0 k_may_play f_may_play fd_may_play ["deal", "strain", "leader", "cards"] (spL K sp_may_play)) (h_may_play : k_may_play ≤ k) (C_may_play_g : mg "may_play" = some (.ref f_may_play)) (C_may_play_k : PySem.W.keepIn K (.ref f_may_play) = true) (C_may_play_b : Binds K fd_may_play ["deal", "strain", "leader", "cards"] []) {sp_turn_of : SpD} {f_turn_of : Addr} {fd_turn_of : FuncData} {k_turn_of : Nat} (C_turn_of : FnOk P w K mg base CX0 k_turn_of f_turn_of fd_turn_of ["deal", "strain", "leader", "cards"] (spL K sp_turn_of)) (h_turn_of : k_turn_of ≤ k) (C_turn_of_g : mg "turn_of" = some (.ref f_turn_of)) (C_turn_of_k : PySem.W.keepIn K (.ref f_turn_of) = true) (C_turn_of_b : Binds K fd_turn_of ["deal", "strain", "leader", "cards"] []) (cdv : Value) (A : Around) (outer : List PySem.Env) (s : Shared) (H : Hp) (E : XK) (hr : Room k (A.deeper (envOfC "best_cards" (defScope s_best_cards) s.heap.objs.size f cdv))) (G : Gh) (hG : G.slots = []) :
    SDs (cxOf CX0 P w K mg base N_best_cards "best_cards" (defScope s_best_cards) f cdv A outer s H E).nox G (defBody s_best_cards) (tb_best_cards sp_in_all sp_may_play sp_turn_of) := by
  unfold tb_best_cards
  exact sds_cons (sd_if (eb_cmp od_is (ed_call C_turn_of (hr.mono h_turn_of) rfl C_turn_of_g C_turn_of_k C_turn_of_b (ea_v (ed_var 0) (ea_v (ed_var 1) (ea_v (ed_var 2) (ea_v (ed_var 3) (ea_nil)))))) (ED.er (ed_non)) (nomark _)) (sds_one (sd_ret (ed_tup (eds_nil)))) (sds_nil))
      (sds_cons (sd_setM (ns hG (by decide)) sc_best_cards.nd rfl (by first | exact Or.inl rfl | exact Or.inr rfl) (em_dt))
      (sds_cons (sd_set (ns hG (by decide)) sc_best_cards.nd rfl (by first | exact Or.inl rfl | exact Or.inr rfl) (ed_call C_in_all (hr.mono h_in_all) rfl C_in_all_g C_in_all_k C_in_all_b (ea_v (ed_var 0) (ea_v (ed_var 1) (ea_v (ed_var 2) (ea_v (ed_var 3) (ea_o 4 (ea_nil))))))))
      (sds_cons (sd_set (ns hG (by decide)) sc_best_cards.nd rfl (by first | exact Or.inl rfl | exact Or.inr rfl) (ed_call C_may_play (hr.mono h_may_play) rfl C_may_play_g C_may_play_k C_may_play_b (ea_v (ed_var 0) (ea_v (ed_var 1) (ea_v (ed_var 2) (ea_v (ed_var 3) (ea_nil)))))))
      (sds_one (sd_ret (ed_caT1 cd_tuple (ED.er (EL.ed (el_comp [("card", 7)] rfl sc_best_cards.nd rfl (nsA hG (by decide)) (id_tup (ed_var 6)) (blkOk_by (N := N_best_cards) (sc := defScope s_best_cards) (by decide +kernel)) (fun _ q1 _ _ _ _ _ => gd_name (ns (q1.trans hG) (by decide)) (by decide) sc_best_cards.nd rfl (by first | exact Or.inl rfl | exact Or.inr rfl)) (fun _ q1 _ _ _ _ _ => ebs_one (eb_cmp (od_eq hr.units) (ed_call C_in_all (hr.mono h_in_all) rfl C_in_all_g C_in_all_k C_in_all_b (ea_v (ed_var 0) (ea_v (ed_var 1) (ea_v (ed_var 2) (ea_v (ed_op od_add (ed_var 3) (ED.er (ed_tup (eds_cons (ed_var 7) (eds_nil))))) (ea_o 4 (ea_nil))))))) (ED.er (ed_var 5)) (nomark _))) (fun _ q1 _ _ _ _ _ => ed_var 7)))) rfl b_tuple bb_tuple))))))
abbrev s_law_same : Stmt := topS 16
abbrev N_law_same : List Str := ["got", "due", "one", "other"]
theorem sc_law_same : FnScope N_law_same ["got", "due"] (defScope s_law_same) := ⟨rfl, rfl, rfl, by decide +kernel, rfl, by decide +kernel, by decide +kernel⟩
theorem dv_law_same {f : Addr} {k : Nat} (b_isinstance : mg "isinstance" = none) (b_int : mg "int" = none) (b_bool : mg "bool" = none) (b_str : mg "str" = none) (b_tuple : mg "tuple" = none) (b_zip : mg "zip" = none) (b_all : mg "all" = none) (b_len : mg "len" = none) {sp_law_same : SpD} {f_law_same : Addr} {fd_law_same : FuncData} {k_law_same : Nat} (C_law_same : FnOk P w K mg base CX0 k_law_same f_law_same fd_law_same ["got", "due"] (spL K sp_law_same)) (h_law_same : k_law_same ≤ k) (C_law_same_g : mg "_law_same" = some (.ref f_law_same)) (C_law_same_k : PySem.W.keepIn K (.ref f_law_same) = true) (C_law_same_b : Binds K fd_law_same ["got", "due"] []) (cdv : Value) (A : Around) (outer : List PySem.Env) (s : Shared) (H : Hp) (E : XK) (hr : Room k (A.deeper (envOfC "_law_same" (defScope s_law_same) s.heap.objs.size f cdv))) (G : Gh) (hG : G.slots = []) :
    SDs (cxOf CX0 P w K mg base N_law_same "_law_same" (defScope s_law_same) f cdv A outer s H E).nox G (defBody s_law_same) (tb_law_same sp_law_same) := by
  unfold tb_law_same
  exact sds_cons (sd_if (eb_cmp od_is (ed_var 1) (ED.er (ed_non)) (nomark _)) (sds_one (sd_ret (ed_cmp od_is (ed_var 0) (ED.er (ed_non)) (nomark _)))) (sds_nil))
      (sds_cons (sd_if (eb_tru (ED.er (ed_isi isi_bool (ed_var 1) rfl b_isinstance rfl b_bool bb_bool))) (sds_one (sd_ret (ed_and (ed_isi isi_bool (ed_var 0) rfl b_isinstance rfl b_bool bb_bool) (ed_one (ed_cmp (od_eq hr.units) (ed_var 0) (ED.er (ed_var 1)) (nomark _)))))) (sds_nil))
      (sds_cons (sd_if (eb_tru (ED.er (ed_isi isi_tuple (ed_var 1) rfl b_isinstance rfl b_tuple bb_tuple))) (sds_cons (sd_if (EW.eb (ew_or (eb_not (eb_tru (ED.er (ed_isi isi_tuple (ed_var 0) rfl b_isinstance rfl b_tuple bb_tuple)))) (ew_or1 (eb_cmp (od_ne hr.units) (ed_ca1 cd_len (ED.er (ed_var 0)) rfl b_len bb_len) (ED.er (ed_ca1 cd_len (ED.er (ed_var 1)) rfl b_len bb_len)) (nomark _))))) (sds_one (sd_ret (ed_bl))) (sds_nil))
      (sds_one (sd_ret (ed_ca1 (cd_all rfl) (ED.er (EL.ed (el_comp [("one", 2), ("other", 3)] rfl sc_law_same.nd rfl (nsA hG (by decide)) (id_zip (ed_var 0) (ed_var 1) rfl b_zip) (blkOk_by (N := N_law_same) (sc := defScope s_law_same) (by decide +kernel)) (fun _ q1 _ _ _ _ _ => gd_tup rfl (gds_cons (gd_name (ns (q1.trans hG) (by decide)) (by decide) sc_law_same.nd rfl (by first | exact Or.inl rfl | exact Or.inr rfl)) (gds_cons (gd_name (ns (q1.trans hG) (by decide)) (by decide) sc_law_same.nd rfl (by first | exact Or.inl rfl | exact Or.inr rfl)) (gds_nil)))) (fun _ q1 _ _ _ _ _ => ebs_nil) (fun _ q1 _ _ _ _ _ => ed_call C_law_same (hr.mono h_law_same) rfl C_law_same_g C_law_same_k C_law_same_b (ea_v (ed_var 2) (ea_v (ed_var 3) (ea_nil))))))) rfl b_all bb_all)))) (sds_nil))
      (sds_cons (sd_if (eb_tru (ED.er (ed_isi isi_str (ed_var 1) rfl b_isinstance rfl b_str bb_str))) (sds_one (sd_ret (ed_and (ed_isi isi_str (ed_var 0) rfl b_isinstance rfl b_str bb_str) (ed_one (ed_cmp (od_eq hr.units) (ed_var 0) (ED.er (ed_var 1)) (nomark _)))))) (sds_nil))
      (sds_one (sd_ret (ed_and (ed_isi isi_int (ed_var 0) rfl b_isinstance rfl b_int bb_int) (ed_and (ed_not (ed_isi isi_bool (ed_var 0) rfl b_isinstance rfl b_bool bb_bool)) (ed_one (ed_cmp (od_eq hr.units) (ed_var 0) (ED.er (ed_var 1)) (nomark _))))))))))
abbrev s_best_tricks : Stmt := topS 13
abbrev N_best_tricks : List Str := ["deal", "strain", "leader", "cards"]
theorem sc_best_tricks : FnScope N_best_tricks ["deal", "strain", "leader", "cards"] (defScope s_best_tricks) := ⟨rfl, rfl, rfl, by decide +kernel, rfl, by decide +kernel, by decide +kernel⟩
theorem dv_best_tricks {f : Addr} {k : Nat} {sp_in_all : SpD} {f_in_all : Addr} {fd_in_all : FuncData} {k_in_all : Nat} (C_in_all : FnOk P w K mg base CX0 k_in_all f_in_all fd_in_all ["deal", "strain", "leader", "cards", "known"] (spL K sp_in_all)) (h_in_all : k_in_all ≤ k) (C_in_all_g : mg "in_all" = some (.ref f_in_all)) (C_in_all_k : PySem.W.keepIn K (.ref f_in_all) = true) (C_in_all_b : Binds K fd_in_all ["deal", "strain", "leader", "cards", "known"] []) (cdv : Value) (A : Around) (outer : List PySem.Env) (s : Shared) (H : Hp) (E : XK) (hr : Room k (A.deeper (envOfC "best_tricks" (defScope s_best_tricks) s.heap.objs.size f cdv))) (G : Gh) (hG : G.slots = []) :
    SDs (cxOf CX0 P w K mg base N_best_tricks "best_tricks" (defScope s_best_tricks) f cdv A outer s H E).nox G (defBody s_best_tricks) (tb_best_tricks sp_in_all) := by
  unfold tb_best_tricks
  exact sds_one (sd_ret (ed_callM C_in_all (hr.mono h_in_all) rfl C_in_all_g C_in_all_k C_in_all_b (eam_v (ed_var 0) (eam_v (ed_var 1) (eam_v (ed_var 2) (eam_v (ed_var 3) (eam_m (em_dt))))))))
abbrev s_law_best_holds : Stmt := topS 27
abbrev N_law_best_holds : List Str := ["deal", "strain", "leader", "cards", "other", "many", "told", "order", "turn", "hands", "new", "start", "row", "due", "some", "suit", "rank"]
theorem sc_law_best_holds : FnScope N_law_best_holds ["deal", "strain", "leader", "cards", "other"] (defScope s_law_best_holds) := ⟨rfl, rfl, rfl, by decide +kernel, rfl, by decide +kernel, by decide +kernel⟩
theorem dv_law_best_holds {f : Addr} {k : Nat} (b_sorted : mg "sorted" = none) (b_tuple : mg "tuple" = none) (b_len : mg "len" = none) {sp_best_cards : SpD} {f_best_cards : Addr} {fd_best_cards : FuncData} {k_best_cards : Nat} (C_best_cards : FnOk P w K mg base CX0 k_best_cards f_best_cards fd_best_cards ["deal", "strain", "leader", "cards"] (spL K sp_best_cards)) (h_best_cards : k_best_cards ≤ k) (C_best_cards_g : mg "best_cards" = some (.ref f_best_cards)) (C_best_cards_k : PySem.W.keepIn K (.ref f_best_cards) = true) (C_best_cards_b : Binds K fd_best_cards ["deal", "strain", "leader", "cards"] []) {sp_law_same : SpD} {f_law_same : Addr} {fd_law_same : FuncData} {k_law_same : Nat} (C_law_same : FnOk P w K mg base CX0 k_law_same f_law_same fd_law_same ["got", "due"] (spL K sp_law_same)) (h_law_same : k_law_same ≤ k) (C_law_same_g : mg "_law_same" = some (.ref f_law_same)) (C_law_same_k : PySem.W.keepIn K (.ref f_law_same) = true) (C_law_same_b : Binds K fd_law_same ["got", "due"] []) {sp_best_tricks : SpD} {f_best_tricks : Addr} {fd_best_tricks : FuncData} {k_best_tricks : Nat} (C_best_tricks : FnOk P w K mg base CX0 k_best_tricks f_best_tricks fd_best_tricks ["deal", "strain", "leader", "cards"] (spL K sp_best_tricks)) (h_best_tricks : k_best_tricks ≤ k) (C_best_tricks_g : mg "best_tricks" = some (.ref f_best_tricks)) (C_best_tricks_k : PySem.W.keepIn K (.ref f_best_tricks) = true) (C_best_tricks_b : Binds K fd_best_tricks ["deal", "strain", "leader", "cards"] []) (cdv : Value) (A : Around) (outer : List PySem.Env) (s : Shared) (H : Hp) (E : XK) (hr : Room k (A.deeper (envOfC "_law_best_holds" (defScope s_law_best_holds) s.heap.objs.size f cdv))) (G : Gh) (hG : G.slots = []) :
    SDs (cxOf CX0 P w K mg base N_law_best_holds "_law_best_holds" (defScope s_law_best_holds) f cdv A outer s H E).nox G (defBody s_law_best_holds) (tb_law_best_holds_k15 sp_best_cards sp_law_same sp_best_tricks) := by
  unfold tb_law_best_holds_k15
  exact sds_cons (sd_par2 (nsA hG (by decide)) rfl sc_law_best_holds.nd rfl rfl (by decide) rfl rfl (eps_d (ed_call C_best_tricks (hr.mono h_best_tricks) rfl C_best_tricks_g C_best_tricks_k C_best_tricks_b (ea_v (ed_var 0) (ea_v (ed_var 1) (ea_v (ed_var 2) (ea_v (ed_var 3) (ea_nil)))))) (eps_d (ed_call C_best_cards (hr.mono h_best_cards) rfl C_best_cards_g C_best_cards_k C_best_cards_b (ea_v (ed_var 0) (ea_v (ed_var 1) (ea_v (ed_var 2) (ea_v (ed_var 3) (ea_nil)))))) (eps_nil))))
      (sds_cons (sd_asg (ms := [7, 8, 9, 10, 11, 12]) (ed_var 4) (gd_tup rfl (gds_cons (gd_name (ns hG (by decide)) (by decide) sc_law_best_holds.nd rfl (by first | exact Or.inl rfl | exact Or.inr rfl)) (gds_cons (gd_name (ns hG (by decide)) (by decide) sc_law_best_holds.nd rfl (by first | exact Or.inl rfl | exact Or.inr rfl)) (gds_cons (gd_name (ns hG (by decide)) (by decide) sc_law_best_holds.nd rfl (by first | exact Or.inl rfl | exact Or.inr rfl)) (gds_cons (gd_name (ns hG (by decide)) (by decide) sc_law_best_holds.nd rfl (by first | exact Or.inl rfl | exact Or.inr rfl)) (gds_cons (gd_name (ns hG (by decide)) (by decide) sc_law_best_holds.nd rfl (by first | exact Or.inl rfl | exact Or.inr rfl)) (gds_cons (gd_name (ns hG (by decide)) (by decide) sc_law_best_holds.nd rfl (by first | exact Or.inl rfl | exact Or.inr rfl)) (gds_nil)))))))))
      (sds_cons (sd_set (ns hG (by decide)) sc_law_best_holds.nd rfl (by first | exact Or.inl rfl | exact Or.inr rfl) (ed_if (eb_cmp (od_eq hr.units) (ed_op od_mod (ed_var 8) (ED.er (ed_int))) (ED.er (ed_int)) (nomark _)) (ed_var 5) (ed_op od_sub (ed_ca1 cd_len (ED.er (ed_ix (ed_var 0) (ed_int))) rfl b_len bb_len) (ED.er (ed_var 5)))))
      (sds_cons (sd_if (eb_not (eb_tru (ED.er (ed_call C_law_same (hr.mono h_law_same) rfl C_law_same_g C_law_same_k C_law_same_b (ea_v (ed_call C_best_tricks (hr.mono h_best_tricks) rfl C_best_tricks_g C_best_tricks_k C_best_tricks_b (ea_v (ed_var 9) (ea_v (ed_var 10) (ea_v (ed_var 11) (ea_v (ed_var 12) (ea_nil)))))) (ea_v (ed_var 13) (ea_nil))))))) (sds_one (sd_ret (ed_bl))) (sds_nil))
      (sds_cons (sd_set (ns hG (by decide)) sc_law_best_holds.nd rfl (by first | exact Or.inl rfl | exact Or.inr rfl) (ed_caT1 cd_tuple (ED.er (EL.ed (el_ca1 (cd_sorted (u65 hr)) (ED.er (EL.ed (el_comp [("suit", 15), ("rank", 16)] rfl sc_law_best_holds.nd rfl (nsA hG (by decide)) (id_tup (ed_var 6)) (blkOk_by (N := N_law_best_holds) (sc := defScope s_law_best_holds) (by decide +kernel)) (fun _ q1 _ _ _ _ _ => gd_tup rfl (gds_cons (gd_name (ns (q1.trans hG) (by decide)) (by decide) sc_law_best_holds.nd rfl (by first | exact Or.inl rfl | exact Or.inr rfl)) (gds_cons (gd_name (ns (q1.trans hG) (by decide)) (by decide) sc_law_best_holds.nd rfl (by first | exact Or.inl rfl | exact Or.inr rfl)) (gds_nil)))) (fun _ q1 _ _ _ _ _ => ebs_nil) (fun _ q1 _ _ _ _ _ => ed_tup (eds_cons (ed_ix (ed_var 7) (ed_var 15)) (eds_cons (ed_var 16) (eds_nil))))))) rfl b_sorted bb_sorted))) rfl b_tuple bb_tuple))
      (sds_one (sd_ret (ed_call C_law_same (hr.mono h_law_same) rfl C_law_same_g C_law_same_k C_law_same_b (ea_v (ed_call C_best_cards (hr.mono h_best_cards) rfl C_best_cards_g C_best_cards_k C_best_cards_b (ea_v (ed_var 9) (ea_v (ed_var 10) (ea_v (ed_var 11) (ea_v (ed_var 12) (ea_nil)))))) (ea_v (ed_var 14) (ea_nil))))))))))
abbrev s_tricks_of : Stmt := topS 7
abbrev N_tricks_of : List Str := ["strain", "leader", "cards"]
theorem sc_tricks_of : FnScope N_tricks_of ["strain", "leader", "cards"] (defScope s_tricks_of) := ⟨rfl, rfl, rfl, by decide +kernel, rfl, by decide +kernel, by decide +kernel⟩
theorem dv_tricks_of {f : Addr} {k : Nat} {sp_walked : SpD} {f_walked : Addr} {fd_walked : FuncData} {k_walked : Nat} (C_walked : FnOk P w K mg base CX0 k_walked f_walked fd_walked ["strain", "leader", "cards"] (spL K sp_walked)) (h_walked : k_walked ≤ k) (C_walked_g : mg "walked" = some (.ref f_walked)) (C_walked_k : PySem.W.keepIn K (.ref f_walked) = true) (C_walked_b : Binds K fd_walked ["strain", "leader", "cards"] []) (cdv : Value) (A : Around) (outer : List PySem.Env) (s : Shared) (H : Hp) (E : XK) (hr : Room k (A.deeper (envOfC "tricks_of" (defScope s_tricks_of) s.heap.objs.size f cdv))) (G : Gh) (hG : G.slots = []) :
    SDs (cxOf CX0 P w K mg base N_tricks_of "tricks_of" (defScope s_tricks_of) f cdv A outer s H E).nox G (defBody s_tricks_of) (tb_tricks_of sp_walked) := by
  unfold tb_tricks_of
  exact sds_one (sd_ret (ed_ix (ed_call C_walked (hr.mono h_walked) rfl C_walked_g C_walked_k C_walked_b (ea_v (ed_var 0) (ea_v (ed_var 1) (ea_v (ed_var 2) (ea_nil))))) (ed_int)))
abbrev s_law_turned : Stmt := topS 26
abbrev N_law_turned : List Str := ["deal", "order", "turn", "hands", "hand", "suit", "rank", "player"]
theorem sc_law_turned : FnScope N_law_turned ["deal", "order", "turn"] (defScope s_law_turned) := ⟨rfl, rfl, rfl, by decide +kernel, rfl, by decide +kernel, by decide +kernel⟩
theorem dv_law_turned {f : Addr} {k : Nat} (b_range : mg "range" = none) (b_tuple : mg "tuple" = none) (b_sorted : mg "sorted" = none) (cdv : Value) (A : Around) (outer : List PySem.Env) (s : Shared) (H : Hp) (E : XK) (hr : Room k (A.deeper (envOfC "_law_turned" (defScope s_law_turned) s.heap.objs.size f cdv))) (G : Gh) (hG : G.slots = []) :
    SDs (cxOf CX0 P w K mg base N_law_turned "_law_turned" (defScope s_law_turned) f cdv A outer s H E).nox G (defBody s_law_turned) (tb_law_turned_k15) := by
  unfold tb_law_turned_k15
  exact sds_cons (sd_set (ns hG (by decide)) sc_law_turned.nd rfl (by first | exact Or.inl rfl | exact Or.inr rfl) (EL.ed (el_comp [("hand", 4)] rfl sc_law_turned.nd rfl (nsA hG (by decide)) (id_tup (ed_var 0)) (blkOk_by (N := N_law_turned) (sc := defScope s_law_turned) (by decide +kernel)) (fun _ q2 _ _ _ _ _ => gd_name (ns (q2.trans hG) (by decide)) (by decide) sc_law_turned.nd rfl (by first | exact Or.inl rfl | exact Or.inr rfl)) (fun _ q2 _ _ _ _ _ => ebs_nil) (fun _ q2 _ _ _ _ _ => ed_caT1 cd_tuple (ED.er (EL.ed (el_ca1 (cd_sorted (u65 hr)) (ED.er (EL.ed (el_comp [("suit", 5), ("rank", 6)] rfl sc_law_turned.nd rfl (nsA (q2.trans hG) (by decide)) (id_tup (ed_var 4)) (blkOk_by rfl) (fun _ q3 _ _ _ _ _ => gd_tup rfl (gds_cons (gd_name (ns (q3.trans (q2.trans hG)) (by decide)) (by decide) sc_law_turned.nd rfl (by first | exact Or.inl rfl | exact Or.inr rfl)) (gds_cons (gd_name (ns (q3.trans (q2.trans hG)) (by decide)) (by decide) sc_law_turned.nd rfl (by first | exact Or.inl rfl | exact Or.inr rfl)) (gds_nil)))) (fun _ q3 _ _ _ _ _ => ebs_nil) (fun _ q3 _ _ _ _ _ => ed_tup (eds_cons (ed_ix (ed_var 1) (ed_var 5)) (eds_cons (ed_var 6) (eds_nil))))))) rfl b_sorted bb_sorted))) rfl b_tuple bb_tuple))))
      (sds_one (sd_ret (ed_caT1 cd_tuple (ED.er (EL.ed (el_comp [("player", 7)] rfl sc_law_turned.nd rfl (nsA hG (by decide)) (id_range1 rfl b_range (ed_int)) (blkOk_by (N := N_law_turned) (sc := defScope s_law_turned) (by decide +kernel)) (fun _ q1 _ _ _ _ _ => gd_name (ns (q1.trans hG) (by decide)) (by decide) sc_law_turned.nd rfl (by first | exact Or.inl rfl | exact Or.inr rfl)) (fun _ q1 _ _ _ _ _ => ebs_nil) (fun _ q1 _ _ _ _ _ => ed_ix (ed_var 3) (ed_op od_mod (ed_op od_sub (ed_var 7) (ED.er (ed_var 2))) (ED.er (ed_int))))))) rfl b_tuple bb_tuple)))
abbrev s_play_fault : Stmt := topS 6
abbrev N_play_fault : List Str := ["deal", "strain", "leader", "cards", "number", "card", "ahead", "player", "one"]
theorem sc_play_fault : FnScope N_play_fault ["deal", "strain", "leader", "cards"] (defScope s_play_fault) := ⟨rfl, rfl, rfl, by decide +kernel, rfl, by decide +kernel, by decide +kernel⟩
theorem dv_play_fault {f : Addr} {k : Nat} (b_enumerate : mg "enumerate" = none) (b_isinstance : mg "isinstance" = none) (b_tuple : mg "tuple" = none) (b_int : mg "int" = none) (b_bool : mg "bool" = none) (b_all : mg "all" = none) {sp_may_play : SpD} {f_may_play : Addr} {fd_may_play : FuncData} {k_may_play : Nat} (C_may_play : FnOk P w K mg base CX0 k_may_play f_may_play fd_may_play ["deal", "strain", "leader", "cards"] (spL K sp_may_play)) (h_may_play : k_may_play ≤ k) (C_may_play_g : mg "may_play" = some (.ref f_may_play)) (C_may_play_k : PySem.W.keepIn K (.ref f_may_play) = true) (C_may_play_b : Binds K fd_may_play ["deal", "strain", "leader", "cards"] []) {sp_left_of : SpD} {f_left_of : Addr} {fd_left_of : FuncData} {k_left_of : Nat} (C_left_of : FnOk P w K mg base CX0 k_left_of f_left_of fd_left_of ["deal", "cards"] (spL K sp_left_of)) (h_left_of : k_left_of ≤ k) (C_left_of_g : mg "left_of" = some (.ref f_left_of)) (C_left_of_k : PySem.W.keepIn K (.ref f_left_of) = true) (C_left_of_b : Binds K fd_left_of ["deal", "cards"] []) {sp_turn_of : SpD} {f_turn_of : Addr} {fd_turn_of : FuncData} {k_turn_of : Nat} (C_turn_of : FnOk P w K mg base CX0 k_turn_of f_turn_of fd_turn_of ["deal", "strain", "leader", "cards"] (spL K sp_turn_of)) (h_turn_of : k_turn_of ≤ k) (C_turn_of_g : mg "turn_of" = some (.ref f_turn_of)) (C_turn_of_k : PySem.W.keepIn K (.ref f_turn_of) = true) (C_turn_of_b : Binds K fd_turn_of ["deal", "strain", "leader", "cards"] []) (cdv : Value) (A : Around) (outer : List PySem.Env) (s : Shared) (H : Hp) (E : XK) (hr : Room k (A.deeper (envOfC "play_fault" (defScope s_play_fault) s.heap.objs.size f cdv))) (G : Gh) (hG : G.slots = []) :
    SDs (cxOf CX0 P w K mg base N_play_fault "play_fault" (defScope s_play_fault) f cdv A outer s H E).nox G (defBody s_play_fault) (tb_play_fault sp_may_play sp_left_of sp_turn_of) := by
  unfold tb_play_fault
  exact sds_cons (sd_for (ms := [4, 5]) PassesOwn.never rfl (id_enumT (ed_var 3) rfl b_enumerate) (gd_tup rfl (gds_cons (gd_name (ns hG (by decide)) (by decide) sc_play_fault.nd rfl (by first | exact Or.inl rfl | exact Or.inr rfl)) (gds_cons (gd_name (ns hG (by decide)) (by decide) sc_play_fault.nd rfl (by first | exact Or.inl rfl | exact Or.inr rfl)) (gds_nil)))) (sds_cons (sd_set (ns hG (by decide)) sc_play_fault.nd rfl (by first | exact Or.inl rfl | exact Or.inr rfl) (ed_sl (ed_var 3) (eo_no) (eo_e (ed_var 4))))
      (sds_cons (sd_set (ns hG (by decide)) sc_play_fault.nd rfl (by first | exact Or.inl rfl | exact Or.inr rfl) (ed_call C_turn_of (hr.mono h_turn_of) rfl C_turn_of_g C_turn_of_k C_turn_of_b (ea_v (ed_var 0) (ea_v (ed_var 1) (ea_v (ed_var 2) (ea_v (ed_var 6) (ea_nil)))))))
      (sds_cons (sd_if (eb_cmp od_is (ed_var 7) (ED.er (ed_non)) (nomark _)) (sds_one (sd_ret (ed_tup (eds_cons (ed_var 4) (eds_cons (ed_str) (eds_nil)))))) (sds_nil))
      (sds_cons (sd_if (EW.eb (ew_or (eb_not (eb_tru (ED.er (ed_isi isi_tuple (ed_var 5) rfl b_isinstance rfl b_tuple bb_tuple)))) (ew_or1 (eb_not (eb_tru (ED.er (ed_ca1 (cd_all rfl) (ED.er (EL.ed (el_comp [("one", 8)] rfl sc_play_fault.nd rfl (nsA hG (by decide)) (id_tup (ed_var 5)) (blkOk_by (N := N_play_fault) (sc := defScope s_play_fault) (by decide +kernel)) (fun _ q1 _ _ _ _ _ => gd_name (ns (q1.trans hG) (by decide)) (by decide) sc_play_fault.nd rfl (by first | exact Or.inl rfl | exact Or.inr rfl)) (fun _ q1 _ _ _ _ _ => ebs_nil) (fun _ q1 _ _ _ _ _ => ed_and (ed_isi isi_int (ed_var 8) rfl b_isinstance rfl b_int bb_int) (ed_one (ed_not (ed_isi isi_bool (ed_var 8) rfl b_isinstance rfl b_bool bb_bool))))))) rfl b_all bb_all))))))) (sds_one (sd_ret (ed_tup (eds_cons (ed_var 4) (eds_cons (ed_str) (eds_nil)))))) (sds_nil))
      (sds_cons (sd_if (eb_cmp (od_notIn (u65 hr)) (ed_var 5) (ED.er (ed_ix (ed_call C_left_of (hr.mono h_left_of) rfl C_left_of_g C_left_of_k C_left_of_b (ea_v (ed_var 0) (ea_v (ed_var 6) (ea_nil)))) (ed_var 7))) rfl) (sds_one (sd_ret (ed_tup (eds_cons (ed_var 4) (eds_cons (ed_str) (eds_nil)))))) (sds_nil))
      (sds_one (sd_if (eb_cmp (od_notIn (u65 hr)) (ed_var 5) (ED.er (ed_call C_may_play (hr.mono h_may_play) rfl C_may_play_g C_may_play_k C_may_play_b (ea_v (ed_var 0) (ea_v (ed_var 1) (ea_v (ed_var 2) (ea_v (ed_var 6) (ea_nil))))))) rfl) (sds_one (sd_ret (ed_tup (eds_cons (ed_var 4) (eds_cons (ed_str) (eds_nil)))))) (sds_nil)))))))))
      (sds_one (sd_ret (ed_non)))
abbrev s_law_draw : Stmt := topS 17
abbrev N_law_draw : List Str := ["script", "town", "many", "k", "cell", "digits", "number", "more"]
theorem sc_law_draw : FnScope N_law_draw ["script", "town", "many"] (defScope s_law_draw) := ⟨rfl, rfl, rfl, by decide +kernel, rfl, by decide +kernel, by decide +kernel⟩
theorem dv_law_draw {f : Addr} {k : Nat} (b_len : mg "len" = none) (b_abs : mg "abs" = none) (b_max : mg "max" = none) (cdv : Value) (A : Around) (outer : List PySem.Env) (s : Shared) (H : Hp) (E : XK) (hr : Room k (A.deeper (envOfC "_law_draw" (defScope s_law_draw) s.heap.objs.size f cdv))) (G : Gh) (hG : G.slots = [1]) :
    SDs (cxOf CX0 P w K mg base N_law_draw "_law_draw" (defScope s_law_draw) f cdv A outer s H E).nox G (defBody s_law_draw) (tb_law_draw) := by
  unfold tb_law_draw
  exact sds_cons (sd_if (eb_not (eb_tru (er_var 1))) (sds_one (sd_expr (ed_app 1 (ed_ca1 (cd_max rfl) (ED.er (EL.ed (el_op od_cat (EL.ed (el_comp [("cell", 4)] rfl sc_law_draw.nd rfl (nsA hG (by decide)) (id_lst (ed_var 0)) (blkOk_by (N := N_law_draw) (sc := defScope s_law_draw) (by decide +kernel)) (fun _ q1 _ _ _ _ _ => gd_name (ns (q1.trans hG) (by decide)) (by decide) sc_law_draw.nd rfl (by first | exact Or.inl rfl | exact Or.inr rfl)) (fun _ q1 _ _ _ _ _ => ebs_nil) (fun _ q1 _ _ _ _ _ => ed_ca1 cd_abs (ED.er (ed_var 4)) rfl b_abs bb_abs))) (ED.er (EL.ed (el_lst (eds_cons (ed_int) (eds_nil)))))))) rfl b_max bb_max)))) (sds_nil))
      (sds_cons (sd_expr (ed_app 1 (ed_int)))
      (sds_cons (sd_set (ns hG (by decide)) sc_law_draw.nd rfl (by first | exact Or.inl rfl | exact Or.inr rfl) (ed_ca1 cd_len (er_var 1) rfl b_len bb_len))
      (sds_cons (sd_set (ns hG (by decide)) sc_law_draw.nd rfl (by first | exact Or.inl rfl | exact Or.inr rfl) (ed_if (eb_tru (ED.er (ed_var 0))) (ed_ix (ed_var 0) (ed_op od_mod (ed_var 3) (ED.er (ed_ca1 cd_len (ED.er (ed_var 0)) rfl b_len bb_len)))) (ed_int)))
      (sds_cons (sd_set (ns hG (by decide)) sc_law_draw.nd rfl (by first | exact Or.inl rfl | exact Or.inr rfl) (ed_op od_mod (ed_ixO 1 (ed_int)) (ED.er (ed_int))))
      (sds_cons (sd_setIx 1 (ed_int) (ed_op od_div (ed_ixO 1 (ed_int)) (ED.er (ed_int))))
      (sds_cons (sd_set (ns hG (by decide)) sc_law_draw.nd rfl (by first | exact Or.inl rfl | exact Or.inr rfl) (ed_op od_mod (ed_op od_add (ed_op od_add (ed_var 4) (ED.er (ed_op od_mul (ed_int) (ED.er (ed_var 5))))) (ED.er (ed_op od_mul (ed_int) (ED.er (ed_var 3))))) (ED.er (ed_int))))
      (sds_cons (sd_set (ns hG (by decide)) sc_law_draw.nd rfl (by first | exact Or.inl rfl | exact Or.inr rfl) (ed_op od_mod (ed_op od_mul (ed_op od_mod (ed_op od_mul (ed_var 6) (ED.er (ed_var 6))) (ED.er (ed_int))) (ED.er (ed_int))) (ED.er (ed_int))))
      (sds_cons (sd_set (ns hG (by decide)) sc_law_draw.nd rfl (by first | exact Or.inl rfl | exact Or.inr rfl) (ed_op od_mod (ed_op od_mul (ed_op od_mod (ed_op od_mul (ed_var 6) (ED.er (ed_var 6))) (ED.er (ed_int))) (ED.er (ed_int))) (ED.er (ed_int))))
      (sds_one (sd_ret (ed_op od_mod (ed_op od_add (ed_op od_mul (ed_op od_div (ed_var 6) (ED.er (ed_int))) (ED.er (ed_int))) (ED.er (ed_op od_div (ed_var 7) (ED.er (ed_int))))) (ED.er (ed_var 2)))))))))))))
abbrev s_law_mixed : Stmt := topS 19
abbrev N_law_mixed : List Str := ["script", "town", "things", "rest", "found"]
theorem sc_law_mixed : FnScope N_law_mixed ["script", "town", "things"] (defScope s_law_mixed) := ⟨rfl, rfl, rfl, by decide +kernel, rfl, by decide +kernel, by decide +kernel⟩
theorem dv_law_mixed {f : Addr} {k : Nat} (b_len : mg "len" = none) (b_list : mg "list" = none) {sp_law_draw : SpD} {f_law_draw : Addr} {fd_law_draw : FuncData} {k_law_draw : Nat} (C_law_draw : FnOk P w K mg base CX0 k_law_draw f_law_draw fd_law_draw ["script", "town", "many"] (spL K sp_law_draw)) (h_law_draw : k_law_draw ≤ k) (C_law_draw_g : mg "_law_draw" = some (.ref f_law_draw)) (C_law_draw_k : PySem.W.keepIn K (.ref f_law_draw) = true) (C_law_draw_b : Binds K fd_law_draw ["script", "town", "many"] []) (cdv : Value) (A : Around) (outer : List PySem.Env) (s : Shared) (H : Hp) (E : XK) (hr : Room k (A.deeper (envOfC "_law_mixed" (defScope s_law_mixed) s.heap.objs.size f cdv))) (G : Gh) (hG : G.slots = [1]) :
    SDs (cxOf CX0 P w K mg base N_law_mixed "_law_mixed" (defScope s_law_mixed) f cdv A outer s H E).nox G (defBody s_law_mixed) (tb_law_mixed sp_law_draw) := by
  unfold tb_law_mixed
  exact sds_cons (sd_par2 (nsA hG (by decide)) rfl sc_law_mixed.nd rfl rfl (by decide) rfl rfl (eps_l (el_caT1 cd_list (ED.er (ed_var 2)) rfl b_list bb_list) (fun _ q1 => eps_l (el_lst (eds_nil)) (fun _ q2 => eps_nil))))
      (sds_cons (sd_while PassesOwn.never (eb_tru (er_var 3)) (sds_one (sd_expr (ed_app 4 (ed_popAt 3 (ed_call C_law_draw (hr.mono h_law_draw) rfl C_law_draw_g C_law_draw_k C_law_draw_b (ea_v (ed_var 0) (ea_o 1 (ea_v (ed_ca1 cd_len (er_var 3) rfl b_len bb_len) (ea_nil))))))))))
      (sds_one (sd_ret (ed_fzv 4))))
abbrev s_law_trick_won : Stmt := topS 22
abbrev N_law_trick_won : List Str := ["strain", "leader", "trick", "suit", "best", "card"]
theorem sc_law_trick_won : FnScope N_law_trick_won ["strain", "leader", "trick"] (defScope s_law_trick_won) := ⟨rfl, rfl, rfl, by decide +kernel, rfl, by decide +kernel, by decide +kernel⟩
theorem dv_law_trick_won {f : Addr} {k : Nat} (b_max : mg "max" = none) (cdv : Value) (A : Around) (outer : List PySem.Env) (s : Shared) (H : Hp) (E : XK) (hr : Room k (A.deeper (envOfC "_law_trick_won" (defScope s_law_trick_won) s.heap.objs.size f cdv))) (G : Gh) (hG : G.slots = []) :
    SDs (cxOf CX0 P w K mg base N_law_trick_won "_law_trick_won" (defScope s_law_trick_won) f cdv A outer s H E).nox G (defBody s_law_trick_won) (tb_law_trick_won) := by
  unfold tb_law_trick_won
  exact sds_cons (sd_set (ns hG (by decide)) sc_law_trick_won.nd rfl (by first | exact Or.inl rfl | exact Or.inr rfl) (ed_if (eb_cmp (od_in (u65 hr)) (ed_var 0) (ED.er (EL.ed (el_comp [("card", 5)] rfl sc_law_trick_won.nd rfl (nsA hG (by decide)) (id_tup (ed_var 2)) (blkOk_by (N := N_law_trick_won) (sc := defScope s_law_trick_won) (by decide +kernel)) (fun _ q2 _ _ _ _ _ => gd_name (ns (q2.trans hG) (by decide)) (by decide) sc_law_trick_won.nd rfl (by first | exact Or.inl rfl | exact Or.inr rfl)) (fun _ q2 _ _ _ _ _ => ebs_nil) (fun _ q2 _ _ _ _ _ => ed_ix (ed_var 5) (ed_int))))) rfl) (ed_var 0) (ed_ix (ed_ix (ed_var 2) (ed_int)) (ed_int))))
      (sds_cons (sd_set (ns hG (by decide)) sc_law_trick_won.nd rfl (by first | exact Or.inl rfl | exact Or.inr rfl) (ed_ca1 (cd_maxD rfl (u65 hr)) (ED.er (EL.ed (el_comp [("card", 5)] rfl sc_law_trick_won.nd rfl (nsA hG (by decide)) (id_tup (ed_var 2)) (blkOk_by (N := N_law_trick_won) (sc := defScope s_law_trick_won) (by decide +kernel)) (fun _ q1 _ _ _ _ _ => gd_name (ns (q1.trans hG) (by decide)) (by decide) sc_law_trick_won.nd rfl (by first | exact Or.inl rfl | exact Or.inr rfl)) (fun _ q1 _ _ _ _ _ => ebs_one (eb_cmp (od_eq hr.units) (ed_ix (ed_var 5) (ed_int)) (ED.er (ed_var 3)) (nomark _))) (fun _ q1 _ _ _ _ _ => ed_var 5)))) rfl b_max bb_max))
      (sds_one (sd_ret (ed_op od_mod (ed_op od_add (ed_var 1) (ED.er (ed_indexT (u65 hr) (ed_var 2) (ed_var 4)))) (ED.er (ed_int))))))
abbrev s_law_walk : Stmt := topS 23
abbrev N_law_walk : List Str := ["strain", "leader", "cards", "won", "trick", "card"]
theorem sc_law_walk : FnScope N_law_walk ["strain", "leader", "cards"] (defScope s_law_walk) := ⟨rfl, rfl, rfl, by decide +kernel, rfl, by decide +kernel, by decide +kernel⟩
theorem dv_law_walk {f : Addr} {k : Nat} (b_tuple : mg "tuple" = none) (b_len : mg "len" = none) {sp_law_trick_won : SpD} {f_law_trick_won : Addr} {fd_law_trick_won : FuncData} {k_law_trick_won : Nat} (C_law_trick_won : FnOk P w K mg base CX0 k_law_trick_won f_law_trick_won fd_law_trick_won ["strain", "leader", "trick"] (spL K sp_law_trick_won)) (h_law_trick_won : k_law_trick_won ≤ k) (C_law_trick_won_g : mg "_law_trick_won" = some (.ref f_law_trick_won)) (C_law_trick_won_k : PySem.W.keepIn K (.ref f_law_trick_won) = true) (C_law_trick_won_b : Binds K fd_law_trick_won ["strain", "leader", "trick"] []) (cdv : Value) (A : Around) (outer : List PySem.Env) (s : Shared) (H : Hp) (E : XK) (hr : Room k (A.deeper (envOfC "_law_walk" (defScope s_law_walk) s.heap.objs.size f cdv))) (G : Gh) (hG : G.slots = []) :
    SDs (cxOf CX0 P w K mg base N_law_walk "_law_walk" (defScope s_law_walk) f cdv A outer s H E).nox G (defBody s_law_walk) (tb_law_walk sp_law_trick_won) := by
  unfold tb_law_walk
  exact sds_cons (sd_par2 (nsA hG (by decide)) rfl sc_law_walk.nd rfl rfl (by decide) rfl rfl (eps_l (el_lst (eds_cons (ed_int) (eds_cons (ed_int) (eds_nil)))) (fun _ q1 => eps_d (ed_tup (eds_nil)) (eps_nil))))
      (sds_cons (sd_for (ms := [5]) PassesOwn.never rfl (id_tup (ed_var 2)) (gd_name (ns hG (by decide)) (by decide) sc_law_walk.nd rfl (by first | exact Or.inl rfl | exact Or.inr rfl)) (sds_cons (sd_set (ns hG (by decide)) sc_law_walk.nd rfl (by first | exact Or.inl rfl | exact Or.inr rfl) (ed_op od_add (ed_var 4) (ED.er (ed_tup (eds_cons (ed_var 5) (eds_nil))))))
      (sds_one (sd_if (eb_cmp (od_eq hr.units) (ed_ca1 cd_len (ED.er (ed_var 4)) rfl b_len bb_len) (ED.er (ed_int)) (nomark _)) (sds_cons (sd_par2 (nsA hG (by decide)) rfl sc_law_walk.nd rfl rfl (by decide) rfl rfl (eps_d (ed_call C_law_trick_won (hr.mono h_law_trick_won) rfl C_law_trick_won_g C_law_trick_won_k C_law_trick_won_b (ea_v (ed_var 0) (ea_v (ed_var 1) (ea_v (ed_var 4) (ea_nil))))) (eps_d (ed_tup (eds_nil)) (eps_nil))))
      (sds_one (sd_setIx 3 (ed_op od_mod (ed_var 1) (ED.er (ed_int))) (ed_op od_add (ed_ixO 3 (ed_op od_mod (ed_var 1) (ED.er (ed_int)))) (ED.er (ed_int)))))) (sds_nil)))))
      (sds_one (sd_ret (ed_tup (eds_cons (ed_var 1) (eds_cons (ed_var 4) (eds_cons (ed_caT1 cd_tuple (er_var 3) rfl b_tuple bb_tuple) (eds_nil))))))))
abbrev s_law_may_play : Stmt := topS 24
abbrev N_law_may_play : List Str := ["deal", "strain", "leader", "cards", "first", "trick", "won", "hand", "some", "card"]
theorem sc_law_may_play : FnScope N_law_may_play ["deal", "strain", "leader", "cards"] (defScope s_law_may_play) := ⟨rfl, rfl, rfl, by decide +kernel, rfl, by decide +kernel, by decide +kernel⟩
theorem dv_law_may_play {f : Addr} {k : Nat} (b_tuple : mg "tuple" = none) (b_len : mg "len" = none) {sp_law_walk : SpD} {f_law_walk : Addr} {fd_law_walk : FuncData} {k_law_walk : Nat} (C_law_walk : FnOk P w K mg base CX0 k_law_walk f_law_walk fd_law_walk ["strain", "leader", "cards"] (spL K sp_law_walk)) (h_law_walk : k_law_walk ≤ k) (C_law_walk_g : mg "_law_walk" = some (.ref f_law_walk)) (C_law_walk_k : PySem.W.keepIn K (.ref f_law_walk) = true) (C_law_walk_b : Binds K fd_law_walk ["strain", "leader", "cards"] []) (cdv : Value) (A : Around) (outer : List PySem.Env) (s : Shared) (H : Hp) (E : XK) (hr : Room k (A.deeper (envOfC "_law_may_play" (defScope s_law_may_play) s.heap.objs.size f cdv))) (G : Gh) (hG : G.slots = []) :
    SDs (cxOf CX0 P w K mg base N_law_may_play "_law_may_play" (defScope s_law_may_play) f cdv A outer s H E).nox G (defBody s_law_may_play) (tb_law_may_play sp_law_walk) := by
  unfold tb_law_may_play
  exact sds_cons (sd_asg (ms := [4, 5, 6]) (ed_call C_law_walk (hr.mono h_law_walk) rfl C_law_walk_g C_law_walk_k C_law_walk_b (ea_v (ed_var 1) (ea_v (ed_var 2) (ea_v (ed_var 3) (ea_nil))))) (gd_tup rfl (gds_cons (gd_name (ns hG (by decide)) (by decide) sc_law_may_play.nd rfl (by first | exact Or.inl rfl | exact Or.inr rfl)) (gds_cons (gd_name (ns hG (by decide)) (by decide) sc_law_may_play.nd rfl (by first | exact Or.inl rfl | exact Or.inr rfl)) (gds_cons (gd_name (ns hG (by decide)) (by decide) sc_law_may_play.nd rfl (by first | exact Or.inl rfl | exact Or.inr rfl)) (gds_nil))))))
      (sds_cons (sd_setC [("card", 9)] (ns hG (by decide)) rfl sc_law_may_play.nd rfl rfl (sw_true rfl rfl rfl (by decide +kernel)) rfl (nsA hG (by decide)) (id_tup (ed_ix (ed_var 0) (ed_op od_mod (ed_op od_add (ed_var 4) (ED.er (ed_ca1 cd_len (ED.er (ed_var 5)) rfl b_len bb_len))) (ED.er (ed_int))))) (blkOk_by (N := N_law_may_play) (sc := defScope s_law_may_play) (by decide +kernel)) (fun _ q2 _ _ _ _ _ => gd_name (ns (q2.trans hG) (by decide)) (by decide) sc_law_may_play.nd rfl (by first | exact Or.inl rfl | exact Or.inr rfl)) (fun _ q2 _ _ _ _ _ => ebs_one (eb_cmp (od_notIn (u65 hr)) (ed_var 9) (ED.er (ed_var 3)) rfl)) (fun _ q2 _ _ _ _ _ => ed_var 9))
      (sds_cons (sd_setC [("card", 9)] (ns hG (by decide)) rfl sc_law_may_play.nd rfl rfl (sw_true rfl rfl rfl (by decide +kernel)) rfl (nsA hG (by decide)) (id_lst (ed_var 7)) (blkOk_by (N := N_law_may_play) (sc := defScope s_law_may_play) (by decide +kernel)) (fun _ q1 _ _ _ _ _ => gd_name (ns (q1.trans hG) (by decide)) (by decide) sc_law_may_play.nd rfl (by first | exact Or.inl rfl | exact Or.inr rfl)) (fun _ q1 _ _ _ _ _ => ebs_one (EW.eb (ew_and (eb_tru (ED.er (ed_var 5))) (ew_and1 (eb_cmp (od_eq hr.units) (ed_ix (ed_var 9) (ed_int)) (ED.er (ed_ix (ed_ix (ed_var 5) (ed_int)) (ed_int))) (nomark _)))))) (fun _ q1 _ _ _ _ _ => ed_var 9))
      (sds_one (sd_ret (ed_caT1 cd_tuple (ED.er (ed_orT (ed_var 8) (ed_one (ed_var 7)))) rfl b_tuple bb_tuple)))))
abbrev s_law_pick : Stmt := topS 18
abbrev N_law_pick : List Str := ["script", "town", "some"]
theorem sc_law_pick : FnScope N_law_pick ["script", "town", "some"] (defScope s_law_pick) := ⟨rfl, rfl, rfl, by decide +kernel, rfl, by decide +kernel, by decide +kernel⟩
theorem dv_law_pick {f : Addr} {k : Nat} (b_len : mg "len" = none) {sp_law_draw : SpD} {f_law_draw : Addr} {fd_law_draw : FuncData} {k_law_draw : Nat} (C_law_draw : FnOk P w K mg base CX0 k_law_draw f_law_draw fd_law_draw ["script", "town", "many"] (spL K sp_law_draw)) (h_law_draw : k_law_draw ≤ k) (C_law_draw_g : mg "_law_draw" = some (.ref f_law_draw)) (C_law_draw_k : PySem.W.keepIn K (.ref f_law_draw) = true) (C_law_draw_b : Binds K fd_law_draw ["script", "town", "many"] []) (cdv : Value) (A : Around) (outer : List PySem.Env) (s : Shared) (H : Hp) (E : XK) (hr : Room k (A.deeper (envOfC "_law_pick" (defScope s_law_pick) s.heap.objs.size f cdv))) (G : Gh) (hG : G.slots = [1]) :
    SDs (cxOf CX0 P w K mg base N_law_pick "_law_pick" (defScope s_law_pick) f cdv A outer s H E).nox G (defBody s_law_pick) (tb_law_pick sp_law_draw) := by
  unfold tb_law_pick
  exact sds_one (sd_ret (ed_ix (ed_var 2) (ed_call C_law_draw (hr.mono h_law_draw) rfl C_law_draw_g C_law_draw_k C_law_draw_b (ea_v (ed_var 0) (ea_o 1 (ea_v (ed_ca1 cd_len (ED.er (ed_var 2)) rfl b_len bb_len) (ea_nil)))))))
abbrev s_law_drawn_cards : Stmt := topS 25
abbrev N_law_drawn_cards : List Str := ["script", "town", "deal", "strain", "leader", "most", "cards", "k"]
theorem sc_law_drawn_cards : FnScope N_law_drawn_cards ["script", "town", "deal", "strain", "leader", "most"] (defScope s_law_drawn_cards) := ⟨rfl, rfl, rfl, by decide +kernel, rfl, by decide +kernel, by decide +kernel⟩
theorem dv_law_drawn_cards {f : Addr} {k : Nat} (b_len : mg "len" = none) (b_min : mg "min" = none) (b_range : mg "range" = none) {sp_law_may_play : SpD} {f_law_may_play : Addr} {fd_law_may_play : FuncData} {k_law_may_play : Nat} (C_law_may_play : FnOk P w K mg base CX0 k_law_may_play f_law_may_play fd_law_may_play ["deal", "strain", "leader", "cards"] (spL K sp_law_may_play)) (h_law_may_play : k_law_may_play ≤ k) (C_law_may_play_g : mg "_law_may_play" = some (.ref f_law_may_play)) (C_law_may_play_k : PySem.W.keepIn K (.ref f_law_may_play) = true) (C_law_may_play_b : Binds K fd_law_may_play ["deal", "strain", "leader", "cards"] []) {sp_law_pick : SpD} {f_law_pick : Addr} {fd_law_pick : FuncData} {k_law_pick : Nat} (C_law_pick : FnOk P w K mg base CX0 k_law_pick f_law_pick fd_law_pick ["script", "town", "some"] (spL K sp_law_pick)) (h_law_pick : k_law_pick ≤ k) (C_law_pick_g : mg "_law_pick" = some (.ref f_law_pick)) (C_law_pick_k : PySem.W.keepIn K (.ref f_law_pick) = true) (C_law_pick_b : Binds K fd_law_pick ["script", "town", "some"] []) (cdv : Value) (A : Around) (outer : List PySem.Env) (s : Shared) (H : Hp) (E : XK) (hr : Room k (A.deeper (envOfC "_law_drawn_cards" (defScope s_law_drawn_cards) s.heap.objs.size f cdv))) (G : Gh) (hG : G.slots = [1]) :
    SDs (cxOf CX0 P w K mg base N_law_drawn_cards "_law_drawn_cards" (defScope s_law_drawn_cards) f cdv A outer s H E).nox G (defBody s_law_drawn_cards) (tb_law_drawn_cards sp_law_may_play sp_law_pick) := by
  unfold tb_law_drawn_cards
  exact sds_cons (sd_set (ns hG (by decide)) sc_law_drawn_cards.nd rfl (by first | exact Or.inl rfl | exact Or.inr rfl) (ed_tup (eds_nil)))
      (sds_cons (sd_for (ms := [7]) PassesOwn.never rfl (id_range1 rfl b_range (ed_ca2 (cd_min2 rfl) (ed_var 5) (ED.er (ed_op od_mul (ed_int) (ED.er (ed_ca1 cd_len (ED.er (ed_ix (ed_var 2) (ed_int))) rfl b_len bb_len)))) rfl b_min bb_min)) (gd_name (ns hG (by decide)) (by decide) sc_law_drawn_cards.nd rfl (by first | exact Or.inl rfl | exact Or.inr rfl)) (sds_one (sd_set (ns hG (by decide)) sc_law_drawn_cards.nd rfl (by first | exact Or.inl rfl | exact Or.inr rfl) (ed_op od_add (ed_var 6) (ED.er (ed_tup (eds_cons (ed_call C_law_pick (hr.mono h_law_pick) rfl C_law_pick_g C_law_pick_k C_law_pick_b (ea_v (ed_var 0) (ea_o 1 (ea_v (ed_call C_law_may_play (hr.mono h_law_may_play) rfl C_law_may_play_g C_law_may_play_k C_law_may_play_b (ea_v (ed_var 2) (ea_v (ed_var 3) (ea_v (ed_var 4) (ea_v (ed_var 6) (ea_nil)))))) (ea_nil))))) (eds_nil))))))))
      (sds_one (sd_ret (ed_var 6))))
abbrev s_law_all_cards : Stmt := topS 20
abbrev N_law_all_cards : List Str := ["ranks", "found", "suit", "rank"]
theorem sc_law_all_cards : FnScope N_law_all_cards ["ranks"] (defScope s_law_all_cards) := ⟨rfl, rfl, rfl, by decide +kernel, rfl, by decide +kernel, by decide +kernel⟩
theorem dv_law_all_cards {f : Addr} {k : Nat} (b_range : mg "range" = none) (cdv : Value) (A : Around) (outer : List PySem.Env) (s : Shared) (H : Hp) (E : XK) (hr : Room k (A.deeper (envOfC "_law_all_cards" (defScope s_law_all_cards) s.heap.objs.size f cdv))) (G : Gh) (hG : G.slots = []) :
    SDs (cxOf CX0 P w K mg base N_law_all_cards "_law_all_cards" (defScope s_law_all_cards) f cdv A outer s H E).nox G (defBody s_law_all_cards) (tb_law_all_cards) := by
  unfold tb_law_all_cards
  exact sds_cons (sd_setL (ns hG (by decide)) sc_law_all_cards.nd rfl (by first | exact Or.inl rfl | exact Or.inr rfl) (el_lst (eds_nil)))
      (sds_cons (sd_for (ms := [2]) PassesOwn.never rfl (id_range1 rfl b_range (ed_int)) (gd_name (ns hG (by decide)) (by decide) sc_law_all_cards.nd rfl (by first | exact Or.inl rfl | exact Or.inr rfl)) (sds_one (sd_expr (ed_extd 1 (el_comp [("rank", 3)] rfl sc_law_all_cards.nd rfl (nsA hG (by decide)) (id_range2 rfl b_range (ed_int) (ed_op od_add (ed_var 0) (ED.er (ed_int)))) (blkOk_by (N := N_law_all_cards) (sc := defScope s_law_all_cards) (by decide +kernel)) (fun _ q1 _ _ _ _ _ => gd_name (ns (q1.trans hG) (by decide)) (by decide) sc_law_all_cards.nd rfl (by first | exact Or.inl rfl | exact Or.inr rfl)) (fun _ q1 _ _ _ _ _ => ebs_nil) (fun _ q1 _ _ _ _ _ => ed_tup (eds_cons (ed_var 2) (eds_cons (ed_var 3) (eds_nil)))))))))
      (sds_one (sd_ret (ed_fzv 1))))
abbrev s_law_drawn_deal : Stmt := topS 21
abbrev N_law_drawn_deal : List Str := ["script", "town", "ranks", "cards", "at"]
theorem sc_law_drawn_deal : FnScope N_law_drawn_deal ["script", "town", "ranks"] (defScope s_law_drawn_deal) := ⟨rfl, rfl, rfl, by decide +kernel, rfl, by decide +kernel, by decide +kernel⟩
theorem dv_law_drawn_deal {f : Addr} {k : Nat} (b_range : mg "range" = none) (b_sorted : mg "sorted" = none) (b_tuple : mg "tuple" = none) {sp_law_all_cards : SpD} {f_law_all_cards : Addr} {fd_law_all_cards : FuncData} {k_law_all_cards : Nat} (C_law_all_cards : FnOk P w K mg base CX0 k_law_all_cards f_law_all_cards fd_law_all_cards ["ranks"] (spL K sp_law_all_cards)) (h_law_all_cards : k_law_all_cards ≤ k) (C_law_all_cards_g : mg "_law_all_cards" = some (.ref f_law_all_cards)) (C_law_all_cards_k : PySem.W.keepIn K (.ref f_law_all_cards) = true) (C_law_all_cards_b : Binds K fd_law_all_cards ["ranks"] []) {sp_law_mixed : SpD} {f_law_mixed : Addr} {fd_law_mixed : FuncData} {k_law_mixed : Nat} (C_law_mixed : FnOk P w K mg base CX0 k_law_mixed f_law_mixed fd_law_mixed ["script", "town", "things"] (spL K sp_law_mixed)) (h_law_mixed : k_law_mixed ≤ k) (C_law_mixed_g : mg "_law_mixed" = some (.ref f_law_mixed)) (C_law_mixed_k : PySem.W.keepIn K (.ref f_law_mixed) = true) (C_law_mixed_b : Binds K fd_law_mixed ["script", "town", "things"] []) (cdv : Value) (A : Around) (outer : List PySem.Env) (s : Shared) (H : Hp) (E : XK) (hr : Room k (A.deeper (envOfC "_law_drawn_deal" (defScope s_law_drawn_deal) s.heap.objs.size f cdv))) (G : Gh) (hG : G.slots = [1]) :
    SDs (cxOf CX0 P w K mg base N_law_drawn_deal "_law_drawn_deal" (defScope s_law_drawn_deal) f cdv A outer s H E).nox G (defBody s_law_drawn_deal) (tb_law_drawn_deal sp_law_all_cards sp_law_mixed) := by
  unfold tb_law_drawn_deal
  exact sds_cons (sd_set (ns hG (by decide)) sc_law_drawn_deal.nd rfl (by first | exact Or.inl rfl | exact Or.inr rfl) (ed_call C_law_mixed (hr.mono h_law_mixed) rfl C_law_mixed_g C_law_mixed_k C_law_mixed_b (ea_v (ed_var 0) (ea_o 1 (ea_v (ed_call C_law_all_cards (hr.mono h_law_all_cards) rfl C_law_all_cards_g C_law_all_cards_k C_law_all_cards_b (ea_v (ed_var 2) (ea_nil))) (ea_nil))))))
      (sds_one (sd_ret (ed_caT1 cd_tuple (ED.er (EL.ed (el_comp [("at", 4)] rfl sc_law_drawn_deal.nd rfl (nsA hG (by decide)) (id_range1 rfl b_range (ed_int)) (blkOk_by (N := N_law_drawn_deal) (sc := defScope s_law_drawn_deal) (by decide +kernel)) (fun _ q1 _ _ _ _ _ => gd_name (ns (q1.trans hG) (by decide)) (by decide) sc_law_drawn_deal.nd rfl (by first | exact Or.inl rfl | exact Or.inr rfl)) (fun _ q1 _ _ _ _ _ => ebs_nil) (fun _ q1 _ _ _ _ _ => ed_caT1 cd_tuple (ED.er (EL.ed (el_ca1 (cd_sorted (u65 hr)) (ED.er (EL.ed (el_sl (ed_var 3) (eo_e (ed_op od_mul (ed_var 4) (ED.er (ed_var 2)))) (eo_e (ed_op od_add (ed_op od_mul (ed_var 4) (ED.er (ed_var 2))) (ED.er (ed_var 2))))))) rfl b_sorted bb_sorted))) rfl b_tuple bb_tuple)))) rfl b_tuple bb_tuple)))
abbrev s_law : Stmt := topS 28
abbrev N_law : List Str := ["script", "town", "k", "ranks", "strain", "leader", "deal", "most", "cards", "order", "turn", "hands", "new", "start", "row", "player", "told", "due", "some", "left", "won", "suit", "rank"]
theorem sc_law : FnScope N_law ["script"] (defScope s_law) := ⟨rfl, rfl, rfl, by decide +kernel, rfl, by decide +kernel, by decide +kernel⟩
theorem dv_law {f : Addr} {k : Nat} (b_range : mg "range" = none) (b_sorted : mg "sorted" = none) (b_tuple : mg "tuple" = none) (b_max : mg "max" = none) {sp_law_best_holds : SpD} {f_law_best_holds : Addr} {fd_law_best_holds : FuncData} {k_law_best_holds : Nat} (C_law_best_holds : FnOk P w K mg base CX0 k_law_best_holds f_law_best_holds fd_law_best_holds ["deal", "strain", "leader", "cards", "other"] (spL K sp_law_best_holds)) (h_law_best_holds : k_law_best_holds ≤ k) (C_law_best_holds_g : mg "_law_best_holds" = some (.ref f_law_best_holds)) (C_law_best_holds_k : PySem.W.keepIn K (.ref f_law_best_holds) = true) (C_law_best_holds_b : Binds K fd_law_best_holds ["deal", "strain", "leader", "cards", "other"] []) {sp_tricks_of : SpD} {f_tricks_of : Addr} {fd_tricks_of : FuncData} {k_tricks_of : Nat} (C_tricks_of : FnOk P w K mg base CX0 k_tricks_of f_tricks_of fd_tricks_of ["strain", "leader", "cards"] (spL K sp_tricks_of)) (h_tricks_of : k_tricks_of ≤ k) (C_tricks_of_g : mg "tricks_of" = some (.ref f_tricks_of)) (C_tricks_of_k : PySem.W.keepIn K (.ref f_tricks_of) = true) (C_tricks_of_b : Binds K fd_tricks_of ["strain", "leader", "cards"] []) {sp_law_same : SpD} {f_law_same : Addr} {fd_law_same : FuncData} {k_law_same : Nat} (C_law_same : FnOk P w K mg base CX0 k_law_same f_law_same fd_law_same ["got", "due"] (spL K sp_law_same)) (h_law_same : k_law_same ≤ k) (C_law_same_g : mg "_law_same" = some (.ref f_law_same)) (C_law_same_k : PySem.W.keepIn K (.ref f_law_same) = true) (C_law_same_b : Binds K fd_law_same ["got", "due"] []) {sp_law_turned : SpD} {f_law_turned : Addr} {fd_law_turned : FuncData} {k_law_turned : Nat} (C_law_turned : FnOk P w K mg base CX0 k_law_turned f_law_turned fd_law_turned ["deal", "order", "turn"] (spL K sp_law_turned)) (h_law_turned : k_law_turned ≤ k) (C_law_turned_g : mg "_law_turned" = some (.ref f_law_turned)) (C_law_turned_k : PySem.W.keepIn K (.ref f_law_turned) = true) (C_law_turned_b : Binds K fd_law_turned ["deal", "order", "turn"] []) {sp_left_of : SpD} {f_left_of : Addr} {fd_left_of : FuncData} {k_left_of : Nat} (C_left_of : FnOk P w K mg base CX0 k_left_of f_left_of fd_left_of ["deal", "cards"] (spL K sp_left_of)) (h_left_of : k_left_of ≤ k) (C_left_of_g : mg "left_of" = some (.ref f_left_of)) (C_left_of_k : PySem.W.keepIn K (.ref f_left_of) = true) (C_left_of_b : Binds K fd_left_of ["deal", "cards"] []) {sp_may_play : SpD} {f_may_play : Addr} {fd_may_play : FuncData} {k_may_play : Nat} (C_may_play : FnOk P w K mg base CX0 k_may_play f_may_play fd_may_play ["deal", "strain", "leader", "cards"] (spL K sp_may_play)) (h_may_play : k_may_play ≤ k) (C_may_play_g : mg "may_play" = some (.ref f_may_play)) (C_may_play_k : PySem.W.keepIn K (.ref f_may_play) = true) (C_may_play_b : Binds K fd_may_play ["deal", "strain", "leader", "cards"] []) {sp_turn_of : SpD} {f_turn_of : Addr} {fd_turn_of : FuncData} {k_turn_of : Nat} (C_turn_of : FnOk P w K mg base CX0 k_turn_of f_turn_of fd_turn_of ["deal", "strain", "leader", "cards"] (spL K sp_turn_of)) (h_turn_of : k_turn_of ≤ k) (C_turn_of_g : mg "turn_of" = some (.ref f_turn_of)) (C_turn_of_k : PySem.W.keepIn K (.ref f_turn_of) = true) (C_turn_of_b : Binds K fd_turn_of ["deal", "strain", "leader", "cards"] []) {sp_play_fault : SpD} {f_play_fault : Addr} {fd_play_fault : FuncData} {k_play_fault : Nat} (C_play_fault : FnOk P w K mg base CX0 k_play_fault f_play_fault fd_play_fault ["deal", "strain", "leader", "cards"] (spL K sp_play_fault)) (h_play_fault : k_play_fault ≤ k) (C_play_fault_g : mg "play_fault" = some (.ref f_play_fault)) (C_play_fault_k : PySem.W.keepIn K (.ref f_play_fault) = true) (C_play_fault_b : Binds K fd_play_fault ["deal", "strain", "leader", "cards"] []) {sp_law_mixed : SpD} {f_law_mixed : Addr} {fd_law_mixed : FuncData} {k_law_mixed : Nat} (C_law_mixed : FnOk P w K mg base CX0 k_law_mixed f_law_mixed fd_law_mixed ["script", "town", "things"] (spL K sp_law_mixed)) (h_law_mixed : k_law_mixed ≤ k) (C_law_mixed_g : mg "_law_mixed" = some (.ref f_law_mixed)) (C_law_mixed_k : PySem.W.keepIn K (.ref f_law_mixed) = true) (C_law_mixed_b : Binds K fd_law_mixed ["script", "town", "things"] []) {sp_law_draw : SpD} {f_law_draw : Addr} {fd_law_draw : FuncData} {k_law_draw : Nat} (C_law_draw : FnOk P w K mg base CX0 k_law_draw f_law_draw fd_law_draw ["script", "town", "many"] (spL K sp_law_draw)) (h_law_draw : k_law_draw ≤ k) (C_law_draw_g : mg "_law_draw" = some (.ref f_law_draw)) (C_law_draw_k : PySem.W.keepIn K (.ref f_law_draw) = true) (C_law_draw_b : Binds K fd_law_draw ["script", "town", "many"] []) {sp_law_drawn_cards : SpD} {f_law_drawn_cards : Addr} {fd_law_drawn_cards : FuncData} {k_law_drawn_cards : Nat} (C_law_drawn_cards : FnOk P w K mg base CX0 k_law_drawn_cards f_law_drawn_cards fd_law_drawn_cards ["script", "town", "deal", "strain", "leader", "most"] (spL K sp_law_drawn_cards)) (h_law_drawn_cards : k_law_drawn_cards ≤ k) (C_law_drawn_cards_g : mg "_law_drawn_cards" = some (.ref f_law_drawn_cards)) (C_law_drawn_cards_k : PySem.W.keepIn K (.ref f_law_drawn_cards) = true) (C_law_drawn_cards_b : Binds K fd_law_drawn_cards ["script", "town", "deal", "strain", "leader", "most"] []) {sp_law_drawn_deal : SpD} {f_law_drawn_deal : Addr} {fd_law_drawn_deal : FuncData} {k_law_drawn_deal : Nat} (C_law_drawn_deal : FnOk P w K mg base CX0 k_law_drawn_deal f_law_drawn_deal fd_law_drawn_deal ["script", "town", "ranks"] (spL K sp_law_drawn_deal)) (h_law_drawn_deal : k_law_drawn_deal ≤ k) (C_law_drawn_deal_g : mg "_law_drawn_deal" = some (.ref f_law_drawn_deal)) (C_law_drawn_deal_k : PySem.W.keepIn K (.ref f_law_drawn_deal) = true) (C_law_drawn_deal_b : Binds K fd_law_drawn_deal ["script", "town", "ranks"] []) {sp_law_pick : SpD} {f_law_pick : Addr} {fd_law_pick : FuncData} {k_law_pick : Nat} (C_law_pick : FnOk P w K mg base CX0 k_law_pick f_law_pick fd_law_pick ["script", "town", "some"] (spL K sp_law_pick)) (h_law_pick : k_law_pick ≤ k) (C_law_pick_g : mg "_law_pick" = some (.ref f_law_pick)) (C_law_pick_k : PySem.W.keepIn K (.ref f_law_pick) = true) (C_law_pick_b : Binds K fd_law_pick ["script", "town", "some"] []) (cdv : Value) (A : Around) (outer : List PySem.Env) (s : Shared) (H : Hp) (E : XK) (hr : Room k (A.deeper (envOfC "law" (defScope s_law) s.heap.objs.size f cdv))) (G : Gh) (hG : G.slots = []) :
    SDs (cxOf CX0 P w K mg base N_law "law" (defScope s_law) f cdv A outer s H E).nox G (defBody s_law) (tb_law_k15 sp_law_best_holds sp_tricks_of sp_law_same sp_law_turned sp_left_of sp_may_play sp_turn_of sp_play_fault sp_law_mixed sp_law_draw sp_law_drawn_cards sp_law_drawn_deal sp_law_pick) := by
  unfold tb_law_k15
  exact sds_cons (sd_setL (ns hG (by decide)) sc_law.nd rfl (by first | exact Or.inl rfl | exact Or.inr rfl) (el_lst (eds_nil)))
      (sds_cons (sd_for (ms := [2]) PassesOwn.never rfl (id_range1 rfl b_range (ed_int)) (gd_name (ns hG (by decide)) (by decide) sc_law.nd rfl (by first | exact Or.inl rfl | exact Or.inr rfl)) (sds_cons (sd_par2 (nsA hG (by decide)) rfl sc_law.nd rfl rfl (by decide) rfl rfl (eps_d (ed_call C_law_pick (hr.mono h_law_pick) rfl C_law_pick_g C_law_pick_k C_law_pick_b (ea_v (ed_var 0) (ea_o 1 (ea_v (EL.ed (el_lst (eds_cons (ed_int) (eds_cons (ed_int) (eds_cons (ed_int) (eds_cons (ed_int) (eds_nil))))))) (ea_nil))))) (eps_d (ed_call C_law_draw (hr.mono h_law_draw) rfl C_law_draw_g C_law_draw_k C_law_draw_b (ea_v (ed_var 0) (ea_o 1 (ea_v (ed_int) (ea_nil))))) (eps_nil))))
      (sds_cons (sd_par2 (nsA hG (by decide)) rfl sc_law.nd rfl rfl (by decide) rfl rfl (eps_d (ed_call C_law_draw (hr.mono h_law_draw) rfl C_law_draw_g C_law_draw_k C_law_draw_b (ea_v (ed_var 0) (ea_o 1 (ea_v (ed_int) (ea_nil))))) (eps_d (ed_call C_law_drawn_deal (hr.mono h_law_drawn_deal) rfl C_law_drawn_deal_g C_law_drawn_deal_k C_law_drawn_deal_b (ea_v (ed_var 0) (ea_o 1 (ea_v (ed_var 3) (ea_nil))))) (eps_nil))))
      (sds_cons (sd_set (ns hG (by decide)) sc_law.nd rfl (by first | exact Or.inl rfl | exact Or.inr rfl) (ed_call C_law_draw (hr.mono h_law_draw) rfl C_law_draw_g C_law_draw_k C_law_draw_b (ea_v (ed_var 0) (ea_o 1 (ea_v (ed_op od_add (ed_op od_mul (ed_int) (ED.er (ed_var 3))) (ED.er (ed_int))) (ea_nil))))))
      (sds_cons (sd_set (ns hG (by decide)) sc_law.nd rfl (by first | exact Or.inl rfl | exact Or.inr rfl) (ed_call C_law_drawn_cards (hr.mono h_law_drawn_cards) rfl C_law_drawn_cards_g C_law_drawn_cards_k C_law_drawn_cards_b (ea_v (ed_var 0) (ea_o 1 (ea_v (ed_var 6) (ea_v (ed_var 4) (ea_v (ed_var 5) (ea_v (ed_ca2 (cd_max2 rfl) (ed_var 7) (ED.er (ed_op od_sub (ed_op od_mul (ed_int) (ED.er (ed_var 3))) (ED.er (ed_int)))) rfl b_max bb_max) (ea_nil)))))))))
      (sds_cons (sd_parC (nsA hG (by decide)) rfl (by decide) (eps_d (EL.ed (el_op od_cat (ed_call C_law_mixed (hr.mono h_law_mixed) rfl C_law_mixed_g C_law_mixed_k C_law_mixed_b (ea_v (ed_var 0) (ea_o 1 (ea_v (EL.ed (el_lst (eds_cons (ed_int) (eds_cons (ed_int) (eds_cons (ed_int) (eds_cons (ed_int) (eds_nil))))))) (ea_nil))))) (ED.er (EL.ed (el_lst (eds_cons (ed_int) (eds_nil))))))) (eps_d (ed_call C_law_draw (hr.mono h_law_draw) rfl C_law_draw_g C_law_draw_k C_law_draw_b (ea_v (ed_var 0) (ea_o 1 (ea_v (ed_int) (ea_nil))))) (eps_nil))) rfl (pgs_nS sc_law.nd rfl (by first | exact Or.inl rfl | exact Or.inr rfl) (pgs_nS sc_law.nd rfl (by first | exact Or.inl rfl | exact Or.inr rfl) (pgs_n0))))
      (sds_cons (sd_par3 (nsA hG (by decide)) rfl sc_law.nd rfl rfl rfl (by decide) (by decide) (by decide) rfl rfl rfl (eps_d (ed_call C_law_turned (hr.mono h_law_turned) rfl C_law_turned_g C_law_turned_k C_law_turned_b (ea_v (ed_var 6) (ea_v (ed_var 9) (ea_v (ed_var 10) (ea_nil))))) (eps_d (ed_ix (ed_var 9) (ed_var 4)) (eps_d (ed_op od_mod (ed_op od_add (ed_var 5) (ED.er (ed_var 10))) (ED.er (ed_int))) (eps_nil)))))
      (sds_cons (sd_set (ns hG (by decide)) sc_law.nd rfl (by first | exact Or.inl rfl | exact Or.inr rfl) (ed_caT1 cd_tuple (ED.er (EL.ed (el_comp [("suit", 21), ("rank", 22)] rfl sc_law.nd rfl (nsA hG (by decide)) (id_tup (ed_var 8)) (blkOk_by (N := N_law) (sc := defScope s_law) (by decide +kernel)) (fun _ q2 _ _ _ _ _ => gd_tup rfl (gds_cons (gd_name (ns (q2.trans hG) (by decide)) (by decide) sc_law.nd rfl (by first | exact Or.inl rfl | exact Or.inr rfl)) (gds_cons (gd_name (ns (q2.trans hG) (by decide)) (by decide) sc_law.nd rfl (by first | exact Or.inl rfl | exact Or.inr rfl)) (gds_nil)))) (fun _ q2 _ _ _ _ _ => ebs_nil) (fun _ q2 _ _ _ _ _ => ed_tup (eds_cons (ed_ix (ed_var 9) (ed_var 21)) (eds_cons (ed_var 22) (eds_nil))))))) rfl b_tuple bb_tuple))
      (sds_cons (sd_if (eb_cmp od_isN (ed_call C_play_fault (hr.mono h_play_fault) rfl C_play_fault_g C_play_fault_k C_play_fault_b (ea_v (ed_var 11) (ea_v (ed_var 12) (ea_v (ed_var 13) (ea_v (ed_var 14) (ea_nil)))))) (ED.er (ed_non)) (nomark _)) (sds_one (sd_ret (ed_bl))) (sds_nil))
      (sds_cons (sd_par2 (nsA hG (by decide)) rfl sc_law.nd rfl rfl (by decide) rfl rfl (eps_d (ed_call C_turn_of (hr.mono h_turn_of) rfl C_turn_of_g C_turn_of_k C_turn_of_b (ea_v (ed_var 6) (ea_v (ed_var 4) (ea_v (ed_var 5) (ea_v (ed_var 8) (ea_nil)))))) (eps_d (ed_call C_may_play (hr.mono h_may_play) rfl C_may_play_g C_may_play_k C_may_play_b (ea_v (ed_var 6) (ea_v (ed_var 4) (ea_v (ed_var 5) (ea_v (ed_var 8) (ea_nil)))))) (eps_nil))))
      (sds_cons (sd_set (ns hG (by decide)) sc_law.nd rfl (by first | exact Or.inl rfl | exact Or.inr rfl) (ed_if (eb_cmp od_is (ed_var 15) (ED.er (ed_non)) (nomark _)) (ed_non) (ed_op od_mod (ed_op od_add (ed_var 15) (ED.er (ed_var 10))) (ED.er (ed_int)))))
      (sds_cons (sd_set (ns hG (by decide)) sc_law.nd rfl (by first | exact Or.inl rfl | exact Or.inr rfl) (ed_caT1 cd_tuple (ED.er (EL.ed (el_ca1 (cd_sorted (u65 hr)) (ED.er (EL.ed (el_comp [("suit", 21), ("rank", 22)] rfl sc_law.nd rfl (nsA hG (by decide)) (id_tup (ed_var 16)) (blkOk_by (N := N_law) (sc := defScope s_law) (by decide +kernel)) (fun _ q1 _ _ _ _ _ => gd_tup rfl (gds_cons (gd_name (ns (q1.trans hG) (by decide)) (by decide) sc_law.nd rfl (by first | exact Or.inl rfl | exact Or.inr rfl)) (gds_cons (gd_name (ns (q1.trans hG) (by decide)) (by decide) sc_law.nd rfl (by first | exact Or.inl rfl | exact Or.inr rfl)) (gds_nil)))) (fun _ q1 _ _ _ _ _ => ebs_nil) (fun _ q1 _ _ _ _ _ => ed_tup (eds_cons (ed_ix (ed_var 9) (ed_var 21)) (eds_cons (ed_var 22) (eds_nil))))))) rfl b_sorted bb_sorted))) rfl b_tuple bb_tuple))
      (sds_cons (sd_if (eb_not (eb_tru (ED.er (ed_call C_law_same (hr.mono h_law_same) rfl C_law_same_g C_law_same_k C_law_same_b (ea_v (ed_tup (eds_cons (ed_call C_turn_of (hr.mono h_turn_of) rfl C_turn_of_g C_turn_of_k C_turn_of_b (ea_v (ed_var 11) (ea_v (ed_var 12) (ea_v (ed_var 13) (ea_v (ed_var 14) (ea_nil)))))) (eds_cons (ed_call C_may_play (hr.mono h_may_play) rfl C_may_play_g C_may_play_k C_may_play_b (ea_v (ed_var 11) (ea_v (ed_var 12) (ea_v (ed_var 13) (ea_v (ed_var 14) (ea_nil)))))) (eds_nil)))) (ea_v (ed_tup (eds_cons (ed_var 17) (eds_cons (ed_var 18) (eds_nil)))) (ea_nil))))))) (sds_one (sd_ret (ed_bl))) (sds_nil))
      (sds_cons (sd_set (ns hG (by decide)) sc_law.nd rfl (by first | exact Or.inl rfl | exact Or.inr rfl) (ed_call C_left_of (hr.mono h_left_of) rfl C_left_of_g C_left_of_k C_left_of_b (ea_v (ed_var 6) (ea_v (ed_var 8) (ea_nil)))))
      (sds_cons (sd_if (eb_not (eb_tru (ED.er (ed_call C_law_same (hr.mono h_law_same) rfl C_law_same_g C_law_same_k C_law_same_b (ea_v (ed_call C_left_of (hr.mono h_left_of) rfl C_left_of_g C_left_of_k C_left_of_b (ea_v (ed_var 11) (ea_v (ed_var 14) (ea_nil)))) (ea_v (ed_call C_law_turned (hr.mono h_law_turned) rfl C_law_turned_g C_law_turned_k C_law_turned_b (ea_v (ed_var 19) (ea_v (ed_var 9) (ea_v (ed_var 10) (ea_nil))))) (ea_nil))))))) (sds_one (sd_ret (ed_bl))) (sds_nil))
      (sds_cons (sd_set (ns hG (by decide)) sc_law.nd rfl (by first | exact Or.inl rfl | exact Or.inr rfl) (ed_call C_tricks_of (hr.mono h_tricks_of) rfl C_tricks_of_g C_tricks_of_k C_tricks_of_b (ea_v (ed_var 4) (ea_v (ed_var 5) (ea_v (ed_var 8) (ea_nil))))))
      (sds_cons (sd_if (eb_not (eb_tru (ED.er (ed_call C_law_same (hr.mono h_law_same) rfl C_law_same_g C_law_same_k C_law_same_b (ea_v (ed_call C_tricks_of (hr.mono h_tricks_of) rfl C_tricks_of_g C_tricks_of_k C_tricks_of_b (ea_v (ed_var 12) (ea_v (ed_var 13) (ea_v (ed_var 14) (ea_nil))))) (ea_v (ed_if (eb_cmp (od_eq hr.units) (ed_op od_mod (ed_var 10) (ED.er (ed_int))) (ED.er (ed_int)) (nomark _)) (ed_var 20) (ed_revT (ed_var 20))) (ea_nil))))))) (sds_one (sd_ret (ed_bl))) (sds_nil))
      (sds_one (sd_if (eb_not (eb_tru (ED.er (ed_call C_law_best_holds (hr.mono h_law_best_holds) rfl C_law_best_holds_g C_law_best_holds_k C_law_best_holds_b (ea_v (ed_var 6) (ea_v (ed_var 4) (ea_v (ed_var 5) (ea_v (ed_var 8) (ea_v (ed_tup (eds_cons (ed_var 9) (eds_cons (ed_var 10) (eds_cons (ed_var 11) (eds_cons (ed_var 12) (eds_cons (ed_var 13) (eds_cons (ed_var 14) (eds_nil)))))))) (ea_nil)))))))))) (sds_one (sd_ret (ed_bl))) (sds_nil))))))))))))))))))))
      (sds_one (sd_ret (ed_bl))))
end
theorem all_mk {l : PySem.W.OpenLaw} {w : World} {K : PySem.W.Frag} {h : Heap} {mg : Str → Option Value} {fa : Addr} {f_left_of : Addr} {od_left_of an_left_of : Option Addr} {sl_left_of : Array (Option Value)} {oc_left_of kV_left_of dc_left_of pm_left_of cd_left_of ct_left_of : Value} {f_follow : Addr} {od_follow an_follow : Option Addr} {sl_follow : Array (Option Value)} {oc_follow kV_follow dc_follow pm_follow cd_follow ct_follow : Value} {f_winner_of : Addr} {od_winner_of an_winner_of : Option Addr} {sl_winner_of : Array (Option Value)} {oc_winner_of kV_winner_of dc_winner_of pm_winner_of cd_winner_of ct_winner_of : Value} {f_without : Addr} {od_without an_without : Option Addr} {sl_without : Array (Option Value)} {oc_without kV_without dc_without pm_without cd_without ct_without : Value} {f_later : Addr} {od_later an_later : Option Addr} {sl_later : Array (Option Value)} {oc_later kV_later dc_later pm_later cd_later ct_later : Value} {f_walked : Addr} {od_walked an_walked : Option Addr} {sl_walked : Array (Option Value)} {oc_walked kV_walked dc_walked pm_walked cd_walked ct_walked : Value} {f_in_all : Addr} {od_in_all an_in_all : Option Addr} {sl_in_all : Array (Option Value)} {oc_in_all kV_in_all dc_in_all pm_in_all cd_in_all ct_in_all : Value} {f_turn_of : Addr} {od_turn_of an_turn_of : Option Addr} {sl_turn_of : Array (Option Value)} {oc_turn_of kV_turn_of dc_turn_of pm_turn_of cd_turn_of ct_turn_of : Value} {f_may_play : Addr} {od_may_play an_may_play : Option Addr} {sl_may_play : Array (Option Value)} {oc_may_play kV_may_play dc_may_play pm_may_play cd_may_play ct_may_play : Value} {f_best_cards : Addr} {od_best_cards an_best_cards : Option Addr} {sl_best_cards : Array (Option Value)} {oc_best_cards kV_best_cards dc_best_cards pm_best_cards cd_best_cards ct_best_cards : Value} {f_law_same : Addr} {od_law_same an_law_same : Option Addr} {sl_law_same : Array (Option Value)} {oc_law_same kV_law_same dc_law_same pm_law_same cd_law_same ct_law_same : Value} {f_best_tricks : Addr} {od_best_tricks an_best_tricks : Option Addr} {sl_best_tricks : Array (Option Value)} {oc_best_tricks kV_best_tricks dc_best_tricks pm_best_tricks cd_best_tricks ct_best_tricks : Value} {f_law_best_holds : Addr} {od_law_best_holds an_law_best_holds : Option Addr} {sl_law_best_holds : Array (Option Value)} {oc_law_best_holds kV_law_best_holds dc_law_best_holds pm_law_best_holds cd_law_best_holds ct_law_best_holds : Value} {f_tricks_of : Addr} {od_tricks_of an_tricks_of : Option Addr} {sl_tricks_of : Array (Option Value)} {oc_tricks_of kV_tricks_of dc_tricks_of pm_tricks_of cd_tricks_of ct_tricks_of : Value} {f_law_turned : Addr} {od_law_turned an_law_turned : Option Addr} {sl_law_turned : Array (Option Value)} {oc_law_turned kV_law_turned dc_law_turned pm_law_turned cd_law_turned ct_law_turned : Value} {f_play_fault : Addr} {od_play_fault an_play_fault : Option Addr} {sl_play_fault : Array (Option Value)} {oc_play_fault kV_play_fault dc_play_fault pm_play_fault cd_play_fault ct_play_fault : Value} {f_law_draw : Addr} {od_law_draw an_law_draw : Option Addr} {sl_law_draw : Array (Option Value)} {oc_law_draw kV_law_draw dc_law_draw pm_law_draw cd_law_draw ct_law_draw : Value} {f_law_mixed : Addr} {od_law_mixed an_law_mixed : Option Addr} {sl_law_mixed : Array (Option Value)} {oc_law_mixed kV_law_mixed dc_law_mixed pm_law_mixed cd_law_mixed ct_law_mixed : Value} {f_law_trick_won : Addr} {od_law_trick_won an_law_trick_won : Option Addr} {sl_law_trick_won : Array (Option Value)} {oc_law_trick_won kV_law_trick_won dc_law_trick_won pm_law_trick_won cd_law_trick_won ct_law_trick_won : Value} {f_law_walk : Addr} {od_law_walk an_law_walk : Option Addr} {sl_law_walk : Array (Option Value)} {oc_law_walk kV_law_walk dc_law_walk pm_law_walk cd_law_walk ct_law_walk : Value} {f_law_may_play : Addr} {od_law_may_play an_law_may_play : Option Addr} {sl_law_may_play : Array (Option Value)} {oc_law_may_play kV_law_may_play dc_law_may_play pm_law_may_play cd_law_may_play ct_law_may_play : Value} {f_law_pick : Addr} {od_law_pick an_law_pick : Option Addr} {sl_law_pick : Array (Option Value)} {oc_law_pick kV_law_pick dc_law_pick pm_law_pick cd_law_pick ct_law_pick : Value} {f_law_drawn_cards : Addr} {od_law_drawn_cards an_law_drawn_cards : Option Addr} {sl_law_drawn_cards : Array (Option Value)} {oc_law_drawn_cards kV_law_drawn_cards dc_law_drawn_cards pm_law_drawn_cards cd_law_drawn_cards ct_law_drawn_cards : Value} {f_law_all_cards : Addr} {od_law_all_cards an_law_all_cards : Option Addr} {sl_law_all_cards : Array (Option Value)} {oc_law_all_cards kV_law_all_cards dc_law_all_cards pm_law_all_cards cd_law_all_cards ct_law_all_cards : Value} {f_law_drawn_deal : Addr} {od_law_drawn_deal an_law_drawn_deal : Option Addr} {sl_law_drawn_deal : Array (Option Value)} {oc_law_drawn_deal kV_law_drawn_deal dc_law_drawn_deal pm_law_drawn_deal cd_law_drawn_deal ct_law_drawn_deal : Value} {f_law : Addr} {od_law an_law : Option Addr} {sl_law : Array (Option Value)} {oc_law kV_law dc_law pm_law cd_law ct_law : Value} (X : K.In h) (G : h.Ns mainGlobals mg) (hfa : mg "law" = some (.ref fa))
    (a_left_of : PySem.W.nsIn K mainGlobals "left_of" = some (some (.ref f_left_of))) (l_left_of : K.lookup f_left_of = some ⟨oc_left_of, od_left_of, .func (PySem.W.fnOf "left_of" "left_of" (defArgs s_left_of) (defBody s_left_of) (defScope s_left_of) .none kV_left_of dc_left_of pm_left_of an_left_of cd_left_of ct_left_of), sl_left_of⟩) (c_left_of : PySem.W.codeIn K cd_left_of "left_of" = true) (k_left_of : PySem.W.keepIn K (.ref f_left_of) = true)
    (a_follow : PySem.W.nsIn K mainGlobals "follow" = some (some (.ref f_follow))) (l_follow : K.lookup f_follow = some ⟨oc_follow, od_follow, .func (PySem.W.fnOf "follow" "follow" (defArgs s_follow) (defBody s_follow) (defScope s_follow) .none kV_follow dc_follow pm_follow an_follow cd_follow ct_follow), sl_follow⟩) (c_follow : PySem.W.codeIn K cd_follow "follow" = true) (k_follow : PySem.W.keepIn K (.ref f_follow) = true)
    (a_winner_of : PySem.W.nsIn K mainGlobals "winner_of" = some (some (.ref f_winner_of))) (l_winner_of : K.lookup f_winner_of = some ⟨oc_winner_of, od_winner_of, .func (PySem.W.fnOf "winner_of" "winner_of" (defArgs s_winner_of) (defBody s_winner_of) (defScope s_winner_of) .none kV_winner_of dc_winner_of pm_winner_of an_winner_of cd_winner_of ct_winner_of), sl_winner_of⟩) (c_winner_of : PySem.W.codeIn K cd_winner_of "winner_of" = true) (k_winner_of : PySem.W.keepIn K (.ref f_winner_of) = true)
    (a_without : PySem.W.nsIn K mainGlobals "without" = some (some (.ref f_without))) (l_without : K.lookup f_without = some ⟨oc_without, od_without, .func (PySem.W.fnOf "without" "without" (defArgs s_without) (defBody s_without) (defScope s_without) .none kV_without dc_without pm_without an_without cd_without ct_without), sl_without⟩) (c_without : PySem.W.codeIn K cd_without "without" = true) (k_without : PySem.W.keepIn K (.ref f_without) = true)
    (a_later : PySem.W.nsIn K mainGlobals "later" = some (some (.ref f_later))) (l_later : K.lookup f_later = some ⟨oc_later, od_later, .func (PySem.W.fnOf "later" "later" (defArgs s_later) (defBody s_later) (defScope s_later) .none kV_later dc_later pm_later an_later cd_later ct_later), sl_later⟩) (c_later : PySem.W.codeIn K cd_later "later" = true) (k_later : PySem.W.keepIn K (.ref f_later) = true)
    (a_walked : PySem.W.nsIn K mainGlobals "walked" = some (some (.ref f_walked))) (l_walked : K.lookup f_walked = some ⟨oc_walked, od_walked, .func (PySem.W.fnOf "walked" "walked" (defArgs s_walked) (defBody s_walked) (defScope s_walked) .none kV_walked dc_walked pm_walked an_walked cd_walked ct_walked), sl_walked⟩) (c_walked : PySem.W.codeIn K cd_walked "walked" = true) (k_walked : PySem.W.keepIn K (.ref f_walked) = true)
    (a_in_all : PySem.W.nsIn K mainGlobals "in_all" = some (some (.ref f_in_all))) (l_in_all : K.lookup f_in_all = some ⟨oc_in_all, od_in_all, .func (PySem.W.fnOf "in_all" "in_all" (defArgs s_in_all) (defBody s_in_all) (defScope s_in_all) .none kV_in_all dc_in_all pm_in_all an_in_all cd_in_all ct_in_all), sl_in_all⟩) (c_in_all : PySem.W.codeIn K cd_in_all "in_all" = true) (k_in_all : PySem.W.keepIn K (.ref f_in_all) = true)
    (a_turn_of : PySem.W.nsIn K mainGlobals "turn_of" = some (some (.ref f_turn_of))) (l_turn_of : K.lookup f_turn_of = some ⟨oc_turn_of, od_turn_of, .func (PySem.W.fnOf "turn_of" "turn_of" (defArgs s_turn_of) (defBody s_turn_of) (defScope s_turn_of) .none kV_turn_of dc_turn_of pm_turn_of an_turn_of cd_turn_of ct_turn_of), sl_turn_of⟩) (c_turn_of : PySem.W.codeIn K cd_turn_of "turn_of" = true) (k_turn_of : PySem.W.keepIn K (.ref f_turn_of) = true)
    (a_may_play : PySem.W.nsIn K mainGlobals "may_play" = some (some (.ref f_may_play))) (l_may_play : K.lookup f_may_play = some ⟨oc_may_play, od_may_play, .func (PySem.W.fnOf "may_play" "may_play" (defArgs s_may_play) (defBody s_may_play) (defScope s_may_play) .none kV_may_play dc_may_play pm_may_play an_may_play cd_may_play ct_may_play), sl_may_play⟩) (c_may_play : PySem.W.codeIn K cd_may_play "may_play" = true) (k_may_play : PySem.W.keepIn K (.ref f_may_play) = true)
    (a_best_cards : PySem.W.nsIn K mainGlobals "best_cards" = some (some (.ref f_best_cards))) (l_best_cards : K.lookup f_best_cards = some ⟨oc_best_cards, od_best_cards, .func (PySem.W.fnOf "best_cards" "best_cards" (defArgs s_best_cards) (defBody s_best_cards) (defScope s_best_cards) .none kV_best_cards dc_best_cards pm_best_cards an_best_cards cd_best_cards ct_best_cards), sl_best_cards⟩) (c_best_cards : PySem.W.codeIn K cd_best_cards "best_cards" = true) (k_best_cards : PySem.W.keepIn K (.ref f_best_cards) = true)
    (a_law_same : PySem.W.nsIn K mainGlobals "_law_same" = some (some (.ref f_law_same))) (l_law_same : K.lookup f_law_same = some ⟨oc_law_same, od_law_same, .func (PySem.W.fnOf "_law_same" "_law_same" (defArgs s_law_same) (defBody s_law_same) (defScope s_law_same) .none kV_law_same dc_law_same pm_law_same an_law_same cd_law_same ct_law_same), sl_law_same⟩) (c_law_same : PySem.W.codeIn K cd_law_same "_law_same" = true) (k_law_same : PySem.W.keepIn K (.ref f_law_same) = true)
    (a_best_tricks : PySem.W.nsIn K mainGlobals "best_tricks" = some (some (.ref f_best_tricks))) (l_best_tricks : K.lookup f_best_tricks = some ⟨oc_best_tricks, od_best_tricks, .func (PySem.W.fnOf "best_tricks" "best_tricks" (defArgs s_best_tricks) (defBody s_best_tricks) (defScope s_best_tricks) .none kV_best_tricks dc_best_tricks pm_best_tricks an_best_tricks cd_best_tricks ct_best_tricks), sl_best_tricks⟩) (c_best_tricks : PySem.W.codeIn K cd_best_tricks "best_tricks" = true) (k_best_tricks : PySem.W.keepIn K (.ref f_best_tricks) = true)
    (a_law_best_holds : PySem.W.nsIn K mainGlobals "_law_best_holds" = some (some (.ref f_law_best_holds))) (l_law_best_holds : K.lookup f_law_best_holds = some ⟨oc_law_best_holds, od_law_best_holds, .func (PySem.W.fnOf "_law_best_holds" "_law_best_holds" (defArgs s_law_best_holds) (defBody s_law_best_holds) (defScope s_law_best_holds) .none kV_law_best_holds dc_law_best_holds pm_law_best_holds an_law_best_holds cd_law_best_holds ct_law_best_holds), sl_law_best_holds⟩) (c_law_best_holds : PySem.W.codeIn K cd_law_best_holds "_law_best_holds" = true) (k_law_best_holds : PySem.W.keepIn K (.ref f_law_best_holds) = true)
    (a_tricks_of : PySem.W.nsIn K mainGlobals "tricks_of" = some (some (.ref f_tricks_of))) (l_tricks_of : K.lookup f_tricks_of = some ⟨oc_tricks_of, od_tricks_of, .func (PySem.W.fnOf "tricks_of" "tricks_of" (defArgs s_tricks_of) (defBody s_tricks_of) (defScope s_tricks_of) .none kV_tricks_of dc_tricks_of pm_tricks_of an_tricks_of cd_tricks_of ct_tricks_of), sl_tricks_of⟩) (c_tricks_of : PySem.W.codeIn K cd_tricks_of "tricks_of" = true) (k_tricks_of : PySem.W.keepIn K (.ref f_tricks_of) = true)
    (a_law_turned : PySem.W.nsIn K mainGlobals "_law_turned" = some (some (.ref f_law_turned))) (l_law_turned : K.lookup f_law_turned = some ⟨oc_law_turned, od_law_turned, .func (PySem.W.fnOf "_law_turned" "_law_turned" (defArgs s_law_turned) (defBody s_law_turned) (defScope s_law_turned) .none kV_law_turned dc_law_turned pm_law_turned an_law_turned cd_law_turned ct_law_turned), sl_law_turned⟩) (c_law_turned : PySem.W.codeIn K cd_law_turned "_law_turned" = true) (k_law_turned : PySem.W.keepIn K (.ref f_law_turned) = true)
    (a_play_fault : PySem.W.nsIn K mainGlobals "play_fault" = some (some (.ref f_play_fault))) (l_play_fault : K.lookup f_play_fault = some ⟨oc_play_fault, od_play_fault, .func (PySem.W.fnOf "play_fault" "play_fault" (defArgs s_play_fault) (defBody s_play_fault) (defScope s_play_fault) .none kV_play_fault dc_play_fault pm_play_fault an_play_fault cd_play_fault ct_play_fault), sl_play_fault⟩) (c_play_fault : PySem.W.codeIn K cd_play_fault "play_fault" = true) (k_play_fault : PySem.W.keepIn K (.ref f_play_fault) = true)
    (a_law_draw : PySem.W.nsIn K mainGlobals "_law_draw" = some (some (.ref f_law_draw))) (l_law_draw : K.lookup f_law_draw = some ⟨oc_law_draw, od_law_draw, .func (PySem.W.fnOf "_law_draw" "_law_draw" (defArgs s_law_draw) (defBody s_law_draw) (defScope s_law_draw) .none kV_law_draw dc_law_draw pm_law_draw an_law_draw cd_law_draw ct_law_draw), sl_law_draw⟩) (c_law_draw : PySem.W.codeIn K cd_law_draw "_law_draw" = true) (k_law_draw : PySem.W.keepIn K (.ref f_law_draw) = true)
    (a_law_mixed : PySem.W.nsIn K mainGlobals "_law_mixed" = some (some (.ref f_law_mixed))) (l_law_mixed : K.lookup f_law_mixed = some ⟨oc_law_mixed, od_law_mixed, .func (PySem.W.fnOf "_law_mixed" "_law_mixed" (defArgs s_law_mixed) (defBody s_law_mixed) (defScope s_law_mixed) .none kV_law_mixed dc_law_mixed pm_law_mixed an_law_mixed cd_law_mixed ct_law_mixed), sl_law_mixed⟩) (c_law_mixed : PySem.W.codeIn K cd_law_mixed "_law_mixed" = true) (k_law_mixed : PySem.W.keepIn K (.ref f_law_mixed) = true)
    (a_law_trick_won : PySem.W.nsIn K mainGlobals "_law_trick_won" = some (some (.ref f_law_trick_won))) (l_law_trick_won : K.lookup f_law_trick_won = some ⟨oc_law_trick_won, od_law_trick_won, .func (PySem.W.fnOf "_law_trick_won" "_law_trick_won" (defArgs s_law_trick_won) (defBody s_law_trick_won) (defScope s_law_trick_won) .none kV_law_trick_won dc_law_trick_won pm_law_trick_won an_law_trick_won cd_law_trick_won ct_law_trick_won), sl_law_trick_won⟩) (c_law_trick_won : PySem.W.codeIn K cd_law_trick_won "_law_trick_won" = true) (k_law_trick_won : PySem.W.keepIn K (.ref f_law_trick_won) = true)
    (a_law_walk : PySem.W.nsIn K mainGlobals "_law_walk" = some (some (.ref f_law_walk))) (l_law_walk : K.lookup f_law_walk = some ⟨oc_law_walk, od_law_walk, .func (PySem.W.fnOf "_law_walk" "_law_walk" (defArgs s_law_walk) (defBody s_law_walk) (defScope s_law_walk) .none kV_law_walk dc_law_walk pm_law_walk an_law_walk cd_law_walk ct_law_walk), sl_law_walk⟩) (c_law_walk : PySem.W.codeIn K cd_law_walk "_law_walk" = true) (k_law_walk : PySem.W.keepIn K (.ref f_law_walk) = true)
    (a_law_may_play : PySem.W.nsIn K mainGlobals "_law_may_play" = some (some (.ref f_law_may_play))) (l_law_may_play : K.lookup f_law_may_play = some ⟨oc_law_may_play, od_law_may_play, .func (PySem.W.fnOf "_law_may_play" "_law_may_play" (defArgs s_law_may_play) (defBody s_law_may_play) (defScope s_law_may_play) .none kV_law_may_play dc_law_may_play pm_law_may_play an_law_may_play cd_law_may_play ct_law_may_play), sl_law_may_play⟩) (c_law_may_play : PySem.W.codeIn K cd_law_may_play "_law_may_play" = true) (k_law_may_play : PySem.W.keepIn K (.ref f_law_may_play) = true)
    (a_law_pick : PySem.W.nsIn K mainGlobals "_law_pick" = some (some (.ref f_law_pick))) (l_law_pick : K.lookup f_law_pick = some ⟨oc_law_pick, od_law_pick, .func (PySem.W.fnOf "_law_pick" "_law_pick" (defArgs s_law_pick) (defBody s_law_pick) (defScope s_law_pick) .none kV_law_pick dc_law_pick pm_law_pick an_law_pick cd_law_pick ct_law_pick), sl_law_pick⟩) (c_law_pick : PySem.W.codeIn K cd_law_pick "_law_pick" = true) (k_law_pick : PySem.W.keepIn K (.ref f_law_pick) = true)
    (a_law_drawn_cards : PySem.W.nsIn K mainGlobals "_law_drawn_cards" = some (some (.ref f_law_drawn_cards))) (l_law_drawn_cards : K.lookup f_law_drawn_cards = some ⟨oc_law_drawn_cards, od_law_drawn_cards, .func (PySem.W.fnOf "_law_drawn_cards" "_law_drawn_cards" (defArgs s_law_drawn_cards) (defBody s_law_drawn_cards) (defScope s_law_drawn_cards) .none kV_law_drawn_cards dc_law_drawn_cards pm_law_drawn_cards an_law_drawn_cards cd_law_drawn_cards ct_law_drawn_cards), sl_law_drawn_cards⟩) (c_law_drawn_cards : PySem.W.codeIn K cd_law_drawn_cards "_law_drawn_cards" = true) (k_law_drawn_cards : PySem.W.keepIn K (.ref f_law_drawn_cards) = true)
    (a_law_all_cards : PySem.W.nsIn K mainGlobals "_law_all_cards" = some (some (.ref f_law_all_cards))) (l_law_all_cards : K.lookup f_law_all_cards = some ⟨oc_law_all_cards, od_law_all_cards, .func (PySem.W.fnOf "_law_all_cards" "_law_all_cards" (defArgs s_law_all_cards) (defBody s_law_all_cards) (defScope s_law_all_cards) .none kV_law_all_cards dc_law_all_cards pm_law_all_cards an_law_all_cards cd_law_all_cards ct_law_all_cards), sl_law_all_cards⟩) (c_law_all_cards : PySem.W.codeIn K cd_law_all_cards "_law_all_cards" = true) (k_law_all_cards : PySem.W.keepIn K (.ref f_law_all_cards) = true)
    (a_law_drawn_deal : PySem.W.nsIn K mainGlobals "_law_drawn_deal" = some (some (.ref f_law_drawn_deal))) (l_law_drawn_deal : K.lookup f_law_drawn_deal = some ⟨oc_law_drawn_deal, od_law_drawn_deal, .func (PySem.W.fnOf "_law_drawn_deal" "_law_drawn_deal" (defArgs s_law_drawn_deal) (defBody s_law_drawn_deal) (defScope s_law_drawn_deal) .none kV_law_drawn_deal dc_law_drawn_deal pm_law_drawn_deal an_law_drawn_deal cd_law_drawn_deal ct_law_drawn_deal), sl_law_drawn_deal⟩) (c_law_drawn_deal : PySem.W.codeIn K cd_law_drawn_deal "_law_drawn_deal" = true) (k_law_drawn_deal : PySem.W.keepIn K (.ref f_law_drawn_deal) = true)
    (a_law : PySem.W.nsIn K mainGlobals "law" = some (some (.ref f_law))) (l_law : K.lookup f_law = some ⟨oc_law, od_law, .func (PySem.W.fnOf "law" "law" (defArgs s_law) (defBody s_law) (defScope s_law) .none kV_law dc_law pm_law an_law cd_law ct_law), sl_law⟩) (c_law : PySem.W.codeIn K cd_law "law" = true) (k_law : PySem.W.keepIn K (.ref f_law) = true)
    (z_tuple : PySem.W.nsIn K mainGlobals "tuple" = some none)
    (z_range : PySem.W.nsIn K mainGlobals "range" = some none)
    (z_max : PySem.W.nsIn K mainGlobals "max" = some none)
    (z_min : PySem.W.nsIn K mainGlobals "min" = some none)
    (z_len : PySem.W.nsIn K mainGlobals "len" = some none)
    (z_int : PySem.W.nsIn K mainGlobals "int" = some none)
    (z_isinstance : PySem.W.nsIn K mainGlobals "isinstance" = some none)
    (z_bool : PySem.W.nsIn K mainGlobals "bool" = some none)
    (z_str : PySem.W.nsIn K mainGlobals "str" = some none)
    (z_zip : PySem.W.nsIn K mainGlobals "zip" = some none)
    (z_all : PySem.W.nsIn K mainGlobals "all" = some none)
    (z_sorted : PySem.W.nsIn K mainGlobals "sorted" = some none)
    (z_enumerate : PySem.W.nsIn K mainGlobals "enumerate" = some none)
    (z_abs : PySem.W.nsIn K mainGlobals "abs" = some none)
    (z_list : PySem.W.nsIn K mainGlobals "list" = some none) :
    ∃ fd : FuncData, (∀ (s : Shared) (v : Value), BindsTo s fd ⟨[v], []⟩ [("script", v)]) ∧ ∀ base : Heap, K.In base → base.Ns mainGlobals mg → FnOk l.prog w K mg base CX0 18 fa fd ["script"] (spL K spLaw) := by
  cases hfa.symm.trans (PySem.W.mg_of X G a_law)
  have F_left_of := fun_mk (st := s_left_of) l_left_of c_left_of k_left_of
  have B_left_of := F_left_of.binds (ps := ["deal", "cards"]) fun _ _ _ _ _ _ us hl => match us, hl with | [_, _], _ => rfl
  have g_left_of := PySem.W.mg_of X G a_left_of
  have F_follow := fun_mk (st := s_follow) l_follow c_follow k_follow
  have B_follow := F_follow.binds (ps := ["hand", "trick"]) fun _ _ _ _ _ _ us hl => match us, hl with | [_, _], _ => rfl
  have g_follow := PySem.W.mg_of X G a_follow
  have F_winner_of := fun_mk (st := s_winner_of) l_winner_of c_winner_of k_winner_of
  have B_winner_of := F_winner_of.binds (ps := ["strain", "leader", "trick"]) fun _ _ _ _ _ _ us hl => match us, hl with | [_, _, _], _ => rfl
  have g_winner_of := PySem.W.mg_of X G a_winner_of
  have F_without := fun_mk (st := s_without) l_without c_without k_without
  have B_without := F_without.binds (ps := ["hands", "player", "card"]) fun _ _ _ _ _ _ us hl => match us, hl with | [_, _, _], _ => rfl
  have g_without := PySem.W.mg_of X G a_without
  have F_later := fun_mk (st := s_later) l_later c_later k_later
  have B_later := F_later.binds (ps := ["strain", "hands", "first", "trick", "known"]) fun _ _ _ _ _ _ us hl => match us, hl with | [_, _, _, _, _], _ => rfl
  have g_later := PySem.W.mg_of X G a_later
  have F_walked := fun_mk (st := s_walked) l_walked c_walked k_walked
  have B_walked := F_walked.binds (ps := ["strain", "leader", "cards"]) fun _ _ _ _ _ _ us hl => match us, hl with | [_, _, _], _ => rfl
  have g_walked := PySem.W.mg_of X G a_walked
  have F_in_all := fun_mk (st := s_in_all) l_in_all c_in_all k_in_all
  have B_in_all := F_in_all.binds (ps := ["deal", "strain", "leader", "cards", "known"]) fun _ _ _ _ _ _ us hl => match us, hl with | [_, _, _, _, _], _ => rfl
  have g_in_all := PySem.W.mg_of X G a_in_all
  have F_turn_of := fun_mk (st := s_turn_of) l_turn_of c_turn_of k_turn_of
  have B_turn_of := F_turn_of.binds (ps := ["deal", "strain", "leader", "cards"]) fun _ _ _ _ _ _ us hl => match us, hl with | [_, _, _, _], _ => rfl
  have g_turn_of := PySem.W.mg_of X G a_turn_of
  have F_may_play := fun_mk (st := s_may_play) l_may_play c_may_play k_may_play
  have B_may_play := F_may_play.binds (ps := ["deal", "strain", "leader", "cards"]) fun _ _ _ _ _ _ us hl => match us, hl with | [_, _, _, _], _ => rfl
  have g_may_play := PySem.W.mg_of X G a_may_play
  have F_best_cards := fun_mk (st := s_best_cards) l_best_cards c_best_cards k_best_cards
  have B_best_cards := F_best_cards.binds (ps := ["deal", "strain", "leader", "cards"]) fun _ _ _ _ _ _ us hl => match us, hl with | [_, _, _, _], _ => rfl
  have g_best_cards := PySem.W.mg_of X G a_best_cards
  have F_law_same := fun_mk (st := s_law_same) l_law_same c_law_same k_law_same
  have B_law_same := F_law_same.binds (ps := ["got", "due"]) fun _ _ _ _ _ _ us hl => match us, hl with | [_, _], _ => rfl
  have g_law_same := PySem.W.mg_of X G a_law_same
  have F_best_tricks := fun_mk (st := s_best_tricks) l_best_tricks c_best_tricks k_best_tricks
  have B_best_tricks := F_best_tricks.binds (ps := ["deal", "strain", "leader", "cards"]) fun _ _ _ _ _ _ us hl => match us, hl with | [_, _, _, _], _ => rfl
  have g_best_tricks := PySem.W.mg_of X G a_best_tricks
  have F_law_best_holds := fun_mk (st := s_law_best_holds) l_law_best_holds c_law_best_holds k_law_best_holds
  have B_law_best_holds := F_law_best_holds.binds (ps := ["deal", "strain", "leader", "cards", "other"]) fun _ _ _ _ _ _ us hl => match us, hl with | [_, _, _, _, _], _ => rfl
  have g_law_best_holds := PySem.W.mg_of X G a_law_best_holds
  have F_tricks_of := fun_mk (st := s_tricks_of) l_tricks_of c_tricks_of k_tricks_of
  have B_tricks_of := F_tricks_of.binds (ps := ["strain", "leader", "cards"]) fun _ _ _ _ _ _ us hl => match us, hl with | [_, _, _], _ => rfl
  have g_tricks_of := PySem.W.mg_of X G a_tricks_of
  have F_law_turned := fun_mk (st := s_law_turned) l_law_turned c_law_turned k_law_turned
  have B_law_turned := F_law_turned.binds (ps := ["deal", "order", "turn"]) fun _ _ _ _ _ _ us hl => match us, hl with | [_, _, _], _ => rfl
  have g_law_turned := PySem.W.mg_of X G a_law_turned
  have F_play_fault := fun_mk (st := s_play_fault) l_play_fault c_play_fault k_play_fault
  have B_play_fault := F_play_fault.binds (ps := ["deal", "strain", "leader", "cards"]) fun _ _ _ _ _ _ us hl => match us, hl with | [_, _, _, _], _ => rfl
  have g_play_fault := PySem.W.mg_of X G a_play_fault
  have F_law_draw := fun_mk (st := s_law_draw) l_law_draw c_law_draw k_law_draw
  have B_law_draw := F_law_draw.binds (ps := ["script", "town", "many"]) fun _ _ _ _ _ _ us hl => match us, hl with | [_, _, _], _ => rfl
  have g_law_draw := PySem.W.mg_of X G a_law_draw
  have F_law_mixed := fun_mk (st := s_law_mixed) l_law_mixed c_law_mixed k_law_mixed
  have B_law_mixed := F_law_mixed.binds (ps := ["script", "town", "things"]) fun _ _ _ _ _ _ us hl => match us, hl with | [_, _, _], _ => rfl
  have g_law_mixed := PySem.W.mg_of X G a_law_mixed
  have F_law_trick_won := fun_mk (st := s_law_trick_won) l_law_trick_won c_law_trick_won k_law_trick_won
  have B_law_trick_won := F_law_trick_won.binds (ps := ["strain", "leader", "trick"]) fun _ _ _ _ _ _ us hl => match us, hl with | [_, _, _], _ => rfl
  have g_law_trick_won := PySem.W.mg_of X G a_law_trick_won
  have F_law_walk := fun_mk (st := s_law_walk) l_law_walk c_law_walk k_law_walk
  have B_law_walk := F_law_walk.binds (ps := ["strain", "leader", "cards"]) fun _ _ _ _ _ _ us hl => match us, hl with | [_, _, _], _ => rfl
  have g_law_walk := PySem.W.mg_of X G a_law_walk
  have F_law_may_play := fun_mk (st := s_law_may_play) l_law_may_play c_law_may_play k_law_may_play
  have B_law_may_play := F_law_may_play.binds (ps := ["deal", "strain", "leader", "cards"]) fun _ _ _ _ _ _ us hl => match us, hl with | [_, _, _, _], _ => rfl
  have g_law_may_play := PySem.W.mg_of X G a_law_may_play
  have F_law_pick := fun_mk (st := s_law_pick) l_law_pick c_law_pick k_law_pick
  have B_law_pick := F_law_pick.binds (ps := ["script", "town", "some"]) fun _ _ _ _ _ _ us hl => match us, hl with | [_, _, _], _ => rfl
  have g_law_pick := PySem.W.mg_of X G a_law_pick
  have F_law_drawn_cards := fun_mk (st := s_law_drawn_cards) l_law_drawn_cards c_law_drawn_cards k_law_drawn_cards
  have B_law_drawn_cards := F_law_drawn_cards.binds (ps := ["script", "town", "deal", "strain", "leader", "most"]) fun _ _ _ _ _ _ us hl => match us, hl with | [_, _, _, _, _, _], _ => rfl
  have g_law_drawn_cards := PySem.W.mg_of X G a_law_drawn_cards
  have F_law_all_cards := fun_mk (st := s_law_all_cards) l_law_all_cards c_law_all_cards k_law_all_cards
  have B_law_all_cards := F_law_all_cards.binds (ps := ["ranks"]) fun _ _ _ _ _ _ us hl => match us, hl with | [_], _ => rfl
  have g_law_all_cards := PySem.W.mg_of X G a_law_all_cards
  have F_law_drawn_deal := fun_mk (st := s_law_drawn_deal) l_law_drawn_deal c_law_drawn_deal k_law_drawn_deal
  have B_law_drawn_deal := F_law_drawn_deal.binds (ps := ["script", "town", "ranks"]) fun _ _ _ _ _ _ us hl => match us, hl with | [_, _, _], _ => rfl
  have g_law_drawn_deal := PySem.W.mg_of X G a_law_drawn_deal
  have F_law := fun_mk (st := s_law) l_law c_law k_law
  have b_tuple := PySem.W.mg_none_of X G z_tuple
  have b_range := PySem.W.mg_none_of X G z_range
  have b_max := PySem.W.mg_none_of X G z_max
  have b_min := PySem.W.mg_none_of X G z_min
  have b_len := PySem.W.mg_none_of X G z_len
  have b_int := PySem.W.mg_none_of X G z_int
  have b_isinstance := PySem.W.mg_none_of X G z_isinstance
  have b_bool := PySem.W.mg_none_of X G z_bool
  have b_str := PySem.W.mg_none_of X G z_str
  have b_zip := PySem.W.mg_none_of X G z_zip
  have b_all := PySem.W.mg_none_of X G z_all
  have b_sorted := PySem.W.mg_none_of X G z_sorted
  have b_enumerate := PySem.W.mg_none_of X G z_enumerate
  have b_abs := PySem.W.mg_none_of X G z_abs
  have b_list := PySem.W.mg_none_of X G z_list
  refine ⟨PySem.W.fnOf "law" "law" (defArgs s_law) (defBody s_law) (defScope s_law) .none kV_law dc_law pm_law an_law cd_law ct_law, fun s v => .of_eq rfl, fun base _ _ => ?_⟩
  have ok_left_of : FnOk l.prog w K mg base CX0 1 f_left_of _ ["deal", "cards"] (spL K spLeft) := fn_okD F_left_of sc_left_of sh_left_of (fun cdv A outer s H E hr G hG => dv_left_of b_tuple cdv A outer s H E hr G hG) rd_left_of
  have ok_follow : FnOk l.prog w K mg base CX0 1 f_follow _ ["hand", "trick"] (spL K spFollow) := fn_okD F_follow sc_follow sh_follow (fun cdv A outer s H E hr G hG => dv_follow b_tuple cdv A outer s H E hr G hG) rd_follow
  have ok_winner_of : FnOk l.prog w K mg base CX0 1 f_winner_of _ ["strain", "leader", "trick"] (spL K spWin) := fn_okD F_winner_of sc_winner_of sh_winner_of (fun cdv A outer s H E hr G hG => dv_winner_of b_range cdv A outer s H E hr G hG) rd_winner_of
  have ok_without : FnOk l.prog w K mg base CX0 1 f_without _ ["hands", "player", "card"] (spL K spWithout) := fn_okD F_without sc_without sh_without (fun cdv A outer s H E hr G hG => dv_without b_tuple cdv A outer s H E hr G hG) rd_without
  have ok_later_z : FnOk l.prog w K mg base CX0 1 f_later _ ["strain", "hands", "first", "trick", "known"] (spL K spNo) := no_ok F_later sc_later
  have ok_later_0 : FnOk l.prog w K mg base CX0 2 f_later _ ["strain", "hands", "first", "trick", "known"] (spL K (spLater 0)) := fn_okD F_later sc_later (sh_later 0) (fun cdv A outer s H E hr G hG => dv_later b_max b_min b_len b_int ok_follow (by decide) g_follow F_follow.kp B_follow ok_later_z (by decide) g_later F_later.kp B_later ok_winner_of (by decide) g_winner_of F_winner_of.kp B_winner_of ok_without (by decide) g_without F_without.kp B_without cdv A outer s H E hr G hG) (rd_later 0 spNo (fun m e => nomatch e))
  have ok_later_1 : FnOk l.prog w K mg base CX0 3 f_later _ ["strain", "hands", "first", "trick", "known"] (spL K (spLater 1)) := fn_okD F_later sc_later (sh_later 1) (fun cdv A outer s H E hr G hG => dv_later b_max b_min b_len b_int ok_follow (by decide) g_follow F_follow.kp B_follow ok_later_0 (by decide) g_later F_later.kp B_later ok_winner_of (by decide) g_winner_of F_winner_of.kp B_winner_of ok_without (by decide) g_without F_without.kp B_without cdv A outer s H E hr G hG) (rd_later 1 (spLater 0) (fun m e => by cases e; rfl))
  have ok_later_2 : FnOk l.prog w K mg base CX0 4 f_later _ ["strain", "hands", "first", "trick", "known"] (spL K (spLater 2)) := fn_okD F_later sc_later (sh_later 2) (fun cdv A outer s H E hr G hG => dv_later b_max b_min b_len b_int ok_follow (by decide) g_follow F_follow.kp B_follow ok_later_1 (by decide) g_later F_later.kp B_later ok_winner_of (by decide) g_winner_of F_winner_of.kp B_winner_of ok_without (by decide) g_without F_without.kp B_without cdv A outer s H E hr G hG) (rd_later 2 (spLater 1) (fun m e => by cases e; rfl))
  have ok_later_3 : FnOk l.prog w K mg base CX0 5 f_later _ ["strain", "hands", "first", "trick", "known"] (spL K (spLater 3)) := fn_okD F_later sc_later (sh_later 3) (fun cdv A outer s H E hr G hG => dv_later b_max b_min b_len b_int ok_follow (by decide) g_follow F_follow.kp B_follow ok_later_2 (by decide) g_later F_later.kp B_later ok_winner_of (by decide) g_winner_of F_winner_of.kp B_winner_of ok_without (by decide) g_without F_without.kp B_without cdv A outer s H E hr G hG) (rd_later 3 (spLater 2) (fun m e => by cases e; rfl))
  have ok_later_4 : FnOk l.prog w K mg base CX0 6 f_later _ ["strain", "hands", "first", "trick", "known"] (spL K (spLater 4)) := fn_okD F_later sc_later (sh_later 4) (fun cdv A outer s H E hr G hG => dv_later b_max b_min b_len b_int ok_follow (by decide) g_follow F_follow.kp B_follow ok_later_3 (by decide) g_later F_later.kp B_later ok_winner_of (by decide) g_winner_of F_winner_of.kp B_winner_of ok_without (by decide) g_without F_without.kp B_without cdv A outer s H E hr G hG) (rd_later 4 (spLater 3) (fun m e => by cases e; rfl))
  have ok_later_5 : FnOk l.prog w K mg base CX0 7 f_later _ ["strain", "hands", "first", "trick", "known"] (spL K (spLater 5)) := fn_okD F_later sc_later (sh_later 5) (fun cdv A outer s H E hr G hG => dv_later b_max b_min b_len b_int ok_follow (by decide) g_follow F_follow.kp B_follow ok_later_4 (by decide) g_later F_later.kp B_later ok_winner_of (by decide) g_winner_of F_winner_of.kp B_winner_of ok_without (by decide) g_without F_without.kp B_without cdv A outer s H E hr G hG) (rd_later 5 (spLater 4) (fun m e => by cases e; rfl))
  have ok_later_6 : FnOk l.prog w K mg base CX0 8 f_later _ ["strain", "hands", "first", "trick", "known"] (spL K (spLater 6)) := fn_okD F_later sc_later (sh_later 6) (fun cdv A outer s H E hr G hG => dv_later b_max b_min b_len b_int ok_follow (by decide) g_follow F_follow.kp B_follow ok_later_5 (by decide) g_later F_later.kp B_later ok_winner_of (by decide) g_winner_of F_winner_of.kp B_winner_of ok_without (by decide) g_without F_without.kp B_without cdv A outer s H E hr G hG) (rd_later 6 (spLater 5) (fun m e => by cases e; rfl))
  have ok_later_7 : FnOk l.prog w K mg base CX0 9 f_later _ ["strain", "hands", "first", "trick", "known"] (spL K (spLater 7)) := fn_okD F_later sc_later (sh_later 7) (fun cdv A outer s H E hr G hG => dv_later b_max b_min b_len b_int ok_follow (by decide) g_follow F_follow.kp B_follow ok_later_6 (by decide) g_later F_later.kp B_later ok_winner_of (by decide) g_winner_of F_winner_of.kp B_winner_of ok_without (by decide) g_without F_without.kp B_without cdv A outer s H E hr G hG) (rd_later 7 (spLater 6) (fun m e => by cases e; rfl))
  have ok_later_8 : FnOk l.prog w K mg base CX0 10 f_later _ ["strain", "hands", "first", "trick", "known"] (spL K (spLater 8)) := fn_okD F_later sc_later (sh_later 8) (fun cdv A outer s H E hr G hG => dv_later b_max b_min b_len b_int ok_follow (by decide) g_follow F_follow.kp B_follow ok_later_7 (by decide) g_later F_later.kp B_later ok_winner_of (by decide) g_winner_of F_winner_of.kp B_winner_of ok_without (by decide) g_without F_without.kp B_without cdv A outer s H E hr G hG) (rd_later 8 (spLater 7) (fun m e => by cases e; rfl))
  have ok_later_9 : FnOk l.prog w K mg base CX0 11 f_later _ ["strain", "hands", "first", "trick", "known"] (spL K (spLater 9)) := fn_okD F_later sc_later (sh_later 9) (fun cdv A outer s H E hr G hG => dv_later b_max b_min b_len b_int ok_follow (by decide) g_follow F_follow.kp B_follow ok_later_8 (by decide) g_later F_later.kp B_later ok_winner_of (by decide) g_winner_of F_winner_of.kp B_winner_of ok_without (by decide) g_without F_without.kp B_without cdv A outer s H E hr G hG) (rd_later 9 (spLater 8) (fun m e => by cases e; rfl))
  have ok_later_10 : FnOk l.prog w K mg base CX0 12 f_later _ ["strain", "hands", "first", "trick", "known"] (spL K (spLater 10)) := fn_okD F_later sc_later (sh_later 10) (fun cdv A outer s H E hr G hG => dv_later b_max b_min b_len b_int ok_follow (by decide) g_follow F_follow.kp B_follow ok_later_9 (by decide) g_later F_later.kp B_later ok_winner_of (by decide) g_winner_of F_winner_of.kp B_winner_of ok_without (by decide) g_without F_without.kp B_without cdv A outer s H E hr G hG) (rd_later 10 (spLater 9) (fun m e => by cases e; rfl))
  have ok_later_11 : FnOk l.prog w K mg base CX0 13 f_later _ ["strain", "hands", "first", "trick", "known"] (spL K (spLater 11)) := fn_okD F_later sc_later (sh_later 11) (fun cdv A outer s H E hr G hG => dv_later b_max b_min b_len b_int ok_follow (by decide) g_follow F_follow.kp B_follow ok_later_10 (by decide) g_later F_later.kp B_later ok_winner_of (by decide) g_winner_of F_winner_of.kp B_winner_of ok_without (by decide) g_without F_without.kp B_without cdv A outer s H E hr G hG) (rd_later 11 (spLater 10) (fun m e => by cases e; rfl))
  have ok_later : FnOk l.prog w K mg base CX0 14 f_later _ ["strain", "hands", "first", "trick", "known"] (spL K (spLater 12)) := fn_okD F_later sc_later (sh_later 12) (fun cdv A outer s H E hr G hG => dv_later b_max b_min b_len b_int ok_follow (by decide) g_follow F_follow.kp B_follow ok_later_11 (by decide) g_later F_later.kp B_later ok_winner_of (by decide) g_winner_of F_winner_of.kp B_winner_of ok_without (by decide) g_without F_without.kp B_without cdv A outer s H E hr G hG) (rd_later 12 (spLater 11) (fun m e => by cases e; rfl))
  have ok_walked : FnOk l.prog w K mg base CX0 2 f_walked _ ["strain", "leader", "cards"] (spL K spWalked) := fn_okD F_walked sc_walked sh_walked (fun cdv A outer s H E hr G hG => dv_walked b_tuple b_len b_range ok_winner_of (by decide) g_winner_of F_winner_of.kp B_winner_of cdv A outer s H E hr G hG) rd_walked
  have ok_in_all : FnOk l.prog w K mg base CX0 15 f_in_all _ ["deal", "strain", "leader", "cards", "known"] (spL K spInAll) := fn_okD F_in_all sc_in_all sh_in_all (fun cdv A outer s H E hr G hG => dv_in_all ok_left_of (by decide) g_left_of F_left_of.kp B_left_of ok_later (by decide) g_later F_later.kp B_later ok_walked (by decide) g_walked F_walked.kp B_walked cdv A outer s H E hr G hG) rd_in_all
  have ok_turn_of : FnOk l.prog w K mg base CX0 3 f_turn_of _ ["deal", "strain", "leader", "cards"] (spL K spTurn) := fn_okD F_turn_of sc_turn_of sh_turn_of (fun cdv A outer s H E hr G hG => dv_turn_of b_len ok_walked (by decide) g_walked F_walked.kp B_walked cdv A outer s H E hr G hG) rd_turn_of
  have ok_may_play : FnOk l.prog w K mg base CX0 4 f_may_play _ ["deal", "strain", "leader", "cards"] (spL K spMayP) := fn_okD F_may_play sc_may_play sh_may_play (fun cdv A outer s H E hr G hG => dv_may_play b_tuple ok_walked (by decide) g_walked F_walked.kp B_walked ok_left_of (by decide) g_left_of F_left_of.kp B_left_of ok_turn_of (by decide) g_turn_of F_turn_of.kp B_turn_of cdv A outer s H E hr G hG) rd_may_play
  have ok_best_cards : FnOk l.prog w K mg base CX0 16 f_best_cards _ ["deal", "strain", "leader", "cards"] (spL K spBestC) := fn_okD F_best_cards sc_best_cards sh_best_cards (fun cdv A outer s H E hr G hG => dv_best_cards b_tuple ok_in_all (by decide) g_in_all F_in_all.kp B_in_all ok_may_play (by decide) g_may_play F_may_play.kp B_may_play ok_turn_of (by decide) g_turn_of F_turn_of.kp B_turn_of cdv A outer s H E hr G hG) rd_best_cards
  have ok_law_same_z : FnOk l.prog w K mg base CX0 1 f_law_same _ ["got", "due"] (spL K spNo) := no_ok F_law_same sc_law_same
  have ok_law_same_0 : FnOk l.prog w K mg base CX0 2 f_law_same _ ["got", "due"] (spL K (spSame 0)) := fn_okD F_law_same sc_law_same (sh_law_same 0) (fun cdv A outer s H E hr G hG => dv_law_same b_isinstance b_int b_bool b_str b_tuple b_zip b_all b_len ok_law_same_z (by decide) g_law_same F_law_same.kp B_law_same cdv A outer s H E hr G hG) (rd_law_same 0 spNo (fun m e => nomatch e))
  have ok_law_same_1 : FnOk l.prog w K mg base CX0 3 f_law_same _ ["got", "due"] (spL K (spSame 1)) := fn_okD F_law_same sc_law_same (sh_law_same 1) (fun cdv A outer s H E hr G hG => dv_law_same b_isinstance b_int b_bool b_str b_tuple b_zip b_all b_len ok_law_same_0 (by decide) g_law_same F_law_same.kp B_law_same cdv A outer s H E hr G hG) (rd_law_same 1 (spSame 0) (fun m e => by cases e; rfl))
  have ok_law_same_2 : FnOk l.prog w K mg base CX0 4 f_law_same _ ["got", "due"] (spL K (spSame 2)) := fn_okD F_law_same sc_law_same (sh_law_same 2) (fun cdv A outer s H E hr G hG => dv_law_same b_isinstance b_int b_bool b_str b_tuple b_zip b_all b_len ok_law_same_1 (by decide) g_law_same F_law_same.kp B_law_same cdv A outer s H E hr G hG) (rd_law_same 2 (spSame 1) (fun m e => by cases e; rfl))
  have ok_law_same_3 : FnOk l.prog w K mg base CX0 5 f_law_same _ ["got", "due"] (spL K (spSame 3)) := fn_okD F_law_same sc_law_same (sh_law_same 3) (fun cdv A outer s H E hr G hG => dv_law_same b_isinstance b_int b_bool b_str b_tuple b_zip b_all b_len ok_law_same_2 (by decide) g_law_same F_law_same.kp B_law_same cdv A outer s H E hr G hG) (rd_law_same 3 (spSame 2) (fun m e => by cases e; rfl))
  have ok_law_same : FnOk l.prog w K mg base CX0 6 f_law_same _ ["got", "due"] (spL K (spSame 4)) := fn_okD F_law_same sc_law_same (sh_law_same 4) (fun cdv A outer s H E hr G hG => dv_law_same b_isinstance b_int b_bool b_str b_tuple b_zip b_all b_len ok_law_same_3 (by decide) g_law_same F_law_same.kp B_law_same cdv A outer s H E hr G hG) (rd_law_same 4 (spSame 3) (fun m e => by cases e; rfl))
  have ok_best_tricks : FnOk l.prog w K mg base CX0 16 f_best_tricks _ ["deal", "strain", "leader", "cards"] (spL K spBestT) := fn_okD F_best_tricks sc_best_tricks sh_best_tricks (fun cdv A outer s H E hr G hG => dv_best_tricks ok_in_all (by decide) g_in_all F_in_all.kp B_in_all cdv A outer s H E hr G hG) rd_best_tricks
  have ok_law_best_holds : FnOk l.prog w K mg base CX0 17 f_law_best_holds _ ["deal", "strain", "leader", "cards", "other"] (spL K spBestH) := fn_okD F_law_best_holds sc_law_best_holds sh_law_best_holds (fun cdv A outer s H E hr G hG => dv_law_best_holds b_sorted b_tuple b_len ok_best_cards (by decide) g_best_cards F_best_cards.kp B_best_cards ok_law_same (by decide) g_law_same F_law_same.kp B_law_same ok_best_tricks (by decide) g_best_tricks F_best_tricks.kp B_best_tricks cdv A outer s H E hr G hG) rd_law_best_holds_k15
  have ok_tricks_of : FnOk l.prog w K mg base CX0 3 f_tricks_of _ ["strain", "leader", "cards"] (spL K spTricks) := fn_okD F_tricks_of sc_tricks_of sh_tricks_of (fun cdv A outer s H E hr G hG => dv_tricks_of ok_walked (by decide) g_walked F_walked.kp B_walked cdv A outer s H E hr G hG) rd_tricks_of
  have ok_law_turned : FnOk l.prog w K mg base CX0 1 f_law_turned _ ["deal", "order", "turn"] (spL K spTurned) := fn_okD F_law_turned sc_law_turned sh_law_turned (fun cdv A outer s H E hr G hG => dv_law_turned b_range b_tuple b_sorted cdv A outer s H E hr G hG) rd_law_turned_k15
  have ok_play_fault : FnOk l.prog w K mg base CX0 5 f_play_fault _ ["deal", "strain", "leader", "cards"] (spL K spPF) := fn_okD F_play_fault sc_play_fault sh_play_fault (fun cdv A outer s H E hr G hG => dv_play_fault b_enumerate b_isinstance b_tuple b_int b_bool b_all ok_may_play (by decide) g_may_play F_may_play.kp B_may_play ok_left_of (by decide) g_left_of F_left_of.kp B_left_of ok_turn_of (by decide) g_turn_of F_turn_of.kp B_turn_of cdv A outer s H E hr G hG) rd_play_fault
  have ok_law_draw : FnOk l.prog w K mg base CX0 1 f_law_draw _ ["script", "town", "many"] (spL K spDraw) := fn_okD F_law_draw sc_law_draw sh_law_draw (fun cdv A outer s H E hr G hG => dv_law_draw b_len b_abs b_max cdv A outer s H E hr G hG) rd_law_draw
  have ok_law_mixed : FnOk l.prog w K mg base CX0 2 f_law_mixed _ ["script", "town", "things"] (spL K spMixed) := fn_okD F_law_mixed sc_law_mixed sh_law_mixed (fun cdv A outer s H E hr G hG => dv_law_mixed b_len b_list ok_law_draw (by decide) g_law_draw F_law_draw.kp B_law_draw cdv A outer s H E hr G hG) rd_law_mixed
  have ok_law_trick_won : FnOk l.prog w K mg base CX0 1 f_law_trick_won _ ["strain", "leader", "trick"] (spL K spLWon) := fn_okD F_law_trick_won sc_law_trick_won sh_law_trick_won (fun cdv A outer s H E hr G hG => dv_law_trick_won b_max cdv A outer s H E hr G hG) rd_law_trick_won
  have ok_law_walk : FnOk l.prog w K mg base CX0 2 f_law_walk _ ["strain", "leader", "cards"] (spL K spLWalk) := fn_okD F_law_walk sc_law_walk sh_law_walk (fun cdv A outer s H E hr G hG => dv_law_walk b_tuple b_len ok_law_trick_won (by decide) g_law_trick_won F_law_trick_won.kp B_law_trick_won cdv A outer s H E hr G hG) rd_law_walk
  have ok_law_may_play : FnOk l.prog w K mg base CX0 3 f_law_may_play _ ["deal", "strain", "leader", "cards"] (spL K spLMayP) := fn_okD F_law_may_play sc_law_may_play sh_law_may_play (fun cdv A outer s H E hr G hG => dv_law_may_play b_tuple b_len ok_law_walk (by decide) g_law_walk F_law_walk.kp B_law_walk cdv A outer s H E hr G hG) rd_law_may_play
  have ok_law_pick : FnOk l.prog w K mg base CX0 2 f_law_pick _ ["script", "town", "some"] (spL K spPick) := fn_okD F_law_pick sc_law_pick sh_law_pick (fun cdv A outer s H E hr G hG => dv_law_pick b_len ok_law_draw (by decide) g_law_draw F_law_draw.kp B_law_draw cdv A outer s H E hr G hG) rd_law_pick
  have ok_law_drawn_cards : FnOk l.prog w K mg base CX0 4 f_law_drawn_cards _ ["script", "town", "deal", "strain", "leader", "most"] (spL K spDrawnQ) := fn_okD F_law_drawn_cards sc_law_drawn_cards sh_law_drawn_q (fun cdv A outer s H E hr G hG => dv_law_drawn_cards b_len b_min b_range ok_law_may_play (by decide) g_law_may_play F_law_may_play.kp B_law_may_play ok_law_pick (by decide) g_law_pick F_law_pick.kp B_law_pick cdv A outer s H E hr G hG) rd_law_drawn_q
  have ok_law_all_cards : FnOk l.prog w K mg base CX0 1 f_law_all_cards _ ["ranks"] (spL K spAllC) := fn_okD F_law_all_cards sc_law_all_cards sh_law_all_cards (fun cdv A outer s H E hr G hG => dv_law_all_cards b_range cdv A outer s H E hr G hG) rd_law_all_cards
  have ok_law_drawn_deal : FnOk l.prog w K mg base CX0 3 f_law_drawn_deal _ ["script", "town", "ranks"] (spL K spDeal) := fn_okD F_law_drawn_deal sc_law_drawn_deal sh_law_drawn_deal (fun cdv A outer s H E hr G hG => dv_law_drawn_deal b_range b_sorted b_tuple ok_law_all_cards (by decide) g_law_all_cards F_law_all_cards.kp B_law_all_cards ok_law_mixed (by decide) g_law_mixed F_law_mixed.kp B_law_mixed cdv A outer s H E hr G hG) rd_law_drawn_deal
  have ok_law : FnOk l.prog w K mg base CX0 18 _ _ ["script"] (spL K spLaw) := fn_okD F_law sc_law sh_law (fun cdv A outer s H E hr G hG => dv_law b_range b_sorted b_tuple b_max ok_law_best_holds (by decide) g_law_best_holds F_law_best_holds.kp B_law_best_holds ok_tricks_of (by decide) g_tricks_of F_tricks_of.kp B_tricks_of ok_law_same (by decide) g_law_same F_law_same.kp B_law_same ok_law_turned (by decide) g_law_turned F_law_turned.kp B_law_turned ok_left_of (by decide) g_left_of F_left_of.kp B_left_of ok_may_play (by decide) g_may_play F_may_play.kp B_may_play ok_turn_of (by decide) g_turn_of F_turn_of.kp B_turn_of ok_play_fault (by decide) g_play_fault F_play_fault.kp B_play_fault ok_law_mixed (by decide) g_law_mixed F_law_mixed.kp B_law_mixed ok_law_draw (by decide) g_law_draw F_law_draw.kp B_law_draw ok_law_drawn_cards (by decide) g_law_drawn_cards F_law_drawn_cards.kp B_law_drawn_cards ok_law_drawn_deal (by decide) g_law_drawn_deal F_law_drawn_deal.kp B_law_drawn_deal ok_law_pick (by decide) g_law_pick F_law_pick.kp B_law_pick cdv A outer s H E hr G hG) rd_law_k15
  exact ok_law
end LW
open PySem PySem.W PyProof.Rows
set_option maxHeartbeats 0 in
theorem PySem.Challenge.cw_boardcalls_k15_whole_suits_exchanged_holds : PySem.Challenge.rw_boardcalls_k15_whole_suits_exchanged.Holds := by
  w_on; o_law; k_head; (case hw => w_witness2)
  k_fill
  refine DL.law_walk (l := PySem.Challenge.rw_boardcalls_k15_whole_suits_exchanged) (n := 63) (k := 18) (x := "script") (sp := DL.spLaw) rfl (by decide) rfl ⟨rfl, by decide, by decide⟩ (fun w h Y => PySem.W.kIn_of Y) ?F (fun ns Q hl _ q => ⟨ns, rfl, hl, q⟩)
  case F =>
    intro w mg fa h KX G hmg
    refine' LW.all_mk KX G hmg ?a_left_of ?l_left_of ?c_left_of ?k_left_of ?a_follow ?l_follow ?c_follow ?k_follow ?a_winner_of ?l_winner_of ?c_winner_of ?k_winner_of ?a_without ?l_without ?c_without ?k_without ?a_later ?l_later ?c_later ?k_later ?a_walked ?l_walked ?c_walked ?k_walked ?a_in_all ?l_in_all ?c_in_all ?k_in_all ?a_turn_of ?l_turn_of ?c_turn_of ?k_turn_of ?a_may_play ?l_may_play ?c_may_play ?k_may_play ?a_best_cards ?l_best_cards ?c_best_cards ?k_best_cards ?a_law_same ?l_law_same ?c_law_same ?k_law_same ?a_best_tricks ?l_best_tricks ?c_best_tricks ?k_best_tricks ?a_law_best_holds ?l_law_best_holds ?c_law_best_holds ?k_law_best_holds ?a_tricks_of ?l_tricks_of ?c_tricks_of ?k_tricks_of ?a_law_turned ?l_law_turned ?c_law_turned ?k_law_turned ?a_play_fault ?l_play_fault ?c_play_fault ?k_play_fault ?a_law_draw ?l_law_draw ?c_law_draw ?k_law_draw ?a_law_mixed ?l_law_mixed ?c_law_mixed ?k_law_mixed ?a_law_trick_won ?l_law_trick_won ?c_law_trick_won ?k_law_trick_won ?a_law_walk ?l_law_walk ?c_law_walk ?k_law_walk ?a_law_may_play ?l_law_may_play ?c_law_may_play ?k_law_may_play ?a_law_pick ?l_law_pick ?c_law_pick ?k_law_pick ?a_law_drawn_cards ?l_law_drawn_cards ?c_law_drawn_cards ?k_law_drawn_cards ?a_law_all_cards ?l_law_all_cards ?c_law_all_cards ?k_law_all_cards ?a_law_drawn_deal ?l_law_drawn_deal ?c_law_drawn_deal ?k_law_drawn_deal ?a_law ?l_law ?c_law ?k_law ?z_tuple ?z_range ?z_max ?z_min ?z_len ?z_int ?z_isinstance ?z_bool ?z_str ?z_zip ?z_all ?z_sorted ?z_enumerate ?z_abs ?z_list
    (case a_left_of => k_is); (case l_left_of => k_is); (case c_left_of => k_is); (case k_left_of => k_is); (case a_follow => k_is); (case l_follow => k_is); (case c_follow => k_is); (case k_follow => k_is); (case a_winner_of => k_is); (case l_winner_of => k_is); (case c_winner_of => k_is); (case k_winner_of => k_is); (case a_without => k_is); (case l_without => k_is); (case c_without => k_is); (case k_without => k_is); (case a_later => k_is); (case l_later => k_is); (case c_later => k_is); (case k_later => k_is); (case a_walked => k_is); (case l_walked => k_is); (case c_walked => k_is); (case k_walked => k_is); (case a_in_all => k_is); (case l_in_all => k_is); (case c_in_all => k_is); (case k_in_all => k_is); (case a_turn_of => k_is); (case l_turn_of => k_is); (case c_turn_of => k_is); (case k_turn_of => k_is); (case a_may_play => k_is); (case l_may_play => k_is); (case c_may_play => k_is); (case k_may_play => k_is); (case a_best_cards => k_is); (case l_best_cards => k_is); (case c_best_cards => k_is); (case k_best_cards => k_is); (case a_law_same => k_is); (case l_law_same => k_is); (case c_law_same => k_is); (case k_law_same => k_is); (case a_best_tricks => k_is); (case l_best_tricks => k_is); (case c_best_tricks => k_is); (case k_best_tricks => k_is); (case a_law_best_holds => k_is); (case l_law_best_holds => k_is); (case c_law_best_holds => k_is); (case k_law_best_holds => k_is); (case a_tricks_of => k_is); (case l_tricks_of => k_is); (case c_tricks_of => k_is); (case k_tricks_of => k_is); (case a_law_turned => k_is); (case l_law_turned => k_is); (case c_law_turned => k_is); (case k_law_turned => k_is); (case a_play_fault => k_is); (case l_play_fault => k_is); (case c_play_fault => k_is); (case k_play_fault => k_is); (case a_law_draw => k_is); (case l_law_draw => k_is); (case c_law_draw => k_is); (case k_law_draw => k_is); (case a_law_mixed => k_is); (case l_law_mixed => k_is); (case c_law_mixed => k_is); (case k_law_mixed => k_is); (case a_law_trick_won => k_is); (case l_law_trick_won => k_is); (case c_law_trick_won => k_is); (case k_law_trick_won => k_is); (case a_law_walk => k_is); (case l_law_walk => k_is); (case c_law_walk => k_is); (case k_law_walk => k_is); (case a_law_may_play => k_is); (case l_law_may_play => k_is); (case c_law_may_play => k_is); (case k_law_may_play => k_is); (case a_law_pick => k_is); (case l_law_pick => k_is); (case c_law_pick => k_is); (case k_law_pick => k_is); (case a_law_drawn_cards => k_is); (case l_law_drawn_cards => k_is); (case c_law_drawn_cards => k_is); (case k_law_drawn_cards => k_is); (case a_law_all_cards => k_is); (case l_law_all_cards => k_is); (case c_law_all_cards => k_is); (case k_law_all_cards => k_is); (case a_law_drawn_deal => k_is); (case l_law_drawn_deal => k_is); (case c_law_drawn_deal => k_is); (case k_law_drawn_deal => k_is); (case a_law => k_is); (case l_law => k_is); (case c_law => k_is); (case k_law => k_is); (case z_tuple => k_is); (case z_range => k_is); (case z_max => k_is); (case z_min => k_is); (case z_len => k_is); (case z_int => k_is); (case z_isinstance => k_is); (case z_bool => k_is); (case z_str => k_is); (case z_zip => k_is); (case z_all => k_is); (case z_sorted => k_is); (case z_enumerate => k_is); (case z_abs => k_is); (case z_list => k_is)
